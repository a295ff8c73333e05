import PyProof.Rows.All
import Wide.All
import OpenK.AllK
import Wide.FinOn
import HandS.ForMost
import HandS.Wide
import HandS.IsInst
import HandS.Flow
import HandS.More
import HandS.Style
import HandS.WordsExc
import HandS.HotCalls
import HandS.ExcField
import HandS.ExcIs
import HandS.HeadHook1
import KE.DataFind
import KE.KExcSuper
import HandS.Nested
import HandS.ExcInit
import HandS.ExcOwn
import KE.KStateDown
import HandS.Defaults
import HandS.Head0
import HandS.Head1
import HandS.Head2
import HandS.HeadEnd
import HandS.HeadHook2
import HandS.Deep
import HandS.TryMany
import HandS.TryOnly
import HandS.MakeKw
import HandS.Property
import HandS.MakeKwOnly
import PyProof.P3In
import PySem.Challenge.RW_clockverdict_k34_steer_once
section
set_option Elab.async false
set_option linter.all false
set_option maxRecDepth 100000
set_option maxHeartbeats 4000000
/-! data and how it lies in the heap; slots of a def; judgements over slots alone -/
namespace DL
open PySem L2

inductive D where
  | non | bl (b : Bool) | int (i : Int) | str (x : Str) | lst (xs : List D) | tup (xs : List D) | dic (kvs : List (Key × D)) | ins (nm : Str) (fs : List (Str × D))

def Ex (H H' : Hp) : Prop := ∀ a o, H a = some o → H' a = some o
theorem Ex.refl (H : Hp) : Ex H H := fun _ _ h => h
theorem Ex.trans {H H1 H2 : Hp} (a : Ex H H1) (b : Ex H1 H2) : Ex H H2 := fun x o h => b x o (a x o h)
theorem Ex.new {H : Hp} {p : Addr} {o : HO} (h : H p = none) : Ex H (upd H p o) := fun a u e => by
  rw [upd_ne (ne_of_none e h)]; exact e
theorem Ex.back {H H' : Hp} {p : Addr} (e : Ex H H') (h : H' p = none) : H p = none := by
  cases h1 : H p with
  | none => rfl
  | some o => rw [e p o h1] at h; cases h
theorem Ex.ne {H H' : Hp} {p : Addr} (e : Ex H H') (h : H p ≠ none) : H' p ≠ none := fun z => h (e.back z)
theorem ex_rd {H H' : Hp} {a : Addr} {u : HO} (e : Ex H H') (h : Rd H a u) : Rd H' a u := by
  rcases h with h | ⟨o, h⟩
  · exact .inl (e a _ h)
  · exact .inr ⟨o, e a _ h⟩
theorem ex_l {K : PySem.W.Frag} {H H' : Hp} {a : Addr} {xs : List V} (e : Ex H H') (h : SqL K H a xs) : SqL K H' a xs := h.imp (ex_rd e) id
theorem ex_t {K : PySem.W.Frag} {H H' : Hp} {a : Addr} {xs : List V} (e : Ex H H') (h : SqT K H a xs) : SqT K H' a xs := h.imp (ex_rd e) id

/-- facts of an own class: plain attributes, no built-in kind -/
structure InsC (K : PySem.W.Frag) (nm : Str) : Prop where
  cl : Cls K (He.ga K nm)
  ha : PySem.W.findIn K (.ref (He.ga K nm)) "__class__" = some (some (.builtin "object.__class__"))
  hn : PySem.W.specialIn K (.builtin "object.__class__") "__get__" = some (some (.builtin "getset_descriptor.__get__"))
  ht : PySem.W.takesIn K (.builtin "object.__class__") = some true
  hm : PySem.W.mroIn K (He.ga K nm) (.type "object") = some true
  no : ∀ T ∈ (["bool", "int", "str", "list", "tuple", "dict"] : List String), PySem.W.kitOne K (.ref (He.ga K nm)) (.type T) = some false
/-- an instance's attributes are none of its class's -/
def NoFs (K : PySem.W.Frag) (nm : Str) (fs : List (Str × D)) : Prop := ∀ f ∈ fs.map (·.1), NoAttr K (He.ga K nm) f
section
variable (K : PySem.W.Frag) (R : Hp)
mutual
def Rp : D → V → Prop
  | .non, v => v = .non
  | .bl b, v => v = .bl b
  | .int i, v => v = .int i
  | .str x, v => v = .str x
  | .lst ds, v => ∃ a vs, v = .ref a ∧ R a = some (.lst vs) ∧ RpL ds vs
  | .tup ds, v => ∃ a vs, v = .ref a ∧ SqT K R a vs ∧ RpL ds vs
  | .dic kvs, v => ∃ a ws, v = .ref a ∧ R a = some (.dK ws) ∧ RpK kvs ws
  | .ins nm fs, v => ∃ a dx ws, v = .ref a ∧ R a = some (.ins (He.ga K nm) dx ws) ∧ (InsC K nm ∧ NoFs K nm fs) ∧ FldOk fs ws
def RpL : List D → List V → Prop
  | [], vs => vs = []
  | d :: ds, vs => ∃ v ws, vs = v :: ws ∧ Rp d v ∧ RpL ds ws
def RpK : List (Key × D) → List (Key × V) → Prop
  | [], ws => ws = []
  | (k, d) :: r, ws => ∃ v ws', ws = (k, v) :: ws' ∧ Rp d v ∧ RpK r ws'
def FldOk : List (Str × D) → List (Str × V) → Prop
  | [], ws => ws = []
  | (k, d) :: r, ws => ∃ v ws', ws = (k, v) :: ws' ∧ Rp d v ∧ FldOk r ws'
end
end

section
variable {K : PySem.W.Frag} {R R' : Hp}
mutual
theorem Rp.mono (e : Ex R R') : ∀ (d : D) (v : V), Rp K R d v → Rp K R' d v
  | .non, _, h => h
  | .bl _, _, h => h
  | .int _, _, h => h
  | .str _, _, h => h
  | .lst ds, _, ⟨a, vs, h1, h2, h3⟩ => ⟨a, vs, h1, e a _ h2, RpL.mono e ds vs h3⟩
  | .tup ds, _, ⟨a, vs, h1, h2, h3⟩ => ⟨a, vs, h1, ex_t e h2, RpL.mono e ds vs h3⟩
  | .dic kvs, _, ⟨a, ws, h1, h2, h3⟩ => ⟨a, ws, h1, e a _ h2, RpK.mono e kvs ws h3⟩
  | .ins nm fs, _, ⟨a, dx, ws, h1, h2, h3, h4⟩ => ⟨a, dx, ws, h1, e a _ h2, h3, FldOk.mono e h4⟩
theorem RpL.mono (e : Ex R R') : ∀ (ds : List D) (vs : List V), RpL K R ds vs → RpL K R' ds vs
  | [], _, h => h
  | d :: ds, _, ⟨v, ws, h1, h2, h3⟩ => ⟨v, ws, h1, Rp.mono e d v h2, RpL.mono e ds ws h3⟩
theorem RpK.mono (e : Ex R R') : ∀ (ds : List (Key × D)) (vs : List (Key × V)), RpK K R ds vs → RpK K R' ds vs
  | [], _, h => h
  | (_, d) :: ds, _, ⟨v, ws, h1, h2, h3⟩ => ⟨v, ws, h1, Rp.mono e d v h2, RpK.mono e ds ws h3⟩
theorem FldOk.mono (e : Ex R R') : ∀ {fs : List (Str × D)} {ws : List (Str × V)}, FldOk K R fs ws → FldOk K R' fs ws
  | [], _, h => h
  | (_, d) :: ds, _, ⟨v, ws, h1, h2, h3⟩ => ⟨v, ws, h1, Rp.mono e d v h2, FldOk.mono e h3⟩
end
theorem RpL.length : ∀ {ds : List D} {vs : List V}, RpL K R ds vs → ds.length = vs.length
  | [], _, h => by cases (show _ = _ from h); rfl
  | d :: ds, _, ⟨v, ws, h1, h2, h3⟩ => by subst h1; simp [RpL.length h3]
theorem RpL.get : ∀ {ds : List D} {vs : List V} {i : Nat} {d : D}, RpL K R ds vs → ds[i]? = some d → ∃ v, vs[i]? = some v ∧ Rp K R d v
  | [], _, i, _, h, e => by simp at e
  | d :: ds, _, 0, x, ⟨v, ws, h1, h2, h3⟩, e => by
    subst h1; simp at e; subst e; exact ⟨v, rfl, h2⟩
  | d :: ds, _, i + 1, x, ⟨v, ws, h1, h2, h3⟩, e => by
    subst h1
    obtain ⟨u, a, b⟩ := RpL.get (i := i) h3 (by simpa using e)
    exact ⟨u, by simpa using a, b⟩
theorem RpL.get' : ∀ {ds : List D} {vs : List V} {i : Nat} {v : V}, RpL K R ds vs → vs[i]? = some v → ∃ d, ds[i]? = some d ∧ Rp K R d v
  | [], _, i, _, h, e => by cases (show _ = _ from h); simp at e
  | d :: ds, _, 0, x, ⟨v, ws, h1, h2, h3⟩, e => by
    subst h1; simp at e; subst e; exact ⟨d, rfl, h2⟩
  | d :: ds, _, i + 1, x, ⟨v, ws, h1, h2, h3⟩, e => by
    subst h1
    obtain ⟨u, a, b⟩ := RpL.get' (i := i) h3 (by simpa using e)
    exact ⟨u, by simpa using a, b⟩
theorem RpL.append : ∀ {ds es : List D} {vs ws : List V}, RpL K R ds vs → RpL K R es ws → RpL K R (ds ++ es) (vs ++ ws)
  | [], _, _, _, h, h' => by cases (show _ = _ from h); exact h'
  | d :: ds, _, _, _, ⟨v, ws, h1, h2, h3⟩, h' => by subst h1; exact ⟨v, _, rfl, h2, RpL.append h3 h'⟩
theorem RpL.take : ∀ {ds : List D} {vs : List V} (n : Nat), RpL K R ds vs → RpL K R (ds.take n) (vs.take n)
  | [], _, n, h => by cases (show _ = _ from h); simp [RpL]
  | d :: ds, _, 0, h => by simp [RpL]
  | d :: ds, _, n + 1, ⟨v, ws, h1, h2, h3⟩ => by subst h1; exact ⟨v, _, rfl, h2, RpL.take n h3⟩
theorem RpL.drop : ∀ {ds : List D} {vs : List V} (n : Nat), RpL K R ds vs → RpL K R (ds.drop n) (vs.drop n)
  | [], _, n, h => by cases (show _ = _ from h); simp [RpL]
  | d :: ds, _, 0, h => h
  | d :: ds, _, n + 1, ⟨v, ws, h1, h2, h3⟩ => by subst h1; exact RpL.drop n h3
theorem RpL.set : ∀ {ds : List D} {vs : List V} (n : Nat) {d : D} {v : V}, RpL K R ds vs → Rp K R d v → RpL K R (ds.set n d) (vs.set n v)
  | [], _, n, _, _, h, _ => by cases (show _ = _ from h); simp [RpL]
  | d :: ds, _, 0, _, _, ⟨v, ws, h1, h2, h3⟩, h' => by subst h1; exact ⟨_, _, rfl, h', h3⟩
  | d :: ds, _, n + 1, _, _, ⟨v, ws, h1, h2, h3⟩, h' => by subst h1; exact ⟨v, _, rfl, h2, RpL.set n h3 h'⟩
theorem RpL.erase : ∀ {ds : List D} {vs : List V} (n : Nat), RpL K R ds vs → RpL K R (ds.eraseIdx n) (vs.eraseIdx n)
  | [], _, n, h => by cases (show _ = _ from h); simp [RpL]
  | d :: ds, _, 0, ⟨v, ws, h1, h2, h3⟩ => by subst h1; exact h3
  | d :: ds, _, n + 1, ⟨v, ws, h1, h2, h3⟩ => by subst h1; exact ⟨v, _, rfl, h2, RpL.erase n h3⟩
theorem RpL.one {d : D} {v : V} (h : Rp K R d v) : RpL K R [d] [v] := ⟨v, [], rfl, h, rfl⟩
theorem RpL.nil : RpL K R [] [] := rfl
theorem RpL.cons {d : D} {v : V} {ds : List D} {vs : List V} (h : Rp K R d v) (t : RpL K R ds vs) : RpL K R (d :: ds) (v :: vs) := ⟨v, vs, rfl, h, t⟩
theorem RpL.dropLast {ds : List D} {vs : List V} (h : RpL K R ds vs) : RpL K R ds.dropLast vs.dropLast := by
  rw [List.dropLast_eq_take, List.dropLast_eq_take, h.length]; exact h.take _
theorem RpL.reverse : ∀ {ds : List D} {vs : List V}, RpL K R ds vs → RpL K R ds.reverse vs.reverse
  | [], _, h => by cases (show _ = _ from h); simp [RpL]
  | d :: ds, _, ⟨v, ws, h1, h2, h3⟩ => by subst h1; simp only [List.reverse_cons]; exact (RpL.reverse h3).append (.one h2)
theorem RpL.ints : ∀ {ns : List Int}, RpL K R (ns.map D.int) (ns.map V.int)
  | [] => rfl
  | n :: ns => ⟨_, _, rfl, rfl, RpL.ints⟩
end

/-! ### owned objects, slots -/
/-- a draw's store: whole and in its bounds; what it holds is left open -/
def StoreB (ns : List Int) (place great st left cnt : Int) : Prop :=
  ns.length ≤ 63 ∧ (0 ≤ place ∧ place ≤ ns.length) ∧ 0 ≤ great ∧ (0 ≤ st ∧ st < 1000000007) ∧ (0 ≤ left ∧ left ≤ 3) ∧ 0 ≤ cnt
/-- what a store holds -/
def stoD (ns : List Int) (place great st left cnt : Int) : List D := [.lst (ns.map D.int), .int place, .int great, .int st, .int left, .int cnt]
def StoreOk (K : PySem.W.Frag) (R H : Hp) (s : Addr) : Prop :=
  ∃ (ns : List Int) (place great st left cnt : Int), StoreB ns place great st left cnt ∧ ∃ vs, H s = some (.lst vs) ∧ RpL K R (stoD ns place great st left cnt) vs
inductive OB where
  | lst (xs : List D) | sto | dic (kvs : List (Key × D)) | ins (nm : Str) (fs : List (Str × D))
def OBOk (K : PySem.W.Frag) (R H : Hp) (a : Addr) : OB → Prop
  | .lst ds => ∃ vs, H a = some (.lst vs) ∧ RpL K R ds vs
  | .sto => StoreOk K R H a
  | .dic kvs => ∃ ws, H a = some (.dK ws) ∧ RpK K R kvs ws
  | .ins nm fs => ∃ dx ws, H a = some (.ins (He.ga K nm) dx ws) ∧ (InsC K nm ∧ NoFs K nm fs) ∧ FldOk K R fs ws
theorem OBOk.mono {K : PySem.W.Frag} {R R' H H' : Hp} {a : Addr} (e : Ex R R') (k : ∀ o, H a = some o → H' a = some o) : ∀ {o : OB}, OBOk K R H a o → OBOk K R' H' a o
  | .lst _, ⟨vs, h1, h2⟩ => ⟨vs, k _ h1, h2.mono e⟩
  | .sto, ⟨ns, p, g, st, l, n, h1, vs, h2, h3⟩ => ⟨ns, p, g, st, l, n, h1, vs, k _ h2, h3.mono e⟩
  | .dic _, ⟨vs, h1, h2⟩ => ⟨vs, k _ h1, h2.mono e⟩
  | .ins _ _, ⟨dx, ws, h1, h2, h3⟩ => ⟨dx, ws, k _ h1, h2, h3.mono e⟩
theorem OBOk.there {K : PySem.W.Frag} {R H : Hp} {a : Addr} : ∀ {o : OB}, OBOk K R H a o → H a ≠ none
  | .lst _, ⟨vs, h1, _⟩ => by rw [h1]; simp
  | .sto, ⟨ns, p, g, st, l, n, h1, vs, h2, _⟩ => by rw [h2]; simp
  | .dic _, ⟨vs, h1, _⟩ => by rw [h1]; simp
  | .ins _ _, ⟨dx, ws, h1, _⟩ => by rw [h1]; simp

/-- read-only: data of the frozen part, or a list, a dict that stands in the heap and whose things are frozen -/
def WOk (K : PySem.W.Frag) (M : Addr → Prop) (R H : Hp) (x : D) (v : V) : Prop :=
  Rp K R x v ∨ (∃ a vs ds, v = .ref a ∧ x = .lst ds ∧ ¬ M a ∧ H a = some (.lst vs) ∧ RpL K R ds vs) ∨ (∃ a ws kvs, v = .ref a ∧ x = .dic kvs ∧ ¬ M a ∧ H a = some (.dK ws) ∧ RpK K R kvs ws) ∨ (∃ a dx ws nm fs, v = .ref a ∧ x = .ins nm fs ∧ ¬ M a ∧ H a = some (.ins (He.ga K nm) dx ws) ∧ (InsC K nm ∧ NoFs K nm fs) ∧ FldOk K R fs ws)
theorem WOk.mono {K : PySem.W.Frag} {M : Addr → Prop} {R R' H H' : Hp} {x : D} {v : V} (e : Ex R R') (k : ∀ a o, ¬ M a → H a = some o → H' a = some o) : WOk K M R H x v → WOk K M R' H' x v
  | .inl h => .inl (h.mono e)
  | .inr (.inl ⟨a, vs, ds, h1, h2, h3, h4, h5⟩) => .inr (.inl ⟨a, vs, ds, h1, h2, h3, k a _ h3 h4, h5.mono e⟩)
  | .inr (.inr (.inl ⟨a, vs, ds, h1, h2, h3, h4, h5⟩)) => .inr (.inr (.inl ⟨a, vs, ds, h1, h2, h3, k a _ h3 h4, h5.mono e⟩))
  | .inr (.inr (.inr ⟨a, dx, ws, nm, fs, h1, h2, h3, h4, h5, h6⟩)) => .inr (.inr (.inr ⟨a, dx, ws, nm, fs, h1, h2, h3, k a _ h3 h4, h5, h6.mono e⟩))
theorem WOk.noM {K : PySem.W.Frag} {M M' : Addr → Prop} {R H : Hp} {x : D} {v : V} (k : ∀ a o, H a = some o → ¬ M a → ¬ M' a) : WOk K M R H x v → WOk K M' R H x v
  | .inl h => .inl h
  | .inr (.inl ⟨a, vs, ds, h1, h2, h3, h4, h5⟩) => .inr (.inl ⟨a, vs, ds, h1, h2, k a _ h4 h3, h4, h5⟩)
  | .inr (.inr (.inl ⟨a, vs, ds, h1, h2, h3, h4, h5⟩)) => .inr (.inr (.inl ⟨a, vs, ds, h1, h2, k a _ h4 h3, h4, h5⟩))
  | .inr (.inr (.inr ⟨a, dx, ws, nm, fs, h1, h2, h3, h4, h5, h6⟩)) => .inr (.inr (.inr ⟨a, dx, ws, nm, fs, h1, h2, k a _ h4 h3, h4, h5, h6⟩))
/-- an exception's dict, frozen -/
def XfOk (K : PySem.W.Frag) (R : Hp) (d : Option Addr) (fs : List (Str × D)) : Prop := (d = none ∧ fs = []) ∨ ∃ dd vs, d = some dd ∧ R dd = some (.xd vs) ∧ FldOk K R fs vs
theorem XfOk.mono {K : PySem.W.Frag} {R R' : Hp} {d : Option Addr} {fs : List (Str × D)} (e : Ex R R') : XfOk K R d fs → XfOk K R' d fs
  | .inl h => .inl h
  | .inr ⟨dd, vs, h1, h2, h3⟩ => .inr ⟨dd, vs, h1, e _ _ h2, h3.mono e⟩
inductive Slot where
  | no | any | d (x : D) | w (x : D) | own (o : OB) | sc (ns : List Int) | ex (a : Addr) (d : Option Addr) (fs : List (Str × D))

structure Cc where
  R0 : Hp
  H0 : Hp
  M : Addr → Prop
  oi : List (Nat × Addr)
  /-- what is wanted of an exception: its class, its fields, the slots -/
  xw : Addr → List (Str × D) → List Slot → Prop

def SlotOk (K : PySem.W.Frag) (c : Cc) (R H : Hp) : Slot → Option V → Prop
  | .no, o => o = none
  | .any, _ => True
  | .d x, o => ∃ v, o = some v ∧ Rp K R x v
  | .w x, o => ∃ v, o = some v ∧ WOk K (fun a => c.H0 a = none ∨ c.M a) R H x v
  | .own ob, o => ∃ a, o = some (.ref a) ∧ OBOk K R H a ob ∧ R a = none ∧ (c.H0 a = none ∨ c.M a)
  | .sc ns, o => ∃ a, o = some (.ref a) ∧ SqL K R a (ns.map V.int)
  | .ex a d fs, o => o = some (.ref a) ∧ XfOk K R d fs

/-- what is true of slots and heaps between two steps of a def: R the frozen part, H all -/
structure SOk (K : PySem.W.Frag) (c : Cc) (Γ : List Slot) (σ : St) (R H : Hp) : Prop where
  rh : Ex R H
  r0 : Ex c.R0 R
  hm : ∀ a o, ¬ c.M a → c.H0 a = some o → H a = some o
  pr : ∀ a, c.H0 a ≠ none → H a ≠ none
  un : ∀ a, c.H0 a ≠ none → c.R0 a = none → R a = none
  len : Γ.length = σ.length
  sl : ∀ (i : Nat) (s : Slot), Γ[i]? = some s → ∃ o, σ[i]? = some o ∧ SlotOk K c R H s o
  dj : ∀ (i j : Nat) (a : Addr) (o o' : OB), Γ[i]? = some (.own o) → Γ[j]? = some (.own o') → σ[i]? = some (some (.ref a)) → σ[j]? = some (some (.ref a)) → i = j
  oi : ∀ p ∈ c.oi, σ[p.1]? = some (some (.ref p.2)) ∧ ∃ o, Γ[p.1]? = some (.own o)
/-- a fresh thing that no slot holds yet, or data -/
inductive Res where
  | d (x : D) | own (o : OB)
def VOk (K : PySem.W.Frag) (c : Cc) (Γ : List Slot) (σ : St) (R H : Hp) : Res → V → Prop
  | .d x, v => Rp K R x v
  | .own ob, v => ∃ a, v = .ref a ∧ OBOk K R H a ob ∧ R a = none ∧ c.H0 a = none ∧ ∀ (i : Nat) (o : OB), Γ[i]? = some (.own o) → σ[i]? ≠ some (some (.ref a))

/-- a step that only adds -/
structure Grow (R H R' H' : Hp) : Prop where
  r : Ex R R'
  h : Ex H H'
  rh : Ex R' H'
  un : ∀ a, H a ≠ none → R a = none → R' a = none
section
variable {K : PySem.W.Frag} {c : Cc} {Γ : List Slot} {σ : St} {R H R' H' : Hp}
theorem SlotOk.mono (e : Ex R R') (k : ∀ a o, H a = some o → H' a = some o) (un : ∀ a, H a ≠ none → R a = none → R' a = none) : ∀ {s : Slot} {o : Option V}, SlotOk K c R H s o → SlotOk K c R' H' s o
  | .no, _, h => h
  | .any, _, h => h
  | .d _, _, ⟨v, h1, h2⟩ => ⟨v, h1, h2.mono e⟩
  | .w _, _, ⟨v, h1, h2⟩ => ⟨v, h1, h2.mono e fun a o _ => k a o⟩
  | .own ob, _, ⟨a, h1, h2, h3, h4⟩ => ⟨a, h1, h2.mono e (k a), un a h2.there h3, h4⟩
  | .sc _, _, ⟨a, h1, h2⟩ => ⟨a, h1, ex_l e h2⟩
  | .ex _ _ _, _, ⟨h1, h2⟩ => ⟨h1, h2.mono e⟩
theorem SOk.grow (s : SOk K c Γ σ R H) (g : Grow R H R' H') : SOk K c Γ σ R' H' where
  rh := g.rh
  r0 := s.r0.trans g.r
  hm := fun a o n e => g.h a o (s.hm a o n e)
  pr := fun a n => g.h.ne (s.pr a n)
  un := fun a n e => g.un a (s.pr a n) (s.un a n e)
  len := s.len
  sl := fun i x e => let ⟨o, h1, h2⟩ := s.sl i x e; ⟨o, h1, h2.mono g.r g.h g.un⟩
  dj := s.dj
  oi := s.oi
theorem Grow.refl (e : Ex R H) : Grow R H R H := ⟨Ex.refl _, Ex.refl _, e, fun _ _ h => h⟩
theorem SOk.new (s : SOk K c Γ σ R H) {p : Addr} (o : HO) (hp : H p = none) : Grow R H (upd R p o) (upd H p o) where
  r := Ex.new (s.rh.back hp)
  h := Ex.new hp
  rh := fun a u e => by
    by_cases q : a = p
    · subst q; rw [upd_same] at e ⊢; exact e
    · rw [upd_ne q] at e ⊢; exact s.rh a u e
  un := fun a n e => by
    have q : a ≠ p := fun z => n (z ▸ hp)
    rw [upd_ne q]; exact e
theorem SOk.newOwn (s : SOk K c Γ σ R H) {p : Addr} (o : HO) (hp : H p = none) : Grow R H R (upd H p o) where
  r := Ex.refl _
  h := Ex.new hp
  rh := s.rh.trans (Ex.new hp)
  un := fun _ _ e => e
theorem VOk.mono (e : Ex R R') (k : ∀ a o, H a = some o → H' a = some o) (un : ∀ a, H a ≠ none → R a = none → R' a = none) : ∀ {r : Res} {v : V}, VOk K c Γ σ R H r v → VOk K c Γ σ R' H' r v
  | .d _, _, h => Rp.mono e _ _ h
  | .own ob, _, ⟨a, h1, h2, h3, h4⟩ => ⟨a, h1, h2.mono e (k a), un a h2.there h3, h4⟩
/-- a fresh list is frozen -/
theorem SOk.freeze {p : Addr} {ds : List D} (s : SOk K c Γ σ R H) {v : V} (h : VOk K c Γ σ R H (.own (.lst ds)) v) : ∃ R', SOk K c Γ σ R' H ∧ Ex R R' ∧ Rp K R' (.lst ds) v := by
  obtain ⟨a, h1, ⟨vs, h2, h3⟩, h4, h5, h6⟩ := h
  have e : Ex R (upd R a (.lst vs)) := Ex.new h4
  refine ⟨upd R a (.lst vs), ⟨fun b o q => ?_, s.r0.trans e, s.hm, s.pr, fun b n q => ?_, s.len, fun i x q => ?_, s.dj, s.oi⟩, e, a, vs, h1, upd_same, h3.mono e⟩
  · by_cases z : b = a
    · subst z; rw [upd_same] at q; cases q; exact h2
    · rw [upd_ne z] at q; exact s.rh b o q
  · have z : b ≠ a := fun z => n (z ▸ h5)
    rw [upd_ne z]; exact s.un b n q
  · obtain ⟨o, q1, q2⟩ := s.sl i x q
    refine ⟨o, q1, ?_⟩
    cases x with
    | no => exact q2
    | any => exact q2
    | d x => obtain ⟨v, z1, z2⟩ := q2; exact ⟨v, z1, z2.mono e⟩
    | w x => obtain ⟨v, z1, z2⟩ := q2; exact ⟨v, z1, z2.mono e fun _ _ _ h => h⟩
    | own ob =>
      obtain ⟨b, z1, z2, z3, z4⟩ := q2
      have z : b ≠ a := fun z => h6 i ob q (by rw [q1, z1, z])
      exact ⟨b, z1, z2.mono e fun _ h => h, by rw [upd_ne z]; exact z3, z4⟩
    | sc ns => obtain ⟨b, z1, z2⟩ := q2; exact ⟨b, z1, ex_l e z2⟩
    | ex _ _ _ => exact ⟨q2.1, q2.2.mono e⟩
end
/-! ### exceptions -/
/-- an exception's dict -/
def XdOk (K : PySem.W.Frag) (R H H0 : Hp) (d : Option Addr) (fs : List (Str × D)) : Prop := (d = none ∧ fs = []) ∨ ∃ dd vs, d = some dd ∧ H dd = some (.xd vs) ∧ R dd = none ∧ FldOk K R fs vs ∧ H0 dd = none
def wish (K : PySem.W.Frag) (c : Cc) : WX := fun cls d σ H => ∃ (C : Addr) (fs : List (Str × D)) (Γ : List Slot) (R : Hp), cls = .ref C ∧ XdOk K R H c.H0 d fs ∧ SOk K c Γ σ R H ∧ c.xw C fs Γ
theorem takes_no {X : Cx} {c : Cc} (h : c.xw = fun _ _ _ => False) : Takes X (wish X.K c) := takes0.imp fun cls d σ H ⟨C, fs, Γ, R, _, _, _, z⟩ => by rw [h] at z; exact z
end DL

end
section
set_option Elab.async false
set_option linter.all false
set_option autoImplicit true
set_option maxRecDepth 100000
set_option maxHeartbeats 400000
namespace DL
open PySem L2
open PyProof.Rows hiding St

def isStar : Expr → Bool
  | .Starred _ _ => true
  | _ => false
theorem se_c {e : Expr} {es : List Expr} {env : Env} (h : isStar e = false) : starEach (e :: es) env = (false, eval e env) :: starEach es env := by
  cases e <;> first | rfl | cases h
theorem se_1 {a : Expr} {env : Env} (h : isStar a = false) : starEach [a] env = [(false, eval a env)] := se_c h
theorem se_2 {a b : Expr} {env : Env} (h : isStar a = false) (h2 : isStar b = false) : starEach [a, b] env = [(false, eval a env), (false, eval b env)] := by rw [se_c h, se_c h2]; rfl
theorem se_any {pos : Pos} {es : List Expr} {env : Env} (h : es.all (fun e => !isStar e) = true) : (backTo pos (starEach es env)).any (·.1) = false := by
  induction es with
  | nil => rfl
  | cons e es ih =>
    simp only [List.all_cons, Bool.and_eq_true] at h
    rw [se_c (by simpa using h.1)]
    exact ih h.2
/-- names of a def by slot; V: seen here; as: may be stored here; GN: global names used; k: room; oi: slots that hold what the caller owns -/
structure Nm where
  N : List Str
  V : List Nat
  as : List Nat
  GN : List Str
  k : Nat
  oi : List Nat
  lc : List Nat := []
  sc : Option Scope := none
  hot : Bool := false

structure NOk (X : Cx) (n : Nm) (c : Cc) : Prop where
  eq : X.N = n.N
  nd : n.N.Nodup
  vis : ∀ (i : Nat) (x : Str), n.V.contains i = true → n.N[i]? = some x → Vis X.env.scope x
  loc : ∀ (i : Nat) (x : Str), n.as.contains i = true → n.N[i]? = some x → Loc X.env.scope x ∧ (X.fn x = true ∨ X.env.scope.names.lookup x = some .local)
  dbg : ∀ (i : Nat) (x : Str), n.N[i]? = some x → (x == ("__debug__" : Str)) = false ∧ (x == ("__classdict__" : Str)) = false
  gl : ∀ (i : Nat) (x : Str), n.GN[i]? = some x → Gl X x ∧ (x == ("__debug__" : Str)) = false ∧ x ≠ ("__name__" : Str)
  kind : X.env.scope.kind = .function
  scp : ∀ s, n.sc = some s → X.env.scope = s
  calm : n.hot = false → X.calm = true
  room : L2H.RoomH n.k X.A
  po : PassesOwn (model X.prog X.w) X.A X.env X.xe
  lc : ∀ (i : Nat) (x : Str), n.lc.contains i = true → n.N[i]? = some x → X.env.scope.names.lookup x = some .local
  oi : c.oi.map (·.1) = n.oi
  cm : ∀ a, c.M a → ∃ j, (j, a) ∈ c.oi
  tk : Takes X (wish X.K c)
  fr : n.lc ≠ [] → X.stack = X.env :: X.outer ∧ X.env.frame = some X.env.locals
theorem NOk.units {X : Cx} {n : Nm} {c : Cc} (h : NOk X n c) : X.A.units + 64 < cLine := by have := h.room.un; omega


abbrev SL := List Slot
def OB.data : OB → Option D
  | .lst ds => some (.lst ds)
  | .dic kvs => some (.dic kvs)
  | .ins nm fs => some (.ins nm fs)
  | .sto => none
def Res.data : Res → Option D
  | .d x => some x
  | .own o => o.data

/-- read at this moment -/
def Wk (K : PySem.W.Frag) (R H : Hp) (x : D) (v : V) : Prop := WOk K (fun _ => False) R H x v
theorem WOk.wk {K : PySem.W.Frag} {M : Addr → Prop} {R H : Hp} {x : D} {v : V} : WOk K M R H x v → Wk K R H x v
  | .inl h => .inl h
  | .inr (.inl ⟨a, vs, ds, h1, h2, h3, h4, h5⟩) => .inr (.inl ⟨a, vs, ds, h1, h2, id, h4, h5⟩)
  | .inr (.inr (.inl ⟨a, vs, ds, h1, h2, h3, h4, h5⟩)) => .inr (.inr (.inl ⟨a, vs, ds, h1, h2, id, h4, h5⟩))
  | .inr (.inr (.inr ⟨a, dx, ws, nm, fs, h1, h2, h3, h4, h5, h6⟩)) => .inr (.inr (.inr ⟨a, dx, ws, nm, fs, h1, h2, id, h4, h5, h6⟩))
theorem Rp.wk {K : PySem.W.Frag} {R H : Hp} {x : D} {v : V} (h : Rp K R x v) : Wk K R H x v := .inl h
theorem Wk.lst {K : PySem.W.Frag} {R H : Hp} {ds : List D} {v : V} (e : Ex R H) : Wk K R H (.lst ds) v → ∃ a vs, v = .ref a ∧ H a = some (.lst vs) ∧ RpL K R ds vs
  | .inl ⟨a, vs, h1, h2, h3⟩ => ⟨a, vs, h1, e a _ h2, h3⟩
  | .inr (.inl ⟨a, vs, es, h1, h2, h3, h4, h5⟩) => by cases h2; exact ⟨a, vs, h1, h4, h5⟩
  | .inr (.inr (.inl ⟨a, vs, es, h1, h2, h3, h4, h5⟩)) => by cases h2
  | .inr (.inr (.inr ⟨a, dx, ws, nm, fs, h1, h2, _⟩)) => by cases h2
theorem Wk.tup {K : PySem.W.Frag} {R H : Hp} {ds : List D} {v : V} (e : Ex R H) : Wk K R H (.tup ds) v → ∃ a vs, v = .ref a ∧ SqT K H a vs ∧ RpL K R ds vs
  | .inl ⟨a, vs, h1, h2, h3⟩ => ⟨a, vs, h1, ex_t e h2, h3⟩
  | .inr (.inl ⟨a, vs, es, h1, h2, h3, h4, h5⟩) => by cases h2
  | .inr (.inr (.inl ⟨a, vs, es, h1, h2, h3, h4, h5⟩)) => by cases h2
  | .inr (.inr (.inr ⟨a, dx, ws, nm, fs, h1, h2, _⟩)) => by cases h2
theorem Wk.dic {K : PySem.W.Frag} {R H : Hp} {ds : List (Key × D)} {v : V} (e : Ex R H) : Wk K R H (.dic ds) v → ∃ a vs, v = .ref a ∧ H a = some (.dK vs) ∧ RpK K R ds vs
  | .inl ⟨a, vs, h1, h2, h3⟩ => ⟨a, vs, h1, e a _ h2, h3⟩
  | .inr (.inl ⟨a, vs, es, h1, h2, h3, h4, h5⟩) => by cases h2
  | .inr (.inr (.inl ⟨a, vs, es, h1, h2, h3, h4, h5⟩)) => by cases h2; exact ⟨a, vs, h1, h4, h5⟩
  | .inr (.inr (.inr ⟨a, dx, ws, nm, fs, h1, h2, _⟩)) => by cases h2
theorem Wk.ins {K : PySem.W.Frag} {R H : Hp} {nm : Str} {fs : List (Str × D)} {v : V} (e : Ex R H) : Wk K R H (.ins nm fs) v → ∃ a dx ws, v = .ref a ∧ H a = some (.ins (He.ga K nm) dx ws) ∧ (InsC K nm ∧ NoFs K nm fs) ∧ FldOk K R fs ws
  | .inl ⟨a, dx, ws, h1, h2, h3⟩ => ⟨a, dx, ws, h1, e a _ h2, h3⟩
  | .inr (.inl ⟨a, vs, es, h1, h2, h3, h4, h5⟩) => by cases h2
  | .inr (.inr (.inl ⟨a, vs, es, h1, h2, h3, h4, h5⟩)) => by cases h2
  | .inr (.inr (.inr ⟨a, dx, ws, nm, fs, h1, h2, h3, h4, h5⟩)) => by cases h2; exact ⟨a, dx, ws, h1, h4, h5⟩
theorem Wk.int {K : PySem.W.Frag} {R H : Hp} {i : Int} {v : V} : Wk K R H (.int i) v → v = .int i
  | .inl h => h
  | .inr (.inl ⟨a, vs, es, h1, h2, h3, h4, h5⟩) => by cases h2
  | .inr (.inr (.inl ⟨a, vs, es, h1, h2, h3, h4, h5⟩)) => by cases h2
  | .inr (.inr (.inr ⟨a, dx, ws, nm, fs, h1, h2, _⟩)) => by cases h2
theorem Wk.bl {K : PySem.W.Frag} {R H : Hp} {i : Bool} {v : V} : Wk K R H (.bl i) v → v = .bl i
  | .inl h => h
  | .inr (.inl ⟨a, vs, es, h1, h2, h3, h4, h5⟩) => by cases h2
  | .inr (.inr (.inl ⟨a, vs, es, h1, h2, h3, h4, h5⟩)) => by cases h2
  | .inr (.inr (.inr ⟨a, dx, ws, nm, fs, h1, h2, _⟩)) => by cases h2
theorem Wk.str {K : PySem.W.Frag} {R H : Hp} {i : Str} {v : V} : Wk K R H (.str i) v → v = .str i
  | .inl h => h
  | .inr (.inl ⟨a, vs, es, h1, h2, h3, h4, h5⟩) => by cases h2
  | .inr (.inr (.inl ⟨a, vs, es, h1, h2, h3, h4, h5⟩)) => by cases h2
  | .inr (.inr (.inr ⟨a, dx, ws, nm, fs, h1, h2, _⟩)) => by cases h2
theorem Wk.non {K : PySem.W.Frag} {R H : Hp} {v : V} : Wk K R H .non v → v = .non
  | .inl h => h
  | .inr (.inl ⟨a, vs, es, h1, h2, h3, h4, h5⟩) => by cases h2
  | .inr (.inr (.inl ⟨a, vs, es, h1, h2, h3, h4, h5⟩)) => by cases h2
  | .inr (.inr (.inr ⟨a, dx, ws, nm, fs, h1, h2, _⟩)) => by cases h2

/-! ### the weakest readings -/
section
variable (X : Cx)
def tW (e : Expr) : TE := fun σ H Q => ∀ (pins : List (Addr × Obj)) (s : Shared), Inv X pins σ H s → wpAny (model X.prog X.w) X.A (eval e X.env) (EP X pins σ Q) X.xe s
def tWT (e : Expr) : TT := fun σ H Q => ∀ (pins : List (Addr × Obj)) (s : Shared), Inv X pins σ H s → wpAny (model X.prog X.w) X.A (isTrue e X.env (eval e X.env)) (TP X pins σ Q) X.xe s
def tWW (e : Expr) : TT := fun σ H Q => ∀ (whole : Sem Value) (pins : List (Addr × Obj)) (s : Shared), Inv X pins σ H s → wpAny (model X.prog X.w) X.A (isTrue e X.env whole) (TP X pins σ Q) X.xe s
def tWA (es : List Expr) : TA := fun σ H Q => ∀ (pos : Pos) (pins : List (Addr × Obj)) (s : Shared), Inv X pins σ H s → wpAny (model X.prog X.w) X.A (spliced (backTo pos (starEach es X.env))) (AP X pins σ Q) X.xe s
def tWS (st : Stmt) : TS := fun D σ H => ∀ (pins : List (Addr × Obj)) (s : Shared), Inv X pins σ H s → wpAny (model X.prog X.w) X.A (exec st X.env) (SP X pins D) X.xe s
def tWB (sts : List Stmt) : TS := fun D σ H => ∀ (pins : List (Addr × Obj)) (s : Shared), Inv X pins σ H s → wpAny (model X.prog X.w) X.A (execs sts X.env) (SP X pins D) X.xe s
end
section
variable {X : Cx}
theorem pW {e : Expr} : PE X e (tW X e) := ⟨fun pins s _ _ _ I h => h pins s I⟩
theorem pWT {e : Expr} : PT X e (tWT X e) := ⟨fun pins s _ _ _ I h => h pins s I⟩
theorem pWW {e : Expr} : PW X e (tWW X e) := ⟨fun wh pins s _ _ _ I h => h wh pins s I⟩
theorem pWA {e : List Expr} : PA X e (tWA X e) := ⟨fun pos pins s _ _ _ I h => h pos pins s I⟩
theorem pWS {e : Stmt} : PS X e (tWS X e) := ⟨fun pins s _ _ _ I h => h pins s I⟩
theorem pWB {e : List Stmt} : PSs X e (tWB X e) := ⟨fun pins s _ _ _ I h => h pins s I⟩
theorem _root_.L2.PE.w {e : Expr} {t : TE} (h : PE X e t) {σ H Q} (q : t σ H Q) : tW X e σ H Q := fun pins s I => h.run pins s σ H Q I q
theorem _root_.L2.PT.w {e : Expr} {t : TT} (h : PT X e t) {σ H Q} (q : t σ H Q) : tWT X e σ H Q := fun pins s I => h.run pins s σ H Q I q
theorem _root_.L2.PW.w {e : Expr} {t : TT} (h : PW X e t) {σ H Q} (q : t σ H Q) : tWW X e σ H Q := fun wh pins s I => h.run wh pins s σ H Q I q
theorem _root_.L2.PA.w {e : List Expr} {t : TA} (h : PA X e t) {σ H Q} (q : t σ H Q) : tWA X e σ H Q := fun pos pins s I => h.run pos pins s σ H Q I q
theorem _root_.L2.PS.w {e : Stmt} {t : TS} (h : PS X e t) {D σ H} (q : t D σ H) : tWS X e D σ H := fun pins s I => h.run pins s σ H D I q
theorem _root_.L2.PSs.w {e : List Stmt} {t : TS} (h : PSs X e t) {D σ H} (q : t D σ H) : tWB X e D σ H := fun pins s I => h.run pins s σ H D I q
end

/-! ### judgements -/
section
variable (X : Cx) (n : Nm) (c : Cc)
structure WE (Γ : SL) (e : Expr) (Post : D → SL → Prop) : Prop where
  run : NOk X n c → ∀ σ R H, SOk X.K c Γ σ R H → ∀ Q : VK,
  (∀ v R' H' x Γ', SOk X.K c Γ' σ R' H' → Ex R R' → Rp X.K R' x v → Post x Γ' → Q v H') → tW X e σ H Q
/-- a value that is read at once: data, or what a slot holds -/
structure WV (Γ : SL) (e : Expr) (Post : D → SL → Prop) : Prop where
  run : NOk X n c → ∀ σ R H, SOk X.K c Γ σ R H → ∀ Q : VK,
  (∀ v R' H' x Γ', SOk X.K c Γ' σ R' H' → Ex R R' → Wk X.K R' H' x v → Post x Γ' → Q v H') → tW X e σ H Q
structure WO (Γ : SL) (e : Expr) (Post : OB → SL → Prop) : Prop where
  run : NOk X n c → ∀ σ R H, SOk X.K c Γ σ R H → ∀ Q : VK,
  (∀ v R' H' o Γ', SOk X.K c Γ' σ R' H' → Ex R R' → VOk X.K c Γ' σ R' H' (.own o) v → Post o Γ' → Q v H') → tW X e σ H Q
structure WT (Γ : SL) (e : Expr) (Post : Bool → SL → Prop) : Prop where
  run : NOk X n c → ∀ σ R H, SOk X.K c Γ σ R H → ∀ Q : Bool → Hp → Prop,
  (∀ R' H' b Γ', SOk X.K c Γ' σ R' H' → Ex R R' → Post b Γ' → Q b H') → tWT X e σ H Q
structure WW (Γ : SL) (e : Expr) (Post : Bool → SL → Prop) : Prop where
  run : NOk X n c → ∀ σ R H, SOk X.K c Γ σ R H → ∀ Q : Bool → Hp → Prop,
  (∀ R' H' b Γ', SOk X.K c Γ' σ R' H' → Ex R R' → Post b Γ' → Q b H') → tWW X e σ H Q
/-- d: data; v: data for a read-only parameter; s: what slot i holds, read-only; o: what slot i owns, lent -/
inductive AK where
  | d (x : D) | v (x : D) | s (i : Nat) | o (i : Nat)
def AkOk (K : PySem.W.Frag) (R : Hp) (σ : St) : AK → V → Prop
  | .d x, v => Rp K R x v
  | .v x, v => Rp K R x v
  | .s i, v => σ[i]? = some (some v)
  | .o i, v => σ[i]? = some (some v)
def AksOk (K : PySem.W.Frag) (R : Hp) (σ : St) : List AK → List V → Prop
  | [], vs => vs = []
  | k :: ks, vs => ∃ v ws, vs = v :: ws ∧ AkOk K R σ k v ∧ AksOk K R σ ks ws
structure WA (Γ : SL) (es : List Expr) (Post : List AK → SL → Prop) : Prop where
  run : NOk X n c → ∀ σ R H, SOk X.K c Γ σ R H → ∀ Q : List V → Hp → Prop,
  (∀ vs R' H' ks Γ', SOk X.K c Γ' σ R' H' → Ex R R' → AksOk X.K R' σ ks vs → Post ks Γ' → Q vs H') → tWA X es σ H Q
abbrev EV (Γ : SL) (e : Expr) (x : D) : Prop := WE X n c Γ e fun y Γ' => y = x ∧ Γ' = Γ
abbrev EVV (Γ : SL) (e : Expr) (x : D) : Prop := WV X n c Γ e fun y Γ' => y = x ∧ Γ' = Γ
abbrev EO (Γ : SL) (e : Expr) (o : OB) : Prop := WO X n c Γ e fun y Γ' => y = o ∧ Γ' = Γ
abbrev ET (Γ : SL) (e : Expr) (b : Bool) : Prop := WT X n c Γ e fun y Γ' => y = b ∧ Γ' = Γ
abbrev EW (Γ : SL) (e : Expr) (b : Bool) : Prop := WW X n c Γ e fun y Γ' => y = b ∧ Γ' = Γ
abbrev EA (Γ : SL) (es : List Expr) (ks : List AK) : Prop := WA X n c Γ es fun y Γ' => y = ks ∧ Γ' = Γ
end

section
variable {X : Cx} {n : Nm} {c : Cc} {Γ : SL} {e a b : Expr} {x y z : D}
theorem WE.mono {P P' : D → SL → Prop} (h : WE X n c Γ e P) (k : ∀ x Γ, P x Γ → P' x Γ) : WE X n c Γ e P' := .mk fun hn σ R H s Q q =>
  h.run hn σ R H s Q fun v R' H' x Γ' s' e r p => q v R' H' x Γ' s' e r (k _ _ p)
theorem WV.mono {P P' : D → SL → Prop} (h : WV X n c Γ e P) (k : ∀ x Γ, P x Γ → P' x Γ) : WV X n c Γ e P' := .mk fun hn σ R H s Q q =>
  h.run hn σ R H s Q fun v R' H' x Γ' s' e r p => q v R' H' x Γ' s' e r (k _ _ p)
theorem WO.mono {P P' : OB → SL → Prop} (h : WO X n c Γ e P) (k : ∀ x Γ, P x Γ → P' x Γ) : WO X n c Γ e P' := .mk fun hn σ R H s Q q =>
  h.run hn σ R H s Q fun v R' H' x Γ' s' e r p => q v R' H' x Γ' s' e r (k _ _ p)
theorem WT.mono {P P' : Bool → SL → Prop} (h : WT X n c Γ e P) (k : ∀ x Γ, P x Γ → P' x Γ) : WT X n c Γ e P' := .mk fun hn σ R H s Q q =>
  h.run hn σ R H s Q fun R' H' x Γ' s' e p => q R' H' x Γ' s' e (k _ _ p)
theorem WW.mono {P P' : Bool → SL → Prop} (h : WW X n c Γ e P) (k : ∀ x Γ, P x Γ → P' x Γ) : WW X n c Γ e P' := .mk fun hn σ R H s Q q =>
  h.run hn σ R H s Q fun R' H' x Γ' s' e p => q R' H' x Γ' s' e (k _ _ p)
theorem WA.mono {es : List Expr} {P P' : List AK → SL → Prop} (h : WA X n c Γ es P) (k : ∀ x Γ, P x Γ → P' x Γ) : WA X n c Γ es P' := .mk fun hn σ R H s Q q =>
  h.run hn σ R H s Q fun v R' H' x Γ' s' e r p => q v R' H' x Γ' s' e r (k _ _ p)
theorem WE.v {P : D → SL → Prop} (h : WE X n c Γ e P) : WV X n c Γ e P := .mk fun hn σ R H s Q q =>
  h.run hn σ R H s Q fun v R' H' x Γ' s' e r p => q v R' H' x Γ' s' e r.wk p
theorem we_of {P : D → SL → Prop} (h : EV X n c Γ e x) (p : P x Γ) : WE X n c Γ e P := h.mono fun y Γ' ⟨h1, h2⟩ => by subst h1 h2; exact p
theorem wv_of {P : D → SL → Prop} (h : EVV X n c Γ e x) (p : P x Γ) : WV X n c Γ e P := h.mono fun y Γ' ⟨h1, h2⟩ => by subst h1 h2; exact p
theorem wo_of {o : OB} {P : OB → SL → Prop} (h : EO X n c Γ e o) (p : P o Γ) : WO X n c Γ e P := h.mono fun y Γ' ⟨h1, h2⟩ => by subst h1 h2; exact p
theorem wt_of {o : Bool} {P : Bool → SL → Prop} (h : ET X n c Γ e o) (p : P o Γ) : WT X n c Γ e P := h.mono fun y Γ' ⟨h1, h2⟩ => by subst h1 h2; exact p
theorem ww_of {o : Bool} {P : Bool → SL → Prop} (h : EW X n c Γ e o) (p : P o Γ) : WW X n c Γ e P := h.mono fun y Γ' ⟨h1, h2⟩ => by subst h1 h2; exact p
theorem wa_of {es : List Expr} {o : List AK} {P : List AK → SL → Prop} (h : EA X n c Γ es o) (p : P o Γ) : WA X n c Γ es P := h.mono fun y Γ' ⟨h1, h2⟩ => by subst h1 h2; exact p
theorem EV.v (h : EV X n c Γ e x) : EVV X n c Γ e x := WE.v h
theorem ev_is (h : EV X n c Γ e x) (q : x = y) : EV X n c Γ e y := q ▸ h
theorem et_is {p q : Bool} (h : ET X n c Γ e p) (r : p = q) : ET X n c Γ e q := r ▸ h

/-! ### names, constants -/
theorem ev_var (i : Nat) {nm : Str} {pos : Pos} (hg : Γ[i]? = some (.d x) := by rfl) (hi : n.N[i]? = some nm := by rfl) (hv : n.V.contains i = true := by rfl) : EV X n c Γ (.Name nm pos) x := .mk fun hn σ R H s Q q => by
  obtain ⟨h1, h2⟩ := hn.dbg i nm hi
  refine (pe_var (i := i) (by rw [hn.eq]; exact hi) (hn.vis i nm hv hi) h1 h2).w ?_
  obtain ⟨o, e1, v, e2, r⟩ := s.sl i _ hg
  subst e2
  exact ⟨v, e1, q v R H x Γ s (Ex.refl _) r ⟨rfl, rfl⟩⟩
/-- what a slot holds, as data that is read -/
def Slot.data : Slot → Option D
  | .d x => some x
  | .w x => some x
  | .own o => o.data
  | _ => none
theorem SlotOk.wk {K : PySem.W.Frag} {R H : Hp} {s : Slot} {o : Option V} {x : D} (h : SlotOk K c R H s o) (e : s.data = some x) : ∃ v, o = some v ∧ Wk K R H x v := by
  cases s with
  | d y => cases e; obtain ⟨v, h1, h2⟩ := h; exact ⟨v, h1, .inl h2⟩
  | w y => cases e; obtain ⟨v, h1, h2⟩ := h; exact ⟨v, h1, h2.wk⟩
  | own ob =>
    obtain ⟨a, h1, h2, _⟩ := h
    cases ob with
    | lst ds => cases e; obtain ⟨vs, h2, h3⟩ := h2; exact ⟨_, h1, .inr (.inl ⟨a, vs, ds, rfl, rfl, id, h2, h3⟩)⟩
    | dic ds => cases e; obtain ⟨vs, h2, h3⟩ := h2; exact ⟨_, h1, .inr (.inr (.inl ⟨a, vs, ds, rfl, rfl, id, h2, h3⟩))⟩
    | ins nm fs => cases e; obtain ⟨dx, ws, h2, h3⟩ := h2; exact ⟨_, h1, .inr (.inr (.inr ⟨a, dx, ws, nm, fs, rfl, rfl, id, h2, h3⟩))⟩
    | sto => cases e
  | _ => cases e
theorem evv_slot (i : Nat) {s : Slot} {nm : Str} {pos : Pos} (hg : Γ[i]? = some s := by rfl) (hs : s.data = some x := by rfl) (hi : n.N[i]? = some nm := by rfl) (hv : n.V.contains i = true := by rfl) : EVV X n c Γ (.Name nm pos) x := .mk fun hn σ R H s Q q => by
  obtain ⟨h1, h2⟩ := hn.dbg i nm hi
  refine (pe_var (i := i) (by rw [hn.eq]; exact hi) (hn.vis i nm hv hi) h1 h2).w ?_
  obtain ⟨o, e1, h⟩ := s.sl i _ hg
  obtain ⟨v, e2, r⟩ := h.wk hs
  subst e2
  exact ⟨v, e1, q v R H x Γ s (Ex.refl _) r ⟨rfl, rfl⟩⟩
theorem ev_c {v : V} (h : PE X e (tC v)) (r : ∀ R, Rp X.K R x v) : EV X n c Γ e x := .mk fun hn σ R H s Q q =>
  h.w (q v R H x Γ s (Ex.refl _) (r R) ⟨rfl, rfl⟩)
theorem ev_int {i : Int} {j pos} : EV X n c Γ (.Constant (.int i) j pos) (.int i) := ev_c pe_int fun _ => rfl
theorem ev_bl {i : Bool} {j pos} : EV X n c Γ (.Constant (.bool i) j pos) (.bl i) := ev_c pe_bl fun _ => rfl
theorem ev_str {i : Str} {j pos} : EV X n c Γ (.Constant (.str i) j pos) (.str i) := ev_c pe_str fun _ => rfl
theorem ev_non {j pos} : EV X n c Γ (.Constant .none j pos) .non := ev_c pe_non fun _ => rfl
/-- a module's constant -/
structure Con (X : Cx) (nm : Str) (x : D) : Prop where
  ex : ∃ v u, X.mg nm = some u ∧ RelV v u ∧ ∀ R, Rp X.K R x v
theorem ev_glob (j : Nat) {nm : Str} {pos : Pos} (hc : Con X nm x) (hj : n.GN[j]? = some nm := by rfl) : EV X n c Γ (.Name nm pos) x := .mk fun hn => by
  obtain ⟨v, u, h1, h2, h3⟩ := hc.ex
  obtain ⟨g1, g2, g3⟩ := hn.gl j nm hj
  exact (ev_c (pe_glob g1 h1 h2 g2) h3).run hn

/-! ### operands: data, or what a slot holds, read when all is there -/
def AK.get (Γ : SL) : AK → Option D
  | .d x => some x
  | .v x => some x
  | .s i => (Γ[i]?).bind Slot.data
  | .o i => (Γ[i]?).bind Slot.data
theorem AkOk.mono {K : PySem.W.Frag} {R R' : Hp} {σ : St} (e : Ex R R') : ∀ {k : AK} {v : V}, AkOk K R σ k v → AkOk K R' σ k v
  | .d _, _, h => Rp.mono e _ _ h
  | .v _, _, h => Rp.mono e _ _ h
  | .s _, _, h => h
  | .o _, _, h => h
theorem AksOk.mono {K : PySem.W.Frag} {R R' : Hp} {σ : St} (e : Ex R R') : ∀ {k : List AK} {v : List V}, AksOk K R σ k v → AksOk K R' σ k v
  | [], _, h => h
  | _ :: _, _, ⟨v, ws, h1, h2, h3⟩ => ⟨v, ws, h1, h2.mono e, h3.mono e⟩
theorem AkOk.wk {K : PySem.W.Frag} {R H : Hp} {σ : St} (s : SOk K c Γ σ R H) : ∀ {k : AK} {v : V} {x : D}, AkOk K R σ k v → k.get Γ = some x → Wk K R H x v
  | .d _, _, _, h, e => by cases e; exact .inl h
  | .v _, _, _, h, e => by cases e; exact .inl h
  | .s i, v, x, h, e => by
    obtain ⟨sl, e1, e2⟩ := Option.bind_eq_some_iff.mp e
    obtain ⟨o, q1, q2⟩ := s.sl i sl e1
    rw [show σ[i]? = some (some v) from h] at q1; cases q1
    obtain ⟨w, q3, q4⟩ := q2.wk e2
    cases q3; exact q4
  | .o i, v, x, h, e => by
    obtain ⟨sl, e1, e2⟩ := Option.bind_eq_some_iff.mp e
    obtain ⟨o, q1, q2⟩ := s.sl i sl e1
    rw [show σ[i]? = some (some v) from h] at q1; cases q1
    obtain ⟨w, q3, q4⟩ := q2.wk e2
    cases q3; exact q4
def gets (Γ : SL) : List AK → Option (List D)
  | [] => some []
  | k :: ks => match k.get Γ, gets Γ ks with
    | some x, some xs => some (x :: xs)
    | _, _ => none
def Wks (K : PySem.W.Frag) (R H : Hp) : List D → List V → Prop
  | [], vs => vs = []
  | x :: xs, vs => ∃ v ws, vs = v :: ws ∧ Wk K R H x v ∧ Wks K R H xs ws
theorem AksOk.wks {K : PySem.W.Frag} {R H : Hp} {σ : St} (s : SOk K c Γ σ R H) : ∀ {k : List AK} {v : List V} {x : List D}, AksOk K R σ k v → gets Γ k = some x → Wks K R H x v
  | [], v, x, h, e => by cases e; exact h
  | k :: ks, v, x, ⟨v1, ws, h1, h2, h3⟩, e => by
    unfold gets at e
    split at e
    · rename_i y ys e1 e2
      cases e
      exact ⟨v1, ws, h1, h2.wk s e1, h3.wks s e2⟩
    · cases e
/-- an operand -/
structure WK (X : Cx) (n : Nm) (c : Cc) (Γ : SL) (e : Expr) (Post : AK → SL → Prop) : Prop where
  run : NOk X n c → ∀ σ R H, SOk X.K c Γ σ R H → ∀ Q : VK,
  (∀ v R' H' k Γ', SOk X.K c Γ' σ R' H' → Ex R R' → AkOk X.K R' σ k v → Post k Γ' → Q v H') → tW X e σ H Q
abbrev EK (X : Cx) (n : Nm) (c : Cc) (Γ : SL) (e : Expr) (k : AK) : Prop := WK X n c Γ e fun y Γ' => y = k ∧ Γ' = Γ
theorem WK.mono {P P' : AK → SL → Prop} (h : WK X n c Γ e P) (k : ∀ x Γ, P x Γ → P' x Γ) : WK X n c Γ e P' := .mk fun hn σ R H s Q q =>
  h.run hn σ R H s Q fun v R' H' x Γ' s' e r p => q v R' H' x Γ' s' e r (k _ _ p)
theorem wk_ek {k : AK} {P : AK → SL → Prop} (h : EK X n c Γ e k) (p : P k Γ) : WK X n c Γ e P := h.mono fun y Γ' ⟨h1, h2⟩ => by subst h1 h2; exact p
theorem wk_e {P : AK → SL → Prop} (h : WE X n c Γ e fun x Γ' => P (.d x) Γ') : WK X n c Γ e P := .mk fun hn σ R H s Q q =>
  h.run hn σ R H s Q fun v R' H' x Γ' s' e r p => q v R' H' (.d x) Γ' s' e r p
theorem wk_v {P : AK → SL → Prop} (h : WE X n c Γ e fun x Γ' => P (.v x) Γ') : WK X n c Γ e P := .mk fun hn σ R H s Q q =>
  h.run hn σ R H s Q fun v R' H' x Γ' s' e r p => q v R' H' (.v x) Γ' s' e r p
theorem ek_d (h : EV X n c Γ e x) : EK X n c Γ e (.d x) := wk_e (we_of h ⟨rfl, rfl⟩)
theorem ek_v (h : EV X n c Γ e x) : EK X n c Γ e (.v x) := wk_v (we_of h ⟨rfl, rfl⟩)
def Slot.set : Slot → Bool
  | .no => false
  | .any => false
  | _ => true
theorem SlotOk.val {K : PySem.W.Frag} {R H : Hp} {s : Slot} {o : Option V} (h : SlotOk K c R H s o) (e : s.set = true) : ∃ v, o = some v := by
  cases s with
  | no => cases e
  | any => cases e
  | d y => obtain ⟨v, h1, _⟩ := h; exact ⟨v, h1⟩
  | w y => obtain ⟨v, h1, _⟩ := h; exact ⟨v, h1⟩
  | own ob => obtain ⟨v, h1, _⟩ := h; exact ⟨_, h1⟩
  | sc ns => obtain ⟨v, h1, _⟩ := h; exact ⟨_, h1⟩
  | ex _ _ _ => exact ⟨_, h.1⟩
theorem ek_n (k : AK) (i : Nat) (hk : ∀ R σ v, σ[i]? = some (some v) → AkOk X.K R σ k v) {s : Slot} {nm : Str} {pos : Pos} (hg : Γ[i]? = some s) (hs : s.set = true) (hi : n.N[i]? = some nm) (hv : n.V.contains i = true) : EK X n c Γ (.Name nm pos) k := .mk fun hn σ R H s Q q => by
  obtain ⟨h1, h2⟩ := hn.dbg i nm hi
  refine (pe_var (i := i) (by rw [hn.eq]; exact hi) (hn.vis i nm hv hi) h1 h2).w ?_
  obtain ⟨o, e1, h⟩ := s.sl i _ hg
  obtain ⟨v, e2⟩ := h.val hs
  subst e2
  exact ⟨v, e1, q v R H k Γ s (Ex.refl _) (hk R σ v e1) ⟨rfl, rfl⟩⟩
theorem ek_s (i : Nat) {s : Slot} {nm : Str} {pos : Pos} (hg : Γ[i]? = some s := by rfl) (hs : s.set = true := by rfl) (hi : n.N[i]? = some nm := by rfl) (hv : n.V.contains i = true := by rfl) : EK X n c Γ (.Name nm pos) (.s i) := ek_n (.s i) i (fun _ _ _ h => h) hg hs hi hv
theorem ek_o (i : Nat) {s : Slot} {nm : Str} {pos : Pos} (hg : Γ[i]? = some s := by rfl) (hs : s.set = true := by rfl) (hi : n.N[i]? = some nm := by rfl) (hv : n.V.contains i = true := by rfl) : EK X n c Γ (.Name nm pos) (.o i) := ek_n (.o i) i (fun _ _ _ h => h) hg hs hi hv

/-! ### argument lists -/
theorem wa_nil {P : List AK → SL → Prop} (p : P [] Γ) : WA X n c Γ [] P := .mk fun hn σ R H s Q q => pa_nil.w (q [] R H [] Γ s (Ex.refl _) rfl p)
theorem wa_cons {es : List Expr} {P : List AK → SL → Prop} (h : WK X n c Γ e fun k Γ1 => WA X n c Γ1 es fun ks Γ2 => P (k :: ks) Γ2) (hs : starEach (e :: es) X.env = (false, eval e X.env) :: starEach es X.env := by exact se_c rfl) : WA X n c Γ (e :: es) P := .mk fun hn σ R H s Q q =>
  (pa_cons pW pWA hs).w (h.run hn σ R H s _ fun v R1 H1 k Γ1 s1 e1 r1 p1 => p1.run hn σ R1 H1 s1 _ fun vs R2 H2 ks Γ2 s2 e2 r2 p2 =>
    q (v :: vs) R2 H2 (k :: ks) Γ2 s2 (e1.trans e2) ⟨v, vs, rfl, r1.mono e2, r2⟩ p2)
theorem ea_nil : EA X n c Γ [] [] := wa_nil ⟨rfl, rfl⟩
theorem ea_cons {es : List Expr} {k : AK} {ks : List AK} (h : EK X n c Γ e k) (t : EA X n c Γ es ks) (hs : starEach (e :: es) X.env = (false, eval e X.env) :: starEach es X.env := by exact se_c rfl) : EA X n c Γ (e :: es) (k :: ks) :=
  wa_cons (wk_ek h (wa_of t ⟨rfl, rfl⟩)) hs

/-! ### operators on data -/
/-- an operation on two things that are read: P tells what it wants and gives -/
def DOp (X : Cx) (n : Nm) (c : Cc) (f : Value → Value → Sem Value) (P : D → D → (D → Prop) → Prop) : Prop := NOk X n c → ∃ r, OpR X f r ∧
  ∀ Γ σ R H x y v w Post, SOk X.K c Γ σ R H → Wk X.K R H x v → Wk X.K R H y w → P x y Post → ∀ Q : VK,
    (∀ u R' H' z, SOk X.K c Γ σ R' H' → Ex R R' → Rp X.K R' z u → Post z → Q u H') → r v w H Q
variable {f : Value → Value → Sem Value} {P : D → D → (D → Prop) → Prop} {pos : Pos} {k l : AK}
theorem we_bin {op : Operator} {Post : D → SL → Prop} (ho : DOp X n c (binaryOp op) P) (h : WK X n c Γ a fun k Γ1 => WK X n c Γ1 b fun l Γ2 => ∃ x y, k.get Γ2 = some x ∧ l.get Γ2 = some y ∧ P x y fun z => Post z Γ2) : WE X n c Γ (.BinOp a op b pos) Post := .mk fun hn σ R H s Q q => by
  obtain ⟨r, h1, h2⟩ := ho hn
  refine (pe_op h1 pW pW).w (h.run hn σ R H s _ fun v R1 H1 k Γ1 s1 e1 r1 p1 => p1.run hn σ R1 H1 s1 _ fun w R2 H2 l Γ2 s2 e2 r2 ⟨x, y, g1, g2, p2⟩ => ?_)
  exact h2 Γ2 σ R2 H2 x y v w _ s2 ((r1.mono e2).wk s2 g1) (r2.wk s2 g2) p2 Q fun u R' H' z s' e' r' p' => q u R' H' z Γ2 s' (e1.trans (e2.trans e')) r' p'
theorem ev_bin {op : Operator} (ho : DOp X n c (binaryOp op) P) (ha : EK X n c Γ a k) (hb : EK X n c Γ b l) (ga : k.get Γ = some x) (gb : l.get Γ = some y) (h : ∀ Post : D → Prop, Post z → P x y Post) : EV X n c Γ (.BinOp a op b pos) z :=
  we_bin ho (wk_ek ha (wk_ek hb ⟨x, y, ga, gb, h _ ⟨rfl, rfl⟩⟩))
/-- two ints -/
def PI2 (C : Int → Int → Prop) (g : Int → Int → D) : D → D → (D → Prop) → Prop := fun x y Post => ∃ i j, x = .int i ∧ y = .int j ∧ C i j ∧ Post (g i j)
theorem dop_I {C : Int → Int → Prop} {g : Int → Int → V} {g' : Int → Int → D} (h : OpR X f (rI C g)) (e : ∀ i j R, Rp X.K R (g' i j) (g i j)) : DOp X n c f (PI2 C g') := fun _ => ⟨_, h, fun Γ σ R H x y v w Post s hx hy ⟨i, j, e1, e2, hc, p⟩ Q q => by
  subst e1 e2
  exact ⟨i, j, hx.int, hy.int, hc, q _ R H _ s (Ex.refl _) (e i j R) p⟩⟩
theorem dop_I0 {g : Int → Int → V} {g' : Int → Int → D} (h : OpR X f (rI0 g)) (e : ∀ i j R, Rp X.K R (g' i j) (g i j)) : DOp X n c f (PI2 (fun _ _ => True) g') := fun _ => ⟨_, h, fun Γ σ R H x y v w Post s hx hy ⟨i, j, e1, e2, hc, p⟩ Q q => by
  subst e1 e2
  exact ⟨i, j, hx.int, hy.int, q _ R H _ s (Ex.refl _) (e i j R) p⟩⟩
def CDivA (_ j : Int) : Prop := j ≠ 0 ∧ j.natAbs.log2 < 9000
theorem op_fdivA : OpR X (binaryOp .FloorDiv) (rI CDivA fun i j => .int (i.fdiv j)) := opI fun i j _ _ _ _ _ hc q => floordiv_int hc.1 q (.inl (PyProof.noPylong_of_log2 hc.2))
theorem dop_add : DOp X n c (binaryOp .Add) (PI2 (fun _ _ => True) fun i j => .int (i + j)) := dop_I0 op_add fun _ _ _ => rfl
theorem dop_sub : DOp X n c (binaryOp .Sub) (PI2 (fun _ _ => True) fun i j => .int (i - j)) := dop_I0 op_sub fun _ _ _ => rfl
theorem dop_mul : DOp X n c (binaryOp .Mult) (PI2 CMulW fun i j => .int (i * j)) := dop_I op_mulW fun _ _ _ => rfl
theorem dop_mul64 : DOp X n c (binaryOp .Mult) (PI2 CMul fun i j => .int (i * j)) := dop_I op_mul fun _ _ _ => rfl
theorem dop_fdiv : DOp X n c (binaryOp .FloorDiv) (PI2 CDivA fun i j => .int (i.fdiv j)) := dop_I op_fdivA fun _ _ _ => rfl
theorem dop_mod : DOp X n c (binaryOp .Mod) (PI2 (fun _ j => j ≠ 0) fun i j => .int (i.fmod j)) := dop_I op_modN fun _ _ _ => rfl
theorem dop_pow : DOp X n c (binaryOp .Pow) (PI2 CPow fun i j => .int (i ^ j.toNat)) := dop_I op_pow fun _ _ _ => rfl
theorem dop_lt : DOp X n c (compareOp .Lt) (PI2 (fun _ _ => True) fun i j => .bl (decide (i < j))) := dop_I0 op_lt fun _ _ _ => rfl
theorem dop_le : DOp X n c (compareOp .LtE) (PI2 (fun _ _ => True) fun i j => .bl (decide (i ≤ j))) := dop_I0 op_le fun _ _ _ => rfl
theorem dop_gt : DOp X n c (compareOp .Gt) (PI2 (fun _ _ => True) fun i j => .bl (decide (j < i))) := dop_I0 op_gt fun _ _ _ => rfl
theorem dop_ge : DOp X n c (compareOp .GtE) (PI2 (fun _ _ => True) fun i j => .bl (decide (j ≤ i))) := dop_I0 op_ge fun _ _ _ => rfl
variable {i j : Int}
theorem ev_i2 {op : Operator} {C : Int → Int → Prop} {g : Int → Int → D} (ho : DOp X n c (binaryOp op) (PI2 C g)) (ha : EV X n c Γ a (.int i)) (hb : EV X n c Γ b (.int j)) (hc : C i j) : EV X n c Γ (.BinOp a op b pos) (g i j) :=
  ev_bin ho (ek_d ha) (ek_d hb) rfl rfl fun _ p => ⟨i, j, rfl, rfl, hc, p⟩
theorem ev_add (ha : EV X n c Γ a (.int i)) (hb : EV X n c Γ b (.int j)) : EV X n c Γ (.BinOp a .Add b pos) (.int (i + j)) := ev_i2 dop_add ha hb trivial
theorem ev_sub (ha : EV X n c Γ a (.int i)) (hb : EV X n c Γ b (.int j)) : EV X n c Γ (.BinOp a .Sub b pos) (.int (i - j)) := ev_i2 dop_sub ha hb trivial
theorem ev_mul (ha : EV X n c Γ a (.int i)) (hb : EV X n c Γ b (.int j)) (hc : CMulW i j) : EV X n c Γ (.BinOp a .Mult b pos) (.int (i * j)) := ev_i2 dop_mul ha hb hc
theorem ev_mul64 (ha : EV X n c Γ a (.int i)) (hb : EV X n c Γ b (.int j)) (hc : CMul i j) : EV X n c Γ (.BinOp a .Mult b pos) (.int (i * j)) := ev_i2 dop_mul64 ha hb hc
theorem ev_fdiv (ha : EV X n c Γ a (.int i)) (hb : EV X n c Γ b (.int j)) (hc : CDivA i j) : EV X n c Γ (.BinOp a .FloorDiv b pos) (.int (i.fdiv j)) := ev_i2 dop_fdiv ha hb hc
theorem ev_mod (ha : EV X n c Γ a (.int i)) (hb : EV X n c Γ b (.int j)) (hc : j ≠ 0) : EV X n c Γ (.BinOp a .Mod b pos) (.int (i.fmod j)) := ev_i2 dop_mod ha hb hc
theorem ev_pow (ha : EV X n c Γ a (.int i)) (hb : EV X n c Γ b (.int j)) (hc : CPow i j) : EV X n c Γ (.BinOp a .Pow b pos) (.int (i ^ j.toNat)) := ev_i2 dop_pow ha hb hc
/-- one thing read -/
def DUn (X : Cx) (n : Nm) (c : Cc) (f : Value → Sem Value) (P : D → (D → Prop) → Prop) : Prop := NOk X n c → ∃ r, UnR X f r ∧
  ∀ Γ σ R H x v Post, SOk X.K c Γ σ R H → Wk X.K R H x v → P x Post → ∀ Q : VK,
    (∀ u R' H' z, SOk X.K c Γ σ R' H' → Ex R R' → Rp X.K R' z u → Post z → Q u H') → r v H Q
theorem we_un {op : UnaryOp} {f : Value → Sem Value} {P : D → (D → Prop) → Prop} {Post : D → SL → Prop} (ho : DUn X n c (unaryOp op) P) (h : WK X n c Γ a fun k Γ1 => ∃ x, k.get Γ1 = some x ∧ P x fun z => Post z Γ1) : WE X n c Γ (.UnaryOp op a pos) Post := .mk fun hn σ R H s Q q => by
  obtain ⟨r, h1, h2⟩ := ho hn
  refine (pe_un h1 pW).w (h.run hn σ R H s _ fun v R1 H1 k Γ1 s1 e1 r1 ⟨x, g1, p1⟩ => ?_)
  exact h2 Γ1 σ R1 H1 x v _ s1 (r1.wk s1 g1) p1 Q fun u R' H' z s' e' r' p' => q u R' H' z Γ1 s' (e1.trans e') r' p'
theorem ev_neg (ha : EV X n c Γ a (.int i)) : EV X n c Γ (.UnaryOp .USub a pos) (.int (-i)) :=
  we_un (f := unaryOp .USub) (P := fun x Post => ∃ i, x = .int i ∧ Post (.int (-i))) (fun _ => ⟨_, un_neg, fun Γ σ R H x v Post s hx ⟨i, e, p⟩ Q q => by subst e; exact ⟨i, hx.int, q (.int (-i)) R H (.int (-i)) s (Ex.refl _) rfl p⟩⟩)
    (wk_ek (ek_d ha) ⟨_, rfl, i, rfl, rfl, rfl⟩)

/-! ### comparisons -/
theorem we_cmp {op : CmpOp} {Post : D → SL → Prop} (ho : DOp X n c (compareOp op) P) (hm : behindInMarks op b = false) (h : WK X n c Γ a fun k Γ1 => WK X n c Γ1 b fun l Γ2 => ∃ x y, k.get Γ2 = some x ∧ l.get Γ2 = some y ∧ P x y fun z => Post z Γ2) : WE X n c Γ (.Compare a [op] [b] pos) Post := .mk fun hn σ R H s Q q => by
  obtain ⟨r, h1, h2⟩ := ho hn
  refine (pe_cmpR h1 pW pW hm).w (h.run hn σ R H s _ fun v R1 H1 k Γ1 s1 e1 r1 p1 => p1.run hn σ R1 H1 s1 _ fun w R2 H2 l Γ2 s2 e2 r2 ⟨x, y, g1, g2, p2⟩ => ?_)
  exact h2 Γ2 σ R2 H2 x y v w _ s2 ((r1.mono e2).wk s2 g1) (r2.wk s2 g2) p2 Q fun u R' H' z s' e' r' p' => q u R' H' z Γ2 s' (e1.trans (e2.trans e')) r' p'
theorem wt_cmp {op : CmpOp} {Post : Bool → SL → Prop} (ho : DOp X n c (compareOp op) P) (hm : behindInMarks op b = false) (h : WK X n c Γ a fun k Γ1 => WK X n c Γ1 b fun l Γ2 => ∃ x y, k.get Γ2 = some x ∧ l.get Γ2 = some y ∧ P x y fun z => ∃ b, z = .bl b ∧ Post b Γ2) : WT X n c Γ (.Compare a [op] [b] pos) Post := .mk fun hn σ R H s Q q => by
  obtain ⟨r, h1, h2⟩ := ho hn
  refine (pt_cmpR h1 pW pW hm).w (h.run hn σ R H s _ fun v R1 H1 k Γ1 s1 e1 r1 p1 => p1.run hn σ R1 H1 s1 _ fun w R2 H2 l Γ2 s2 e2 r2 ⟨x, y, g1, g2, p2⟩ => ?_)
  exact h2 Γ2 σ R2 H2 x y v w _ s2 ((r1.mono e2).wk s2 g1) (r2.wk s2 g2) p2 _ fun u R' H' z s' e' r' ⟨bb, e0, p'⟩ => by
    subst e0
    exact ⟨bb, r', q R' H' bb Γ2 s' (e1.trans (e2.trans e')) p'⟩
theorem ev_cmp {op : CmpOp} (ho : DOp X n c (compareOp op) P) (ha : EK X n c Γ a k) (hb : EK X n c Γ b l) (h : ∀ Post : D → Prop, Post z → P x y Post) (ga : k.get Γ = some x := by rfl) (gb : l.get Γ = some y := by rfl) (hm : behindInMarks op b = false := by first | exact nomark _ | rfl) : EV X n c Γ (.Compare a [op] [b] pos) z :=
  we_cmp ho hm (wk_ek ha (wk_ek hb ⟨x, y, ga, gb, h _ ⟨rfl, rfl⟩⟩))
theorem et_cmp {op : CmpOp} {bb : Bool} (ho : DOp X n c (compareOp op) P) (ha : EK X n c Γ a k) (hb : EK X n c Γ b l) (h : ∀ Post : D → Prop, Post (.bl bb) → P x y Post) (ga : k.get Γ = some x := by rfl) (gb : l.get Γ = some y := by rfl) (hm : behindInMarks op b = false := by first | exact nomark _ | rfl) : ET X n c Γ (.Compare a [op] [b] pos) bb :=
  wt_cmp ho hm (wk_ek ha (wk_ek hb ⟨x, y, ga, gb, h _ ⟨bb, rfl, rfl, rfl⟩⟩))
theorem et_i2 {op : CmpOp} {g : Int → Int → Bool} (ho : DOp X n c (compareOp op) (PI2 (fun _ _ => True) fun i j => .bl (g i j))) (ha : EV X n c Γ a (.int i)) (hb : EV X n c Γ b (.int j)) (hm : behindInMarks op b = false) : ET X n c Γ (.Compare a [op] [b] pos) (g i j) :=
  et_cmp ho (ek_d ha) (ek_d hb) (fun _ p => ⟨i, j, rfl, rfl, trivial, p⟩) rfl rfl hm
theorem ev_ci2 {op : CmpOp} {g : Int → Int → Bool} (ho : DOp X n c (compareOp op) (PI2 (fun _ _ => True) fun i j => .bl (g i j))) (ha : EV X n c Γ a (.int i)) (hb : EV X n c Γ b (.int j)) (hm : behindInMarks op b = false) : EV X n c Γ (.Compare a [op] [b] pos) (.bl (g i j)) :=
  ev_cmp ho (ek_d ha) (ek_d hb) (fun _ p => ⟨i, j, rfl, rfl, trivial, p⟩) rfl rfl hm
theorem et_lt (ha : EV X n c Γ a (.int i)) (hb : EV X n c Γ b (.int j)) : ET X n c Γ (.Compare a [.Lt] [b] pos) (decide (i < j)) := et_i2 dop_lt ha hb (nomark _)
theorem et_le (ha : EV X n c Γ a (.int i)) (hb : EV X n c Γ b (.int j)) : ET X n c Γ (.Compare a [.LtE] [b] pos) (decide (i ≤ j)) := et_i2 dop_le ha hb (nomark _)
theorem et_gt (ha : EV X n c Γ a (.int i)) (hb : EV X n c Γ b (.int j)) : ET X n c Γ (.Compare a [.Gt] [b] pos) (decide (j < i)) := et_i2 dop_gt ha hb (nomark _)
theorem et_ge (ha : EV X n c Γ a (.int i)) (hb : EV X n c Γ b (.int j)) : ET X n c Γ (.Compare a [.GtE] [b] pos) (decide (j ≤ i)) := et_i2 dop_ge ha hb (nomark _)
theorem ev_lt (ha : EV X n c Γ a (.int i)) (hb : EV X n c Γ b (.int j)) : EV X n c Γ (.Compare a [.Lt] [b] pos) (.bl (decide (i < j))) := ev_ci2 dop_lt ha hb (nomark _)
theorem ev_le (ha : EV X n c Γ a (.int i)) (hb : EV X n c Γ b (.int j)) : EV X n c Γ (.Compare a [.LtE] [b] pos) (.bl (decide (i ≤ j))) := ev_ci2 dop_le ha hb (nomark _)
theorem ev_gt (ha : EV X n c Γ a (.int i)) (hb : EV X n c Γ b (.int j)) : EV X n c Γ (.Compare a [.Gt] [b] pos) (.bl (decide (j < i))) := ev_ci2 dop_gt ha hb (nomark _)
theorem ev_ge (ha : EV X n c Γ a (.int i)) (hb : EV X n c Γ b (.int j)) : EV X n c Γ (.Compare a [.GtE] [b] pos) (.bl (decide (j ≤ i))) := ev_ci2 dop_ge ha hb (nomark _)
end
end DL

end
section
set_option Elab.async false
set_option linter.all false
set_option autoImplicit true
set_option maxRecDepth 100000
set_option maxHeartbeats 400000
namespace DL
open PySem L2
open PyProof.Rows hiding St

/-! ### data as the library's equality takes it -/
mutual
def D.pd : D → PyData
  | .non => .none
  | .bl b => .bool b
  | .int i => .int i
  | .str x => .str x
  | .lst ds => .list (pdL ds)
  | .tup ds => .tuple (pdL ds)
  | .dic _ => .dict []
  | .ins _ _ => .dict []
def pdL : List D → List PyData
  | [] => []
  | d :: ds => d.pd :: pdL ds
end
mutual
theorem Rp.dp {K : PySem.W.Frag} {R : Hp} : ∀ (d : D) (v : V), d.pd.canLay0 = true → Rp K R d v → Dp K R v d.pd
  | .non, _, _, h => by cases (show _ = _ from h); exact .non
  | .bl _, _, _, h => by cases (show _ = _ from h); exact .bl _
  | .int _, _, _, h => by cases (show _ = _ from h); exact .int _
  | .str _, _, _, h => by cases (show _ = _ from h); exact .str _
  | .lst ds, _, z, ⟨a, vs, h1, h2, h3⟩ => by subst h1; exact .lst (.inl (.inl h2)) (RpL.dp ds vs (by simpa [D.pd, PyData.canLay0] using z) h3)
  | .tup ds, _, z, ⟨a, vs, h1, h2, h3⟩ => by subst h1; exact .tup h2 (RpL.dp ds vs (by simpa [D.pd, PyData.canLay0] using z) h3)
  | .dic _, _, z, _ => by simp [D.pd, PyData.canLay0] at z
  | .ins _ _, _, z, _ => by simp [D.pd, PyData.canLay0] at z
theorem RpL.dp {K : PySem.W.Frag} {R : Hp} : ∀ (ds : List D) (vs : List V), PyData.canLayAll0 (pdL ds) = true → RpL K R ds vs → DpAll K R vs (pdL ds)
  | [], _, _, h => by cases (show _ = _ from h); exact .nil
  | d :: ds, _, z, ⟨v, ws, h1, h2, h3⟩ => by
    subst h1
    have z' : d.pd.canLay0 = true ∧ PyData.canLayAll0 (pdL ds) = true := by simpa [pdL, PyData.canLayAll0] using z
    exact .cons (Rp.dp d v z'.1 h2) (RpL.dp ds ws z'.2 h3)
end
mutual
theorem dp_mono {K : PySem.W.Frag} {R H : Hp} (e : Ex R H) : ∀ {d : PyData} {v : V}, Dp K R v d → Dp K H v d
  | _, _, .non => .non
  | _, _, .bl _ => .bl _
  | _, _, .int _ => .int _
  | _, _, .str _ => .str _
  | _, _, .lst h t => .lst (ex_l e h) (dpAll_mono e t)
  | _, _, .tup h t => .tup (ex_t e h) (dpAll_mono e t)
theorem dpAll_mono {K : PySem.W.Frag} {R H : Hp} (e : Ex R H) : ∀ {d : List PyData} {v : List V}, DpAll K R v d → DpAll K H v d
  | _, _, .nil => .nil
  | _, _, .cons h t => .cons (dp_mono e h) (dpAll_mono e t)
end
theorem Wk.dp {K : PySem.W.Frag} {R H : Hp} {x : D} {v : V} (e : Ex R H) (z : x.pd.canLay0 = true) : Wk K R H x v → Dp K H v x.pd
  | .inl h => dp_mono e (Rp.dp x v z h)
  | .inr (.inl ⟨a, vs, ds, h1, h2, h3, h4, h5⟩) => by
    subst h1 h2; exact .lst (.inl (.inl h4)) (dpAll_mono e (RpL.dp ds vs (by simpa [D.pd, PyData.canLay0] using z) h5))
  | .inr (.inr (.inl ⟨a, vs, ds, h1, h2, h3, h4, h5⟩)) => by subst h2; simp [D.pd, PyData.canLay0] at z
  | .inr (.inr (.inr ⟨a, dx, ws, nm, fs, h1, h2, _⟩)) => by subst h2; simp [D.pd, PyData.canLay0] at z

section
variable {X : Cx} {n : Nm} {c : Cc} {Γ : SL} {e a b : Expr} {x y z : D} {pos : Pos} {k l : AK} {i j : Int}
def D.eqv (x y : D) : Bool := PyData.eqv x.pd y.pd
def D.shp (x : D) : Bool := SeqAt.shaped x.pd
theorem canLay_shp {x : D} (h : x.shp = true) : x.pd.canLay0 = true := SeqAt.canLay_of_shaped h
def PEq (g : Bool → Bool) : D → D → (D → Prop) → Prop := fun x y Post => x.shp = true ∧ y.shp = true ∧ Post (.bl (g (x.eqv y)))
theorem dop_eq : DOp X n c (compareOp .Eq) (PEq id) := fun hn => ⟨_, op_eqD hn.units, fun Γ σ R H x y v w Post s hx hy ⟨h1, h2, p⟩ Q q =>
  ⟨x.pd, y.pd, hx.dp s.rh (canLay_shp h1), hy.dp s.rh (canLay_shp h2), h1, h2, q (.bl (x.eqv y)) R H (.bl (x.eqv y)) s (Ex.refl _) rfl p⟩⟩
theorem dop_ne : DOp X n c (compareOp .NotEq) (PEq not) := fun hn => ⟨_, op_neD hn.units, fun Γ σ R H x y v w Post s hx hy ⟨h1, h2, p⟩ Q q =>
  ⟨x.pd, y.pd, hx.dp s.rh (canLay_shp h1), hy.dp s.rh (canLay_shp h2), h1, h2, q (.bl (!(x.eqv y))) R H (.bl (!(x.eqv y))) s (Ex.refl _) rfl p⟩⟩
theorem et_eqD (ha : EK X n c Γ a k) (hb : EK X n c Γ b l) (h1 : x.shp = true) (h2 : y.shp = true) (ga : k.get Γ = some x := by rfl) (gb : l.get Γ = some y := by rfl) : ET X n c Γ (.Compare a [.Eq] [b] pos) (x.eqv y) :=
  et_cmp dop_eq ha hb (fun _ p => ⟨h1, h2, p⟩) ga gb (nomark _)
theorem et_neD (ha : EK X n c Γ a k) (hb : EK X n c Γ b l) (h1 : x.shp = true) (h2 : y.shp = true) (ga : k.get Γ = some x := by rfl) (gb : l.get Γ = some y := by rfl) : ET X n c Γ (.Compare a [.NotEq] [b] pos) (!(x.eqv y)) :=
  et_cmp dop_ne ha hb (fun _ p => ⟨h1, h2, p⟩) ga gb (nomark _)
theorem ev_eqD (ha : EK X n c Γ a k) (hb : EK X n c Γ b l) (h1 : x.shp = true) (h2 : y.shp = true) (ga : k.get Γ = some x := by rfl) (gb : l.get Γ = some y := by rfl) : EV X n c Γ (.Compare a [.Eq] [b] pos) (.bl (x.eqv y)) :=
  ev_cmp dop_eq ha hb (fun _ p => ⟨h1, h2, p⟩) ga gb (nomark _)
theorem ev_neD (ha : EK X n c Γ a k) (hb : EK X n c Γ b l) (h1 : x.shp = true) (h2 : y.shp = true) (ga : k.get Γ = some x := by rfl) (gb : l.get Γ = some y := by rfl) : EV X n c Γ (.Compare a [.NotEq] [b] pos) (.bl (!(x.eqv y))) :=
  ev_cmp dop_ne ha hb (fun _ p => ⟨h1, h2, p⟩) ga gb (nomark _)
theorem dop_eqI : DOp X n c (compareOp .Eq) (PI2 (fun _ _ => True) fun i j => .bl (decide (i = j))) := fun _ => ⟨_, op_eq, fun Γ σ R H x y v w Post s hx hy ⟨i, j, e1, e2, _, p⟩ Q q => by
  subst e1 e2
  cases hx.int; cases hy.int
  exact ⟨rfl, q _ R H _ s (Ex.refl _) (by simp [Rp]) p⟩⟩
theorem dop_neI : DOp X n c (compareOp .NotEq) (PI2 (fun _ _ => True) fun i j => .bl (!decide (i = j))) := fun _ => ⟨_, op_ne, fun Γ σ R H x y v w Post s hx hy ⟨i, j, e1, e2, _, p⟩ Q q => by
  subst e1 e2
  cases hx.int; cases hy.int
  exact ⟨rfl, q _ R H _ s (Ex.refl _) (by simp [Rp]) p⟩⟩
theorem et_eq (ha : EV X n c Γ a (.int i)) (hb : EV X n c Γ b (.int j)) : ET X n c Γ (.Compare a [.Eq] [b] pos) (decide (i = j)) := et_i2 dop_eqI ha hb (nomark _)
theorem et_ne (ha : EV X n c Γ a (.int i)) (hb : EV X n c Γ b (.int j)) : ET X n c Γ (.Compare a [.NotEq] [b] pos) (!decide (i = j)) := et_i2 dop_neI ha hb (nomark _)
theorem ev_eq (ha : EV X n c Γ a (.int i)) (hb : EV X n c Γ b (.int j)) : EV X n c Γ (.Compare a [.Eq] [b] pos) (.bl (decide (i = j))) := ev_ci2 dop_eqI ha hb (nomark _)
theorem ev_ne (ha : EV X n c Γ a (.int i)) (hb : EV X n c Γ b (.int j)) : EV X n c Γ (.Compare a [.NotEq] [b] pos) (.bl (!decide (i = j))) := ev_ci2 dop_neI ha hb (nomark _)
/-! ### is None -/
def D.isN : D → Bool
  | .non => true
  | _ => false
theorem Wk.isN {K : PySem.W.Frag} {R H : Hp} {x : D} {v : V} (h : Wk K R H x v) : decide (v = V.non) = x.isN := by
  rcases h with h | ⟨a, vs, ds, h1, h2, _⟩ | ⟨a, vs, ds, h1, h2, _⟩ | ⟨a, dx, ws, nm, fs, h1, h2, _⟩
  · cases x with
    | non => cases (show _ = _ from h); rfl
    | bl _ => cases (show _ = _ from h); rfl
    | int _ => cases (show _ = _ from h); rfl
    | str _ => cases (show _ = _ from h); rfl
    | lst _ => obtain ⟨a, vs, h1, _⟩ := h; subst h1; rfl
    | tup _ => obtain ⟨a, vs, h1, _⟩ := h; subst h1; rfl
    | dic _ => obtain ⟨a, vs, h1, _⟩ := h; subst h1; rfl
    | ins _ _ => obtain ⟨a, _, vs, h1, _⟩ := h; subst h1; rfl
  · subst h1 h2; rfl
  · subst h1 h2; rfl
  · subst h1 h2; rfl
theorem dop_isN : DOp X n c (compareOp .Is) (fun x y Post => y = .non ∧ Post (.bl x.isN)) := fun _ => ⟨_, op_isN, fun Γ σ R H x y v w Post s hx hy ⟨e, p⟩ Q q => by
  subst e
  exact ⟨hy.non, q _ R H _ s (Ex.refl _) (by show _ = _; rw [hx.isN]) p⟩⟩
theorem dop_notN : DOp X n c (compareOp .IsNot) (fun x y Post => y = .non ∧ Post (.bl (!x.isN))) := fun _ => ⟨_, op_notN, fun Γ σ R H x y v w Post s hx hy ⟨e, p⟩ Q q => by
  subst e
  exact ⟨hy.non, q _ R H _ s (Ex.refl _) (by show _ = _; rw [hx.isN]) p⟩⟩
theorem et_isN {p q} (ha : EK X n c Γ a k) (ga : k.get Γ = some x := by rfl) : ET X n c Γ (.Compare a [.Is] [.Constant .none p q] pos) x.isN := et_cmp dop_isN ha (ek_d ev_non) (fun _ p => ⟨rfl, p⟩) ga rfl (nomark _)
theorem et_notN {p q} (ha : EK X n c Γ a k) (ga : k.get Γ = some x := by rfl) : ET X n c Γ (.Compare a [.IsNot] [.Constant .none p q] pos) (!x.isN) := et_cmp dop_notN ha (ek_d ev_non) (fun _ p => ⟨rfl, p⟩) ga rfl (nomark _)
theorem ev_isN {p q} (ha : EK X n c Γ a k) (ga : k.get Γ = some x := by rfl) : EV X n c Γ (.Compare a [.Is] [.Constant .none p q] pos) (.bl x.isN) := ev_cmp dop_isN ha (ek_d ev_non) (fun _ p => ⟨rfl, p⟩) ga rfl (nomark _)
theorem ev_notN {p q} (ha : EK X n c Γ a k) (ga : k.get Γ = some x := by rfl) : EV X n c Γ (.Compare a [.IsNot] [.Constant .none p q] pos) (.bl (!x.isN)) := ev_cmp dop_notN ha (ek_d ev_non) (fun _ p => ⟨rfl, p⟩) ga rfl (nomark _)

/-! ### and, or, not, if -/
variable {rest : List Expr} {p q : Bool}
theorem wt_val {Post : Bool → SL → Prop} (h : WE X n c Γ e fun x Γ' => ∃ b, x = .bl b ∧ Post b Γ') (he : ∀ whole, isTrue e X.env whole = (do let v ← whole; standAt e.pos; holding [v] (truthy v)) := by intro _; rfl) : WT X n c Γ e Post := .mk fun hn σ R H s Q q =>
  (pt_val pW he).w (h.run hn σ R H s _ fun v R' H' x Γ' s' e r ⟨b, e1, p⟩ => by subst e1; exact ⟨b, r, q R' H' b Γ' s' e p⟩)
theorem et_val (h : EV X n c Γ e (.bl p)) (he : ∀ whole, isTrue e X.env whole = (do let v ← whole; standAt e.pos; holding [v] (truthy v)) := by intro _; rfl) : ET X n c Γ e p := wt_val (we_of h ⟨p, rfl, rfl, rfl⟩) he
theorem WW.t {Post : Bool → SL → Prop} (h : WW X n c Γ e Post) : WT X n c Γ e Post := .mk fun hn σ R H s Q q => (PW.pt pWW).w (h.run hn σ R H s Q q)
theorem EW.t (h : EW X n c Γ e p) : ET X n c Γ e p := WW.t h
theorem ww_and1 {Post : Bool → SL → Prop} (h : WT X n c Γ a Post) : WW X n c Γ (.BoolOp .And [a] pos) Post := .mk fun hn σ R H s Q q => (pw_and1 pWT).w (h.run hn σ R H s Q q)
theorem ww_or1 {Post : Bool → SL → Prop} (h : WT X n c Γ a Post) : WW X n c Γ (.BoolOp .Or [a] pos) Post := .mk fun hn σ R H s Q q => (pw_or1 pWT).w (h.run hn σ R H s Q q)
theorem ww_and {Post : Bool → SL → Prop} (h : WT X n c Γ a fun p Γ1 => (p = true → WW X n c Γ1 (.BoolOp .And (b :: rest) pos) Post) ∧ (p = false → Post false Γ1)) : WW X n c Γ (.BoolOp .And (a :: b :: rest) pos) Post := .mk fun hn σ R H s Q q =>
  (pw_and pWT pWW).w (h.run hn σ R H s _ fun R1 H1 p Γ1 s1 e1 ⟨p1, p2⟩ => by
    cases p with
    | true => exact (p1 rfl).run hn σ R1 H1 s1 Q fun R' H' b Γ' s' e' p' => q R' H' b Γ' s' (e1.trans e') p'
    | false => exact q R1 H1 false Γ1 s1 e1 (p2 rfl))
theorem ww_or {Post : Bool → SL → Prop} (h : WT X n c Γ a fun p Γ1 => (p = false → WW X n c Γ1 (.BoolOp .Or (b :: rest) pos) Post) ∧ (p = true → Post true Γ1)) : WW X n c Γ (.BoolOp .Or (a :: b :: rest) pos) Post := .mk fun hn σ R H s Q q =>
  (pw_or pWT pWW).w (h.run hn σ R H s _ fun R1 H1 p Γ1 s1 e1 ⟨p1, p2⟩ => by
    cases p with
    | false => exact (p1 rfl).run hn σ R1 H1 s1 Q fun R' H' b Γ' s' e' p' => q R' H' b Γ' s' (e1.trans e') p'
    | true => exact q R1 H1 true Γ1 s1 e1 (p2 rfl))
theorem ew_and1 (h : ET X n c Γ a p) : EW X n c Γ (.BoolOp .And [a] pos) p := ww_and1 h
theorem ew_or1 (h : ET X n c Γ a p) : EW X n c Γ (.BoolOp .Or [a] pos) p := ww_or1 h
theorem ew_and (h : ET X n c Γ a p) (h2 : p = true → EW X n c Γ (.BoolOp .And (b :: rest) pos) q) : EW X n c Γ (.BoolOp .And (a :: b :: rest) pos) (p && q) :=
  ww_and (wt_of h ⟨fun e => (h2 e).mono fun x Γ' ⟨g1, g2⟩ => by subst g1 e; exact ⟨rfl, g2⟩, fun e => by subst e; exact ⟨rfl, rfl⟩⟩)
theorem ew_or (h : ET X n c Γ a p) (h2 : p = false → EW X n c Γ (.BoolOp .Or (b :: rest) pos) q) : EW X n c Γ (.BoolOp .Or (a :: b :: rest) pos) (p || q) :=
  ww_or (wt_of h ⟨fun e => (h2 e).mono fun x Γ' ⟨g1, g2⟩ => by subst g1 e; exact ⟨rfl, g2⟩, fun e => by subst e; exact ⟨rfl, rfl⟩⟩)
theorem wt_not {Post : Bool → SL → Prop} (h : WT X n c Γ a fun p Γ' => Post (!p) Γ') : WT X n c Γ (.UnaryOp .Not a pos) Post := .mk fun hn σ R H s Q q =>
  (pt_not pWT).w (h.run hn σ R H s _ fun R' H' b Γ' s' e' p' => q R' H' (!b) Γ' s' e' p')
theorem et_not (h : ET X n c Γ a p) : ET X n c Γ (.UnaryOp .Not a pos) (!p) := wt_not (wt_of h ⟨rfl, rfl⟩)
/-- as values -/
theorem we_and1 {op} {Post : D → SL → Prop} (h : WE X n c Γ a Post) : WE X n c Γ (.BoolOp op [a] pos) Post := .mk fun hn σ R H s Q q => (pe_one pW).w (h.run hn σ R H s Q q)
theorem we_and {Post : D → SL → Prop} (h : WE X n c Γ a fun x Γ1 => ∃ p, x = .bl p ∧ (p = true → WE X n c Γ1 (.BoolOp .And (b :: rest) pos) Post) ∧ (p = false → Post (.bl false) Γ1)) : WE X n c Γ (.BoolOp .And (a :: b :: rest) pos) Post := .mk fun hn σ R H s Q q =>
  (pe_and pW pW).w (h.run hn σ R H s _ fun v R1 H1 x Γ1 s1 e1 r ⟨p, e2, p1, p2⟩ => by
    subst e2
    refine ⟨p, r, ?_⟩
    cases p with
    | true => exact (p1 rfl).run hn σ R1 H1 s1 Q fun v R' H' b Γ' s' e' p' => q v R' H' b Γ' s' (e1.trans e') p'
    | false => exact q (.bl false) R1 H1 (.bl false) Γ1 s1 e1 rfl (p2 rfl))
theorem we_or {Post : D → SL → Prop} (h : WE X n c Γ a fun x Γ1 => ∃ p, x = .bl p ∧ (p = false → WE X n c Γ1 (.BoolOp .Or (b :: rest) pos) Post) ∧ (p = true → Post (.bl true) Γ1)) : WE X n c Γ (.BoolOp .Or (a :: b :: rest) pos) Post := .mk fun hn σ R H s Q q =>
  (pe_or pW pW).w (h.run hn σ R H s _ fun v R1 H1 x Γ1 s1 e1 r ⟨p, e2, p1, p2⟩ => by
    subst e2
    refine ⟨p, r, ?_⟩
    cases p with
    | false => exact (p1 rfl).run hn σ R1 H1 s1 Q fun v R' H' b Γ' s' e' p' => q v R' H' b Γ' s' (e1.trans e') p'
    | true => exact q (.bl true) R1 H1 (.bl true) Γ1 s1 e1 rfl (p2 rfl))
theorem ev_one {op} (h : EV X n c Γ a x) : EV X n c Γ (.BoolOp op [a] pos) x := we_and1 h
theorem ev_and (h : EV X n c Γ a (.bl p)) (h2 : p = true → EV X n c Γ (.BoolOp .And (b :: rest) pos) (.bl q)) : EV X n c Γ (.BoolOp .And (a :: b :: rest) pos) (.bl (p && q)) :=
  we_and (we_of h ⟨p, rfl, fun e => (h2 e).mono fun x Γ' ⟨g1, g2⟩ => by subst g1 e; exact ⟨rfl, g2⟩, fun e => by subst e; exact ⟨rfl, rfl⟩⟩)
theorem ev_or (h : EV X n c Γ a (.bl p)) (h2 : p = false → EV X n c Γ (.BoolOp .Or (b :: rest) pos) (.bl q)) : EV X n c Γ (.BoolOp .Or (a :: b :: rest) pos) (.bl (p || q)) :=
  we_or (we_of h ⟨p, rfl, fun e => (h2 e).mono fun x Γ' ⟨g1, g2⟩ => by subst g1 e; exact ⟨rfl, g2⟩, fun e => by subst e; exact ⟨rfl, rfl⟩⟩)
theorem ev_not (h : EV X n c Γ a (.bl p)) : EV X n c Γ (.UnaryOp .Not a pos) (.bl (!p)) := .mk fun hn σ R H s Q q =>
  (pe_not pW).w (h.run hn σ R H s _ fun v R' H' x Γ' s' e' r ⟨e1, e2⟩ => by subst e1 e2; exact ⟨p, r, q (.bl (!p)) R' H' (.bl (!p)) _ s' e' rfl ⟨rfl, rfl⟩⟩)
theorem we_if {t : Expr} {Post : D → SL → Prop} (h : WT X n c Γ t fun p Γ1 => (p = true → WE X n c Γ1 a Post) ∧ (p = false → WE X n c Γ1 b Post)) : WE X n c Γ (.IfExp t a b pos) Post := .mk fun hn σ R H s Q q =>
  (pe_ifExp pWT pW pW).w (h.run hn σ R H s _ fun R1 H1 p Γ1 s1 e1 ⟨p1, p2⟩ => by
    cases p with
    | true => exact (p1 rfl).run hn σ R1 H1 s1 Q fun v R' H' b Γ' s' e' p' => q v R' H' b Γ' s' (e1.trans e') p'
    | false => exact (p2 rfl).run hn σ R1 H1 s1 Q fun v R' H' b Γ' s' e' p' => q v R' H' b Γ' s' (e1.trans e') p')
theorem ev_if {t : Expr} (h : ET X n c Γ t p) (h1 : p = true → EV X n c Γ a z) (h2 : p = false → EV X n c Γ b z) : EV X n c Γ (.IfExp t a b pos) z := we_if (wt_of h ⟨h1, h2⟩)
theorem wo_if {t : Expr} {Post : OB → SL → Prop} (h : WT X n c Γ t fun p Γ1 => (p = true → WO X n c Γ1 a Post) ∧ (p = false → WO X n c Γ1 b Post)) : WO X n c Γ (.IfExp t a b pos) Post := .mk fun hn σ R H s Q q =>
  (pe_ifExp pWT pW pW).w (h.run hn σ R H s _ fun R1 H1 p Γ1 s1 e1 ⟨p1, p2⟩ => by
    cases p with
    | true => exact (p1 rfl).run hn σ R1 H1 s1 Q fun v R' H' b Γ' s' e' p' => q v R' H' b Γ' s' (e1.trans e') p'
    | false => exact (p2 rfl).run hn σ R1 H1 s1 Q fun v R' H' b Γ' s' e' p' => q v R' H' b Γ' s' (e1.trans e') p')
end
end DL

end
section
set_option Elab.async false
set_option linter.all false
set_option autoImplicit true
set_option maxRecDepth 100000
set_option maxHeartbeats 400000
namespace DL
open PySem L2
open PyProof.Rows hiding St

/-! ### parameters, promises -/
inductive Par where
  | d (x : D) | w (x : D) | own (o : OB) | sc (ns : List Int)
abbrev Sg := List Par → (Res → List OB → Prop) → Prop
def ParOk (K : PySem.W.Frag) (M : Addr → Prop) (R H : Hp) : Par → V → Prop
  | .d x, v => Rp K R x v
  | .w x, v => WOk K M R H x v
  | .own o, v => ∃ a, v = .ref a ∧ OBOk K R H a o ∧ R a = none
  | .sc ns, v => ∃ a, v = .ref a ∧ SqL K R a (ns.map V.int)
def ParsOk (K : PySem.W.Frag) (M : Addr → Prop) (R H : Hp) : List Par → List V → Prop
  | [], vs => vs = []
  | p :: ps, vs => ∃ v ws, vs = v :: ws ∧ ParOk K M R H p v ∧ ParsOk K M R H ps ws
def adr : V → Addr
  | .ref a => a
  | _ => 0
/-- the places of what is lent -/
def ownAd : List Par → List V → List Addr
  | .own _ :: ps, v :: vs => adr v :: ownAd ps vs
  | _ :: ps, _ :: vs => ownAd ps vs
  | _, _ => []
def OwnsOk (K : PySem.W.Frag) (R H : Hp) : List Addr → List OB → Prop
  | [], os => os = []
  | a :: as, os => ∃ o os', os = o :: os' ∧ OBOk K R H a o ∧ OwnsOk K R H as os'
def RetOk (K : PySem.W.Frag) (H0 R H : Hp) : Res → V → Prop
  | .d x, v => Rp K R x v
  | .own o, v => ∃ a, v = .ref a ∧ OBOk K R H a o ∧ R a = none ∧ H0 a = none
/-- behind a call -/
structure After (K : PySem.W.Frag) (as : List Addr) (R H R' H' : Hp) : Prop where
  r : Ex R R'
  rh : Ex R' H'
  h : ∀ a o, a ∉ as → H a = some o → H' a = some o
  pr : ∀ a, H a ≠ none → H' a ≠ none
  un : ∀ a, H a ≠ none → R a = none → R' a = none
def spOf (K : PySem.W.Frag) (S : Sg) : Sp := fun vs H Q _ => ∃ (R : Hp) (ps : List Par) (Post : Res → List OB → Prop), Ex R H ∧ ParsOk K (fun a => a ∈ ownAd ps vs) R H ps vs ∧ (ownAd ps vs).Nodup ∧ S ps Post ∧
  ∀ v R' H' r os, After K (ownAd ps vs) R H R' H' → RetOk K H R' H' r v → OwnsOk K R' H' (ownAd ps vs) os → Post r os → Q v H'

/-- a def that is known by its promise -/
structure CalF (X : Cx) (k : Nat) (nm : Str) (S : Sg) : Prop where
  rm : Room k X.A
  ex : ∃ f fd ps k0, FnOk X.prog X.w X.K X.mg X.base CX0 k0 f fd ps (spOf X.K S) ∧ k0 ≤ k ∧ X.mg nm = some (.ref f) ∧ PySem.W.keepIn X.K (.ref f) = true ∧ Binds X.K fd ps []
theorem CalF.mono {X : Cx} {j k : Nat} {nm : Str} {S : Sg} (h : CalF X j nm S) (e : j ≤ k) (rm : Room k X.A) : CalF X k nm S :=
  let ⟨f, fd, ps, k0, a, b, c⟩ := h.ex; ⟨rm, f, fd, ps, k0, a, Nat.le_trans b e, c⟩

def AK.par (Γ : SL) : AK → Option Par
  | .d x => some (.d x)
  | .v x => some (.w x)
  | .s i => match Γ[i]? with
    | some (.sc ns) => some (.sc ns)
    | some sl => sl.data.map Par.w
    | none => none
  | .o i => match Γ[i]? with
    | some (.own ob) => some (.own ob)
    | _ => none
def pars (Γ : SL) : List AK → Option (List Par)
  | [] => some []
  | k :: ks => match k.par Γ, pars Γ ks with
    | some x, some xs => some (x :: xs)
    | _, _ => none
def ownIx : List AK → List Nat
  | [] => []
  | .o i :: ks => i :: ownIx ks
  | _ :: ks => ownIx ks
def readIx : List AK → List Nat
  | [] => []
  | .s i :: ks => i :: readIx ks
  | _ :: ks => readIx ks
def updOwn (Γ : SL) : List Nat → List OB → SL
  | i :: is, o :: os => updOwn (Γ.set i (.own o)) is os
  | _, _ => Γ

section
variable {K : PySem.W.Frag} {c : Cc} {Γ : SL} {σ : St} {R H R' H' : Hp}
theorem own_ad : ∀ {ks : List AK} {vs : List V} {ps : List Par}, SOk K c Γ σ R H → AksOk K R σ ks vs → pars Γ ks = some ps →
    ownAd ps vs = (ownIx ks).map (fun i => adr ((σ[i]?.bind id).getD .non)) ∧ ∀ i ∈ ownIx ks, ∃ a o, σ[i]? = some (some (.ref a)) ∧ Γ[i]? = some (.own o) ∧ OBOk K R H a o ∧ R a = none ∧ (c.H0 a = none ∨ c.M a)
  | [], vs, ps, s, h, e => by cases e; exact ⟨rfl, fun i hi => by simp [ownIx] at hi⟩
  | k :: ks, vs, ps, s, ⟨v, ws, h1, h2, h3⟩, e => by
    subst h1
    unfold pars at e
    split at e
    · rename_i p ps' e1 e2
      cases e
      obtain ⟨ih1, ih2⟩ := own_ad s h3 e2
      cases k with
      | d x => cases e1; exact ⟨ih1, ih2⟩
      | v x => cases e1; exact ⟨ih1, ih2⟩
      | s i =>
        have hp : ∀ o, p ≠ .own o := fun o z => by
          subst z
          simp only [AK.par] at e1
          split at e1
          · cases e1
          · obtain ⟨_, _, z⟩ := Option.map_eq_some_iff.mp e1; cases z
          · cases e1
        refine ⟨?_, ih2⟩
        cases p with
        | own o => exact absurd rfl (hp o)
        | _ => exact ih1
      | o i =>
        simp only [AK.par] at e1
        split at e1
        · rename_i o ho
          cases e1
          obtain ⟨q, q1, a, q2, q3, q4, q5⟩ := s.sl i _ ho
          have z : σ[i]? = some (some v) := h2
          rw [z] at q1; cases q1; cases q2
          refine ⟨?_, fun j hj => ?_⟩
          · show adr (.ref a) :: ownAd ps' ws = _
            rw [ih1]; simp [ownIx, z]
          · rcases List.mem_cons.mp hj with rfl | hj
            · exact ⟨a, o, z, ho, q3, q4, q5⟩
            · exact ih2 j hj
        · cases e1
    · cases e
theorem own_nd (s : SOk K c Γ σ R H) : ∀ {is : List Nat}, is.Nodup → (∀ i ∈ is, ∃ a o, σ[i]? = some (some (.ref a)) ∧ Γ[i]? = some (.own o) ∧ OBOk K R H a o ∧ R a = none ∧ (c.H0 a = none ∨ c.M a)) → (is.map (fun i => adr ((σ[i]?.bind id).getD .non))).Nodup
  | [], _, _ => by simp
  | i :: is, nd, h => by
    obtain ⟨n1, n2⟩ := List.nodup_cons.mp nd
    rw [List.map_cons, List.nodup_cons]
    refine ⟨fun z => ?_, own_nd s n2 fun j hj => h j (List.mem_cons_of_mem _ hj)⟩
    obtain ⟨j, hj, e⟩ := List.mem_map.mp z
    obtain ⟨a, o, q1, q2, _⟩ := h i List.mem_cons_self
    obtain ⟨b, o', r1, r2, _⟩ := h j (List.mem_cons_of_mem _ hj)
    rw [q1, r1] at e
    have e' : b = a := e
    subst e'
    have := s.dj i j b o o' q2 r2 q1 r1
    subst this
    exact n1 hj
theorem pars_ok {M : Addr → Prop} (s : SOk K c Γ σ R H) (hM : ∀ a, M a → c.H0 a = none ∨ c.M a) : ∀ {ks : List AK} {vs : List V} {ps : List Par}, AksOk K R σ ks vs → pars Γ ks = some ps → (∀ i ∈ readIx ks, ∀ a o, Γ[i]? = some (.own o) → σ[i]? = some (some (.ref a)) → ¬ M a) →
    ParsOk K M R H ps vs
  | [], vs, ps, h, e, _ => by cases e; exact h
  | k :: ks, vs, ps, ⟨v, ws, h1, h2, h3⟩, e, hr => by
    unfold pars at e
    split at e
    · rename_i p ps' e1 e2
      cases e
      refine ⟨v, ws, h1, ?_, pars_ok s hM h3 e2 fun i hi => hr i (by cases k <;> simp [readIx, hi])⟩
      cases k with
      | d x => cases e1; exact h2
      | v x => cases e1; exact .inl h2
      | o i =>
        simp only [AK.par] at e1
        split at e1
        · rename_i o ho
          cases e1
          obtain ⟨q, q1, a, q2, q3, q4, q5⟩ := s.sl i _ ho
          have z : σ[i]? = some (some v) := h2
          rw [z] at q1; cases q1; cases q2
          exact ⟨a, rfl, q3, q4⟩
        · cases e1
      | s i =>
        have z : σ[i]? = some (some v) := h2
        simp only [AK.par] at e1
        split at e1
        · rename_i ns ho
          cases e1
          obtain ⟨q, q1, a, q2, q3⟩ := s.sl i _ ho
          rw [z] at q1; cases q1; cases q2
          exact ⟨a, rfl, q3⟩
        · rename_i sl hns ho
          obtain ⟨x, ex, e3⟩ := Option.map_eq_some_iff.mp e1
          subst e3
          obtain ⟨q, q1, q2⟩ := s.sl i _ ho
          rw [z] at q1; cases q1
          show WOk K M R H x v
          cases sl with
          | no => cases ex
          | any => cases ex
          | d y => cases ex; obtain ⟨w, r1, r2⟩ := q2; cases r1; exact .inl r2
          | w y => cases ex; obtain ⟨w, r1, r2⟩ := q2; cases r1; exact r2.noM fun a o _ z h => z (hM a h)
          | sc ns => cases ex
          | ex _ _ _ => cases ex
          | own ob =>
            obtain ⟨a, r1, r2, _⟩ := q2
            cases r1
            have na := hr i (by simp [readIx]) a ob ho z
            cases ob with
            | lst ds => cases ex; obtain ⟨us, t1, t2⟩ := r2; exact .inr (.inl ⟨a, us, ds, rfl, rfl, na, t1, t2⟩)
            | dic ds => cases ex; obtain ⟨us, t1, t2⟩ := r2; exact .inr (.inr (.inl ⟨a, us, ds, rfl, rfl, na, t1, t2⟩))
            | ins nm fs => cases ex; obtain ⟨dx, us, t1, t2⟩ := r2; exact .inr (.inr (.inr ⟨a, dx, us, nm, fs, rfl, rfl, na, t1, t2⟩))
            | sto => cases ex
        · cases e1
    · cases e
theorem updOwn_len : ∀ {is : List Nat} {os : List OB} {Γ : SL}, (updOwn Γ is os).length = Γ.length
  | [], _, _ => rfl
  | _ :: _, [], _ => rfl
  | i :: is, o :: os, Γ => by show (updOwn (Γ.set i (.own o)) is os).length = _; rw [updOwn_len, List.length_set]
theorem updOwn_out : ∀ {is : List Nat} {os : List OB} {Γ : SL} {j : Nat}, j ∉ is → (updOwn Γ is os)[j]? = Γ[j]?
  | [], _, _, _, _ => rfl
  | _ :: _, [], _, _, _ => rfl
  | i :: is, o :: os, Γ, j, h => by
    show (updOwn (Γ.set i (.own o)) is os)[j]? = _
    have hj : j ≠ i := fun e => h (by simp [e])
    rw [updOwn_out fun z => h (List.mem_cons_of_mem _ z), List.getElem?_set_ne (Ne.symm hj)]
theorem updOwn_in {R' H' : Hp} : ∀ {is : List Nat} {os : List OB} {Γ : SL}, is.Nodup → (∀ i ∈ is, i < Γ.length) → OwnsOk K R' H' (is.map (fun i => adr ((σ[i]?.bind id).getD .non))) os → ∀ i ∈ is, ∃ o, (updOwn Γ is os)[i]? = some (.own o) ∧ OBOk K R' H' (adr ((σ[i]?.bind id).getD .non)) o
  | [], _, _, _, _, _, i, h => by simp at h
  | j :: is, os, Γ, nd, hl, ⟨o, os', e, h1, h2⟩, i, hi => by
    subst e
    obtain ⟨n1, n2⟩ := List.nodup_cons.mp nd
    show ∃ o', (updOwn (Γ.set j (.own o)) is os')[i]? = _ ∧ _
    rcases List.mem_cons.mp hi with rfl | hi
    · refine ⟨o, ?_, h1⟩
      rw [updOwn_out n1, List.getElem?_set_self (hl i List.mem_cons_self)]
    · exact updOwn_in n2 (fun k hk => by rw [List.length_set]; exact hl k (List.mem_cons_of_mem _ hk)) h2 i hi
/-- behind a call the slots stand, what was lent renewed -/
theorem SOk.after {ks : List AK} {vs : List V} {ps : List Par} {os : List OB} (s : SOk K c Γ σ R H) (h : AksOk K R σ ks vs) (e : pars Γ ks = some ps) (nd : (ownIx ks).Nodup) (A : After K (ownAd ps vs) R H R' H') (ow : OwnsOk K R' H' (ownAd ps vs) os) :
    SOk K c (updOwn Γ (ownIx ks) os) σ R' H' := by
  obtain ⟨e1, e2⟩ := own_ad s h e
  have inO : ∀ a, a ∈ ownAd ps vs → c.H0 a = none ∨ c.M a := fun a ha => by
    rw [e1] at ha
    obtain ⟨i, hi, q⟩ := List.mem_map.mp ha
    obtain ⟨b, o, q1, q2, q3, q4, q5⟩ := e2 i hi
    rw [q1] at q
    have q' : b = a := q
    subst q'; exact q5
  have lt : ∀ i ∈ ownIx ks, i < Γ.length := fun i hi => by
    obtain ⟨b, o, q1, q2, _⟩ := e2 i hi
    exact (List.getElem?_eq_some_iff.mp q2).1
  rw [e1] at ow
  refine ⟨A.rh, s.r0.trans A.r, fun a o n q => A.h a o (fun z => ?_) (s.hm a o n q), fun a n => A.pr a (s.pr a n), fun a n q => A.un a (s.pr a n) (s.un a n q), by rw [updOwn_len]; exact s.len, fun i sl q => ?_, fun i j a o o' q1 q2 q3 q4 => ?_, fun p hp => ?_⟩
  · rcases inO a z with z | z
    · rw [z] at q; cases q
    · exact n z
  · by_cases hi : i ∈ ownIx ks
    · obtain ⟨o, w1, w2⟩ := updOwn_in (σ := σ) nd lt ow i hi
      rw [w1] at q; cases q
      obtain ⟨a, o', q1, q2, q3, q4, q5⟩ := e2 i hi
      rw [q1] at w2
      exact ⟨_, q1, a, rfl, w2, A.un a q3.there q4, q5⟩
    · rw [updOwn_out hi] at q
      obtain ⟨o, w1, w2⟩ := s.sl i sl q
      refine ⟨o, w1, ?_⟩
      cases sl with
      | no => exact w2
      | any => exact w2
      | d x => obtain ⟨v, z1, z2⟩ := w2; exact ⟨v, z1, Rp.mono A.r _ _ z2⟩
      | sc ns => obtain ⟨v, z1, z2⟩ := w2; exact ⟨v, z1, ex_l A.r z2⟩
      | ex _ _ _ => exact ⟨w2.1, w2.2.mono A.r⟩
      | w x => obtain ⟨v, z1, z2⟩ := w2; exact ⟨v, z1, z2.mono A.r fun a o na => A.h a o fun z => na (inO a z)⟩
      | own ob =>
        obtain ⟨a, z1, z2, z3, z4⟩ := w2
        refine ⟨a, z1, z2.mono A.r fun o => A.h a o fun z => ?_, A.un a z2.there z3, z4⟩
        rw [e1] at z
        obtain ⟨j, hj, q'⟩ := List.mem_map.mp z
        obtain ⟨b, o', q1, q2, _⟩ := e2 j hj
        rw [q1] at q'
        have q'' : b = a := q'
        subst q''
        subst z1
        have := s.dj i j b ob o' q q2 w1 q1
        subst this
        exact hi hj
  · have un : ∀ (i : Nat) (o : OB), (updOwn Γ (ownIx ks) os)[i]? = some (.own o) → ∃ o, Γ[i]? = some (.own o) := fun i o q => by
      by_cases hi : i ∈ ownIx ks
      · obtain ⟨a, o', _, q2, _⟩ := e2 i hi; exact ⟨o', q2⟩
      · rw [updOwn_out hi] at q; exact ⟨o, q⟩
    obtain ⟨u, z1⟩ := un i o q1
    obtain ⟨u', z2⟩ := un j o' q2
    exact s.dj i j a u u' z1 z2 q3 q4
  · obtain ⟨w1, o, w2⟩ := s.oi p hp
    refine ⟨w1, ?_⟩
    by_cases hi : p.1 ∈ ownIx ks
    · obtain ⟨o, z1, _⟩ := updOwn_in (σ := σ) nd lt ow p.1 hi; exact ⟨o, z1⟩
    · exact ⟨o, by rw [updOwn_out hi]; exact w2⟩
/-- freezing, any fresh thing -/
theorem SOk.freezeR {o : OB} {x : D} (s : SOk K c Γ σ R H) {v : V} (h : VOk K c Γ σ R H (.own o) v) (e : o.data = some x) : ∃ R', SOk K c Γ σ R' H ∧ Ex R R' ∧ Rp K R' x v := by
  obtain ⟨a, h1, h2, h4, h5, h6⟩ := h
  have main : ∀ u : HO, H a = some u → ∃ R', SOk K c Γ σ R' H ∧ Ex R R' ∧ R' a = some u := fun u hu => by
    have e : Ex R (upd R a u) := Ex.new h4
    refine ⟨upd R a u, ⟨fun b o q => ?_, s.r0.trans e, s.hm, s.pr, fun b n q => ?_, s.len, fun i x q => ?_, s.dj, s.oi⟩, e, upd_same⟩
    · by_cases z : b = a
      · subst z; rw [upd_same] at q; cases q; exact hu
      · rw [upd_ne z] at q; exact s.rh b o q
    · have z : b ≠ a := fun z => n (z ▸ h5)
      rw [upd_ne z]; exact s.un b n q
    · obtain ⟨o, q1, q2⟩ := s.sl i x q
      refine ⟨o, q1, ?_⟩
      cases x with
      | no => exact q2
      | any => exact q2
      | d x => obtain ⟨v, z1, z2⟩ := q2; exact ⟨v, z1, z2.mono e⟩
      | w x => obtain ⟨v, z1, z2⟩ := q2; exact ⟨v, z1, z2.mono e fun _ _ _ h => h⟩
      | own ob =>
        obtain ⟨b, z1, z2, z3, z4⟩ := q2
        have z : b ≠ a := fun z => h6 i ob q (by rw [q1, z1, z])
        exact ⟨b, z1, z2.mono e fun _ h => h, by rw [upd_ne z]; exact z3, z4⟩
      | sc ns => obtain ⟨b, z1, z2⟩ := q2; exact ⟨b, z1, ex_l e z2⟩
      | ex _ _ _ => exact ⟨q2.1, q2.2.mono e⟩
  cases o with
  | lst ds =>
    obtain ⟨vs, h2, h3⟩ := h2; cases e
    obtain ⟨R', a1, a2, a3⟩ := main _ h2
    exact ⟨R', a1, a2, a, vs, h1, a3, h3.mono a2⟩
  | dic ds =>
    obtain ⟨vs, h2, h3⟩ := h2; cases e
    obtain ⟨R', a1, a2, a3⟩ := main _ h2
    exact ⟨R', a1, a2, a, vs, h1, a3, h3.mono a2⟩
  | ins nm fs =>
    obtain ⟨dx, vs, h2, h3, h3'⟩ := h2; cases e
    obtain ⟨R', a1, a2, a3⟩ := main _ h2
    exact ⟨R', a1, a2, a, dx, vs, h1, a3, h3, h3'.mono a2⟩
  | sto => cases e
end

section
variable {X : Cx} {n : Nm} {c : Cc} {Γ : SL} {e a b : Expr} {x y z : D} {pos p : Pos} {nm : Str} {S : Sg} {es : List Expr}
/-- a fresh thing as data -/
theorem we_frz {Post : D → SL → Prop} (h : WO X n c Γ e fun o Γ' => ∃ x, o.data = some x ∧ Post x Γ') : WE X n c Γ e Post := .mk fun hn σ R H s Q q =>
  h.run hn σ R H s Q fun v R' H' o Γ' s' e' r ⟨x, hx, px⟩ => by
    obtain ⟨R2, s2, e2, r2⟩ := s'.freezeR r hx
    exact q v R2 H' x Γ' s2 (e'.trans e2) r2 px
theorem ev_frz {ds : List D} (h : EO X n c Γ e (.lst ds)) : EV X n c Γ e (.lst ds) := we_frz (wo_of h ⟨_, rfl, rfl, rfl⟩)

/-- f(e, ..): what is lent comes back renewed -/
theorem call_core {Post : Res → SL → Prop} (hc : CalF X n.k nm S) (j : Nat) (hj : n.GN[j]? = some nm) (hn : NOk X n c)
    (h : WA X n c Γ (e :: es) fun ks Γ1 => ∃ ps, pars Γ1 ks = some ps ∧ (ownIx ks).Nodup ∧ (∀ i ∈ readIx ks, i ∉ ownIx ks) ∧ S ps fun r os => Post r (updOwn Γ1 (ownIx ks) os))
    (he : starEach (e :: es) X.env = (false, eval e X.env) :: starEach es X.env) (hpl : (backTo pos (starEach es X.env)).any (·.1) = false)
    {σ : St} {R H : Hp} (s : SOk X.K c Γ σ R H) (Q : VK) (q : ∀ v R' H' r Γ', SOk X.K c Γ' σ R' H' → Ex R R' → VOk X.K c Γ' σ R' H' r v → Post r Γ' → Q v H') : tW X (.Call (.Name nm p) (e :: es) [] pos) σ H Q := by
  obtain ⟨f, fd, qs, k0, F, hk, hm, kp, hb⟩ := hc.ex
  obtain ⟨g1, g2, g3⟩ := hn.gl j nm hj
  refine (pe_call F (hc.rm.mono hk) g1 hm kp hb .nil pass0 pWA g2 he hpl).w ?_
  refine h.run hn σ R H s _ fun vs R1 H1 ks Γ1 s1 e1 r1 ⟨ps, h1, h2, h3, h4⟩ => ?_
  rw [List.append_nil]
  obtain ⟨o1, o2⟩ := own_ad s1 r1 h1
  have inO : ∀ a, a ∈ ownAd ps vs → c.H0 a = none ∨ c.M a := fun a ha => by
    rw [o1] at ha
    obtain ⟨i, hi, q⟩ := List.mem_map.mp ha
    obtain ⟨b, o, q1, q2, q3, q4, q5⟩ := o2 i hi
    rw [q1] at q
    have q' : b = a := q
    subst q'; exact q5
  refine ⟨R1, ps, _, s1.rh, pars_ok s1 inO r1 h1 fun i hi a o z1 z2 z3 => ?_, by rw [o1]; exact own_nd s1 h2 o2, h4, fun v R' H' r os A ro ow po => ?_⟩
  · rw [o1] at z3
    obtain ⟨j, hj, q⟩ := List.mem_map.mp z3
    obtain ⟨b, o', q1, q2, _⟩ := o2 j hj
    rw [q1] at q
    have q' : b = a := q
    subst q'
    have := s1.dj i j b o o' z1 q2 z2 q1
    subst this
    exact h3 i hi hj
  · have s2 := s1.after r1 h1 h2 A ow
    refine q v R' H' r _ s2 (e1.trans A.r) ?_ po
    cases r with
    | d x => exact ro
    | own ob =>
      obtain ⟨a, w1, w2, w3, w4⟩ := ro
      refine ⟨a, w1, w2, w3, ?_, fun i o z1 z2 => ?_⟩
      · cases z : c.H0 a with
        | none => rfl
        | some u => exact absurd w4 (s1.pr a (by rw [z]; simp))
      · have : ∃ o, Γ1[i]? = some (.own o) := by
          by_cases hi : i ∈ ownIx ks
          · obtain ⟨_, o', _, q2, _⟩ := o2 i hi; exact ⟨o', q2⟩
          · rw [updOwn_out hi] at z1; exact ⟨o, z1⟩
        obtain ⟨o', z3⟩ := this
        obtain ⟨w, u1, b, u2, u3, _⟩ := s1.sl i _ z3
        rw [z2] at u1; cases u1; cases u2
        exact u3.there w4
theorem we_call {Post : D → SL → Prop} (hc : CalF X n.k nm S) (j : Nat) (h : WA X n c Γ (e :: es) fun ks Γ1 => ∃ ps, pars Γ1 ks = some ps ∧ (ownIx ks).Nodup ∧ (∀ i ∈ readIx ks, i ∉ ownIx ks) ∧ S ps fun r os => ∃ x, r.data = some x ∧ Post x (updOwn Γ1 (ownIx ks) os))
    (hj : n.GN[j]? = some nm := by rfl) (he : starEach (e :: es) X.env = (false, eval e X.env) :: starEach es X.env := by exact se_c rfl) (hpl : (backTo pos (starEach es X.env)).any (·.1) = false := by exact se_any rfl) : WE X n c Γ (.Call (.Name nm p) (e :: es) [] pos) Post := .mk fun hn σ R H s Q q =>
  call_core (Post := fun r Γ' => ∃ x, r.data = some x ∧ Post x Γ') hc j hj hn h he hpl s Q fun v R' H' r Γ' s' e' ro ⟨x, hx, px⟩ => by
    cases r with
    | d y => cases hx; exact q v R' H' x Γ' s' e' ro px
    | own o =>
      obtain ⟨R2, s2, e2, r2⟩ := s'.freezeR ro hx
      exact q v R2 H' x Γ' s2 (e'.trans e2) r2 px
theorem wo_call {Post : OB → SL → Prop} (hc : CalF X n.k nm S) (j : Nat) (h : WA X n c Γ (e :: es) fun ks Γ1 => ∃ ps, pars Γ1 ks = some ps ∧ (ownIx ks).Nodup ∧ (∀ i ∈ readIx ks, i ∉ ownIx ks) ∧ S ps fun r os => ∃ o, r = .own o ∧ Post o (updOwn Γ1 (ownIx ks) os))
    (hj : n.GN[j]? = some nm := by rfl) (he : starEach (e :: es) X.env = (false, eval e X.env) :: starEach es X.env := by exact se_c rfl) (hpl : (backTo pos (starEach es X.env)).any (·.1) = false := by exact se_any rfl) : WO X n c Γ (.Call (.Name nm p) (e :: es) [] pos) Post := .mk fun hn σ R H s Q q =>
  call_core (Post := fun r Γ' => ∃ o, r = .own o ∧ Post o Γ') hc j hj hn h he hpl s Q fun v R' H' r Γ' s' e' ro ⟨x, hx, px⟩ => by
    subst hx; exact q v R' H' x Γ' s' e' ro px
/-- .. by arguments that are told -/
theorem we_callE {ks : List AK} {ps : List Par} {Post : D → SL → Prop} (hc : CalF X n.k nm S) (j : Nat) (ha : EA X n c Γ (e :: es) ks) (h : S ps fun r os => ∃ x, r.data = some x ∧ Post x (updOwn Γ (ownIx ks) os)) (hp : pars Γ ks = some ps := by rfl)
    (hnd : (ownIx ks).Nodup := by decide) (hrd : ∀ i ∈ readIx ks, i ∉ ownIx ks := by decide)
    (hj : n.GN[j]? = some nm := by rfl) (he : starEach (e :: es) X.env = (false, eval e X.env) :: starEach es X.env := by exact se_c rfl) (hpl : (backTo pos (starEach es X.env)).any (·.1) = false := by exact se_any rfl) : WE X n c Γ (.Call (.Name nm p) (e :: es) [] pos) Post :=
  we_call hc j (wa_of ha ⟨ps, hp, hnd, hrd, h⟩) hj he hpl
theorem wo_callE {ks : List AK} {ps : List Par} {Post : OB → SL → Prop} (hc : CalF X n.k nm S) (j : Nat) (ha : EA X n c Γ (e :: es) ks) (h : S ps fun r os => ∃ o, r = .own o ∧ Post o (updOwn Γ (ownIx ks) os)) (hp : pars Γ ks = some ps := by rfl)
    (hnd : (ownIx ks).Nodup := by decide) (hrd : ∀ i ∈ readIx ks, i ∉ ownIx ks := by decide)
    (hj : n.GN[j]? = some nm := by rfl) (he : starEach (e :: es) X.env = (false, eval e X.env) :: starEach es X.env := by exact se_c rfl) (hpl : (backTo pos (starEach es X.env)).any (·.1) = false := by exact se_any rfl) : WO X n c Γ (.Call (.Name nm p) (e :: es) [] pos) Post :=
  wo_call hc j (wa_of ha ⟨ps, hp, hnd, hrd, h⟩) hj he hpl
end
end DL

end
section
set_option Elab.async false
set_option linter.all false
set_option autoImplicit true
set_option maxRecDepth 100000
set_option maxHeartbeats 400000
namespace DL
open PySem L2
open PyProof.Rows hiding St

theorem Wks.get1 {K : PySem.W.Frag} {R H : Hp} {x : D} {vs : List V} (h : Wks K R H [x] vs) : ∃ v, vs = [v] ∧ Wk K R H x v := by
  obtain ⟨v, ws, rfl, h1, h2⟩ := h
  cases (show ws = [] from h2)
  exact ⟨v, rfl, h1⟩
theorem Wks.get2 {K : PySem.W.Frag} {R H : Hp} {x y : D} {vs : List V} (h : Wks K R H [x, y] vs) : ∃ v w, vs = [v, w] ∧ Wk K R H x v ∧ Wk K R H y w := by
  obtain ⟨v, ws, rfl, h1, w, us, rfl, h2, h3⟩ := h
  cases (show us = [] from h3)
  exact ⟨v, w, rfl, h1, h2⟩

section
variable {X : Cx} {n : Nm} {c : Cc} {Γ : SL} {e a b : Expr} {x y z : D} {pos p : Pos} {nm : Str} {es : List Expr} {k l : AK} {ks : List AK} {i j : Int} {xs : List D}
/-! ### built-ins by name -/
structure Blt (X : Cx) (nm : Str) (f : Value) : Prop where
  mg : X.mg nm = none
  bt : bootBuiltins nm = some f
def DCall (X : Cx) (n : Nm) (c : Cc) (f : Value) (P : List D → (D → Prop) → Prop) : Prop := NOk X n c → ∃ r, CallR X f r ∧
  ∀ Γ σ R H xs vs Post, SOk X.K c Γ σ R H → Wks X.K R H xs vs → P xs Post → ∀ Q : VK,
    (∀ u R' H' z, SOk X.K c Γ σ R' H' → Ex R R' → Rp X.K R' z u → Post z → Q u H') → r vs H Q
/-- .. a fresh list or tuple -/
def DCallO (X : Cx) (n : Nm) (c : Cc) (f : Value) (P : List D → (OB → Prop) → Prop) : Prop := NOk X n c → ∃ r, CallR X f r ∧
  ∀ Γ σ R H xs vs Post, SOk X.K c Γ σ R H → Wks X.K R H xs vs → P xs Post → ∀ Q : VK,
    (∀ u R' H' z, SOk X.K c Γ σ R' H' → Ex R R' → VOk X.K c Γ σ R' H' (.own z) u → Post z → Q u H') → r vs H Q
theorem we_blt {id : String} {P : List D → (D → Prop) → Prop} {Post : D → SL → Prop} (hb : Blt X nm (.builtin id)) (ho : DCall X n c (.builtin id) P) (j : Nat) (h : WA X n c Γ (e :: es) fun ks Γ1 => ∃ xs, gets Γ1 ks = some xs ∧ P xs fun z => Post z Γ1)
    (hj : n.GN[j]? = some nm := by rfl) (he : starEach (e :: es) X.env = (false, eval e X.env) :: starEach es X.env := by exact se_c rfl) (hpl : (backTo pos (starEach es X.env)).any (·.1) = false := by exact se_any rfl) : WE X n c Γ (.Call (.Name nm p) (e :: es) [] pos) Post := .mk fun hn σ R H s Q q => by
  obtain ⟨r, h1, h2⟩ := ho hn
  obtain ⟨g1, g2, g3⟩ := hn.gl j nm hj
  refine (pe_callB h1 g1 hb.mg hb.bt pWA g3 g2 he hpl).w (h.run hn σ R H s _ fun vs R1 H1 ks Γ1 s1 e1 r1 ⟨xs, gx, px⟩ => ?_)
  exact h2 Γ1 σ R1 H1 xs vs _ s1 (r1.wks s1 gx) px Q fun u R' H' z s' e' r' p' => q u R' H' z Γ1 s' (e1.trans e') r' p'
theorem we_bty {id : String} {P : List D → (D → Prop) → Prop} {Post : D → SL → Prop} (hb : Blt X nm (.type id)) (ho : DCall X n c (.type id) P) (j : Nat) (h : WA X n c Γ (e :: es) fun ks Γ1 => ∃ xs, gets Γ1 ks = some xs ∧ P xs fun z => Post z Γ1)
    (hj : n.GN[j]? = some nm := by rfl) (he : starEach (e :: es) X.env = (false, eval e X.env) :: starEach es X.env := by exact se_c rfl) (hpl : (backTo pos (starEach es X.env)).any (·.1) = false := by exact se_any rfl) : WE X n c Γ (.Call (.Name nm p) (e :: es) [] pos) Post := .mk fun hn σ R H s Q q => by
  obtain ⟨r, h1, h2⟩ := ho hn
  obtain ⟨g1, g2, g3⟩ := hn.gl j nm hj
  refine (pe_callTy h1 g1 hb.mg hb.bt pWA g3 g2 he hpl).w (h.run hn σ R H s _ fun vs R1 H1 ks Γ1 s1 e1 r1 ⟨xs, gx, px⟩ => ?_)
  exact h2 Γ1 σ R1 H1 xs vs _ s1 (r1.wks s1 gx) px Q fun u R' H' z s' e' r' p' => q u R' H' z Γ1 s' (e1.trans e') r' p'
theorem wo_bty {id : String} {P : List D → (OB → Prop) → Prop} {Post : OB → SL → Prop} (hb : Blt X nm (.type id)) (ho : DCallO X n c (.type id) P) (j : Nat) (h : WA X n c Γ (e :: es) fun ks Γ1 => ∃ xs, gets Γ1 ks = some xs ∧ P xs fun z => Post z Γ1)
    (hj : n.GN[j]? = some nm := by rfl) (he : starEach (e :: es) X.env = (false, eval e X.env) :: starEach es X.env := by exact se_c rfl) (hpl : (backTo pos (starEach es X.env)).any (·.1) = false := by exact se_any rfl) : WO X n c Γ (.Call (.Name nm p) (e :: es) [] pos) Post := .mk fun hn σ R H s Q q => by
  obtain ⟨r, h1, h2⟩ := ho hn
  obtain ⟨g1, g2, g3⟩ := hn.gl j nm hj
  refine (pe_callTy h1 g1 hb.mg hb.bt pWA g3 g2 he hpl).w (h.run hn σ R H s _ fun vs R1 H1 ks Γ1 s1 e1 r1 ⟨xs, gx, px⟩ => ?_)
  exact h2 Γ1 σ R1 H1 xs vs _ s1 (r1.wks s1 gx) px Q fun u R' H' z s' e' r' p' => q u R' H' z Γ1 s' (e1.trans e') r' p'
theorem ev_blt {id : String} {P : List D → (D → Prop) → Prop} (hb : Blt X nm (.builtin id)) (ho : DCall X n c (.builtin id) P) (j : Nat) (ha : EA X n c Γ (e :: es) ks) (hp : ∀ Post : D → Prop, Post z → P xs Post) (hg : gets Γ ks = some xs := by rfl)
    (hj : n.GN[j]? = some nm := by rfl) (he : starEach (e :: es) X.env = (false, eval e X.env) :: starEach es X.env := by exact se_c rfl) (hpl : (backTo pos (starEach es X.env)).any (·.1) = false := by exact se_any rfl) : EV X n c Γ (.Call (.Name nm p) (e :: es) [] pos) z :=
  we_blt hb ho j (wa_of ha ⟨xs, hg, hp _ ⟨rfl, rfl⟩⟩) hj he hpl
theorem ev_bty {id : String} {P : List D → (D → Prop) → Prop} (hb : Blt X nm (.type id)) (ho : DCall X n c (.type id) P) (j : Nat) (ha : EA X n c Γ (e :: es) ks) (hp : ∀ Post : D → Prop, Post z → P xs Post) (hg : gets Γ ks = some xs := by rfl)
    (hj : n.GN[j]? = some nm := by rfl) (he : starEach (e :: es) X.env = (false, eval e X.env) :: starEach es X.env := by exact se_c rfl) (hpl : (backTo pos (starEach es X.env)).any (·.1) = false := by exact se_any rfl) : EV X n c Γ (.Call (.Name nm p) (e :: es) [] pos) z :=
  we_bty hb ho j (wa_of ha ⟨xs, hg, hp _ ⟨rfl, rfl⟩⟩) hj he hpl
theorem eo_bty {id : String} {o : OB} {P : List D → (OB → Prop) → Prop} (hb : Blt X nm (.type id)) (ho : DCallO X n c (.type id) P) (j : Nat) (ha : EA X n c Γ (e :: es) ks) (hp : ∀ Post : OB → Prop, Post o → P xs Post) (hg : gets Γ ks = some xs := by rfl)
    (hj : n.GN[j]? = some nm := by rfl) (he : starEach (e :: es) X.env = (false, eval e X.env) :: starEach es X.env := by exact se_c rfl) (hpl : (backTo pos (starEach es X.env)).any (·.1) = false := by exact se_any rfl) : EO X n c Γ (.Call (.Name nm p) (e :: es) [] pos) o :=
  wo_bty hb ho j (wa_of ha ⟨xs, hg, hp _ ⟨rfl, rfl⟩⟩) hj he hpl
/-- len -/
def D.len : D → Option Nat
  | .lst xs => some xs.length
  | .tup xs => some xs.length
  | .str x => some x.length
  | _ => none
def PLen : List D → (D → Prop) → Prop := fun xs Post => ∃ x m, xs = [x] ∧ x.len = some m ∧ (∀ z, x = .str z → z.length ≤ sizeLine) ∧ Post (.int (m : Int))
theorem dc_len : DCall X n c (.builtin "len") PLen := fun _ => ⟨_, call_len, fun Γ σ R H xs vs Post s hx ⟨x, m, e1, e2, hz, p⟩ Q q => by
  subst e1
  obtain ⟨v, rfl, h1⟩ := hx.get1
  refine ⟨v, m, rfl, ?_, q (.int (m : Int)) R H (.int (m : Int)) s (Ex.refl _) rfl p⟩
  cases x with
  | lst xs => obtain ⟨a, vs, rfl, h2, h3⟩ := h1.lst s.rh; cases e2; exact .inl ⟨vs, .inl (.inl h2), h3.length⟩
  | tup xs => obtain ⟨a, vs, rfl, h2, h3⟩ := h1.tup s.rh; cases e2; exact .inr ⟨vs, h2, h3.length⟩
  | str y => cases h1.str; cases e2; exact ⟨hz y rfl, rfl⟩
  | _ => cases e2⟩
theorem ev_len {m : Nat} (hb : Blt X "len" (.builtin "len")) (j : Nat) (ha : EK X n c Γ e k) (hm : x.len = some m := by rfl) (hz : ∀ z, x = .str z → z.length ≤ sizeLine := by intro _ h; cases h) (hg : k.get Γ = some x := by rfl) (hj : n.GN[j]? = some ("len" : Str) := by rfl)
    (he : starEach [e] X.env = (false, eval e X.env) :: starEach [] X.env := by exact se_c rfl) (hpl : (backTo pos (starEach [] X.env)).any (·.1) = false := by exact se_any rfl) : EV X n c Γ (.Call (.Name "len" p) [e] [] pos) (.int (m : Int)) :=
  ev_blt hb dc_len j (ea_cons ha ea_nil he) (xs := [x]) (fun _ p => ⟨x, m, rfl, hm, hz, p⟩) (by simp [gets, hg]) hj he hpl
/-- abs, max, min, int -/
theorem dc_abs : DCall X n c (.builtin "abs") (fun xs Post => ∃ i, xs = [.int i] ∧ Post (.int (if i < 0 then -i else i))) := fun _ => ⟨_, call_abs, fun Γ σ R H xs vs Post s hx ⟨i, e1, p⟩ Q q => by
  subst e1
  obtain ⟨v, rfl, h1⟩ := hx.get1
  cases h1.int
  exact ⟨i, rfl, q (.int (if i < 0 then -i else i)) R H (.int (if i < 0 then -i else i)) s (Ex.refl _) rfl p⟩⟩
theorem dc_max (hh : n.hot = false := by rfl) : DCall X n c (.builtin "max") (fun xs Post => ∃ i j, xs = [.int i, .int j] ∧ Post (.int (if j > i then j else i))) := fun hn => ⟨_, call_max2 (hn.calm hh), fun Γ σ R H xs vs Post s hx ⟨i, j, e1, p⟩ Q q => by
  subst e1
  obtain ⟨v, w, rfl, h1, h2⟩ := hx.get2
  cases h1.int; cases h2.int
  exact ⟨i, j, rfl, q (.int (if j > i then j else i)) R H (.int (if j > i then j else i)) s (Ex.refl _) rfl p⟩⟩
theorem dc_min (hh : n.hot = false := by rfl) : DCall X n c (.builtin "min") (fun xs Post => ∃ i j, xs = [.int i, .int j] ∧ Post (.int (if j < i then j else i))) := fun hn => ⟨_, call_min2 (hn.calm hh), fun Γ σ R H xs vs Post s hx ⟨i, j, e1, p⟩ Q q => by
  subst e1
  obtain ⟨v, w, rfl, h1, h2⟩ := hx.get2
  cases h1.int; cases h2.int
  exact ⟨i, j, rfl, q (.int (if j < i then j else i)) R H (.int (if j < i then j else i)) s (Ex.refl _) rfl p⟩⟩
theorem dc_int : DCall X n c (.type "int") (fun xs Post => (∃ i, xs = [.int i] ∧ Post (.int i)) ∨ ∃ b, xs = [.bl b] ∧ Post (.int (if b then 1 else 0))) := fun hn => ⟨_, call_int1, fun Γ σ R H xs vs Post s hx hp Q q => by
  rcases hp with ⟨i, e1, p⟩ | ⟨b, e1, p⟩
  · subst e1
    obtain ⟨v, rfl, h1⟩ := hx.get1
    cases h1.int
    exact .inl ⟨i, rfl, q (.int i) R H (.int i) s (Ex.refl _) rfl p⟩
  · subst e1
    obtain ⟨v, rfl, h1⟩ := hx.get1
    cases h1.bl
    exact .inr ⟨b, rfl, q (.int (if b then 1 else 0)) R H (.int (if b then 1 else 0)) s (Ex.refl _) rfl p⟩⟩
theorem ev_abs (hb : Blt X "abs" (.builtin "abs")) (j : Nat) (ha : EV X n c Γ e (.int i)) (hj : n.GN[j]? = some ("abs" : Str) := by rfl) (he : starEach [e] X.env = (false, eval e X.env) :: starEach [] X.env := by exact se_c rfl) (hpl : (backTo pos (starEach [] X.env)).any (·.1) = false := by exact se_any rfl) : EV X n c Γ (.Call (.Name "abs" p) [e] [] pos) (.int (if i < 0 then -i else i)) :=
  ev_blt hb dc_abs j (ea_cons (ek_d ha) ea_nil he) (fun _ p => ⟨i, rfl, p⟩) rfl hj he hpl
theorem ev_max {jj : Int} (hb : Blt X "max" (.builtin "max")) (j : Nat) (ha : EV X n c Γ a (.int i)) (hb' : EV X n c Γ b (.int jj)) (hj : n.GN[j]? = some ("max" : Str) := by rfl) (hh : n.hot = false := by rfl) (he : starEach [a, b] X.env = (false, eval a X.env) :: starEach [b] X.env := by exact se_c rfl) (he2 : starEach [b] X.env = (false, eval b X.env) :: starEach [] X.env := by exact se_c rfl) (hpl : (backTo pos (starEach [b] X.env)).any (·.1) = false := by exact se_any rfl) :
    EV X n c Γ (.Call (.Name "max" p) [a, b] [] pos) (.int (if jj > i then jj else i)) := ev_blt hb (dc_max hh) j (ea_cons (ek_d ha) (ea_cons (ek_d hb') ea_nil he2) he) (fun _ p => ⟨i, jj, rfl, p⟩) rfl hj he hpl
theorem ev_min {jj : Int} (hb : Blt X "min" (.builtin "min")) (j : Nat) (ha : EV X n c Γ a (.int i)) (hb' : EV X n c Γ b (.int jj)) (hj : n.GN[j]? = some ("min" : Str) := by rfl) (hh : n.hot = false := by rfl) (he : starEach [a, b] X.env = (false, eval a X.env) :: starEach [b] X.env := by exact se_c rfl) (he2 : starEach [b] X.env = (false, eval b X.env) :: starEach [] X.env := by exact se_c rfl) (hpl : (backTo pos (starEach [b] X.env)).any (·.1) = false := by exact se_any rfl) :
    EV X n c Γ (.Call (.Name "min" p) [a, b] [] pos) (.int (if jj < i then jj else i)) := ev_blt hb (dc_min hh) j (ea_cons (ek_d ha) (ea_cons (ek_d hb') ea_nil he2) he) (fun _ p => ⟨i, jj, rfl, p⟩) rfl hj he hpl
theorem ev_toint (hb : Blt X "int" (.type "int")) (j : Nat) (ha : EV X n c Γ e (.int i)) (hj : n.GN[j]? = some ("int" : Str) := by rfl) (he : starEach [e] X.env = (false, eval e X.env) :: starEach [] X.env := by exact se_c rfl) (hpl : (backTo pos (starEach [] X.env)).any (·.1) = false := by exact se_any rfl) : EV X n c Γ (.Call (.Name "int" p) [e] [] pos) (.int i) :=
  ev_bty hb dc_int j (ea_cons (ek_d ha) ea_nil he) (fun _ p => .inl ⟨i, rfl, p⟩) rfl hj he hpl
theorem ev_tointb {bb : Bool} (hb : Blt X "int" (.type "int")) (j : Nat) (ha : EV X n c Γ e (.bl bb)) (hj : n.GN[j]? = some ("int" : Str) := by rfl) (he : starEach [e] X.env = (false, eval e X.env) :: starEach [] X.env := by exact se_c rfl) (hpl : (backTo pos (starEach [] X.env)).any (·.1) = false := by exact se_any rfl) : EV X n c Γ (.Call (.Name "int" p) [e] [] pos) (.int (if bb then 1 else 0)) :=
  ev_bty hb dc_int j (ea_cons (ek_d ha) ea_nil he) (fun _ p => .inr ⟨bb, rfl, p⟩) rfl hj he hpl
/-- list(xs), tuple(xs) -/
def D.seq : D → Option (List D)
  | .lst xs => some xs
  | .tup xs => some xs
  | _ => none
theorem dc_list : DCallO X n c (.type "list") (fun xs Post => ∃ x ds, xs = [x] ∧ x.seq = some ds ∧ Post (.lst ds)) := fun hn => ⟨_, call_list_of, fun Γ σ R H xs vs Post s hx ⟨x, ds, e1, e2, p⟩ Q q => by
  subst e1
  obtain ⟨v, rfl, h1⟩ := hx.get1
  have fin : ∀ (us : List V), RpL X.K R ds us → ∀ l, H l = none → Q (.ref l) (upd H l (.lst us)) := fun us hu l hl => by
    have g := s.newOwn (.lst us) hl
    refine q _ R _ (.lst ds) (s.grow g) (Ex.refl _) ⟨l, rfl, ⟨us, upd_same, hu⟩, s.rh.back hl, ?_, fun i o z1 z2 => ?_⟩ p
    · cases z : c.H0 l with
      | none => rfl
      | some u => exact absurd hl (s.pr l (by rw [z]; simp))
    · obtain ⟨w, u1, b, u2, u3, _⟩ := s.sl i _ z1
      rw [z2] at u1; cases u1; cases u2
      exact u3.there hl
  cases x with
  | lst xs => obtain ⟨a, us, rfl, h2, h3⟩ := h1.lst s.rh; cases e2; exact ⟨a, us, rfl, .inl (.inl (.inl h2)), fin us h3⟩
  | tup xs => obtain ⟨a, us, rfl, h2, h3⟩ := h1.tup s.rh; cases e2; exact ⟨a, us, rfl, .inr h2, fin us h3⟩
  | _ => cases e2⟩
theorem dc_tuple : DCall X n c (.type "tuple") (fun xs Post => ∃ x ds, xs = [x] ∧ x.seq = some ds ∧ Post (.tup ds)) := fun hn => ⟨_, call_tuple_of, fun Γ σ R H xs vs Post s hx ⟨x, ds, e1, e2, p⟩ Q q => by
  subst e1
  obtain ⟨v, rfl, h1⟩ := hx.get1
  cases x with
  | lst xs =>
    obtain ⟨a, us, rfl, h2, h3⟩ := h1.lst s.rh; cases e2
    refine ⟨a, us, rfl, .inl ⟨.inl (.inl h2), fun l hl => ?_⟩⟩
    have g := s.new (.tup us) hl
    exact q _ _ _ (.tup ds) (s.grow g) g.r ⟨l, us, rfl, .inl (.inl upd_same), h3.mono g.r⟩ p
  | tup xs =>
    rcases h1 with ⟨a, us, rfl, h2, h3⟩ | ⟨a, us, es, h1, h2, _⟩ | ⟨a, us, es, h1, h2, _⟩ | ⟨a, dx, us, nm, fs, h1, h2, _⟩
    · cases e2; exact ⟨a, us, rfl, .inr ⟨ex_t s.rh h2, q _ R H (.tup ds) s (Ex.refl _) ⟨a, us, rfl, h2, h3⟩ p⟩⟩
    · cases h2
    · cases h2
    · cases h2
  | _ => cases e2⟩
theorem eo_list {ds : List D} (hb : Blt X "list" (.type "list")) (j : Nat) (ha : EK X n c Γ e k) (hs : x.seq = some ds := by rfl) (hg : k.get Γ = some x := by rfl) (hj : n.GN[j]? = some ("list" : Str) := by rfl) (he : starEach [e] X.env = (false, eval e X.env) :: starEach [] X.env := by exact se_c rfl) (hpl : (backTo pos (starEach [] X.env)).any (·.1) = false := by exact se_any rfl) :
    EO X n c Γ (.Call (.Name "list" p) [e] [] pos) (.lst ds) := eo_bty hb dc_list j (ea_cons ha ea_nil he) (xs := [x]) (fun _ p => ⟨x, ds, rfl, hs, p⟩) (by simp [gets, hg]) hj he hpl
theorem ev_tuple {ds : List D} (hb : Blt X "tuple" (.type "tuple")) (j : Nat) (ha : EK X n c Γ e k) (hs : x.seq = some ds := by rfl) (hg : k.get Γ = some x := by rfl) (hj : n.GN[j]? = some ("tuple" : Str) := by rfl) (he : starEach [e] X.env = (false, eval e X.env) :: starEach [] X.env := by exact se_c rfl) (hpl : (backTo pos (starEach [] X.env)).any (·.1) = false := by exact se_any rfl) :
    EV X n c Γ (.Call (.Name "tuple" p) [e] [] pos) (.tup ds) := ev_bty hb dc_tuple j (ea_cons ha ea_nil he) (xs := [x]) (fun _ p => ⟨x, ds, rfl, hs, p⟩) (by simp [gets, hg]) hj he hpl

/-! ### subscripts -/
def DIx (X : Cx) (n : Nm) (c : Cc) (P : D → D → (D → Prop) → Prop) : Prop := NOk X n c → ∃ r, IxR X r ∧
  ∀ Γ σ R H x y v w Post, SOk X.K c Γ σ R H → Wk X.K R H x v → Wk X.K R H y w → P x y Post → ∀ Q : VK,
    (∀ u R' H' z, SOk X.K c Γ σ R' H' → Ex R R' → Rp X.K R' z u → Post z → Q u H') → r v w H Q
theorem we_ix {P : D → D → (D → Prop) → Prop} {Post : D → SL → Prop} (ho : DIx X n c P) (h : WK X n c Γ a fun k Γ1 => WK X n c Γ1 b fun l Γ2 => ∃ x y, k.get Γ2 = some x ∧ l.get Γ2 = some y ∧ P x y fun z => Post z Γ2) (hs : PlainIx b := by intro _ _; rfl) : WE X n c Γ (.Subscript a b pos) Post := .mk fun hn σ R H s Q q => by
  obtain ⟨r, h1, h2⟩ := ho hn
  refine (pe_ix h1 pW pW hs).w (h.run hn σ R H s _ fun v R1 H1 k Γ1 s1 e1 r1 p1 => p1.run hn σ R1 H1 s1 _ fun w R2 H2 l Γ2 s2 e2 r2 ⟨x, y, g1, g2, p2⟩ => ?_)
  exact h2 Γ2 σ R2 H2 x y v w _ s2 ((r1.mono e2).wk s2 g1) (r2.wk s2 g2) p2 Q fun u R' H' z s' e' r' p' => q u R' H' z Γ2 s' (e1.trans (e2.trans e')) r' p'
theorem atI_rp {K : PySem.W.Frag} {R : Hp} {ds : List D} {vs : List V} {i : Int} {d : D} (h : RpL K R ds vs) (e : atI ds i = some d) : ∃ v, atI vs i = some v ∧ Rp K R d v := by
  unfold atI at e ⊢
  rw [← h.length]
  obtain ⟨j, e1, e2⟩ := Option.bind_eq_some_iff.mp e
  obtain ⟨v, h1, h2⟩ := h.get e2
  exact ⟨v, by rw [e1]; exact h1, h2⟩
def D.at (x : D) (i : Int) : Option D := match x with
  | .lst ds => atI ds i
  | .tup ds => atI ds i
  | .str z => if z.length ≤ sizeLine then (atI z.cps.toList i).map fun c => .str ⟨#[c]⟩ else none
  | _ => none
def PIx : D → D → (D → Prop) → Prop := fun x y Post => ∃ i z, y = .int i ∧ x.at i = some z ∧ Post z
theorem di_seq : DIx X n c PIx := fun _ => ⟨_, ix_seq, fun Γ σ R H x y v w Post s hx hy ⟨i, z, e1, e2, p⟩ Q q => by
  subst e1
  cases hy.int
  cases x with
  | lst ds =>
    obtain ⟨a, vs, rfl, h2, h3⟩ := hx.lst s.rh
    obtain ⟨u, h4, h5⟩ := atI_rp h3 e2
    exact .inl ⟨a, vs, i, u, rfl, rfl, .inl (.inl h2), h4, q u R H z s (Ex.refl _) h5 p⟩
  | tup ds =>
    obtain ⟨a, vs, rfl, h2, h3⟩ := hx.tup s.rh
    obtain ⟨u, h4, h5⟩ := atI_rp h3 e2
    exact .inr (.inl ⟨a, vs, i, u, rfl, rfl, h2, h4, q u R H z s (Ex.refl _) h5 p⟩)
  | str y =>
    cases hx.str
    have e3 : (if y.length ≤ sizeLine then (atI y.cps.toList i).map fun c => D.str ⟨#[c]⟩ else none) = some z := e2
    split at e3
    · rename_i hz
      obtain ⟨c, e4, e5⟩ := Option.map_eq_some_iff.mp e3
      subst e5
      exact .inr (.inr ⟨y, i, c, rfl, rfl, hz, e4, q (.str ⟨#[c]⟩) R H (.str ⟨#[c]⟩) s (Ex.refl _) rfl p⟩)
    · cases e3
  | _ => cases e2⟩
theorem ev_ix (ha : EK X n c Γ a k) (hb : EV X n c Γ b (.int i)) (h : x.at i = some z) (hg : k.get Γ = some x := by rfl) (hs : PlainIx b := by intro _ _; rfl) : EV X n c Γ (.Subscript a b pos) z :=
  we_ix di_seq (wk_ek ha (wk_ek (ek_d hb) ⟨x, _, hg, rfl, i, z, rfl, h, rfl, rfl⟩)) hs
/-- t[0], t[1], .. of a written tuple -/
theorem ev_ixt (ha : EV X n c Γ a x) (hb : EV X n c Γ b (.int i)) (h : x.at i = some z := by rfl) (hs : PlainIx b := by intro _ _; rfl) : EV X n c Γ (.Subscript a b pos) z := ev_ix (ek_d ha) hb h rfl hs

/-! ### displays -/
def dats : List AK → Option (List D)
  | [] => some []
  | .d x :: ks => (dats ks).map (x :: ·)
  | _ => none
theorem dats_ok {K : PySem.W.Frag} {R : Hp} {σ : St} : ∀ {ks : List AK} {vs : List V} {xs : List D}, AksOk K R σ ks vs → dats ks = some xs → RpL K R xs vs
  | [], _, _, h, e => by cases e; exact h
  | k :: ks, _, _, ⟨v, ws, h1, h2, h3⟩, e => by
    cases k with
    | d x => obtain ⟨ys, e1, e2⟩ := Option.map_eq_some_iff.mp e; subst e2; exact ⟨v, ws, h1, h2, dats_ok h3 e1⟩
    | _ => cases e
theorem we_tup {x1} {Post : D → SL → Prop} (h : WA X n c Γ es fun ks Γ' => ∃ xs, dats ks = some xs ∧ xs.length ≤ 1000 ∧ Post (.tup xs) Γ') : WE X n c Γ (.Tuple es x1 pos) Post := .mk fun hn σ R H s Q q =>
  (pe_tup pWA).w (h.run hn σ R H s _ fun vs R1 H1 ks Γ1 s1 e1 r1 ⟨xs, hx, hz, px⟩ => by
    have hr := dats_ok r1 hx
    refine ⟨by have := hr.length; rw [sizeLine_eq]; omega, fun l hl => ?_⟩
    have g := s1.new (.tup vs) hl
    exact q _ _ _ (.tup xs) Γ1 (s1.grow g) (e1.trans g.r) ⟨l, vs, rfl, .inl (.inl upd_same), hr.mono g.r⟩ px)
theorem VOk.fresh {K : PySem.W.Frag} {σ : St} {R H : Hp} {l : Addr} {ob : OB} (s : SOk K c Γ σ R H) {o : HO} (hl : H l = none) (h : OBOk K R (upd H l o) l ob) : VOk K c Γ σ R (upd H l o) (.own ob) (.ref l) := by
  refine ⟨l, rfl, h, s.rh.back hl, ?_, fun i o z1 z2 => ?_⟩
  · cases z : c.H0 l with
    | none => rfl
    | some u => exact absurd hl (s.pr l (by rw [z]; simp))
  · obtain ⟨w, u1, b, u2, u3, _⟩ := s.sl i _ z1
    rw [z2] at u1; cases u1; cases u2
    exact u3.there hl
theorem wo_lst {Post : OB → SL → Prop} (h : WA X n c Γ es fun ks Γ' => ∃ xs, dats ks = some xs ∧ xs.length ≤ 1000 ∧ Post (.lst xs) Γ') : WO X n c Γ (.List es pos) Post := .mk fun hn σ R H s Q q =>
  (pe_lst pWA).w (h.run hn σ R H s _ fun vs R1 H1 ks Γ1 s1 e1 r1 ⟨xs, hx, hz, px⟩ => by
    have hr := dats_ok r1 hx
    refine ⟨by have := hr.length; rw [sizeLine_eq]; omega, fun l hl => ?_⟩
    have g := s1.newOwn (.lst vs) hl
    exact q _ _ _ (.lst xs) Γ1 (s1.grow g) (e1.trans g.r) (.fresh s1 hl ⟨vs, upd_same, hr⟩) px)
theorem ev_tup {x1} (h : EA X n c Γ es ks) (hx : dats ks = some xs := by rfl) (hz : Nat.ble xs.length 1000 = true := by rfl) : EV X n c Γ (.Tuple es x1 pos) (.tup xs) := we_tup (wa_of h ⟨xs, hx, Nat.le_of_ble_eq_true hz, rfl, rfl⟩)
theorem eo_lst (h : EA X n c Γ es ks) (hx : dats ks = some xs := by rfl) (hz : Nat.ble xs.length 1000 = true := by rfl) : EO X n c Γ (.List es pos) (.lst xs) := wo_lst (wa_of h ⟨xs, hx, Nat.le_of_ble_eq_true hz, rfl, rfl⟩)

/-! ### list + list, slices -/
theorem wo_cat {Post : OB → SL → Prop} (h : WK X n c Γ a fun k Γ1 => WK X n c Γ1 b fun l Γ2 => ∃ xs ys, k.get Γ2 = some (.lst xs) ∧ l.get Γ2 = some (.lst ys) ∧ xs.length + ys.length ≤ 1000000 ∧ Post (.lst (xs ++ ys)) Γ2) : WO X n c Γ (.BinOp a .Add b pos) Post := .mk fun hn σ R H s Q q =>
  (pe_op op_cat pW pW).w (h.run hn σ R H s _ fun v R1 H1 k Γ1 s1 e1 r1 p1 => p1.run hn σ R1 H1 s1 _ fun w R2 H2 l Γ2 s2 e2 r2 ⟨xs, ys, g1, g2, hz, p2⟩ => by
    obtain ⟨a1, vs, rfl, h2, h3⟩ := ((r1.mono e2).wk s2 g1).lst s2.rh
    obtain ⟨a2, ws, rfl, h4, h5⟩ := (r2.wk s2 g2).lst s2.rh
    refine ⟨a1, a2, vs, ws, rfl, rfl, h2, h4, by rw [← h3.length, ← h5.length, sizeLine_eq]; omega, fun m hm => ?_⟩
    have g := s2.newOwn (.lst (vs ++ ws)) hm
    exact q _ _ _ (.lst (xs ++ ys)) Γ2 (s2.grow g) ((e1.trans e2).trans g.r) (.fresh s2 hm ⟨_, upd_same, h3.append h5⟩) p2)
theorem eo_cat {xs ys : List D} (ha : EK X n c Γ a k) (hb : EK X n c Γ b l) (hz : xs.length + ys.length ≤ 1000000) (ga : k.get Γ = some (.lst xs) := by rfl) (gb : l.get Γ = some (.lst ys) := by rfl) : EO X n c Γ (.BinOp a .Add b pos) (.lst (xs ++ ys)) :=
  wo_cat (wk_ek ha (wk_ek hb ⟨xs, ys, ga, gb, hz, rfl, rfl⟩))
def cutD (xs : List D) (lo hi : Option Int) : List D := (xs.drop (HT.sIx xs.length 0 lo)).take (HT.sIx xs.length xs.length hi - HT.sIx xs.length 0 lo)
theorem RpL.cut {K : PySem.W.Frag} {R : Hp} {ds : List D} {vs : List V} (h : RpL K R ds vs) (lo hi : Option Int) : RpL K R (cutD ds lo hi) (cutV vs lo hi) := by
  unfold cutD cutV
  rw [h.length]
  exact (h.drop _).take _
/-- a part of a slice -/
def EP1 (X : Cx) (n : Nm) (c : Cc) (Γ : SL) (e : Option Expr) (o : Option Int) : Prop := match e, o with
  | none, none => True
  | some e, some i => EV X n c Γ e (.int i)
  | _, _ => False
def tP1 (X : Cx) : Option Expr → TO
  | none => tNoPart
  | some e => tPart (tW X e)
theorem pP1 : ∀ {e : Option Expr}, PO X e (tP1 X e)
  | none => po_none
  | some _ => po_some pW
theorem EP1.run {e : Option Expr} {o : Option Int} (h : EP1 X n c Γ e o) (hn : NOk X n c) {σ R H} (s : SOk X.K c Γ σ R H) (Q : Option Int → Hp → Prop) (q : ∀ R' H', SOk X.K c Γ σ R' H' → Ex R R' → Q o H') : tP1 X e σ H Q := by
  cases e with
  | none => cases o with
    | none => exact q R H s (Ex.refl _)
    | some _ => exact h.elim
  | some e => cases o with
    | none => exact h.elim
    | some i => exact (WE.mono (P' := fun y Γ' => y = .int i ∧ Γ' = Γ) h (fun _ _ h => h)).run hn σ R H s _ fun v R' H' x Γ' s' e' r ⟨h1, h2⟩ => by subst h1 h2; exact ⟨i, r, q R' H' s' e'⟩
theorem eo_slice {lo hi : Option Expr} {l1 h1 : Option Int} {p2 : Pos} {xs : List D} (ha : EK X n c Γ a k) (hl : EP1 X n c Γ lo l1) (hh : EP1 X n c Γ hi h1) (ga : k.get Γ = some (.lst xs) := by rfl) : EO X n c Γ (.Subscript a (.Slice lo hi none p2) pos) (.lst (cutD xs l1 h1)) := .mk fun hn σ R H s Q q =>
  (pe_slice sl_list pW pP1 pP1).w (ha.run hn σ R H s _ fun v R1 H1 k' Γ1 s1 e1 r1 ⟨g1, g2⟩ => by
    subst g1 g2
    exact hl.run hn s1 _ fun R2 H2 s2 e2 => hh.run hn s2 _ fun R3 H3 s3 e3 => by
      obtain ⟨a1, vs, rfl, h2, h3⟩ := (((r1.mono e2).mono e3).wk s3 ga).lst s3.rh
      refine ⟨a1, vs, rfl, .inl (.inl h2), fun m hm => ?_⟩
      have g := s3.newOwn (.lst (cutV vs l1 h1)) hm
      exact q _ _ _ (.lst (cutD xs l1 h1)) _ (s3.grow g) (((e1.trans e2).trans e3).trans g.r) (.fresh s3 hm ⟨_, upd_same, h3.cut _ _⟩) ⟨rfl, rfl⟩)
end
end DL

end
section
set_option Elab.async false
set_option linter.all false
set_option autoImplicit true
set_option maxRecDepth 100000
set_option maxHeartbeats 400000
namespace DL
open PySem L2
open PyProof.Rows hiding St

structure DE where
  nx : SL → Prop
  rt : Res → SL → Prop
  bk : SL → Prop := fun _ => False
  ct : SL → Prop := fun _ => False
structure EndsOk (K : PySem.W.Frag) (c : Cc) (R : Hp) (D : DE) (E : Ends) : Prop where
  nx : ∀ σ R' H Γ, SOk K c Γ σ R' H → Ex R R' → D.nx Γ → E.nx σ H
  rt : ∀ v σ R' H Γ r, SOk K c Γ σ R' H → Ex R R' → VOk K c Γ σ R' H r v → D.rt r Γ → E.rt v H
  bk : ∀ σ R' H Γ, SOk K c Γ σ R' H → Ex R R' → D.bk Γ → E.bk σ H
  ct : ∀ σ R' H Γ, SOk K c Γ σ R' H → Ex R R' → D.ct Γ → E.ct σ H
theorem EndsOk.mono {K : PySem.W.Frag} {c : Cc} {R R1 : Hp} {D : DE} {E : Ends} (h : EndsOk K c R D E) (e : Ex R R1) : EndsOk K c R1 D E :=
  ⟨fun σ R' H Γ s e' => h.nx σ R' H Γ s (e.trans e'), fun v σ R' H Γ r s e' => h.rt v σ R' H Γ r s (e.trans e'), fun σ R' H Γ s e' => h.bk σ R' H Γ s (e.trans e'), fun σ R' H Γ s e' => h.ct σ R' H Γ s (e.trans e')⟩
structure WS (X : Cx) (n : Nm) (c : Cc) (Γ : SL) (st : Stmt) (D : DE) : Prop where
  run : NOk X n c → ∀ σ R H, SOk X.K c Γ σ R H → ∀ E : Ends, EndsOk X.K c R D E → tWS X st E σ H
structure WB (X : Cx) (n : Nm) (c : Cc) (Γ : SL) (st : List Stmt) (D : DE) : Prop where
  run : NOk X n c → ∀ σ R H, SOk X.K c Γ σ R H → ∀ E : Ends, EndsOk X.K c R D E → tWB X st E σ H

section
variable {K : PySem.W.Frag} {c : Cc} {Γ : SL} {σ : St} {R H R' H' : Hp}
def OB.isL : OB → Bool
  | .dic _ => false
  | .ins _ _ => false
  | _ => true
def Slot.isOwn : Slot → Bool
  | .own _ => true
  | _ => false
/-- a slot is stored to -/
theorem SOk.set (s : SOk K c Γ σ R H) (i : Nat) {v : Option V} {sl : Slot} (hs : sl.isOwn = false) (h : SlotOk K c R H sl v) (hi : i ∉ c.oi.map (·.1)) : SOk K c (Γ.set i sl) (σ.set i v) R H := by
  refine ⟨s.rh, s.r0, s.hm, s.pr, s.un, by simp [s.len], fun j x e => ?_, fun j k a o o' e1 e2 e3 e4 => ?_, fun p hp => ?_⟩
  · by_cases hj : i = j
    · subst hj
      have hl : i < Γ.length := by have := (List.getElem?_eq_some_iff.mp e).1; simpa using this
      rw [List.getElem?_set_self hl] at e; cases e
      exact ⟨v, List.getElem?_set_self (by rw [← s.len]; exact hl), h⟩
    · rw [List.getElem?_set_ne hj] at e ⊢
      exact s.sl j x e
  · have ne : ∀ (j : Nat) (o : OB), (Γ.set i sl)[j]? = some (.own o) → i ≠ j := fun j o e z => by
      subst z
      have hl : i < Γ.length := by have := (List.getElem?_eq_some_iff.mp e).1; simpa using this
      rw [List.getElem?_set_self hl] at e; cases e; cases hs
    have n1 := ne j o e1
    have n2 := ne k o' e2
    rw [List.getElem?_set_ne n1] at e1 e3
    rw [List.getElem?_set_ne n2] at e2 e4
    exact s.dj j k a o o' e1 e2 e3 e4
  · have hn : i ≠ p.1 := fun z => hi (by rw [z]; exact List.mem_map_of_mem hp)
    rw [List.getElem?_set_ne hn, List.getElem?_set_ne hn]
    exact s.oi p hp
theorem SOk.setD (s : SOk K c Γ σ R H) (i : Nat) {v : V} {x : D} (h : Rp K R x v) (hi : i ∉ c.oi.map (·.1)) : SOk K c (Γ.set i (.d x)) (σ.set i (some v)) R H := s.set i (sl := .d x) rfl ⟨v, rfl, h⟩ hi
theorem SOk.setO (s : SOk K c Γ σ R H) (i : Nat) {v : V} {o : OB} (h : VOk K c Γ σ R H (.own o) v) (hi : i ∉ c.oi.map (·.1)) : SOk K c (Γ.set i (.own o)) (σ.set i (some v)) R H := by
  obtain ⟨a, rfl, h2, h3, h4, h5⟩ := h
  refine ⟨s.rh, s.r0, s.hm, s.pr, s.un, by simp [s.len], fun j x e => ?_, fun j k b o1 o2 e1 e2 e3 e4 => ?_, fun p hp => ?_⟩
  · by_cases hj : i = j
    · subst hj
      have hl : i < Γ.length := by have := (List.getElem?_eq_some_iff.mp e).1; simpa using this
      rw [List.getElem?_set_self hl] at e; cases e
      exact ⟨_, List.getElem?_set_self (by rw [← s.len]; exact hl), a, rfl, h2, h3, .inl h4⟩
    · rw [List.getElem?_set_ne hj] at e ⊢
      exact s.sl j x e
  · have at_i : ∀ b, (σ.set i (some (.ref a)))[i]? = some (some (.ref b)) → b = a := fun b e => by
      have hl : i < σ.length := by have := (List.getElem?_eq_some_iff.mp e).1; simpa using this
      rw [List.getElem?_set_self hl] at e; cases e; rfl
    by_cases hj : i = j
    · by_cases hk : i = k
      · exact hj.symm.trans hk
      · subst hj
        have := at_i b e3; subst this
        rw [List.getElem?_set_ne hk] at e2 e4
        exact absurd e4 (h5 k o2 e2)
    · by_cases hk : i = k
      · subst hk
        have := at_i b e4; subst this
        rw [List.getElem?_set_ne hj] at e1 e3
        exact absurd e3 (h5 j o1 e1)
      · rw [List.getElem?_set_ne hj] at e1 e3
        rw [List.getElem?_set_ne hk] at e2 e4
        exact s.dj j k b o1 o2 e1 e2 e3 e4
  · have hn : i ≠ p.1 := fun z => hi (by rw [z]; exact List.mem_map_of_mem hp)
    rw [List.getElem?_set_ne hn, List.getElem?_set_ne hn]
    exact s.oi p hp
/-- what slot i owns is changed -/
theorem SOk.mut (s : SOk K c Γ σ R H) (i : Nat) {a : Addr} {ob ob' : OB} {o : HO} (hΓ : Γ[i]? = some (.own ob)) (hσ : σ[i]? = some (some (.ref a))) (h : OBOk K R (upd H a o) a ob') : SOk K c (Γ.set i (.own ob')) σ R (upd H a o) := by
  obtain ⟨w, w1, b, w2, w3, w4, w5⟩ := s.sl i _ hΓ
  rw [hσ] at w1; cases w1; cases w2
  have hl : i < Γ.length := (List.getElem?_eq_some_iff.mp hΓ).1
  have un : ∀ (j : Nat) (o : OB), (Γ.set i (.own ob'))[j]? = some (.own o) → ∃ o, Γ[j]? = some (.own o) := fun j o e => by
    by_cases hj : i = j
    · subst hj; exact ⟨_, hΓ⟩
    · rw [List.getElem?_set_ne hj] at e; exact ⟨o, e⟩
  refine ⟨fun b u e => ?_, s.r0, fun b u n e => ?_, fun b n => ?_, s.un, by simp [s.len], fun j x e => ?_, fun j k b o1 o2 e1 e2 e3 e4 => ?_, fun p hp => ?_⟩
  · rw [upd_ne (fun z => by rw [z, w4] at e; cases e)]; exact s.rh b u e
  · rw [upd_ne (fun z => by
      rcases w5 with w5 | w5
      · rw [z, w5] at e; cases e
      · exact n (z ▸ w5))]
    exact s.hm b u n e
  · by_cases z : b = a
    · subst z; rw [upd_same]; simp
    · rw [upd_ne z]; exact s.pr b n
  · by_cases hj : i = j
    · subst hj
      rw [List.getElem?_set_self hl] at e; cases e
      exact ⟨_, hσ, a, rfl, h, w4, w5⟩
    · rw [List.getElem?_set_ne hj] at e
      obtain ⟨u, u1, u2⟩ := s.sl j x e
      refine ⟨u, u1, ?_⟩
      cases x with
      | no => exact u2
      | any => exact u2
      | d x => exact u2
      | sc ns => exact u2
      | ex _ _ _ => exact u2
      | w x => obtain ⟨v, z1, z2⟩ := u2; exact ⟨v, z1, z2.mono (Ex.refl _) fun b o nb q => by rw [upd_ne (fun z => nb (by rw [z]; exact w5))]; exact q⟩
      | own o2 =>
        obtain ⟨b, z1, z2, z3, z4⟩ := u2
        subst z1
        refine ⟨b, rfl, z2.mono (Ex.refl _) fun o q => ?_, z3, z4⟩
        rw [upd_ne (fun z => by subst z; exact hj (s.dj i j b ob o2 hΓ e hσ u1))]; exact q
  · obtain ⟨u, z1⟩ := un j o1 e1
    obtain ⟨u', z2⟩ := un k o2 e2
    exact s.dj j k b u u' z1 z2 e3 e4
  · obtain ⟨w1, o, w2⟩ := s.oi p hp
    refine ⟨w1, ?_⟩
    by_cases hj : i = p.1
    · rw [← hj, List.getElem?_set_self hl]; exact ⟨_, rfl⟩
    · rw [List.getElem?_set_ne hj]; exact ⟨o, w2⟩
end

section
variable {X : Cx} {n : Nm} {c : Cc} {Γ : SL} {e a b : Expr} {x y z : D} {pos p : Pos} {nm : Str} {es : List Expr} {k l : AK} {ks : List AK} {xs : List D} {st : Stmt} {rest : List Stmt} {D : DE}
theorem NOk.noi (hn : NOk X n c) {i : Nat} (h : n.oi.contains i = false) : i ∉ c.oi.map (·.1) := fun z => by
  rw [hn.oi] at z
  rw [List.contains_eq_mem] at h
  simp [z] at h
theorem wb_nil (h : D.nx Γ) : WB X n c Γ [] D := .mk fun hn σ R H s E ok => pss_nil.w (ok.nx σ R H Γ s (Ex.refl _) h)
theorem wb_cons (h : WS X n c Γ st { D with nx := fun Γ' => WB X n c Γ' rest D }) : WB X n c Γ (st :: rest) D := .mk fun hn σ R H s E ok =>
  (pss_cons pWS pWB).w (h.run hn σ R H s _ ⟨fun σ' R' H' Γ' s' e w => w.run hn σ' R' H' s' E (ok.mono e), ok.rt, ok.bk, ok.ct⟩)
theorem wb_cut (Mid : SL → Prop) (h : WS X n c Γ st { D with nx := Mid }) (h2 : ∀ Γ', Mid Γ' → WB X n c Γ' rest D) : WB X n c Γ (st :: rest) D := .mk fun hn σ R H s E ok =>
  (pss_cons pWS pWB).w (h.run hn σ R H s _ ⟨fun σ' R' H' Γ' s' e w => (h2 Γ' w).run hn σ' R' H' s' E (ok.mono e), ok.rt, ok.bk, ok.ct⟩)
theorem wb_one (h : WS X n c Γ st D) : WB X n c Γ [st] D := wb_cons (by
  refine .mk fun hn σ R H s E ok => ?_
  exact h.run hn σ R H s E ⟨fun σ' R' H' Γ' s' e w => ok.nx σ' R' H' Γ' s' e (wb_nil w), ok.rt, ok.bk, ok.ct⟩)
theorem WB.mono {sts : List Stmt} {D D' : DE} (h : WB X n c Γ sts D) (h1 : ∀ Γ, D.nx Γ → D'.nx Γ) (h2 : ∀ r Γ, D.rt r Γ → D'.rt r Γ) (h3 : ∀ Γ, D.bk Γ → D'.bk Γ) (h4 : ∀ Γ, D.ct Γ → D'.ct Γ) : WB X n c Γ sts D' := .mk fun hn σ R H s E ok =>
  h.run hn σ R H s E ⟨fun σ' R' H' Γ' s' e w => ok.nx σ' R' H' Γ' s' e (h1 _ w), fun v σ' R' H' Γ' r s' e ro w => ok.rt v σ' R' H' Γ' r s' e ro (h2 _ _ w), fun σ' R' H' Γ' s' e w => ok.bk σ' R' H' Γ' s' e (h3 _ w), fun σ' R' H' Γ' s' e w => ok.ct σ' R' H' Γ' s' e (h4 _ w)⟩
/-- name = data, name = a fresh thing -/
theorem ws_set (i : Nat) {p' : Pos} (h : WE X n c Γ e fun x Γ' => D.nx (Γ'.set i (.d x))) (hi : n.N[i]? = some nm := by rfl) (ha : n.as.contains i = true := by rfl) (ho : n.oi.contains i = false := by rfl) (hs : swapsWith e (some (.Name nm p')) pos.line X.env = pure false := by rfl) :
    WS X n c Γ (.Assign [.Name nm p'] e pos) D := .mk fun hn σ R H s E ok => by
  obtain ⟨l1, l2⟩ := hn.loc i nm ha hi
  exact (ps_set (by rw [hn.eq]; exact hn.nd) (by rw [hn.eq]; exact hi) l1 pW hs l2).w (h.run hn σ R H s _ fun v R' H' x Γ' s' e' r p => ok.nx _ R' H' _ (s'.setD i r (hn.noi ho)) e' p)
theorem ws_setO (i : Nat) {p' : Pos} (h : WO X n c Γ e fun o Γ' => D.nx (Γ'.set i (.own o))) (hi : n.N[i]? = some nm := by rfl) (ha : n.as.contains i = true := by rfl) (ho : n.oi.contains i = false := by rfl) (hs : swapsWith e (some (.Name nm p')) pos.line X.env = pure false := by rfl) :
    WS X n c Γ (.Assign [.Name nm p'] e pos) D := .mk fun hn σ R H s E ok => by
  obtain ⟨l1, l2⟩ := hn.loc i nm ha hi
  exact (ps_set (by rw [hn.eq]; exact hn.nd) (by rw [hn.eq]; exact hi) l1 pW hs l2).w (h.run hn σ R H s _ fun v R' H' x Γ' s' e' r p => ok.nx _ R' H' _ (s'.setO i r (hn.noi ho)) e' p)
theorem sw_par {env : Env} {a b : Expr} {nx ny : Str} {px py pt : Pos} {kt k2 : Nat} {pt2 : Pos} (hk : env.scope.kind = .function) (hx : env.scope.names.lookup nx = some .local) (hy : env.scope.names.lookup ny = some .local) (hne : nx ≠ ny) (hl : (py.line == px.line) = true)
    (hsa : ∀ v p, a ≠ .Starred v p) (hsb : ∀ v p, b ≠ .Starred v p) (hf : [a, b].all (foldedForSure 8) = false) (hc : [a, b].all (constantsAlone 8) = false) : swappedStores [.Tuple [.Name nx px, .Name ny py] kt pt] (.Tuple [a, b] k2 pt2) env = pure (some [nx, ny]) := by
  have ky : env.kindOf nx = some .local := hx
  have kz : env.kindOf ny = some .local := hy
  have hb : env.blockKind = .function := by unfold Env.blockKind; rw [hk] <;> rfl
  have hl' : py.line = px.line := by simpa using hl
  have e4 : (ny == nx) = false := by simpa using Ne.symm hne
  have e3 : ([nx, ny] : List Str).eraseDups = [nx, ny] := by
    simp [List.eraseDups, List.eraseDupsBy, List.eraseDupsBy.loop, e4]
  unfold swappedStores
  simp only [hb, hf, hc, Expr.pos, List.head?_cons, Option.map_some, Option.getD_some, List.filterMap_cons, List.filterMap_nil, ky, kz, hl', beq_self_eq_true, Bool.and_self, if_true, e3]
  simp
/-- a, b = x, y -/
theorem ws_par (i j : Nat) {nx ny : Str} {px py pt : Pos} {kt k2 : Nat} {pt2 : Pos} (h : WA X n c Γ [a, b] fun ks Γ' => ∃ u v, ks = [.d u, .d v] ∧ D.nx ((Γ'.set i (.d u)).set j (.d v))) (hi : n.N[i]? = some nx := by rfl) (hh : n.hot = false := by rfl) (hj : n.N[j]? = some ny := by rfl) (hij : i ≠ j := by decide)
    (li : n.lc.contains i = true := by rfl) (lj : n.lc.contains j = true := by rfl) (oi : n.oi.contains i = false := by rfl) (oj : n.oi.contains j = false := by rfl) (hl : (py.line == px.line) = true := by rfl)
    (hsa : ∀ v p, a ≠ .Starred v p := by intro _ _ h; cases h) (hsb : ∀ v p, b ≠ .Starred v p := by intro _ _ h; cases h) (hf : [a, b].all (foldedForSure 8) = false := by rfl) (hc : [a, b].all (constantsAlone 8) = false := by rfl) (hs : swapsWithSole [.Tuple [.Name nx px, .Name ny py] kt pt] (.Tuple [a, b] k2 pt2) pos.line X.env = pure false := by rfl) :
    WS X n c Γ (.Assign [.Tuple [.Name nx px, .Name ny py] kt pt] (.Tuple [a, b] k2 pt2) pos) D := .mk fun hn σ R H s E ok =>
  (ps_par (hn.calm hh) (by rw [hn.eq]; exact hn.nd) (by rw [hn.eq]; exact hi) (by rw [hn.eq]; exact hj) hij (hn.lc i nx li hi) (hn.lc j ny lj hj) pWA
    (sw_par hn.kind (hn.lc i nx li hi) (hn.lc j ny lj hj) (fun z => hij (nd_ix hn.nd hi (by rw [z]; exact hj))) hl hsa hsb hf hc) hs).w
    (h.run hn σ R H s _ fun vs R' H' ks Γ' s' e' r ⟨u, v, hk, p⟩ => by
      subst hk
      obtain ⟨w1, ws, rfl, h1, w2, ws2, rfl, h2, h3⟩ := r
      cases (show ws2 = [] from h3)
      exact ⟨w1, w2, rfl, ok.nx _ R' H' _ ((s'.setD i h1 (hn.noi oi)).setD j h2 (hn.noi oj)) e' p⟩)
/-- a, b = a tuple's two things; three, four -/
theorem ws_unp2 (i j : Nat) {nx ny : Str} {px py pt : Pos} {kt : Nat} (h : WE X n c Γ e fun x Γ' => ∃ u v, x = .tup [u, v] ∧ D.nx ((Γ'.set i (.d u)).set j (.d v))) (hi : n.N[i]? = some nx := by rfl) (hh : n.hot = false := by rfl) (hj : n.N[j]? = some ny := by rfl)
    (li : n.as.contains i = true := by rfl) (lj : n.as.contains j = true := by rfl) (oi : n.oi.contains i = false := by rfl) (oj : n.oi.contains j = false := by rfl)
    (h1 : (assignEach [.Name nx px, .Name ny py] X.env).map (·.2) = assign (.Name nx px) X.env :: (assignEach [.Name ny py] X.env).map (·.2) := by rfl) (h2 : (assignEach [.Name ny py] X.env).map (·.2) = assign (.Name ny py) X.env :: (assignEach [] X.env).map (·.2) := by rfl)
    (h3 : (assignEach [.Name nx px, .Name ny py] X.env).length = 2 := by rfl) (h4 : (assignEach [.Name nx px, .Name ny py] X.env).findIdx? (·.1) = none := by rfl)
    (hs : swapsWithSole [.Tuple [.Name nx px, .Name ny py] kt pt] e pos.line X.env = pure false := by rfl) (hw : swappedStores [.Tuple [.Name nx px, .Name ny py] kt pt] e X.env = pure none := by rfl)
    (h5 : (assignEach [.Tuple [.Name nx px, .Name ny py] kt pt] X.env).map (·.2) = [assign (.Tuple [.Name nx px, .Name ny py] kt pt) X.env] := by rfl) :
    WS X n c Γ (.Assign [.Tuple [.Name nx px, .Name ny py] kt pt] e pos) D := .mk fun hn σ R H s E ok => by
  obtain ⟨l1, l2⟩ := hn.loc i nx li hi
  obtain ⟨l3, l4⟩ := hn.loc j ny lj hj
  have nd : X.N.Nodup := by rw [hn.eq]; exact hn.nd
  refine (ps_asg pW (pg_tup (hn.calm hh) (pgs_cons (pg_name nd (by rw [hn.eq]; exact hi) l1 l2) (pgs_cons (pg_name nd (by rw [hn.eq]; exact hj) l3 l4) pgs_nil h2) h1) h3 h4) hs hw h5).w (h.run hn σ R H s _ fun v R' H' x Γ' s' e' r ⟨u, w, hx, p⟩ => ?_)
  subst hx
  obtain ⟨t, vs, rfl, hT, v1, ws, rfl, q1, v2, ws2, rfl, q2, q3⟩ := r
  cases (show ws2 = [] from q3)
  exact ⟨t, _, rfl, ex_t s'.rh hT, rfl, v1, [v2], rfl, v2, [], rfl, rfl, ok.nx _ R' H' _ ((s'.setD i q1 (hn.noi oi)).setD j q2 (hn.noi oj)) e' p⟩
/-- e as a statement -/
theorem ws_expr (h : WE X n c Γ e fun _ Γ' => D.nx Γ') (hs : swapsWith e none pos.line X.env = pure false := by rfl) : WS X n c Γ (.Expr e pos) D := .mk fun hn σ R H s E ok =>
  (ps_expr pW hs).w (h.run hn σ R H s _ fun v R' H' x Γ' s' e' r p => ok.nx σ R' H' Γ' s' e' p)
theorem ws_pass (h : D.nx Γ) : WS X n c Γ (.Pass pos) D := .mk fun hn σ R H s E ok => ps_pass.w (ok.nx σ R H Γ s (Ex.refl _) h)
theorem ws_brk (h : D.bk Γ) : WS X n c Γ (.Break pos) D := .mk fun hn σ R H s E ok => ps_break.w (ok.bk σ R H Γ s (Ex.refl _) h)
theorem ws_cont (h : D.ct Γ) : WS X n c Γ (.Continue pos) D := .mk fun hn σ R H s E ok => ps_continue.w (ok.ct σ R H Γ s (Ex.refl _) h)
theorem ws_ret (h : WE X n c Γ e fun x Γ' => D.rt (.d x) Γ') : WS X n c Γ (.Return (some e) pos) D := .mk fun hn σ R H s E ok =>
  (ps_ret pW).w (h.run hn σ R H s _ fun v R' H' x Γ' s' e' r p => ok.rt v σ R' H' Γ' (.d x) s' e' r p)
theorem ws_retO (h : WO X n c Γ e fun x Γ' => D.rt (.own x) Γ') : WS X n c Γ (.Return (some e) pos) D := .mk fun hn σ R H s E ok =>
  (ps_ret pW).w (h.run hn σ R H s _ fun v R' H' x Γ' s' e' r p => ok.rt v σ R' H' Γ' (.own x) s' e' r p)
theorem ws_retN (h : D.rt (.d .non) Γ) : WS X n c Γ (.Return none pos) D := .mk fun hn σ R H s E ok => ps_retN.w (ok.rt .non σ R H Γ (.d .non) s (Ex.refl _) rfl h)
/-- return of a name that owns: it is given away -/
theorem ws_retS (i : Nat) {o : OB} (h : D.rt (.own o) (Γ.set i .any)) (hg : Γ[i]? = some (.own o) := by rfl) (hi : n.N[i]? = some nm := by rfl) (hv : n.V.contains i = true := by rfl) (ho : n.oi.contains i = false := by rfl) : WS X n c Γ (.Return (some (.Name nm p)) pos) D := .mk fun hn σ R H s E ok => by
  obtain ⟨h1, h2⟩ := hn.dbg i nm hi
  refine (ps_ret (pe_var (i := i) (by rw [hn.eq]; exact hi) (hn.vis i nm hv hi) h1 h2)).w ?_
  obtain ⟨w, e1, a, e2, w3, w4, w5⟩ := s.sl i _ hg
  subst e2
  have hl : i < Γ.length := (List.getElem?_eq_some_iff.mp hg).1
  have s2 : SOk X.K c (Γ.set i .any) (σ.set i (some (.ref a))) R H := s.set i (v := some (.ref a)) rfl trivial (hn.noi ho)
  have es : σ.set i (some (.ref a)) = σ := by
    apply List.ext_getElem?
    intro j
    by_cases hj : i = j
    · subst hj; rw [List.getElem?_set_self (by rw [← s.len]; exact hl), e1]
    · rw [List.getElem?_set_ne hj]
  rw [es] at s2
  refine ⟨_, e1, ok.rt _ σ R H _ (.own o) s2 (Ex.refl _) ⟨a, rfl, w3, w4, ?_, fun j o' z1 z2 => ?_⟩ h⟩
  · rcases w5 with w5 | w5
    · exact w5
    · obtain ⟨j, hj⟩ := hn.cm a w5
      obtain ⟨z1, o', z2⟩ := s.oi _ hj
      have := s.dj i j a o o' hg z2 e1 z1
      exact absurd (by rw [this]; exact List.mem_map_of_mem hj) (hn.noi ho)
  · by_cases hj : i = j
    · subst hj; rw [List.getElem?_set_self hl] at z1; cases z1
    · rw [List.getElem?_set_ne hj] at z1
      exact hj (s.dj i j a o o' hg z1 e1 z2)
theorem ws_if {t : Expr} {A B : List Stmt} (h : WT X n c Γ t fun b Γ' => (b = true → WB X n c Γ' A D) ∧ (b = false → WB X n c Γ' B D)) : WS X n c Γ (.If t A B pos) D := .mk fun hn σ R H s E ok =>
  (ps_if pWT pWB pWB).w (h.run hn σ R H s _ fun R' H' b Γ' s' e' ⟨p1, p2⟩ => by
    cases b with
    | true => exact (p1 rfl).run hn σ R' H' s' E (ok.mono e')
    | false => exact (p2 rfl).run hn σ R' H' s' E (ok.mono e'))
theorem ws_ifE {t : Expr} {A B : List Stmt} {q : Bool} (h : ET X n c Γ t q) (h1 : q = true → WB X n c Γ A D) (h2 : q = false → WB X n c Γ B D) : WS X n c Γ (.If t A B pos) D := ws_if (wt_of h ⟨h1, h2⟩)
/-! ### what a slot owns is changed by a method, by an item's store -/
def DMt (X : Cx) (id : String) (P : List DL.D → List DL.D → (DL.D → List DL.D → Prop) → Prop) : Prop := ∃ r, MtR X id r ∧ ∀ R H a ds vs as ws Post, H a = some (.lst vs) → RpL X.K R ds vs → RpL X.K R as ws → P ds as Post → ∀ Q : VK,
  (∀ u us z zs, RpL X.K R zs us → Rp X.K R z u → Post z zs → Q u (upd H a (.lst us))) → r (.ref a) ws H Q
theorem dm_append : DMt X "list.append" (fun ds as Post => ∃ x, as = [x] ∧ ds.length < 1000000 ∧ Post .non (ds ++ [x])) := ⟨_, mt_append, fun R H a ds vs as ws Post h1 h2 h3 ⟨x, e, hz, p⟩ Q q => by
  subst e
  obtain ⟨v, w, rfl, h4, h5⟩ := h3
  cases (show w = [] from h5)
  exact ⟨a, vs, v, rfl, rfl, h1, by rw [← h2.length, sizeLine_eq]; omega, q _ _ .non _ (h2.append (.one h4)) rfl p⟩⟩
theorem dm_insert : DMt X "list.insert" (fun ds as Post => ∃ i x, as = [.int i, x] ∧ 0 ≤ i ∧ i < 2 ^ 62 ∧ ds.length < 1000000 ∧ Post .non (ds.take i.toNat ++ [x] ++ ds.drop i.toNat)) := ⟨_, mt_insert, fun R H a ds vs as ws Post h1 h2 h3 ⟨i, x, e, h0, h63, hz, p⟩ Q q => by
  subst e
  obtain ⟨v, w, rfl, h4, v2, w2, rfl, h6, h7⟩ := h3
  cases (show w2 = [] from h7)
  cases (show v = .int i from h4)
  exact ⟨a, vs, i, v2, rfl, rfl, h1, by rw [← h2.length, sizeLine_eq]; omega, h0, by omega, q _ _ .non _ (((h2.take _).append (.one h6)).append (h2.drop _)) rfl p⟩⟩
theorem dm_pop : DMt X "list.pop" (fun ds as Post => ∃ x, as = [] ∧ ds[ds.length - 1]? = some x ∧ Post x ds.dropLast) := ⟨_, mt_pop, fun R H a ds vs as ws Post h1 h2 h3 ⟨x, e, hx, p⟩ Q q => by
  subst e
  cases (show ws = [] from h3)
  obtain ⟨v, h4, h5⟩ := h2.get hx
  exact ⟨a, vs, v, rfl, rfl, h1, by rw [← h2.length]; exact h4, q _ _ x _ h2.dropLast h5 p⟩⟩
theorem dm_popAt : DMt X "list.pop" (fun ds as Post => ∃ (i : Nat) (x : DL.D), as = [.int (i : Int)] ∧ (i : Int) < 2 ^ 62 ∧ ds[i]? = some x ∧ Post x (ds.eraseIdx i)) := ⟨_, mt_popAt, fun R H a ds vs as ws Post h1 h2 h3 ⟨i, x, e, h62, hx, p⟩ Q q => by
  subst e
  obtain ⟨v, w, rfl, h4, h5⟩ := h3
  cases (show w = [] from h5)
  cases (show v = .int (i : Int) from h4)
  obtain ⟨u, h6, h7⟩ := h2.get hx
  have hl : i < vs.length := (List.getElem?_eq_some_iff.mp h6).1
  exact ⟨a, vs, (i : Int), i, u, rfl, rfl, h1, by omega, by omega, by rw [PySem.StrLaws.seqIndex_nonneg (by omega) (by omega)]; simp, h6, q _ _ x _ (h2.erase _) h7 p⟩⟩
theorem dm_clear : DMt X "list.clear" (fun ds as Post => as = [] ∧ Post .non []) := ⟨_, mt_clear, fun R H a ds vs as ws Post h1 h2 h3 ⟨e, p⟩ Q q => by
  subst e
  cases (show ws = [] from h3)
  exact ⟨a, vs, rfl, rfl, h1, q _ _ .non _ .nil rfl p⟩⟩
variable {id : String} {P : List DL.D → List DL.D → (DL.D → List DL.D → Prop) → Prop} {meth : Str} {ap : Pos}
theorem we_meth (i : Nat) {Post : DL.D → SL → Prop} (hm : DMt X id P) (pa : PlainAttrs "list") (slot : PySem.Slot "list" meth id) (hty : typeOf (.builtin id) = pure (.type "method_descriptor"))
    (h : WA X n c Γ (e :: es) fun ks Γ' => ∃ as ds, dats ks = some as ∧ Γ'[i]? = some (.own (.lst ds)) ∧ P ds as fun z zs => Post z (Γ'.set i (.own (.lst zs)))) {o0 : OB} (hg : Γ[i]? = some (.own o0) := by rfl) (hL : o0.isL = true := by rfl) (hi : n.N[i]? = some nm := by rfl) (hv : n.V.contains i = true := by rfl)
    (hbase : attributeBase (.Name nm p) meth X.env (eval (.Name nm p) X.env) = eval (.Name nm p) X.env := by rfl)
    (hfew : ((backTo pos (starEach (e :: es) X.env)).all (fun x => !x.1) && (backToKw pos (keywordEach [] X.env)).all (fun x => x.1.isSome)
      && decide ((e :: es).length + ([] : List Keyword).length + (if ([] : List Keyword).isEmpty then 0 else 1) < 30)) = true := by rfl)
    (hline : (ap.endLine == pos.line) = true := by rfl) (hs : starEach (e :: es) X.env = (false, eval e X.env) :: starEach es X.env := by exact se_c rfl) (hplain : (backTo pos (starEach es X.env)).any (·.1) = false := by exact se_any rfl) :
    WE X n c Γ (.Call (.Attribute (.Name nm p) meth ap) (e :: es) [] pos) Post := .mk fun hn σ R H s Q q => by
  obtain ⟨h1, h2⟩ := hn.dbg i nm hi
  obtain ⟨r, m1, m2⟩ := hm
  refine (pe_bm pa slot hty m1 (pe_var (i := i) (by rw [hn.eq]; exact hi) (hn.vis i nm hv hi) h1 h2) pWA hbase hfew hline hs hplain).w ?_
  obtain ⟨w, e1, a, e2, w3, w4, w5⟩ := s.sl i _ hg
  subst e2
  have hT : tyV X.K "list" (.ref a) H := by
    cases o0 with
    | lst ds => obtain ⟨vs, q1, _⟩ := w3; exact .inl ⟨rfl, _, .inl (.inl q1)⟩
    | sto => obtain ⟨_, _, _, _, _, _, _, vs, q1, _⟩ := w3; exact .inl ⟨rfl, _, .inl (.inl q1)⟩
    | dic ds => cases hL
    | ins _ _ => cases hL
  refine ⟨_, e1, hT, h.run hn σ R H s _ fun vs R' H' ks Γ' s' e' r' ⟨as, ds, hd, hg', hp⟩ => ?_⟩
  obtain ⟨w', u1, b, u2, ⟨us, u3, u6⟩, u4, u5⟩ := s'.sl i _ hg'
  rw [e1] at u1; cases u1; cases u2
  refine m2 R' H' a ds us as vs _ u3 u6 (dats_ok r' hd) hp Q fun u us' z zs hz hu hP => ?_
  exact q u R' _ z _ (s'.mut (ob' := .lst zs) i hg' e1 ⟨us', upd_same, hz⟩) e' hu hP
end
end DL

end
section
set_option Elab.async false
set_option linter.all false
set_option autoImplicit true
set_option maxRecDepth 100000
set_option maxHeartbeats 400000
namespace DL
open PySem L2
open PyProof.Rows hiding St

section
variable {X : Cx} {n : Nm} {c : Cc} {Γ : SL} {e a b : Expr} {x y z : D} {pos p : Pos} {nm : Str} {es : List Expr} {k l : AK} {ks : List AK} {xs : List D} {st : Stmt} {rest : List Stmt} {De : DE}
variable {id : String} {P : List D → List D → (D → List D → Prop) → Prop} {meth : Str} {ap : Pos}
theorem we_meth0 (i : Nat) {Post : D → SL → Prop} {ds : List D} (hm : DMt X id P) (pa : PlainAttrs "list") (slot : PySem.Slot "list" meth id) (hty : typeOf (.builtin id) = pure (.type "method_descriptor"))
    (h : P ds [] fun z zs => Post z (Γ.set i (.own (.lst zs)))) (hg : Γ[i]? = some (.own (.lst ds)) := by rfl) (hi : n.N[i]? = some nm := by rfl) (hv : n.V.contains i = true := by rfl)
    (hbase : attributeBase (.Name nm p) meth X.env (eval (.Name nm p) X.env) = eval (.Name nm p) X.env := by rfl) (hline : (ap.endLine == pos.line) = true := by rfl) : WE X n c Γ (.Call (.Attribute (.Name nm p) meth ap) [] [] pos) Post := .mk fun hn σ R H s Q q => by
  obtain ⟨h1, h2⟩ := hn.dbg i nm hi
  obtain ⟨r, m1, m2⟩ := hm
  refine (pe_bm0 pa slot hty m1 (pe_var (i := i) (by rw [hn.eq]; exact hi) (hn.vis i nm hv hi) h1 h2) hbase hline).w ?_
  obtain ⟨w, e1, a, e2, ⟨us, u3, u6⟩, w4, w5⟩ := s.sl i _ hg
  subst e2
  refine ⟨_, e1, .inl ⟨rfl, _, .inl (.inl u3)⟩, ?_⟩
  refine m2 R H a ds us [] [] _ u3 u6 rfl h Q fun u us' z zs hz hu hP => ?_
  exact q u R _ z _ (s.mut (ob' := .lst zs) i hg e1 ⟨us', upd_same, hz⟩) (Ex.refl _) hu hP
/-- xs[i] = e -/
theorem ws_setIx (i : Nat) {tpos : Pos} (h : WE X n c Γ e fun x Γ1 => WE X n c Γ1 b fun y Γ2 => ∃ ds j m, Γ2[i]? = some (.own (.lst ds)) ∧ y = .int j ∧ ixN ds.length j = some m ∧ De.nx (Γ2.set i (.own (.lst (ds.set m x)))))
    {s0 : Slot} (hi : n.N[i]? = some nm := by rfl) (hv : n.V.contains i = true := by rfl) (hg : Γ[i]? = some s0 := by rfl) (hss : s0.isOwn = true := by rfl)
    (ha : ∀ v, assign (.Subscript (.Name nm p) b tpos) X.env v = (do
      let ov ← holding [v] (eval (.Name nm p) X.env)
      let iv ← holding [v, ov] (eval b X.env)
      standAt tpos
      holding [v, ov, iv] (setItem ov iv v)
      release [v, ov, iv] []) := by intro _; rfl) (hs : swapsWithSole [.Subscript (.Name nm p) b tpos] e pos.line X.env = pure false := by rfl) (hw : swappedStores [.Subscript (.Name nm p) b tpos] e X.env = pure none := by rfl)
    (h1 : (assignEach [.Subscript (.Name nm p) b tpos] X.env).map (·.2) = [assign (.Subscript (.Name nm p) b tpos) X.env] := by rfl) :
    WS X n c Γ (.Assign [.Subscript (.Name nm p) b tpos] e pos) De := .mk fun hn σ R H s E ok => by
  obtain ⟨d1, d2⟩ := hn.dbg i nm hi
  refine (ps_asg pW (pg_sub (pe_var (i := i) (by rw [hn.eq]; exact hi) (hn.vis i nm hv hi) d1 d2) pW set_list ha) hs hw h1).w (h.run hn σ R H s _ fun v R1 H1 x Γ1 s1 e1 r1 p1 => ?_)
  obtain ⟨w, w1, w2⟩ := s.sl i _ hg
  have ⟨a0, hw0⟩ : ∃ a, w = some (.ref a) := by
    cases s0 with
    | own o => obtain ⟨a, q, _⟩ := w2; exact ⟨a, q⟩
    | _ => cases hss
  subst hw0
  refine ⟨_, w1, p1.run hn σ R1 H1 s1 _ fun u R2 H2 y Γ2 s2 e2 r2 ⟨ds, j, m, q1, q2, q3, q4⟩ => ?_⟩
  subst q2
  obtain ⟨w', u1, a1, u2, ⟨us, u3, u6⟩, u4, u5⟩ := s2.sl i _ q1
  rw [w1] at u1; cases u1; cases u2
  refine ⟨_, us, j, m, rfl, r2, u3, by rw [← u6.length]; exact q3, ok.nx σ R2 _ _ (s2.mut (ob' := .lst (ds.set m x)) i q1 w1 ⟨_, upd_same, u6.set m (Rp.mono e2 _ _ r1)⟩) (e1.trans e2) q4⟩
/-- name += e, -= -/
theorem ws_aug (i : Nat) {op : Operator} {f : Int → Int → Int} {i0 : Int} (ho : PIp X op (ipI f)) (h : WE X n c Γ e fun y Γ' => ∃ j, y = .int j ∧ De.nx (Γ'.set i (.d (.int (f i0 j))))) (hg : Γ[i]? = some (.d (.int i0)) := by rfl) (hi : n.N[i]? = some nm := by rfl) (ha : n.as.contains i = true := by rfl) (hoi : n.oi.contains i = false := by rfl) :
    WS X n c Γ (.AugAssign (.Name nm p) op e pos) De := .mk fun hn σ R H s E ok => by
  obtain ⟨l1, l2⟩ := hn.loc i nm ha hi
  obtain ⟨w, e1, v, e2, r⟩ := s.sl i _ hg
  subst e2
  cases (show v = .int i0 from r)
  exact (ps_aug (by rw [hn.eq]; exact hn.nd) (by rw [hn.eq]; exact hi) l1 pW ho l2).w ⟨_, e1, h.run hn σ R H s _ fun u R' H' y Γ' s' e' r' ⟨j, q1, q2⟩ => by
    subst q1
    cases (show u = .int j from r')
    exact ⟨i0, j, rfl, rfl, ok.nx _ R' H' _ (s'.setD i (x := .int (f i0 j)) rfl (hn.noi hoi)) e' q2⟩⟩
/-! ### what a slot owns is kept for good -/
theorem wb_frz (i : Nat) {sts : List Stmt} {o : OB} {x : D} (h : WB X n c (Γ.set i (.d x)) sts De) (hg : Γ[i]? = some (.own o) := by rfl) (hx : o.data = some x := by rfl) (hoi : n.oi.contains i = false := by rfl) : WB X n c Γ sts De := .mk fun hn σ R H s E ok => by
  obtain ⟨w, e1, a, e2, w3, w4, w5⟩ := s.sl i _ hg
  subst e2
  have hl : i < Γ.length := (List.getElem?_eq_some_iff.mp hg).1
  have es : ∀ v, σ[i]? = some (some v) → σ.set i (some v) = σ := fun v ev => by
    apply List.ext_getElem?
    intro j
    by_cases hj : i = j
    · subst hj; rw [List.getElem?_set_self (by rw [← s.len]; exact hl), ev]
    · rw [List.getElem?_set_ne hj]
  have s2 : SOk X.K c (Γ.set i .any) (σ.set i (some (.ref a))) R H := s.set i (v := some (.ref a)) rfl trivial (hn.noi hoi)
  rw [es _ e1] at s2
  obtain ⟨R', s3, e3, r3⟩ := s2.freezeR (o := o) (v := .ref a) ⟨a, rfl, w3, w4, by
    rcases w5 with w5 | w5
    · exact w5
    · obtain ⟨j, hj⟩ := hn.cm a w5
      obtain ⟨z1, o', z2⟩ := s.oi _ hj
      have := s.dj i j a o o' hg z2 e1 z1
      exact absurd (by rw [this]; exact List.mem_map_of_mem hj) (hn.noi hoi), fun j o' z1 z2 => by
    by_cases hj : i = j
    · subst hj; rw [List.getElem?_set_self hl] at z1; cases z1
    · rw [List.getElem?_set_ne hj] at z1
      exact hj (s.dj i j a o o' hg z1 e1 z2)⟩ hx
  have s4 := s3.setD i r3 (hn.noi hoi)
  rw [es _ e1, List.set_set] at s4
  exact h.run hn σ R' H s4 E (ok.mono e3)
/-! ### loops -/
/-- what a body is to reach: the next turn, the loop's end, a return -/
def turnE (De : DE) (N : SL → Prop) : DE := { nx := N, rt := De.rt, bk := De.nx, ct := N }
theorem turnE_ok {K : PySem.W.Frag} {R R1 : Hp} {E : Ends} {Nv : SL → Prop} {Pv : St → Hp → Prop} (ok : EndsOk K c R De E) (e : Ex R R1) (hP : ∀ σ R' H Γ, SOk K c Γ σ R' H → Ex R1 R' → Nv Γ → Pv σ H) :
    EndsOk K c R1 (turnE De Nv) { E with nx := Pv, ct := Pv, bk := E.nx } :=
  ⟨fun σ R' H Γ s e' w => hP σ R' H Γ s e' w, fun v σ R' H Γ r s e' => ok.rt v σ R' H Γ r s (e.trans e'), fun σ R' H Γ s e' w => ok.nx σ R' H Γ s (e.trans e') w, fun σ R' H Γ s e' w => hP σ R' H Γ s e' w⟩
theorem ws_forL (j : Nat) {body : List Stmt} {tp : Pos} (Inv : Nat → SL → Prop) (ds : List D) (h : WE X n c Γ e fun x Γ1 => x = .lst ds ∧ Inv 0 Γ1)
    (hs : ∀ i Γ' d, ds[i]? = some d → Inv i Γ' → WB X n c (Γ'.set j (.d d)) body (turnE De (Inv (i + 1)))) (hd : ∀ Γ', Inv ds.length Γ' → De.nx Γ') (hj : n.N[j]? = some nm := by rfl) (hh : n.hot = false := by rfl) (ha : n.as.contains j = true := by rfl) (hoi : n.oi.contains j = false := by rfl)
    (hf : ∀ x, foldedSetIterable e X.env x = pure x := by intro _; rfl) : WS X n c Γ (.For (.Name nm tp) e body [] pos) De := .mk fun hn σ R H s E ok => by
  obtain ⟨l1, l2⟩ := hn.loc j nm ha hj
  refine (ps_for hn.po (hn.calm hh) (pi_list pW) (pg_name (by rw [hn.eq]; exact hn.nd) (by rw [hn.eq]; exact hj) l1 l2) pWB hf).w (h.run hn σ R H s _ fun v R1 H1 x Γ1 s1 e1 r1 ⟨hx, p1⟩ => ?_)
  subst hx
  obtain ⟨a, vs, rfl, ha', hr⟩ := r1
  refine ⟨a, rfl, ⟨vs, .inl (.inl (s1.rh a _ ha'))⟩, for_list (xs := vs) (fun i σ' H' => ∃ R' Γ', SOk X.K c Γ' σ' R' H' ∧ Ex R1 R' ∧ Inv i Γ') ⟨R1, Γ1, s1, Ex.refl _, p1⟩ (fun i σ' H' _ ⟨R', Γ', s', e', _⟩ => .inl (.inl (s'.rh a _ (e' a _ ha')))) (fun i v σ' H' hi ⟨R', Γ', s', e', p'⟩ => ?_) (fun σ' H' ⟨R', Γ', s', e', p'⟩ => ?_)⟩
  · obtain ⟨d, hd1, hd2⟩ := hr.get' hi
    exact (hs i Γ' d hd1 p').run hn _ R' H' (s'.setD j (Rp.mono e' _ _ hd2) (hn.noi hoi)) _ (turnE_ok ok (e1.trans e') fun σ2 R2 H2 Γ2 s2 e2 w => ⟨R2, Γ2, s2, e'.trans e2, w⟩)
  · rw [← hr.length] at p'
    exact ok.nx σ' R' H' Γ' s' (e1.trans e') (hd Γ' p')
theorem ws_forT (j : Nat) {body : List Stmt} {tp : Pos} (Inv : Nat → SL → Prop) (ds : List D) (h : WE X n c Γ e fun x Γ1 => x = .tup ds ∧ Inv 0 Γ1)
    (hs : ∀ i Γ' d, ds[i]? = some d → Inv i Γ' → WB X n c (Γ'.set j (.d d)) body (turnE De (Inv (i + 1)))) (hd : ∀ Γ', Inv ds.length Γ' → De.nx Γ') (hj : n.N[j]? = some nm := by rfl) (hh : n.hot = false := by rfl) (ha : n.as.contains j = true := by rfl) (hoi : n.oi.contains j = false := by rfl)
    (hf : ∀ x, foldedSetIterable e X.env x = pure x := by intro _; rfl) : WS X n c Γ (.For (.Name nm tp) e body [] pos) De := .mk fun hn σ R H s E ok => by
  obtain ⟨l1, l2⟩ := hn.loc j nm ha hj
  refine (ps_for hn.po (hn.calm hh) (pi_tup pW) (pg_name (by rw [hn.eq]; exact hn.nd) (by rw [hn.eq]; exact hj) l1 l2) pWB hf).w (h.run hn σ R H s _ fun v R1 H1 x Γ1 s1 e1 r1 ⟨hx, p1⟩ => ?_)
  subst hx
  obtain ⟨a, vs, rfl, ha', hr⟩ := r1
  refine ⟨a, rfl, ⟨vs, ex_t s1.rh ha'⟩, for_tup (xs := vs) (fun i σ' H' => ∃ R' Γ', SOk X.K c Γ' σ' R' H' ∧ Ex R1 R' ∧ Inv i Γ') ⟨R1, Γ1, s1, Ex.refl _, p1⟩ (fun i σ' H' _ ⟨R', Γ', s', e', _⟩ => ex_t s'.rh (ex_t e' ha')) (fun i v σ' H' hi ⟨R', Γ', s', e', p'⟩ => ?_) (fun σ' H' ⟨R', Γ', s', e', p'⟩ => ?_)⟩
  · obtain ⟨d, hd1, hd2⟩ := hr.get' hi
    exact (hs i Γ' d hd1 p').run hn _ R' H' (s'.setD j (Rp.mono e' _ _ hd2) (hn.noi hoi)) _ (turnE_ok ok (e1.trans e') fun σ2 R2 H2 Γ2 s2 e2 w => ⟨R2, Γ2, s2, e'.trans e2, w⟩)
  · rw [← hr.length] at p'
    exact ok.nx σ' R' H' Γ' s' (e1.trans e') (hd Γ' p')
/-- over a parameter that is only read -/
theorem ws_forW (i0 : Nat) (j : Nat) {body : List Stmt} {tp : Pos} {nm0 : Str} (Inv : Nat → SL → Prop) (ds : List D) (hg : Γ[i0]? = some (.w (.lst ds))) (h : Inv 0 Γ)
    (hs : ∀ i Γ' d, ds[i]? = some d → Inv i Γ' → WB X n c (Γ'.set j (.d d)) body (turnE De (Inv (i + 1)))) (hd : ∀ Γ', Inv ds.length Γ' → De.nx Γ') (hi : n.N[i0]? = some nm0 := by rfl) (hh : n.hot = false := by rfl) (hv : n.V.contains i0 = true := by rfl) (hj : n.N[j]? = some nm := by rfl) (ha : n.as.contains j = true := by rfl) (hoi : n.oi.contains j = false := by rfl)
    (hf : ∀ x, foldedSetIterable (.Name nm0 p) X.env x = pure x := by intro _; rfl) : WS X n c Γ (.For (.Name nm tp) (.Name nm0 p) body [] pos) De := .mk fun hn σ R H s E ok => by
  obtain ⟨l1, l2⟩ := hn.loc j nm ha hj
  obtain ⟨d1, d2⟩ := hn.dbg i0 nm0 hi
  refine (ps_for hn.po (hn.calm hh) (pi_list (pe_var (i := i0) (by rw [hn.eq]; exact hi) (hn.vis i0 nm0 hv hi) d1 d2)) (pg_name (by rw [hn.eq]; exact hn.nd) (by rw [hn.eq]; exact hj) l1 l2) pWB hf).w ?_
  obtain ⟨w, w1, v, w2, w3⟩ := s.sl i0 _ hg
  subst w2
  have ⟨a, vs, ev, st, hr⟩ : ∃ a vs, v = .ref a ∧ (∀ R' H' Γ' σ', SOk X.K c Γ' σ' R' H' → Ex R R' → H' a = some (.lst vs)) ∧ RpL X.K R ds vs := by
    rcases w3 with ⟨a, vs, h1, h2, h3⟩ | ⟨a, vs, es, h1, h2, h3, h4, h5⟩ | ⟨a, vs, es, h1, h2, _⟩ | ⟨a, dx, ws, nm, fs, h1, h2, _⟩
    · exact ⟨a, vs, h1, fun R' H' Γ' σ' s' e' => s'.rh a _ (e' a _ h2), h3⟩
    · cases h2
      refine ⟨a, vs, h1, fun R' H' Γ' σ' s' e' => ?_, h5⟩
      cases z : c.H0 a with
      | none => exact absurd (.inl z) h3
      | some u =>
        have q1 := s.hm a u (fun m => h3 (.inr m)) z
        have q2 := s'.hm a u (fun m => h3 (.inr m)) z
        rw [q1] at h4; cases h4; exact q2
    · cases h2
    · cases h2
  subst ev
  refine ⟨_, w1, a, rfl, ⟨vs, .inl (.inl (st R H Γ σ s (Ex.refl _)))⟩, for_list (xs := vs) (fun i σ' H' => ∃ R' Γ', SOk X.K c Γ' σ' R' H' ∧ Ex R R' ∧ Inv i Γ') ⟨R, Γ, s, Ex.refl _, h⟩ (fun i σ' H' _ ⟨R', Γ', s', e', _⟩ => .inl (.inl (st R' H' Γ' σ' s' e'))) (fun i v σ' H' hi ⟨R', Γ', s', e', p'⟩ => ?_) (fun σ' H' ⟨R', Γ', s', e', p'⟩ => ?_)⟩
  · obtain ⟨d, hd1, hd2⟩ := hr.get' hi
    exact (hs i Γ' d hd1 p').run hn _ R' H' (s'.setD j (Rp.mono e' _ _ hd2) (hn.noi hoi)) _ (turnE_ok ok e' fun σ2 R2 H2 Γ2 s2 e2 w => ⟨R2, Γ2, s2, e'.trans e2, w⟩)
  · rw [← hr.length] at p'
    exact ok.nx σ' R' H' Γ' s' e' (hd Γ' p')
theorem ws_forR1 (j : Nat) {body : List Stmt} {tp p2 : Pos} (Inv : Nat → SL → Prop) (m : Nat) (hb : Blt X "range" (.type "range")) (jr : Nat) (h : WE X n c Γ a fun x Γ1 => ∃ i : Int, x = .int i ∧ i.toNat = m ∧ i < 2 ^ 62 ∧ -(2 ^ 62) ≤ i ∧ Inv 0 Γ1)
    (hs : ∀ i Γ', i < m → Inv i Γ' → WB X n c (Γ'.set j (.d (.int (i : Int)))) body (turnE De (Inv (i + 1)))) (hd : ∀ Γ', Inv m Γ' → De.nx Γ') (hjr : n.GN[jr]? = some ("range" : Str) := by rfl) (hh : n.hot = false := by rfl) (hj : n.N[j]? = some nm := by rfl) (ha : n.as.contains j = true := by rfl) (hoi : n.oi.contains j = false := by rfl)
    (hst : starEach [a] X.env = [(false, eval a X.env)] := by exact se_1 rfl) (hf : ∀ x, foldedSetIterable (.Call (.Name "range" p) [a] [] p2) X.env x = pure x := by intro _; rfl) : WS X n c Γ (.For (.Name nm tp) (.Call (.Name "range" p) [a] [] p2) body [] pos) De := .mk fun hn σ R H s E ok => by
  obtain ⟨l1, l2⟩ := hn.loc j nm ha hj
  obtain ⟨g1, g2, g3⟩ := hn.gl jr _ hjr
  refine (ps_for hn.po (hn.calm hh) (pi_range1 g1 hb.mg (pa_cons pW pa_nil hst) hst) (pg_name (by rw [hn.eq]; exact hn.nd) (by rw [hn.eq]; exact hj) l1 l2) pWB hf).w (h.run hn σ R H s _ fun v R1 H1 x Γ1 s1 e1 r1 ⟨i, hx, h1, h2, h3, p1⟩ => ?_)
  subst hx
  cases (show v = .int i from r1)
  refine ⟨i, rfl, h3, h2, ?_⟩
  rw [h1]
  refine for_range (lo := 0) (n := m) (fun i σ' H' => ∃ R' Γ', SOk X.K c Γ' σ' R' H' ∧ Ex R1 R' ∧ Inv i Γ') ⟨R1, Γ1, s1, Ex.refl _, p1⟩ (fun i σ' H' hi ⟨R', Γ', s', e', p'⟩ => ?_) (fun σ' H' ⟨R', Γ', s', e', p'⟩ => ok.nx σ' R' H' Γ' s' (e1.trans e') (hd Γ' p'))
  have e0 : (0 : Int) + (i : Int) = (i : Int) := Int.zero_add _
  rw [e0]
  exact (hs i Γ' hi p').run hn _ R' H' (s'.setD j (x := .int (i : Int)) rfl (hn.noi hoi)) _ (turnE_ok ok (e1.trans e') fun σ2 R2 H2 Γ2 s2 e2 w => ⟨R2, Γ2, s2, e'.trans e2, w⟩)
theorem ws_forR2 (j : Nat) {body : List Stmt} {tp p2 : Pos} (Inv : Nat → SL → Prop) (lo hi : Int) (hb : Blt X "range" (.type "range")) (jr : Nat) (h1 : EV X n c Γ a (.int lo)) (h2 : EV X n c Γ b (.int hi)) (hz : (-(2 ^ 62) ≤ lo ∧ lo < 2 ^ 62 ∧ -(2 ^ 62) ≤ hi ∧ hi < 2 ^ 62)) (h : Inv 0 Γ)
    (hs : ∀ (i : Nat) Γ', lo + (i : Int) < hi → Inv i Γ' → WB X n c (Γ'.set j (.d (.int (lo + (i : Int))))) body (turnE De (Inv (i + 1)))) (hd : ∀ Γ', Inv (hi - lo).toNat Γ' → De.nx Γ') (hjr : n.GN[jr]? = some ("range" : Str) := by rfl) (hh : n.hot = false := by rfl) (hj : n.N[j]? = some nm := by rfl) (ha : n.as.contains j = true := by rfl) (hoi : n.oi.contains j = false := by rfl)
    (hst : starEach [a, b] X.env = [(false, eval a X.env), (false, eval b X.env)] := by exact se_2 rfl rfl) (hst2 : starEach [b] X.env = [(false, eval b X.env)] := by exact se_1 rfl) (hf : ∀ x, foldedSetIterable (.Call (.Name "range" p) [a, b] [] p2) X.env x = pure x := by intro _; rfl) : WS X n c Γ (.For (.Name nm tp) (.Call (.Name "range" p) [a, b] [] p2) body [] pos) De := .mk fun hn σ R H s E ok => by
  obtain ⟨l1, l2⟩ := hn.loc j nm ha hj
  obtain ⟨g1, g2, g3⟩ := hn.gl jr _ hjr
  refine (ps_for hn.po (hn.calm hh) (pi_range2 g1 hb.mg (pa_cons pW (pa_cons pW pa_nil hst2) (by rw [hst, hst2])) hst hst2) (pg_name (by rw [hn.eq]; exact hn.nd) (by rw [hn.eq]; exact hj) l1 l2) pWB hf).w (h1.run hn σ R H s _ fun v R1 H1 x Γ1 s1 e1 r1 ⟨q1, q2⟩ => ?_)
  rw [q1] at r1; rw [q2] at s1
  refine h2.run hn σ R1 H1 s1 _ fun w R2 H2 y Γ2 s2 e2 r2 ⟨q3, q4⟩ => ?_
  rw [q3] at r2; rw [q4] at s2
  cases (show v = .int lo from r1)
  cases (show w = .int hi from r2)
  refine ⟨lo, hi, rfl, hz, for_range (lo := lo) (n := (hi - lo).toNat) (fun i σ' H' => ∃ R' Γ', SOk X.K c Γ' σ' R' H' ∧ Ex R2 R' ∧ Inv i Γ') ⟨R2, Γ, s2, Ex.refl _, h⟩ (fun i σ' H' hi' ⟨R', Γ', s', e', p'⟩ => ?_) (fun σ' H' ⟨R', Γ', s', e', p'⟩ => ok.nx σ' R' H' Γ' s' ((e1.trans e2).trans e') (hd Γ' p'))⟩
  exact (hs i Γ' (by omega) p').run hn _ R' H' (s'.setD j (x := .int (lo + (i : Int))) rfl (hn.noi hoi)) _ (turnE_ok ok ((e1.trans e2).trans e') fun σ2 R2 H2 Γ2 s2 e2 w => ⟨R2, Γ2, s2, e'.trans e2, w⟩)
theorem ws_while {t : Expr} {body : List Stmt} (Inv : Nat → SL → Prop) (m0 : Nat) (h0 : Inv m0 Γ)
    (hs : ∀ m Γ', Inv m Γ' → WT X n c Γ' t fun q Γ2 => (q = true → WB X n c Γ2 body (turnE De fun Γ3 => ∃ m', m' < m ∧ Inv m' Γ3)) ∧ (q = false → De.nx Γ2)) : WS X n c Γ (.While t body [] pos) De := .mk fun hn σ R H s E ok =>
  (ps_while hn.po pWT pWB).w ⟨fun m σ' H' => ∃ R' Γ', SOk X.K c Γ' σ' R' H' ∧ Ex R R' ∧ Inv m Γ', ⟨m0, R, Γ, s, Ex.refl _, h0⟩, fun m σ' H' ⟨R', Γ', s', e', p'⟩ =>
    (hs m Γ' p').run hn σ' R' H' s' _ fun R2 H2 q Γ2 s2 e2 ⟨p1, p2⟩ => by
      cases q with
      | true =>
        show ∃ N : St → Hp → Prop, _
        exact ⟨_, fun _ _ w => w, (p1 rfl).run hn σ' R2 H2 s2 _ (turnE_ok ok (e'.trans e2) fun σ3 R3 H3 Γ3 s3 e3 ⟨m', hm, w⟩ => ⟨m', hm, R3, Γ3, s3, (e'.trans e2).trans e3, w⟩)⟩
      | false =>
        show E.nx σ' H2
        exact ok.nx σ' R2 H2 Γ2 s2 (e'.trans e2) (p2 rfl)⟩
/-! ### the store, opened -/
theorem wb_open (i : Nat) {sts : List Stmt} (hg : Γ[i]? = some (.own .sto)) (h : ∀ ns place great st left cnt, StoreB ns place great st left cnt → WB X n c (Γ.set i (.own (.lst (stoD ns place great st left cnt)))) sts De) : WB X n c Γ sts De := .mk fun hn σ R H s E ok => by
  obtain ⟨w, e1, a, e2, ⟨ns, place, great, st, left, cnt, hB, vs, h1, h2⟩, w4, w5⟩ := s.sl i _ hg
  subst e2
  have s2 := s.mut (ob' := .lst (stoD ns place great st left cnt)) (o := .lst vs) i hg e1 ⟨vs, upd_same, h2⟩
  have e : upd H a (.lst vs) = H := by
    funext b
    by_cases hb : b = a
    · subst hb; rw [upd_same, h1]
    · rw [upd_ne hb]
  rw [e] at s2
  exact (h ns place great st left cnt hB).run hn σ R H s2 E ok
end
/-- what is lent may be told as a store again -/
def OB.le : OB → OB → Prop := fun o o' => o = o' ∨ (o' = .sto ∧ ∃ ns place great st left cnt, o = .lst (stoD ns place great st left cnt) ∧ StoreB ns place great st left cnt)
theorem OB.le.ok {K : PySem.W.Frag} {R H : Hp} {a : Addr} {o o' : OB} (h : o.le o') (k : OBOk K R H a o) : OBOk K R H a o' := by
  rcases h with rfl | ⟨rfl, ns, p, g, st, l, n, rfl, hB⟩
  · exact k
  · obtain ⟨vs, h1, h2⟩ := k
    exact ⟨ns, p, g, st, l, n, hB, vs, h1, h2⟩

/-! ### a def -/
def Par.slot : Par → Slot
  | .d x => .d x
  | .w x => .w x
  | .own o => .own o
  | .sc ns => .sc ns
def parOi : Nat → List Par → List Nat
  | _, [] => []
  | i, .own _ :: ps => i :: parOi (i + 1) ps
  | i, _ :: ps => parOi (i + 1) ps
/-- what is lent, at the end: the slots' things as they are told back -/
def Backs (Γ : SL) : List Nat → List OB → Prop
  | [], os => os = []
  | i :: is, os => ∃ o o' os', os = o' :: os' ∧ Γ[i]? = some (.own o) ∧ o.le o' ∧ Backs Γ is os'
/-- a return value may be told as a store, too -/
def Res.le : Res → Res → Prop
  | .own o, .own o' => o.le o'
  | r, r' => r = r'
def fnD (oi : List Nat) (Post : Res → List OB → Prop) : DE where
  nx := fun Γ => ∃ os, Backs Γ oi os ∧ Post (.d .non) os
  rt := fun r Γ => ∃ r' os, r.le r' ∧ Backs Γ oi os ∧ Post r' os

theorem OwnsOk.of {K : PySem.W.Frag} {c : Cc} {Γ : SL} {σ : St} {R H : Hp} (s : SOk K c Γ σ R H) : ∀ {oi : List (Nat × Addr)} {os : List OB}, (∀ p ∈ oi, p ∈ c.oi) → Backs Γ (oi.map (·.1)) os → OwnsOk K R H (oi.map (·.2)) os
  | [], _, _, h => h
  | p :: oi, _, hs, ⟨o, o', os', e, h1, h2, h3⟩ => by
    subst e
    obtain ⟨w1, _⟩ := s.oi p (hs p List.mem_cons_self)
    obtain ⟨w, u1, a, u2, u3, _⟩ := s.sl p.1 _ h1
    rw [w1] at u1; cases u1; cases u2
    exact ⟨o', os', rfl, h2.ok u3, OwnsOk.of s (fun q hq => hs q (List.mem_cons_of_mem _ hq)) h3⟩
def oiOf : Nat → List Par → List V → List (Nat × Addr)
  | i, .own _ :: ps, v :: vs => (i, adr v) :: oiOf (i + 1) ps vs
  | i, _ :: ps, _ :: vs => oiOf (i + 1) ps vs
  | _, _, _ => []
theorem oiOf_ad : ∀ {ps : List Par} {vs : List V} {i : Nat}, (oiOf i ps vs).map (·.2) = ownAd ps vs
  | [], _, _ => by simp [oiOf, ownAd]
  | p :: ps, [], _ => by cases p <;> simp [oiOf, ownAd]
  | p :: ps, v :: vs, i => by cases p <;> simp [oiOf, ownAd, oiOf_ad]
theorem oiOf_ix {K : PySem.W.Frag} {M : Addr → Prop} {R H : Hp} : ∀ {ps : List Par} {vs : List V} {i : Nat}, ParsOk K M R H ps vs → (oiOf i ps vs).map (·.1) = parOi i ps
  | [], _, _, h => by simp [oiOf, parOi]
  | p :: ps, _, i, ⟨v, ws, e, h1, h2⟩ => by subst e; cases p <;> simp [oiOf, parOi, oiOf_ix h2]
theorem parsOk_len {K : PySem.W.Frag} {M : Addr → Prop} {R H : Hp} : ∀ {ps : List Par} {vs : List V}, ParsOk K M R H ps vs → ps.length = vs.length
  | [], _, h => by cases (show _ = _ from h); rfl
  | p :: ps, _, ⟨v, ws, e, h1, h2⟩ => by subst e; simp [parsOk_len h2]
theorem oiOf_mem {K : PySem.W.Frag} {M : Addr → Prop} {R H : Hp} : ∀ {ps : List Par} {vs : List V} {i : Nat}, ParsOk K M R H ps vs → ∀ p ∈ oiOf i ps vs, ∃ j o, p.1 = i + j ∧ ps[j]? = some (.own o) ∧ vs[j]? = some (.ref p.2) ∧ OBOk K R H p.2 o ∧ R p.2 = none
  | [], _, _, h, q, hq => by simp [oiOf] at hq
  | p :: ps, _, i, ⟨v, ws, e, h1, h2⟩, q, hq => by
    subst e
    have tl : q ∈ oiOf (i + 1) ps ws → ∃ j o, q.1 = i + j ∧ (p :: ps)[j]? = some (.own o) ∧ (v :: ws)[j]? = some (.ref q.2) ∧ OBOk K R H q.2 o ∧ R q.2 = none := fun hq => by
      obtain ⟨j, o, a, b, d, e⟩ := oiOf_mem h2 q hq
      exact ⟨j + 1, o, by omega, by simpa using b, by simpa using d, e⟩
    cases p with
    | own o =>
      rcases List.mem_cons.mp hq with rfl | hq
      · obtain ⟨a, rfl, h3, h4⟩ := h1
        exact ⟨0, o, rfl, rfl, rfl, h3, h4⟩
      · exact tl hq
    | _ => exact tl hq
theorem ownAd_mem {K : PySem.W.Frag} {M : Addr → Prop} {R H : Hp} : ∀ {ps : List Par} {vs : List V} {j : Nat} {o : OB}, ParsOk K M R H ps vs → ps[j]? = some (.own o) → ∃ a, vs[j]? = some (.ref a) ∧ a ∈ ownAd ps vs ∧ OBOk K R H a o ∧ R a = none
  | [], _, j, o, h, e => by simp at e
  | p :: ps, _, 0, o, ⟨v, ws, e, h1, h2⟩, q => by
    subst e
    have q' : p = .own o := by simpa using q
    subst q'
    obtain ⟨a, rfl, h3, h4⟩ := h1
    exact ⟨a, rfl, by simp [ownAd, adr], h3, h4⟩
  | p :: ps, _, j + 1, o, ⟨v, ws, e, h1, h2⟩, q => by
    subst e
    obtain ⟨a, h3, h4, h5⟩ := ownAd_mem (j := j) h2 (by simpa using q)
    exact ⟨a, by simpa using h3, by cases p <;> simp [ownAd, h4], h5⟩
theorem parOk_at {K : PySem.W.Frag} {M : Addr → Prop} {R H : Hp} : ∀ {ps : List Par} {vs : List V} {j : Nat} {p : Par}, ParsOk K M R H ps vs → ps[j]? = some p → ∃ v, vs[j]? = some v ∧ ParOk K M R H p v
  | [], _, j, o, h, e => by simp at e
  | p :: ps, _, 0, o, ⟨v, ws, e, h1, h2⟩, q => by
    subst e
    have q' : p = o := by simpa using q
    subst q'
    exact ⟨v, rfl, h1⟩
  | p :: ps, _, j + 1, o, ⟨v, ws, e, h1, h2⟩, q => by
    subst e
    obtain ⟨a, h3, h4⟩ := parOk_at (j := j) h2 (by simpa using q)
    exact ⟨a, by simpa using h3, h4⟩
theorem ad_inj : ∀ {ps : List Par} {vs : List V} {i j : Nat} {a : Addr} {o o' : OB}, (ownAd ps vs).Nodup → ps[i]? = some (.own o) → ps[j]? = some (.own o') → vs[i]? = some (.ref a) → vs[j]? = some (.ref a) → i = j
  | [], _, i, j, a, o, o', _, e, _, _, _ => by simp at e
  | p :: ps, [], i, j, a, o, o', _, _, _, e, _ => by simp at e
  | p :: ps, v :: vs, 0, 0, a, o, o', _, _, _, _, _ => rfl
  | p :: ps, v :: vs, 0, j + 1, a, o, o', nd, e1, e2, e3, e4 => by
    have q : p = .own o := by simpa using e1
    have q2 : v = .ref a := by simpa using e3
    subst q q2
    have : a ∈ ownAd ps vs := by
      have : ∀ {ps : List Par} {vs : List V} {j : Nat}, ps[j]? = some (.own o') → vs[j]? = some (.ref a) → a ∈ ownAd ps vs := by
        intro ps
        induction ps with
        | nil => intro vs j h; simp at h
        | cons p ps ih =>
          intro vs j h1 h2
          cases vs with
          | nil => simp at h2
          | cons v vs =>
            cases j with
            | zero =>
              have q : p = .own o' := by simpa using h1
              have q2 : v = .ref a := by simpa using h2
              subst q q2
              simp [ownAd, adr]
            | succ j =>
              have := ih (vs := vs) (j := j) (by simpa using h1) (by simpa using h2)
              cases p <;> simp [ownAd, this]
      exact this (by simpa using e2) (by simpa using e4)
    simp [ownAd, adr] at nd
    exact absurd this nd.1
  | p :: ps, v :: vs, i + 1, 0, a, o, o', nd, e1, e2, e3, e4 => by
    exact (ad_inj (ps := p :: ps) (vs := v :: vs) (i := 0) (j := i + 1) nd e2 e1 e4 e3).symm
  | p :: ps, v :: vs, i + 1, j + 1, a, o, o', nd, e1, e2, e3, e4 => by
    have nd' : (ownAd ps vs).Nodup := by
      cases p with
      | own o => exact (List.nodup_cons.mp nd).2
      | _ => exact nd
    have ij : i = j := ad_inj (ps := ps) (vs := vs) (a := a) (o := o) (o' := o') nd' (by simpa using e1) (by simpa using e2) (by simpa using e3) (by simpa using e4)
    rw [ij]
termination_by ps vs i j => (i + j, if i = 0 then 0 else 1)
/-- the slots at a def's entry -/
def entry (N : List Str) (ps : List Par) : SL := ps.map Par.slot ++ List.replicate (N.length - ps.length) .no
theorem entry_ok {K : PySem.W.Frag} {R H : Hp} {N : List Str} {ps : List Par} {vs : List V} (e : Ex R H) (h : ParsOk K (fun a => a ∈ ownAd ps vs) R H ps vs) (nd : (ownAd ps vs).Nodup) :
    SOk K ⟨R, H, fun a => a ∈ ownAd ps vs, oiOf 0 ps vs, xw⟩ (entry N ps) (L2.start N vs) R H := by
  have hl := parsOk_len h
  have at_ : ∀ (i : Nat) (s : Slot), (entry N ps)[i]? = some s → (∃ p, ps[i]? = some p ∧ s = p.slot) ∨ (ps.length ≤ i ∧ s = .no ∧ (L2.start N vs)[i]? = some none) := fun i s q => by
    unfold entry at q
    by_cases hi : i < ps.length
    · rw [List.getElem?_append_left (by simpa using hi), List.getElem?_map] at q
      obtain ⟨p, q1, q2⟩ := Option.map_eq_some_iff.mp q
      exact .inl ⟨p, q1, q2.symm⟩
    · rw [List.getElem?_append_right (by simpa using hi), List.getElem?_replicate] at q
      split at q
      · rename_i hlt
        refine .inr ⟨by omega, (Option.some.inj q).symm, ?_⟩
        unfold L2.start
        rw [List.getElem?_append_right (by simp; omega), List.getElem?_replicate, if_pos (by simp at hlt ⊢; omega)]
      · cases q
  have st : ∀ i v, vs[i]? = some v → (L2.start N vs)[i]? = some (some v) := fun i v q => by
    unfold L2.start
    rw [List.getElem?_append_left (by have := (List.getElem?_eq_some_iff.mp q).1; simpa using this), List.getElem?_map, q]; rfl
  have own_ : ∀ (i : Nat) (o : OB), (entry N ps)[i]? = some (.own o) → ps[i]? = some (.own o) := fun i o q => by
    rcases at_ i _ q with ⟨p, q1, q2⟩ | ⟨_, q2, _⟩
    · cases p <;> cases q2; exact q1
    · cases q2
  refine ⟨e, Ex.refl _, fun _ _ _ h => h, fun _ h => h, fun _ _ h => h, by simp [entry, L2.start, hl], fun i s q => ?_, fun i j a o o' q1 q2 q3 q4 => ?_, fun p hp => ?_⟩
  · rcases at_ i s q with ⟨p, q1, q2⟩ | ⟨_, q2, q3⟩
    · obtain ⟨v, w1, w2⟩ := parOk_at h q1
      refine ⟨_, st i v w1, ?_⟩
      subst q2
      cases p with
      | d x => exact ⟨v, rfl, w2⟩
      | w x => exact ⟨v, rfl, w2.noM fun a o h1 h2 h3 => by
          rcases h3 with h3 | h3
          · have h3' : H a = none := h3; rw [h1] at h3'; cases h3'
          · exact h2 h3⟩
      | sc ns => obtain ⟨a, rfl, w3⟩ := w2; exact ⟨a, rfl, w3⟩
      | own o =>
        obtain ⟨a, z1, z2, z3, z4⟩ := ownAd_mem h q1
        rw [w1] at z1; cases z1
        exact ⟨a, rfl, z3, z4, .inr z2⟩
    · subst q2; exact ⟨none, q3, rfl⟩
  · have p1 := own_ i o q1
    have p2 := own_ j o' q2
    obtain ⟨b, z1, _⟩ := ownAd_mem h p1
    obtain ⟨b', z2, _⟩ := ownAd_mem h p2
    rw [st i _ z1] at q3; cases q3
    rw [st j _ z2] at q4; cases q4
    exact ad_inj nd p1 p2 z1 z2
  · obtain ⟨j, o, h1, h2, h3, h4, h5⟩ := oiOf_mem h p hp
    have hj : p.1 = j := by omega
    rw [hj]
    refine ⟨st j _ h3, o, ?_⟩
    unfold entry
    rw [List.getElem?_append_left (by have := (List.getElem?_eq_some_iff.mp h2).1; simpa using this), List.getElem?_map, h2]; rfl
/-- the scope of a def, as NOk wants it -/
structure ScOk (sc : Scope) (n : Nm) : Prop where
  nd : n.N.Nodup
  vis : ∀ (i : Nat) (x : Str), n.V.contains i = true → n.N[i]? = some x → sc.names.lookup x = some .local ∨ sc.names.lookup x = some .cell
  dbg : ∀ (i : Nat) (x : Str), n.N[i]? = some x → (x == ("__debug__" : Str)) = false ∧ (x == ("__classdict__" : Str)) = false
  gl : ∀ (i : Nat) (x : Str), n.GN[i]? = some x → sc.names.lookup x = some .globalImplicit ∧ (x == ("__debug__" : Str)) = false ∧ x ≠ ("__name__" : Str)
  lc : ∀ (i : Nat) (x : Str), n.lc.contains i = true → n.N[i]? = some x → sc.names.lookup x = some .local
  as : ∀ (i : Nat), n.as.contains i = true → n.V.contains i = true
def scB (sc : Scope) (n : Nm) : Bool :=
  decide n.N.Nodup && (List.range n.N.length).all (fun i => match n.N[i]? with
    | some x => (!n.V.contains i || (sc.names.lookup x == some .local || sc.names.lookup x == some .cell)) && !(x == ("__debug__" : Str)) && !(x == ("__classdict__" : Str)) && (!n.lc.contains i || sc.names.lookup x == some .local)
    | none => true) && n.GN.all (fun x => sc.names.lookup x == some .globalImplicit && !(x == ("__debug__" : Str)) && !(x == ("__name__" : Str))) && n.as.all (fun i => n.V.contains i)
theorem scOk_of {sc : Scope} {n : Nm} (h : scB sc n = true) : ScOk sc n := by
  unfold scB at h
  simp only [Bool.and_eq_true, decide_eq_true_eq, List.all_eq_true, List.mem_range] at h
  obtain ⟨⟨⟨h1, h2⟩, h3⟩, h4⟩ := h
  have at_ : ∀ (i : Nat) (x : Str), n.N[i]? = some x → ((!n.V.contains i || (sc.names.lookup x == some .local || sc.names.lookup x == some .cell)) && !(x == ("__debug__" : Str)) && !(x == ("__classdict__" : Str)) && (!n.lc.contains i || sc.names.lookup x == some .local)) = true := fun i x e => by
    have := h2 i (List.getElem?_eq_some_iff.mp e).1
    rw [e] at this; exact this
  refine ⟨h1, fun i x hv e => ?_, fun i x e => ?_, fun i x e => ?_, fun i x hv e => ?_, fun i hi => ?_⟩
  · have := at_ i x e
    simp only [Bool.and_eq_true, hv, Bool.not_true, Bool.false_or, Bool.or_eq_true, beq_iff_eq] at this
    exact this.1.1.1
  · have := at_ i x e
    simp only [Bool.and_eq_true, Bool.not_eq_true'] at this
    exact ⟨this.1.1.2, this.1.2⟩
  · have := h3 x (List.mem_of_getElem? e)
    simp only [Bool.and_eq_true, beq_iff_eq, Bool.not_eq_true'] at this
    exact ⟨this.1.1, this.1.2, by intro z; subst z; simp at this⟩
  · have := at_ i x e
    simp only [Bool.and_eq_true, hv, Bool.not_true, Bool.false_or, beq_iff_eq] at this
    exact this.2
  · rw [List.contains_iff_mem] at hi
    exact h4 i hi
/-- THE RULE: a def keeps its promise -/
theorem fn_ok {P : Program} {w : World} {K : PySem.W.Frag} {mg : Str → Option Value} {base : Heap} {x qual : Str} {st : Stmt} {f : Addr} {fd : FuncData} {qs : List Str} {n : Nm} {S : Sg} (F : Fun K x qual st f fd) (sc : FnScope n.N qs (defScope st)) (sb : ScOk (defScope st) n) (hsc : n.sc = none ∨ n.sc = some (defScope st))
    (hS : ∀ ps Post, S ps Post → ps.length = qs.length ∧ parOi 0 ps = n.oi)
    (body : ∀ (X : Cx) (c : Cc), X.prog = P ∧ X.w = w ∧ X.K = K ∧ X.mg = mg ∧ X.base = base ∧ Room n.k X.A → ∀ ps Post, S ps Post → WB X n c (entry n.N ps) (defBody st) (fnD n.oi Post)) : FnOk P w K mg base CX0 (n.k + 1) f fd qs (spOf K S) := by
  refine F.ok sc (fun vs H Q E h => ?_) (fun cdv A outer s H vs Q E hr h => ?_)
  · obtain ⟨R, ps, Post, e, hp, nd, hs, _⟩ := h
    rw [← parsOk_len hp]; exact (hS ps Post hs).1
  · obtain ⟨R, ps, Post, e, hp, nd, hs, q⟩ := h
    obtain ⟨hq1, hq2⟩ := hS ps Post hs
    refine ⟨_, pWB, ?_⟩
    refine (body _ ⟨R, H, fun a => a ∈ ownAd ps vs, oiOf 0 ps vs, fun _ _ _ => False⟩ ⟨rfl, rfl, rfl, rfl, rfl, hr⟩ ps Post hs).run ?_ _ R H (entry_ok e hp nd) _ ?_
    · refine ⟨rfl, sc.nd, fun i x hv hi => ?_, fun i x ha hi => ?_, sb.dbg, sb.gl, sc.kind, fun s0 e0 => ?_, fun _ => rfl, L2H.roomH_of hr, PassesOwn.never, sb.lc, ?_, fun a ha => ?_, takes_no rfl, fun _ => ⟨rfl, rfl⟩⟩
      · rcases sb.vis i x hv hi with h | h
        · exact .inl h
        · exact .inr (.inl h)
      · refine ⟨?_, .inl rfl⟩
        rcases sb.vis i x (sb.as i ha) hi with h | h
        · exact .inl h
        · exact .inr h
      · rcases hsc with h | h
        · rw [h] at e0; cases e0
        · rw [h] at e0; cases e0; rfl
      · rw [← hq2]; exact oiOf_ix hp
      · have ha' : a ∈ (oiOf 0 ps vs).map (·.2) := by rw [oiOf_ad]; exact ha
        obtain ⟨p, hp1, hp2⟩ := List.mem_map.mp ha'
        exact ⟨p.1, by rw [← hp2]; exact hp1⟩
    · have fin : ∀ {σ : St} {R' H' : Hp} {Γ : SL} {v : V} {r r' : Res} {os : List OB}, SOk K ⟨R, H, fun a => a ∈ ownAd ps vs, oiOf 0 ps vs, fun _ _ _ => False⟩ Γ σ R' H' → VOk K ⟨R, H, fun a => a ∈ ownAd ps vs, oiOf 0 ps vs, fun _ _ _ => False⟩ Γ σ R' H' r v → r.le r' → Backs Γ n.oi os → Post r' os → Q v H' :=
        fun {σ R' H' Γ v r r' os} s ro le bk po => by
          refine q v R' H' r' os ⟨s.r0, s.rh, fun a o na h => s.hm a o na h, s.pr, s.un⟩ ?_ ?_ po
          · cases r with
            | d x =>
              cases r' with
              | d y => cases (show Res.d x = Res.d y from le); exact ro
              | own o => exact absurd (show Res.d x = Res.own o from le) (by intro z; cases z)
            | own o =>
              cases r' with
              | d y => exact absurd (show Res.own o = Res.d y from le) (by intro z; cases z)
              | own o' => obtain ⟨a, h1, h2, h3, h4, _⟩ := ro; exact ⟨a, h1, OB.le.ok le h2, h3, h4⟩
          · rw [← oiOf_ad (i := 0)]
            exact OwnsOk.of s (fun _ h => h) (by rw [oiOf_ix hp, hq2]; exact bk)
      exact ⟨fun σ R' H' Γ s e' ⟨os, h1, h2⟩ => fin (v := .non) (r := .d .non) (r' := .d .non) s rfl rfl h1 h2, fun v σ R' H' Γ r s e' ro ⟨r', os, h1, h2, h3⟩ => fin s ro h1 h2 h3, fun σ R' H' Γ s e' h => h.elim, fun σ R' H' Γ s e' h => h.elim⟩
end DL

end
section
set_option Elab.async false
set_option linter.all false
set_option autoImplicit true
set_option maxRecDepth 100000
set_option maxHeartbeats 400000
namespace DL
open PySem L2
open PyProof.Rows hiding St

/-! ### comprehensions: within, lists and dicts that slots own are only read; a store may be drawn from -/
def Slot.inn : Slot → Slot
  | .own .sto => .own .sto
  | .own (.lst ds) => .w (.lst ds)
  | .own (.dic ds) => .w (.dic ds)
  | .own (.ins nm fs) => .w (.ins nm fs)
  | s => s
def stoAd (Γ : SL) (σ : St) (a : Addr) : Prop := ∃ i : Nat, Γ[i]? = some (.own .sto) ∧ σ[i]? = some (some (.ref a))
def Slot.isSto : Slot → Bool
  | .own .sto => true
  | _ => false
theorem isSto_eq {s : Slot} (h : s.isSto = true) : s = .own .sto := by
  cases s with
  | own o => cases o with
    | sto => rfl
    | _ => cases h
  | _ => cases h
def stoIx (Γ : SL) : List Nat := (List.range Γ.length).filter fun i => match Γ[i]? with
  | some s => s.isSto
  | none => false
def inn (Γ : SL) (σ : St) (R H : Hp) : Cc := ⟨R, H, stoAd Γ σ, (stoIx Γ).map fun i => (i, adr ((σ[i]?.bind id).getD .non)), fun _ _ _ => False⟩
section
variable {K : PySem.W.Frag} {c : Cc} {Γ : SL} {σ : St} {R H R' H' : Hp}
theorem mem_stoIx {i : Nat} : i ∈ stoIx Γ ↔ Γ[i]? = some (.own .sto) := by
  unfold stoIx
  rw [List.mem_filter, List.mem_range]
  constructor
  · rintro ⟨h1, h2⟩
    split at h2
    · rename_i s e
      rw [e, isSto_eq h2]
    · cases h2
  · intro h
    refine ⟨(List.getElem?_eq_some_iff.mp h).1, ?_⟩
    rw [h]; rfl
theorem inn_at {i : Nat} {s : Slot} (h : (Γ.map Slot.inn)[i]? = some s) : ∃ s0, Γ[i]? = some s0 ∧ s = s0.inn := by
  rw [List.getElem?_map] at h
  obtain ⟨s0, h1, h2⟩ := Option.map_eq_some_iff.mp h
  exact ⟨s0, h1, h2.symm⟩
theorem inn_own {s0 : Slot} {o : OB} (h : s0.inn = .own o) : s0 = .own .sto ∧ o = .sto := by
  cases s0 with
  | own ob => cases ob with
    | sto => cases h; exact ⟨rfl, rfl⟩
    | lst _ => cases h
    | dic _ => cases h
    | ins _ _ => cases h
  | _ => cases h
theorem SOk.enter (s : SOk K c Γ σ R H) (j : Nat) {x : D} {v : V} (hr : Rp K R x v) (hj : ∀ o, Γ[j]? ≠ some (.own o)) : SOk K (inn Γ σ R H) ((Γ.map Slot.inn).set j (.d x)) (σ.set j (some v)) R H := by
  have s1 : SOk K (inn Γ σ R H) (Γ.map Slot.inn) σ R H := by
    refine ⟨s.rh, Ex.refl _, fun _ _ _ h => h, fun _ h => h, fun _ _ h => h, by simp [s.len], fun i sl e => ?_, fun i k a o o' e1 e2 e3 e4 => ?_, fun p hp => ?_⟩
    · obtain ⟨s0, e1, e2⟩ := inn_at e
      obtain ⟨o, q1, q2⟩ := s.sl i s0 e1
      refine ⟨o, q1, ?_⟩
      subst e2
      have nsto : ∀ a, (∃ ds, s0 = .own ds ∧ ds ≠ .sto) → o = some (.ref a) → ¬ (inn Γ σ R H).M a := fun a ⟨ds, z1, z2⟩ z3 ⟨k, w1, w2⟩ => by
        subst z1 z3
        have := s.dj i k a ds .sto e1 w1 q1 w2
        subst this
        rw [e1] at w1; cases w1; exact z2 rfl
      cases s0 with
      | no => exact q2
      | any => exact q2
      | d y => exact q2
      | sc ns => exact q2
      | ex _ _ _ => exact q2
      | w y =>
        obtain ⟨u, z1, z2⟩ := q2
        refine ⟨u, z1, z2.noM fun a o' w1 w2 w3 => ?_⟩
        rcases w3 with w3 | ⟨k, w4, w5⟩
        · have w3' : H a = none := w3; rw [w3'] at w1; cases w1
        · obtain ⟨u', t1, b, t2, t3, t4, t5⟩ := s.sl k _ w4
          rw [w5] at t1; cases t1; cases t2
          exact w2 t5
      | own ob =>
        obtain ⟨a, z1, z2, z3, z4⟩ := q2
        cases ob with
        | sto => exact ⟨a, z1, z2, z3, .inr ⟨i, e1, by rw [q1, z1]⟩⟩
        | lst ds =>
          obtain ⟨vs, w1, w2⟩ := z2
          refine ⟨_, z1, .inr (.inl ⟨a, vs, ds, rfl, rfl, fun m => ?_, w1, w2⟩)⟩
          rcases m with m | m
          · have m' : H a = none := m; rw [m'] at w1; cases w1
          · exact nsto a ⟨_, rfl, by simp⟩ z1 m
        | dic ds =>
          obtain ⟨vs, w1, w2⟩ := z2
          refine ⟨_, z1, .inr (.inr (.inl ⟨a, vs, ds, rfl, rfl, fun m => ?_, w1, w2⟩))⟩
          rcases m with m | m
          · have m' : H a = none := m; rw [m'] at w1; cases w1
          · exact nsto a ⟨_, rfl, by simp⟩ z1 m
        | ins nm fs =>
          obtain ⟨dx, vs, w1, w2⟩ := z2
          refine ⟨_, z1, .inr (.inr (.inr ⟨a, dx, vs, nm, fs, rfl, rfl, fun m => ?_, w1, w2⟩))⟩
          rcases m with m | m
          · have m' : H a = none := m; rw [m'] at w1; cases w1
          · exact nsto a ⟨_, rfl, by simp⟩ z1 m
    · obtain ⟨s0, f1, f2⟩ := inn_at e1
      obtain ⟨s1, g1, g2⟩ := inn_at e2
      obtain ⟨r1, _⟩ := inn_own f2.symm
      obtain ⟨r2, _⟩ := inn_own g2.symm
      subst r1 r2
      exact s.dj i k a .sto .sto f1 g1 e3 e4
    · obtain ⟨i, hi, e⟩ := List.mem_map.mp hp
      subst e
      have h1 := mem_stoIx.mp hi
      obtain ⟨u', t1, b, t2, t3, t4, t5⟩ := s.sl i _ h1
      subst t2
      refine ⟨?_, .sto, ?_⟩
      · show σ[i]? = some (some (.ref (adr ((σ[i]?.bind id).getD .non))))
        rw [t1]; rfl
      · show (Γ.map Slot.inn)[i]? = _
        rw [List.getElem?_map, h1]; rfl
  refine s1.setD j hr fun z => ?_
  obtain ⟨p, hp, e⟩ := List.mem_map.mp z
  obtain ⟨i, hi, e'⟩ := List.mem_map.mp hp
  subst e'
  have h1 := mem_stoIx.mp hi
  have e : i = j := e
  subst e
  exact hj _ h1
theorem SOk.leave (s : SOk K c Γ σ R H) (j : Nat) {x : D} {v : Option V} (hj : ∀ o, Γ[j]? ≠ some (.own o)) (s' : SOk K (inn Γ σ R H) ((Γ.map Slot.inn).set j (.d x)) (σ.set j v) R' H') : SOk K c Γ σ R' H' := by
  have noM : ∀ a, ¬ (c.H0 a = none ∨ c.M a) → ¬ (inn Γ σ R H).M a := fun a h ⟨k, w4, w5⟩ => by
    obtain ⟨u', t1, b, t2, t3, t4, t5⟩ := s.sl k _ w4
    rw [w5] at t1; cases t1; cases t2
    exact h t5
  have un : ∀ a, H a ≠ none → R a = none → R' a = none := s'.un
  refine ⟨s'.rh, s.r0.trans s'.r0, fun a o n h => ?_, fun a h => s'.pr a (s.pr a h), fun a h1 h2 => un a (s.pr a h1) (s.un a h1 h2), s.len, fun i sl e => ?_, s.dj, s.oi⟩
  · refine s'.hm a o (noM a fun z => ?_) (s.hm a o n h)
    rcases z with z | z
    · rw [z] at h; cases h
    · exact n z
  · obtain ⟨o, q1, q2⟩ := s.sl i sl e
    refine ⟨o, q1, ?_⟩
    cases sl with
    | no => exact q2
    | any => exact q2
    | d y => obtain ⟨u, z1, z2⟩ := q2; exact ⟨u, z1, Rp.mono s'.r0 _ _ z2⟩
    | sc ns => obtain ⟨u, z1, z2⟩ := q2; exact ⟨u, z1, ex_l s'.r0 z2⟩
    | ex _ _ _ => exact ⟨q2.1, q2.2.mono s'.r0⟩
    | w y => obtain ⟨u, z1, z2⟩ := q2; exact ⟨u, z1, z2.mono s'.r0 fun a o h1 h2 => s'.hm a o (noM a h1) h2⟩
    | own ob =>
      obtain ⟨a, z1, z2, z3, z4⟩ := q2
      refine ⟨a, z1, ?_, un a z2.there z3, z4⟩
      have keep : ob ≠ .sto → ∀ o, H a = some o → H' a = some o := fun hne o ho => s'.hm a o (fun ⟨k, w4, w5⟩ => by
        subst z1
        have := s.dj i k a ob .sto e w4 q1 w5
        subst this
        rw [e] at w4; cases w4; exact hne rfl) ho
      cases ob with
      | lst ds => exact z2.mono s'.r0 (keep (by simp))
      | dic ds => exact z2.mono s'.r0 (keep (by simp))
      | ins nm fs => exact z2.mono s'.r0 (keep (by simp))
      | sto =>
        have hij : j ≠ i := fun z => hj _ (z ▸ e)
        obtain ⟨u, t1, b, t2, t3, t4, t5⟩ := s'.sl i (.own .sto) (by rw [List.getElem?_set_ne hij, List.getElem?_map, e]; rfl)
        rw [List.getElem?_set_ne hij, q1] at t1
        cases t1; subst z1; cases t2
        exact t3
/-- a pending list grows -/
theorem SOk.pend (s : SOk K c Γ σ R H) {a : Addr} {ob ob' : OB} {o : HO} (h : VOk K c Γ σ R H (.own ob) (.ref a)) (h' : OBOk K R (upd H a o) a ob') : SOk K c Γ σ R (upd H a o) ∧ VOk K c Γ σ R (upd H a o) (.own ob') (.ref a) := by
  obtain ⟨b, e, h2, h3, h4, h5⟩ := h
  cases e
  refine ⟨⟨fun b u e => ?_, s.r0, fun b u n e => ?_, fun b n => ?_, s.un, s.len, fun i x e => ?_, s.dj, s.oi⟩, a, rfl, h', h3, h4, h5⟩
  · rw [upd_ne (fun z => by rw [z, h3] at e; cases e)]; exact s.rh b u e
  · rw [upd_ne (fun z => by rw [z, h4] at e; cases e)]; exact s.hm b u n e
  · by_cases z : b = a
    · subst z; rw [upd_same]; simp
    · rw [upd_ne z]; exact s.pr b n
  · obtain ⟨u, u1, u2⟩ := s.sl i x e
    refine ⟨u, u1, ?_⟩
    cases x with
    | no => exact u2
    | any => exact u2
    | d x => exact u2
    | sc ns => exact u2
    | ex _ _ _ => exact u2
    | w x => obtain ⟨v, z1, z2⟩ := u2; exact ⟨v, z1, z2.mono (Ex.refl _) fun b o nb q => by rw [upd_ne (fun z => nb (by rw [z]; exact .inl h4))]; exact q⟩
    | own o2 =>
      obtain ⟨b, z1, z2, z3, z4⟩ := u2
      refine ⟨b, z1, z2.mono (Ex.refl _) fun o q => ?_, z3, z4⟩
      rw [upd_ne (fun z => by subst z; exact h5 i o2 e (by rw [u1, z1]))]; exact q
end

/-- X' runs a comprehension's block of X -/
def BlkX (X X' : Cx) (scope : Scope) : Prop := ∃ s H C cl fp, X' = X.blk s H scope (compEnvC scope cl C X.env) fp
theorem CalF.blk {X X' : Cx} {sc : Scope} {k : Nat} {nm : Str} {S : Sg} (b : BlkX X X' sc) (h : CalF X k nm S) : CalF X' k nm S := by
  obtain ⟨s, H, C, cl, fp, rfl⟩ := b
  exact ⟨h.rm, h.ex⟩
theorem Blt.blk {X X' : Cx} {sc : Scope} {nm : Str} {f : Value} (b : BlkX X X' sc) (h : Blt X nm f) : Blt X' nm f := by
  obtain ⟨s, H, C, cl, fp, rfl⟩ := b
  exact ⟨h.mg, h.bt⟩
theorem Con.blk {X X' : Cx} {sc : Scope} {nm : Str} {x : D} (b : BlkX X X' sc) (h : Con X nm x) : Con X' nm x := by
  obtain ⟨s, H, C, cl, fp, rfl⟩ := b
  exact ⟨h.ex⟩
theorem lookup_mapV {g : Str → NameKind → NameKind} : ∀ {names : List (Str × NameKind)} {x : Str}, ((names.map fun p => (p.1, g p.1 p.2)).lookup x) = (names.lookup x).map (g x)
  | [], x => rfl
  | (m, k) :: r, x => by
    have ih := @lookup_mapV g r x
    rw [List.map_cons]
    by_cases e : x = m
    · subst e; simp [List.lookup]
    · have e' : (x == m) = false := by simpa using e
      simp only [List.lookup, e']; exact ih
theorem lookup_rel {env : Env} {names : List (Str × NameKind)} {x : Str} : ((names.map fun (n, k) => if (k == NameKind.free && env.scope.kind == .function && env.kindOf n == some .cell) then (n, NameKind.cell) else (n, k)).lookup x) = (names.lookup x).map fun k => if (k == NameKind.free && env.scope.kind == .function && env.kindOf x == some .cell) then NameKind.cell else k := by
  rw [← lookup_mapV (g := fun n k => if (k == NameKind.free && env.scope.kind == .function && env.kindOf n == some .cell) then NameKind.cell else k)]
  congr 2
  funext ⟨m, k⟩
  dsimp only
  split <;> rfl
def scC (scope : Scope) (n : Nm) : Bool :=
  ((List.range n.N.length).all (fun i => match n.N[i]? with
    | some x => (!n.V.contains i || (scope.names.lookup x == some .local || scope.names.lookup x == some .cell || scope.names.lookup x == some .free)) && (!n.as.contains i || scope.names.lookup x == some .local)
    | none => true)) && n.GN.all (fun x => scope.names.lookup x == some .globalImplicit && !(x == ("__debug__" : Str)) && !(x == ("__name__" : Str)))
theorem nok_blk {X X' : Cx} {n n' : Nm} {c c' : Cc} {scope : Scope} (xw : c'.xw = fun _ _ _ => False) (b : BlkX X X' scope) (hk : scope.kind = .function) (hn : NOk X n c) (h : scC scope n' = true) (e1 : n'.N = n.N) (e2 : n'.k = n.k) (e3 : n'.lc = []) (e4 : n'.sc = none) (h0 : n.hot = false) (oi : c'.oi.map (·.1) = n'.oi) (cm : ∀ a, c'.M a → ∃ j, (j, a) ∈ c'.oi) : NOk X' n' c' := by
  obtain ⟨s, H, C, cl, fp, rfl⟩ := b
  unfold scC at h
  simp only [Bool.and_eq_true, List.all_eq_true, List.mem_range] at h
  obtain ⟨h2, h3⟩ := h
  have at_ : ∀ (i : Nat) (x : Str), n'.N[i]? = some x → ((!n'.V.contains i || (scope.names.lookup x == some .local || scope.names.lookup x == some .cell || scope.names.lookup x == some .free)) && (!n'.as.contains i || scope.names.lookup x == some .local)) = true := fun i x e => by
    have := h2 i (List.getElem?_eq_some_iff.mp e).1
    rw [e] at this; exact this
  have lk : ∀ x, (compEnvC scope cl C X.env).scope.names.lookup x = (scope.names.lookup x).map fun k => if (k == NameKind.free && X.env.scope.kind == .function && X.env.kindOf x == some .cell) then NameKind.cell else k := fun x => lookup_rel
  refine ⟨hn.eq.trans e1.symm, by rw [e1]; exact hn.nd, fun i x hv e => ?_, fun i x ha e => ?_, fun i x e => hn.dbg i x (e1 ▸ e), fun i x e => ?_, hk, fun s0 z => ?_, fun _ => hn.calm h0, by rw [e2]; exact hn.room, PassesOwn.never, fun i x hl => ?_, oi, cm, takes_no xw, fun z => absurd e3 z⟩
  · have := at_ i x e
    simp only [Bool.and_eq_true, hv, Bool.not_true, Bool.false_or, Bool.or_eq_true, beq_iff_eq] at this
    unfold Vis
    show (compEnvC scope cl C X.env).scope.names.lookup x = _ ∨ (compEnvC scope cl C X.env).scope.names.lookup x = _ ∨ (compEnvC scope cl C X.env).scope.names.lookup x = _
    rw [lk x]
    rcases this.1 with (q | q) | q
    · rw [q]; exact .inl rfl
    · rw [q]; exact .inr (.inl rfl)
    · rw [q]
      by_cases cc : ((NameKind.free == NameKind.free) && X.env.scope.kind == .function && X.env.kindOf x == some .cell) = true
      · exact .inr (.inl (by simp only [Option.map_some, cc, if_true]))
      · exact .inr (.inr (by simp only [Option.map_some, cc]; rfl))
  · have := at_ i x e
    simp only [Bool.and_eq_true, ha, Bool.not_true, Bool.false_or, beq_iff_eq] at this
    have q : (compEnvC scope cl C X.env).scope.names.lookup x = some .local := by rw [lk x, this.2]; rfl
    exact ⟨.inl q, .inr q⟩
  · have := h3 x (List.mem_of_getElem? e)
    simp only [Bool.and_eq_true, beq_iff_eq, Bool.not_eq_true'] at this
    refine ⟨?_, this.1.2, by intro z; subst z; simp at this⟩
    show (compEnvC scope cl C X.env).scope.names.lookup x = _
    rw [lk x, this.1.1]; rfl
  · rw [e4] at z; cases z
  · rw [e3] at hl; cases hl

section
variable {X : Cx} {n : Nm} {c : Cc} {Γ : SL} {e a b : Expr} {x y z : D} {pos p p2 : Pos} {nm : Str} {k : AK} {iter elt : Expr} {scope : Scope} {n' : Nm} {ds : List D}
/-- a comprehension's tests -/
def WTs (X : Cx) (n : Nm) (c : Cc) (Γ : SL) (ifs : List Expr) (Post : Bool → SL → Prop) : Prop := match ifs with
  | [] => Post true Γ
  | [t] => WT X n c Γ t Post
  | _ => False
def tTs (X : Cx) : List Expr → TT
  | [] => tYes
  | [t] => tWT X t
  | _ => tYes
theorem pts_of {X : Cx} : ∀ {ifs : List Expr}, ifs.length ≤ 1 → PTs X ifs (tTs X ifs)
  | [], _ => pts_nil
  | [t], _ => pts_one pWT
  | _ :: _ :: _, h => by simp at h
theorem sto_cm {σ : St} {R H : Hp} : (∀ a, (inn Γ σ R H).M a → ∃ j, (j, a) ∈ (inn Γ σ R H).oi) ∧ (inn Γ σ R H).oi.map (·.1) = stoIx Γ := by
  refine ⟨fun a ⟨i, h1, h2⟩ => ⟨i, List.mem_map.mpr ⟨i, mem_stoIx.mpr h1, by rw [h2]; rfl⟩⟩, ?_⟩
  show ((stoIx Γ).map _).map _ = _
  rw [List.map_map]
  exact List.map_id _
/-- what a comprehension's block is: its scope, its names -/
structure LcOk (X : Cx) (n n' : Nm) (Γ : SL) (scope : Scope) (nm : Str) (j : Nat) : Prop where
  sc : ∃ s0, n.sc = some s0 ∧ blkC n.N s0 scope [(nm, j)] = true
  in_ : scC scope n' = true
  eN : n'.N = n.N
  ek : n'.k = n.k
  el : n'.lc = []
  es : n'.sc = none
  eo : n'.oi = stoIx Γ
  as : n'.as.contains j = true
  hj : n.N[j]? = some nm
  no : ∀ o, Γ[j]? ≠ some (.own o)
  hot : n.hot = false
def lcT (X : Cx) (scope : Scope) (ifs : List Expr) : TT := fun σ H Q => ∀ s H0 C cl fp, tTs (X.blk s H0 scope (compEnvC scope cl C X.env) fp) ifs σ H Q
def lcE (X : Cx) (scope : Scope) (elt : Expr) : TE := fun σ H Q => ∀ s H0 C cl fp, tW (X.blk s H0 scope (compEnvC scope cl C X.env) fp) elt σ H Q
/-- the rule's parts that hang on the block alone -/
theorem lc_pe (j : Nat) {ifs : List Expr} {tp : Pos} {wi : TI} (L : LcOk X n n' Γ scope nm j) (hn : NOk X n c) (hi : PI X (.Name nm tp) iter wi) (hifs : ifs.length ≤ 1) (hs : ∀ x, foldedSetIterable iter X.env x = pure x) :
    PE X (.ListComp elt [⟨.Name nm tp, iter, ifs, 0⟩] scope pos) (tLc wi (gName j) (lcT X scope ifs) (lcE X scope elt) [j]) := by
  obtain ⟨s0, e0, hb⟩ := L.sc
  have bk : BlkOk X.N X.env.scope scope [(nm, j)] := by rw [hn.eq, hn.scp s0 e0]; exact blkOk_by hb
  have hN : X.N.Nodup := by rw [hn.eq]; exact hn.nd
  refine pe_lc (own := [(nm, j)]) (hn.calm L.hot) hN hi bk ?_ ?_ ?_ hs
  · intro s1 H1 C cl fp
    have := nok_blk (c' := ⟨H1, H1, fun _ => False, n'.oi.map fun i => (i, 0), fun _ _ _ => False⟩) rfl ⟨s1, H1, C, cl, fp, rfl⟩ bk.kind hn L.in_ L.eN L.ek L.el L.es L.hot (by simp [List.map_map, Function.comp_def]) (fun _ h => h.elim)
    obtain ⟨l1, l2⟩ := this.loc j nm L.as (by rw [L.eN]; exact L.hj)
    exact pg_name hN (by rw [hn.eq]; exact L.hj) l1 l2
  · intro s1 H1 C cl fp
    exact ⟨fun pins s2 σ2 H2 Q2 I h => (pts_of hifs).run pins s2 σ2 H2 Q2 I (h s1 H1 C cl fp)⟩
  · intro s1 H1 C cl fp
    exact ⟨fun pins s2 σ2 H2 Q2 I h => pW.run pins s2 σ2 H2 Q2 I (h s1 H1 C cl fp)⟩
/-- .. stored to a name at once -/
theorem lc_ps (j iy : Nat) {ifs : List Expr} {tp py spos : Pos} {ny : Str} {wi : TI} (L : LcOk X n n' Γ scope nm j) (hn : NOk X n c) (hi : PI X (.Name nm tp) iter wi) (hifs : ifs.length ≤ 1) (hs : ∀ x, foldedSetIterable iter X.env x = pure x)
    (hy : n.N[iy]? = some ny) (hyl : n.lc.contains iy = true) (hln : (py.line == pos.line) = true) (hany : (scope.names.any fun (m, k) => m == ny && (k == .local || k == .cell)) = false) :
    PS X (.Assign [.Name ny py] (.ListComp elt [⟨.Name nm tp, iter, ifs, 0⟩] scope pos) spos) (tAsg (tLc wi (gName j) (lcT X scope ifs) (lcE X scope elt) [j]) (gName iy)) := by
  obtain ⟨s0, e0, hb⟩ := L.sc
  have bk : BlkOk X.N X.env.scope scope [(nm, j)] := by rw [hn.eq, hn.scp s0 e0]; exact blkOk_by hb
  have hN : X.N.Nodup := by rw [hn.eq]; exact hn.nd
  have hl := hn.lc iy ny hyl hy
  refine ps_setLc (own := [(nm, j)]) (hn.calm L.hot) hN (by rw [hn.eq]; exact hy) hl (sw_true hn.kind hl hln hany) hi bk ?_ ?_ ?_ hs
  · intro s1 H1 C cl fp
    have := nok_blk (c' := ⟨H1, H1, fun _ => False, n'.oi.map fun i => (i, 0), fun _ _ _ => False⟩) rfl ⟨s1, H1, C, cl, fp, rfl⟩ bk.kind hn L.in_ L.eN L.ek L.el L.es L.hot (by simp [List.map_map, Function.comp_def]) (fun _ h => h.elim)
    obtain ⟨l1, l2⟩ := this.loc j nm L.as (by rw [L.eN]; exact L.hj)
    exact pg_name hN (by rw [hn.eq]; exact L.hj) l1 l2
  · intro s1 H1 C cl fp
    exact ⟨fun pins s2 σ2 H2 Q2 I h => (pts_of hifs).run pins s2 σ2 H2 Q2 I (h s1 H1 C cl fp)⟩
  · intro s1 H1 C cl fp
    exact ⟨fun pins s2 σ2 H2 Q2 I h => pW.run pins s2 σ2 H2 Q2 I (h s1 H1 C cl fp)⟩
/-- what stands between two turns -/
def LcInv (K : PySem.W.Frag) (c : Cc) (Γ : SL) (σ : St) (R1 : Hp) (Dl : Addr) (Keep : Hp → Prop) (Acc : Nat → List D → Prop) (i : Nat) (H : Hp) : Prop :=
  ∃ R acc, SOk K c Γ σ R H ∧ Ex R1 R ∧ Keep H ∧ VOk K c Γ σ R H (.own (.lst acc)) (.ref Dl) ∧ acc.length ≤ i ∧ Acc i acc
theorem lc_step (j : Nat) {ifs : List Expr} {Acc : Nat → List D → Prop} {Tst : Bool → Prop} {i : Nat} {d : D} {v : V} {σ : St} {R1 H : Hp} {Dl : Addr} {Keep : Hp → Prop} (L : LcOk X n n' Γ scope nm j) (hn : NOk X n c) (hi : i < 1000000) (hkeep : ∀ H H', (∀ b o, b ≠ Dl → ¬ stoAd Γ σ b → H b = some o → H' b = some o) → Keep H → Keep H')
    (hd : Rp X.K R1 d v) (h : LcInv X.K c Γ σ R1 Dl Keep Acc i H) (ht : ∀ X' c', BlkX X X' scope → WTs X' n' c' ((Γ.map Slot.inn).set j (.d d)) ifs fun q Γ2 => Γ2 = (Γ.map Slot.inn).set j (.d d) ∧ Tst q)
    (he : ∀ X' c', BlkX X X' scope → Tst true → ∀ acc, Acc i acc → acc.length ≤ i → WE X' n' c' ((Γ.map Slot.inn).set j (.d d)) elt fun y Γ3 => Γ3 = (Γ.map Slot.inn).set j (.d d) ∧ Acc (i + 1) (acc ++ [y]))
    (hf : Tst false → ∀ acc, Acc i acc → Acc (i + 1) acc) (hifs : ifs.length ≤ 1) :
    gName j v (wipe σ [j]) H fun σ2 H2 => wipe σ2 [j] = wipe σ [j] ∧ (lcT X scope ifs σ2 H2 fun b H3 =>
      if b = true then (lcE X scope elt σ2 H3 fun y H4 => ∃ acc, H4 Dl = some (.lst acc) ∧ acc.length < sizeLine ∧ LcInv X.K c Γ σ R1 Dl Keep Acc (i + 1) (upd H4 Dl (.lst (acc ++ [y])))) else LcInv X.K c Γ σ R1 Dl Keep Acc (i + 1) H3) := by
  obtain ⟨s0, e0, hb⟩ := L.sc
  have bk : BlkOk X.N X.env.scope scope [(nm, j)] := by rw [hn.eq, hn.scp s0 e0]; exact blkOk_by hb
  have w0 : wipe σ [j] = σ.set j none := rfl
  have w1 : (wipe σ [j]).set j (some v) = σ.set j (some v) := by rw [w0, List.set_set]
  have w2 : wipe (σ.set j (some v)) [j] = wipe σ [j] := by show (σ.set j (some v)).set j none = σ.set j none; rw [List.set_set]
  obtain ⟨R, acc, s, e1, kp, ⟨aa, ea, ⟨accV, hA1, hA2⟩, hA3, hA4, hA5⟩, hl, ha⟩ := h
  cases ea
  have nsto : ¬ stoAd Γ σ Dl := fun ⟨i, w1, w2⟩ => hA5 i _ w1 w2
  have sin := s.enter j (Rp.mono e1 _ _ hd) L.no
  obtain ⟨o1, o2⟩ := sto_cm (Γ := Γ) (σ := σ) (R := R) (H := H)
  have nk : ∀ X', BlkX X X' scope → NOk X' n' (inn Γ σ R H) := fun X' b => nok_blk rfl b bk.kind hn L.in_ L.eN L.ek L.el L.es L.hot (o2.trans L.eo.symm) o1
  have at4 : ∀ R4 H4, SOk X.K (inn Γ σ R H) ((Γ.map Slot.inn).set j (.d d)) (σ.set j (some v)) R4 H4 → SOk X.K c Γ σ R4 H4 ∧ VOk X.K c Γ σ R4 H4 (.own (.lst acc)) (.ref Dl) ∧ H4 Dl = some (.lst accV) ∧ RpL X.K R4 acc accV ∧ Keep H4 := fun R4 H4 s4 => by
    have hD : H4 Dl = some (.lst accV) := s4.hm Dl _ nsto hA1
    have hR : RpL X.K R4 acc accV := hA2.mono s4.r0
    exact ⟨s.leave j L.no s4, ⟨Dl, rfl, ⟨accV, hD, hR⟩, s4.un Dl (by show H Dl ≠ none; rw [hA1]; simp) hA3, hA4, hA5⟩, hD, hR, hkeep H H4 (fun b o _ nb hb => s4.hm b o nb hb) kp⟩
  unfold gName
  rw [w1]
  refine ⟨w2, fun s1 H1 C cl fp => ?_⟩
  have go : ∀ (b : Bool) (R3 H3 : Hp), SOk X.K (inn Γ σ R H) ((Γ.map Slot.inn).set j (.d d)) (σ.set j (some v)) R3 H3 → Tst b →
      if b = true then (∀ s H0 C cl fp, tW (X.blk s H0 scope (compEnvC scope cl C X.env) fp) elt (σ.set j (some v)) H3 fun y H4 => ∃ acc, H4 Dl = some (.lst acc) ∧ acc.length < sizeLine ∧ LcInv X.K c Γ σ R1 Dl Keep Acc (i + 1) (upd H4 Dl (.lst (acc ++ [y])))) else LcInv X.K c Γ σ R1 Dl Keep Acc (i + 1) H3 := by
    intro b R3 H3 s3 tb
    cases b with
    | true =>
      rw [if_pos rfl]
      intro s2 H2 C2 cl2 fp2
      refine (he _ (inn Γ σ R H) ⟨s2, H2, C2, cl2, fp2, rfl⟩ tb acc ha hl).run (nk _ ⟨s2, H2, C2, cl2, fp2, rfl⟩) _ R3 H3 s3 _ fun u R4 H4 y Γ4 s4 e4 r4 ⟨g1, g2⟩ => ?_
      subst g1
      obtain ⟨v1, v2, v3, v4, v5⟩ := at4 R4 H4 s4
      refine ⟨accV, v3, by have := v4.length; rw [sizeLine_eq]; omega, ?_⟩
      obtain ⟨t1, t2⟩ := v1.pend (ob' := .lst (acc ++ [y])) (o := .lst (accV ++ [u])) v2 ⟨_, upd_same, v4.append (.one r4)⟩
      exact ⟨R4, acc ++ [y], t1, e1.trans s4.r0, hkeep H4 _ (fun b o nb _ hb => by rw [upd_ne nb]; exact hb) v5, t2, by simp; omega, g2⟩
    | false =>
      rw [if_neg Bool.false_ne_true]
      obtain ⟨v1, v2, v3, v4, v5⟩ := at4 R3 H3 s3
      exact ⟨R3, acc, v1, e1.trans s3.r0, v5, v2, by omega, hf tb acc ha⟩
  have hT := ht _ (inn Γ σ R H) ⟨s1, H1, C, cl, fp, rfl⟩
  match ifs, hifs, hT with
  | [], _, hT => exact go true R H sin hT.2
  | [t], _, hT =>
    exact (WT.run (show WT _ _ _ _ t _ from hT)) (nk _ ⟨s1, H1, C, cl, fp, rfl⟩) _ R H sin _ fun R3 H3 b Γ3 s3 e3 ⟨g1, g2⟩ => by
      subst g1
      exact go b R3 H3 s3 g2
theorem lc_fin {Acc : Nat → List D → Prop} {σ : St} {R1 H : Hp} {Dl : Addr} {Keep : Hp → Prop} {m : Nat} {Q : VK} (h : LcInv X.K c Γ σ R1 Dl Keep Acc m H) (q : ∀ v R' H' o Γ', SOk X.K c Γ' σ R' H' → Ex R1 R' → VOk X.K c Γ' σ R' H' (.own o) v → (Γ' = Γ ∧ ∃ out, o = .lst out ∧ Acc m out) → Q v H') : Q (.ref Dl) H := by
  obtain ⟨R, acc, s, e1, kp, vo, hl, ha⟩ := h
  exact q _ R H _ Γ s e1 vo ⟨rfl, acc, rfl, ha⟩
theorem lc_start {Acc : Nat → List D → Prop} {σ : St} {R H : Hp} {Dl : Addr} {Keep : Hp → Prop} (s : SOk X.K c Γ σ R H) (hD : H Dl = none) (kp : Keep (upd H Dl (.lst []))) (h0 : Acc 0 []) : LcInv X.K c Γ σ R Dl Keep Acc 0 (upd H Dl (.lst [])) :=
  ⟨R, [], s.grow (s.newOwn (.lst []) hD), Ex.refl _, kp, .fresh s hD ⟨[], upd_same, .nil⟩, Nat.le_refl _, h0⟩
/-- what is read is no store -/
theorem no_sto {K : PySem.W.Frag} {σ : St} {R H : Hp} {a : Addr} (s : SOk K c Γ σ R H) (r : AkOk K R σ k (.ref a)) (hg : k.get Γ = some (.lst ds)) : ¬ stoAd Γ σ a := fun ⟨i, w1, w2⟩ => by
  obtain ⟨u', t1, b, t2, ⟨ns, pl, gr, st, lf, ct, hB, us, t3, t4⟩, t5, t6⟩ := s.sl i _ w1
  rw [w2] at t1; cases t1; cases t2
  have frz : Rp K R (.lst ds) (.ref a) → False := fun h => by
    obtain ⟨b, ws, q1, q2, q3⟩ := h; cases q1; rw [t5] at q2; cases q2
  have slot : ∀ (i' : Nat) (sl : Slot), Γ[i']? = some sl → sl.data = some (.lst ds) → σ[i']? = some (some (.ref a)) → False := fun i' sl e1 e2 e3 => by
    obtain ⟨o, q1, q2⟩ := s.sl i' sl e1
    rw [e3] at q1; cases q1
    cases sl with
    | d y => cases e2; obtain ⟨v, z1, z2⟩ := q2; cases z1; exact frz z2
    | w y =>
      cases e2
      obtain ⟨v, z1, z2⟩ := q2; cases z1
      rcases z2 with z2 | ⟨b, vs, ds, z3, z4, z5, _⟩ | ⟨b, vs, ds, z3, z4, z5, _⟩ | ⟨b, dx, vs, nm, ds, z3, z4, z5, _⟩
      · exact frz z2
      · cases z3; exact z5 t6
      · cases z3; exact z5 t6
      · cases z3; exact z5 t6
    | own ob =>
      have := s.dj i i' a .sto ob w1 e1 w2 e3
      subst this
      rw [w1] at e1; cases e1; cases e2
    | _ => cases e2
  cases k with
  | d y => cases hg; exact frz r
  | v y => cases hg; exact frz r
  | s i' => obtain ⟨sl, e1, e2⟩ := Option.bind_eq_some_iff.mp hg; exact slot i' sl e1 e2 r
  | o i' => obtain ⟨sl, e1, e2⟩ := Option.bind_eq_some_iff.mp hg; exact slot i' sl e1 e2 r
/-- [elt for name in a list (if ..)]: Acc tells what is made so far, Tst what a test's answer tells -/
theorem rd_lcL (j : Nat) {ifs : List Expr} {Post : OB → SL → Prop} (Acc : Nat → List D → Prop) (Tst : Nat → D → Bool → Prop) (L : LcOk X n n' Γ scope nm j) (hk : EK X n c Γ iter k) (hg : k.get Γ = some (.lst ds)) (hz : ds.length ≤ 100000) (h0 : Acc 0 [])
    (ht : ∀ X' c', BlkX X X' scope → ∀ i d, ds[i]? = some d → WTs X' n' c' ((Γ.map Slot.inn).set j (.d d)) ifs fun q Γ2 => Γ2 = (Γ.map Slot.inn).set j (.d d) ∧ Tst i d q)
    (he : ∀ X' c', BlkX X X' scope → ∀ i d acc, ds[i]? = some d → Tst i d true → Acc i acc → acc.length ≤ i → WE X' n' c' ((Γ.map Slot.inn).set j (.d d)) elt fun y Γ3 => Γ3 = (Γ.map Slot.inn).set j (.d d) ∧ Acc (i + 1) (acc ++ [y]))
    (hf : ∀ i d acc, ds[i]? = some d → Tst i d false → Acc i acc → Acc (i + 1) acc) (hd : ∀ out, Acc ds.length out → Post (.lst out) Γ)
    (hifs : ifs.length ≤ 1) (hn : NOk X n c) {σ : St} {R H : Hp} (s : SOk X.K c Γ σ R H) (Q : VK)
    (q : ∀ v R' H' o Γ', SOk X.K c Γ' σ R' H' → Ex R R' → VOk X.K c Γ' σ R' H' (.own o) v → Post o Γ' → Q v H') : tLc (iList X.K (tW X iter)) (gName j) (lcT X scope ifs) (lcE X scope elt) [j] σ H Q := by
  refine hk.run hn σ R H s _ fun v R1 H1 k1 Γ1 s1 e1 r1 ⟨g1, g2⟩ => ?_
  subst g1
  rw [g2] at s1
  obtain ⟨a, vs, rfl, hA, hr⟩ := (r1.wk s1 hg).lst s1.rh
  have nst : ¬ stoAd Γ σ a := no_sto s1 r1 hg
  refine ⟨a, rfl, ⟨vs, .inl (.inl hA)⟩, fun Dl hD => ?_⟩
  have nDa : a ≠ Dl := fun z => by rw [z, hD] at hA; cases hA
  refine lc_list (K := X.K) (a := a) (xs := vs) (g := gName j) (tt := lcT X scope ifs) (te := lcE X scope elt) (vs := [j]) (σ := σ) (Qd := fun H => Q (.ref Dl) H) (LcInv X.K c Γ σ R1 Dl (fun H' => H' a = some (.lst vs)) Acc) (lc_start s1 hD (by rw [upd_ne nDa]; exact hA) h0) (fun i H' _ ⟨_, _, _, _, kp, _⟩ => .inl (.inl kp)) (fun i x H' hi h => ?_) (fun H' h => ?_)
  · obtain ⟨d, hd1, hd2⟩ := hr.get' hi
    have hlt := (List.getElem?_eq_some_iff.mp hd1).1
    exact lc_step j (Tst := Tst i d) L hn (by omega) (fun H H' k kp => k a _ nDa nst kp) hd2 h (fun X' c' b => ht X' c' b i d hd1) (fun X' c' b tb acc ha hl => he X' c' b i d acc hd1 tb ha hl) (fun tb acc ha => hf i d acc hd1 tb ha) hifs
  · rw [← hr.length] at h
    exact lc_fin h fun v R' H' o Γ' s' e' vo ⟨g1, out, g3, g4⟩ => by
      subst g1 g3
      exact q v R' H' _ _ s' (e1.trans e') vo (hd out g4)
theorem wo_lcL (j : Nat) {ifs : List Expr} {tp : Pos} {Post : OB → SL → Prop} (Acc : Nat → List D → Prop) (Tst : Nat → D → Bool → Prop) (L : LcOk X n n' Γ scope nm j) (hk : EK X n c Γ iter k) (hg : k.get Γ = some (.lst ds)) (hz : ds.length ≤ 100000) (h0 : Acc 0 [])
    (ht : ∀ X' c', BlkX X X' scope → ∀ i d, ds[i]? = some d → WTs X' n' c' ((Γ.map Slot.inn).set j (.d d)) ifs fun q Γ2 => Γ2 = (Γ.map Slot.inn).set j (.d d) ∧ Tst i d q)
    (he : ∀ X' c', BlkX X X' scope → ∀ i d acc, ds[i]? = some d → Tst i d true → Acc i acc → acc.length ≤ i → WE X' n' c' ((Γ.map Slot.inn).set j (.d d)) elt fun y Γ3 => Γ3 = (Γ.map Slot.inn).set j (.d d) ∧ Acc (i + 1) (acc ++ [y]))
    (hf : ∀ i d acc, ds[i]? = some d → Tst i d false → Acc i acc → Acc (i + 1) acc) (hd : ∀ out, Acc ds.length out → Post (.lst out) Γ)
    (hifs : ifs.length ≤ 1 := by decide) (hs : ∀ x, foldedSetIterable iter X.env x = pure x := by intro _; rfl) : WO X n c Γ (.ListComp elt [⟨.Name nm tp, iter, ifs, 0⟩] scope pos) Post := .mk fun hn σ R H s Q q => by
  exact (lc_pe j L hn (pi_list pW) hifs hs).w (rd_lcL j Acc Tst L hk hg hz h0 ht he hf hd hifs hn s Q q)
theorem ws_lcL (j : Nat) {ifs : List Expr} {tp : Pos} {De : DE} {py spos : Pos} {ny : Str} (iy : Nat) (Acc : Nat → List D → Prop) (Tst : Nat → D → Bool → Prop) (L : LcOk X n n' Γ scope nm j) (hk : EK X n c Γ iter k) (hg : k.get Γ = some (.lst ds)) (hz : ds.length ≤ 100000) (h0 : Acc 0 [])
    (ht : ∀ X' c', BlkX X X' scope → ∀ i d, ds[i]? = some d → WTs X' n' c' ((Γ.map Slot.inn).set j (.d d)) ifs fun q Γ2 => Γ2 = (Γ.map Slot.inn).set j (.d d) ∧ Tst i d q)
    (he : ∀ X' c', BlkX X X' scope → ∀ i d acc, ds[i]? = some d → Tst i d true → Acc i acc → acc.length ≤ i → WE X' n' c' ((Γ.map Slot.inn).set j (.d d)) elt fun y Γ3 => Γ3 = (Γ.map Slot.inn).set j (.d d) ∧ Acc (i + 1) (acc ++ [y]))
    (hf : ∀ i d acc, ds[i]? = some d → Tst i d false → Acc i acc → Acc (i + 1) acc) (hd : ∀ out, Acc ds.length out → De.nx (Γ.set iy (.own (.lst out))))
    (hifs : ifs.length ≤ 1 := by decide) (hs : ∀ x, foldedSetIterable iter X.env x = pure x := by intro _; rfl) 
    (hy : n.N[iy]? = some ny := by rfl) (hyl : n.lc.contains iy = true := by rfl) (hyo : n.oi.contains iy = false := by rfl) (hln : (py.line == pos.line) = true := by rfl) (hany : (scope.names.any fun (m, k) => m == ny && (k == .local || k == .cell)) = false := by decide +kernel) : WS X n c Γ (.Assign [.Name ny py] (.ListComp elt [⟨.Name nm tp, iter, ifs, 0⟩] scope pos) spos) De := .mk fun hn σ R H s E ok => by
  refine (lc_ps j iy L hn (pi_list pW) hifs hs hy hyl hln hany).w ?_
  show tLc _ _ _ _ _ σ H fun x H1 => gName iy x σ H1 E.nx
  exact rd_lcL (Post := fun o Γ' => De.nx (Γ'.set iy (.own o))) j Acc Tst L hk hg hz h0 ht he hf (fun out ho => hd out ho) hifs hn s _ fun v R' H' o Γ' s' e' vo p' => ok.nx _ R' H' _ (s'.setO iy vo (hn.noi hyo)) e' p'

/-- .. in a tuple -/
theorem rd_lcT (j : Nat) {ifs : List Expr} {Post : OB → SL → Prop} (Acc : Nat → List D → Prop) (Tst : Nat → D → Bool → Prop) (L : LcOk X n n' Γ scope nm j) (hk : EV X n c Γ iter (.tup ds)) (hz : ds.length ≤ 100000) (h0 : Acc 0 [])
    (ht : ∀ X' c', BlkX X X' scope → ∀ i d, ds[i]? = some d → WTs X' n' c' ((Γ.map Slot.inn).set j (.d d)) ifs fun q Γ2 => Γ2 = (Γ.map Slot.inn).set j (.d d) ∧ Tst i d q)
    (he : ∀ X' c', BlkX X X' scope → ∀ i d acc, ds[i]? = some d → Tst i d true → Acc i acc → acc.length ≤ i → WE X' n' c' ((Γ.map Slot.inn).set j (.d d)) elt fun y Γ3 => Γ3 = (Γ.map Slot.inn).set j (.d d) ∧ Acc (i + 1) (acc ++ [y]))
    (hf : ∀ i d acc, ds[i]? = some d → Tst i d false → Acc i acc → Acc (i + 1) acc) (hd : ∀ out, Acc ds.length out → Post (.lst out) Γ)
    (hifs : ifs.length ≤ 1) (hn : NOk X n c) {σ : St} {R H : Hp} (s : SOk X.K c Γ σ R H) (Q : VK)
    (q : ∀ v R' H' o Γ', SOk X.K c Γ' σ R' H' → Ex R R' → VOk X.K c Γ' σ R' H' (.own o) v → Post o Γ' → Q v H') : tLc (iTup X.K (tW X iter)) (gName j) (lcT X scope ifs) (lcE X scope elt) [j] σ H Q := by
  refine hk.run hn σ R H s _ fun v R1 H1 k1 Γ1 s1 e1 r1 ⟨g1, g2⟩ => ?_
  subst g1
  rw [g2] at s1
  obtain ⟨a, vs, rfl, hA, hr⟩ := r1
  refine ⟨a, rfl, ⟨vs, ex_t s1.rh hA⟩, fun Dl hD => ?_⟩
  refine lc_tup (K := X.K) (a := a) (xs := vs) (g := gName j) (tt := lcT X scope ifs) (te := lcE X scope elt) (vs := [j]) (σ := σ) (Qd := fun H => Q (.ref Dl) H) (LcInv X.K c Γ σ R1 Dl (fun H' => True) Acc) (lc_start s1 hD trivial h0) (fun i H' _ ⟨_, _, s', e', _⟩ => ex_t s'.rh (ex_t e' hA)) (fun i x H' hi h => ?_) (fun H' h => ?_)
  · obtain ⟨d, hd1, hd2⟩ := hr.get' hi
    have hlt := (List.getElem?_eq_some_iff.mp hd1).1
    exact lc_step j (Tst := Tst i d) L hn (by omega) (fun H H' k kp => trivial) hd2 h (fun X' c' b => ht X' c' b i d hd1) (fun X' c' b tb acc ha hl => he X' c' b i d acc hd1 tb ha hl) (fun tb acc ha => hf i d acc hd1 tb ha) hifs
  · rw [← hr.length] at h
    exact lc_fin h fun v R' H' o Γ' s' e' vo ⟨g1, out, g3, g4⟩ => by
      subst g1 g3
      exact q v R' H' _ _ s' (e1.trans e') vo (hd out g4)
theorem wo_lcT (j : Nat) {ifs : List Expr} {tp : Pos} {Post : OB → SL → Prop} (Acc : Nat → List D → Prop) (Tst : Nat → D → Bool → Prop) (L : LcOk X n n' Γ scope nm j) (hk : EV X n c Γ iter (.tup ds)) (hz : ds.length ≤ 100000) (h0 : Acc 0 [])
    (ht : ∀ X' c', BlkX X X' scope → ∀ i d, ds[i]? = some d → WTs X' n' c' ((Γ.map Slot.inn).set j (.d d)) ifs fun q Γ2 => Γ2 = (Γ.map Slot.inn).set j (.d d) ∧ Tst i d q)
    (he : ∀ X' c', BlkX X X' scope → ∀ i d acc, ds[i]? = some d → Tst i d true → Acc i acc → acc.length ≤ i → WE X' n' c' ((Γ.map Slot.inn).set j (.d d)) elt fun y Γ3 => Γ3 = (Γ.map Slot.inn).set j (.d d) ∧ Acc (i + 1) (acc ++ [y]))
    (hf : ∀ i d acc, ds[i]? = some d → Tst i d false → Acc i acc → Acc (i + 1) acc) (hd : ∀ out, Acc ds.length out → Post (.lst out) Γ)
    (hifs : ifs.length ≤ 1 := by decide) (hs : ∀ x, foldedSetIterable iter X.env x = pure x := by intro _; rfl) : WO X n c Γ (.ListComp elt [⟨.Name nm tp, iter, ifs, 0⟩] scope pos) Post := .mk fun hn σ R H s Q q => by
  exact (lc_pe j L hn (pi_tup pW) hifs hs).w (rd_lcT j Acc Tst L hk hz h0 ht he hf hd hifs hn s Q q)
theorem ws_lcT (j : Nat) {ifs : List Expr} {tp : Pos} {De : DE} {py spos : Pos} {ny : Str} (iy : Nat) (Acc : Nat → List D → Prop) (Tst : Nat → D → Bool → Prop) (L : LcOk X n n' Γ scope nm j) (hk : EV X n c Γ iter (.tup ds)) (hz : ds.length ≤ 100000) (h0 : Acc 0 [])
    (ht : ∀ X' c', BlkX X X' scope → ∀ i d, ds[i]? = some d → WTs X' n' c' ((Γ.map Slot.inn).set j (.d d)) ifs fun q Γ2 => Γ2 = (Γ.map Slot.inn).set j (.d d) ∧ Tst i d q)
    (he : ∀ X' c', BlkX X X' scope → ∀ i d acc, ds[i]? = some d → Tst i d true → Acc i acc → acc.length ≤ i → WE X' n' c' ((Γ.map Slot.inn).set j (.d d)) elt fun y Γ3 => Γ3 = (Γ.map Slot.inn).set j (.d d) ∧ Acc (i + 1) (acc ++ [y]))
    (hf : ∀ i d acc, ds[i]? = some d → Tst i d false → Acc i acc → Acc (i + 1) acc) (hd : ∀ out, Acc ds.length out → De.nx (Γ.set iy (.own (.lst out))))
    (hifs : ifs.length ≤ 1 := by decide) (hs : ∀ x, foldedSetIterable iter X.env x = pure x := by intro _; rfl) 
    (hy : n.N[iy]? = some ny := by rfl) (hyl : n.lc.contains iy = true := by rfl) (hyo : n.oi.contains iy = false := by rfl) (hln : (py.line == pos.line) = true := by rfl) (hany : (scope.names.any fun (m, k) => m == ny && (k == .local || k == .cell)) = false := by decide +kernel) : WS X n c Γ (.Assign [.Name ny py] (.ListComp elt [⟨.Name nm tp, iter, ifs, 0⟩] scope pos) spos) De := .mk fun hn σ R H s E ok => by
  refine (lc_ps j iy L hn (pi_tup pW) hifs hs hy hyl hln hany).w ?_
  show tLc _ _ _ _ _ σ H fun x H1 => gName iy x σ H1 E.nx
  exact rd_lcT (Post := fun o Γ' => De.nx (Γ'.set iy (.own o))) j Acc Tst L hk hz h0 ht he hf (fun out ho => hd out ho) hifs hn s _ fun v R' H' o Γ' s' e' vo p' => ok.nx _ R' H' _ (s'.setO iy vo (hn.noi hyo)) e' p'

/-- .. in range(m) -/
theorem rd_lcR1 (j : Nat) {ifs : List Expr} {Post : OB → SL → Prop} (Acc : Nat → List D → Prop) (Tst : Nat → Bool → Prop) (m : Nat) (L : LcOk X n n' Γ scope nm j) (hb : Blt X "range" (.type "range")) (jr : Nat) (hk : WE X n c Γ a fun x Γ1 => ∃ i : Int, x = .int i ∧ i.toNat = m ∧ i < 2 ^ 62 ∧ -(2 ^ 62) ≤ i ∧ Γ1 = Γ) (hz : m ≤ 100000) (h0 : Acc 0 [])
    (ht : ∀ X' c', BlkX X X' scope → ∀ i, i < m → WTs X' n' c' ((Γ.map Slot.inn).set j (.d (.int (i : Int)))) ifs fun q Γ2 => Γ2 = (Γ.map Slot.inn).set j (.d (.int (i : Int))) ∧ Tst i q)
    (he : ∀ X' c', BlkX X X' scope → ∀ i acc, i < m → Tst i true → Acc i acc → acc.length ≤ i → WE X' n' c' ((Γ.map Slot.inn).set j (.d (.int (i : Int)))) elt fun y Γ3 => Γ3 = (Γ.map Slot.inn).set j (.d (.int (i : Int))) ∧ Acc (i + 1) (acc ++ [y]))
    (hf : ∀ i acc, i < m → Tst i false → Acc i acc → Acc (i + 1) acc) (hd : ∀ out, Acc m out → Post (.lst out) Γ)
    (hjr : n.GN[jr]? = some ("range" : Str)) (hst : starEach [a] X.env = [(false, eval a X.env)])
    (hifs : ifs.length ≤ 1) (hn : NOk X n c) {σ : St} {R H : Hp} (s : SOk X.K c Γ σ R H) (Q : VK)
    (q : ∀ v R' H' o Γ', SOk X.K c Γ' σ R' H' → Ex R R' → VOk X.K c Γ' σ R' H' (.own o) v → Post o Γ' → Q v H') : tLc (iRng1 (tCons (tW X a) tNil)) (gName j) (lcT X scope ifs) (lcE X scope elt) [j] σ H Q := by
  obtain ⟨g1, g2, g3⟩ := hn.gl jr _ hjr
  refine hk.run hn σ R H s _ fun v R1 H1 x Γ1 s1 e1 r1 ⟨i, hx, h1, h2, h3, g4⟩ => ?_
  subst hx
  rw [g4] at s1
  cases (show v = .int i from r1)
  refine ⟨i, rfl, h3, h2, fun Dl hD => ?_⟩
  rw [h1]
  refine lc_range (lo := 0) (n := m) (g := gName j) (tt := lcT X scope ifs) (te := lcE X scope elt) (vs := [j]) (σ := σ) (Qd := fun H => Q (.ref Dl) H) (LcInv X.K c Γ σ R1 Dl (fun H' => True) Acc) (lc_start s1 hD trivial h0) (fun i H' hi h => ?_) (fun H' h => ?_)
  · have e0 : (0 : Int) + (i : Int) = (i : Int) := Int.zero_add _
    rw [e0]
    exact lc_step j (Tst := Tst i) (d := .int (i : Int)) L hn (by omega) (fun H H' k kp => trivial) rfl h (fun X' c' b => ht X' c' b i hi) (fun X' c' b tb acc ha hl => he X' c' b i acc hi tb ha hl) (fun tb acc ha => hf i acc hi tb ha) hifs
  · exact lc_fin h fun v R' H' o Γ' s' e' vo ⟨q1, out, q3, q4⟩ => by
      rw [q1] at s' vo; subst q3
      exact q v R' H' _ _ s' (e1.trans e') vo (hd out q4)
theorem wo_lcR1 (j : Nat) {ifs : List Expr} {tp p2 : Pos} {Post : OB → SL → Prop} (Acc : Nat → List D → Prop) (Tst : Nat → Bool → Prop) (m : Nat) (L : LcOk X n n' Γ scope nm j) (hb : Blt X "range" (.type "range")) (jr : Nat) (hk : WE X n c Γ a fun x Γ1 => ∃ i : Int, x = .int i ∧ i.toNat = m ∧ i < 2 ^ 62 ∧ -(2 ^ 62) ≤ i ∧ Γ1 = Γ) (hz : m ≤ 100000) (h0 : Acc 0 [])
    (ht : ∀ X' c', BlkX X X' scope → ∀ i, i < m → WTs X' n' c' ((Γ.map Slot.inn).set j (.d (.int (i : Int)))) ifs fun q Γ2 => Γ2 = (Γ.map Slot.inn).set j (.d (.int (i : Int))) ∧ Tst i q)
    (he : ∀ X' c', BlkX X X' scope → ∀ i acc, i < m → Tst i true → Acc i acc → acc.length ≤ i → WE X' n' c' ((Γ.map Slot.inn).set j (.d (.int (i : Int)))) elt fun y Γ3 => Γ3 = (Γ.map Slot.inn).set j (.d (.int (i : Int))) ∧ Acc (i + 1) (acc ++ [y]))
    (hf : ∀ i acc, i < m → Tst i false → Acc i acc → Acc (i + 1) acc) (hd : ∀ out, Acc m out → Post (.lst out) Γ)
    (hjr : n.GN[jr]? = some ("range" : Str) := by rfl) (hst : starEach [a] X.env = [(false, eval a X.env)] := by exact se_1 rfl)
    (hifs : ifs.length ≤ 1 := by decide) (hs : ∀ x, foldedSetIterable (.Call (.Name "range" p) [a] [] p2) X.env x = pure x := by intro _; rfl) : WO X n c Γ (.ListComp elt [⟨.Name nm tp, .Call (.Name "range" p) [a] [] p2, ifs, 0⟩] scope pos) Post := .mk fun hn σ R H s Q q => by
  obtain ⟨g1, g2, g3⟩ := hn.gl jr _ hjr
  exact (lc_pe j L hn (pi_range1 g1 hb.mg (pa_cons pW pa_nil hst) hst) hifs hs).w (rd_lcR1 j Acc Tst m L hb jr hk hz h0 ht he hf hd hjr hst hifs hn s Q q)
theorem ws_lcR1 (j : Nat) {ifs : List Expr} {tp p2 : Pos} {De : DE} {py spos : Pos} {ny : Str} (iy : Nat) (Acc : Nat → List D → Prop) (Tst : Nat → Bool → Prop) (m : Nat) (L : LcOk X n n' Γ scope nm j) (hb : Blt X "range" (.type "range")) (jr : Nat) (hk : WE X n c Γ a fun x Γ1 => ∃ i : Int, x = .int i ∧ i.toNat = m ∧ i < 2 ^ 62 ∧ -(2 ^ 62) ≤ i ∧ Γ1 = Γ) (hz : m ≤ 100000) (h0 : Acc 0 [])
    (ht : ∀ X' c', BlkX X X' scope → ∀ i, i < m → WTs X' n' c' ((Γ.map Slot.inn).set j (.d (.int (i : Int)))) ifs fun q Γ2 => Γ2 = (Γ.map Slot.inn).set j (.d (.int (i : Int))) ∧ Tst i q)
    (he : ∀ X' c', BlkX X X' scope → ∀ i acc, i < m → Tst i true → Acc i acc → acc.length ≤ i → WE X' n' c' ((Γ.map Slot.inn).set j (.d (.int (i : Int)))) elt fun y Γ3 => Γ3 = (Γ.map Slot.inn).set j (.d (.int (i : Int))) ∧ Acc (i + 1) (acc ++ [y]))
    (hf : ∀ i acc, i < m → Tst i false → Acc i acc → Acc (i + 1) acc) (hd : ∀ out, Acc m out → De.nx (Γ.set iy (.own (.lst out))))
    (hjr : n.GN[jr]? = some ("range" : Str) := by rfl) (hst : starEach [a] X.env = [(false, eval a X.env)] := by exact se_1 rfl)
    (hifs : ifs.length ≤ 1 := by decide) (hs : ∀ x, foldedSetIterable (.Call (.Name "range" p) [a] [] p2) X.env x = pure x := by intro _; rfl) 
    (hy : n.N[iy]? = some ny := by rfl) (hyl : n.lc.contains iy = true := by rfl) (hyo : n.oi.contains iy = false := by rfl) (hln : (py.line == pos.line) = true := by rfl) (hany : (scope.names.any fun (m, k) => m == ny && (k == .local || k == .cell)) = false := by decide +kernel) : WS X n c Γ (.Assign [.Name ny py] (.ListComp elt [⟨.Name nm tp, .Call (.Name "range" p) [a] [] p2, ifs, 0⟩] scope pos) spos) De := .mk fun hn σ R H s E ok => by
  obtain ⟨g1, g2, g3⟩ := hn.gl jr _ hjr
  refine (lc_ps j iy L hn (pi_range1 g1 hb.mg (pa_cons pW pa_nil hst) hst) hifs hs hy hyl hln hany).w ?_
  show tLc _ _ _ _ _ σ H fun x H1 => gName iy x σ H1 E.nx
  exact rd_lcR1 (Post := fun o Γ' => De.nx (Γ'.set iy (.own o))) j Acc Tst m L hb jr hk hz h0 ht he hf (fun out ho => hd out ho) hjr hst hifs hn s _ fun v R' H' o Γ' s' e' vo p' => ok.nx _ R' H' _ (s'.setO iy vo (hn.noi hyo)) e' p'

end
/-- .. in range(a number that is drawn) -/
theorem wo_lcR1d (j : Nat) {ifs : List Expr} {tp p2 : Pos} {Post : OB → SL → Prop} (Acc : Nat → List D → Prop) (Tst : Nat → Bool → Prop) (M : Nat → Prop) (L : LcOk X n n' Γ scope nm j) (hb : Blt X "range" (.type "range")) (jr : Nat) (hk : WE X n c Γ a fun x Γ1 => Γ1 = Γ ∧ ∃ m : Nat, x = .int (m : Int) ∧ M m) (hz : ∀ m, M m → m ≤ 100000) (h0 : Acc 0 [])
    (ht : ∀ X' c', BlkX X X' scope → ∀ i : Nat, WTs X' n' c' ((Γ.map Slot.inn).set j (.d (.int (i : Int)))) ifs fun q Γ2 => Γ2 = (Γ.map Slot.inn).set j (.d (.int (i : Int))) ∧ Tst i q)
    (he : ∀ X' c', BlkX X X' scope → ∀ (i : Nat) acc, Tst i true → Acc i acc → acc.length ≤ i → WE X' n' c' ((Γ.map Slot.inn).set j (.d (.int (i : Int)))) elt fun y Γ3 => Γ3 = (Γ.map Slot.inn).set j (.d (.int (i : Int))) ∧ Acc (i + 1) (acc ++ [y]))
    (hf : ∀ i acc, Tst i false → Acc i acc → Acc (i + 1) acc) (hd : ∀ m out, M m → Acc m out → Post (.lst out) Γ)
    (hjr : n.GN[jr]? = some ("range" : Str) := by rfl) (hst : starEach [a] X.env = [(false, eval a X.env)] := by exact se_1 rfl)
    (hifs : ifs.length ≤ 1 := by decide) (hs : ∀ x, foldedSetIterable (.Call (.Name "range" p) [a] [] p2) X.env x = pure x := by intro _; rfl) : WO X n c Γ (.ListComp elt [⟨.Name nm tp, .Call (.Name "range" p) [a] [] p2, ifs, 0⟩] scope pos) Post := .mk fun hn σ R H s Q q => by
  obtain ⟨g1, g2, g3⟩ := hn.gl jr _ hjr
  refine (lc_pe j L hn (pi_range1 g1 hb.mg (pa_cons pW pa_nil hst) hst) hifs hs).w ?_
  refine hk.run hn σ R H s _ fun v R1 H1 x Γ1 s1 e1 r1 ⟨g4, m, hx, hM⟩ => ?_
  subst hx
  rw [g4] at s1
  cases (show v = .int (m : Int) from r1)
  have hm := hz m hM
  refine ⟨(m : Int), rfl, by omega, by omega, fun Dl hD => ?_⟩
  rw [Int.toNat_natCast]
  refine lc_range (lo := 0) (n := m) (g := gName j) (tt := lcT X scope ifs) (te := lcE X scope elt) (vs := [j]) (σ := σ) (Qd := fun H => Q (.ref Dl) H) (LcInv X.K c Γ σ R1 Dl (fun H' => True) Acc) (lc_start s1 hD trivial h0) (fun i H' hi h => ?_) (fun H' h => ?_)
  · have e0 : (0 : Int) + (i : Int) = (i : Int) := Int.zero_add _
    rw [e0]
    exact lc_step j (Tst := Tst i) (d := .int (i : Int)) L hn (by omega) (fun H H' k kp => trivial) rfl h (fun X' c' b => ht X' c' b i) (fun X' c' b tb acc ha hl => he X' c' b i acc tb ha hl) (fun tb acc ha => hf i acc tb ha) hifs
  · exact lc_fin h fun v R' H' o Γ' s' e' vo ⟨q1, out, q3, q4⟩ => by
      rw [q1] at s' vo; subst q3
      exact q v R' H' _ _ s' (e1.trans e') vo (hd m out hM q4)
end DL

end
section
set_option Elab.async false
set_option linter.all false
set_option autoImplicit true
set_option maxRecDepth 100000
set_option maxHeartbeats 400000
namespace DL
open PySem L2
open PyProof.Rows hiding St

/-! ### isinstance against the built-in kinds -/
def D.ty : D → String
  | .non => "NoneType"
  | .bl _ => "bool"
  | .int _ => "int"
  | .str _ => "str"
  | .lst _ => "list"
  | .tup _ => "tuple"
  | .dic _ => "dict"
  | .ins _ _ => "object"
def tyB (a b : String) : Bool := a == b || (a == "bool" && b == "int")
def tys : List String := ["bool", "int", "str", "list", "tuple", "dict"]
def rowB (a : String) : Option (List Bool) := (PySem.fastBuiltinMro a).map fun l => tys.map fun b => l.contains (Value.type b)
theorem kit_meta : (tys.all fun b => PySem.W.kitMeta b) = true := by decide +kernel
theorem row_non : rowB "NoneType" = some (tys.map (tyB "NoneType")) := by decide +kernel
theorem row_bool : rowB "bool" = some (tys.map (tyB "bool")) := by decide +kernel
theorem row_int : rowB "int" = some (tys.map (tyB "int")) := by decide +kernel
theorem row_str : rowB "str" = some (tys.map (tyB "str")) := by decide +kernel
theorem row_list : rowB "list" = some (tys.map (tyB "list")) := by decide +kernel
theorem row_tuple : rowB "tuple" = some (tys.map (tyB "tuple")) := by decide +kernel
theorem row_dict : rowB "dict" = some (tys.map (tyB "dict")) := by decide +kernel
theorem row_object : rowB "object" = some (tys.map (tyB "object")) := by decide +kernel
theorem D.row (x : D) : rowB x.ty = some (tys.map (tyB x.ty)) := by
  cases x
  · exact row_non
  · exact row_bool
  · exact row_int
  · exact row_str
  · exact row_list
  · exact row_tuple
  · exact row_dict
  · exact row_object
theorem kitB_of (x : D) {T : String} (h : T ∈ ["bool", "int", "str", "list", "tuple", "dict"]) : kitB x.ty T = some (tyB x.ty T) := by
  have hm : PySem.W.kitMeta T = true := List.all_eq_true.mp kit_meta T h
  unfold kitB
  by_cases e : (Value.type x.ty == Value.type T) = true
  · rw [if_pos e]
    have e' : x.ty = T := by simpa using e
    rw [e']; simp [tyB]
  · rw [if_neg e, if_pos hm]
    obtain ⟨l, h1, h2⟩ := Option.map_eq_some_iff.mp x.row
    rw [h1, Option.map_some]
    exact congrArg some (List.map_inj_left.mp h2 T h)
theorem Wk.tyX {K : PySem.W.Frag} {R H : Hp} {x : D} {v : V} (e : Ex R H) (h : Wk K R H x v) : ∃ t, TyX K H v t ∧ ∀ T ∈ (["bool", "int", "str", "list", "tuple", "dict"] : List String), PySem.W.kitOne K t (.type T) = some (tyB x.ty T) := by
  have kt : ∀ T ∈ (["bool", "int", "str", "list", "tuple", "dict"] : List String), PySem.W.kitOne K (.type x.ty) (.type T) = some (tyB x.ty T) := fun T hT => kit_ty (kitB_of x hT)
  cases x with
  | non => cases h.non; exact ⟨_, .base .non, kt⟩
  | bl b => cases h.bl; exact ⟨_, .base (.bl b), kt⟩
  | int i => cases h.int; exact ⟨_, .base (.int i), kt⟩
  | str z => cases h.str; exact ⟨_, .base (.str z), kt⟩
  | lst ds => obtain ⟨a, vs, rfl, h2, _⟩ := h.lst e; exact ⟨_, .base (.lst h2), kt⟩
  | dic ds => obtain ⟨a, vs, rfl, h2, _⟩ := h.dic e; exact ⟨_, .base (.dK h2), kt⟩
  | ins nm fs =>
    obtain ⟨a, dx, ws, rfl, h2, ⟨h3, _⟩, _⟩ := h.ins e
    refine ⟨_, .base (.ins h2 h3.cl h3.ha h3.hn h3.ht h3.hm), fun T hT => (h3.no T hT).trans (congrArg some ?_)⟩
    simp only [List.mem_cons, List.not_mem_nil, or_false] at hT
    rcases hT with rfl | rfl | rfl | rfl | rfl | rfl <;> rfl
  | tup ds =>
    obtain ⟨a, vs, rfl, h2, _⟩ := h.tup e
    rcases h2 with (h2 | ⟨o, h2⟩) | ⟨o, its, m, h2, h3, _⟩
    · exact ⟨_, .base (.tup h2), kt⟩
    · exact ⟨_, .fTuple h2, kt⟩
    · exact ⟨_, .kTuple h2 h3, kt⟩
section
variable {X : Cx} {n : Nm} {c : Cc} {Γ : SL} {e a b : Expr} {x y z : D} {pos p p2 : Pos} {nm tn : Str} {k : AK}
theorem we_isi {T : String} {Post : D → SL → Prop} (hb : Blt X "isinstance" (.builtin "isinstance")) (ht : Blt X tn (.type T)) (j j2 : Nat) (h : WK X n c Γ e fun k Γ1 => ∃ x, k.get Γ1 = some x ∧ Post (.bl (tyB x.ty T)) Γ1) (hT : T ∈ ["bool", "int", "str", "list", "tuple", "dict"] := by decide)
    (hj : n.GN[j]? = some ("isinstance" : Str) := by rfl) (hj2 : n.GN[j2]? = some tn := by rfl) (he : starEach [e, .Name tn p2] X.env = (false, eval e X.env) :: starEach [.Name tn p2] X.env := by exact se_c rfl) (he2 : starEach [.Name tn p2] X.env = (false, eval (.Name tn p2) X.env) :: starEach [] X.env := by exact se_c rfl) (hpl : (backTo pos (starEach [.Name tn p2] X.env)).any (·.1) = false := by exact se_any rfl) :
    WE X n c Γ (.Call (.Name "isinstance" p) [e, .Name tn p2] [] pos) Post := .mk fun hn σ R H s Q q => by
  obtain ⟨g1, g2, g3⟩ := hn.gl j _ hj
  obtain ⟨g4, g5, g6⟩ := hn.gl j2 _ hj2
  refine (pe_callB call_isi g1 hb.mg hb.bt (pa_cons pW (pa_cons (pe_bltn (v := .ty T) g4 ht.mg ht.bt rfl g6 g5) pa_nil he2) he) g3 g2 he hpl).w (h.run hn σ R H s _ fun v R1 H1 k Γ1 s1 e1 r1 ⟨x, gx, px⟩ => ?_)
  obtain ⟨t, ty, kt⟩ := (r1.wk s1 gx).tyX s1.rh
  exact ⟨v, .ty T, t, .type T, _, rfl, .ty T, ty, kt T hT, q (.bl (tyB x.ty T)) R1 H1 (.bl (tyB x.ty T)) Γ1 s1 e1 rfl px⟩
theorem ev_isi {T : String} (hb : Blt X "isinstance" (.builtin "isinstance")) (ht : Blt X tn (.type T)) (j j2 : Nat) (ha : EK X n c Γ e k) (hg : k.get Γ = some x := by rfl) (hT : T ∈ ["bool", "int", "str", "list", "tuple", "dict"] := by decide)
    (hj : n.GN[j]? = some ("isinstance" : Str) := by rfl) (hj2 : n.GN[j2]? = some tn := by rfl) (he : starEach [e, .Name tn p2] X.env = (false, eval e X.env) :: starEach [.Name tn p2] X.env := by exact se_c rfl) (he2 : starEach [.Name tn p2] X.env = (false, eval (.Name tn p2) X.env) :: starEach [] X.env := by exact se_c rfl) (hpl : (backTo pos (starEach [.Name tn p2] X.env)).any (·.1) = false := by exact se_any rfl) :
    EV X n c Γ (.Call (.Name "isinstance" p) [e, .Name tn p2] [] pos) (.bl (tyB x.ty T)) := we_isi hb ht j j2 (wk_ek ha ⟨x, hg, rfl, rfl⟩) hT hj hj2 he he2 hpl
theorem et_isi {T : String} (hb : Blt X "isinstance" (.builtin "isinstance")) (ht : Blt X tn (.type T)) (j j2 : Nat) (ha : EK X n c Γ e k) (hg : k.get Γ = some x := by rfl) (hT : T ∈ ["bool", "int", "str", "list", "tuple", "dict"] := by decide)
    (hj : n.GN[j]? = some ("isinstance" : Str) := by rfl) (hj2 : n.GN[j2]? = some tn := by rfl) (he : starEach [e, .Name tn p2] X.env = (false, eval e X.env) :: starEach [.Name tn p2] X.env := by exact se_c rfl) (he2 : starEach [.Name tn p2] X.env = (false, eval (.Name tn p2) X.env) :: starEach [] X.env := by exact se_c rfl) (hpl : (backTo pos (starEach [.Name tn p2] X.env)).any (·.1) = false := by exact se_any rfl) :
    ET X n c Γ (.Call (.Name "isinstance" p) [e, .Name tn p2] [] pos) (tyB x.ty T) := et_val (ev_isi hb ht j j2 ha hg hT hj hj2 he he2 hpl)
/-! ### numbers in lists and tuples: x in xs -/
def D.flat : D → Bool
  | .non => true
  | .bl _ => true
  | .int _ => true
  | .str _ => true
  | _ => false
def fv : D → V
  | .non => .non
  | .bl b => .bl b
  | .int i => .int i
  | .str s => .str s
  | _ => .non
theorem flat_fv {K : PySem.W.Frag} {R : Hp} {x : D} {v : V} (h : x.flat = true) (r : Rp K R x v) : v = fv x ∧ flatV v = true := by
  cases x with
  | non => cases (show _ = _ from r); exact ⟨rfl, rfl⟩
  | bl b => cases (show _ = _ from r); exact ⟨rfl, rfl⟩
  | int i => cases (show _ = _ from r); exact ⟨rfl, rfl⟩
  | str z => cases (show _ = _ from r); exact ⟨rfl, rfl⟩
  | _ => cases h
theorem flat_fvs {K : PySem.W.Frag} {R : Hp} : ∀ {xs : List D} {vs : List V}, xs.all D.flat = true → RpL K R xs vs → vs = xs.map fv ∧ vs.all flatV = true
  | [], _, _, r => by cases (show _ = _ from r); exact ⟨rfl, rfl⟩
  | x :: xs, _, h, ⟨v, ws, e, r1, r2⟩ => by
    subst e
    rw [List.all_cons, Bool.and_eq_true] at h
    obtain ⟨h1, h2⟩ := flat_fv h.1 r1
    obtain ⟨h3, h4⟩ := flat_fvs h.2 r2
    exact ⟨by rw [h1, h3]; rfl, by rw [List.all_cons, h2, h4]; rfl⟩
def D.inL (x : D) (xs : List D) : Bool := inV (fv x) (xs.map fv)
theorem Wk.flat {K : PySem.W.Frag} {R H : Hp} {x : D} {v : V} (f : x.flat = true) (h : Wk K R H x v) : v = fv x ∧ flatV v = true := by
  rcases h with h | ⟨a, vs, ds, h1, h2, _⟩ | ⟨a, vs, ds, h1, h2, _⟩ | ⟨a, dx, ws, nm, fs, h1, h2, _⟩
  · exact flat_fv f h
  · subst h2; cases f
  · subst h2; cases f
  · subst h2; cases f
theorem dop_in {neg : Bool} {op : CmpOp} (h : OpR X (compareOp op) (rIn X.K neg)) : DOp X n c (compareOp op) (fun x y Post => ∃ ds, y.seq = some ds ∧ x.flat = true ∧ ds.all D.flat = true ∧ Post (.bl (if neg then !x.inL ds else x.inL ds))) := fun _ => ⟨_, h, fun Γ σ R H x y v w Post s hx hy ⟨ds, e, f1, f2, p⟩ Q q => by
  obtain ⟨r1, r2⟩ := hx.flat f1
  subst r1
  have fin : ∀ vs, RpL X.K R ds vs → vs.all flatV = true ∧ Q (.bl (if neg then !inV (fv x) vs else inV (fv x) vs)) H := fun vs hr => by
    obtain ⟨h3, h4⟩ := flat_fvs f2 hr
    refine ⟨h4, ?_⟩
    rw [h3]
    exact q _ R H (.bl (if neg then !x.inL ds else x.inL ds)) s (Ex.refl _) rfl p
  cases y with
  | lst ys => cases e; obtain ⟨a, vs, rfl, h2, h3⟩ := hy.lst s.rh; exact ⟨a, vs, rfl, .inl (.inl (.inl h2)), r2, fin vs h3⟩
  | tup ys => cases e; obtain ⟨a, vs, rfl, h2, h3⟩ := hy.tup s.rh; exact ⟨a, vs, rfl, .inr h2, r2, fin vs h3⟩
  | _ => cases e⟩
theorem et_in {ds : List D} {l : AK} (ha : EK X n c Γ a k) (hb : EK X n c Γ b l) (hs : y.seq = some ds) (h1 : x.flat = true) (h2 : ds.all D.flat = true) (ga : k.get Γ = some x := by rfl) (gb : l.get Γ = some y := by rfl) (hm : behindInMarks .In b = false := by rfl) : ET X n c Γ (.Compare a [.In] [b] pos) (x.inL ds) :=
  et_cmp (dop_in op_in_seq) ha hb (fun _ p => ⟨ds, hs, h1, h2, p⟩) ga gb hm
theorem et_notIn {ds : List D} {l : AK} (ha : EK X n c Γ a k) (hb : EK X n c Γ b l) (hs : y.seq = some ds) (h1 : x.flat = true) (h2 : ds.all D.flat = true) (ga : k.get Γ = some x := by rfl) (gb : l.get Γ = some y := by rfl) (hm : behindInMarks .NotIn b = false := by rfl) : ET X n c Γ (.Compare a [.NotIn] [b] pos) (!x.inL ds) :=
  et_cmp (dop_in op_notIn_seq) ha hb (fun _ p => ⟨ds, hs, h1, h2, p⟩) ga gb hm
theorem inL_int {i : Int} {ns : List Int} : (D.int i).inL (ns.map D.int) = ns.contains i := by
  unfold D.inL inV
  induction ns with
  | nil => rfl
  | cons m ns ih =>
    rw [List.map_cons, List.map_cons, List.any_cons, ih, List.contains_cons]
    congr 1
    show (m == i) = (i == m)
    exact Bool.beq_comm
end
end DL

end
section
set_option Elab.async false
set_option linter.all false
set_option autoImplicit true
set_option maxRecDepth 10000
set_option maxHeartbeats 400000
namespace DL
open PySem L2
/-! ### rationals: plain laws -/
abbrev qD (q : Rat) : D := .tup [.int q.num, .int (q.den : Int)]
/-- a fraction of so many bits below the line, of eight times so many above -/
def Sz (k : Nat) (q : Rat) : Prop := q.num.natAbs < 2 ^ (8 * k) ∧ q.den < 2 ^ k
theorem Sz.mono {j k : Nat} {q : Rat} (h : Sz j q) (e : j ≤ k) : Sz k q :=
  ⟨Nat.lt_of_lt_of_le h.1 (Nat.pow_le_pow_right (by decide) (by omega)), Nat.lt_of_lt_of_le h.2 (Nat.pow_le_pow_right (by decide) e)⟩
theorem den_pos' (q : Rat) : (0 : Int) < (q.den : Int) := by have := q.den_pos; omega
/-- a number of so many bits -/
def Bt (k : Nat) (i : Int) : Prop := i.natAbs < 2 ^ k
theorem Sz.n {k : Nat} {q : Rat} (h : Sz k q) : Bt (8 * k) q.num := h.1
theorem Sz.d {k : Nat} {q : Rat} (h : Sz k q) : Bt k (q.den : Int) := by show ((q.den : Int)).natAbs < _; simpa using h.2
theorem Bt.mono {j k : Nat} {i : Int} (h : Bt j i) (e : j ≤ k) : Bt k i := Nat.lt_of_lt_of_le h (Nat.pow_le_pow_right (by decide) e)
theorem Bt.mul {j k : Nat} {a b : Int} (h : Bt j a) (h' : Bt k b) : Bt (j + k) (a * b) := wide_lt h h'
theorem Bt.add {k : Nat} {a b : Int} (h : Bt k a) (h' : Bt k b) : Bt (k + 1) (a + b) := by
  unfold Bt at *
  have := Int.natAbs_add_le a b
  rw [Nat.pow_succ]; omega
theorem Bt.sub {k : Nat} {a b : Int} (h : Bt k a) (h' : Bt k b) : Bt (k + 1) (a - b) := by
  unfold Bt at *
  have := Int.natAbs_sub_le a b
  rw [Nat.pow_succ]; omega
theorem Bt.neg {k : Nat} {a : Int} (h : Bt k a) : Bt k (-a) := by unfold Bt at *; rwa [Int.natAbs_neg]
theorem Bt.le {k : Nat} {a b : Int} (h : Bt k a) (e : b.natAbs ≤ a.natAbs) : Bt k b := Nat.lt_of_le_of_lt e h
theorem Bt.nat {k : Nat} {m j : Nat} (h : Bt k (j : Int)) (e : m ≤ j) : Bt k (m : Int) := h.le (by omega)
theorem log2_le_of {a : Int} {k : Nat} (h : Bt k a) : a.natAbs.log2 ≤ k := by
  by_cases z : a.natAbs = 0
  · rw [z]; simp
  · have := (Nat.log2_lt z).mpr (show a.natAbs < 2 ^ k from h); omega
theorem Bt.cm {j k : Nat} {a b : Int} (h : Bt j a) (h' : Bt k b) (e : j + k < 1000000) : CMulW a b := by
  have h1 := log2_le_of h; have h2 := log2_le_of h'
  unfold CMulW; omega
theorem Bt.cd {k : Nat} {a b : Int} (h : Bt k b) (h0 : b ≠ 0) (e : k < 9000) : CDivA a b := ⟨h0, by have := log2_le_of h; omega⟩
/-! the parts of sums and products -/
theorem add_parts (a b : Rat) (h : Nat.gcd a.den b.den ≠ 1) : (a + b).num = (a.num * ((b.den / Nat.gcd a.den b.den : Nat) : Int) + b.num * ((a.den / Nat.gcd a.den b.den : Nat) : Int)) / ((Nat.gcd (a.num * ((b.den / Nat.gcd a.den b.den : Nat) : Int) + b.num * ((a.den / Nat.gcd a.den b.den : Nat) : Int)).natAbs (Nat.gcd a.den b.den) : Nat) : Int) ∧
    (a + b).den = (a.den / Nat.gcd a.den b.den * b.den) / Nat.gcd (a.num * ((b.den / Nat.gcd a.den b.den : Nat) : Int) + b.num * ((a.den / Nat.gcd a.den b.den : Nat) : Int)).natAbs (Nat.gcd a.den b.den) := by
  have e : a + b = Rat.add a b := rfl
  rw [e]
  delta Rat.add
  dsimp only
  rw [dif_neg h]
  unfold Rat.maybeNormalize
  split
  · rename_i h1
    simp only [h1]
    simp
  · simp only [Int.divExact_eq_tdiv, Nat.divExact_eq_div, and_true]
    rw [Int.tdiv_eq_ediv_of_dvd]
    exact Int.ofNat_dvd_left.2 (Nat.gcd_dvd_left ..)
theorem add_parts1 (a b : Rat) (h : Nat.gcd a.den b.den = 1) : (a + b).num = a.num * (b.den : Int) + b.num * (a.den : Int) ∧ (a + b).den = a.den * b.den := by
  have e : a + b = Rat.add a b := rfl
  rw [e]
  delta Rat.add
  dsimp only
  rw [dif_pos h]
  exact ⟨rfl, rfl⟩
theorem mul_parts (a b : Rat) : (a * b).num = a.num / ((Nat.gcd a.num.natAbs b.den : Nat) : Int) * (b.num / ((Nat.gcd b.num.natAbs a.den : Nat) : Int)) ∧ (a * b).den = a.den / Nat.gcd b.num.natAbs a.den * (b.den / Nat.gcd a.num.natAbs b.den) := by
  have e : a * b = Rat.mul a b := rfl
  rw [e]
  delta Rat.mul
  dsimp only
  simp only [Int.divExact_eq_tdiv, Nat.divExact_eq_div, and_true]
  rw [Int.tdiv_eq_ediv_of_dvd (Int.ofNat_dvd_left.2 (Nat.gcd_dvd_left ..)), Int.tdiv_eq_ediv_of_dvd (Int.ofNat_dvd_left.2 (Nat.gcd_dvd_left ..))]
theorem Sz.add {j k : Nat} {a b : Rat} (h : Sz j a) (h' : Sz k b) : Sz (j + k + 1) (a + b) := by
  have hn : Bt (8 * (j + k + 1)) (a.num * (b.den : Int) + b.num * (a.den : Int)) := (((h.n.mul h'.d).mono (show 8 * j + k ≤ 8 * (j + k) by omega)).add ((h'.n.mul h.d).mono (by omega))).mono (by omega)
  have hd : Bt (j + k) ((a.den * b.den : Nat) : Int) := by rw [Int.natCast_mul]; exact h.d.mul h'.d
  constructor
  · rw [Rat.num_add]
    refine Nat.lt_of_le_of_lt ?_ hn
    rw [Int.natAbs_ediv_of_dvd (Int.ofNat_dvd_left.2 (Nat.gcd_dvd_left ..))]
    exact Nat.div_le_self _ _
  · rw [Rat.den_add]
    refine Nat.lt_of_le_of_lt (Nat.div_le_self _ _) ?_
    have : a.den * b.den < 2 ^ (j + k) := by unfold Bt at hd; rwa [Int.natAbs_natCast] at hd
    exact Nat.lt_of_lt_of_le this (Nat.pow_le_pow_right (by decide) (by omega))
theorem Sz.neg {k : Nat} {a : Rat} (h : Sz k a) : Sz k (-a) := ⟨by rw [Rat.neg_num, Int.natAbs_neg]; exact h.1, h.2⟩
theorem Sz.sub {j k : Nat} {a b : Rat} (h : Sz j a) (h' : Sz k b) : Sz (j + k + 1) (a - b) := by rw [Rat.sub_eq_add_neg]; exact h.add h'.neg
theorem Sz.mul {j k : Nat} {a b : Rat} (h : Sz j a) (h' : Sz k b) : Sz (j + k) (a * b) := by
  constructor
  · rw [Rat.num_mul]
    rw [show 8 * (j + k) = 8 * j + 8 * k by omega]
    refine Nat.lt_of_le_of_lt ?_ (h.n.mul h'.n)
    rw [Int.natAbs_ediv_of_dvd (Int.ofNat_dvd_left.2 (Nat.gcd_dvd_left ..))]
    exact Nat.div_le_self _ _
  · rw [Rat.den_mul]
    refine Nat.lt_of_le_of_lt (Nat.div_le_self _ _) ?_
    have : Bt (j + k) ((a.den * b.den : Nat) : Int) := by rw [Int.natCast_mul]; exact h.d.mul h'.d
    unfold Bt at this; rwa [Int.natAbs_natCast] at this
theorem fdiv_ediv {a : Int} {b : Nat} (h : b ≠ 0) : Int.fdiv a (b : Int) = a / (b : Int) := Int.fdiv_eq_ediv_of_nonneg _ (by omega)
theorem gcd_int (a : Int) (b : Nat) : Int.gcd a (b : Int) = Nat.gcd a.natAbs b := by simp [Int.gcd]
/-- n over d in lowest terms, d of either sign -/
def fr (n d : Int) : Rat := Rat.divInt n d
theorem fr_pos {n : Int} {d : Nat} : fr n (d : Int) = mkRat n d := Rat.divInt_ofNat n d
theorem fr_sz {n d : Int} {k : Nat} (hn : Bt (8 * k) n) (hd : Bt k d) (h0 : d ≠ 0) : Sz k (fr n d) := by
  have hg : (Int.gcd d n) ≠ 0 := by
    intro z
    exact h0 (Int.gcd_eq_zero_iff.mp z).1
  constructor
  · unfold fr
    rw [Rat.num_divInt]
    refine Nat.lt_of_le_of_lt ?_ hn
    have : (d.sign * n).natAbs = n.natAbs := by rw [Int.natAbs_mul, Int.natAbs_sign_of_ne_zero h0, Nat.one_mul]
    have h2 : (d.sign * n / ((Int.gcd d n : Nat) : Int)).natAbs ≤ (d.sign * n).natAbs := by
      rw [Int.natAbs_ediv_of_dvd (Int.dvd_mul_of_dvd_right (Int.gcd_dvd_right ..))]
      exact Nat.div_le_self _ _
    omega
  · unfold fr
    rw [Rat.den_divInt, if_neg h0]
    exact Nat.lt_of_le_of_lt (Nat.div_le_self _ _) hd
def cmpQ (a b : Rat) : Int := if a < b then -1 else if b < a then 1 else 0
theorem lt_num {a b : Rat} : a < b ↔ a.num * (b.den : Int) < b.num * (a.den : Int) := Rat.lt_iff a b
theorem lt_same {a b : Rat} (h : a.den = b.den) : a < b ↔ a.num < b.num := by
  rw [Rat.lt_iff, h]
  exact Int.mul_lt_mul_right (den_pos' b)
theorem eqv_q (a b : Rat) : (qD a).eqv (qD b) = decide (a = b) := by
  show (a.num == b.num && ((a.den : Int) == (b.den : Int) && true)) = _
  rw [Bool.eq_iff_iff]
  simp only [Bool.and_true, Bool.and_eq_true, beq_iff_eq, decide_eq_true_eq]
  constructor
  · rintro ⟨h1, h2⟩
    exact Rat.ext h1 (by omega)
  · rintro rfl; exact ⟨rfl, rfl⟩
theorem shp_q (a : Rat) : (qD a).shp = true := by
  show SeqAt.shaped (.tuple [.int a.num, .int (a.den : Int)]) = true
  rfl

/-! ### calls of pure defs -/
section
variable {X : Cx} {n : Nm} {c : Cc} {Γ : SL} {e a b d : Expr} {x y z : D} {pos p : Pos} {nm : Str} {S : Sg} {k l m : AK} {ps : List Par}
theorem ev_call1 (hc : CalF X n.k nm S) (j : Nat) (ha : EK X n c Γ a k) (h : ∀ Post : Res → List OB → Prop, Post (.d z) [] → S ps Post) (hp : pars Γ [k] = some ps := by rfl) (ho : ownIx [k] = [] := by rfl) (hj : n.GN[j]? = some nm := by rfl)
    (he : starEach [a] X.env = (false, eval a X.env) :: starEach [] X.env := by exact se_c rfl) (hpl : (backTo pos (starEach [] X.env)).any (·.1) = false := by exact se_any rfl) : EV X n c Γ (.Call (.Name nm p) [a] [] pos) z :=
  we_call hc j (wa_of (ea_cons ha ea_nil he) ⟨ps, hp, by rw [ho]; exact List.nodup_nil, by rw [ho]; simp, h _ ⟨z, rfl, rfl, by rw [ho]; rfl⟩⟩) hj he hpl
theorem ev_call2 (hc : CalF X n.k nm S) (j : Nat) (ha : EK X n c Γ a k) (hb : EK X n c Γ b l) (h : ∀ Post : Res → List OB → Prop, Post (.d z) [] → S ps Post) (hp : pars Γ [k, l] = some ps := by rfl) (ho : ownIx [k, l] = [] := by rfl) (hj : n.GN[j]? = some nm := by rfl)
    (he : starEach [a, b] X.env = (false, eval a X.env) :: starEach [b] X.env := by exact se_c rfl) (he2 : starEach [b] X.env = (false, eval b X.env) :: starEach [] X.env := by exact se_c rfl) (hpl : (backTo pos (starEach [b] X.env)).any (·.1) = false := by exact se_any rfl) : EV X n c Γ (.Call (.Name nm p) [a, b] [] pos) z :=
  we_call hc j (wa_of (ea_cons ha (ea_cons hb ea_nil he2) he) ⟨ps, hp, by rw [ho]; exact List.nodup_nil, by rw [ho]; simp, h _ ⟨z, rfl, rfl, by rw [ho]; rfl⟩⟩) hj he hpl
theorem ev_call3 (hc : CalF X n.k nm S) (j : Nat) (ha : EK X n c Γ a k) (hb : EK X n c Γ b l) (hd : EK X n c Γ d m) (h : ∀ Post : Res → List OB → Prop, Post (.d z) [] → S ps Post) (hp : pars Γ [k, l, m] = some ps := by rfl) (ho : ownIx [k, l, m] = [] := by rfl) (hj : n.GN[j]? = some nm := by rfl)
    (he : starEach [a, b, d] X.env = (false, eval a X.env) :: starEach [b, d] X.env := by exact se_c rfl) (he2 : starEach [b, d] X.env = (false, eval b X.env) :: starEach [d] X.env := by exact se_c rfl) (he3 : starEach [d] X.env = (false, eval d X.env) :: starEach [] X.env := by exact se_c rfl) (hpl : (backTo pos (starEach [b, d] X.env)).any (·.1) = false := by exact se_any rfl) : EV X n c Γ (.Call (.Name nm p) [a, b, d] [] pos) z :=
  we_call hc j (wa_of (ea_cons ha (ea_cons hb (ea_cons hd ea_nil he3) he2) he) ⟨ps, hp, by rw [ho]; exact List.nodup_nil, by rw [ho]; simp, h _ ⟨z, rfl, rfl, by rw [ho]; rfl⟩⟩) hj he hpl
theorem eo_call1 {o : OB} (hc : CalF X n.k nm S) (j : Nat) (ha : EK X n c Γ a k) (h : ∀ Post : Res → List OB → Prop, Post (.own o) [] → S ps Post) (hp : pars Γ [k] = some ps := by rfl) (ho : ownIx [k] = [] := by rfl) (hj : n.GN[j]? = some nm := by rfl)
    (he : starEach [a] X.env = (false, eval a X.env) :: starEach [] X.env := by exact se_c rfl) (hpl : (backTo pos (starEach [] X.env)).any (·.1) = false := by exact se_any rfl) : EO X n c Γ (.Call (.Name nm p) [a] [] pos) o :=
  wo_call hc j (wa_of (ea_cons ha ea_nil he) ⟨ps, hp, by rw [ho]; exact List.nodup_nil, by rw [ho]; simp, h _ ⟨o, rfl, rfl, by rw [ho]; rfl⟩⟩) hj he hpl
theorem eo_call2 {o : OB} (hc : CalF X n.k nm S) (j : Nat) (ha : EK X n c Γ a k) (hb : EK X n c Γ b l) (h : ∀ Post : Res → List OB → Prop, Post (.own o) [] → S ps Post) (hp : pars Γ [k, l] = some ps := by rfl) (ho : ownIx [k, l] = [] := by rfl) (hj : n.GN[j]? = some nm := by rfl)
    (he : starEach [a, b] X.env = (false, eval a X.env) :: starEach [b] X.env := by exact se_c rfl) (he2 : starEach [b] X.env = (false, eval b X.env) :: starEach [] X.env := by exact se_c rfl) (hpl : (backTo pos (starEach [b] X.env)).any (·.1) = false := by exact se_any rfl) : EO X n c Γ (.Call (.Name nm p) [a, b] [] pos) o :=
  wo_call hc j (wa_of (ea_cons ha (ea_cons hb ea_nil he2) he) ⟨ps, hp, by rw [ho]; exact List.nodup_nil, by rw [ho]; simp, h _ ⟨o, rfl, rfl, by rw [ho]; rfl⟩⟩) hj he hpl
end
/-! ### defs that draw from a store: it comes back as a store -/
section
variable {X : Cx} {n : Nm} {c : Cc} {Γ : SL} {e a b d : Expr} {x y z : D} {pos p p1 : Pos} {nm sn : Str} {S : Sg} {es : List Expr}
theorem set_same {i : Nat} {s : Slot} (h : Γ[i]? = some s) : Γ.set i s = Γ := by
  apply List.ext_getElem?
  intro j
  by_cases hj : i = j
  · subst hj; rw [List.getElem?_set_self (List.getElem?_eq_some_iff.mp h).1, h]
  · rw [List.getElem?_set_ne hj]
/-- every promise of a def that gives its store back whole -/
def StoS (S : Sg) (ps : List Par) (P : Res → Prop) : Prop := ∀ Post : Res → List OB → Prop, (∀ r, P r → Post r [.sto]) → S (.own .sto :: ps) Post
theorem sto_args {Post : Res → SL → Prop} (i : Nat) (hg : Γ[i]? = some (.own .sto)) (hi : n.N[i]? = some sn) (hv : n.V.contains i = true)
    (h : WA X n c Γ es fun ks Γ1 => Γ1 = Γ ∧ ∃ ps, pars Γ ks = some ps ∧ ownIx ks = [] ∧ i ∉ readIx ks ∧ StoS S ps fun r => Post r Γ)
    (he : starEach (.Name sn p1 :: es) X.env = (false, eval (.Name sn p1) X.env) :: starEach es X.env) :
    WA X n c Γ (.Name sn p1 :: es) fun ks Γ1 => ∃ ps, pars Γ1 ks = some ps ∧ (ownIx ks).Nodup ∧ (∀ i ∈ readIx ks, i ∉ ownIx ks) ∧ S ps fun r os => Post r (updOwn Γ1 (ownIx ks) os) := by
  refine wa_cons (wk_ek (ek_o i hg rfl hi hv) (h.mono ?_)) he
  rintro ks Γ1 ⟨rfl, ps, h1, h2, h3, h4⟩
  refine ⟨.own .sto :: ps, ?_, ?_, ?_, ?_⟩
  · show (match AK.par Γ1 (.o i), pars Γ1 ks with | some x, some xs => some (x :: xs) | _, _ => none) = _
    rw [h1]
    simp only [AK.par, hg]
  · show (i :: ownIx ks).Nodup; rw [h2]; simp
  · intro j hj
    show j ∉ i :: ownIx ks
    rw [h2]
    have hj' : j ∈ readIx ks := hj
    intro z
    have : j = i := by simpa using z
    subst this; exact h3 hj'
  · refine h4 _ fun r pr => ?_
    show Post r (updOwn Γ1 (i :: ownIx ks) [.sto])
    rw [h2]
    show Post r (Γ1.set i (.own .sto))
    rw [set_same hg]; exact pr
theorem we_sto (hc : CalF X n.k nm S) (j i : Nat) {Post : D → SL → Prop} (h : WA X n c Γ es fun ks Γ1 => Γ1 = Γ ∧ ∃ ps, pars Γ ks = some ps ∧ ownIx ks = [] ∧ i ∉ readIx ks ∧ StoS S ps fun r => ∃ x, r.data = some x ∧ Post x Γ)
    (hg : Γ[i]? = some (.own .sto) := by rfl) (hi : n.N[i]? = some sn := by rfl) (hv : n.V.contains i = true := by rfl)
    (hj : n.GN[j]? = some nm := by rfl) (he : starEach (.Name sn p1 :: es) X.env = (false, eval (.Name sn p1) X.env) :: starEach es X.env := by exact se_c rfl) (hpl : (backTo pos (starEach es X.env)).any (·.1) = false := by exact se_any rfl) : WE X n c Γ (.Call (.Name nm p) (.Name sn p1 :: es) [] pos) Post :=
  we_call hc j (sto_args (Post := fun r Γ' => ∃ x, r.data = some x ∧ Post x Γ') i hg hi hv h he) hj he hpl
theorem wo_sto (hc : CalF X n.k nm S) (j i : Nat) {Post : OB → SL → Prop} (h : WA X n c Γ es fun ks Γ1 => Γ1 = Γ ∧ ∃ ps, pars Γ ks = some ps ∧ ownIx ks = [] ∧ i ∉ readIx ks ∧ StoS S ps fun r => ∃ o, r = .own o ∧ Post o Γ)
    (hg : Γ[i]? = some (.own .sto) := by rfl) (hi : n.N[i]? = some sn := by rfl) (hv : n.V.contains i = true := by rfl)
    (hj : n.GN[j]? = some nm := by rfl) (he : starEach (.Name sn p1 :: es) X.env = (false, eval (.Name sn p1) X.env) :: starEach es X.env := by exact se_c rfl) (hpl : (backTo pos (starEach es X.env)).any (·.1) = false := by exact se_any rfl) : WO X n c Γ (.Call (.Name nm p) (.Name sn p1 :: es) [] pos) Post :=
  wo_call hc j (sto_args (Post := fun r Γ' => ∃ o, r = .own o ∧ Post o Γ') i hg hi hv h he) hj he hpl
/-- f(.., x, ..) by told arguments behind the store -/
theorem sto_ea {ks : List AK} {ps : List Par} {Q : Res → Prop} {i : Nat} (h : EA X n c Γ es ks) (hq : StoS S ps Q) (hp : pars Γ ks = some ps := by rfl) (ho : ownIx ks = [] := by rfl) (hr : i ∉ readIx ks := by decide) :
    WA X n c Γ es fun ks Γ1 => Γ1 = Γ ∧ ∃ ps, pars Γ ks = some ps ∧ ownIx ks = [] ∧ i ∉ readIx ks ∧ StoS S ps Q := wa_of h ⟨rfl, ps, hp, ho, hr, hq⟩
end
/-- a def as the top has left it -/
structure DefAt (K : PySem.W.Frag) (mg : Str → Option Value) (nm : Str) (st : Stmt) (ps : List Str) where
  a : Addr
  fd : FuncData
  F : Fun K nm nm st a fd
  m : mg nm = some (.ref a)
  bb : ∀ us : List Value, us.length = ps.length → bindArgs fd ⟨us, []⟩ = pure (ps.zip us)
theorem DefAt.b {K : PySem.W.Frag} {mg : Str → Option Value} {nm : Str} {st : Stmt} {ps : List Str} (d : DefAt K mg nm st ps) : Binds K d.fd ps [] := .all d.bb
theorem DefAt.cal {X : Cx} {nm : Str} {st : Stmt} {ps : List Str} {k k0 : Nat} {S : Sg} (d : DefAt X.K X.mg nm st ps) (F : FnOk X.prog X.w X.K X.mg X.base CX0 k0 d.a d.fd ps (spOf X.K S)) (h : k0 ≤ k) (rm : Room k X.A) : CalF X k nm S :=
  ⟨rm, d.a, d.fd, ps, k0, F, h, d.m, d.F.kp, d.b⟩
end DL

end
section
set_option Elab.async false
set_option linter.all false
set_option autoImplicit true
set_option maxRecDepth 10000
set_option maxHeartbeats 400000
namespace DL
open PySem L2
/-! ### what every law shares: the script's store and the draws -/
theorem atI_nat {α : Type} {xs : List α} {i : Nat} {z : α} (h : xs[i]? = some z) : atI xs (i : Int) = some z := by
  have hi := (List.getElem?_eq_some_iff.mp h).1
  unfold atI ixN
  have e1 : ¬ ((i : Int) < 0) := by omega
  have e2 : (i : Int) < (xs.length : Int) := by omega
  simp [e1, e2, h]
theorem at_lst {xs : List D} {i : Nat} {z : D} (h : xs[i]? = some z) : (D.lst xs).at (i : Int) = some z := atI_nat h
theorem at_tup {xs : List D} {i : Nat} {z : D} (h : xs[i]? = some z) : (D.tup xs).at (i : Int) = some z := atI_nat h
section
variable {X : Cx} {n : Nm} {c : Cc} {Γ : SL} {e a b d : Expr} {x y z : D} {pos p p1 : Pos} {nm sn : Str} {S : Sg} {es : List Expr}
/-- list(script) -/
theorem eo_listSc {ns : List Int} (hb : Blt X "list" (.type "list")) (j : Nat) (i : Nat) (hg : Γ[i]? = some (.sc ns) := by rfl) (hi : n.N[i]? = some nm := by rfl) (hv : n.V.contains i = true := by rfl) (hj : n.GN[j]? = some ("list" : Str) := by rfl)
    (he : starEach [.Name nm p1] X.env = (false, eval (.Name nm p1) X.env) :: starEach [] X.env := by exact se_c rfl) (hpl : (backTo pos (starEach [] X.env)).any (·.1) = false := by exact se_any rfl) :
    EO X n c Γ (.Call (.Name "list" p) [.Name nm p1] [] pos) (.lst (ns.map .int)) := by
  have ho : NOk X n c → ∃ r, CallR X (.type "list") r ∧ ∀ Γ σ R H vs (Post : OB → Prop), SOk X.K c Γ σ R H → (∃ a, vs = [.ref a] ∧ SqL X.K R a (ns.map V.int)) → Post (.lst (ns.map .int)) → ∀ Q : VK, (∀ v R' H' o, SOk X.K c Γ σ R' H' → Ex R R' → VOk X.K c Γ σ R' H' (.own o) v → Post o → Q v H') → r vs H Q := fun hn => ⟨_, call_list_of, fun Γ σ R H vs Post s hx p Q q => by
    obtain ⟨a, rfl, h1⟩ := hx
    refine ⟨a, ns.map V.int, rfl, .inl (ex_l s.rh h1), fun l hl => ?_⟩
    have g := s.newOwn (.lst (ns.map V.int)) hl
    refine q _ R _ (.lst (ns.map .int)) (s.grow g) (Ex.refl _) ⟨l, rfl, ⟨_, upd_same, .ints⟩, s.rh.back hl, ?_, fun i o z1 z2 => ?_⟩ p
    · cases z : c.H0 l with
      | none => rfl
      | some u => exact absurd hl (s.pr l (by rw [z]; simp))
    · obtain ⟨w, u1, b, u2, u3, _⟩ := s.sl i _ z1
      rw [z2] at u1; cases u1; cases u2
      exact u3.there hl⟩
  exact .mk fun hn σ R H s Q q => by
    obtain ⟨r, h1, h2⟩ := ho hn
    obtain ⟨g1, g2, g3⟩ := hn.gl j _ hj
    refine (pe_callTy h1 g1 hb.mg hb.bt pWA g3 g2 he hpl).w ((ea_cons (ek_s i hg rfl hi hv) ea_nil he).run hn σ R H s _ fun vs R1 H1 ks Γ1 s1 e1 r1 ⟨xs, gx⟩ => ?_)
    subst xs gx
    obtain ⟨v, ws, rfl, r2, r3⟩ := r1
    cases (show ws = [] from r3)
    obtain ⟨o, w1, a, w2, w3⟩ := s1.sl i _ hg
    have r2' : σ[i]? = some (some v) := r2
    rw [r2'] at w1; cases w1; cases w2
    exact h2 Γ1 σ R1 H1 _ _ s1 ⟨a, rfl, w3⟩ ⟨rfl, rfl⟩ Q fun u R' H' z s' e' r' p' => q u R' H' z Γ1 s' (e1.trans e') r' p'
/-! the promises of the draws -/
abbrev WP (X : Cx) (n : Nm) (c : Cc) (Γ : SL) (e : Expr) (P : D → Prop) : Prop := WE X n c Γ e fun x Γ' => Γ' = Γ ∧ P x
def ST_store : Sg := fun ps Post => ∃ ns : List Int, ps = [.sc ns] ∧ ns.length ≤ 63 ∧ Post (.own .sto) []
def ST_feed : Sg := fun ps Post => ∃ (ns : List Int) (pl : Nat) (great st left cnt : Int), ps = [.own (.lst (stoD ns pl great st left cnt))] ∧ StoreB ns pl great st left cnt ∧ pl < ns.length ∧ Post (.d .non) [.sto]
def ST_mixed : Sg := fun ps Post => ∃ (ns : List Int) (place great st left cnt : Int), ps = [.own (.lst (stoD ns place great st left cnt))] ∧ StoreB ns place great st left cnt ∧ ∀ m : Int, 0 ≤ m → m < 1000000009 → Post (.d (.int m)) [.sto]
def ST_take : Sg := fun ps Post => ∃ many : Int, ps = [.own .sto, .d (.int many)] ∧ Bt 8000 many ∧ ∀ k : Int, 0 ≤ k → k < (if many > 1 then many else 1) → Post (.d (.int k)) [.sto]
def ST_pick : Sg := fun ps Post => ∃ (x : D) (m : Nat), ps = [.own .sto, .w x] ∧ x.len = some m ∧ (∀ z, x = .str z → z.length ≤ sizeLine) ∧ 0 < m ∧ m < 2 ^ 64 ∧ (∀ k : Nat, k < m → ∃ y, x.at k = some y) ∧ ∀ (k : Nat) y, k < m → x.at k = some y → Post (.d y) [.sto]
def ST_size : Sg := fun ps Post => ∃ lo hi : Int, ps = [.own .sto, .d (.int lo), .d (.int hi)] ∧ lo ≤ hi ∧ Bt 7000 lo ∧ Bt 7000 hi ∧ ∀ k : Int, lo ≤ k → k ≤ hi → Post (.d (.int k)) [.sto]
theorem we_st1 {Post : D → SL → Prop} (hc : CalF X n.k nm S) (j i : Nat) (h : WE X n c Γ e fun x Γ1 => Γ1 = Γ ∧ StoS S [.d x] fun r => ∃ y, r.data = some y ∧ Post y Γ)
    (hg : Γ[i]? = some (.own .sto) := by rfl) (hi : n.N[i]? = some sn := by rfl) (hv : n.V.contains i = true := by rfl) (hj : n.GN[j]? = some nm := by rfl)
    (he : starEach (.Name sn p1 :: [e]) X.env = (false, eval (.Name sn p1) X.env) :: starEach [e] X.env := by exact se_c rfl) (he2 : starEach [e] X.env = (false, eval e X.env) :: starEach [] X.env := by exact se_c rfl) (hpl : (backTo pos (starEach [e] X.env)).any (·.1) = false := by exact se_any rfl) : WE X n c Γ (.Call (.Name nm p) [.Name sn p1, e] [] pos) Post :=
  we_sto hc j i (wa_cons (wk_e (h.mono fun x Γ1 ⟨e1, h1⟩ => by
    subst e1
    exact wa_nil ⟨rfl, [.d x], rfl, rfl, by simp [readIx], h1⟩)) he2) hg hi hv hj he hpl
theorem we_st0 {Post : D → SL → Prop} (hc : CalF X n.k nm S) (j i : Nat) (h : StoS S [] fun r => ∃ y, r.data = some y ∧ Post y Γ)
    (hg : Γ[i]? = some (.own .sto) := by rfl) (hi : n.N[i]? = some sn := by rfl) (hv : n.V.contains i = true := by rfl) (hj : n.GN[j]? = some nm := by rfl)
    (he : starEach (.Name sn p1 :: []) X.env = (false, eval (.Name sn p1) X.env) :: starEach [] X.env := by exact se_c rfl) (hpl : (backTo pos (starEach [] X.env)).any (·.1) = false := by exact se_any rfl) : WE X n c Γ (.Call (.Name nm p) [.Name sn p1] [] pos) Post :=
  we_sto hc j i (wa_nil ⟨rfl, [], rfl, rfl, by simp [readIx], h⟩) hg hi hv hj he hpl
/-- a draw below m -/
theorem we_take {Post : D → SL → Prop} (hc : CalF X n.k nm ST_take) (j i : Nat) (h : WE X n c Γ e fun x Γ1 => Γ1 = Γ ∧ ∃ m : Nat, x = .int (m : Int) ∧ 0 < m ∧ Bt 8000 (m : Int) ∧ ∀ k : Nat, k < m → Post (.int (k : Int)) Γ)
    (hg : Γ[i]? = some (.own .sto) := by rfl) (hi : n.N[i]? = some sn := by rfl) (hv : n.V.contains i = true := by rfl) (hj : n.GN[j]? = some nm := by rfl)
    (he : starEach (.Name sn p1 :: [e]) X.env = (false, eval (.Name sn p1) X.env) :: starEach [e] X.env := by exact se_c rfl) (he2 : starEach [e] X.env = (false, eval e X.env) :: starEach [] X.env := by exact se_c rfl) (hpl : (backTo pos (starEach [e] X.env)).any (·.1) = false := by exact se_any rfl) : WE X n c Γ (.Call (.Name nm p) [.Name sn p1, e] [] pos) Post :=
  we_st1 hc j i (h.mono fun x Γ1 ⟨e1, m, e2, h0, hB, hP⟩ => ⟨e1, fun Q q => by
    subst e2
    refine ⟨m, rfl, hB, fun k k0 k1 => q _ ⟨_, rfl, ?_⟩⟩
    have hk : k < (m : Int) := by split at k1 <;> omega
    have := hP k.toNat (by omega)
    rwa [show ((k.toNat : Nat) : Int) = k by omega] at this⟩) hg hi hv hj he he2 hpl
/-- .. of a written number -/
theorem we_takeI {Post : D → SL → Prop} {m : Nat} {jj q1} (hc : CalF X n.k nm ST_take) (j i : Nat) (h : ∀ k : Nat, k < m → Post (.int (k : Int)) Γ) (h0 : 0 < m := by decide) (hB : m < 2 ^ 64 := by decide)
    (hg : Γ[i]? = some (.own .sto) := by rfl) (hi : n.N[i]? = some sn := by rfl) (hv : n.V.contains i = true := by rfl) (hj : n.GN[j]? = some nm := by rfl)
    (he : starEach (.Name sn p1 :: [.Constant (.int (m : Int)) jj q1]) X.env = (false, eval (.Name sn p1) X.env) :: starEach [.Constant (.int (m : Int)) jj q1] X.env := by exact se_c rfl) (he2 : starEach [.Constant (.int (m : Int)) jj q1] X.env = (false, eval (.Constant (.int (m : Int)) jj q1) X.env) :: starEach [] X.env := by exact se_c rfl) (hpl : (backTo pos (starEach [.Constant (.int (m : Int)) jj q1] X.env)).any (·.1) = false := by rfl) : WE X n c Γ (.Call (.Name nm p) [.Name sn p1, .Constant (.int (m : Int)) jj q1] [] pos) Post :=
  we_take hc j i (we_of ev_int ⟨rfl, m, rfl, h0, (show Bt 64 (m : Int) by unfold Bt; omega).mono (by decide), h⟩) hg hi hv hj he he2 hpl
theorem bt64 {m : Nat} (h : m < 2 ^ 64) : Bt 8000 (m : Int) := (show Bt 64 (m : Int) by unfold Bt; omega).mono (by decide)
/-- a draw out of a list or tuple -/
theorem we_pickK {Post : D → SL → Prop} (hc : CalF X n.k nm ST_pick) (j i : Nat) (h : WK X n c Γ e fun k Γ1 => Γ1 = Γ ∧ i ∉ readIx [k] ∧ ∃ x m, pars Γ [k] = some [.w x] ∧ ownIx [k] = [] ∧ x.len = some m ∧ (∀ z, x = .str z → z.length ≤ sizeLine) ∧ 0 < m ∧ m < 2 ^ 64 ∧ (∀ k : Nat, k < m → ∃ y, x.at k = some y) ∧ ∀ (k : Nat) y, k < m → x.at k = some y → Post y Γ)
    (hg : Γ[i]? = some (.own .sto) := by rfl) (hi : n.N[i]? = some sn := by rfl) (hv : n.V.contains i = true := by rfl) (hj : n.GN[j]? = some nm := by rfl)
    (he : starEach (.Name sn p1 :: [e]) X.env = (false, eval (.Name sn p1) X.env) :: starEach [e] X.env := by exact se_c rfl) (he2 : starEach [e] X.env = (false, eval e X.env) :: starEach [] X.env := by exact se_c rfl) (hpl : (backTo pos (starEach [e] X.env)).any (·.1) = false := by exact se_any rfl) : WE X n c Γ (.Call (.Name nm p) [.Name sn p1, e] [] pos) Post :=
  we_sto hc j i (wa_cons (h.mono fun k Γ1 ⟨e1, hr, x, m, h1, h2, h3, h4, h5, h6, h7, h8⟩ => by
    subst e1
    exact wa_nil ⟨rfl, [.w x], h1, h2, hr, fun Q q => ⟨x, m, rfl, h3, h4, h5, h6, h7, fun k y hk hy => q _ ⟨_, rfl, h8 k y hk hy⟩⟩⟩) he2) hg hi hv hj he hpl
/-- .. a written list -/
theorem we_pick {Post : D → SL → Prop} (hc : CalF X n.k nm ST_pick) (j i : Nat) (h : WE X n c Γ e fun x Γ1 => Γ1 = Γ ∧ ∃ ds, x = .lst ds ∧ ds ≠ [] ∧ ds.length < 2 ^ 64 ∧ ∀ y ∈ ds, Post y Γ)
    (hg : Γ[i]? = some (.own .sto) := by rfl) (hi : n.N[i]? = some sn := by rfl) (hv : n.V.contains i = true := by rfl) (hj : n.GN[j]? = some nm := by rfl)
    (he : starEach (.Name sn p1 :: [e]) X.env = (false, eval (.Name sn p1) X.env) :: starEach [e] X.env := by exact se_c rfl) (he2 : starEach [e] X.env = (false, eval e X.env) :: starEach [] X.env := by exact se_c rfl) (hpl : (backTo pos (starEach [e] X.env)).any (·.1) = false := by exact se_any rfl) : WE X n c Γ (.Call (.Name nm p) [.Name sn p1, e] [] pos) Post :=
  we_pickK hc j i (wk_v (h.mono fun x Γ1 ⟨e1, ds, e2, h1, h2, h3⟩ => by
    subst e2
    refine ⟨e1, by simp [readIx], .lst ds, ds.length, rfl, rfl, rfl, fun z e => (by cases e), List.length_pos_iff.mpr h1, h2, fun k hk => ⟨_, at_lst (List.getElem?_eq_getElem hk)⟩, fun k y hk hy => ?_⟩
    rw [at_lst (List.getElem?_eq_getElem hk)] at hy
    cases hy
    exact h3 _ (List.getElem_mem hk))) hg hi hv hj he he2 hpl
/-- .. a list in a slot -/
theorem we_pickS {Post : D → SL → Prop} {s2 : Slot} {ds : List D} {q1 : Pos} {tn : Str} (hc : CalF X n.k nm ST_pick) (j i l : Nat) (hs : Γ[l]? = some s2) (hd : s2.data = some (.lst ds)) (hil : l ≠ i) (h1 : ds ≠ []) (h2 : ds.length < 2 ^ 64) (h3 : ∀ y ∈ ds, Post y Γ) (hv2 : s2.set = true := by rfl) (hns : ∀ ns, s2 ≠ .sc ns := by intro _ z; cases z)
    (hl : n.N[l]? = some tn := by rfl) (hvl : n.V.contains l = true := by rfl)
    (hg : Γ[i]? = some (.own .sto) := by rfl) (hi : n.N[i]? = some sn := by rfl) (hv : n.V.contains i = true := by rfl) (hj : n.GN[j]? = some nm := by rfl)
    (he : starEach (.Name sn p1 :: [.Name tn q1]) X.env = (false, eval (.Name sn p1) X.env) :: starEach [.Name tn q1] X.env := by exact se_c rfl) (he2 : starEach [.Name tn q1] X.env = (false, eval (.Name tn q1) X.env) :: starEach [] X.env := by exact se_c rfl) (hpl : (backTo pos (starEach [.Name tn q1] X.env)).any (·.1) = false := by exact se_any rfl) : WE X n c Γ (.Call (.Name nm p) [.Name sn p1, .Name tn q1] [] pos) Post :=
  we_pickK hc j i (wk_ek (ek_s l hs hv2 hl hvl) ⟨rfl, by simp [readIx]; exact fun z => hil z.symm, .lst ds, ds.length, by
    show (match AK.par Γ (.s l), some [] with | some x, some xs => some (x :: xs) | _, _ => none) = _
    simp only [AK.par, hs]
    cases s2 with
    | sc ns => exact absurd rfl (hns ns)
    | _ => rw [hd]; rfl, rfl, rfl, fun z e => (by cases e), List.length_pos_iff.mpr h1, h2, fun k hk => ⟨_, at_lst (List.getElem?_eq_getElem hk)⟩, fun k y hk hy => by
    rw [at_lst (List.getElem?_eq_getElem hk)] at hy
    cases hy
    exact h3 _ (List.getElem_mem hk)⟩) hg hi hv hj he he2 hpl
end
end DL

end
section
set_option Elab.async false
set_option linter.all false
set_option autoImplicit true
set_option maxRecDepth 10000
set_option maxHeartbeats 400000
namespace DL
open PySem L2
/-! ### plain things: free of dicts, of so much depth -/
def D.pl : Nat → D → Prop
  | _, .non => True
  | _, .bl _ => True
  | _, .int _ => True
  | _, .str _ => True
  | k + 1, .lst ds => ds.length ≤ 100000 ∧ ∀ d ∈ ds, D.pl k d
  | k + 1, .tup ds => ds.length ≤ 100000 ∧ ∀ d ∈ ds, D.pl k d
  | _, _ => False
theorem D.pl.mono : ∀ {j k : Nat} {d : D}, j ≤ k → D.pl j d → D.pl k d
  | j, k, .non, _, _ => by cases k <;> trivial
  | j, k, .bl _, _, _ => by cases k <;> trivial
  | j, k, .int _, _, _ => by cases k <;> trivial
  | j, k, .str _, _, _ => by cases k <;> trivial
  | 0, k, .lst _, _, h => h.elim
  | 0, k, .tup _, _, h => h.elim
  | j, k, .dic _, _, h => by cases j <;> exact h.elim
  | j, k, .ins _ _, _, h => by cases j <;> exact h.elim
  | j + 1, 0, .lst ds, e, h => by omega
  | j + 1, 0, .tup ds, e, h => by omega
  | j + 1, k + 1, .lst ds, e, h => ⟨h.1, fun d hd => D.pl.mono (Nat.le_of_succ_le_succ e) (h.2 d hd)⟩
  | j + 1, k + 1, .tup ds, e, h => ⟨h.1, fun d hd => D.pl.mono (Nat.le_of_succ_le_succ e) (h.2 d hd)⟩
/-! ### texts, compared -/
theorem Wk.strV {K : PySem.W.Frag} {R H : Hp} {x : Str} {v : V} : Wk K R H (.str x) v → v = .str x
  | .inl h => h
  | .inr (.inl ⟨a, vs, es, h1, h2, h3, h4, h5⟩) => by cases h2
  | .inr (.inr (.inl ⟨a, vs, es, h1, h2, h3, h4, h5⟩)) => by cases h2
  | .inr (.inr (.inr ⟨a, dx, ws, nm, fs, h1, h2, _⟩)) => by cases h2
section
variable {X : Cx} {n : Nm} {c : Cc} {Γ : SL} {a b : Expr} {pos : Pos} {k l : AK} {u w : Str}
theorem dop_eqS : DOp X n c (compareOp .Eq) (fun x y Post => ∃ u b : Str, x = .str u ∧ y = .str b ∧ Post (.bl (decide (u = b)))) := fun _ => ⟨_, op_eq, fun Γ σ R H x y v w Post s hx hy ⟨u, b, e1, e2, p⟩ Q q => by
  subst e1 e2
  cases hx.strV; cases hy.strV
  exact ⟨rfl, q _ R H _ s (Ex.refl _) (by simp [Rp]) p⟩⟩
theorem dop_neS : DOp X n c (compareOp .NotEq) (fun x y Post => ∃ u b : Str, x = .str u ∧ y = .str b ∧ Post (.bl (!decide (u = b)))) := fun _ => ⟨_, op_ne, fun Γ σ R H x y v w Post s hx hy ⟨u, b, e1, e2, p⟩ Q q => by
  subst e1 e2
  cases hx.strV; cases hy.strV
  exact ⟨rfl, q _ R H _ s (Ex.refl _) (by simp [Rp]) p⟩⟩
theorem ev_eqS (ha : EK X n c Γ a k) (hb : EK X n c Γ b l) (ga : k.get Γ = some (.str u) := by rfl) (gb : l.get Γ = some (.str w) := by rfl) : EV X n c Γ (.Compare a [.Eq] [b] pos) (.bl (decide (u = w))) := ev_cmp dop_eqS ha hb (fun _ p => ⟨u, w, rfl, rfl, p⟩) ga gb (nomark _)
theorem et_eqS (ha : EK X n c Γ a k) (hb : EK X n c Γ b l) (ga : k.get Γ = some (.str u) := by rfl) (gb : l.get Γ = some (.str w) := by rfl) : ET X n c Γ (.Compare a [.Eq] [b] pos) (decide (u = w)) := et_cmp dop_eqS ha hb (fun _ p => ⟨u, w, rfl, rfl, p⟩) ga gb (nomark _)
theorem et_neS (ha : EK X n c Γ a k) (hb : EK X n c Γ b l) (ga : k.get Γ = some (.str u) := by rfl) (gb : l.get Γ = some (.str w) := by rfl) : ET X n c Γ (.Compare a [.NotEq] [b] pos) (!decide (u = w)) := et_cmp dop_neS ha hb (fun _ p => ⟨u, w, rfl, rfl, p⟩) ga gb (nomark _)
end
def D.isI : D → Bool
  | .int _ => true
  | _ => false
theorem isI_ty (x : D) : (tyB x.ty "int" && !tyB x.ty "bool") = x.isI := by cases x <;> simp [tyB, D.ty, D.isI]
def ST_isint : Sg := fun ps Post => ∃ x, ps = [.w x] ∧ Post (.d (.bl x.isI)) []
def ST_same (k : Nat) : Sg := fun ps Post => ∃ v d, ps = [.w v, .w d] ∧ d.pl k ∧ ∀ b : Bool, (b = true ↔ v = d) → Post (.d (.bl b)) []
def ST_copy (k : Nat) : Sg := fun ps Post => ∃ x, ps = [.w x] ∧ x.pl k ∧ (∀ ds, x = .lst ds → Post (.own (.lst ds)) []) ∧ ((∀ ds, x ≠ .lst ds) → Post (.d x) [])
theorem atB {α : Type} {xs : List α} {i : Nat} (h : i < xs.length) : xs[i]? = some xs[i] := List.getElem?_eq_getElem h
theorem take_succ {α : Type} {xs ys : List α} {i : Nat} (h : xs.take i = ys.take i) (e : xs[i]? = ys[i]?) : xs.take (i + 1) = ys.take (i + 1) := by
  rw [List.take_succ, List.take_succ, h, e]
theorem ty_non {x : D} (h : x.isN = true) : x = .non := by cases x <;> first | rfl | cases h
theorem ty_bool {x : D} (h : tyB x.ty "bool" = true) : ∃ b, x = .bl b := by cases x <;> simp [tyB, D.ty] at h ⊢
theorem ty_int {x : D} (h : tyB x.ty "int" = true) (h2 : tyB x.ty "bool" = false) : ∃ b, x = .int b := by cases x <;> simp [tyB, D.ty] at h h2 ⊢
theorem ty_str {x : D} (h : tyB x.ty "str" = true) : ∃ b, x = .str b := by cases x <;> simp [tyB, D.ty] at h ⊢
theorem ty_dict {x : D} (h : tyB x.ty "dict" = true) : ∃ b, x = .dic b := by cases x <;> simp [tyB, D.ty] at h ⊢
theorem ty_list {x : D} (h : tyB x.ty "list" = true) : ∃ b, x = .lst b := by cases x <;> simp [tyB, D.ty] at h ⊢
theorem ty_tuple {x : D} (h : tyB x.ty "tuple" = true) : ∃ b, x = .tup b := by cases x <;> simp [tyB, D.ty] at h ⊢
theorem isI_of {x : D} (h : x.isI = true) : ∃ b, x = .int b := by cases x <;> simp [D.isI] at h ⊢
theorem ScOk.k {sc : Scope} {n : Nm} (h : ScOk sc n) (k : Nat) : ScOk sc { n with k := k } := ⟨h.1, h.2, h.3, h.4, h.5, h.6⟩
/-- two lists or two tuples side by side -/
theorem same_seq {v d : D} (h1 : d.isN = false) (h2 : tyB d.ty "bool" = false) (h3 : tyB d.ty "int" = false) (h4 : tyB d.ty "str" = false) (h5 : tyB d.ty "dict" = false) (h6 : (tyB d.ty "list" && !tyB v.ty "list") = false) (h7 : (tyB d.ty "tuple" && !tyB v.ty "tuple") = false) {jp : Nat} (h8 : D.pl jp d) :
    ∃ vs ds : List D, (v = d ↔ vs = ds) ∧ v.len = some vs.length ∧ d.len = some ds.length ∧ (∀ z, v ≠ .str z) ∧ (∀ z, d ≠ .str z) ∧ (∀ (k : Nat) y, vs[k]? = some y → v.at (k : Int) = some y) ∧ (∀ (k : Nat) y, ds[k]? = some y → d.at (k : Int) = some y) ∧ (∀ k, d.pl (k + 1) → ds.length ≤ 100000 ∧ ∀ y ∈ ds, y.pl k) ∧ (¬ d.pl 0) := by
  cases d with
  | lst ds =>
    have : tyB v.ty "list" = true := by simpa [tyB, D.ty] using h6
    obtain ⟨vs, rfl⟩ := ty_list this
    exact ⟨vs, ds, by simp, rfl, rfl, (fun z e => by cases e), (fun z e => by cases e), fun k y h => at_lst h, fun k y h => at_lst h, fun k h => h, fun h => h⟩
  | tup ds =>
    have : tyB v.ty "tuple" = true := by simpa [tyB, D.ty] using h7
    obtain ⟨vs, rfl⟩ := ty_tuple this
    exact ⟨vs, ds, by simp, rfl, rfl, (fun z e => by cases e), (fun z e => by cases e), fun k y h => at_tup h, fun k y h => at_tup h, fun k h => h, fun h => h⟩
  | ins _ _ => cases jp <;> exact absurd h8 id
  | _ => simp [tyB, D.ty, D.isN] at h1 h2 h3 h4 h5
/-! numbers: a fraction's parts, its signs -/
def D.isF : D → Bool
  | .tup [.int n, .int d] => decide (0 < d) && decide (Int.gcd n d = 1)
  | _ => false
theorem isF_q (q : Rat) : (qD q).isF = true := by
  have h := q.reduced
  simp only [qD, D.isF, Bool.and_eq_true, decide_eq_true_eq]
  exact ⟨den_pos' q, by simpa [Int.gcd, Nat.Coprime] using h⟩
theorem fr_eq {n d : Int} (h : d ≠ 0) : (fr n d).num = d.sign * n / (Int.gcd d n : Nat) ∧ (fr n d).den = d.natAbs / Int.gcd d n := by
  unfold fr
  rw [Rat.num_divInt, Rat.den_divInt, if_neg h]
  exact ⟨rfl, rfl⟩
theorem frac_div {n d : Int} (h : d ≠ 0) : n.fdiv (if d < 0 then 0 - (Int.gcd n d : Nat) else (Int.gcd n d : Nat)) = (fr n d).num ∧ d.fdiv (if d < 0 then 0 - (Int.gcd n d : Nat) else (Int.gcd n d : Nat)) = ((fr n d).den : Int) := by
  obtain ⟨e1, e2⟩ := fr_eq (n := n) h
  rw [e1, e2, Int.gcd_comm d n]
  have g0 : Int.gcd n d ≠ 0 := fun z => h (Int.gcd_eq_zero_iff.mp z).2
  have d1 : ((Int.gcd n d : Nat) : Int) ∣ n := Int.gcd_dvd_left ..
  have d2 : ((Int.gcd n d : Nat) : Int) ∣ d := Int.gcd_dvd_right ..
  have e3 : ((d.natAbs / Int.gcd n d : Nat) : Int) = (d.natAbs : Int) / ((Int.gcd n d : Nat) : Int) := Int.natCast_ediv _ _
  rw [e3]
  split
  · rename_i hd
    rw [Int.sign_eq_neg_one_of_neg hd, Int.zero_sub, Int.fdiv_eq_ediv_of_dvd (Int.neg_dvd.mpr d1), Int.fdiv_eq_ediv_of_dvd (Int.neg_dvd.mpr d2), Int.ediv_neg, Int.ediv_neg, show (-1 : Int) * n = -n by omega, Int.neg_ediv_of_dvd d1, show ((d.natAbs : Nat) : Int) = -d by omega, Int.neg_ediv_of_dvd d2]
    exact ⟨rfl, rfl⟩
  · rename_i hd
    rw [Int.sign_eq_one_of_pos (by omega), Int.fdiv_eq_ediv_of_dvd d1, Int.fdiv_eq_ediv_of_dvd d2, Int.one_mul, show ((d.natAbs : Nat) : Int) = d by omega]
    exact ⟨rfl, rfl⟩
theorem fr_zero (n : Int) : fr n 0 = 0 := Rat.divInt_zero n
def ST_frac : Sg := fun ps Post => ∃ n d : Int, ps = [.d (.int n), .d (.int d)] ∧ Bt 80000 n ∧ Bt 8000 d ∧ Post (.d (qD (fr n d))) []
def ST_2 (f : Rat → Rat → Rat) : Sg := fun ps Post => ∃ (a b : Rat) (j k : Nat), ps = [.w (qD a), .w (qD b)] ∧ Sz j a ∧ Sz k b ∧ j + k ≤ 7900 ∧ Post (.d (qD (f a b))) []
def ST_below : Sg := fun ps Post => ∃ (a b : Rat) (j k : Nat), ps = [.w (qD a), .w (qD b)] ∧ Sz j a ∧ Sz k b ∧ j + k ≤ 7900 ∧ Post (.d (.bl (decide (a < b)))) []
/-- the law's own fraction test, of a pair of numbers -/
def ST_isfrac : Sg := fun ps Post => ∃ x, ps = [.w x] ∧ (∃ (q : Rat), x = qD q ∧ Sz 7900 q) ∧ Post (.d (.bl true)) []
theorem fr_add (a b : Rat) : fr (a.num * (b.den : Int) + b.num * (a.den : Int)) ((a.den : Int) * (b.den : Int)) = a + b := by
  unfold fr
  conv => rhs; rw [← Rat.num_divInt_den a, ← Rat.num_divInt_den b]
  rw [Rat.divInt_add_divInt _ _ (by have := den_pos' a; omega) (by have := den_pos' b; omega)]
theorem fr_sub (a b : Rat) : fr (a.num * (b.den : Int) - b.num * (a.den : Int)) ((a.den : Int) * (b.den : Int)) = a - b := by
  unfold fr
  conv => rhs; rw [← Rat.num_divInt_den a, ← Rat.num_divInt_den b]
  rw [Rat.divInt_sub_divInt _ _ (by have := den_pos' a; omega) (by have := den_pos' b; omega)]
theorem fr_mul (a b : Rat) : fr (a.num * b.num) ((a.den : Int) * (b.den : Int)) = a * b := by
  unfold fr
  conv => rhs; rw [← Rat.num_divInt_den a, ← Rat.num_divInt_den b]
  rw [Rat.divInt_mul_divInt _ _]
theorem fr_gt0 {n d : Int} (hn : 0 < n) (hd : 0 < d) : 0 < fr n d := by
  obtain ⟨m, rfl⟩ := Int.eq_ofNat_of_zero_le (Int.le_of_lt hd)
  rw [Rat.lt_iff_le_and_ne]
  refine ⟨(Rat.divInt_nonneg_iff_of_pos_right hd).mpr (by omega), fun z => ?_⟩
  have z' : fr n (m : Int) = 0 := z.symm
  have : (fr n (m : Int)).num = 0 := by rw [z']; rfl
  obtain ⟨e1, _⟩ := fr_eq (n := n) (d := (m : Int)) (by omega)
  rw [e1, Int.sign_eq_one_of_pos hd, Int.one_mul] at this
  have d1 : ((Int.gcd (m : Int) n : Nat) : Int) ∣ n := Int.gcd_dvd_right ..
  have h3 := Int.ediv_mul_cancel d1
  rw [this, Int.zero_mul] at h3
  omega
theorem qD_fr {n d : Int} (hd : 0 < d) (h : Int.gcd d n = 1) : D.tup [.int n, .int d] = qD (fr n d) := by
  obtain ⟨e1, e2⟩ := fr_eq (n := n) (d := d) (by omega)
  rw [h] at e1 e2
  rw [Int.sign_eq_one_of_pos hd, Int.one_mul] at e1
  have e1' : (fr n d).num = n := by rw [e1]; simp
  have e2' : ((fr n d).den : Int) = d := by rw [e2]; simp; omega
  rw [qD, e1', e2']
theorem qD_one (n : Int) : D.tup [.int n, .int 1] = qD (fr n 1) := qD_fr (by decide) (by simp)
theorem fr_one (n : Int) : fr n 1 = (n : Rat) := by
  have := Rat.num_divInt_den (n : Rat)
  simpa [fr] using this
section
variable {X : Cx} {n : Nm} {c : Cc} {Γ : SL} {e a b d : Expr} {x y z : D} {pos p p1 : Pos} {nm sn : Str} {S : Sg} {es : List Expr}
theorem we_add {Post : D → SL → Prop} (h : WE X n c Γ a fun x Γ1 => ∃ i, x = .int i ∧ WE X n c Γ1 b fun y Γ2 => ∃ j, y = .int j ∧ Post (.int (i + j)) Γ2) : WE X n c Γ (.BinOp a .Add b pos) Post :=
  we_bin dop_add (wk_e (h.mono fun x Γ1 ⟨i, e1, h1⟩ => wk_e (h1.mono fun y Γ2 ⟨j, e2, h2⟩ => ⟨x, y, rfl, rfl, i, j, e1, e2, trivial, h2⟩)))
theorem we_sub {Post : D → SL → Prop} (h : WE X n c Γ a fun x Γ1 => ∃ i, x = .int i ∧ WE X n c Γ1 b fun y Γ2 => ∃ j, y = .int j ∧ Post (.int (i - j)) Γ2) : WE X n c Γ (.BinOp a .Sub b pos) Post :=
  we_bin dop_sub (wk_e (h.mono fun x Γ1 ⟨i, e1, h1⟩ => wk_e (h1.mono fun y Γ2 ⟨j, e2, h2⟩ => ⟨x, y, rfl, rfl, i, j, e1, e2, trivial, h2⟩)))
/-- c + a draw -/
theorem we_addL {Post : D → SL → Prop} {i : Int} (ha : EV X n c Γ a (.int i)) (h : WE X n c Γ b fun y Γ2 => ∃ j, y = .int j ∧ Post (.int (i + j)) Γ2) : WE X n c Γ (.BinOp a .Add b pos) Post := we_add (we_of ha ⟨i, rfl, h⟩)
/-- a draw - c -/
theorem we_subR {Post : D → SL → Prop} {i : Int} (h : WE X n c Γ a fun x Γ1 => Γ1 = Γ ∧ ∃ j, x = .int j ∧ Post (.int (j - i)) Γ) (hb : EV X n c Γ b (.int i)) : WE X n c Γ (.BinOp a .Sub b pos) Post := we_sub (h.mono fun x Γ1 ⟨e1, j, e2, h2⟩ => ⟨j, e2, by subst e1; exact we_of hb ⟨i, rfl, h2⟩⟩)
theorem we_call2 {Post : D → SL → Prop} (hc : CalF X n.k nm S) (j : Nat) (h : WE X n c Γ a fun x Γ1 => WE X n c Γ1 b fun y Γ2 => S [.d x, .d y] fun r os => ∃ z, r.data = some z ∧ Post z Γ2) (hj : n.GN[j]? = some nm := by rfl)
    (he : starEach [a, b] X.env = (false, eval a X.env) :: starEach [b] X.env := by exact se_c rfl) (he2 : starEach [b] X.env = (false, eval b X.env) :: starEach [] X.env := by exact se_c rfl) (hpl : (backTo pos (starEach [b] X.env)).any (·.1) = false := by exact se_any rfl) : WE X n c Γ (.Call (.Name nm p) [a, b] [] pos) Post :=
  we_call hc j (wa_cons (wk_e (h.mono fun x Γ1 h1 => wa_cons (wk_e (h1.mono fun y Γ2 h2 => wa_nil ⟨[.d x, .d y], rfl, List.nodup_nil, by simp [readIx], h2⟩)) he2)) he) hj he hpl
theorem we_call2v {Post : D → SL → Prop} (hc : CalF X n.k nm S) (j : Nat) (h : WE X n c Γ a fun x Γ1 => WE X n c Γ1 b fun y Γ2 => S [.w x, .w y] fun r os => ∃ z, r.data = some z ∧ Post z Γ2) (hj : n.GN[j]? = some nm := by rfl)
    (he : starEach [a, b] X.env = (false, eval a X.env) :: starEach [b] X.env := by exact se_c rfl) (he2 : starEach [b] X.env = (false, eval b X.env) :: starEach [] X.env := by exact se_c rfl) (hpl : (backTo pos (starEach [b] X.env)).any (·.1) = false := by exact se_any rfl) : WE X n c Γ (.Call (.Name nm p) [a, b] [] pos) Post :=
  we_call hc j (wa_cons (wk_v (h.mono fun x Γ1 h1 => wa_cons (wk_v (h1.mono fun y Γ2 h2 => wa_nil ⟨[.w x, .w y], rfl, List.nodup_nil, by simp [readIx], h2⟩)) he2)) he) hj he hpl
/-- a written fraction -/
theorem ev_tup2 {i j : Int} {x1} (ha : EV X n c Γ a (.int i)) (hb : EV X n c Γ b (.int j)) (he : starEach [a, b] X.env = (false, eval a X.env) :: starEach [b] X.env := by exact se_c rfl) (he2 : starEach [b] X.env = (false, eval b X.env) :: starEach [] X.env := by exact se_c rfl) : EV X n c Γ (.Tuple [a, b] x1 pos) (.tup [.int i, .int j]) := ev_tup (ea_cons (ek_d ha) (ea_cons (ek_d hb) ea_nil he2) he)
theorem ev_q {i j : Int} {x1} (ha : EV X n c Γ a (.int i)) (hb : EV X n c Γ b (.int j)) (hd : 0 < j := by decide) (hg : Int.gcd j i = 1 := by decide) (he : starEach [a, b] X.env = (false, eval a X.env) :: starEach [b] X.env := by exact se_c rfl) (he2 : starEach [b] X.env = (false, eval b X.env) :: starEach [] X.env := by exact se_c rfl) : EV X n c Γ (.Tuple [a, b] x1 pos) (qD (fr i j)) := by
  rw [← qD_fr hd hg]
  exact ev_tup2 ha hb he he2
end
def ST_ratio : Sg := fun ps Post => ∃ top : Int, ps = [.own .sto, .d (.int top)] ∧ 1 ≤ top ∧ top < 2 ^ 40 ∧ ∀ q, Sz 41 q → Post (.d (qD q)) [.sto]
def ST_draw (P : Rat → Prop) : Sg := fun ps Post => ps = [.own .sto] ∧ ∀ q, P q → Post (.d (qD q)) [.sto]
theorem bt_of {k : Nat} {i : Int} (h1 : -(2 ^ k : Int) < i) (h2 : i < (2 ^ k : Int)) : Bt k i := by
  unfold Bt
  have e : ((2 ^ k : Nat) : Int) = (2 : Int) ^ k := by simp
  omega
section
variable {X : Cx} {n : Nm} {c : Cc} {Γ : SL} {e a b d : Expr} {pos p p1 : Pos} {nm sn : Str} {S : Sg}
theorem we_draw {Post : D → SL → Prop} {P : Rat → Prop} (hc : CalF X n.k nm (ST_draw P)) (j i : Nat) (h : ∀ q, P q → Post (qD q) Γ)
    (hg : Γ[i]? = some (.own .sto) := by rfl) (hi : n.N[i]? = some sn := by rfl) (hv : n.V.contains i = true := by rfl) (hj : n.GN[j]? = some nm := by rfl)
    (he : starEach (.Name sn p1 :: []) X.env = (false, eval (.Name sn p1) X.env) :: starEach [] X.env := by exact se_c rfl) (hpl : (backTo pos (starEach [] X.env)).any (·.1) = false := by exact se_any rfl) : WE X n c Γ (.Call (.Name nm p) [.Name sn p1] [] pos) Post :=
  we_st0 hc j i (fun Q q => ⟨rfl, fun r hr => q _ ⟨_, rfl, h r hr⟩⟩) hg hi hv hj he hpl
theorem we_ratio {Post : D → SL → Prop} {top : Int} (hc : CalF X n.k nm ST_ratio) (j i : Nat) (ha : EV X n c Γ e (.int top)) (h1 : 1 ≤ top) (h2 : top < 2 ^ 40) (h : ∀ q, Sz 41 q → Post (qD q) Γ)
    (hg : Γ[i]? = some (.own .sto) := by rfl) (hi : n.N[i]? = some sn := by rfl) (hv : n.V.contains i = true := by rfl) (hj : n.GN[j]? = some nm := by rfl)
    (he : starEach (.Name sn p1 :: [e]) X.env = (false, eval (.Name sn p1) X.env) :: starEach [e] X.env := by exact se_c rfl) (he2 : starEach [e] X.env = (false, eval e X.env) :: starEach [] X.env := by exact se_c rfl) (hpl : (backTo pos (starEach [e] X.env)).any (·.1) = false := by exact se_any rfl) : WE X n c Γ (.Call (.Name nm p) [.Name sn p1, e] [] pos) Post :=
  we_st1 hc j i (we_of ha ⟨rfl, fun Q q => ⟨top, rfl, h1, h2, fun r hr => q _ ⟨_, rfl, h r hr⟩⟩⟩) hg hi hv hj he he2 hpl
end
section
variable {X : Cx} {n : Nm} {c : Cc} {Γ : SL} {e a b d : Expr} {pos p p1 : Pos} {nm sn : Str} {S : Sg} {x : D}
/-- a name whose thing can not be changed by anyone -/
def D.fix : D → Bool
  | .lst _ => false
  | .dic _ => false
  | .ins _ _ => false
  | _ => true
theorem ev_fix (i : Nat) {sl : Slot} (hg : Γ[i]? = some sl := by rfl) (hs : sl.data = some x := by rfl) (hf : x.fix = true := by rfl) (hi : n.N[i]? = some nm := by rfl) (hv : n.V.contains i = true := by rfl) : EV X n c Γ (.Name nm pos) x := .mk fun hn σ R H s Q q => by
  obtain ⟨h1, h2⟩ := hn.dbg i nm hi
  refine (pe_var (i := i) (by rw [hn.eq]; exact hi) (hn.vis i nm hv hi) h1 h2).w ?_
  obtain ⟨o, e1, h⟩ := s.sl i _ hg
  obtain ⟨v, e2, r⟩ := h.wk hs
  subst e2
  refine ⟨v, e1, q v R H x Γ s (Ex.refl _) ?_ ⟨rfl, rfl⟩⟩
  rcases r with r | ⟨a, vs, es, h3, h4, _⟩ | ⟨a, vs, es, h3, h4, _⟩ | ⟨a, dx, vs, ns, es, h3, h4, _⟩
  · exact r
  · subst h4; cases hf
  · subst h4; cases hf
  · subst h4; cases hf
end
/-! ### courses -/
abbrev Pc := Rat × Rat × Rat
abbrev pD (p : Pc) : D := .tup [qD p.1, qD p.2.1, qD p.2.2]
abbrev cD (c : List Pc) : D := .lst (c.map pD)
def pline (p : Pc) (t : Rat) : Rat := p.2.1 + p.2.2 * (t - p.1)
/-- sizes of a course: starts, readings, paces -/
def Cz (s t r : Nat) (c : List Pc) : Prop := ∀ p ∈ c, Sz s p.1 ∧ Sz t p.2.1 ∧ Sz r p.2.2
theorem cD_at {c : List Pc} {i : Nat} {p : Pc} (h : c[i]? = some p) : (cD c).at (i : Int) = some (pD p) := at_lst (by rw [List.getElem?_map, h]; rfl)
theorem pD_0 (p : Pc) : (pD p).at 0 = some (qD p.1) := rfl
theorem pD_1 (p : Pc) : (pD p).at 1 = some (qD p.2.1) := rfl
theorem pD_2 (p : Pc) : (pD p).at 2 = some (qD p.2.2) := rfl
end DL

end
section
set_option Elab.async false
set_option linter.all false
set_option autoImplicit true
set_option maxRecDepth 10000
set_option maxHeartbeats 400000
namespace DL
open PySem L2
section
variable {X : Cx} {n : Nm} {c : Cc} {Γ : SL} {e a b d : Expr} {pos p p1 ap pos2 : Pos} {nm sn : Str} {S : Sg} {x : D} {De : DE}
theorem ws_append (i : Nat) {ob : OB} (h : WE X n c Γ e fun x Γ' => ∃ ds, Γ'[i]? = some (.own (.lst ds)) ∧ ds.length < 1000000 ∧ De.nx (Γ'.set i (.own (.lst (ds ++ [x]))))) (hg : Γ[i]? = some (.own ob) := by rfl) (hL : ob.isL = true := by rfl) (hi : n.N[i]? = some nm := by rfl) (hv : n.V.contains i = true := by rfl)
    (hbase : attributeBase (.Name nm p) "append" X.env (eval (.Name nm p) X.env) = eval (.Name nm p) X.env := by rfl)
    (hline : (ap.endLine == pos.line) = true := by rfl) (hst : isStar e = false := by rfl)
    (hs : swapsWith (.Call (.Attribute (.Name nm p) "append" ap) [e] [] pos) none pos2.line X.env = pure false := by rfl) : WS X n c Γ (.Expr (.Call (.Attribute (.Name nm p) "append" ap) [e] [] pos) pos2) De :=
  ws_expr (we_meth i dm_append PySem.F.plainAttrs_list PySem.F.slot_list_append PySem.F.type_list_append (wa_cons (wk_e (h.mono fun x Γ' ⟨ds, h1, h2, h3⟩ => wa_nil ⟨[x], ds, rfl, h1, x, rfl, h2, h3⟩)) (se_c hst)) hg hL hi hv hbase (by rw [se_c hst]; rfl) hline (se_c hst) rfl) hs
theorem ws_insert (i : Nat) {ob : OB} (h : WE X n c Γ a fun y Γ1 => ∃ j : Nat, y = .int (j : Int) ∧ j < 2 ^ 62 ∧ WE X n c Γ1 e fun x Γ' => ∃ ds, Γ'[i]? = some (.own (.lst ds)) ∧ ds.length < 1000000 ∧ De.nx (Γ'.set i (.own (.lst (ds.take j ++ [x] ++ ds.drop j))))) (hg : Γ[i]? = some (.own ob) := by rfl) (hL : ob.isL = true := by rfl) (hi : n.N[i]? = some nm := by rfl) (hv : n.V.contains i = true := by rfl)
    (hbase : attributeBase (.Name nm p) "insert" X.env (eval (.Name nm p) X.env) = eval (.Name nm p) X.env := by rfl)
    (hline : (ap.endLine == pos.line) = true := by rfl) (hst : isStar a = false := by rfl) (hst2 : isStar e = false := by rfl)
    (hs : swapsWith (.Call (.Attribute (.Name nm p) "insert" ap) [a, e] [] pos) none pos2.line X.env = pure false := by rfl) : WS X n c Γ (.Expr (.Call (.Attribute (.Name nm p) "insert" ap) [a, e] [] pos) pos2) De :=
  ws_expr (we_meth i dm_insert PySem.F.plainAttrs_list PySem.F.slot_list_insert PySem.F.type_list_insert (wa_cons (wk_e (h.mono fun y Γ1 ⟨j, e1, hj, h1⟩ => wa_cons (wk_e (h1.mono fun x Γ' ⟨ds, h1, h2, h3⟩ => wa_nil ⟨[y, x], ds, rfl, h1, j, x, by rw [e1], by omega, by omega, h2, h3⟩)) (se_c hst2))) (se_c hst)) hg hL hi hv hbase (by rw [se_c hst, se_c hst2]; rfl) hline (se_c hst) (by rw [se_c hst2]; rfl)) hs
end
theorem own2 {A : Slot} {r : SL} {x y : List D} (h : x = y) : (A :: Slot.own (.lst x) :: r) = A :: Slot.own (.lst y) :: r := by rw [h]
theorem scC_k {sc : Scope} {n : Nm} (k : Nat) (h : scC sc { n with k := k } = true) : scC sc n = true := h
/-! ### pieces side by side -/
def prs : List Pc → List (Pc × Pc)
  | p :: q :: r => (p, q) :: prs (q :: r)
  | _ => []
theorem prs_len : ∀ c : List Pc, (prs c).length = c.length - 1
  | [] => rfl
  | [_] => rfl
  | p :: q :: r => by simp [prs, prs_len (q :: r)]
theorem prs_at : ∀ {c : List Pc} {i : Nat} {p q : Pc}, c[i]? = some p → c[i + 1]? = some q → (prs c)[i]? = some (p, q)
  | [], i, p, q, h, _ => by simp at h
  | [_], i, p, q, _, h => by simp at h
  | u :: v :: r, 0, p, q, h, h' => by simp at h h'; subst h h'; rfl
  | u :: v :: r, i + 1, p, q, h, h' => by
    simp only [prs, List.getElem?_cons_succ]
    exact prs_at (by simpa using h) (by simpa using h')
def jmp (p q : Pc) : Rat := q.2.1 - pline p q.1
def jF (x : Pc × Pc) : Option (Rat × Rat) := if jmp x.1 x.2 = 0 then none else some (x.2.1, jmp x.1 x.2)
def tF (x : Pc × Pc) : Option Pc := if x.2.2.2 = x.1.2.2 ∧ jmp x.1 x.2 = 0 then none else some x.2
def jumpsQ (c : List Pc) : List (Rat × Rat) := (prs c).filterMap jF
def tidyQ (c : List Pc) : List Pc := c.take 1 ++ (prs c).filterMap tF
abbrev jD (x : Rat × Rat) : D := .tup [qD x.1, qD x.2]
theorem fm_step {α β : Type} {f : α → Option β} {xs : List α} {i : Nat} {x : α} (h : xs[i]? = some x) : (xs.take (i + 1)).filterMap f = (xs.take i).filterMap f ++ (f x).toList := by
  rw [List.take_succ, h, List.filterMap_append]
  cases e : f x <;> simp [e]
theorem cmp_ne {a b : Rat} : (!decide (cmpQ a b = 0)) = !decide (a = b) := by
  unfold cmpQ
  by_cases h1 : a < b
  · have : a ≠ b := fun e => by rw [e] at h1; exact Rat.lt_irrefl h1
    simp [h1, this]
  · by_cases h2 : b < a
    · have : a ≠ b := fun e => by rw [e] at h2; exact Rat.lt_irrefl h2
      simp [h1, h2, this]
    · have : a = b := Rat.le_antisymm (Rat.not_lt.mp h2) (Rat.not_lt.mp h1)
      simp [h1, h2, this]
theorem cmp_eq {a b : Rat} : decide (cmpQ a b = 0) = decide (a = b) := by
  have := cmp_ne (a := a) (b := b)
  simpa using this
/-- a def of the program over a course -/
def Cw (s t r : Nat) (c : List Pc) : Prop := Cz s t r c ∧ 8 * s + 3 * t + 3 * r + 60 ≤ 7900 ∧ c.length ≤ 100000
theorem Cz.at {s t r : Nat} {c : List Pc} {i : Nat} {p : Pc} (h : Cz s t r c) (e : c[i]? = some p) : Sz s p.1 ∧ Sz t p.2.1 ∧ Sz r p.2.2 := h p (List.mem_of_getElem? e)
theorem pline_sz {s t r w : Nat} {p : Pc} {x : Rat} (h : Sz s p.1 ∧ Sz t p.2.1 ∧ Sz r p.2.2) (hx : Sz w x) : Sz (t + (r + (w + s + 1)) + 1) (pline p x) := h.2.1.add (h.2.2.mul (hx.sub h.1))
theorem jmp_sz {s t r : Nat} {p q : Pc} (h : Sz s p.1 ∧ Sz t p.2.1 ∧ Sz r p.2.2) (h' : Sz s q.1 ∧ Sz t q.2.1 ∧ Sz r q.2.2) : Sz (t + (t + (r + (s + s + 1)) + 1) + 1) (jmp p q) := h'.2.1.sub (pline_sz h h'.1)
def ST_line : Sg := fun ps Post => ∃ (p : Pc) (t : Rat) (s u v w : Nat), ps = [.d (pD p), .d (qD t)] ∧ (Sz s p.1 ∧ Sz u p.2.1 ∧ Sz v p.2.2) ∧ Sz w t ∧ s + u + v + w + 10 ≤ 8000 ∧ Post (.d (qD (pline p t))) []
def ST_jump : Sg := fun ps Post => ∃ (c : List Pc) (i : Nat) (p q : Pc) (s t r : Nat), ps = [.w (cD c), .d (.int ((i : Int) + 1))] ∧ c[i]? = some p ∧ c[i + 1]? = some q ∧ Cw s t r c ∧ Post (.d (qD (jmp p q))) []
def ST_course (F : List Pc → OB) : Sg := fun ps Post => ∃ (c : List Pc) (s t r : Nat), ps = [.w (cD c)] ∧ c ≠ [] ∧ Cw s t r c ∧ Post (.own (F c)) []
/-! what a course shows at a time -/
def oD : Option Rat → D
  | none => .non
  | some q => qD q
def past (t : Rat) (p : Pc) : Bool := !decide (t < p.1)
def nowQ (c : List Pc) (t : Rat) : Option Rat := ((c.filter (past t)).getLast?).map fun p => pline p t
def Asc (c : List Pc) : Prop := c.Pairwise fun p q => p.1 < q.1
def ST_now : Sg := fun ps Post => ∃ (c : List Pc) (x : Rat) (s t r w : Nat), ps = [.w (cD c), .w (qD x)] ∧ Cz s t r c ∧ Sz w x ∧ s + t + r + w + 30 ≤ 7900 ∧ c.length ≤ 100000 ∧ Post (.d (oD (nowQ c x))) []
def ST_coming : Sg := fun ps Post => ∃ (c : List Pc) (i : Nat) (p q : Pc) (s t r : Nat), ps = [.w (cD c), .d (.int ((i : Int) + 1))] ∧ c[i]? = some p ∧ c[i + 1]? = some q ∧ Cw s t r c ∧ Asc c ∧ Post (.d (qD (pline p q.1))) []
theorem flt_step {α : Type} {f : α → Bool} {xs : List α} {i : Nat} {x : α} (h : xs[i]? = some x) : (xs.take (i + 1)).filter f = (xs.take i).filter f ++ (if f x then [x] else []) := by
  rw [List.take_succ, h, List.filter_append]
  cases e : f x <;> simp [e]
theorem asc_past {c : List Pc} (ha : Asc c) {i : Nat} {p : Pc} {t : Rat} (hp : c[i]? = some p) (h1 : p.1 ≤ t) (h2 : ∀ q, c[i + 1]? = some q → t < q.1) : c.filter (past t) = c.take (i + 1) := by
  have e : c = c.take (i + 1) ++ c.drop (i + 1) := (List.take_append_drop _ _).symm
  have hi := (List.getElem?_eq_some_iff.mp hp).1
  have hpw := ha
  unfold Asc at hpw
  rw [List.pairwise_iff_getElem] at hpw
  have ep : c[i] = p := (List.getElem?_eq_some_iff.mp hp).2
  conv => lhs; rw [e]
  rw [List.filter_append, List.filter_eq_self.mpr, List.filter_eq_nil_iff.mpr, List.append_nil]
  · intro q hq
    obtain ⟨k, hk, e2⟩ := List.mem_iff_getElem.mp hq
    rw [List.getElem_drop] at e2
    have hk' : i + 1 + k < c.length := by rw [List.length_drop] at hk; omega
    have h3 : t < q.1 := by
      have h4 := h2 _ (atB (xs := c) (i := i + 1) (by omega))
      rcases Nat.eq_zero_or_pos k with z | z
      · subst z; rw [← e2]; exact h4
      · have := hpw (i + 1) (i + 1 + k) (by omega) hk' (by omega)
        rw [e2] at this
        grind
    simp [past, h3]
  · intro q hq
    obtain ⟨k, hk, e2⟩ := List.mem_iff_getElem.mp hq
    rw [List.getElem_take] at e2
    have hk' : k < i + 1 := by rw [List.length_take] at hk; omega
    have h3 : q.1 ≤ p.1 := by
      rcases Nat.lt_or_ge k i with z | z
      · have := hpw k i (by omega) hi z
        rw [e2, ep] at this
        grind
      · have : k = i := by omega
        subst this
        rw [← e2, ep]; grind
    have : ¬ t < q.1 := by grind
    simp [past, this]
theorem now_at {c : List Pc} (ha : Asc c) {i : Nat} {p : Pc} {t : Rat} (hp : c[i]? = some p) (h1 : p.1 ≤ t) (h2 : ∀ q, c[i + 1]? = some q → t < q.1) : nowQ c t = some (pline p t) := by
  have hi := (List.getElem?_eq_some_iff.mp hp).1
  unfold nowQ
  rw [asc_past ha hp h1 h2, List.take_succ, hp]
  simp
theorem asc_lt {c : List Pc} (ha : Asc c) {i j : Nat} {p q : Pc} (hp : c[i]? = some p) (hq : c[j]? = some q) (h : i < j) : p.1 < q.1 := by
  have hpw := ha
  unfold Asc at hpw
  rw [List.pairwise_iff_getElem] at hpw
  obtain ⟨a1, a2⟩ := List.getElem?_eq_some_iff.mp hp
  obtain ⟨b1, b2⟩ := List.getElem?_eq_some_iff.mp hq
  have := hpw i j a1 b1 h
  rwa [a2, b2] at this
theorem coming_eq (p q : Pc) : pline p ((p.1 + q.1) * fr 1 2) + pline p ((p.1 + q.1) * fr 1 2) - pline p p.1 = pline p q.1 := by
  have e : fr 1 2 = 1 / 2 := by decide +kernel
  rw [e]
  unfold pline
  grind
theorem mid_lt {p q : Pc} (h : p.1 < q.1) : p.1 ≤ (p.1 + q.1) * fr 1 2 ∧ (p.1 + q.1) * fr 1 2 < q.1 := by
  have e : fr 1 2 = 1 / 2 := by decide +kernel
  rw [e]
  constructor <;> grind
/-! the law's own readings of a course -/
def ST_courseA (F : List Pc → OB) : Sg := fun ps Post => ∃ (c : List Pc) (s t r : Nat), ps = [.w (cD c)] ∧ c ≠ [] ∧ Cw s t r c ∧ Asc c ∧ Post (.own (F c)) []
theorem num_ne {q : Rat} : (!decide (q.num = 0)) = !decide (q = 0) := by
  have : q.num = 0 ↔ q = 0 := Rat.num_eq_zero
  simp [this]
theorem num_gt {q : Rat} (h : 0 < q) : 0 < q.num := by
  have h1 : 0 ≤ q.num := Rat.num_nonneg.mpr (Rat.le_of_lt h)
  have h2 : q.num ≠ 0 := fun z => by rw [Rat.num_eq_zero.mp z] at h; exact Rat.lt_irrefl h
  omega
/-- does piece i + 1 go on where piece i leads? -/
def cf (c : List Pc) (i : Nat) : Bool := match (prs c)[i]? with
  | some x => (tF x).isNone
  | none => false
def contI (c : List Pc) : List Int := ((List.range (c.length - 1)).filter (cf c)).map fun (i : Nat) => (i : Int) + 1
theorem tF_none {p q : Pc} : (tF (p, q)).isNone = (decide (q.2.2 = p.2.2) && decide (pline p q.1 = q.2.1)) := by
  have e : jmp p q = 0 ↔ pline p q.1 = q.2.1 := by unfold jmp; constructor <;> intro h <;> grind
  unfold tF
  by_cases h1 : q.2.2 = p.2.2 <;> by_cases h2 : pline p q.1 = q.2.1 <;> simp [h1, h2, e]
theorem cont_mem {c : List Pc} {i : Nat} : ((i : Int) + 1) ∈ contI c ↔ cf c i = true ∧ i < c.length - 1 := by
  unfold contI
  simp only [List.mem_map, List.mem_filter, List.mem_range]
  constructor
  · rintro ⟨j, ⟨h1, h2⟩, h3⟩
    have : j = i := by omega
    subst this; exact ⟨h2, h1⟩
  · rintro ⟨h1, h2⟩; exact ⟨i, ⟨h2, h1⟩, rfl⟩
theorem cont_zero {c : List Pc} : (0 : Int) ∉ contI c := by
  unfold contI
  simp only [List.mem_map, not_exists, not_and]
  intro j _; omega
def ST_iscourse : Sg := fun ps Post => ∃ (c : List Pc) (s t r : Nat), ps = [.w (cD c)] ∧ c ≠ [] ∧ Cw s t r c ∧ Asc c ∧ (∀ p ∈ c, 0 < p.2.2) ∧ Post (.d (.bl true)) []
end DL

end
section
set_option Elab.async false
set_option linter.all false
set_option autoImplicit true
set_option maxRecDepth 10000
set_option maxHeartbeats 400000
namespace DL
open PySem L2
def Up (qs : List Rat) : Prop := qs.Pairwise (· < ·)
def ST_ordered : Sg := fun ps Post => ∃ (qs : List Rat) (k : Nat), ps = [.w (.lst (qs.map qD))] ∧ (∀ q ∈ qs, Sz k q) ∧ k ≤ 3900 ∧ qs.length ≤ 100000 ∧ ∀ out, Up out → (∀ q, q ∈ out ↔ q ∈ qs) → out.length ≤ qs.length → Post (.own (.lst (out.map qD))) []
def ST_probes : Sg := fun ps Post => ∃ (qs : List Rat) (k : Nat), ps = [.w (.lst (qs.map fun q => .tup [qD q, .non]))] ∧ (∀ q ∈ qs, Sz k q) ∧ k ≤ 3900 ∧ qs ≠ [] ∧ qs.length ≤ 40000 ∧ ∀ ts : List Rat, (∀ t ∈ ts, Sz (2 * k + 10) t) → (∃ t ∈ ts, ∀ q ∈ qs, q < t) → ts.length ≤ 100000 → Post (.own (.lst (ts.map qD))) []
def ST_alike : Sg := fun ps Post => ∃ (a b : List Pc) (s t r : Nat), ps = [.w (cD a), .w (cD b)] ∧ a ≠ [] ∧ Cw s t r a ∧ Cw s t r b ∧ a.length + b.length ≤ 40000 ∧ ∀ v : Bool, ((∀ x, nowQ a x = nowQ b x) → v = true) → ((∀ x, (∀ p ∈ a ++ b, p.1 < x) → nowQ a x ≠ nowQ b x) → v = false) → Post (.d (.bl v)) []
theorem up_lt {out : List Rat} (h : Up out) {i j : Nat} {p q : Rat} (hp : out[i]? = some p) (hq : out[j]? = some q) (hij : i < j) : p < q := by
  unfold Up at h
  rw [List.pairwise_iff_getElem] at h
  obtain ⟨a1, a2⟩ := List.getElem?_eq_some_iff.mp hp
  obtain ⟨b1, b2⟩ := List.getElem?_eq_some_iff.mp hq
  have := h i j a1 b1 hij
  rwa [a2, b2] at this
/-- so many are below x -/
def Spot (out : List Rat) (x : Rat) (k s : Nat) : Prop := s ≤ k ∧ ∀ j q, j < k → out[j]? = some q → (q < x ↔ j < s)
theorem Spot.zero {out : List Rat} {x : Rat} : Spot out x 0 0 := ⟨Nat.le_refl _, fun j q h => absurd h (by omega)⟩
theorem Spot.yes {out : List Rat} {x y : Rat} {k s : Nat} (hu : Up out) (h : Spot out x k s) (hy : out[k]? = some y) (hl : y < x) : Spot out x (k + 1) (k + 1) := by
  refine ⟨Nat.le_refl _, fun j q hj hq => ⟨fun _ => hj, fun _ => ?_⟩⟩
  rcases Nat.lt_or_ge j k with z | z
  · have := up_lt hu hq hy z; grind
  · have : j = k := by omega
    subst this; rw [hy] at hq; cases hq; exact hl
theorem Spot.no {out : List Rat} {x y : Rat} {k s : Nat} (h : Spot out x k s) (hy : out[k]? = some y) (hl : ¬ y < x) : Spot out x (k + 1) s := by
  refine ⟨by have := h.1; omega, fun j q hj hq => ?_⟩
  rcases Nat.lt_or_ge j k with z | z
  · exact h.2 j q z hq
  · have : j = k := by omega
    subst this; rw [hy] at hq; cases hq
    exact ⟨fun z => absurd z hl, fun z => absurd z (by have := h.1; omega)⟩
theorem Spot.ins {out : List Rat} {x : Rat} {s : Nat} (hu : Up out) (h : Spot out x out.length s) (hx : ∀ y, out[s]? = some y → y ≠ x) : Up (out.take s ++ [x] ++ out.drop s) := by
  unfold Up
  have e : out = out.take s ++ out.drop s := (List.take_append_drop _ _).symm
  have h1 : ∀ y ∈ out.take s, y < x := fun y hy => by
    obtain ⟨j, hj, e2⟩ := List.mem_iff_getElem.mp hy
    rw [List.length_take] at hj
    rw [List.getElem_take] at e2
    have hj2 : out[j]? = some y := by rw [← e2]; exact atB (by omega)
    exact (h.2 j y (by omega) hj2).mpr (by omega)
  have h2 : ∀ y ∈ out.drop s, x < y := fun y hy => by
    obtain ⟨j, hj, e2⟩ := List.mem_iff_getElem.mp hy
    rw [List.length_drop] at hj
    rw [List.getElem_drop] at e2
    have hj2 : out[s + j]? = some y := by rw [← e2]; exact atB (by omega)
    have h0 := atB (xs := out) (i := s) (by omega)
    have a1 : ¬ out[s] < x := fun z => absurd ((h.2 s _ (by omega) h0).mp z) (by omega)
    have a2 := hx _ h0
    have a3 : x < out[s] := by grind
    rcases Nat.eq_zero_or_pos j with z | z
    · subst z; rw [Nat.add_zero, h0] at hj2; cases hj2; exact a3
    · have := up_lt hu h0 hj2 (by omega); grind
  have hp := hu
  unfold Up at hp
  rw [e, List.pairwise_append] at hp
  rw [List.append_assoc, List.pairwise_append]
  refine ⟨hp.1, ?_, fun a ha b hb => ?_⟩
  · show List.Pairwise (· < ·) (x :: out.drop s)
    rw [List.pairwise_cons]
    exact ⟨h2, hp.2.1⟩
  · have hb' : b = x ∨ b ∈ out.drop s := by simpa using hb
    rcases hb' with rfl | hb'
    · exact h1 a ha
    · have := h1 a ha; have := h2 b hb'; grind
theorem eqv_o (a b : Option Rat) : (oD a).eqv (oD b) = decide (a = b) := by
  cases a <;> cases b
  · rfl
  · simp [oD, D.eqv, D.pd, PyData.eqv]
  · simp [oD, D.eqv, D.pd, PyData.eqv]
  · rw [oD, oD, eqv_q]; simp
theorem shp_o (a : Option Rat) : (oD a).shp = true := by
  cases a
  · rfl
  · exact shp_q _
theorem own3 {A B : Slot} {r : SL} {x y : List D} (h : x = y) : (A :: B :: Slot.own (.lst x) :: r) = A :: B :: Slot.own (.lst y) :: r := by rw [h]
theorem own4 {A B C : Slot} {r : SL} {x y : List D} (h : x = y) : (A :: B :: C :: Slot.own (.lst x) :: r) = A :: B :: C :: Slot.own (.lst y) :: r := by rw [h]
theorem up_last {out : List Rat} (hu : Up out) {z q : Rat} (hz : out[out.length - 1]? = some z) (hq : q ∈ out) : q ≤ z := by
  obtain ⟨j, hj, e⟩ := List.mem_iff_getElem.mp hq
  have h1 : out[j]? = some q := by rw [← e]; exact atB hj
  rcases Nat.lt_or_ge j (out.length - 1) with h | h
  · have := up_lt hu h1 hz h; grind
  · have : j = out.length - 1 := by omega
    rw [← this, h1] at hz; cases hz; grind
theorem qat {out : List Rat} {j : Nat} {y : Rat} (h : out[j]? = some y) : (D.lst (out.map qD)).at (j : Int) = some (qD y) := at_lst (by rw [List.getElem?_map, h]; rfl)
theorem sz_one : Sz 1 (fr 1 1) := fr_sz (bt_of (by decide) (by decide)) (bt_of (by decide) (by decide)) (by decide)
theorem sz_half : Sz 2 (fr 1 2) := fr_sz (bt_of (by decide) (by decide)) (bt_of (by decide) (by decide)) (by decide)
theorem one_gt (z : Rat) : z < z + fr 1 1 := by
  have e : fr 1 1 = 1 := by decide +kernel
  rw [e]; grind
end DL

end
section
set_option Elab.async false
set_option linter.all false
set_option autoImplicit true
set_option maxRecDepth 10000
set_option maxHeartbeats 400000
namespace DL
open PySem L2
/-! ### fractions over a common line -/
def Sd (N n : Nat) (q : Rat) : Prop := q.den ∣ N ∧ Bt n q.num
theorem fr_dvd {n d : Int} {N : Nat} (h : d ≠ 0) (hd : d.natAbs ∣ N) : (fr n d).den ∣ N := by
  rw [(fr_eq (n := n) h).2]
  exact Nat.dvd_trans (Nat.div_dvd_of_dvd (Nat.gcd_dvd_left _ _)) hd
theorem over_N {q : Rat} {N : Nat} (h : q.den ∣ N) (h0 : N ≠ 0) : ∃ x : Int, q = fr x (N : Int) := by
  obtain ⟨m, rfl⟩ := h
  refine ⟨q.num * m, ?_⟩
  have hm : (m : Int) ≠ 0 := by
    intro z
    have : m = 0 := by omega
    subst this; simp at h0
  unfold fr
  have := Rat.divInt_mul_right (n := q.num) (d := (q.den : Int)) hm
  rw [Int.natCast_mul, this, Rat.num_divInt_den]
theorem add_den {a b : Rat} {N : Nat} (ha : a.den ∣ N) (hb : b.den ∣ N) (h0 : N ≠ 0) : (a + b).den ∣ N := by
  obtain ⟨x, rfl⟩ := over_N ha h0
  obtain ⟨y, rfl⟩ := over_N hb h0
  have hN : (N : Int) ≠ 0 := by omega
  have e : fr x (N : Int) + fr y (N : Int) = fr (x + y) (N : Int) := by
    unfold fr
    rw [Rat.divInt_add_divInt _ _ hN hN, ← Int.add_mul, Rat.divInt_mul_right hN]
  rw [e]
  exact fr_dvd hN (by simp)
theorem Sd.add {N n m k L : Nat} {a b : Rat} (ha : Sd N n a) (hb : Sd N m b) (h0 : N ≠ 0) (hL : N < 2 ^ L) (hn : n ≤ k) (hm : m ≤ k) : Sd N (k + L + 1) (a + b) := by
  refine ⟨add_den ha.1 hb.1 h0, ?_⟩
  have bd : ∀ {q : Rat}, q.den ∣ N → Bt L (q.den : Int) := fun h => by
    have := Nat.le_of_dvd (by omega) h
    show ((_ : Nat) : Int).natAbs < _
    rw [Int.natAbs_natCast]; omega
  have hn : Bt (k + L + 1) (a.num * (b.den : Int) + b.num * (a.den : Int)) := ((ha.2.mono hn).mul (bd hb.1)).add ((hb.2.mono hm).mul (bd ha.1))
  refine Nat.lt_of_le_of_lt ?_ hn
  rw [Rat.num_add, Int.natAbs_ediv_of_dvd (Int.ofNat_dvd_left.2 (Nat.gcd_dvd_left ..))]
  exact Nat.div_le_self _ _
theorem Sd.neg {N n : Nat} {a : Rat} (h : Sd N n a) : Sd N n (-a) := ⟨h.1, by rw [Rat.neg_num]; exact h.2.neg⟩
theorem Sd.sub {N n m k L : Nat} {a b : Rat} (ha : Sd N n a) (hb : Sd N m b) (h0 : N ≠ 0) (hL : N < 2 ^ L) (hn : n ≤ k) (hm : m ≤ k) : Sd N (k + L + 1) (a - b) := by
  rw [Rat.sub_eq_add_neg]; exact ha.add hb.neg h0 hL hn hm
theorem Sd.mul {N M n m : Nat} {a b : Rat} (ha : Sd N n a) (hb : Sd M m b) : Sd (N * M) (n + m) (a * b) := by
  refine ⟨?_, ?_⟩
  · rw [Rat.den_mul]
    exact Nat.dvd_trans (Nat.div_dvd_of_dvd (Nat.gcd_dvd_right ..)) (Nat.mul_dvd_mul ha.1 hb.1)
  · refine Nat.lt_of_le_of_lt ?_ (ha.2.mul hb.2)
    rw [Rat.num_mul, Int.natAbs_ediv_of_dvd (Int.ofNat_dvd_left.2 (Nat.gcd_dvd_left ..))]
    exact Nat.div_le_self _ _
theorem Sd.mono {N M n m : Nat} {a : Rat} (h : Sd N n a) (hN : N ∣ M) (hn : n ≤ m) : Sd M m a := ⟨Nat.dvd_trans h.1 hN, h.2.mono hn⟩
theorem Sd.sz {N n k : Nat} {a : Rat} (h : Sd N n a) (h0 : N ≠ 0) (hN : N < 2 ^ k) (hn : n ≤ 8 * k) : Sz k a := ⟨h.2.mono hn, by have := Nat.le_of_dvd (by omega) h.1; omega⟩
/-- drawn times, steps, paces -/
def PPart (q : Rat) : Prop := Sd 60 24 q
def PStep (q : Rat) : Prop := Sd 60 24 q ∧ 0 < q
def PPace (q : Rat) : Prop := Sd 27720 32 q ∧ 0 < q
abbrev N2 : Nat := 26611200
/-- a drawn course's piece -/
def GP (N a b : Nat) (p : Pc) : Prop := Sd N a p.1 ∧ Sd N2 b p.2.1 ∧ PPace p.2.2
theorem Asc.snoc {c : List Pc} {p : Pc} (h : Asc c) (hp : ∀ x ∈ c, x.1 < p.1) : Asc (c ++ [p]) := by
  unfold Asc
  rw [List.pairwise_append]
  exact ⟨h, List.pairwise_singleton _ _, fun a ha b hb => by
    have : b = p := by simpa using hb
    rw [this]; exact hp a ha⟩
theorem lt_plus {a b : Rat} (h : 0 < b) : a < a + b := by grind
def ST_drawcourse : Sg := fun ps Post => ∃ (m : Nat) (fall : Bool), ps = [.own .sto, .d (.int (m : Int)), .d (.bl fall)] ∧ m ≤ 40 ∧ ∀ c : List Pc, c.length = m → Asc c → (∀ p ∈ c, GP 60 (24 + 10 * m) (60 + 120 * m) p) → Post (.own (.lst (c.map pD))) [.sto]
def ST_wide : Sg := fun ps Post => ps = [.own .sto] ∧ ∀ c : List Pc, c ≠ [] → c.length ≤ 3 → Asc c → (∀ p ∈ c, 0 < p.2.2) → Cz 41 41 41 c → Post (.own (.lst (c.map pD))) [.sto]
theorem up_asc {f : Rat → Rat × Rat} : ∀ {qs : List Rat}, Up qs → Asc (qs.map fun q => (q, f q))
  | [], _ => List.Pairwise.nil
  | q :: qs, h => by
    obtain ⟨h1, h2⟩ := List.pairwise_cons.mp h
    refine List.pairwise_cons.mpr ⟨fun p hp => ?_, up_asc h2⟩
    obtain ⟨x, hx, rfl⟩ := List.mem_map.mp hp
    exact h1 x hx
theorem abs_q {q : Rat} (h : q.num ≠ 0) : D.tup [.int (if (if q.num < 0 then -q.num else q.num) > 1 then (if q.num < 0 then -q.num else q.num) else 1), .int (q.den : Int)] = qD (fr (q.num.natAbs : Int) (q.den : Int)) := by
  have e : (if (if q.num < 0 then -q.num else q.num) > 1 then (if q.num < 0 then -q.num else q.num) else 1) = (q.num.natAbs : Int) := by split <;> split <;> omega
  rw [e]
  refine qD_fr (den_pos' q) ?_
  have := q.reduced
  rw [Int.gcd_comm]
  simpa [Int.gcd, Nat.Coprime] using this
/-- a piece is put behind piece i, on its line -/
def CutS (c d : List Pc) : Prop := ∃ (i : Nat) (p : Pc) (w : Rat), c[i]? = some p ∧ p.1 < w ∧ (∀ q, c[i + 1]? = some q → w < q.1) ∧ d = c.take (i + 1) ++ [(w, pline p w, p.2.2)] ++ c.drop (i + 1)
inductive Cut (c : List Pc) : Nat → List Pc → Prop
  | z : Cut c 0 c
  | s {i : Nat} {d e : List Pc} : Cut c i d → CutS d e → Cut c (i + 1) e
theorem CutS.len {c d : List Pc} (h : CutS c d) : d.length = c.length + 1 := by
  obtain ⟨i, p, w, h1, _, _, rfl⟩ := h
  have := (List.getElem?_eq_some_iff.mp h1).1
  simp only [List.length_append, List.length_take, List.length_drop, List.length_singleton]; omega
theorem CutS.asc {c d : List Pc} (ha : Asc c) (h : CutS c d) : Asc d := by
  obtain ⟨i, p, w, h1, h2, h3, rfl⟩ := h
  have hp := ha
  unfold Asc at hp ⊢
  rw [← List.take_append_drop (i + 1) c, List.pairwise_append] at hp
  rw [List.append_assoc, List.pairwise_append]
  have a1 : ∀ y ∈ c.take (i + 1), y.1 < w := fun y hy => by
    obtain ⟨j, hj, e2⟩ := List.mem_iff_getElem.mp hy
    rw [List.length_take] at hj
    rw [List.getElem_take] at e2
    have hj2 : c[j]? = some y := by rw [← e2]; exact atB (by omega)
    rcases Nat.lt_or_ge j i with z | z
    · have := asc_lt ha hj2 h1 z; grind
    · have : j = i := by omega
      rw [this, h1] at hj2; cases hj2; exact h2
  have a2 : ∀ y ∈ c.drop (i + 1), w < y.1 := fun y hy => by
    obtain ⟨j, hj, e2⟩ := List.mem_iff_getElem.mp hy
    rw [List.length_drop] at hj
    rw [List.getElem_drop] at e2
    have hj2 : c[i + 1 + j]? = some y := by rw [← e2]; exact atB (by omega)
    have h0 := atB (xs := c) (i := i + 1) (by omega)
    have h4 := h3 _ h0
    rcases Nat.eq_zero_or_pos j with z | z
    · rw [z, Nat.add_zero, h0] at hj2; cases hj2; exact h4
    · have := asc_lt ha h0 hj2 (by omega); grind
  refine ⟨hp.1, ?_, fun a hx b hb => ?_⟩
  · show List.Pairwise _ (_ :: c.drop (i + 1))
    exact List.pairwise_cons.mpr ⟨a2, hp.2.1⟩
  · have hb' : b = (w, pline p w, p.2.2) ∨ b ∈ c.drop (i + 1) := by simpa using hb
    rcases hb' with rfl | hb'
    · exact a1 a hx
    · have := a1 a hx; have := a2 b hb'; grind
theorem CutS.mem {c d : List Pc} (h : CutS c d) : ∃ (p : Pc) (w : Rat), p ∈ c ∧ d.Perm ((w, pline p w, p.2.2) :: c) := by
  obtain ⟨i, p, w, h1, h2, h3, rfl⟩ := h
  refine ⟨p, w, List.mem_of_getElem? h1, ?_⟩
  rw [List.append_assoc]
  refine List.perm_middle.trans ?_
  show (_ :: (c.take (i + 1) ++ c.drop (i + 1))).Perm _
  rw [List.take_append_drop]
def ST_cutup : Sg := fun ps Post => ∃ (c : List Pc) (m : Nat), ps = [.own .sto, .w (.lst (c.map pD)), .d (.int (m : Int))] ∧ m ≤ 4 ∧ c ≠ [] ∧ c.length ≤ 14 ∧ Asc c ∧ (∀ p ∈ c, GP 60 400 2000 p) ∧ ∀ d, Cut c m d → Asc d → d.length = c.length + m → (∀ p ∈ d, GP 960 640 2800 p) → Post (.own (.lst (d.map pD))) [.sto]
end DL

end
section
set_option Elab.async false
set_option linter.all false
set_option autoImplicit true
set_option maxRecDepth 10000
set_option maxHeartbeats 400000
namespace DL
open PySem L2
/-! ### plain law: tidied courses -/
/-- on one line -/
def SLn (p q : Pc) : Prop := q.2.2 = p.2.2 ∧ ∀ t, pline p t = pline q t
theorem SLn.symm {p q : Pc} (h : SLn p q) : SLn q p := ⟨h.1.symm, fun t => (h.2 t).symm⟩
theorem sln_of {p q : Pc} (h1 : q.2.2 = p.2.2) (h2 : jmp p q = 0) : SLn p q := ⟨h1, fun t => by
  unfold jmp at h2
  unfold pline at h2 ⊢
  rw [h1]; grind⟩
theorem SLn.jmp {p q : Pc} (h : SLn p q) : jmp p q = 0 := by
  unfold DL.jmp
  rw [h.2 q.1]
  unfold pline
  grind
theorem SLn.j {p p' q : Pc} (h : SLn p p') : DL.jmp p q = DL.jmp p' q := by unfold DL.jmp; rw [h.2]
theorem SLn.tF {p p' q : Pc} (h : SLn p p') : tF (p, q) = DL.tF (p', q) := by unfold DL.tF; rw [h.j, h.1]
theorem SLn.jF {p p' q : Pc} (h : SLn p p') : jF (p, q) = DL.jF (p', q) := by unfold DL.jF; rw [h.j]
theorem SLn.t0 {p q : Pc} (h : SLn p q) : DL.tF (p, q) = none := by unfold DL.tF; simp [h.1, h.jmp]
theorem SLn.j0 {p q : Pc} (h : SLn p q) : DL.jF (p, q) = none := by unfold DL.jF; simp [h.jmp]
theorem t0_sln {p q : Pc} (h : DL.tF (p, q) = none) : SLn p q := by
  unfold DL.tF at h
  split at h
  · rename_i h'; exact sln_of h'.1 h'.2
  · cases h
theorem tF_some {p q x : Pc} (h : DL.tF (p, q) = some x) : x = q := by
  unfold DL.tF at h
  split at h
  · cases h
  · cases h; rfl
def tq (p : Pc) (r : List Pc) : List Pc := (prs (p :: r)).filterMap tF
def jq (p : Pc) (r : List Pc) : List (Rat × Rat) := (prs (p :: r)).filterMap jF
theorem tq_cons (p q : Pc) (r : List Pc) : tq p (q :: r) = (tF (p, q)).toList ++ tq q r := by
  unfold tq
  simp only [prs, List.filterMap_cons]
  cases tF (p, q) <;> rfl
theorem jq_cons (p q : Pc) (r : List Pc) : jq p (q :: r) = (jF (p, q)).toList ++ jq q r := by
  unfold jq
  simp only [prs, List.filterMap_cons]
  cases jF (p, q) <;> rfl
theorem tq_sln {p p' : Pc} (h : SLn p p') : ∀ r, tq p r = tq p' r
  | [] => rfl
  | q :: r => by rw [tq_cons, tq_cons, h.tF]
theorem jq_sln {p p' : Pc} (h : SLn p p') : ∀ r, jq p r = jq p' r
  | [] => rfl
  | q :: r => by rw [jq_cons, jq_cons, h.jF]
theorem tq_idem : ∀ (r : List Pc) (p : Pc), tq p (tq p r) = tq p r
  | [], p => rfl
  | q :: r, p => by
    rw [tq_cons]
    cases e : tF (p, q) with
    | none =>
      show tq p (tq q r) = tq q r
      rw [tq_sln (t0_sln e).symm, tq_idem r p]
    | some x =>
      have := tF_some e
      subst this
      show tq p (x :: tq x r) = x :: tq x r
      rw [tq_cons, e, tq_idem r x]; rfl
theorem jq_tq : ∀ (r : List Pc) (p : Pc), jq p (tq p r) = jq p r
  | [], p => rfl
  | q :: r, p => by
    rw [tq_cons, jq_cons]
    cases e : tF (p, q) with
    | none =>
      show jq p (tq q r) = _
      rw [tq_sln (t0_sln e).symm, jq_tq r p, (t0_sln e).j0, jq_sln (t0_sln e)]; rfl
    | some x =>
      have := tF_some e
      subst this
      show jq p (x :: tq x r) = _
      rw [jq_cons, jq_tq r x]
theorem tq_sub : ∀ (r : List Pc) (p : Pc), (tq p r).Sublist r
  | [], p => List.Sublist.refl _
  | q :: r, p => by
    rw [tq_cons]
    cases e : tF (p, q) with
    | none => exact (tq_sub r q).cons _
    | some x =>
      have := tF_some e
      subst this
      exact (tq_sub r x).cons_cons _
theorem now_app (a b : List Pc) (t : Rat) : nowQ (a ++ b) t = (nowQ b t).or (nowQ a t) := by
  unfold nowQ
  rw [List.filter_append, List.getLast?_append]
  cases (b.filter (past t)).getLast? <;> rfl
theorem now_two {p q : Pc} (h : SLn p q) (hl : p.1 < q.1) (t : Rat) : nowQ [p, q] t = nowQ [p] t := by
  unfold nowQ
  by_cases h1 : t < p.1
  · have h2 : t < q.1 := by grind
    simp [past, h1, h2]
  · by_cases h2 : t < q.1
    · simp [past, h1, h2]
    · simp [past, h1, h2, h.2]
theorem now_tq : ∀ (r : List Pc) (p : Pc) (t : Rat), Asc (p :: r) → nowQ (p :: tq p r) t = nowQ (p :: r) t
  | [], p, t, _ => rfl
  | q :: r, p, t, ha => by
    obtain ⟨h1, h2⟩ := List.pairwise_cons.mp ha
    rw [tq_cons]
    have e2 : nowQ (p :: q :: r) t = (nowQ (q :: r) t).or (nowQ [p] t) := now_app [p] (q :: r) t
    cases e : tF (p, q) with
    | none =>
      show nowQ (p :: tq q r) t = _
      have hs := t0_sln e
      obtain ⟨h3, h4⟩ := List.pairwise_cons.mp h2
      have ha' : Asc (p :: r) := List.pairwise_cons.mpr ⟨fun x hx => h1 x (List.mem_cons_of_mem _ hx), h4⟩
      rw [tq_sln hs.symm, now_tq r p t ha']
      have e3 : nowQ (p :: q :: r) t = (nowQ r t).or (nowQ [p, q] t) := now_app [p, q] r t
      have e4 : nowQ (p :: r) t = (nowQ r t).or (nowQ [p] t) := now_app [p] r t
      rw [e3, e4, now_two hs (h1 q List.mem_cons_self)]
    | some x =>
      have := tF_some e
      subst this
      show nowQ (p :: x :: tq x r) t = _
      have e5 : nowQ (p :: x :: tq x r) t = (nowQ (x :: tq x r) t).or (nowQ [p] t) := now_app [p] (x :: tq x r) t
      rw [e5, e2, now_tq r x t h2]
theorem prs_app : ∀ (a : List Pc) (p : Pc) (b : List Pc), prs (a ++ p :: b) = prs (a ++ [p]) ++ prs (p :: b)
  | [], p, b => rfl
  | [x], p, b => rfl
  | x :: y :: a, p, b => by
    show (x, y) :: prs (y :: a ++ p :: b) = (x, y) :: prs (y :: a ++ [p]) ++ _
    rw [prs_app (y :: a) p b]; rfl
theorem tidy_cons (p : Pc) (r : List Pc) : tidyQ (p :: r) = p :: tq p r := rfl
theorem jumps_cons (p : Pc) (r : List Pc) : jumpsQ (p :: r) = jq p r := rfl
theorem tidy_idem {c : List Pc} : tidyQ (tidyQ c) = tidyQ c := by
  cases c with
  | nil => rfl
  | cons p r => rw [tidy_cons, tidy_cons, tq_idem]
theorem jumps_tidy {c : List Pc} : jumpsQ (tidyQ c) = jumpsQ c := by
  cases c with
  | nil => rfl
  | cons p r => rw [tidy_cons, jumps_cons, jumps_cons, jq_tq]
theorem now_tidy {c : List Pc} (ha : Asc c) (t : Rat) : nowQ (tidyQ c) t = nowQ c t := by
  cases c with
  | nil => rfl
  | cons p r => rw [tidy_cons]; exact now_tq r p t ha
theorem tidy_sub (c : List Pc) : (tidyQ c).Sublist c := by
  cases c with
  | nil => exact List.Sublist.refl _
  | cons p r => rw [tidy_cons]; exact (tq_sub r p).cons_cons _
theorem tidy_ne {c : List Pc} (h : c ≠ []) : tidyQ c ≠ [] := by
  cases c with
  | nil => exact absurd rfl h
  | cons p r => rw [tidy_cons]; exact List.cons_ne_nil _ _
theorem fm_all {α β : Type} {f : α → Option β} : ∀ {xs : List α}, (xs.filterMap f).length = xs.length → ∀ x ∈ xs, (f x).isNone = false
  | [], _, x, hx => by cases hx
  | y :: xs, h, x, hx => by
    have hl := List.length_filterMap_le f xs
    cases e : f y with
    | none =>
      rw [List.filterMap_cons, e] at h
      simp only [List.length_cons] at h; omega
    | some z =>
      rw [List.filterMap_cons, e] at h
      simp only [List.length_cons] at h
      rcases List.mem_cons.mp hx with rfl | hx
      · rw [e]; rfl
      · exact fm_all (by omega) x hx
theorem cont_tidy {c : List Pc} : contI (tidyQ c) = [] := by
  cases c with
  | nil => rfl
  | cons p r =>
    rw [tidy_cons]
    have hl : ((prs (p :: tq p r)).filterMap tF).length = (prs (p :: tq p r)).length := by
      show (tq p (tq p r)).length = _
      rw [tq_idem, prs_len]; rfl
    have ha := fm_all hl
    unfold contI
    rw [List.map_eq_nil_iff, List.filter_eq_nil_iff]
    intro i _
    unfold cf
    cases e : (prs (p :: tq p r))[i]? with
    | none => simp
    | some x =>
      have := ha x (List.mem_of_getElem? e)
      simp [this]
theorem cut_same {c d : List Pc} (h : CutS c d) : tidyQ d = tidyQ c ∧ jumpsQ d = jumpsQ c ∧ ∀ t, nowQ d t = nowQ c t := by
  obtain ⟨i, p, w, h1, h2, h3, rfl⟩ := h
  have hi := (List.getElem?_eq_some_iff.mp h1).1
  have et : c.take (i + 1) = c.take i ++ [p] := by rw [List.take_succ, h1]; rfl
  have ec : c = c.take i ++ p :: c.drop (i + 1) := by
    conv => lhs; rw [← List.take_append_drop (i + 1) c, et]
    rw [List.append_assoc]; rfl
  have hs : SLn p (w, pline p w, p.2.2) := ⟨rfl, fun t => by
    show _ = pline p w + p.2.2 * (t - w)
    unfold pline; grind⟩
  generalize c.drop (i + 1) = b at ec
  rw [et]
  generalize c.take i = a at ec
  subst ec
  have ed : a ++ [p] ++ [(w, pline p w, p.2.2)] ++ b = a ++ p :: ((w, pline p w, p.2.2) :: b) := by simp
  rw [ed]
  have k1 : tq p ((w, pline p w, p.2.2) :: b) = tq p b := by rw [tq_cons, hs.t0, tq_sln hs]; rfl
  have k2 : jq p ((w, pline p w, p.2.2) :: b) = jq p b := by rw [jq_cons, hs.j0, jq_sln hs]; rfl
  refine ⟨?_, ?_, fun t => ?_⟩
  · unfold tidyQ
    rw [prs_app, prs_app a p b, List.filterMap_append, List.filterMap_append]
    have e1 : (prs (p :: (w, pline p w, p.2.2) :: b)).filterMap tF = (prs (p :: b)).filterMap tF := k1
    rw [e1]
    cases a <;> rfl
  · unfold jumpsQ
    rw [prs_app, prs_app a p b, List.filterMap_append, List.filterMap_append]
    have e1 : (prs (p :: (w, pline p w, p.2.2) :: b)).filterMap jF = (prs (p :: b)).filterMap jF := k2
    rw [e1]
  · have e1 : nowQ (p :: (w, pline p w, p.2.2) :: b) t = (nowQ b t).or (nowQ [p, (w, pline p w, p.2.2)] t) := now_app [p, _] b t
    have e2 : nowQ (p :: b) t = (nowQ b t).or (nowQ [p] t) := now_app [p] b t
    rw [now_app, now_app, e1, e2, now_two hs h2]
theorem cuts_same {c : List Pc} : ∀ {m : Nat} {d : List Pc}, Cut c m d → tidyQ d = tidyQ c ∧ jumpsQ d = jumpsQ c ∧ ∀ t, nowQ d t = nowQ c t
  | _, _, .z => ⟨rfl, rfl, fun _ => rfl⟩
  | _, _, .s h k => by
    obtain ⟨a1, a2, a3⟩ := cuts_same h
    obtain ⟨b1, b2, b3⟩ := cut_same k
    exact ⟨b1.trans a1, b2.trans a2, fun t => (b3 t).trans (a3 t)⟩
/-- what the law takes out by its own list of places -/
theorem gone_step {c : List Pc} {i : Nat} {p q : Pc} (h1 : c[i]? = some p) (h2 : c[i + 1]? = some q) : (tF (p, q)).toList = if (contI c).contains ((i : Int) + 1) then [] else [q] := by
  have hl := (List.getElem?_eq_some_iff.mp h2).1
  have ec : cf c i = (tF (p, q)).isNone := by unfold cf; rw [prs_at h1 h2]
  have hm : (contI c).contains ((i : Int) + 1) = (tF (p, q)).isNone := by
    rw [← ec, Bool.eq_iff_iff, List.contains_iff_mem, cont_mem]
    constructor
    · exact fun h => h.1
    · exact fun h => ⟨h, by omega⟩
  rw [hm]
  cases e : tF (p, q) with
  | none => rfl
  | some x => rw [tF_some e]; rfl
def ST_right : Sg := fun ps Post => ∃ (c : List Pc) (s t r : Nat), ps = [.w (cD c)] ∧ c ≠ [] ∧ Cw s t r c ∧ Asc c ∧ (∀ p ∈ c, 0 < p.2.2) ∧ c.length ≤ 1000 ∧ Post (.d (.bl true)) []
theorem pl_q (k : Nat) (q : Rat) : (qD q).pl (k + 1) := ⟨Nat.le_of_ble_eq_true rfl, fun d hd => by
  have hd' : d = .int q.num ∨ d = .int (q.den : Int) := by simpa using hd
  rcases hd' with rfl | rfl <;> cases k <;> trivial⟩
theorem pl_p (k : Nat) (p : Pc) : (pD p).pl (k + 2) := ⟨Nat.le_of_ble_eq_true rfl, fun d hd => by
  have hd' : d = qD p.1 ∨ d = qD p.2.1 ∨ d = qD p.2.2 := by simpa using hd
  rcases hd' with rfl | rfl | rfl <;> exact pl_q _ _⟩
theorem pl_j (k : Nat) (p : Rat × Rat) : (jD p).pl (k + 2) := ⟨Nat.le_of_ble_eq_true rfl, fun d hd => by
  have hd' : d = qD p.1 ∨ d = qD p.2 := by simpa using hd
  rcases hd' with rfl | rfl <;> exact pl_q _ _⟩
theorem pl_c {c : List Pc} (h : c.length ≤ 100000) : (cD c).pl 5 := ⟨by rw [List.length_map]; exact h, fun d hd => by
  obtain ⟨p, _, rfl⟩ := List.mem_map.mp hd
  exact pl_p 2 p⟩
theorem pl_js {c : List (Rat × Rat)} (h : c.length ≤ 100000) : (D.lst (c.map jD)).pl 5 := ⟨by rw [List.length_map]; exact h, fun d hd => by
  obtain ⟨p, _, rfl⟩ := List.mem_map.mp hd
  exact pl_j 2 p⟩
theorem tidy_cw {s t r : Nat} {c : List Pc} (h : Cw s t r c) : Cw s t r (tidyQ c) := ⟨fun p hp => h.1 p ((tidy_sub c).mem hp), h.2.1, Nat.le_trans (tidy_sub c).length_le h.2.2⟩
theorem jumps_len (c : List Pc) : (jumpsQ c).length ≤ c.length := by
  have := List.length_filterMap_le jF (prs c)
  rw [prs_len] at this
  unfold jumpsQ; omega
def goneA (c : List Pc) (i : Nat) : List Pc := c.take (min i 1) ++ ((prs c).take (i - 1)).filterMap tF
theorem gone_both {c : List Pc} {i : Nat} {q : Pc} (h : c[i]? = some q) : goneA c (i + 1) = goneA c i ++ (if (contI c).contains (i : Int) then [] else [q]) := by
  unfold goneA
  cases i with
  | zero =>
    have h0 : (contI c).contains (((0 : Nat)) : Int) = false := by
      rw [Bool.eq_false_iff]
      intro z
      exact cont_zero (List.contains_iff_mem.mp z)
    rw [h0]
    cases c with
    | nil => simp at h
    | cons a b => simp at h; subst h; rfl
  | succ k =>
    have hk : k < c.length := by have := (List.getElem?_eq_some_iff.mp h).1; omega
    have e1 := atB hk
    have e2 := gone_step e1 h
    rw [show min (k + 1 + 1) 1 = 1 by omega, show min (k + 1) 1 = 1 by omega, show k + 1 + 1 - 1 = k + 1 by omega, show k + 1 - 1 = k by omega, fm_step (prs_at e1 h), e2, List.append_assoc]
    rfl
theorem gone_end {c : List Pc} (h : c ≠ []) : goneA c c.length = tidyQ c := by
  have h0 : 0 < c.length := List.length_pos_iff.mpr h
  unfold goneA tidyQ
  rw [show min c.length 1 = 1 by omega, ← prs_len, List.take_length]
theorem flat_ints {ns : List Int} : (ns.map D.int).all D.flat = true := by
  rw [List.all_map]; exact List.all_eq_true.mpr fun _ _ => rfl
/-! from one place on, every reading moved by so much -/
def turn (c : List Pc) (k : Nat) (by_ : Rat) : List Pc := c.take k ++ (c.drop k).map fun p => (p.1, p.2.1 + by_, p.2.2)
theorem turn_zero {c : List Pc} {k : Nat} : turn c k 0 = c := by
  unfold turn
  have e : (fun p : Pc => (p.1, p.2.1 + 0, p.2.2)) = id := by
    funext p
    simp [Rat.add_zero]
  rw [e, List.map_id, List.take_append_drop]
theorem now_all {c : List Pc} {t : Rat} (h : ∀ p ∈ c, p.1 < t) : nowQ c t = c.getLast?.map fun p => pline p t := by
  unfold nowQ
  rw [List.filter_eq_self.mpr]
  intro p hp
  have := h p hp
  have h2 : ¬ t < p.1 := by grind
  simp [past, h2]
theorem turn_ne {c d : List Pc} {k : Nat} {b t : Rat} (hk : k < c.length) (hb : b ≠ 0) (hn : ∀ x, nowQ c x = nowQ d x) (h : ∀ p ∈ c, p.1 < t) : nowQ (turn c k b) t ≠ nowQ d t := by
  rw [← hn t, now_all h]
  have h2 : ∀ p ∈ turn c k b, p.1 < t := fun p hp => by
    unfold turn at hp
    rcases List.mem_append.mp hp with z | z
    · exact h p (List.mem_of_mem_take z)
    · obtain ⟨q, hq, rfl⟩ := List.mem_map.mp z
      exact h q (List.mem_of_mem_drop hq)
  rw [now_all h2]
  have hne : c.drop k ≠ [] := fun z => by
    have := congrArg List.length z
    rw [List.length_drop] at this; simp at this; omega
  have e1 : (turn c k b).getLast? = ((c.drop k).getLast?).map fun p => (p.1, p.2.1 + b, p.2.2) := by
    unfold turn
    rw [List.getLast?_append, List.getLast?_map]
    cases e : (c.drop k).getLast? with
    | none => exact absurd (List.getLast?_eq_none_iff.mp e) hne
    | some x => rfl
  have e2 : c.getLast? = (c.drop k).getLast? := by
    conv => lhs; rw [← List.take_append_drop k c, List.getLast?_append]
    cases e : (c.drop k).getLast? with
    | none => exact absurd (List.getLast?_eq_none_iff.mp e) hne
    | some x => rfl
  rw [e1, e2]
  cases e : (c.drop k).getLast? with
  | none => exact absurd (List.getLast?_eq_none_iff.mp e) hne
  | some x =>
    intro z
    have z' : pline (x.1, x.2.1 + b, x.2.2) t = pline x t := by simpa using z
    unfold pline at z'
    exact hb (by grind)
theorem gp_cw {c : List Pc} (h : ∀ p ∈ c, GP 960 640 4000 p) (hl : c.length ≤ 1000) : Cw 500 500 500 c := ⟨fun p hp => by
  obtain ⟨h1, h2, h3⟩ := h p hp
  exact ⟨h1.sz (by decide) (Nat.lt_of_lt_of_le (show 960 < 2 ^ 10 by decide) (Nat.pow_le_pow_right (by decide) (by decide))) (by decide), h2.sz (by decide) (Nat.lt_of_lt_of_le (show N2 < 2 ^ 25 by decide) (Nat.pow_le_pow_right (by decide) (by decide))) (by decide), h3.1.sz (by decide) (Nat.lt_of_lt_of_le (show 27720 < 2 ^ 15 by decide) (Nat.pow_le_pow_right (by decide) (by decide))) (by decide)⟩, by decide, by omega⟩
end DL

end
section
set_option Elab.async false
set_option linter.all false
set_option autoImplicit true
set_option maxRecDepth 10000
set_option maxHeartbeats 400000
namespace DL
open PySem L2
/-! ### courses as data -/
theorem eqv_p (p q : Pc) : (pD p).eqv (pD q) = decide (p = q) := by
  show ((qD p.1).eqv (qD q.1) && ((qD p.2.1).eqv (qD q.2.1) && ((qD p.2.2).eqv (qD q.2.2) && true))) = _
  rw [eqv_q, eqv_q, eqv_q, Bool.eq_iff_iff]
  simp only [Bool.and_true, Bool.and_eq_true, decide_eq_true_eq]
  constructor
  · rintro ⟨h1, h2, h3⟩
    exact Prod.ext h1 (Prod.ext h2 h3)
  · rintro rfl; exact ⟨rfl, rfl, rfl⟩
theorem eqv_c : ∀ (a b : List Pc), (cD a).eqv (cD b) = decide (a = b)
  | [], [] => rfl
  | [], _ :: _ => rfl
  | _ :: _, [] => rfl
  | p :: a, q :: b => by
    show ((pD p).eqv (pD q) && (cD a).eqv (cD b)) = _
    rw [eqv_p, eqv_c a b, Bool.eq_iff_iff]
    simp only [Bool.and_eq_true, decide_eq_true_eq, List.cons.injEq]
theorem lay_c : ∀ (a : List Pc), PyData.canLayAll0 (pdL (a.map pD)) = true ∧ PyData.depthAll (pdL (a.map pD)) ≤ 2
  | [] => ⟨rfl, Nat.zero_le _⟩
  | p :: a => by
    obtain ⟨h1, h2⟩ := lay_c a
    refine ⟨?_, ?_⟩
    · show ((pD p).pd.canLay0 && PyData.canLayAll0 (pdL (a.map pD))) = true
      rw [h1]; rfl
    · show max (pD p).pd.depth (PyData.depthAll (pdL (a.map pD))) ≤ 2
      have : (pD p).pd.depth = 2 := rfl
      omega
theorem shp_c (a : List Pc) : (cD a).shp = true := by
  obtain ⟨h1, h2⟩ := lay_c a
  show (PyData.canLayAll0 (pdL (a.map pD)) && decide (PyData.depthAll (pdL (a.map pD)) + 1 ≤ 64)) = true
  rw [h1]
  simp; omega
theorem cut_to {xs : List D} {k : Nat} (h : k ≤ xs.length) : cutD xs none (some (k : Int)) = xs.take k := by
  unfold cutD
  rw [HT.sIx_none, HT.sIx_nat, Nat.min_eq_left h]; rfl
theorem cut_from {xs : List D} {k : Nat} (h : k ≤ xs.length) : cutD xs (some (k : Int)) none = xs.drop k := by
  unfold cutD
  rw [HT.sIx_none, HT.sIx_nat, Nat.min_eq_left h, List.take_of_length_le]
  rw [List.length_drop]; omega
/-! ### from one place on moved -/
theorem turn_len {c : List Pc} {k : Nat} {b : Rat} : (turn c k b).length = c.length := by
  unfold turn
  rw [List.length_append, List.length_map, List.length_take, List.length_drop]; omega
theorem turn_fst {c : List Pc} {k : Nat} {b : Rat} : (turn c k b).map (fun p => p.1) = c.map (fun p => p.1) := by
  unfold turn
  rw [List.map_append, List.map_map]
  conv => rhs; rw [← List.take_append_drop k c, List.map_append]
  rfl
theorem turn_asc {c : List Pc} {k : Nat} {b : Rat} (h : Asc c) : Asc (turn c k b) := by
  have e1 : ∀ d : List Pc, Asc d ↔ (d.map (fun p => p.1)).Pairwise (· < ·) := fun d => by unfold Asc; rw [List.pairwise_map]
  rw [e1, turn_fst, ← e1]; exact h
theorem turn_gp {c : List Pc} {k : Nat} {b : Rat} {M u v w : Nat} (h : ∀ p ∈ c, GP M u v p) (hb : Sd N2 v b) (hv : v + 26 ≤ w) : ∀ p ∈ turn c k b, GP M u w p := fun p hp => by
  unfold turn at hp
  rcases List.mem_append.mp hp with z | z
  · have ⟨h1, h2, h3⟩ := h p (List.mem_of_mem_take z)
    exact ⟨h1, h2.mono (Nat.dvd_refl _) (by omega), h3⟩
  · obtain ⟨q, hq, rfl⟩ := List.mem_map.mp z
    have ⟨h1, h2, h3⟩ := h q (List.mem_of_mem_drop hq)
    exact ⟨h1, (h2.add hb (L := 25) (by decide) (by decide) (Nat.le_refl _) (Nat.le_refl _)).mono (Nat.dvd_refl _) (by omega), h3⟩
theorem turn_ne_nil {c : List Pc} {k : Nat} {b : Rat} (h : c ≠ []) : turn c k b ≠ [] := fun z => by
  have := congrArg List.length z
  rw [turn_len] at this
  exact h (List.length_eq_zero_iff.mp (by simpa using this))
/-- a time past all starts -/
theorem all_past : ∀ (c : List Pc), ∃ t : Rat, ∀ p ∈ c, p.1 < t
  | [] => ⟨0, fun p h => by cases h⟩
  | p :: c => by
    obtain ⟨t, h⟩ := all_past c
    refine ⟨(if p.1 < t then t else p.1) + 1, fun q hq => ?_⟩
    have hq' : q = p ∨ q ∈ c := by simpa using hq
    rcases hq' with rfl | hq'
    · split <;> grind
    · have := h q hq'
      split <;> grind
theorem turn_tidy {c d : List Pc} {k : Nat} {b : Rat} (hc : Asc c) (hd : Asc d) (hk : k < c.length) (hb : b ≠ 0) (hn : ∀ x, nowQ c x = nowQ d x) : tidyQ (turn c k b) ≠ tidyQ d := fun e => by
  obtain ⟨t, ht⟩ := all_past c
  refine turn_ne hk hb hn ht ?_
  rw [← now_tidy (turn_asc hc), e, now_tidy hd]
theorem eqv_bl (a b : Bool) : (D.bl a).eqv (D.bl b) = (a == b) := by
  cases a <;> cases b <;> rfl
end DL

end
section
set_option Elab.async false
set_option linter.all false
set_option autoImplicit true
set_option maxRecDepth 100000
set_option maxHeartbeats 400000
namespace DL
open PySem L2
/-! ### what the top has written -/
def defAt {K : PySem.W.Frag} {h : Heap} {mg : Str → Option Value} (X : K.In h) (G : h.Ns mainGlobals mg) {nm : Str} {st : Stmt} {ps : List Str} {f : Addr} {od an : Option Addr} {sl : Array (Option Value)} {oc kV dc pm cd ct : Value}
    (hb : ∀ (kV doc pm : Value) (an : Option Addr) (cdv ct : Value) (us : List Value), us.length = ps.length → bindArgs (PySem.W.fnOf nm nm (defArgs st) (defBody st) (defScope st) .none kV doc pm an cdv ct) ⟨us, []⟩ = pure (ps.zip us))
    (a : PySem.W.nsIn K mainGlobals nm = some (some (.ref f))) (l : K.lookup f = some ⟨oc, od, .func (PySem.W.fnOf nm nm (defArgs st) (defBody st) (defScope st) .none kV dc pm an cd ct), sl⟩) (c : PySem.W.codeIn K cd nm = true) (k : PySem.W.keepIn K (.ref f) = true) : DefAt K mg nm st ps :=
  ⟨f, _, fun_mk l c k, PySem.W.mg_of X G a, hb kV dc pm an cd ct⟩
theorem law_end {P : Program} {w : World} {K : PySem.W.Frag} {mg : Str → Option Value} {fa : Addr} {nm x : Str} {st : Stmt} {lev : Nat} {S : Sg} (d : DefAt K mg nm st [x]) (hm : mg nm = some (.ref fa)) (ok : ∀ base : Heap, FnOk P w K mg base CX0 lev d.a d.fd [x] (spOf K S)) :
    ∃ fd : FuncData, (∀ (s : Shared) (v : Value), BindsTo s fd ⟨[v], []⟩ [(x, v)]) ∧ ∀ base : Heap, K.In base → base.Ns mainGlobals mg → FnOk P w K mg base CX0 lev fa fd [x] (spOf K S) := by
  have e : some (Value.ref d.a) = some (Value.ref fa) := d.m.symm.trans hm
  have e2 : d.a = fa := by cases e; rfl
  exact ⟨d.fd, fun s v => .of_eq (d.bb [v] rfl), fun base _ _ => e2 ▸ ok base⟩
theorem sp_law {S : Sg} {m : Nat} (hS : ∀ ns : List Int, ns.length ≤ m → S [.sc ns] fun r _ => r = .d (.bl true)) (K : PySem.W.Frag) (H : Hp) (a : Addr) (ns : List Int) (hl : ns.length ≤ m) (_ : Only H) (hq : SqL K H a (ns.map V.int)) : spOf K S [.ref a] H (fun v _ => v = .bl true) fun _ _ _ => False :=
  ⟨H, [.sc ns], _, Ex.refl _, ⟨.ref a, [], rfl, ⟨a, rfl, hq⟩, rfl⟩, List.nodup_nil, hS ns hl, fun v R' H' r os _ hr _ e => by subst e; exact hr⟩
/-- a pair of numbers that the top has written -/
theorem con_q {K : PySem.W.Frag} {h : Heap} {mg : Str → Option Value} (X : K.In h) (G : h.Ns mainGlobals mg) {nm : Str} {a : Addr} {od : Option Addr} {n : Nat} {sl : Array (Option Value)} {i j : Int} {t u}
    (e : PySem.W.nsIn K mainGlobals nm = some (some (.ref a))) (l : K.lookup a = some ⟨.type "tuple", od, .seq #[.int i t, .int j u] n, sl⟩) : ∃ v u, mg nm = some u ∧ RelV v u ∧ ∀ R, Rp K R (.tup [.int i, .int j]) v :=
  ⟨.ref a, .ref a, PySem.W.mg_of X G e, rfl, fun R => ⟨a, [.int i, .int j], rfl, .inr ⟨_, _, _, l, rfl, rfl, by rw [sizeLine_eq]; show 2 ≤ _; omega, .cons ⟨_, rfl⟩ (.cons ⟨_, rfl⟩ .nil)⟩, ⟨_, _, rfl, rfl, _, _, rfl, rfl, rfl⟩⟩⟩
end DL

end
section
set_option Elab.async false
set_option linter.all false
set_option autoImplicit true
set_option maxRecDepth 10000
set_option maxHeartbeats 400000
namespace DL
open PySem L2
/-! ### the times at which a course shows a reading -/
def ST_next : Sg := fun ps Post => ∃ (c : List Pc) (i : Nat), ps = [.w (cD c), .d (.int (i : Int))] ∧ Post (.d (oD ((c[i + 1]?).map fun q => q.1))) []
def ST_div : Sg := fun ps Post => ∃ (a b : Rat) (j k : Nat), ps = [.d (qD a), .d (qD b)] ∧ b ≠ 0 ∧ Sz j a ∧ Sz k b⁻¹ ∧ j + k ≤ 7900 ∧ Post (.d (qD (a / b))) []
theorem fr_inv {b : Rat} : fr (b.den : Int) b.num = b⁻¹ := (Rat.inv_def b).symm
theorem fr_neg {n d : Int} : fr (-n) (-d) = fr n d := by
  unfold fr
  rw [Rat.neg_divInt_neg]
theorem div_eq {a b : Rat} : a * b⁻¹ = a / b := (Rat.div_def a b).symm
theorem gcd_nd (b : Rat) : Int.gcd b.num (b.den : Int) = 1 := by
  have := b.reduced
  simpa [Int.gcd, Nat.Coprime] using this
theorem inv_pos {b : Rat} (h : 0 < b.num) : D.tup [.int (b.den : Int), .int b.num] = qD b⁻¹ := by
  rw [qD_fr h (gcd_nd b), fr_inv]
theorem inv_neg {b : Rat} (h : b.num < 0) : D.tup [.int (-(b.den : Int)), .int (-b.num)] = qD b⁻¹ := by
  rw [qD_fr (by omega) (by rw [Int.neg_gcd, Int.gcd_neg]; exact gcd_nd b), fr_neg, fr_inv]
def tmP (p : Pc) (r : Rat) : Rat := p.1 + (r - p.2.1) / p.2.2
def tm (c : List Pc) (r : Rat) (i : Nat) : Option Rat := match c[i]? with
  | none => none
  | some p => if r < p.2.1 then none else match c[i + 1]? with
    | none => some (tmP p r)
    | some q => if tmP p r < q.1 then some (tmP p r) else none
def timesQ (c : List Pc) (r : Rat) : List Rat := (List.range c.length).filterMap (tm c r)
theorem range_step {α : Type} {f : Nat → Option α} {i : Nat} : (List.range (i + 1)).filterMap f = (List.range i).filterMap f ++ (f i).toList := by
  rw [List.range_succ, List.filterMap_append]
  cases e : f i <;> simp [e]
theorem fm_only {α : Type} {g : Nat → Option α} {k : Nat} (h : ∀ i, i ≠ k → g i = none) : ∀ n, k < n → (List.range n).filterMap g = (g k).toList
  | 0, h0 => by omega
  | n + 1, h0 => by
    rw [range_step]
    by_cases e : k = n
    · subst e
      have : (List.range k).filterMap g = [] := List.filterMap_eq_nil_iff.mpr fun i hi => h i (by have := List.mem_range.mp hi; omega)
      rw [this]; rfl
    · rw [fm_only h n (by omega), h n (fun z => e z.symm)]; simp
/-- rates above zero -/
def Up0 (c : List Pc) : Prop := ∀ p ∈ c, 0 < p.2.2
theorem tmP_line {p : Pc} {r : Rat} (h : 0 < p.2.2) : pline p (tmP p r) = r := by
  unfold pline tmP
  have h0 : p.2.2 ≠ 0 := fun z => by rw [z] at h; exact Rat.lt_irrefl h
  have : p.2.2 * ((r - p.2.1) / p.2.2) = r - p.2.1 := by
    rw [Rat.mul_comm, Rat.div_mul_cancel h0]
  grind
theorem tmP_ge {p : Pc} {r : Rat} (h : 0 < p.2.2) (hr : ¬ r < p.2.1) : p.1 ≤ tmP p r := by
  have e := tmP_line (r := r) h
  unfold pline at e
  rcases (Rat.le_total (a := p.1) (b := tmP p r)) with z | z
  · exact z
  · have z' : tmP p r - p.1 ≤ 0 := by grind
    rcases Rat.le_iff_lt_or_eq.mp z' with y | y
    · have : p.2.2 * (tmP p r - p.1) < 0 := by
        have := Rat.mul_lt_mul_of_pos_left y h
        rwa [Rat.mul_zero] at this
      grind
    · grind
theorem tmP_lt {p : Pc} {r x : Rat} (h : 0 < p.2.2) : tmP p r < x ↔ r < pline p x := by
  have e := tmP_line (r := r) h
  unfold pline at e ⊢
  constructor
  · intro z
    have z' : tmP p r - p.1 < x - p.1 := by grind
    have := Rat.mul_lt_mul_of_pos_left z' h
    grind
  · intro z
    by_cases y : tmP p r < x
    · exact y
    · replace y := Rat.not_lt.mp y
      have y' : x - p.1 ≤ tmP p r - p.1 := by grind
      have := Rat.mul_le_mul_of_nonneg_left y' (Rat.le_of_lt h)
      grind
theorem tm_some {c : List Pc} {r t : Rat} {i : Nat} (hu : Up0 c) (h : tm c r i = some t) : ∃ p, c[i]? = some p ∧ t = tmP p r ∧ p.1 ≤ t ∧ (∀ q, c[i + 1]? = some q → t < q.1) := by
  unfold tm at h
  split at h
  · cases h
  · rename_i p hp
    split at h
    · cases h
    · rename_i hr
      have h0 := hu p (List.mem_of_getElem? hp)
      split at h
      · rename_i hq
        cases h
        exact ⟨p, hp, rfl, tmP_ge h0 hr, fun q z => by rw [hq] at z; cases z⟩
      · rename_i q hq
        split at h
        · rename_i hl
          cases h
          exact ⟨p, hp, rfl, tmP_ge h0 hr, fun q' z => by rw [hq] at z; cases z; exact hl⟩
        · cases h
theorem times_mem {c : List Pc} {r t : Rat} (ha : Asc c) (hu : Up0 c) (h : t ∈ timesQ c r) : nowQ c t = some r ∧ ∃ p ∈ c, t = tmP p r := by
  unfold timesQ at h
  obtain ⟨i, hi, e⟩ := List.mem_filterMap.mp h
  obtain ⟨p, hp, ht, h1, h2⟩ := tm_some hu e
  refine ⟨?_, p, List.mem_of_getElem? hp, ht⟩
  rw [now_at ha hp h1 h2, ht, tmP_line (hu p (List.mem_of_getElem? hp))]
theorem times_up {c : List Pc} {r : Rat} (ha : Asc c) (hu : Up0 c) : Up (timesQ c r) := by
  unfold Up timesQ
  rw [List.pairwise_filterMap]
  refine List.Pairwise.imp ?_ List.pairwise_lt_range
  intro i j hij t ht u hu'
  obtain ⟨p, hp, -, h1, h2⟩ := tm_some hu ht
  obtain ⟨q, hq, -, h3, h4⟩ := tm_some hu hu'
  have hj := (List.getElem?_eq_some_iff.mp hq).1
  have e1 := atB (xs := c) (i := i + 1) (by omega)
  have h5 := h2 _ e1
  rcases Nat.lt_or_ge (i + 1) j with z | z
  · have := asc_lt ha e1 hq z; grind
  · have : i + 1 = j := by omega
    subst this
    rw [hq] at e1; cases e1; grind
/-- one piece's own row -/
theorem times_row {c : List Pc} {r : Rat} (ha : Asc c) (hu : Up0 c) {k : Nat} {p q : Pc} (hp : c[k]? = some p) (hq : c[k + 1]? = some q) : ((timesQ c r).filter fun t => !decide (t < p.1)).filter (fun t => decide (t < q.1)) = if !decide (r < p.2.1) && decide (r < pline p q.1) then [tmP p r] else [] := by
  have hk := (List.getElem?_eq_some_iff.mp hp).1
  unfold timesQ
  rw [List.filter_filter, List.filter_filterMap, fm_only (k := k) (fun i hi => ?_) _ hk]
  · have h0 := hu p (List.mem_of_getElem? hp)
    unfold tm
    rw [hp, hq]
    by_cases h1 : r < p.2.1
    · simp [h1]
    · by_cases h2 : tmP p r < q.1
      · have h3 := tmP_ge h0 h1
        have h4 : ¬ tmP p r < p.1 := by grind
        have h5 := (tmP_lt h0).mp h2
        simp [h1, h2, h4, h5]
      · have h5 : ¬ r < pline p q.1 := fun z => h2 ((tmP_lt h0).mpr z)
        simp [h1, h2, h5]
  · cases e : tm c r i with
    | none => rfl
    | some t =>
      obtain ⟨p', hp', -, h1, h2⟩ := tm_some hu e
      have : (decide (t < q.1) && !decide (t < p.1)) = false := by
        rcases Nat.lt_or_ge i k with z | z
        · have e1 := atB (xs := c) (i := i + 1) (by omega)
          have h5 := h2 _ e1
          have : t < p.1 := by
            rcases Nat.lt_or_ge (i + 1) k with y | y
            · have := asc_lt ha e1 hp y; grind
            · have : i + 1 = k := by omega
              subst this
              rw [hp] at e1; cases e1; exact h5
          simp [this]
        · have : ¬ t < q.1 := by
            rcases Nat.lt_or_ge (k + 1) i with y | y
            · have := asc_lt ha hq hp' y; grind
            · have : k + 1 = i := by omega
              subst this
              rw [hq] at hp'; cases hp'; grind
          simp [this]
      simpa using this
theorem times_rowL {c : List Pc} {r : Rat} (ha : Asc c) (hu : Up0 c) {k : Nat} {p : Pc} (hp : c[k]? = some p) (hq : c[k + 1]? = none) : ((timesQ c r).filter fun t => !decide (t < p.1)) = if !decide (r < p.2.1) then [tmP p r] else [] := by
  have hk := (List.getElem?_eq_some_iff.mp hp).1
  have hk2 := List.getElem?_eq_none_iff.mp hq
  unfold timesQ
  rw [List.filter_filterMap, fm_only (k := k) (fun i hi => ?_) _ hk]
  · have h0 := hu p (List.mem_of_getElem? hp)
    unfold tm
    rw [hp, hq]
    by_cases h1 : r < p.2.1
    · simp [h1]
    · have h3 := tmP_ge h0 h1
      have h4 : ¬ tmP p r < p.1 := by grind
      simp [h1, h4]
  · cases e : tm c r i with
    | none => rfl
    | some t =>
      obtain ⟨p', hp', -, h1, h2⟩ := tm_some hu e
      have hi' := (List.getElem?_eq_some_iff.mp hp').1
      have e1 := atB (xs := c) (i := i + 1) (by omega)
      have h5 := h2 _ e1
      have : t < p.1 := by
        rcases Nat.lt_or_ge (i + 1) k with y | y
        · have := asc_lt ha e1 hp y; grind
        · have : i + 1 = k := by omega
          subst this
          rw [hp] at e1; cases e1; exact h5
      simp [this]
def Cv (v : Nat) (c : List Pc) : Prop := ∀ p ∈ c, Sz v p.2.2⁻¹
theorem tmP_sz {s t r v w : Nat} {p : Pc} {x : Rat} (h : Sz s p.1 ∧ Sz t p.2.1 ∧ Sz r p.2.2) (hv : Sz v p.2.2⁻¹) (hx : Sz w x) : Sz (s + (w + t + 1 + v) + 1) (tmP p x) := by
  unfold tmP
  rw [← div_eq]
  exact h.1.add ((hx.sub h.2.1).mul hv)
def ST_times : Sg := fun ps Post => ∃ (c : List Pc) (x : Rat) (s t r v w : Nat), ps = [.w (cD c), .d (qD x)] ∧ Cz s t r c ∧ Cv v c ∧ Up0 c ∧ Sz w x ∧ 2 * s + t + v + w + 10 ≤ 7900 ∧ c.length ≤ 100000 ∧ Post (.own (.lst ((timesQ c x).map qD))) []
def ST_near : Sg := fun ps Post => ∃ (v : Rat) (w : Nat), ps = [.own .sto, .w (qD v)] ∧ Sz w v ∧ w ≤ 7000 ∧ ∀ u, Sz (w + 11) u → Post (.d (qD u)) [.sto]
def ST_limit : Sg := fun ps Post => ∃ (c : List Pc) (i : Nat) (p : Pc) (s t r : Nat), ps = [.w (cD c), .d (.int (i : Int))] ∧ c[i]? = some p ∧ Cz s t r c ∧ 2 * s + t + r + 10 ≤ 7900 ∧ Post (.d (oD ((c[i + 1]?).map fun q => pline p q.1))) []
def ST_values : Sg := fun ps Post => ∃ (c : List Pc) (s t r : Nat), ps = [.own .sto, .w (cD c)] ∧ c ≠ [] ∧ Cz s t r c ∧ 2 * s + 2 * t + r + 30 ≤ 7900 ∧ c.length ≤ 1000 ∧ ∀ vs : List Rat, vs ≠ [] → vs.length ≤ 40 → (∀ v ∈ vs, Sz (2 * t + 2 * s + r + 20) v) → Post (.own (.lst (vs.map qD))) [.sto]
def ST_timesright : Sg := fun ps Post => ∃ (c : List Pc) (x : Rat) (s t r v w : Nat), ps = [.w (cD c), .w (qD x), .w (.lst ((timesQ c x).map qD))] ∧ Cz s t r c ∧ Cv v c ∧ Up0 c ∧ Asc c ∧ Sz w x ∧ 2 * s + 2 * t + r + 2 * v + 2 * w + 40 ≤ 7900 ∧ c.length ≤ 1000 ∧ Post (.d (.bl true)) []
theorem times_len {c : List Pc} {x : Rat} : (timesQ c x).length ≤ c.length := by
  have := List.length_filterMap_le (tm c x) (List.range c.length)
  rw [List.length_range] at this
  exact this
theorem cmp_lt {a b : Rat} : decide (cmpQ a b < 0) = decide (a < b) := by
  unfold cmpQ
  by_cases h1 : a < b
  · simp [h1]
  · by_cases h2 : b < a <;> simp [h1, h2]
section
open PyProof.Rows hiding St
variable {X : Cx} {n : Nm} {c : Cc} {Γ : SL} {e a b : Expr} {x y z : DL.D} {pos p : Pos} {nm : Str} {D : DE}
/-- a, b, c = a tuple's three things -/
theorem ws_unp3 (i j l : Nat) {nx ny nz : Str} {px py pz pt : Pos} {kt : Nat} (h : WE X n c Γ e fun x Γ' => ∃ u v w, x = .tup [u, v, w] ∧ D.nx (((Γ'.set i (.d u)).set j (.d v)).set l (.d w))) (hi : n.N[i]? = some nx := by rfl) (hh : n.hot = false := by rfl) (hj : n.N[j]? = some ny := by rfl) (hl : n.N[l]? = some nz := by rfl)
    (li : n.as.contains i = true := by rfl) (lj : n.as.contains j = true := by rfl) (ll : n.as.contains l = true := by rfl) (oi : n.oi.contains i = false := by rfl) (oj : n.oi.contains j = false := by rfl) (ol : n.oi.contains l = false := by rfl)
    (h1 : (assignEach [.Name nx px, .Name ny py, .Name nz pz] X.env).map (·.2) = assign (.Name nx px) X.env :: (assignEach [.Name ny py, .Name nz pz] X.env).map (·.2) := by rfl) (h2 : (assignEach [.Name ny py, .Name nz pz] X.env).map (·.2) = assign (.Name ny py) X.env :: (assignEach [.Name nz pz] X.env).map (·.2) := by rfl) (h2' : (assignEach [.Name nz pz] X.env).map (·.2) = assign (.Name nz pz) X.env :: (assignEach [] X.env).map (·.2) := by rfl)
    (h3 : (assignEach [.Name nx px, .Name ny py, .Name nz pz] X.env).length = 3 := by rfl) (h4 : (assignEach [.Name nx px, .Name ny py, .Name nz pz] X.env).findIdx? (·.1) = none := by rfl)
    (hs : swapsWithSole [.Tuple [.Name nx px, .Name ny py, .Name nz pz] kt pt] e pos.line X.env = pure false := by rfl) (hw : swappedStores [.Tuple [.Name nx px, .Name ny py, .Name nz pz] kt pt] e X.env = pure none := by rfl)
    (h5 : (assignEach [.Tuple [.Name nx px, .Name ny py, .Name nz pz] kt pt] X.env).map (·.2) = [assign (.Tuple [.Name nx px, .Name ny py, .Name nz pz] kt pt) X.env] := by rfl) :
    WS X n c Γ (.Assign [.Tuple [.Name nx px, .Name ny py, .Name nz pz] kt pt] e pos) D := .mk fun hn σ R H s E ok => by
  obtain ⟨l1, l2⟩ := hn.loc i nx li hi
  obtain ⟨l3, l4⟩ := hn.loc j ny lj hj
  obtain ⟨l5, l6⟩ := hn.loc l nz ll hl
  have nd : X.N.Nodup := by rw [hn.eq]; exact hn.nd
  refine (ps_asg pW (pg_tup (hn.calm hh) (pgs_cons (pg_name nd (by rw [hn.eq]; exact hi) l1 l2) (pgs_cons (pg_name nd (by rw [hn.eq]; exact hj) l3 l4) (pgs_cons (pg_name nd (by rw [hn.eq]; exact hl) l5 l6) pgs_nil h2') h2) h1) h3 h4) hs hw h5).w (h.run hn σ R H s _ fun v R' H' x Γ' s' e' r ⟨u, w, y, hx, p⟩ => ?_)
  subst hx
  obtain ⟨t, vs, rfl, hT, v1, ws, rfl, q1, v2, ws2, rfl, q2, v3, ws3, rfl, q3, q4⟩ := r
  cases (show ws3 = [] from q4)
  exact ⟨t, _, rfl, ex_t s'.rh hT, rfl, v1, [v2, v3], rfl, v2, [v3], rfl, v3, [], rfl, rfl, ok.nx _ R' H' _ (((s'.setD i q1 (hn.noi oi)).setD j q2 (hn.noi oj)).setD l q3 (hn.noi ol)) e' p⟩
/-- what a slot holds is forgotten -/
theorem wb_any (i : Nat) {sts : List Stmt} {s0 : Slot} (h : WB X n c (Γ.set i .any) sts D) (hg : Γ[i]? = some s0 := by rfl) (hoi : n.oi.contains i = false := by rfl) : WB X n c Γ sts D := .mk fun hn σ R H s E ok => by
  obtain ⟨w, e1, -⟩ := s.sl i _ hg
  have hl : i < Γ.length := (List.getElem?_eq_some_iff.mp hg).1
  have es : σ.set i w = σ := by
    apply List.ext_getElem?
    intro j
    by_cases hj : i = j
    · subst hj; rw [List.getElem?_set_self (by rw [← s.len]; exact hl), e1]
    · rw [List.getElem?_set_ne hj]
  have s2 : SOk X.K c (Γ.set i .any) (σ.set i w) R H := s.set i (v := w) rfl trivial (hn.noi hoi)
  rw [es] at s2
  exact h.run hn σ R H s2 E ok
end
end DL

end
section
set_option Elab.async false
set_option linter.all false
set_option autoImplicit true
set_option maxRecDepth 10000
set_option maxHeartbeats 400000
namespace DL
open PySem L2
open PyProof.Rows hiding St
/-! ### xs.count(x) of fractions -/
def rCntD (K : PySem.W.Frag) : V → List V → Hp → VK → Prop := fun x xs H Q => ∃ (p : Addr) (vs : List V) (ds : List PyData) (d : PyData) (u : V), x = .ref p ∧ xs = [u] ∧ SqL K H p vs ∧ DpAll K H vs ds ∧ Dp K H u d ∧ PyData.canLayAll0 ds = true ∧ d.canLay0 = true ∧ d.depth ≤ 60 ∧ Q (.int ((ds.countP fun y => PyData.eqv y d : Nat) : Int)) H
theorem mt_countD {X : Cx} (hu : X.A.units + 64 < cLine) : MtR X "list.count" (rCntD X.K) := by
  intro pins s σ H x xs v us Q I rx rxs h
  obtain ⟨p, vs, ds, d, u, rfl, rfl, hs, hD, hd, c1, c2, c3, q⟩ := h
  cases rx
  obtain ⟨u', rfl, ru⟩ := rxs.one
  obtain ⟨its, rv, ⟨o, n, ho, hc, hdn⟩, hlen⟩ := I.list hs
  obtain ⟨as, r1⟩ := Dp.readsAll I ds vs its hD rv
  obtain ⟨bs, r2⟩ := Dp.reads I d u u' hd ru
  refine SeqAt.count_list_data (vs := its.toArray) (xs := ds) (d := d) ⟨o, ho, hc, n, hdn.2⟩ (by simpa using r1) r2 (PyData.plainAll_of_canLay0 _ c1) (PyData.plain_of_canLay0 _ c2) (by have := Nat.min_le_right (PyData.depthAll ds) d.depth; omega) ?_
  exact ⟨.int ((ds.countP fun y => PyData.eqv y d : Nat) : Int), H, I.tok _, ⟨s.toks, rfl⟩, q⟩
theorem qs_lay : ∀ (a : List Rat), PyData.canLayAll0 (pdL (a.map qD)) = true
  | [] => rfl
  | p :: a => by
    show ((qD p).pd.canLay0 && PyData.canLayAll0 (pdL (a.map qD))) = true
    rw [qs_lay a]; rfl
theorem qs_count (q : Rat) : ∀ (a : List Rat), ((pdL (a.map qD)).countP fun y => PyData.eqv y (qD q).pd) = a.count q
  | [] => rfl
  | p :: a => by
    have e : PyData.eqv (qD p).pd (qD q).pd = decide (p = q) := eqv_q p q
    show ((qD p).pd :: pdL (a.map qD)).countP _ = _
    rw [List.countP_cons, qs_count q a, e, List.count_cons]
    simp
section
variable {X : Cx} {n : Nm} {c : Cc} {Γ : SL} {e a b : Expr} {pos ap : Pos}
theorem ev_countQ {qs : List Rat} {q : Rat} (ha : EV X n c Γ e (.lst (qs.map qD))) (hb : EV X n c Γ b (qD q))
    (hbase : attributeBase e "count" X.env (eval e X.env) = eval e X.env := by rfl) (hline : (ap.endLine == pos.line) = true := by rfl) (hst : isStar b = false := by rfl) : EV X n c Γ (.Call (.Attribute e "count" ap) [b] [] pos) (.int ((qs.count q : Nat) : Int)) := .mk fun hn σ R H s Q k => by
  refine (pe_bm PySem.F.plainAttrs_list PySem.F.slot_list_count PySem.F.type_list_count (mt_countD hn.units) pW pWA hbase (by rw [se_c hst]; rfl) hline (se_c hst) rfl).w ?_
  refine ha.run hn σ R H s _ fun v R1 H1 x Γ1 s1 e1 r1 ⟨g1, g2⟩ => ?_
  subst g1 g2
  obtain ⟨p, vs, rfl, h2, h3⟩ := r1
  refine ⟨.inl ⟨rfl, _, .inl (.inl (s1.rh p _ h2))⟩, ?_⟩
  refine (wa_of (ea_cons (ek_d hb) ea_nil (se_c hst)) (P := fun ks Γ' => ks = [.d (qD q)] ∧ Γ' = Γ1) ⟨rfl, rfl⟩).run hn σ R1 H1 s1 _ fun us R2 H2 ks Γ2 s2 e2 r2 ⟨g3, g4⟩ => ?_
  subst g3 g4
  obtain ⟨u, ws, rfl, h4, h5⟩ := r2
  cases (show ws = [] from h5)
  refine ⟨p, vs, pdL (qs.map qD), (qD q).pd, u, rfl, rfl, .inl (.inl (s2.rh p _ (e2 p _ h2))), dpAll_mono s2.rh (RpL.dp _ _ (qs_lay qs) (h3.mono e2)), dp_mono s2.rh (Rp.dp _ _ rfl h4), qs_lay qs, rfl, Nat.le_of_ble_eq_true rfl, ?_⟩
  rw [qs_count]
  exact k _ R2 H2 (.int ((qs.count q : Nat) : Int)) _ s2 (e1.trans e2) rfl ⟨rfl, rfl⟩
end
theorem up_nodup {qs : List Rat} (h : Up qs) : qs.Nodup := List.Pairwise.imp (fun h => Rat.ne_of_lt h) h
theorem pl_tq {qs : List Rat} (h : qs.length ≤ 100000) : (DL.D.tup (qs.map qD)).pl 5 := ⟨by rw [List.length_map]; exact h, fun d hd => by
  obtain ⟨p, _, rfl⟩ := List.mem_map.mp hd
  exact pl_q 3 p⟩
/-- the last piece set to show x -/
def setL (c : List Pc) (x : Rat) : List Pc := c.set (c.length - 1) (((c[c.length - 1]?).getD (0, 0, 0)).1, x, ((c[c.length - 1]?).getD (0, 0, 0)).2.2)
theorem setL_at {c : List Pc} {x : Rat} {p : Pc} (h : c[c.length - 1]? = some p) : setL c x = c.set (c.length - 1) (p.1, x, p.2.2) := by
  unfold setL
  rw [h]; rfl
theorem setL_mem {c : List Pc} {x : Rat} {p q : Pc} (h : c[c.length - 1]? = some p) (hq : q ∈ setL c x) : q ∈ c ∨ q = (p.1, x, p.2.2) := by
  rw [setL_at h] at hq
  exact List.mem_or_eq_of_mem_set hq
theorem setL_fst {c : List Pc} {x : Rat} {p : Pc} (h : c[c.length - 1]? = some p) : (setL c x).map (fun p => p.1) = c.map (fun p => p.1) := by
  rw [setL_at h]
  apply List.ext_getElem?
  intro i
  rw [List.getElem?_map, List.getElem?_map]
  by_cases e : c.length - 1 = i
  · subst e
    rw [List.getElem?_set_self (List.getElem?_eq_some_iff.mp h).1, h]; rfl
  · rw [List.getElem?_set_ne e]
theorem setL_asc {c : List Pc} {x : Rat} {p : Pc} (h : c[c.length - 1]? = some p) (ha : Asc c) : Asc (setL c x) := by
  have e1 : ∀ d : List Pc, Asc d ↔ (d.map (fun p => p.1)).Pairwise (· < ·) := fun d => by unfold Asc; rw [List.pairwise_map]
  rw [e1, setL_fst h, ← e1]; exact ha
theorem setL_count {c : List Pc} {x : Rat} {p : Pc} (h : c[c.length - 1]? = some p) (ha : Asc c) (hu : Up0 c) : (timesQ (setL c x) x).count p.1 = 1 := by
  have hi := (List.getElem?_eq_some_iff.mp h).1
  have hl : (setL c x).length = c.length := by rw [setL_at h, List.length_set]
  have hu' : Up0 (setL c x) := fun q hq => by
    rcases setL_mem h hq with z | rfl
    · exact hu q z
    · exact hu p (List.mem_of_getElem? h)
  rw [(up_nodup (times_up (setL_asc h ha) hu')).count, if_pos]
  unfold timesQ
  rw [List.mem_filterMap]
  refine ⟨c.length - 1, List.mem_range.mpr (by omega), ?_⟩
  have e1 : (setL c x)[c.length - 1]? = some (p.1, x, p.2.2) := by rw [setL_at h, List.getElem?_set_self hi]
  have e2 : (setL c x)[c.length - 1 + 1]? = none := List.getElem?_eq_none (by omega)
  unfold tm
  rw [e1]
  simp only [e2, Rat.lt_irrefl, if_false]
  unfold tmP
  have : (x - x) / p.2.2 = 0 := by rw [Rat.sub_self, Rat.div_def, Rat.zero_mul]
  simp only [this, Rat.add_zero]
theorem inv_sz {N n k : Nat} {q : Rat} (h : Sd N n q) (h0 : N ≠ 0) (hN : N < 2 ^ k) (hn : n ≤ k) (hp : 0 < q.num) : Sz k q⁻¹ := by
  rw [← fr_inv]
  have hd := Nat.le_of_dvd (by omega) h.1
  refine fr_sz ?_ (h.2.mono hn) (by omega)
  have : Bt k (q.den : Int) := by show ((q.den : Nat) : Int).natAbs < _; rw [Int.natAbs_natCast]; omega
  exact this.mono (by omega)
theorem inv_szS {k : Nat} {q : Rat} (h : Sz k q) (hp : 0 < q.num) : Sz (8 * k) q⁻¹ := by
  rw [← fr_inv]
  exact fr_sz (h.d.mono (by omega)) h.n (by omega)
theorem ixN_nat {m k : Nat} (h : k < m) : ixN m (k : Int) = some k := by
  unfold ixN
  rw [if_pos (by omega), if_pos (by omega)]; simp
end DL

end
section
set_option Elab.async false
set_option linter.all false
set_option autoImplicit true
set_option maxRecDepth 10000
set_option maxHeartbeats 400000
namespace DL
open PySem L2
section
open PyProof.Rows hiding St
variable {X : Cx} {n : Nm} {c : Cc} {Γ : SL} {e a b : Expr} {x y z : DL.D} {pos p : Pos} {nm : Str} {D : DE} {k : AK}
/-- a, b, c, d = a tuple's four things -/
theorem ws_unp4 (i j l m : Nat) {nx ny nz nw : Str} {px py pz pw pt : Pos} {kt : Nat} (h : WE X n c Γ e fun x Γ' => ∃ u v w y, x = .tup [u, v, w, y] ∧ D.nx ((((Γ'.set i (.d u)).set j (.d v)).set l (.d w)).set m (.d y))) (hi : n.N[i]? = some nx := by rfl) (hh : n.hot = false := by rfl) (hj : n.N[j]? = some ny := by rfl) (hl : n.N[l]? = some nz := by rfl) (hm : n.N[m]? = some nw := by rfl)
    (li : n.as.contains i = true := by rfl) (lj : n.as.contains j = true := by rfl) (ll : n.as.contains l = true := by rfl) (lm : n.as.contains m = true := by rfl) (oi : n.oi.contains i = false := by rfl) (oj : n.oi.contains j = false := by rfl) (ol : n.oi.contains l = false := by rfl) (om : n.oi.contains m = false := by rfl)
    (h1 : (assignEach [.Name nx px, .Name ny py, .Name nz pz, .Name nw pw] X.env).map (·.2) = assign (.Name nx px) X.env :: (assignEach [.Name ny py, .Name nz pz, .Name nw pw] X.env).map (·.2) := by rfl) (h2 : (assignEach [.Name ny py, .Name nz pz, .Name nw pw] X.env).map (·.2) = assign (.Name ny py) X.env :: (assignEach [.Name nz pz, .Name nw pw] X.env).map (·.2) := by rfl) (h2' : (assignEach [.Name nz pz, .Name nw pw] X.env).map (·.2) = assign (.Name nz pz) X.env :: (assignEach [.Name nw pw] X.env).map (·.2) := by rfl) (h2'' : (assignEach [.Name nw pw] X.env).map (·.2) = assign (.Name nw pw) X.env :: (assignEach [] X.env).map (·.2) := by rfl)
    (h3 : (assignEach [.Name nx px, .Name ny py, .Name nz pz, .Name nw pw] X.env).length = 4 := by rfl) (h4 : (assignEach [.Name nx px, .Name ny py, .Name nz pz, .Name nw pw] X.env).findIdx? (·.1) = none := by rfl)
    (hs : swapsWithSole [.Tuple [.Name nx px, .Name ny py, .Name nz pz, .Name nw pw] kt pt] e pos.line X.env = pure false := by rfl) (hw : swappedStores [.Tuple [.Name nx px, .Name ny py, .Name nz pz, .Name nw pw] kt pt] e X.env = pure none := by rfl)
    (h5 : (assignEach [.Tuple [.Name nx px, .Name ny py, .Name nz pz, .Name nw pw] kt pt] X.env).map (·.2) = [assign (.Tuple [.Name nx px, .Name ny py, .Name nz pz, .Name nw pw] kt pt) X.env] := by rfl) :
    WS X n c Γ (.Assign [.Tuple [.Name nx px, .Name ny py, .Name nz pz, .Name nw pw] kt pt] e pos) D := .mk fun hn σ R H s E ok => by
  obtain ⟨l1, l2⟩ := hn.loc i nx li hi
  obtain ⟨l3, l4⟩ := hn.loc j ny lj hj
  obtain ⟨l5, l6⟩ := hn.loc l nz ll hl
  obtain ⟨l7, l8⟩ := hn.loc m nw lm hm
  have nd : X.N.Nodup := by rw [hn.eq]; exact hn.nd
  refine (ps_asg pW (pg_tup (hn.calm hh) (pgs_cons (pg_name nd (by rw [hn.eq]; exact hi) l1 l2) (pgs_cons (pg_name nd (by rw [hn.eq]; exact hj) l3 l4) (pgs_cons (pg_name nd (by rw [hn.eq]; exact hl) l5 l6) (pgs_cons (pg_name nd (by rw [hn.eq]; exact hm) l7 l8) pgs_nil h2'') h2') h2) h1) h3 h4) hs hw h5).w (h.run hn σ R H s _ fun v R' H' x Γ' s' e' r ⟨u, w, y, y2, hx, p⟩ => ?_)
  subst hx
  obtain ⟨t, vs, rfl, hT, v1, ws, rfl, q1, v2, ws2, rfl, q2, v3, ws3, rfl, q3, v4, ws4, rfl, q4, q5⟩ := r
  cases (show ws4 = [] from q5)
  exact ⟨t, _, rfl, ex_t s'.rh hT, rfl, v1, [v2, v3, v4], rfl, v2, [v3, v4], rfl, v3, [v4], rfl, v4, [], rfl, rfl, ok.nx _ R' H' _ ((((s'.setD i q1 (hn.noi oi)).setD j q2 (hn.noi oj)).setD l q3 (hn.noi ol)).setD m q4 (hn.noi om)) e' p⟩
/-- t[lo:hi] -/
theorem ev_sliceT {lo hi : Option Expr} {l1 h1 : Option Int} {p2 : Pos} {xs : List DL.D} (ha : EK X n c Γ a k) (hl : EP1 X n c Γ lo l1) (hh : EP1 X n c Γ hi h1) (hw : ¬ (HT.sIx xs.length 0 l1 = 0 ∧ HT.sIx xs.length xs.length h1 = xs.length)) (ga : k.get Γ = some (.tup xs) := by rfl) : EV X n c Γ (.Subscript a (.Slice lo hi none p2) pos) (.tup (cutD xs l1 h1)) := .mk fun hn σ R H s Q q =>
  (pe_slice sl_tup pW pP1 pP1).w (ha.run hn σ R H s _ fun v R1 H1 k' Γ1 s1 e1 r1 ⟨g1, g2⟩ => by
    subst g1 g2
    exact hl.run hn s1 _ fun R2 H2 s2 e2 => hh.run hn s2 _ fun R3 H3 s3 e3 => by
      obtain ⟨a1, vs, rfl, h2, h3⟩ := (((r1.mono e2).mono e3).wk s3 ga).tup s3.rh
      refine ⟨a1, vs, rfl, h2, by rw [← h3.length]; exact hw, fun m hm => ?_⟩
      have g := s3.new (.tup (cutV vs l1 h1)) hm
      exact q _ _ _ (.tup (cutD xs l1 h1)) _ (s3.grow g) (((e1.trans e2).trans e3).trans g.r) ⟨m, _, rfl, .inl (.inl upd_same), (h3.cut _ _).mono g.r⟩ ⟨rfl, rfl⟩)
/-- for x in e, where e's list is told when it is there -/
theorem ws_forLP (j : Nat) {body : List Stmt} {tp : Pos} (P : List DL.D → Prop) (Inv : Nat → SL → Prop) (h : WE X n c Γ e fun x Γ1 => ∃ ds, x = .lst ds ∧ P ds ∧ Inv 0 Γ1)
    (hs : ∀ ds, P ds → ∀ i Γ' d, ds[i]? = some d → Inv i Γ' → WB X n c (Γ'.set j (.d d)) body (turnE D (Inv (i + 1)))) (hd : ∀ ds Γ', P ds → Inv ds.length Γ' → D.nx Γ') (hj : n.N[j]? = some nm := by rfl) (hh : n.hot = false := by rfl) (ha : n.as.contains j = true := by rfl) (hoi : n.oi.contains j = false := by rfl)
    (hf : ∀ x, foldedSetIterable e X.env x = pure x := by intro _; rfl) : WS X n c Γ (.For (.Name nm tp) e body [] pos) D := .mk fun hn σ R H s E ok => by
  obtain ⟨l1, l2⟩ := hn.loc j nm ha hj
  refine (ps_for hn.po (hn.calm hh) (pi_list pW) (pg_name (by rw [hn.eq]; exact hn.nd) (by rw [hn.eq]; exact hj) l1 l2) pWB hf).w (h.run hn σ R H s _ fun v R1 H1 x Γ1 s1 e1 r1 ⟨ds, hx, hp, p1⟩ => ?_)
  subst hx
  obtain ⟨a, vs, rfl, ha', hr⟩ := r1
  refine ⟨a, rfl, ⟨vs, .inl (.inl (s1.rh a _ ha'))⟩, for_list (xs := vs) (fun i σ' H' => ∃ R' Γ', SOk X.K c Γ' σ' R' H' ∧ Ex R1 R' ∧ Inv i Γ') ⟨R1, Γ1, s1, Ex.refl _, p1⟩ (fun i σ' H' _ ⟨R', Γ', s', e', _⟩ => .inl (.inl (s'.rh a _ (e' a _ ha')))) (fun i v σ' H' hi ⟨R', Γ', s', e', p'⟩ => ?_) (fun σ' H' ⟨R', Γ', s', e', p'⟩ => ?_)⟩
  · obtain ⟨d, hd1, hd2⟩ := hr.get' hi
    exact (hs ds hp i Γ' d hd1 p').run hn _ R' H' (s'.setD j (Rp.mono e' _ _ hd2) (hn.noi hoi)) _ (turnE_ok ok (e1.trans e') fun σ2 R2 H2 Γ2 s2 e2 w => ⟨R2, Γ2, s2, e'.trans e2, w⟩)
  · rw [← hr.length] at p'
    exact ok.nx σ' R' H' Γ' s' (e1.trans e') (hd ds Γ' hp p')
theorem ev_call4 {d f : Expr} {l m q : AK} {ps : List Par} {S : Sg} (hc : CalF X n.k nm S) (j : Nat) (ha : EK X n c Γ a k) (hb : EK X n c Γ b l) (hd : EK X n c Γ d m) (hf : EK X n c Γ f q) (h : ∀ Post : Res → List OB → Prop, Post (.d z) [] → S ps Post) (hp : pars Γ [k, l, m, q] = some ps := by rfl) (ho : ownIx [k, l, m, q] = [] := by rfl) (hj : n.GN[j]? = some nm := by rfl)
    (he : starEach [a, b, d, f] X.env = (false, eval a X.env) :: starEach [b, d, f] X.env := by exact se_c rfl) (he2 : starEach [b, d, f] X.env = (false, eval b X.env) :: starEach [d, f] X.env := by exact se_c rfl) (he3 : starEach [d, f] X.env = (false, eval d X.env) :: starEach [f] X.env := by exact se_c rfl) (he4 : starEach [f] X.env = (false, eval f X.env) :: starEach [] X.env := by exact se_c rfl) (hpl : (backTo pos (starEach [b, d, f] X.env)).any (·.1) = false := by exact se_any rfl) : EV X n c Γ (.Call (.Name nm p) [a, b, d, f] [] pos) z :=
  we_call hc j (wa_of (ea_cons ha (ea_cons hb (ea_cons hd (ea_cons hf ea_nil he4) he3) he2) he) ⟨ps, hp, by rw [ho]; exact List.nodup_nil, by rw [ho]; simp, h _ ⟨z, rfl, rfl, by rw [ho]; rfl⟩⟩) hj he hpl
end
/-! ### spans -/
abbrev Spn := Option Rat × Option Rat
abbrev sD (s : Spn) : D := .tup [oD s.1, oD s.2]
def SzO (k : Nat) (o : Option Rat) : Prop := ∀ q, o = some q → Sz k q
def SzS (k : Nat) (s : Spn) : Prop := SzO k s.1 ∧ SzO k s.2
theorem SzO.mono {j k : Nat} {o : Option Rat} (h : SzO j o) (e : j ≤ k) : SzO k o := fun q hq => (h q hq).mono e
theorem SzS.mono {j k : Nat} {s : Spn} (h : SzS j s) (e : j ≤ k) : SzS k s := ⟨h.1.mono e, h.2.mono e⟩
def OrdS (s : Spn) : Prop := ∀ a b, s.1 = some a → s.2 = some b → ¬ b < a
def loIn (o : Option Rat) (t : Rat) : Bool := match o with
  | none => true
  | some a => !decide (t < a)
def hiIn (o : Option Rat) (t : Rat) : Bool := match o with
  | none => true
  | some a => !decide (a < t)
def inS (s : Spn) (t : Rat) : Bool := loIn s.1 t && hiIn s.2 t
def crossB (lo hi : Option Rat) : Bool := match lo, hi with
  | some a, some b => decide (b < a)
  | _, _ => false
def maxQ (a b : Rat) : Rat := if a < b then b else a
def minQ (a b : Rat) : Rat := if b < a then b else a
def meetLo (a b : Option Rat) : Option Rat := match a, b with
  | none, o => o
  | some x, none => some x
  | some x, some y => some (maxQ x y)
def meetHi (a b : Option Rat) : Option Rat := match a, b with
  | none, o => o
  | some x, none => some x
  | some x, some y => some (minQ x y)
def meetQ (a b : Spn) : Option Spn := if crossB (meetLo a.1 b.1) (meetHi a.2 b.2) then none else some (meetLo a.1 b.1, meetHi a.2 b.2)
def oS : Option Spn → D
  | none => .non
  | some s => sD s
def inO (o : Option Spn) (t : Rat) : Bool := match o with
  | none => false
  | some s => inS s t
def shQ (s : Spn) (d : Rat) : Spn := (s.1.map (· + d), s.2.map (· + d))
def mirQ (s : Spn) : Spn := (s.2.map (- ·), s.1.map (- ·))
abbrev Stp := Rat × Rat × Rat × Rat
abbrev stD (x : Stp) : D := .tup [qD x.1, qD x.2.1, qD x.2.2.1, qD x.2.2.2]
def thereQ (x : Stp) : Rat := x.2.1 - x.1
def homeQ (x : Stp) : Rat := x.2.2.2 - x.2.2.1
def offQ (x : Stp) (f b : Spn) : Option Spn := meetQ (shQ (mirQ f) (x.2.1 - x.1)) (shQ b (x.2.2.1 - x.2.2.2))
def plainQ (x : Stp) : Rat := ((x.2.1 - x.1) + (x.2.2.1 - x.2.2.2)) / fr 2 1
theorem lo_meet (a b : Option Rat) (t : Rat) : loIn (meetLo a b) t = (loIn a t && loIn b t) := by
  cases a <;> cases b <;> simp only [meetLo, loIn, Bool.true_and, Bool.and_true, Bool.and_self]
  rename_i x y
  unfold maxQ
  rw [Bool.eq_iff_iff]
  by_cases h : x < y <;> simp only [h, if_true, if_false, Bool.and_eq_true, Bool.not_eq_true', decide_eq_false_iff_not] <;> grind
theorem hi_meet (a b : Option Rat) (t : Rat) : hiIn (meetHi a b) t = (hiIn a t && hiIn b t) := by
  cases a <;> cases b <;> simp only [meetHi, hiIn, Bool.true_and, Bool.and_true, Bool.and_self]
  rename_i x y
  unfold minQ
  rw [Bool.eq_iff_iff]
  by_cases h : y < x <;> simp only [h, if_true, if_false, Bool.and_eq_true, Bool.not_eq_true', decide_eq_false_iff_not] <;> grind
theorem cross_in {lo hi : Option Rat} {t : Rat} (h : crossB lo hi = true) : (loIn lo t && hiIn hi t) = false := by
  unfold crossB at h
  split at h
  · rename_i a b
    have h' := of_decide_eq_true h
    unfold loIn hiIn
    rw [Bool.eq_false_iff]
    simp only [ne_eq, Bool.and_eq_true, Bool.not_eq_true', decide_eq_false_iff_not]
    grind
  · cases h
theorem in_meet (a b : Spn) (t : Rat) : inO (meetQ a b) t = (inS a t && inS b t) := by
  have e : (inS a t && inS b t) = (loIn (meetLo a.1 b.1) t && hiIn (meetHi a.2 b.2) t) := by
    rw [lo_meet, hi_meet]
    unfold inS
    cases loIn a.1 t <;> cases hiIn a.2 t <;> cases loIn b.1 t <;> cases hiIn b.2 t <;> rfl
  rw [e]
  unfold meetQ
  cases h : crossB (meetLo a.1 b.1) (meetHi a.2 b.2) with
  | true => rw [if_pos rfl, cross_in h]; rfl
  | false => rw [if_neg (by simp)]; rfl
theorem lo_add (o : Option Rat) (d t : Rat) : loIn (o.map (· + d)) t = loIn o (t - d) := by
  cases o with
  | none => rfl
  | some a =>
    have : t < a + d ↔ t - d < a := by constructor <;> intro h <;> grind
    simp [loIn, this]
theorem hi_add (o : Option Rat) (d t : Rat) : hiIn (o.map (· + d)) t = hiIn o (t - d) := by
  cases o with
  | none => rfl
  | some a =>
    have : a + d < t ↔ a < t - d := by constructor <;> intro h <;> grind
    simp [hiIn, this]
theorem in_sh (s : Spn) (d t : Rat) : inS (shQ s d) t = inS s (t - d) := by
  unfold inS shQ
  rw [lo_add, hi_add]
theorem in_mir (s : Spn) (t : Rat) : inS (mirQ s) t = inS s (-t) := by
  obtain ⟨a, b⟩ := s
  have h1 : loIn (b.map (- ·)) t = hiIn b (-t) := by
    cases b with
    | none => rfl
    | some b =>
      have : t < -b ↔ b < -t := by constructor <;> intro h <;> grind
      simp [loIn, hiIn, this]
  have h2 : hiIn (a.map (- ·)) t = loIn a (-t) := by
    cases a with
    | none => rfl
    | some b =>
      have : -b < t ↔ -t < b := by constructor <;> intro h <;> grind
      simp [loIn, hiIn, this]
  unfold inS mirQ
  rw [h1, h2, Bool.and_comm]
theorem in_off (x : Stp) (f b : Spn) (t : Rat) : inO (offQ x f b) t = (inS f (thereQ x - t) && inS b (homeQ x + t)) := by
  unfold offQ
  rw [in_meet, in_sh, in_mir, in_sh]
  congr 2
  · unfold thereQ; grind
  · unfold homeQ; grind
theorem off_ord {x : Stp} {f b : Spn} {s : Spn} (h : offQ x f b = some s) : OrdS s := by
  unfold offQ meetQ at h
  split at h
  · cases h
  · rename_i hc
    cases h
    intro a b h1 h2 h3
    apply hc
    simp only at h1 h2
    rw [h1, h2]
    simp [crossB, h3]
theorem SzO.map_add {j k m : Nat} {o : Option Rat} {d : Rat} (h : SzO j o) (hd : Sz k d) (e : j + k + 1 ≤ m) : SzO m (o.map (· + d)) := fun q hq => by
  obtain ⟨a, ha, rfl⟩ := Option.map_eq_some_iff.mp hq
  exact ((h a ha).add hd).mono e
theorem SzO.map_neg {j : Nat} {o : Option Rat} (h : SzO j o) : SzO j (o.map (- ·)) := fun q hq => by
  obtain ⟨a, ha, rfl⟩ := Option.map_eq_some_iff.mp hq
  exact (h a ha).neg
theorem SzO.meetLo {k : Nat} {a b : Option Rat} (ha : SzO k a) (hb : SzO k b) : SzO k (DL.meetLo a b) := fun q hq => by
  unfold DL.meetLo at hq
  split at hq
  · exact hb q hq
  · exact ha q hq
  · cases hq
    unfold maxQ
    split
    · exact hb _ rfl
    · exact ha _ rfl
theorem SzO.meetHi {k : Nat} {a b : Option Rat} (ha : SzO k a) (hb : SzO k b) : SzO k (DL.meetHi a b) := fun q hq => by
  unfold DL.meetHi at hq
  split at hq
  · exact hb q hq
  · exact ha q hq
  · cases hq
    unfold minQ
    split
    · exact hb _ rfl
    · exact ha _ rfl
theorem off_sz {x : Stp} {f b s : Spn} {j k : Nat} (h : offQ x f b = some s) (hx : Sz j x.1 ∧ Sz j x.2.1 ∧ Sz j x.2.2.1 ∧ Sz j x.2.2.2) (hf : SzS k f) (hb : SzS k b) : SzS (k + 2 * j + 2) s := by
  unfold offQ meetQ at h
  split at h
  · cases h
  · cases h
    have d1 := hx.2.1.sub hx.1
    have d2 := hx.2.2.1.sub hx.2.2.2
    exact ⟨SzO.meetLo ((hf.2.map_neg).map_add d1 (by omega)) (hb.1.map_add d2 (by omega)), SzO.meetHi ((hf.1.map_neg).map_add d1 (by omega)) (hb.2.map_add d2 (by omega))⟩
theorem two_inv : (fr 2 1)⁻¹ = fr 1 2 := by decide +kernel
theorem plain_ok {x : Stp} : thereQ x - plainQ x = homeQ x + plainQ x := by
  unfold plainQ
  rw [← div_eq, two_inv]
  have e : fr 1 2 = 1 / 2 := by decide +kernel
  rw [e]
  unfold thereQ homeQ
  grind
theorem half_ok {x : Stp} {s t : Spn} {a b : Rat} (h1 : s.1 = some a) (h2 : s.2 = some b) (ho : ¬ b < a) (h : offQ x s s = some t) : ∃ l u, t.1 = some l ∧ t.2 = some u ∧ ¬ b - a < fr 2 1 * (plainQ x - l) ∧ ¬ b - a < fr 2 1 * (l - plainQ x) ∧ ¬ b - a < fr 2 1 * (plainQ x - u) ∧ ¬ b - a < fr 2 1 * (u - plainQ x) := by
  have hord := off_ord h
  obtain ⟨s1, s2⟩ := s
  simp only at h1 h2
  subst h1 h2
  have e2 : fr 2 1 = 2 := by decide +kernel
  have ep := plain_ok (x := x)
  unfold offQ meetQ at h
  split at h
  · cases h
  · rename_i hc
    cases h
    have hc2 : ¬ minQ (-a + (x.2.1 - x.1)) (b + (x.2.2.1 - x.2.2.2)) < maxQ (-b + (x.2.1 - x.1)) (a + (x.2.2.1 - x.2.2.2)) := fun z => hc (decide_eq_true z)
    refine ⟨maxQ (-b + (x.2.1 - x.1)) (a + (x.2.2.1 - x.2.2.2)), minQ (-a + (x.2.1 - x.1)) (b + (x.2.2.1 - x.2.2.2)), rfl, rfl, ?_⟩
    rw [e2]
    unfold thereQ homeQ at ep
    unfold maxQ minQ at hc2 ⊢
    by_cases c1 : -b + (x.2.1 - x.1) < a + (x.2.2.1 - x.2.2.2) <;> by_cases c2 : b + (x.2.2.1 - x.2.2.2) < -a + (x.2.1 - x.1) <;> simp only [c1, c2, if_true, if_false] at hc2 ⊢ <;> refine ⟨?_, ?_, ?_, ?_⟩ <;> grind
theorem cmp_gt {a b : Rat} : decide (cmpQ a b > 0) = decide (b < a) := by
  unfold cmpQ
  by_cases h1 : a < b
  · have : ¬ b < a := by grind
    simp [h1, this]
  · by_cases h2 : b < a <;> simp [h1, h2]
/-- all ends -/
def endsQ (ss : List Spn) : List Rat := ss.flatMap fun s => s.1.toList ++ s.2.toList
def St4 (k : Nat) (x : Stp) : Prop := Sz k x.1 ∧ Sz k x.2.1 ∧ Sz k x.2.2.1 ∧ Sz k x.2.2.2
def ST_cmp2 (f : Rat → Rat → Rat) : Sg := fun ps Post => ∃ (a b : Rat) (j k : Nat), ps = [.d (qD a), .d (qD b)] ∧ Sz j a ∧ Sz k b ∧ j + k ≤ 8000 ∧ Post (.d (qD (f a b))) []
def ST_cross : Sg := fun ps Post => ∃ (a b : Option Rat) (k : Nat), ps = [.d (oD a), .d (oD b)] ∧ SzO k a ∧ SzO k b ∧ k ≤ 3900 ∧ Post (.d (.bl (crossB a b))) []
def ST_meet : Sg := fun ps Post => ∃ (a b : Spn) (k : Nat), ps = [.d (sD a), .d (sD b)] ∧ SzS k a ∧ SzS k b ∧ k ≤ 3900 ∧ Post (.d (oS (meetQ a b))) []
def ST_shift : Sg := fun ps Post => ∃ (s : Spn) (d : Rat) (j k : Nat), ps = [.d (sD s), .d (qD d)] ∧ SzS j s ∧ Sz k d ∧ j + k ≤ 7900 ∧ Post (.d (sD (shQ s d))) []
def ST_mirrored : Sg := fun ps Post => ∃ s : Spn, ps = [.d (sD s)] ∧ Post (.d (sD (mirQ s))) []
def ST_offspan : Sg := fun ps Post => ∃ (x : Stp) (f b : Spn) (j k : Nat), ps = [.d (stD x), .d (sD f), .d (sD b)] ∧ St4 j x ∧ SzS k f ∧ SzS k b ∧ k + 2 * j + 10 ≤ 3900 ∧ Post (.d (oS (offQ x f b))) []
def ST_trip : Sg := fun ps Post => ∃ (x : Stp) (j : Nat), ps = [.d (stD x)] ∧ St4 j x ∧ 4 * j + 10 ≤ 7900 ∧ Post (.d (qD ((x.2.2.2 - x.1) - (x.2.2.1 - x.2.1)))) []
def ST_plainoff : Sg := fun ps Post => ∃ (x : Stp) (j : Nat), ps = [.d (stD x)] ∧ St4 j x ∧ 4 * j + 10 ≤ 7800 ∧ Post (.d (qD (plainQ x))) []
def PSpare (q : Rat) : Prop := Sd 60 24 q ∧ ¬ q < 0
def ST_lspan : Sg := fun ps Post => ∃ r : Nat, ps = [.own .sto, .d (.int (r : Int))] ∧ r ≤ 1000000 ∧ ∀ s : Spn, OrdS s → SzS 24 s → Post (.d (sD s)) [.sto]
def ST_inspan : Sg := fun ps Post => ∃ (s : Spn) (t : Rat) (j k : Nat), ps = [.w (sD s), .w (qD t)] ∧ SzS j s ∧ Sz k t ∧ j + k ≤ 7900 ∧ Post (.d (.bl (inS s t))) []
def ST_isspan : Sg := fun ps Post => ∃ (s : Spn) (k : Nat), ps = [.w (sD s)] ∧ OrdS s ∧ SzS k s ∧ k ≤ 3900 ∧ Post (.d (.bl true)) []
def ST_stamps : Sg := fun ps Post => ps = [.own .sto] ∧ ∀ x : Stp, St4 6 x → Post (.d (stD x)) [.sto]
def ST_round : Sg := fun ps Post => ∃ (q : Rat) (k : Nat), ps = [.own .sto, .w (qD q)] ∧ Sz k q ∧ k ≤ 3000 ∧ ∀ s : Spn, OrdS s → SzS (k + 20) s → Post (.d (sD s)) [.sto]
def ST_widespan : Sg := fun ps Post => ps = [.own .sto] ∧ ∀ s : Spn, OrdS s → SzS 41 s → Post (.d (sD s)) [.sto]
def ST_drawn : Sg := fun ps Post => ps = [.own .sto] ∧ ∀ (x : Stp) (f b : Spn), St4 41 x → OrdS f → OrdS b → SzS 130 f → SzS 130 b → Post (.d (.tup [stD x, sD f, sD b])) [.sto]
def ST_offok : Sg := fun ps Post => ∃ (x : Stp) (f b : Spn) (j k : Nat), ps = [.w (stD x), .w (sD f), .w (sD b), .w (oS (offQ x f b))] ∧ St4 j x ∧ SzS k f ∧ SzS k b ∧ 2 * k + 6 * j + 40 ≤ 1900 ∧ Post (.d (.bl true)) []
def ST_plainok : Sg := fun ps Post => ∃ (x : Stp) (j : Nat), ps = [.w (stD x), .w (qD (plainQ x))] ∧ St4 j x ∧ 8 * j + 40 ≤ 3900 ∧ Post (.d (.bl true)) []
def ST_halfok : Sg := fun ps Post => ∃ (x : Stp) (s : Spn) (j k : Nat), ps = [.w (sD s), .w (oS (offQ x s s)), .w (qD (plainQ x))] ∧ OrdS s ∧ St4 j x ∧ SzS k s ∧ 2 * k + 8 * j + 40 ≤ 1900 ∧ Post (.d (.bl true)) []
theorem plain_sz {x : Stp} {j : Nat} (h : St4 j x) : Sz (4 * j + 5) (plainQ x) := by
  unfold plainQ
  rw [← div_eq, two_inv]
  exact (((h.2.1.sub h.1).add (h.2.2.1.sub h.2.2.2)).mul sz_half).mono (by omega)
theorem fr_ge0 {n d : Int} (hn : 0 ≤ n) (hd : 0 < d) : ¬ fr n d < 0 := by
  rcases Int.lt_or_eq_of_le hn with h | h
  · have := fr_gt0 h hd; grind
  · subst h
    unfold fr
    rw [Rat.zero_divInt]
    exact Rat.lt_irrefl
theorem fr_le {a b d : Int} (h : a ≤ b) (hd : 0 < d) : ¬ fr b d < fr a d := by
  have h1 := fr_ge0 (n := b - a) (d := d) (by omega) hd
  have e : fr b d = fr a d + fr (b - a) d := by
    unfold fr
    rw [Rat.divInt_add_divInt _ _ (by omega) (by omega), ← Int.add_mul, Rat.divInt_mul_right (by omega)]
    congr 1; omega
  grind
def ST_probesG : Sg := fun ps Post => ∃ (x : D) (ss : List Spn) (k : Nat), ps = [.w x] ∧ x = .lst (ss.map sD) ∧ (∀ q ∈ endsQ ss, Sz k q) ∧ k ≤ 3900 ∧ ss.length ≤ 20000 ∧ ∀ ts : List Rat, (∀ t ∈ ts, Sz (2 * k + 10) t) → (endsQ ss ≠ [] → ∃ t ∈ ts, ∀ q ∈ endsQ ss, q < t) → ts.length ≤ 100000 → Post (.own (.lst (ts.map qD))) []
theorem ends_snoc {ss : List Spn} {s : Spn} : endsQ (ss ++ [s]) = endsQ ss ++ (s.1.toList ++ s.2.toList) := by
  unfold endsQ
  rw [List.flatMap_append]; simp
theorem ends_len : ∀ (ss : List Spn), (endsQ ss).length ≤ 2 * ss.length
  | [] => Nat.le_refl _
  | s :: ss => by
    have := ends_len ss
    unfold endsQ at *
    rw [List.flatMap_cons, List.length_append, List.length_append, List.length_cons]
    have h1 : s.1.toList.length ≤ 1 := by cases s.1 <;> simp
    have h2 : s.2.toList.length ≤ 1 := by cases s.2 <;> simp
    omega
theorem list4 {α : Type} {us : List α} (h : us.length = 4) : ∃ a b c d, us = [a, b, c, d] := by
  match us, h with
  | [a, b, c, d], _ => exact ⟨a, b, c, d, rfl⟩
def IsQ (d : D) : Prop := ∃ (x : Stp) (f b : Spn), d = .tup [stD x, sD f, sD b] ∧ St4 41 x ∧ OrdS f ∧ OrdS b ∧ SzS 130 f ∧ SzS 130 b
theorem eqv_bb (a b : Bool) : (D.bl a).eqv (D.bl b) = decide (a = b) := by cases a <;> cases b <;> rfl
end DL

end
section
set_option Elab.async false
set_option linter.all false
set_option autoImplicit true
set_option maxRecDepth 100000
set_option maxHeartbeats 1000000
/-! own exceptions whose __init__ begins with super().__init__(text) -/
namespace DL
open PySem L2 NdefX
open PyProof.Rows hiding St
/-- what the written part says of such a class and its __init__ -/
structure SupC (P : Program) (K : PySem.W.Frag) (mg : Str → Option Value) (C fI cc cda : Addr) : Prop where
  T : OexC K C
  cell : ∃ cl cld csl, K.lookup cc = some ⟨cl, cld, .cell (some (.ref C)), csl⟩
  code : ∃ ccl cdd vs ccs file tf, K.lookup cda = some ⟨ccl, cdd, .fields vs, ccs⟩ ∧ vs[2]? = some (.str file tf) ∧ ((P.main.file : Str) == file) = true
  cls : (PySem.W.clsIn K C).isSome = true
  sub : PySem.W.mroIn K C (.ref C) = some true
  sup : mg "super" = none
  tp : PySem.W.nsIn K cStatics "thirdparty.any" = some none
  ini : PySem.W.ks_superIn K C C "__init__" = some (some (.builtin "ValueError.__init__"))
  ve : PySem.W.subIn K (.ref C) (.type "ValueError") = some true
  top : (P.main.scope.names.lookup ("super" : Str)).isSome = false
section
variable {X : Cx} {σ : L2.St} {H : Hp} {s : Shared} {a C fI cc cda : Addr}
/-- the call of the bound __init__ -/
theorem mw_call {A : Around} {E : Value → Shared → Prop} {u : Addr} {rest : List Value} {Q : Value → Shared → Prop} (T : OexC X.K C) (I : Inv X [] σ H s) (e : H a = some (exo a C none)) (hu : s.heap.get? u = some (PySem.W.kxs_mw "ValueError.__init__" a)) (hz : rest.length ≤ sizeLine) (h : ∀ s', Inv X [] σ H s' → Q .none s') :
    wpAny (model X.prog X.w) A (call (.ref u) rest) Q E s := by
  obtain ⟨nm, q, N, bs, bm, sn, sub, ab, col, dd, k0, k1, k2, k3, k5, hC, hbm⟩ := T.cls
  obtain ⟨t1, ho⟩ := exo_at I.hok e
  obtain ⟨hp, g, d, t, os⟩ := s
  refine wpAny_call (codeAny_of_tree ?_)
  show wpAny _ A.in1 (callAny (.ref u) ⟨rest, []⟩) _ _ _
  simp only [callAny]
  refine wpAny_bind (wpAny_load hu ?_)
  simp only [PySem.W.kxs_mw, show (Value.type "method-wrapper" == Value.type "method" || Value.type "method-wrapper" == Value.type "builtin_function_or_method" || Value.type "method-wrapper" == Value.type "method-wrapper") = true by decide, if_true]
  refine PySem.W.KFB.if_so (by decide) ?_
  refine wpAny_bind (PySem.W.check_bound_init F.excBase_ValueError.toExcCallFacts (I.kIn _ _ hC) ho rfl ?_)
  refine wpAny_bind (wpAny_pure (wpAny_pure ?_))
  refine ⟨plainId_quiet F.excBase_ValueError.init.plain _, codeAny_builtin F.excBase_ValueError.initEntry ?_⟩
  refine PySem.W.exc_init_tree (cls := .ref C) (t0 := t1) (dv := none) (c2 := .none) (c3 := .none) (b4 := .bool false) ho hz fun h' k hx _ => ?_
  have J := I.write (t' := t) (x := a) (e := a) (o := exo a C none) (by rw [e]; exact True.intro) (.inl rfl) k ⟨_, hx⟩ (exo_ok hx)
  have eu : upd H a (exo a C none) = H := by
    funext b
    by_cases hb : b = a
    · rw [hb, upd_same, e]
    · rw [upd_ne hb]
  rw [eu] at J
  exact h _ J
theorem sup_stmt {body : List Stmt} {fd : FuncData} {ar : Arg} {oc : Value} {od : Option Addr} {osl : Array (Option Value)} {p0 p1 ap pos pos2 q0 : Pos} {j0 : Nat} {txt : Str} {Q : Flow → Shared → Prop} (S : SupC X.prog X.K X.mg C fI cc cda) (I : Inv X [] σ H s) (e : H a = some (exo a C none))
    (hf : X.K.lookup fI = some ⟨oc, od, .func fd, osl⟩) (hp : (fd.params.posonlyargs ++ fd.params.args).head? = some ar) (hN : X.N[0]? = some ar.arg) (hσ : σ[0]? = some (some (.ref a)))
    (hks : X.env.kindOf ("super" : Str) = some .globalImplicit) (hkc : X.env.kindOf ("__class__" : Str) = some .free) (hka : X.env.kindOf ar.arg = some .local) (hfu : X.env.func = some fI) (hco : X.env.code = .ref cda) (hce : X.env.cells.lookup ("__class__" : Str) = some cc)
    (hi : interactive X.env = false) (h : ∀ s', Inv X [] σ H s' → Q .next s')
    (hs : swapsWith (.Call (.Attribute (.Call (.Name "super" p0) [] [] p1) "__init__" ap) [.Constant (.str txt) j0 q0] [] pos) none pos2.line X.env = pure false := by rfl) (he : starEach [.Constant (.str txt) j0 q0] X.env = (false, eval (.Constant (.str txt) j0 q0) X.env) :: starEach [] X.env := by rfl)
    {pl : Sem Bool} (hev : eval (.Call (.Attribute (.Call (.Name "super" p0) [] [] p1) "__init__" ap) [.Constant (.str txt) j0 q0] [] pos) X.env = (do
      let ov ← attributeBase (.Call (.Name "super" p0) [] [] p1) "__init__" X.env (eval (.Call (.Name "super" p0) [] [] p1) X.env)
      standAt ap.atName
      let (f, first) ← holding [ov] (getMethod ov "__init__" pl)
      callWith pos f first (backTo pos (starEach [.Constant (.str txt) j0 q0] X.env)) []) := by rfl) :
    PySem.wpAt (model X.prog X.w) X.A (.func body X.env) (exec (.Expr (.Call (.Attribute (.Call (.Name "super" p0) [] [] p1) "__init__" ap) [.Constant (.str txt) j0 q0] [] pos) pos2) X.env) Q X.xe s := by
  refine ks_wpAt_Expr_any (ks_wpAt_MethodCall ?_ hev) hi hs
  obtain ⟨cl, cld, csl, hcell⟩ := S.cell
  obtain ⟨ccl, cdd, vs, ccs, file, tf, hcode, hvs, hfile⟩ := S.code
  have KX := I.kIn
  obtain ⟨cdD, hD⟩ := Option.isSome_iff_exists.mp S.cls
  obtain ⟨oD, hD1, hD2⟩ : ∃ oD, s.heap.get? C = some oD ∧ oD.data = .cls cdD := by
    have hD' := hD
    unfold PySem.W.clsIn at hD'
    split at hD'
    · rename_i c d cd' sl ho
      cases hD'
      exact ⟨_, KX _ _ ho, rfl⟩
    · cases hD'
  obtain ⟨mb, b1, b2⟩ := I.mod.blt
  obtain ⟨m, hn, hlk⟩ := I.loc
  obtain ⟨u, ru, lu⟩ := hlk 0 ar.arg (.ref a) hN hσ (.inl hka)
  have eu : u = .ref a := ru
  subst eu
  have hma : m ar.arg = some (.ref a) := by
    rcases lu with ⟨_, z⟩ | ⟨z | z, _⟩
    · exact z
    · rw [hka] at z; cases z
    · rw [hka] at z; cases z
  obtain ⟨t1, hoa⟩ := exo_at I.hok e
  refine ks_wpAt_super_base hks hkc (by decide) hfu (KX _ _ hf) rfl hp hco (KX _ _ hcode) rfl hvs hfile S.top ?_
  refine PySem.W.ks_loadName_global I.ok.kind hks (Calls.loadGlobal_builtin (by rw [I.ok.glob]; exact I.mod.glob.keeps I.bk) S.sup (by rw [I.ok.blt]; exact b1.keeps I.bk) ((b2 _ (by decide)).trans (show bootBuiltins "super" = some (.type "super") by first | rfl | decide +kernel)) ⟨rfl, ?_⟩)
  refine wpAny_loadName_free I.ok.kind hkc hce ⟨_, KX _ _ hcell, rfl⟩ ?_
  refine wpAny_loadName_local I.ok.kind hka hn hma ?_
  obtain ⟨hh, g, d, t, os⟩ := s
  refine ks_wpAny_isType_cls hD1 hD2 ⟨rfl, ?_⟩
  have Ia : PySem.W.InstAt hh a ({ cls := .ref C, dict := none, data := .fields #[.ref t1, .none, .none, .none, .bool false, .none] } : Obj) C none := ⟨hoa, rfl, rfl, trivial⟩
  refine ks_wpAny_call_super hD1 hD2 hoa rfl (fun c z => by cases z) (PySem.W.looks_mroIn KX S.sub) (fun h1 e1 k1 => ?_)
  have I1 : Inv X [] σ H ⟨h1, g, d, t, os⟩ := I.kept k1
  have KX1 := I1.kIn
  have Ia1 : PySem.W.InstAt h1 a ({ cls := .ref C, dict := none, data := .fields #[.ref t1, .none, .none, .none, .bool false, .none] } : Obj) C none := ⟨k1 _ _ hoa, rfl, rfl, trivial⟩
  have hini := S.ini
  unfold PySem.W.ks_superIn at hini
  rw [hD] at hini
  refine PySem.W.kxs_getMethod PySem.W.kxs_ValueError e1 (PySem.W.looks_opaque KX1 S.tp) (l₀ := cdD.mro) ?_ rfl KX1 hini (Ia1.type.andThen (PySem.W.looks_subIn KX1 S.ve)) (PySem.W.ks_ne KX1 Ia1 hD) (by decide) ?_
  · exact fun A Q E s k q => wpAny_bind ((PySem.W.looks_clsIn KX1 hD) A _ E s k (wpAny_pure q))
  have k2 : ∀ b o, h1.get? b = some o → (h1.push (PySem.W.kxs_mw "ValueError.__init__" a)).get? b = some o := fun b o z => Heap.get?_push_of_some _ z
  have I2 : Inv X [] σ H ⟨h1.push (PySem.W.kxs_mw "ValueError.__init__" a), g, d, t + 1, os⟩ := I1.kept k2
  have hu : (h1.push (PySem.W.kxs_mw "ValueError.__init__" a)).get? h1.objs.size = some (PySem.W.kxs_mw "ValueError.__init__" a) := Heap.get?_push_at rfl rfl
  rw [he]
  refine PySem.W.kxs_callWith (i := "ValueError.__init__") (x := a) (by rfl) (Calls.evalArgs_plain ?_)
  show wpAny _ _ (spliced ((false, eval (.Constant (.str txt) j0 q0) X.env) :: backTo pos (starEach [] X.env))) _ _ _
  refine Calls.spliced_cons (Calls.Constant_str (Calls.spliced_nil ⟨hu, ?_⟩))
  exact mw_call S.T (I2.tok _) e hu (by rw [sizeLine_eq]; show 1 ≤ _; omega) fun s' J => h s' J
end
section
variable {P : Program} {w : World} {K : PySem.W.Frag} {mg : Str → Option Value} {base : Heap} {CX : CXT}
/-- an __init__ that begins so: FnOk by what stands behind -/
theorem sup_fn {F : NF} {fI C : Addr} {N : List Str} {as : List Str} {sp : Sp} {rest : List Stmt} {oc kV doc pm ctv : Value} {od an : Option Addr} {osl : Array (Option Value)} {p0 p1 ap pos pos2 q0 : Pos} {j0 : Nat} {txt : Str} {cc : Addr} {ar : Arg} {k : Nat}
    (S : SupC P K mg C fI cc F.c) (NS : NScope N ("self" :: as) ["__class__"] F.scope) (hcl : F.cl = [(("__class__" : Str), cc)]) (lk : K.lookup fI = some ⟨oc, od, .func (PySem.W.fnX F.name F.qual F.params F.body F.scope F.cl .none kV doc pm an (.ref F.c) ctv), osl⟩) (hcd : PySem.W.codeIn K (.ref F.c) F.qual = true)
    (hbody : F.body = .Expr (.Call (.Attribute (.Call (.Name "super" p0) [] [] p1) "__init__" ap) [.Constant (.str txt) j0 q0] [] pos) pos2 :: rest) (hp : (F.params.posonlyargs ++ F.params.args).head? = some ar) (har : ar.arg = "self")
    (hks : F.scope.names.lookup ("super" : Str) = some .globalImplicit) (len : ∀ vs H Q E, sp vs H Q E → vs.length = as.length + 1 ∧ ∃ a ys, vs = .ref a :: ys ∧ H a = some (exo a C none))
    (hrest : ∀ (A : Around) (outer : List Env) (s : Shared) (H : Hp) (vs : List V) (Q : VK) (E : XK), sp vs H Q E → ∃ t, PSs (ncx CX P w K mg base N F fI A outer s H E) rest t ∧ t { nx := fun _ H' => Q .non H', rt := Q } (startF N vs [some (.ref C)]) H)
    (hi : ∀ L : Addr, interactive (envF F fI L) = false) (hs : ∀ L : Addr, swapsWith (.Call (.Attribute (.Call (.Name "super" p0) [] [] p1) "__init__" ap) [.Constant (.str txt) j0 q0] [] pos) none pos2.line (envF F fI L) = pure false)
    (hev : ∀ L : Addr, ∃ pl : Sem Bool, eval (.Call (.Attribute (.Call (.Name "super" p0) [] [] p1) "__init__" ap) [.Constant (.str txt) j0 q0] [] pos) (envF F fI L) = (do
      let ov ← attributeBase (.Call (.Name "super" p0) [] [] p1) "__init__" (envF F fI L) (eval (.Call (.Name "super" p0) [] [] p1) (envF F fI L))
      standAt ap.atName
      let (f, first) ← holding [ov] (getMethod ov "__init__" pl)
      callWith pos f first (backTo pos (starEach [.Constant (.str txt) j0 q0] (envF F fI L))) [])) :
    FnOk P w K mg base CX (k + 1) fI (PySem.W.fnX F.name F.qual F.params F.body F.scope F.cl .none kV doc pm an (.ref F.c) ctv) ("self" :: as) sp := by
  refine ⟨fun vs H Q E h => (len vs H Q E h).1, fun A outer s H args us vs Q E hr e0 hbd r hsp => ?_⟩
  obtain ⟨hl, a, ys, rfl, ea⟩ := len _ _ _ _ hsp
  have KX : K.In s.heap := e0.mod.kin.keeps fun b o e => (e0.bs b o e).1
  have lim : s.heap.NoLimit := e0.mod.nolimit.keeps fun b o e => (e0.bs b o e).1
  obtain ⟨cl, cld, csl, hcell⟩ := S.cell
  have CA : CellsAt F.cl ["__class__"] [some (V.ref C)] s.heap H := by
    rw [hcl]
    refine ⟨rfl, fun y c h => ?_, fun x y c h1 h2 => ?_, fun i y h => ?_⟩
    · have hc : c = cc := by
        by_cases e : y = ("__class__" : Str)
        · subst e; simp [List.lookup] at h; exact h.symm
        · have : (y == ("__class__" : Str)) = false := by simpa using e
          simp [List.lookup, this] at h
      subst hc
      exact ⟨(e0.bs _ _ (e0.mod.kin _ _ hcell)).2, _, _, KX _ _ hcell, rfl⟩
    · have one : ∀ {z : Str} {c : Addr}, List.lookup z [(("__class__" : Str), cc)] = some c → z = "__class__" := fun {z c} h => by
        by_cases e : z = ("__class__" : Str)
        · exact e
        · have : (z == ("__class__" : Str)) = false := by simpa using e
          simp [List.lookup, this] at h
      rw [one h1, one h2]
    · cases i with
      | zero =>
        cases h
        refine ⟨cc, by simp [List.lookup], fun v hv => ?_⟩
        cases hv
        exact ⟨.ref C, rfl, _, KX _ _ hcell, rfl⟩
      | succ i => cases i <;> cases h
  refine ks_codeAny_call_defAt (fd := PySem.W.fnX F.name F.qual F.params F.body F.scope F.cl .none kV doc pm an (.ref F.c) ctv) (body := F.body) (binds := (("self" : Str) :: as).zip us) hr.depth (KX _ _ lk) rfl lim (PySem.W.codeRec_of KX hcd) rfl hbd NS.nocell (fun y hy => NS.par _ (List.of_mem_zip hy).1) (fun h1 hns kp => ?_) NS.co NS.gen NS.kind
  have I : Inv (ncx CX P w K mg base N F fI A outer s H E) [] (startF N (.ref a :: ys) [some (.ref C)]) H { s with heap := h1, toks := s.toks + ((("self" : Str) :: as).zip us).length } := inv_startN NS hr.hd e0 hl r CA hns kp
  have hN0 : N[0]? = some ("self" : Str) := by
    have q2 : (N.take ((("self" : Str) :: as).length + [("__class__" : Str)].length))[0]? = ((("self" : Str) :: as) ++ [("__class__" : Str)])[0]? := by rw [NS.pre]
    rw [List.getElem?_take_of_lt (by simp)] at q2
    exact q2
  obtain ⟨t, ht, hq⟩ := hrest A outer s H (.ref a :: ys) Q E hsp
  rw [hbody]
  refine ks_wpAt_execs_cons ?_
  obtain ⟨pl, hev'⟩ := hev s.heap.objs.size
  refine sup_stmt (X := ncx CX P w K mg base N F fI A outer s H E) (cda := F.c) S I ea lk hp (by rw [har]; exact hN0) rfl hks (NS.frk _ (by simp)) (by rw [har]; exact NS.par _ (by simp)) rfl rfl (by show F.cl.lookup _ = _; rw [hcl]; simp [List.lookup]) (hi _) (fun s' J => ?_) (hs _) (by exact se_c rfl) hev'
  refine wpAt_of_wpAny ?_
  refine wpAny_mono (ht.run [] s' _ H _ J hq) (fun fl s2 hs2 => ?_) fun e s2 h2 => h2
  have fin : ∀ {σ' : L2.St} {H' : Hp} {v : V} {u : Value}, Inv (ncx CX P w K mg base N F fI A outer s H E) [] σ' H' s2 → L2.RelV v u → Q v H' → CE outer P w H s Q u s2 :=
    fun {σ' H' v u} J rv q => ⟨v, H', J.os, J.bare, J.base, J.hok, rv, q⟩
  cases fl with
  | ret u =>
    obtain ⟨v, σ', H', J, rv, q⟩ := hs2
    exact fin J rv q
  | next =>
    obtain ⟨σ', H', J, q⟩ := hs2
    exact fin (v := V.non) (u := Value.none) J rfl q
  | brk =>
    obtain ⟨_, _, _, q⟩ := hs2
    exact False.elim q
  | cont =>
    obtain ⟨_, _, _, q⟩ := hs2
    exact False.elim q
end
end DL

end
section
set_option Elab.async false
set_option linter.all false
set_option autoImplicit true
set_option maxRecDepth 100000
set_option maxHeartbeats 400000
/-! defs that raise own exceptions -/
namespace DL
open PySem L2
open PyProof.Rows hiding St
abbrev SgX := List Par → (Res → Prop) → (Addr → List (Str × D) → Prop) → Prop
def spOfX (K : PySem.W.Frag) (S : SgX) : Sp := fun vs H Q E => ∃ (R : Hp) (ps : List Par) (Post : Res → Prop) (Xp : Addr → List (Str × D) → Prop), Ex R H ∧ ParsOk K (fun a => a ∈ ownAd ps vs) R H ps vs ∧ parOi 0 ps = [] ∧ S ps Post Xp ∧
  (∀ v R' H' r, After K [] R H R' H' → RetOk K H R' H' r v → Post r → Q v H') ∧ ∀ C d fs R' H', After K [] R H R' H' → XdOk K R' H' H d fs → Xp C fs → E (.ref C) d H'
structure CalX (X : Cx) (k : Nat) (nm : Str) (S : SgX) : Prop where
  rm : Room k X.A
  ex : ∃ f fd ps k0, FnOk X.prog X.w X.K X.mg X.base (L2.CX X.prog X.w) k0 f fd ps (spOfX X.K S) ∧ k0 ≤ k ∧ X.mg nm = some (.ref f) ∧ PySem.W.keepIn X.K (.ref f) = true ∧ Binds X.K fd ps []
theorem CalX.mono {X : Cx} {j k : Nat} {nm : Str} {S : SgX} (h : CalX X j nm S) (e : j ≤ k) (rm : Room k X.A) : CalX X k nm S :=
  let ⟨f, fd, ps, k0, a, b, c⟩ := h.ex; ⟨rm, f, fd, ps, k0, a, Nat.le_trans b e, c⟩
theorem DefAt.calX {X : Cx} {nm : Str} {st : Stmt} {ps : List Str} {k k0 : Nat} {S : SgX} (d : DefAt X.K X.mg nm st ps) (F : FnOk X.prog X.w X.K X.mg X.base (L2.CX X.prog X.w) k0 d.a d.fd ps (spOfX X.K S)) (h : k0 ≤ k) (rm : Room k X.A) : CalX X k nm S :=
  ⟨rm, d.a, d.fd, ps, k0, F, h, d.m, d.F.kp, d.b⟩
theorem noOi : ∀ {ps : List Par} {vs : List V} {i : Nat}, parOi i ps = [] → ownAd ps vs = [] ∧ oiOf i ps vs = []
  | [], vs, i, _ => by simp [ownAd, oiOf]
  | p :: ps, [], i, h => by
    cases p <;> simp [ownAd, oiOf]
  | p :: ps, v :: vs, i, h => by
    cases p with
    | own o => cases h
    | d x => exact noOi (ps := ps) (vs := vs) (i := i + 1) h
    | w x => exact noOi (ps := ps) (vs := vs) (i := i + 1) h
    | sc x => exact noOi (ps := ps) (vs := vs) (i := i + 1) h
section
variable {X : Cx} {n : Nm} {c : Cc} {Γ : SL} {e a b : Expr} {x y z : D} {pos p : Pos} {nm : Str} {S : SgX} {es : List Expr}
theorem parOi_of : ∀ {ks : List AK} {ps : List Par} {i : Nat}, pars Γ ks = some ps → ownIx ks = [] → parOi i ps = []
  | [], ps, i, h, _ => by cases h; rfl
  | k :: ks, ps, i, h, ho => by
    unfold pars at h
    split at h
    · rename_i q qs e1 e2
      cases h
      cases k with
      | d x => cases e1; exact parOi_of (i := i + 1) e2 ho
      | v x => cases e1; exact parOi_of (i := i + 1) e2 ho
      | o j => cases ho
      | s j =>
        have ih := parOi_of (i := i + 1) e2 ho
        simp only [AK.par] at e1
        split at e1
        · cases e1; exact ih
        · obtain ⟨_, _, z⟩ := Option.map_eq_some_iff.mp e1; subst z; exact ih
        · cases e1
    · cases h
/-- f(e, ..) that may raise -/
theorem call_coreX {Post : Res → SL → Prop} (hc : CalX X n.k nm S) (j : Nat) (hj : n.GN[j]? = some nm) (hn : NOk X n c)
    (h : WA X n c Γ (e :: es) fun ks Γ1 => ∃ ps, pars Γ1 ks = some ps ∧ ownIx ks = [] ∧ S ps (fun r => Post r Γ1) fun C fs => c.xw C fs Γ1)
    (he : starEach (e :: es) X.env = (false, eval e X.env) :: starEach es X.env) (hpl : (backTo pos (starEach es X.env)).any (·.1) = false)
    {σ : L2.St} {R H : Hp} (s : SOk X.K c Γ σ R H) (Q : VK) (q : ∀ v R' H' r Γ', SOk X.K c Γ' σ R' H' → Ex R R' → VOk X.K c Γ' σ R' H' r v → Post r Γ' → Q v H') : tW X (.Call (.Name nm p) (e :: es) [] pos) σ H Q := by
  obtain ⟨f, fd, qs, k0, F, hk, hm, kp, hb⟩ := hc.ex
  obtain ⟨g1, g2, g3⟩ := hn.gl j nm hj
  refine (pe_callS F (hc.rm.mono hk) g1 hm kp hb (fun σ => passAt hn.tk σ) pWA g2 he hpl).w ?_
  refine h.run hn σ R H s _ fun vs R1 H1 ks Γ1 s1 e1 r1 ⟨ps, h1, h2, h4⟩ => ?_
  have hoi := parOi_of (i := 0) h1 h2
  obtain ⟨o1, o2⟩ := noOi (vs := vs) hoi
  have aft : ∀ {R' H'}, After X.K [] R1 H1 R' H' → SOk X.K c Γ1 σ R' H' := fun {R' H'} A => by
    have := s1.after (os := []) r1 h1 (by rw [h2]; exact List.nodup_nil) (by rw [o1]; exact A) (by rw [o1]; rfl)
    rw [h2] at this
    exact this
  refine ⟨R1, ps, _, _, s1.rh, pars_ok s1 (fun a ha => by rw [o1] at ha; cases ha) r1 h1 (fun i hi a o z1 z2 z3 => by rw [o1] at z3; cases z3), hoi, h4, fun v R' H' r A ro po => ?_, fun C d fs R' H' A xd xp => ⟨C, fs, Γ1, R', rfl, ?_, aft A, xp⟩⟩
  rotate_left
  · rcases xd with h | ⟨dd, ws, h1, h2, h3, h4, h5⟩
    · exact .inl h
    · refine .inr ⟨dd, ws, h1, h2, h3, h4, ?_⟩
      cases z : c.H0 dd with
      | none => rfl
      | some u => exact absurd h5 (s1.pr dd (by rw [z]; simp))
  refine q v R' H' r _ (aft A) (e1.trans A.r) ?_ po
  cases r with
  | d x => exact ro
  | own ob =>
    obtain ⟨a, w1, w2, w3, w4⟩ := ro
    refine ⟨a, w1, w2, w3, ?_, fun i o z1 z2 => ?_⟩
    · cases z : c.H0 a with
      | none => rfl
      | some u => exact absurd w4 (s1.pr a (by rw [z]; simp))
    · obtain ⟨w, u1, b, u2, u3, _⟩ := s1.sl i _ z1
      rw [z2] at u1; cases u1; cases u2
      exact u3.there w4
theorem we_callX {Post : D → SL → Prop} (hc : CalX X n.k nm S) (j : Nat) (h : WA X n c Γ (e :: es) fun ks Γ1 => ∃ ps, pars Γ1 ks = some ps ∧ ownIx ks = [] ∧ S ps (fun r => ∃ x, r.data = some x ∧ Post x Γ1) fun C fs => c.xw C fs Γ1)
    (hj : n.GN[j]? = some nm := by rfl) (he : starEach (e :: es) X.env = (false, eval e X.env) :: starEach es X.env := by exact se_c rfl) (hpl : (backTo pos (starEach es X.env)).any (·.1) = false := by exact se_any rfl) : WE X n c Γ (.Call (.Name nm p) (e :: es) [] pos) Post := .mk fun hn σ R H s Q q =>
  call_coreX (Post := fun r Γ' => ∃ x, r.data = some x ∧ Post x Γ') hc j hj hn h he hpl s Q fun v R' H' r Γ' s' e' ro ⟨x, hx, px⟩ => by
    cases r with
    | d y => cases hx; exact q v R' H' x Γ' s' e' ro px
    | own o =>
      obtain ⟨R2, s2, e2, r2⟩ := s'.freezeR ro hx
      exact q v R2 H' x Γ' s2 (e'.trans e2) r2 px
theorem wo_callX {Post : OB → SL → Prop} (hc : CalX X n.k nm S) (j : Nat) (h : WA X n c Γ (e :: es) fun ks Γ1 => ∃ ps, pars Γ1 ks = some ps ∧ ownIx ks = [] ∧ S ps (fun r => ∃ o, r = .own o ∧ Post o Γ1) fun C fs => c.xw C fs Γ1)
    (hj : n.GN[j]? = some nm := by rfl) (he : starEach (e :: es) X.env = (false, eval e X.env) :: starEach es X.env := by exact se_c rfl) (hpl : (backTo pos (starEach es X.env)).any (·.1) = false := by exact se_any rfl) : WO X n c Γ (.Call (.Name nm p) (e :: es) [] pos) Post := .mk fun hn σ R H s Q q =>
  call_coreX (Post := fun r Γ' => ∃ o, r = .own o ∧ Post o Γ') hc j hj hn h he hpl s Q fun v R' H' r Γ' s' e' ro ⟨x, hx, px⟩ => by
    subst hx; exact q v R' H' x Γ' s' e' ro px
theorem we_callXE {ks : List AK} {ps : List Par} {Post : D → SL → Prop} (hc : CalX X n.k nm S) (j : Nat) (ha : EA X n c Γ (e :: es) ks) (h : S ps (fun r => ∃ x, r.data = some x ∧ Post x Γ) fun C fs => c.xw C fs Γ) (hp : pars Γ ks = some ps := by rfl) (ho : ownIx ks = [] := by rfl)
    (hj : n.GN[j]? = some nm := by rfl) (he : starEach (e :: es) X.env = (false, eval e X.env) :: starEach es X.env := by exact se_c rfl) (hpl : (backTo pos (starEach es X.env)).any (·.1) = false := by exact se_any rfl) : WE X n c Γ (.Call (.Name nm p) (e :: es) [] pos) Post :=
  we_callX hc j (wa_of ha ⟨ps, hp, ho, h⟩) hj he hpl
/-- the promise of an own __init__ that stores its fields -/
def spIniG (C : Addr) (fsO : List V → List (Str × V)) (m : Nat) : Sp := fun vs H Q _ => ∃ (a : Addr) (ys : List V), vs = .ref a :: ys ∧ ys.length = m ∧ H a = some (exo a C none) ∧ ∀ dx H', H dx = none → dx ≠ a → H' = upd (upd H dx (exd dx (fsO ys))) a (exo a C (some dx)) → Q .non H'
/-- an own exception class, called with its fields' values -/
def ExcMk (X : Cx) (k : Nat) (nm : Str) (C : Addr) (fsO : List V → List (Str × V)) (m : Nat) : Prop := Room k X.A → Gl X nm → (nm == ("__debug__" : Str)) = false → ∀ {e : Expr} {es : List Expr} {p pos : Pos} {ta : TA}, PA X (e :: es) ta → starEach (e :: es) X.env = (false, eval e X.env) :: starEach es X.env → (backTo pos (starEach es X.env)).any (·.1) = false →
  PMk X (.Call (.Name nm p) (e :: es) [] pos) (tMkO C (spIniG C fsO m) [] ta)
structure ExcF (X : Cx) (k : Nat) (nm : Str) (C : Addr) (fsO : List V → List (Str × V)) (m : Nat) : Prop where
  rm : Room k X.A
  make : ExcMk X k nm C fsO m
theorem ws_raise {C : Addr} {fsO : List V → List (Str × V)} {m : Nat} {De : DE} {pos2 : Pos} (hc : ExcF X n.k nm C fsO m) (j : Nat) (fsD : List D → List (Str × D)) (hfs : ∀ R xs vs, RpL X.K R xs vs → xs.length = m → FldOk X.K R (fsD xs) (fsO vs)) (hm : m ≤ 1000)
    (h : WA X n c Γ (e :: es) fun ks Γ1 => ∃ xs, dats ks = some xs ∧ xs.length = m ∧ c.xw C (fsD xs) Γ1)
    (hj : n.GN[j]? = some nm := by rfl) (hh : n.hot = false := by rfl) (he : starEach (e :: es) X.env = (false, eval e X.env) :: starEach es X.env := by exact se_c rfl) (hpl : (backTo pos (starEach es X.env)).any (·.1) = false := by exact se_any rfl) : WS X n c Γ (.Raise (some (.Call (.Name nm p) (e :: es) [] pos)) none pos2) De := .mk fun hn σ R H s E ok => by
  obtain ⟨g1, g2, g3⟩ := hn.gl j nm hj
  refine (ps_raise (hn.calm hh) hn.tk (hc.make hc.rm g1 g2 pWA he hpl)).w ?_
  refine h.run hn σ R H s _ fun vs R1 H1 ks Γ1 s1 e1 r1 ⟨xs, h1, h2, h3⟩ => ?_
  have hr := dats_ok r1 h1
  have hvl : vs.length = m := by rw [← hr.length]; exact h2
  refine ⟨by omega, fun a ha => ⟨a, vs, by rw [List.append_nil], hvl, upd_same, fun dx H' hdx hne eH => ⟨rfl, dx, fsO vs, by rw [eH, upd_same], by rw [eH, upd_ne hne, upd_same], ?_, ?_⟩⟩⟩
  · rw [upd_ne hne] at hdx; exact hdx
  · have hd1 : H1 dx = none := by rw [upd_ne hne] at hdx; exact hdx
    have eq : upd (del H' a) dx (.xd (fsO vs)) = upd H1 dx (.xd (fsO vs)) := by
      funext b
      by_cases hb : b = dx
      · subst hb; rw [upd_same, upd_same]
      · rw [upd_ne hb, upd_ne hb]
        by_cases hba : b = a
        · subst hba; rw [del_same, ha]
        · rw [del_ne hba, eH, upd_ne hba, upd_ne hb, upd_ne hba]
    rw [eq]
    exact ⟨C, fsD xs, Γ1, R1, rfl, .inr ⟨dx, _, rfl, upd_same, s1.rh.back hd1, hfs R1 xs vs hr h2, by
      cases z : c.H0 dx with
      | none => rfl
      | some u => exact absurd hd1 (s1.pr dx (by rw [z]; simp))⟩, s1.grow (s1.newOwn (.xd _) hd1), h3⟩
theorem excF_of {k : Nat} {C fI : Addr} {fsO : List V → List (Str × V)} {m : Nat} {fd : FuncData} {ps : List Str} (T : OexC X.K C) (iC : PySem.W.findIn X.K (.ref C) "__init__" = some (some (.ref fI))) (tI : PySem.W.typeIn X.K (.ref fI) = some (.type "function"))
    (F1 : FnOk X.prog X.w X.K X.mg X.base CX0 k fI fd ps (spIniG C fsO m)) (hb : Binds X.K fd ps []) (hm : X.mg nm = some (.ref C)) {j : Nat} (hk : k + 1 ≤ j) (rm : Room j X.A) : ExcF X j nm C fsO m :=
  ⟨rm, fun hr hg hd {e es p pos ta} ha he hpl => pmk_oex T iC tI F1 (hr.mono hk) hb .nil pass0 hg hm ha hd he hpl⟩
end
/-- THE RULE for a def that may raise -/
theorem fn_okX {P : Program} {w : World} {K : PySem.W.Frag} {mg : Str → Option Value} {base : Heap} {x qual : Str} {st : Stmt} {f : Addr} {fd : FuncData} {qs : List Str} {n : Nm} {S : SgX} (F : Fun K x qual st f fd) (sc : FnScope n.N qs (defScope st)) (sb : ScOk (defScope st) n) (hsc : n.sc = none ∨ n.sc = some (defScope st)) (hoi : n.oi = [])
    (hS : ∀ ps Post Xp, S ps Post Xp → ps.length = qs.length ∧ parOi 0 ps = [])
    (body : ∀ (X : Cx) (c : Cc), X.prog = P ∧ X.w = w ∧ X.K = K ∧ X.mg = mg ∧ X.base = base ∧ Room n.k X.A → ∀ ps Post Xp, S ps Post Xp → (∀ C fs Γ, Xp C fs → c.xw C fs Γ) → WB X n c (entry n.N ps) (defBody st) (fnD [] fun r _ => Post r)) : FnOk P w K mg base (L2.CX P w) (n.k + 1) f fd qs (spOfX K S) := by
  refine F.okX sc (fun vs H Q E h => ?_) (fun cdv A outer s H vs Q E hr h => ?_)
  · obtain ⟨R, ps, Post, Xp, e, hp, _, hs, _⟩ := h
    rw [← parsOk_len hp]; exact (hS ps Post Xp hs).1
  · obtain ⟨R, ps, Post, Xp, e, hp, ho, hs, q, qx⟩ := h
    obtain ⟨o1, o2⟩ := noOi (vs := vs) ho
    have aft : ∀ {σ : L2.St} {R' H' : Hp} {Γ : SL}, SOk K ⟨R, H, fun a => a ∈ ownAd ps vs, oiOf 0 ps vs, fun C fs _ => Xp C fs⟩ Γ σ R' H' → After K [] R H R' H' := fun {σ R' H' Γ} s => ⟨s.r0, s.rh, fun a o na h => s.hm a o (by show a ∉ ownAd ps vs; rw [o1]; exact List.not_mem_nil) h, s.pr, s.un⟩
    refine ⟨_, pWB, ?_⟩
    refine (body _ ⟨R, H, fun a => a ∈ ownAd ps vs, oiOf 0 ps vs, fun C fs _ => Xp C fs⟩ ⟨rfl, rfl, rfl, rfl, rfl, hr⟩ ps Post Xp hs fun C fs Γ h => h).run ?_ _ R H (entry_ok e hp (by rw [o1]; exact List.nodup_nil)) _ ?_
    · refine ⟨rfl, sc.nd, fun i x hv hi => ?_, fun i x ha hi => ?_, sb.dbg, sb.gl, sc.kind, fun s0 e0 => ?_, fun _ => rfl, L2H.roomH_of hr, passes_of rfl, sb.lc, ?_, fun a ha => ?_, ?_, fun _ => ⟨rfl, rfl⟩⟩
      · rcases sb.vis i x hv hi with h | h
        · exact .inl h
        · exact .inr (.inl h)
      · refine ⟨?_, .inl rfl⟩
        rcases sb.vis i x (sb.as i ha) hi with h | h
        · exact .inl h
        · exact .inr h
      · rcases hsc with h | h
        · rw [h] at e0; cases e0
        · rw [h] at e0; cases e0; rfl
      · show (oiOf 0 ps vs).map (·.1) = n.oi
        rw [o2, hoi]; rfl
      · have ha' : a ∈ ownAd ps vs := ha
        rw [o1] at ha'; cases ha'
      · exact Takes.imp (takes_of rfl rfl rfl rfl) fun cls d σ H' ⟨C, fs, Γ, R', e1, xd, s', xp⟩ => by
          subst e1
          exact qx C d fs R' H' (aft s') xd xp
    · have fin : ∀ {σ : L2.St} {R' H' : Hp} {Γ : SL} {v : V} {r r' : Res}, SOk K ⟨R, H, fun a => a ∈ ownAd ps vs, oiOf 0 ps vs, fun C fs _ => Xp C fs⟩ Γ σ R' H' → VOk K ⟨R, H, fun a => a ∈ ownAd ps vs, oiOf 0 ps vs, fun C fs _ => Xp C fs⟩ Γ σ R' H' r v → r.le r' → Post r' → Q v H' :=
        fun {σ R' H' Γ v r r'} s ro le po => by
          refine q v R' H' r' (aft s) ?_ po
          cases r with
          | d x =>
            cases r' with
            | d y => cases (show Res.d x = Res.d y from le); exact ro
            | own o => exact absurd (show Res.d x = Res.own o from le) (by intro z; cases z)
          | own o =>
            cases r' with
            | d y => exact absurd (show Res.own o = Res.d y from le) (by intro z; cases z)
            | own o' => obtain ⟨a, h1, h2, h3, h4, _⟩ := ro; exact ⟨a, h1, OB.le.ok le h2, h3, h4⟩
      exact ⟨fun σ R' H' Γ s e' ⟨os, h1, h2⟩ => fin (v := .non) (r := .d .non) (r' := .d .non) s rfl rfl h2, fun v σ R' H' Γ r s e' ro ⟨r', os, h1, h2, h3⟩ => fin s ro h1 h3, fun σ R' H' Γ s e' h => h.elim, fun σ R' H' Γ s e' h => h.elim⟩
end DL

end
section
set_option Elab.async false
set_option linter.all false
set_option autoImplicit true
set_option maxRecDepth 100000
set_option maxHeartbeats 1000000
/-! except suites: isinstance, fields, calls there; try .. except X as n -/
namespace DL
open PySem L2
open PyProof.Rows hiding St
theorem findObj_dataA {K : PySem.W.Frag} {C : Addr} {od : Option Obj} {name : Str} {a g : Value} (hc : (PySem.W.clsIn K C).isSome = true) (ha : PySem.W.findIn K (.ref C) name = some (some a)) (hg : PySem.W.specialIn K a "__get__" = some (some g)) (ht : PySem.W.takesIn K a = some true) : PySem.W.findObj K C od name = some (.bind g a) := by
  obtain ⟨cd, hc⟩ := Option.isSome_iff_exists.mp hc
  unfold PySem.W.findObj
  rw [hc, Option.bind_some, ha, Option.bind_some]
  simp [hg, ht]
end DL
namespace PySem.W
open PySem PySem.Spec PySem.Calls PyProof.Rows
section
variable {prog : Program} {w : World} {A : Around} {E : Value → Shared → Prop} {s : Shared} {K : Frag} {x D : Addr} {ox : Obj} {od : Option Obj}
theorem kin_classA {Q : Option Value → Shared → Prop} (C : L2.ExcC K D) (X : K.In s.heap) (I : InstAt s.heap x ox D od) (h : Q (some (.ref D)) { s with toks := s.toks + 1 }) : wpAny (model prog w) A (getAttr? (.ref x) "__class__") Q E s := by
  have hf : findObj K D od "__class__" = some (.bind (.builtin "getset_descriptor.__get__") (.builtin "object.__class__")) := DL.findObj_dataA (by obtain ⟨cd, hc, _⟩ := any_some C.hd; rw [hc]; rfl) C.ha C.hn C.ht
  obtain ⟨hp, g, d, t, os⟩ := s
  have L0 := I.type (M := model prog w)
  have L1 := looks_findIn (M := model prog w) X C.hg
  have L2 := looks_findIn (M := model prog w) X C.hk
  have L3 := looks_find (M := model prog w) X I hf
  have sub : Looks (model prog w) hp (isInstance (.ref x) (.type "BaseException")) true := L0.andThen (looks_subIn X C.hs)
  have hx0 : (false && onTheHeap (Value.builtin "BaseException.__getattribute__")) = false := rfl
  have hx2 : (Value.builtin "BaseException.__getattribute__" == Value.builtin "object.__getattribute__") = false := by decide +kernel
  have hx1 : (onTheHeap (Value.ref D) && Value.builtin "BaseException.__getattribute__" == Value.builtin "object.__getattribute__") = false := by rw [hx2]; rfl
  unfold getAttr? getAttrBy? getAttrBy
  refine wpAny_bind (wpAny_mkText (wpAny_bind (wpAny_attempt (wpAny_holding (wpAny_bind (L0.at (wpAny_bind (L1.at ?_))))))))
  show wpAny _ _ (if (onTheHeap (Value.ref D) && Value.builtin "BaseException.__getattribute__" == Value.builtin "object.__getattribute__") = true then _ else _) _ _ _
  rw [hx1, if_neg Bool.false_ne_true]
  unfold getAttrByItsOwn hookBefore
  refine wpAny_bind ?_
  rw [if_pos (show onTheHeap (Value.ref D) = true from rfl)]
  refine L2.at ?_
  refine wpAny_bind (wpAny_attempt (wpAny_holding ?_))
  unfold callGetattribute
  rw [hx0, if_neg Bool.false_ne_true]
  unfold boundAndCalled
  rw [PySem.F.excAttr_ValueError.ga.bind (.ref x)]
  refine wpAny_bind (wpAny_pure ?_)
  show wpAny _ _ (call (.builtin "BaseException.__getattribute__") [.ref x, .str "__class__" t]) _ _ _
  refine wpAny_call (codeAny_call_builtin PySem.F.excAttr_ValueError.ga.plain PySem.F.entry_bexc_ga ?_)
  refine @check_slot (model prog w) _ _ ⟨hp, g, d, t + 1, os⟩ "BaseException.__getattribute__" "BaseException" "__getattribute__" (.ref x) [.str "__class__" t] [] _ (by decide +kernel) (by decide +kernel) sub (PySem.F.args_bexc_ga (.ref x) (.str "__class__" t)) ?_
  unfold Builtin.«object.__getattribute__»
  refine wpAny_bind (wpAny_of_eq (a := ((Value.ref x : Value), [Value.str "__class__" t])) (by first | rfl | (simp only [slotArgs]; rfl)) ?_)
  refine wpAny_bind (wpAny_pure (wpAny_bind (L0.at (wpAny_bind (L3.at ?_)))))
  show wpAny _ _ (holding [Value.builtin "object.__class__"] (call (.builtin "getset_descriptor.__get__") [.builtin "object.__class__", .ref x, .ref D]) >>= ret) _ _ _
  refine wpAny_bind (wpAny_holding (wpAny_call (class_get (s := ⟨hp, g, d, t + 1, os⟩) (ox := ox) (od := od) X I C.hm ?_)))
  refine wpAny_pure ?_
  show wpAny _ _ (handedOut (.ref D)) _ _ _
  rw [handedOut_of (v := .ref D) rfl]
  first
    | exact wpAny_pure (wpAny_pure h)
    | exact wpAny_pure h
    | exact wpAny_pure (wpAny_bind (wpAny_pure (wpAny_pure h)))
theorem kitx_excA (C : L2.ExcC K D) : KitX K (.ref x) (.ref D) (fun h => InstAt h x ox D od) where
  ty := fun _ _ _ I => I.type
  it := fun _ _ X _ => by
    obtain ⟨cdD, hcD, _⟩ := any_some C.hd
    unfold clsIn at hcD
    split at hcD
    · rename_i c' d' cd' sl' ho
      intro A' Q' E' s' k q
      unfold isType loadHead
      exact wpAny_bind (wpAny_loadPart (k _ _ (X _ _ ho)) (wpAny_pure q))
    · cases hcD
  ne := fun h tp dd its n sl X htp => by
    obtain ⟨cdD, hcD, _⟩ := any_some C.hd
    refine Bool.eq_false_iff.mpr fun q => ?_
    have e : D = tp := Value.ref.inj (beq_iff_eq.mp q)
    subst e
    unfold clsIn at hcD
    split at hcD
    · rename_i c' d' cd' sl' ho
      have z := (X _ _ ho).symm.trans htp
      cases z
    · cases hcD
  ca := fun X I k => kin_classA C X I k
end
end PySem.W
namespace DL
open PySem L2
open PyProof.Rows hiding St
/-- the exception at a: an instance of the class at C, d its dict -/
structure HotE (X : Cx) (a C : Addr) (d : Option Addr) : Prop where
  ex : ∃ oe, (a, oe) ∈ X.pn ∧ Zc (.ref C) d oe ∧ ∃ vs, oe.data = .fields vs
/-- a class by its name: an own one or a built-in one -/
structure KCls (X : Cx) (nm : Str) (cv : Value) : Prop where
  nm : (∃ C, X.mg nm = some (.ref C) ∧ cv = .ref C) ∨ (X.mg nm = none ∧ ∃ T, bootBuiltins nm = some (.type T) ∧ cv = .type T)
def rIsA (K : PySem.W.Frag) (D a : Addr) (d : Option Addr) : List V → Hp → VK → Prop := fun xs H Q => ∃ (c : V) (cv : Value) (b : Bool), xs = [.ref a, c] ∧ (∀ u, RelV c u → u = cv) ∧ PySem.W.kitOne K (.ref D) cv = some b ∧ (d = none ∨ ∃ dd fs, d = some dd ∧ H dd = some (.xd fs)) ∧ Q (.bl b) H
section
variable {X : Cx} {n : Nm} {c : Cc} {Γ : SL} {e : Expr} {es : List Expr} {x : D} {pos p p1 p2 : Pos} {nm en cn : Str} {a C : Addr} {d : Option Addr} {fs : List (Str × D)} {cv : Value} {b : Bool} {De : DE}
theorem call_isA (hC : ExcC X.K C) (hE : HotE X a C d) : CallR X (.builtin "isinstance") (rIsA X.K C a d) := by
  intro pins s σ H xs us Q I r h
  obtain ⟨c, cv, b, rfl, hcv, e, hd, q⟩ := h
  obtain ⟨oe, hm, hz, hf⟩ := hE
  cases r with
  | cons rx rr =>
    cases rr with
    | cons rt rr =>
      cases rr
      cases rx
      have ec := hcv _ rt
      subst ec
      obtain ⟨hget, _⟩ := I.pin (a, oe) (List.mem_append.mpr (.inl hm))
      obtain ⟨vs, hv⟩ := hf
      have J : ∃ od, PySem.W.InstAt s.heap a oe C od := by
        rcases hd with hd | ⟨dd, fs, hd, hx⟩
        · refine ⟨none, hget, hz.1, by unfold PySem.W.notCls; rw [hv] <;> rfl, ?_⟩
          rw [hz.2, hd]; trivial
        · obtain ⟨mA, hns, hr⟩ := I.hok dd _ hx
          obtain ⟨od, ho, hl⟩ := lookIn_ns hns
          refine ⟨some od, hget, hz.1, by unfold PySem.W.notCls; rw [hv] <;> rfl, ?_⟩
          rw [hz.2, hd]; exact ho
      obtain ⟨od, J⟩ := J
      exact PySem.W.kia_one (PySem.W.kitx_excA hC) I.kIn J e (fun z => nomatch z) fun tk => ⟨.bl b, H, I.kept (t' := tk) fun _ _ z => z, rfl, q⟩
theorem ev_isE (i : Nat) (hE : HotE X a C d) (hC : ExcC X.K C) (hb : Blt X "isinstance" (.builtin "isinstance")) (kc : KCls X cn cv) (ki : PySem.W.kitOne X.K (.ref C) cv = some b) (j j2 : Nat) (hg : Γ[i]? = some (.ex a d fs) := by rfl) (hi : n.N[i]? = some en := by rfl) (hv : n.V.contains i = true := by rfl)
    (hj : n.GN[j]? = some ("isinstance" : Str) := by rfl) (hj2 : n.GN[j2]? = some cn := by rfl) (he : starEach [.Name en p1, .Name cn p2] X.env = (false, eval (.Name en p1) X.env) :: starEach [.Name cn p2] X.env := by exact se_c rfl) (he2 : starEach [.Name cn p2] X.env = (false, eval (.Name cn p2) X.env) :: starEach [] X.env := by exact se_c rfl) (hpl : (backTo pos (starEach [.Name cn p2] X.env)).any (·.1) = false := by exact se_any rfl) :
    EV X n c Γ (.Call (.Name "isinstance" p) [.Name en p1, .Name cn p2] [] pos) (.bl b) := .mk fun hn σ R H s Q q => by
  obtain ⟨g1, g2, g3⟩ := hn.gl j _ hj
  obtain ⟨g4, g5, g6⟩ := hn.gl j2 _ hj2
  obtain ⟨o, e1, e2, xf⟩ := s.sl i _ hg
  subst e2
  have hd : d = none ∨ ∃ dd fs, d = some dd ∧ H dd = some (.xd fs) := by
    rcases xf with h | ⟨dd, vs, h1, h2, _⟩
    · exact .inl h.1
    · exact .inr ⟨dd, vs, h1, s.rh _ _ h2⟩
  obtain ⟨h1, h2⟩ := hn.dbg i en hi
  have pv := pe_var (X := X) (pos := p1) (i := i) (by rw [hn.eq]; exact hi) (hn.vis i en hv hi) h1 h2
  rcases kc.nm with ⟨C', m1, rfl⟩ | ⟨m1, T, m2, rfl⟩
  · refine (pe_callB (call_isA hC hE) g1 hb.mg hb.bt (pa_cons pv (pa_cons (pe_glob (v := .ref C') g4 m1 rfl g5) pa_nil he2) he) g3 g2 he hpl).w ?_
    exact ⟨.ref a, e1, .ref C', .ref C', b, rfl, fun u r => r, ki, hd, q (.bl b) R H (.bl b) Γ s (Ex.refl _) rfl ⟨rfl, rfl⟩⟩
  · refine (pe_callB (call_isA hC hE) g1 hb.mg hb.bt (pa_cons pv (pa_cons (pe_bltn (v := .ty T) g4 m1 m2 rfl g6 g5) pa_nil he2) he) g3 g2 he hpl).w ?_
    exact ⟨.ref a, e1, .ty T, .type T, b, rfl, fun u r => r, ki, hd, q (.bl b) R H (.bl b) Γ s (Ex.refl _) rfl ⟨rfl, rfl⟩⟩
theorem et_isE (i : Nat) (hE : HotE X a C d) (hC : ExcC X.K C) (hb : Blt X "isinstance" (.builtin "isinstance")) (kc : KCls X cn cv) (ki : PySem.W.kitOne X.K (.ref C) cv = some b) (j j2 : Nat) (hg : Γ[i]? = some (.ex a d fs) := by rfl) (hi : n.N[i]? = some en := by rfl) (hv : n.V.contains i = true := by rfl)
    (hj : n.GN[j]? = some ("isinstance" : Str) := by rfl) (hj2 : n.GN[j2]? = some cn := by rfl) (he : starEach [.Name en p1, .Name cn p2] X.env = (false, eval (.Name en p1) X.env) :: starEach [.Name cn p2] X.env := by exact se_c rfl) (he2 : starEach [.Name cn p2] X.env = (false, eval (.Name cn p2) X.env) :: starEach [] X.env := by exact se_c rfl) (hpl : (backTo pos (starEach [.Name cn p2] X.env)).any (·.1) = false := by exact se_any rfl) :
    ET X n c Γ (.Call (.Name "isinstance" p) [.Name en p1, .Name cn p2] [] pos) b := et_val (ev_isE i hE hC hb kc ki j j2 hg hi hv hj hj2 he he2 hpl)
theorem fld_lookup {K : PySem.W.Frag} {R : Hp} {f : Str} : ∀ {fs : List (Str × D)} {ws : List (Str × V)} {x : D}, FldOk K R fs ws → fs.lookup f = some x → ∃ v, ws.lookup f = some v ∧ Rp K R x v
  | [], _, _, _, h => by cases h
  | (k, d) :: r, _, x, ⟨v, ws', e, h1, h2⟩, h => by
    subst e
    rw [List.lookup_cons] at h ⊢
    cases hk : (f == k) with
    | true => rw [hk] at h; cases h; exact ⟨v, rfl, h1⟩
    | false => rw [hk] at h; exact fld_lookup h2 h
/-- e.f -/
theorem ev_fld {f : Str} {dd : Addr} (i : Nat) (hE : HotE X a C (some dd)) (hC : ExcC X.K C) (hno : PySem.W.findIn X.K (.ref C) f = some none) (hl : fs.lookup f = some x) (hg : Γ[i]? = some (.ex a (some dd) fs) := by rfl) (hi : n.N[i]? = some en := by rfl) (hv : n.V.contains i = true := by rfl)
    (hb : attributeBase (.Name en p1) f X.env (eval (.Name en p1) X.env) = eval (.Name en p1) X.env := by rfl) : EV X n c Γ (.Attribute (.Name en p1) f pos) x := .mk fun hn σ R H s Q q => by
  obtain ⟨o, e1, e2, xf⟩ := s.sl i _ hg
  subst e2
  obtain ⟨h1, h2⟩ := hn.dbg i en hi
  obtain ⟨oe, hm, hz, vs0, hvs⟩ := hE
  have pv := pe_var (X := X) (pos := p1) (i := i) (by rw [hn.eq]; exact hi) (hn.vis i en hv hi) h1 h2
  rcases xf with h | ⟨d1, ws, hd1, h3, h4⟩
  · cases h.1
  · cases hd1
    obtain ⟨v, hlv, rv⟩ := fld_lookup h4 hl
    intro pins sh I
    refine attr_of hb (thn (pv.run pins sh σ H (fun y H1 => y = V.ref a ∧ H1 = H) I ⟨.ref a, e1, rfl, rfl⟩) fun u s1 hh => ?_)
    obtain ⟨y, H1, I1, rx, ey, eH⟩ := hh
    subst ey
    have eH' := eH.symm
    subst eH'
    obtain rfl : u = Value.ref a := rx
    obtain ⟨ha, _⟩ := I1.pin (a, oe) (List.mem_append_left _ hm)
    have hx : ObjOk X.prog X.w H s1.heap dd (.xd ws) := I1.hok dd _ (s.rh _ _ h3)
    obtain ⟨mA, hns, hr⟩ := hx
    obtain ⟨od, ho, hl2⟩ := lookIn_ns hns
    obtain ⟨u, hu, ru⟩ := RelO.some_of (v := v) (o := mA f) (by rw [← hlv]; exact hr f)
    have J : PySem.W.InstAt s1.heap a oe C (some od) := ⟨ha, hz.1, by unfold PySem.W.notCls; rw [hvs] <;> rfl, by rw [hz.2]; exact ho⟩
    exact HandSPX.exc_get I1.kIn J hC.hg hC.hk hC.hs (PySem.W.findObj_own hC.hd hno rfl (by rw [hl2, hu])) (handed_of ru) ⟨v, H, I1.tok _, ru, q v R H x Γ s (Ex.refl _) rv ⟨rfl, rfl⟩⟩
end
/-! ### defs called in a suite with the exception -/
structure FnE (P : Program) (w : World) (K : PySem.W.Frag) (mg : Str → Option Value) (base : Heap) (k : Nat) (f : Addr) (fd : FuncData) (ps : List Str) (sp : Addr × Obj → Sp) : Prop where
  len : ∀ p vs H Q E, sp p vs H Q E → vs.length = ps.length
  run : ∀ (A : Around) (outer : List Env) (s : Shared) (H : Hp) (args : Args) (us : List Value) (vs : List V) (Q : VK) (E : XK) (p : Addr × Obj), L2H.RoomH k A → L2H.PinOk outer H s p → Env0 P w K mg base A outer s H → BindsTo s fd args (ps.zip us) → Vals vs us → sp p vs H Q E →
    codeAny (model P w) A (.call (.ref f) args) (CR L2.CX0 outer P w H s Q E) s
theorem fn_ofE {P : Program} {w : World} {K : PySem.W.Frag} {mg : Str → Option Value} {base : Heap} {k : Nat} {f : Addr} {name qual : Str} {params : Arguments} {body : List Stmt} {scope : Scope} {dV kV doc pm cdv ct oc : Value} {an od : Option Addr}
    {osl : Array (Option Value)} {N ps : List Str} {sp : Addr × Obj → Sp} (lk : K.lookup f = some ⟨oc, od, .func (PySem.W.fnOf name qual params body scope dV kV doc pm an cdv ct), osl⟩) (hcd : PySem.W.codeIn K cdv qual = true) (S : FnScope N ps scope)
    (len : ∀ p vs H Q E, sp p vs H Q E → vs.length = ps.length)
    (hbody : ∀ (A : Around) (outer : List Env) (s : Shared) (H : Hp) (vs : List V) (Q : VK) (E : XK) (p : Addr × Obj), L2H.RoomH k (A.deeper (envOfC qual scope s.heap.objs.size f cdv)) → H p.1 = none → sp p vs H Q E →
      ∃ t, PSs (L2H.cxH L2.CX0 P w K mg base N qual scope f cdv A outer s H E p) body t ∧ t { nx := fun _ H' => Q .non H', rt := Q } (L2.start N vs) H) :
    FnE P w K mg base (k + 1) f (PySem.W.fnOf name qual params body scope dV kV doc pm an cdv ct) ps sp := by
  refine ⟨len, fun A outer s H args us vs Q E p hr hpin e0 hb r hsp => ?_⟩
  have hl := len _ _ _ _ _ hsp
  have KX : K.In s.heap := e0.mod.kin.keeps fun b o e => (e0.bs b o e).1
  have lim : s.heap.NoLimit := e0.mod.nolimit.keeps fun b o e => (e0.bs b o e).1
  have hkind : ∀ y ∈ ps.zip us, scope.names.lookup y.1 = some .local ∨ (scope.names.lookup y.1 = some .cell ∧ ((cellsFrom (s.heap.objs.size + 1) scope.names []).lookup y.1).isSome = true) := fun ⟨n, v⟩ hy => by
    rcases S.par n (List.of_mem_zip hy).1 with q | q
    · exact .inl q
    · exact .inr ⟨q, PySem.W.cellsFrom_some _ _ _ (.inl q)⟩
  refine codeAny_call_function hr.depth (KX _ _ lk) rfl S.co S.gen rfl (PySem.W.codeRec_of KX hcd) (hb _ _ _ _ ?_)
  refine wpAny_newFunctionEnv_cells S.kind hkind fun env he s1 x => ?_
  subst he
  refine ⟨lim.keeps x.toInCall.keep, codeAny_func ?_⟩
  obtain ⟨t, ht, hq⟩ := hbody A outer s H vs Q E p (hr.deeper _) hpin.free hsp
  have I : Inv (L2H.cxH L2.CX0 P w K mg base N qual scope f cdv A outer s H E p) [] (L2.start N vs) H s1 := L2H.inv_startH S hpin e0 hl r x
  refine wpAny_mono (ht.run [] s1 (L2.start N vs) H _ I hq) (fun fl s' hs => ?_) fun e s' hs => hs
  have fin : ∀ {σ' : L2.St} {H' : Hp} {v : V} {u : Value}, Inv (L2H.cxH L2.CX0 P w K mg base N qual scope f cdv A outer s H E p) [] σ' H' s' → L2.RelV v u → Q v H' → CE outer P w H s Q u s' :=
    fun {σ' H' v u} J rv q => ⟨v, H', J.os, J.bare, J.base, J.hok, rv, q⟩
  cases fl with
  | ret u =>
    obtain ⟨v, σ', H', J, rv, q⟩ := hs
    exact fin J rv q
  | next =>
    obtain ⟨σ', H', J, q⟩ := hs
    exact fin (v := V.non) (u := Value.none) J rfl q
  | brk =>
    obtain ⟨_, _, _, q⟩ := hs
    exact False.elim q
  | cont =>
    obtain ⟨_, _, _, q⟩ := hs
    exact False.elim q
/-- what such a def says: of an exception of the class at C it is b -/
def spE (K : PySem.W.Frag) (S : Addr → Bool → Prop) : Addr × Obj → Sp := fun p vs H Q _ => ∃ (R : Hp) (C : Addr) (d : Option Addr) (fs : List (Str × D)) (b : Bool), Ex R H ∧ vs = [.ref p.1] ∧ Zc (.ref C) d p.2 ∧ (∃ us, p.2.data = .fields us) ∧ XfOk K R d fs ∧ S C b ∧
  ∀ R' H', After K [] R H R' H' → Q (.bl b) H'
structure CalE (X : Cx) (k : Nat) (nm : Str) (S : Addr → Bool → Prop) : Prop where
  rm : L2H.RoomH k X.A
  ex : ∃ f fd ps k0, FnE X.prog X.w X.K X.mg X.base k0 f fd ps (spE X.K S) ∧ k0 ≤ k ∧ X.mg nm = some (.ref f) ∧ PySem.W.keepIn X.K (.ref f) = true ∧ Binds X.K fd ps []
theorem DefAt.calE {X : Cx} {nm : Str} {st : Stmt} {ps : List Str} {k k0 : Nat} {S : Addr → Bool → Prop} (d : DefAt X.K X.mg nm st ps) (F : FnE X.prog X.w X.K X.mg X.base k0 d.a d.fd ps (spE X.K S)) (h : k0 ≤ k) (rm : L2H.RoomH k X.A) : CalE X k nm S :=
  ⟨rm, d.a, d.fd, ps, k0, F, h, d.m, d.F.kp, d.b⟩
section
variable {X : Cx} {n : Nm} {c : Cc} {Γ : SL} {e : Expr} {es : List Expr} {x : D} {pos p p1 p2 : Pos} {nm en cn : Str} {a C : Addr} {d : Option Addr} {fs : List (Str × D)} {cv : Value} {b : Bool} {De : DE} {S : Addr → Bool → Prop}
theorem run_fnE {k : Nat} {f : Addr} {fd : FuncData} {ps : List Str} {sp : Addr × Obj → Sp} {q : Addr × Obj} {pins : List (Addr × Obj)} {σ : L2.St} {H : Hp} {s : Shared} {Q : VK} {us : List Value} {vs : List V} (F : FnE X.prog X.w X.K X.mg X.base k f fd ps sp) (hr : L2H.RoomH k X.A) (hp : q ∈ X.pn) (hb : Binds X.K fd ps [])
    (I : Inv X pins σ H s) (r : Vals vs us) (h : sp q vs H Q E0) : wpAny (model X.prog X.w) X.A (call (.ref f) us) (EP X pins σ Q) X.xe s := by
  have hl : us.length = ps.length := by rw [← r.length]; exact F.len _ _ _ _ _ h
  have b := hb s us I.kIn (by rw [List.append_nil]; exact hl)
  rw [List.append_nil] at b
  have P1 := I.pin q (List.mem_append_left _ hp)
  have hpin : L2H.PinOk X.stack H s q := ⟨P1.1, P1.2.1, fun hm => (List.mem_cons.mp (I.stkSub q.1 hm)).elim P1.2.2.1 P1.2.2.2.1, P1.2.2.2.2⟩
  refine wpAny_call (codeAny_mono (F.run X.A X.stack s H ⟨us, []⟩ us vs Q E0 q hr hpin I.env0 b r h) fun r s' hq => ?_)
  cases r with
  | error e => exact False.elim hq
  | ok fl =>
    cases fl with
    | ret u => exact I.after hq
    | next => exact False.elim hq
    | brk => exact False.elim hq
    | cont => exact False.elim hq
/-- f(e), e the exception -/
theorem ev_callE (i : Nat) (hc : CalE X n.k nm S) (hE : HotE X a C d) (hS : S C b) (j : Nat) (hg : Γ[i]? = some (.ex a d fs) := by rfl) (hi : n.N[i]? = some en := by rfl) (hv : n.V.contains i = true := by rfl) (hj : n.GN[j]? = some nm := by rfl)
    (he : starEach [.Name en p1] X.env = (false, eval (.Name en p1) X.env) :: starEach [] X.env := by exact se_c rfl) (hpl : (backTo pos (starEach [] X.env)).any (·.1) = false := by exact se_any rfl) : EV X n c Γ (.Call (.Name nm p) [.Name en p1] [] pos) (.bl b) := .mk fun hn σ R H s Q q => by
  obtain ⟨f, fd, qs, k0, F, hk, hm, kp, hb⟩ := hc.ex
  obtain ⟨g1, g2, g3⟩ := hn.gl j nm hj
  obtain ⟨o, e1, e2, xf⟩ := s.sl i _ hg
  subst e2
  obtain ⟨h1, h2⟩ := hn.dbg i en hi
  obtain ⟨oe, hmm, hz, hvs⟩ := hE
  have pv := pe_var (X := X) (pos := p1) (i := i) (by rw [hn.eq]; exact hi) (hn.vis i en hv hi) h1 h2
  intro pins sh I
  refine wpAny_Call_Name_kw (ld_glob I g1 hm ?_ g2)
  refine PySem.W.callWith_K (h₀ := X.base) I.ok.mod.kin kp (thn ((pa_cons pv pa_nil he).run pos pins sh σ H (fun vs H1 => vs = [V.ref a] ∧ H1 = H) I ⟨.ref a, e1, rfl, rfl⟩) fun us s1 ⟨vs, H1, I1, r, e3, e4⟩ => ⟨I1.kIn, ?_⟩) he hpl
  subst e3
  have e4' := e4.symm
  subst e4'
  refine run_fnE (q := (a, oe)) F (hc.rm.mono hk) hmm hb I1 r ⟨R, C, d, fs, b, s.rh, rfl, hz, hvs, xf, hS, fun R' H' A => ?_⟩
  have s' : SOk X.K c Γ σ R' H' := by
    have := s.after (ks := []) (vs := []) (ps := []) (os := []) rfl rfl List.nodup_nil A rfl
    exact this
  exact q (.bl b) R' H' (.bl b) Γ s' A.r rfl ⟨rfl, rfl⟩
end
theorem fn_okE {P : Program} {w : World} {K : PySem.W.Frag} {mg : Str → Option Value} {base : Heap} {x qual : Str} {st : Stmt} {f : Addr} {fd : FuncData} {qn : Str} {n : Nm} {S : Addr → Bool → Prop} (F : Fun K x qual st f fd) (sc : FnScope n.N [qn] (defScope st)) (sb : ScOk (defScope st) n) (hsc : n.sc = none ∨ n.sc = some (defScope st)) (hoi : n.oi = []) (hot : n.hot = true)
    (body : ∀ (X : Cx) (c : Cc), X.prog = P ∧ X.w = w ∧ X.K = K ∧ X.mg = mg ∧ X.base = base ∧ L2H.RoomH n.k X.A → ∀ a C d fs b, HotE X a C d → S C b → WB X n c (.ex a d fs :: List.replicate (n.N.length - 1) .no) (defBody st) (fnD [] fun r _ => r = .d (.bl b))) : FnE P w K mg base (n.k + 1) f fd [qn] (spE K S) := by
  obtain ⟨oc, od, kV, doc, pm, an, cdv, ct, osl, rfl, lk, hcd⟩ := F.ex
  refine fn_ofE lk hcd sc (fun p vs H Q E h => ?_) (fun A outer s H vs Q E p hr hfree h => ?_)
  · obtain ⟨R, C, d, fs, b, _, rfl, _⟩ := h; rfl
  · obtain ⟨R, C, d, fs, b, e, rfl, hz, hf, xf, hS, q⟩ := h
    refine ⟨_, PSs.nox pWB, ?_⟩
    have hlen : 1 ≤ n.N.length := by have := congrArg List.length sc.pre; rw [List.length_take] at this; simp at this; omega
    have s0 : SOk K ⟨R, H, fun _ => False, [], fun _ _ _ => False⟩ (.ex p.1 d fs :: List.replicate (n.N.length - 1) .no) (L2.start n.N [.ref p.1]) R H := by
      refine ⟨e, Ex.refl _, fun _ _ _ h => h, fun _ h => h, fun _ _ h => h, by unfold L2.start; simp, fun i sl hi => ?_, fun i j a o o' h1 h2 => ?_, fun _ h => nomatch h⟩
      · unfold L2.start
        cases i with
        | zero => cases hi; exact ⟨_, rfl, rfl, xf⟩
        | succ i =>
          simp only [List.getElem?_cons_succ, List.getElem?_replicate] at hi
          split at hi
          · cases hi
            refine ⟨none, ?_, rfl⟩
            simp only [List.map_cons, List.map_nil, List.cons_append, List.nil_append, List.getElem?_cons_succ, List.getElem?_replicate, List.length_singleton]
            rw [if_pos (by assumption)]
          · cases hi
      · cases i with
        | zero => cases h1
        | succ i =>
          simp only [List.getElem?_cons_succ, List.getElem?_replicate] at h1
          split at h1 <;> cases h1
    refine (body (L2H.cxH L2.CX0 P w K mg base n.N qual (defScope st) f cdv A outer s H E p).nox ⟨R, H, fun _ => False, [], fun _ _ _ => False⟩ ⟨rfl, rfl, rfl, rfl, rfl, hr⟩ p.1 C d fs b ⟨p.2, List.mem_singleton.mpr rfl, hz, hf⟩ hS).run ?_ _ R H s0 _ ?_
    · refine ⟨rfl, sc.nd, fun i x hv hi => ?_, fun i x ha hi => ?_, sb.dbg, sb.gl, sc.kind, fun s0 e0 => ?_, (fun z => by rw [hot] at z; cases z), hr, PassesOwn.never, sb.lc, hoi.symm, fun a ha => ha.elim, takes_no rfl, fun _ => ⟨rfl, rfl⟩⟩
      · rcases sb.vis i x hv hi with h | h
        · exact .inl h
        · exact .inr (.inl h)
      · refine ⟨?_, .inl rfl⟩
        rcases sb.vis i x (sb.as i ha) hi with h | h
        · exact .inl h
        · exact .inr h
      · rcases hsc with h | h
        · rw [h] at e0; cases e0
        · rw [h] at e0; cases e0; rfl
    · have aft : ∀ {σ : L2.St} {R' H' : Hp} {Γ : SL}, SOk K ⟨R, H, fun _ => False, [], fun _ _ _ => False⟩ Γ σ R' H' → After K [] R H R' H' := fun {σ R' H' Γ} s => ⟨s.r0, s.rh, fun a o na h => s.hm a o (fun z => z) h, s.pr, s.un⟩
      refine ⟨(fun σ R' H' Γ s e' ⟨os, h1, h2⟩ => by cases h2), fun v σ R' H' Γ r s e' ro ⟨r', os, h1, h2, h3⟩ => ?_, fun σ R' H' Γ s e' h => h.elim, fun σ R' H' Γ s e' h => h.elim⟩
      subst h3
      have : v = .bl b := by
        cases r with
        | d y => cases (show Res.d y = Res.d (.bl b) from h1); exact ro
        | own o => exact absurd (show Res.own o = Res.d (.bl b) from h1) (by intro z; cases z)
      subst this
      exact q R' H' (aft s)
/-! ### try .. except X as n -/
abbrev Nm.ht (n : Nm) : Nm := { n with hot := true }
abbrev Cc.xws (c : Cc) (f : Addr → List (Str × D) → List Slot → Prop) : Cc := { c with xw := f }
abbrev Cc.tr (c : Cc) (R : Hp) (f : Addr → List (Str × D) → List Slot → Prop) : Cc := { c with R0 := R, xw := f }
abbrev Cc.nox (c : Cc) : Cc := c.xws fun _ _ _ => False
def DE.at (De : DE) (i : Nat) : DE where
  nx := fun Γ => De.nx (Γ.set i .no)
  rt := De.rt
  bk := fun Γ => De.bk (Γ.set i .no)
  ct := fun Γ => De.ct (Γ.set i .no)
section
variable {K : PySem.W.Frag} {c : Cc} {Γ : SL} {σ : L2.St} {R H : Hp} {f : Addr → List (Str × D) → List Slot → Prop}
theorem SOk.xws (s : SOk K c Γ σ R H) : SOk K (c.xws f) Γ σ R H := ⟨s.rh, s.r0, s.hm, s.pr, s.un, s.len, fun i x e => by
  obtain ⟨o, h1, h2⟩ := s.sl i x e
  refine ⟨o, h1, ?_⟩
  cases x <;> exact h2, s.dj, s.oi⟩
theorem SOk.unxws (s : SOk K (c.xws f) Γ σ R H) : SOk K c Γ σ R H := ⟨s.rh, s.r0, s.hm, s.pr, s.un, s.len, fun i x e => by
  obtain ⟨o, h1, h2⟩ := s.sl i x e
  refine ⟨o, h1, ?_⟩
  cases x <;> exact h2, s.dj, s.oi⟩
theorem VOk.unxws {r : Res} {v : V} (s : VOk K (c.xws f) Γ σ R H r v) : VOk K c Γ σ R H r v := by cases r <;> exact s
theorem SOk.tr (s : SOk K c Γ σ R H) : SOk K (c.tr R f) Γ σ R H := ⟨s.rh, Ex.refl _, s.hm, s.pr, fun _ _ h => h, s.len, fun i x e => by
  obtain ⟨o, h1, h2⟩ := s.sl i x e
  refine ⟨o, h1, ?_⟩
  cases x <;> exact h2, s.dj, s.oi⟩
theorem SOk.untr {Γ0 : SL} {σ0 : L2.St} {R0 H0 : Hp} (s : SOk K (c.tr R0 f) Γ σ R H) (s0 : SOk K c Γ0 σ0 R0 H0) : SOk K c Γ σ R H := ⟨s.rh, s0.r0.trans s.r0, s.hm, s.pr, fun a h1 h2 => s.un a h1 (s0.un a h1 h2), s.len, fun i x e => by
  obtain ⟨o, h1, h2⟩ := s.sl i x e
  refine ⟨o, h1, ?_⟩
  cases x <;> exact h2, s.dj, s.oi⟩
theorem VOk.untr {R0 : Hp} {r : Res} {v : V} (s : VOk K (c.tr R0 f) Γ σ R H r v) : VOk K c Γ σ R H r v := by cases r <;> exact s
theorem EndsOk.tr {De : DE} {E : Ends} (h : EndsOk K c R De E) (s0 : SOk K c Γ σ R H) : EndsOk K (c.tr R f) R De E :=
  ⟨fun σ R' H Γ s => h.nx σ R' H Γ (s.untr s0), fun v σ R' H Γ r s e ro => h.rt v σ R' H Γ r (s.untr s0) e ro.untr, fun σ R' H Γ s => h.bk σ R' H Γ (s.untr s0), fun σ R' H Γ s => h.ct σ R' H Γ (s.untr s0)⟩
theorem EndsOk.xws {De : DE} {E : Ends} (h : EndsOk K c R De E) : EndsOk K (c.xws f) R De E :=
  ⟨fun σ R' H Γ s => h.nx σ R' H Γ s.unxws, fun v σ R' H Γ r s e ro => h.rt v σ R' H Γ r s.unxws e ro.unxws, fun σ R' H Γ s => h.bk σ R' H Γ s.unxws, fun σ R' H Γ s => h.ct σ R' H Γ s.unxws⟩
/-- the exception's dict is frozen -/
theorem SOk.freezeX {d : Option Addr} {fs : List (Str × D)} (s : SOk K c Γ σ R H) (h : XdOk K R H c.H0 d fs) : ∃ R', SOk K c Γ σ R' H ∧ Ex R R' ∧ XfOk K R' d fs := by
  rcases h with h | ⟨dd, vs, h1, h2, h3, h4, h5⟩
  · exact ⟨R, s, Ex.refl _, .inl h⟩
  · have e : Ex R (upd R dd (.xd vs)) := Ex.new h3
    refine ⟨upd R dd (.xd vs), ⟨fun b o q => ?_, s.r0.trans e, s.hm, s.pr, fun b n q => ?_, s.len, fun i x q => ?_, s.dj, s.oi⟩, e, .inr ⟨dd, vs, h1, upd_same, h4.mono e⟩⟩
    · by_cases z : b = dd
      · subst z; rw [upd_same] at q; cases q; exact h2
      · rw [upd_ne z] at q; exact s.rh b o q
    · have z : b ≠ dd := fun z => n (z ▸ h5)
      rw [upd_ne z]; exact s.un b n q
    · obtain ⟨o, q1, q2⟩ := s.sl i x q
      refine ⟨o, q1, ?_⟩
      cases x with
      | no => exact q2
      | any => exact q2
      | d x => obtain ⟨v, z1, z2⟩ := q2; exact ⟨v, z1, z2.mono e⟩
      | w x => obtain ⟨v, z1, z2⟩ := q2; exact ⟨v, z1, z2.mono e fun _ _ _ h => h⟩
      | own ob =>
        obtain ⟨b, z1, z2, z3, z4⟩ := q2
        have z : b ≠ dd := fun z => by
          subst z
          cases ob with
          | lst ds => obtain ⟨ws, w1, _⟩ := z2; rw [h2] at w1; cases w1
          | sto => obtain ⟨_, _, _, _, _, _, _, ws, w1, _⟩ := z2; rw [h2] at w1; cases w1
          | dic ds => obtain ⟨ws, w1, _⟩ := z2; rw [h2] at w1; cases w1
          | ins nm fs => obtain ⟨_, ws, w1, _⟩ := z2; rw [h2] at w1; cases w1
        exact ⟨b, z1, z2.mono e fun _ h => h, by rw [upd_ne z]; exact z3, z4⟩
      | sc ns => obtain ⟨b, z1, z2⟩ := q2; exact ⟨b, z1, ex_l e z2⟩
      | ex _ _ _ => exact ⟨q2.1, q2.2.mono e⟩
end
/-- what the clause 'except X as n' asks of an exception of the body -/
def wTry (X : Cx) (n : Nm) (c : Cc) (i : Nat) (cv : Value) (su : List Stmt) (De : DE) : Addr → List (Str × D) → List Slot → Prop := fun C fs Γ =>
  ∃ b, PySem.W.exmOne X.K (.ref C) cv = some b ∧ (b = true → ∀ a d oe pn, Zc (.ref C) d oe → (∃ vs, oe.data = .fields vs) → (d = none → fs = []) → HotE (X.suite a ((a, oe) :: pn)) a C d → WB (X.suite a ((a, oe) :: pn)) n.ht c.nox (Γ.set i (.ex a d fs)) su (De.at i)) ∧ (b = false → c.xw C fs Γ)
section
variable {X : Cx} {n : Nm} {c : Cc} {Γ : SL} {nm en cn : Str} {cv : Value} {De : DE} {body suite : List Stmt} {b₀ : Stmt} {np pos pos' : Pos}
theorem ws_try (i j : Nat) (kc : KCls X cn cv)
    (hb : ∀ (pn : List (Addr × Obj)) (xe : Value → Shared → Prop) (R0 : Hp), WB (X.tr pn xe) n (c.tr R0 (wTry X n c i cv (b₀ :: suite) De)) Γ body De)
    (hj : n.GN[j]? = some cn := by rfl) (hi : n.N[i]? = some en := by rfl) (hl : n.lc.contains i = true := by rfl) (ho : n.oi.contains i = false := by rfl) (hne : n.lc ≠ [] := by exact List.cons_ne_nil _ _) : WS X n c Γ (.Try body [.ExceptHandler (some (.Name cn np)) (some en) (b₀ :: suite) pos'] [] [] pos) De := .mk fun hn σ R H s E ok => by
  obtain ⟨g1, g2, g3⟩ := hn.gl j cn hj
  obtain ⟨hs, hf⟩ := hn.fr hne
  have hc : Names X cn cv := by
    rcases kc.nm with ⟨C, m1, rfl⟩ | ⟨m1, T, m2, rfl⟩
    · exact ⟨g1, g2, .inl m1⟩
    · exact ⟨g1, g2, .inr ⟨m1, m2, g3⟩⟩
  refine (ps_try_as (i := i) (tb := fun W D σ H => ∀ (pn : List (Addr × Obj)) (xe : Value → Shared → Prop), Takes (X.tr pn xe) W → PassesOwn (model X.prog X.w) X.A X.env xe → tWB (X.tr pn xe) body D σ H)
    (ts := fun a cls d D σ H => ∀ (oe : Obj) (pn : List (Addr × Obj)), Zc cls d oe → (∃ vs, oe.data = .fields vs) → tWB (X.suite a ((a, oe) :: pn)) (b₀ :: suite) D σ H) (Wout := wish X.K c)
    hs hf (by rw [hn.eq]; exact hn.nd) (by rw [hn.eq]; exact hi) (hn.lc i en hl hi) hc hn.tk (fun W pn xe tk po => ⟨fun pins s σ H D I h => h pn xe tk po pins s I⟩) (fun a oe cls d pn hz hf => ⟨fun pins s σ H D I h => h oe pn hz hf pins s I⟩)).w ?_
  intro pn xe tk po
  refine (hb pn xe R).run ⟨hn.eq, hn.nd, hn.vis, hn.loc, hn.dbg, hn.gl, hn.kind, hn.scp, hn.calm, hn.room, po, hn.lc, hn.oi, hn.cm, ?_, hn.fr⟩ σ R H s.tr E (ok.tr s)
  refine tk.imp fun cls d σ' H' ⟨C, fs, Γ1, R1, e1, xd, s1, b, hb1, hy, hno⟩ => ?_
  subst e1
  refine ⟨b, hb1, fun hbt a na oe pn' hz hf => ?_, fun hbf => ⟨C, fs, Γ1, R1, rfl, xd, s1.untr s, hno hbf⟩⟩
  obtain ⟨R2, s2, e2, xf⟩ := (s1.untr s).freezeX xd
  have hio : i ∉ c.oi.map (·.1) := hn.noi ho
  have s3 : SOk X.K c (Γ1.set i (.ex a d fs)) (σ'.set i (some (.ref a))) R2 H' := s2.set i rfl ⟨rfl, xf⟩ hio
  have hfs : d = none → fs = [] := fun hd => by
    rcases xf with h | ⟨dd, vs, h1, _⟩
    · exact h.2
    · rw [hd] at h1; cases h1
  refine (hy hbt a d oe pn' hz hf hfs ⟨oe, List.mem_cons_self, hz, hf⟩).run ⟨hn.eq, hn.nd, hn.vis, hn.loc, hn.dbg, hn.gl, hn.kind, hn.scp, (fun z => by cases z), ⟨hn.room.dp, hn.room.un⟩, PassesOwn.never, hn.lc, hn.oi, hn.cm, takes_no rfl, hn.fr⟩ _ R2 H' s3.xws _ ?_
  have eR : Ex R R2 := s1.r0.trans e2
  · refine ⟨fun σ2 R' H2 Γ2 s' e' p => ?_, fun v σ2 R' H2 Γ2 r s' e' ro p => ?_, fun σ2 R' H2 Γ2 s' e' p => ?_, fun σ2 R' H2 Γ2 s' e' p => ?_⟩
    · exact ok.nx _ R' H2 _ (s'.unxws.set i (sl := .no) rfl rfl hio) (eR.trans e') p
    · exact ok.rt v σ2 R' H2 Γ2 r s'.unxws (eR.trans e') ro.unxws p
    · exact ok.bk _ R' H2 _ (s'.unxws.set i (sl := .no) rfl rfl hio) (eR.trans e') p
    · exact ok.ct _ R' H2 _ (s'.unxws.set i (sl := .no) rfl rfl hio) (eR.trans e') p
end
end DL

end
section
set_option Elab.async false
set_option linter.all false
set_option autoImplicit true
set_option maxRecDepth 100000
set_option maxHeartbeats 1000000
/-! own __init__s with one field, with two; class facts -/
namespace DL
open PySem L2 NdefX
open PyProof.Rows hiding St
def fsO1 (f : Str) : List V → List (Str × V)
  | [y] => [(f, y)]
  | _ => []
def fsD1 (f : Str) : List D → List (Str × D)
  | [y] => [(f, y)]
  | _ => []
def fsO2 (f g : Str) : List V → List (Str × V)
  | [y, z] => [(g, z), (f, y)]
  | _ => []
def fsD2 (f g : Str) : List D → List (Str × D)
  | [y, z] => [(g, z), (f, y)]
  | _ => []
theorem fs1_ok {K : PySem.W.Frag} {f : Str} (R : Hp) (xs : List D) (vs : List V) (h : RpL K R xs vs) (hl : xs.length = 1) : FldOk K R (fsD1 f xs) (fsO1 f vs) := by
  obtain ⟨x, rfl⟩ := List.length_eq_one_iff.mp hl
  obtain ⟨v, ws, e, h1, h2⟩ := h
  subst e; cases (show ws = [] from h2)
  exact ⟨v, [], by simp only [fsO1], h1, rfl⟩
theorem fs2_ok {K : PySem.W.Frag} {f g : Str} (R : Hp) (xs : List D) (vs : List V) (h : RpL K R xs vs) (hl : xs.length = 2) : FldOk K R (fsD2 f g xs) (fsO2 f g vs) := by
  obtain ⟨x, y, rfl⟩ : ∃ x y, xs = [x, y] := by
    cases xs with
    | nil => cases hl
    | cons x r =>
      cases r with
      | nil => cases hl
      | cons y r =>
        cases r with
        | nil => exact ⟨x, y, rfl⟩
        | cons z r => simp at hl
  obtain ⟨v, ws, e, h1, w, us, e2, h2, h3⟩ := h
  subst e e2; cases (show us = [] from h3)
  exact ⟨w, [(f, v)], by simp only [fsO2], h2, v, [], rfl, h1, rfl⟩
def initOf (s : Stmt) : Stmt := match s with
  | .ClassDef _ _ _ b _ _ _ _ _ _ _ => b.headD (.Pass ⟨0, 0, 0, 0⟩)
  | _ => .Pass ⟨0, 0, 0, 0⟩
abbrev iNF (qual : Str) (st : Stmt) (cc cda : Addr) : NF := ⟨"__init__", qual, defArgs st, defBody st, defScope st, [(("__class__" : Str), cc)], cda⟩
section
variable {P : Program} {w : World} {K : PySem.W.Frag} {mg : Str → Option Value} {base : Heap}
theorem pvX {X : Cx} {i : Nat} {x : Str} {pos : Pos} (h1 : X.N[i]? = some x) (h2 : Vis X.env.scope x) (h3 : (x == ("__debug__" : Str)) = false) (h4 : (x == ("__classdict__" : Str)) = false) : PE X (.Name x pos) (tVar i) := pe_var h1 h2 h3 h4
/-- self.f = y -/
theorem ini1 {st : Stmt} {qual f y : Str} {C fI cc cda : Addr} {oc kV doc pm ctv : Value} {od an : Option Addr} {osl : Array (Option Value)} {p0 p1 p3 p4 p5 p6 ap pos pos2 q0 : Pos} {j0 : Nat} {txt : Str} {ar : Arg}
    (hbody : defBody st = [.Expr (.Call (.Attribute (.Call (.Name "super" p0) [] [] p1) "__init__" ap) [.Constant (.str txt) j0 q0] [] pos) pos2, .Assign [.Attribute (.Name "self" p3) f p4] (.Name y p5) p6])
    (hp : ((defArgs st).posonlyargs ++ (defArgs st).args).head? = some ar) (har : ar.arg = "self") (NS : NScope ["self", y, "__class__"] ["self", y] ["__class__"] (defScope st)) (hks : (defScope st).names.lookup ("super" : Str) = some .globalImplicit)
    (hy : (y == ("__debug__" : Str)) = false) (hy2 : (y == ("__classdict__" : Str)) = false)
    (hi : ∀ L : Addr, interactive (envF (iNF qual st cc cda) fI L) = false) (hs : ∀ L : Addr, swapsWith (.Call (.Attribute (.Call (.Name "super" p0) [] [] p1) "__init__" ap) [.Constant (.str txt) j0 q0] [] pos) none pos2.line (envF (iNF qual st cc cda) fI L) = pure false)
    (hev : ∀ L : Addr, ∃ pl : Sem Bool, eval (.Call (.Attribute (.Call (.Name "super" p0) [] [] p1) "__init__" ap) [.Constant (.str txt) j0 q0] [] pos) (envF (iNF qual st cc cda) fI L) = (do
      let ov ← attributeBase (.Call (.Name "super" p0) [] [] p1) "__init__" (envF (iNF qual st cc cda) fI L) (eval (.Call (.Name "super" p0) [] [] p1) (envF (iNF qual st cc cda) fI L))
      standAt ap.atName
      let (f, first) ← holding [ov] (getMethod ov "__init__" pl)
      callWith pos f first (backTo pos (starEach [.Constant (.str txt) j0 q0] (envF (iNF qual st cc cda) fI L))) []))
    (hsw : ∀ L : Addr, swapsWith (.Name y p5) (some (.Attribute (.Name "self" p3) f p4)) p6.line (envF (iNF qual st cc cda) fI L) = pure false)
    (S : SupC P K mg C fI cc cda) (lk : K.lookup fI = some ⟨oc, od, .func (PySem.W.fnX "__init__" qual (defArgs st) (defBody st) (defScope st) [(("__class__" : Str), cc)] .none kV doc pm an (.ref cda) ctv), osl⟩) (hcd : PySem.W.codeIn K (.ref cda) qual = true) (hno : PySem.W.findIn K (.ref C) f = some none) :
    FnOk P w K mg base CX0 1 fI (PySem.W.fnX "__init__" qual (defArgs st) (defBody st) (defScope st) [(("__class__" : Str), cc)] .none kV doc pm an (.ref cda) ctv) ["self", y] (spIniG C (fsO1 f) 1) := by
  refine sup_fn (F := iNF qual st cc cda) (as := [y]) (k := 0) S NS rfl lk hcd hbody hp har hks (fun vs H Q E h => ?_) (fun A outer s H vs Q E h => ?_) hi hs hev
  · obtain ⟨a, ys, rfl, hl, ha, _⟩ := h
    exact ⟨by simp [hl], a, ys, rfl, ha⟩
  · obtain ⟨a, ys, rfl, hl, ha, q⟩ := h
    match ys, hl with
    | [v], _ =>
      have v0 : Vis (ncx CX0 P w K mg base ["self", y, "__class__"] (iNF qual st cc cda) fI A outer s H E).env.scope "self" := .inl (NS.par _ (by simp))
      have v1 : Vis (ncx CX0 P w K mg base ["self", y, "__class__"] (iNF qual st cc cda) fI A outer s H E).env.scope y := .inl (NS.par _ (by simp))
      refine ⟨_, pss_one (ps_ost (pvX (i := 0) rfl v0 (by decide) (by decide)) (pvX (i := 1) rfl v1 hy hy2) (hsw _)), ?_⟩
      refine ⟨v, rfl, .ref a, rfl, a, C, rfl, S.T, hno, .inl ⟨ha, fun dx h1 h2 => ?_⟩⟩
      exact q dx _ h1 h2 rfl
/-- self.f = y; self.g = z -/
theorem ini2 {st : Stmt} {qual f g y z : Str} {C fI cc cda : Addr} {oc kV doc pm ctv : Value} {od an : Option Addr} {osl : Array (Option Value)} {p0 p1 p3 p4 p5 p6 p7 p8 p9 pA ap pos pos2 q0 : Pos} {j0 : Nat} {txt : Str} {ar : Arg}
    (hbody : defBody st = [.Expr (.Call (.Attribute (.Call (.Name "super" p0) [] [] p1) "__init__" ap) [.Constant (.str txt) j0 q0] [] pos) pos2, .Assign [.Attribute (.Name "self" p3) f p4] (.Name y p5) p6, .Assign [.Attribute (.Name "self" p7) g p8] (.Name z p9) pA])
    (hp : ((defArgs st).posonlyargs ++ (defArgs st).args).head? = some ar) (har : ar.arg = "self") (NS : NScope ["self", y, z, "__class__"] ["self", y, z] ["__class__"] (defScope st)) (hks : (defScope st).names.lookup ("super" : Str) = some .globalImplicit)
    (hy : (y == ("__debug__" : Str)) = false) (hy2 : (y == ("__classdict__" : Str)) = false) (hz : (z == ("__debug__" : Str)) = false) (hz2 : (z == ("__classdict__" : Str)) = false)
    (hi : ∀ L : Addr, interactive (envF (iNF qual st cc cda) fI L) = false) (hs : ∀ L : Addr, swapsWith (.Call (.Attribute (.Call (.Name "super" p0) [] [] p1) "__init__" ap) [.Constant (.str txt) j0 q0] [] pos) none pos2.line (envF (iNF qual st cc cda) fI L) = pure false)
    (hev : ∀ L : Addr, ∃ pl : Sem Bool, eval (.Call (.Attribute (.Call (.Name "super" p0) [] [] p1) "__init__" ap) [.Constant (.str txt) j0 q0] [] pos) (envF (iNF qual st cc cda) fI L) = (do
      let ov ← attributeBase (.Call (.Name "super" p0) [] [] p1) "__init__" (envF (iNF qual st cc cda) fI L) (eval (.Call (.Name "super" p0) [] [] p1) (envF (iNF qual st cc cda) fI L))
      standAt ap.atName
      let (f, first) ← holding [ov] (getMethod ov "__init__" pl)
      callWith pos f first (backTo pos (starEach [.Constant (.str txt) j0 q0] (envF (iNF qual st cc cda) fI L))) []))
    (hsw : ∀ L : Addr, swapsWith (.Name y p5) (some (.Attribute (.Name "self" p3) f p4)) p6.line (envF (iNF qual st cc cda) fI L) = pure false)
    (hsw2 : ∀ L : Addr, swapsWith (.Name z p9) (some (.Attribute (.Name "self" p7) g p8)) pA.line (envF (iNF qual st cc cda) fI L) = pure false)
    (S : SupC P K mg C fI cc cda) (lk : K.lookup fI = some ⟨oc, od, .func (PySem.W.fnX "__init__" qual (defArgs st) (defBody st) (defScope st) [(("__class__" : Str), cc)] .none kV doc pm an (.ref cda) ctv), osl⟩) (hcd : PySem.W.codeIn K (.ref cda) qual = true) (hno : PySem.W.findIn K (.ref C) f = some none) (hno2 : PySem.W.findIn K (.ref C) g = some none) :
    FnOk P w K mg base CX0 1 fI (PySem.W.fnX "__init__" qual (defArgs st) (defBody st) (defScope st) [(("__class__" : Str), cc)] .none kV doc pm an (.ref cda) ctv) ["self", y, z] (spIniG C (fsO2 f g) 2) := by
  refine sup_fn (F := iNF qual st cc cda) (as := [y, z]) (k := 0) S NS rfl lk hcd hbody hp har hks (fun vs H Q E h => ?_) (fun A outer s H vs Q E h => ?_) hi hs hev
  · obtain ⟨a, ys, rfl, hl, ha, _⟩ := h
    exact ⟨by simp [hl], a, ys, rfl, ha⟩
  · obtain ⟨a, ys, rfl, hl, ha, q⟩ := h
    match ys, hl with
    | [v, u], _ =>
      have v0 : Vis (ncx CX0 P w K mg base ["self", y, z, "__class__"] (iNF qual st cc cda) fI A outer s H E).env.scope "self" := .inl (NS.par _ (by simp))
      have v1 : Vis (ncx CX0 P w K mg base ["self", y, z, "__class__"] (iNF qual st cc cda) fI A outer s H E).env.scope y := .inl (NS.par _ (by simp))
      have v2 : Vis (ncx CX0 P w K mg base ["self", y, z, "__class__"] (iNF qual st cc cda) fI A outer s H E).env.scope z := .inl (NS.par _ (by simp))
      refine ⟨_, pss_cons (ps_ost (pvX (i := 0) rfl v0 (by decide) (by decide)) (pvX (i := 1) rfl v1 hy hy2) (hsw _)) (pss_one (ps_ost (pvX (i := 0) rfl v0 (by decide) (by decide)) (pvX (i := 2) rfl v2 hz hz2) (hsw2 _))), ?_⟩
      refine ⟨v, rfl, .ref a, rfl, a, C, rfl, S.T, hno, .inl ⟨ha, fun dx h1 h2 => ?_⟩⟩
      refine ⟨u, rfl, .ref a, rfl, a, C, rfl, S.T, hno2, .inr ⟨dx, [(f, v)], upd_same, by rw [upd_ne h2, upd_same], Nat.le_of_ble_eq_true rfl, ?_⟩⟩
      refine q dx _ h1 h2 ?_
      funext b
      by_cases hb : b = dx
      · subst hb; rw [upd_same, upd_ne h2, upd_same]; rfl
      · rw [upd_ne hb]
        by_cases hba : b = a
        · subst hba; rw [upd_same, upd_same]
        · rw [upd_ne hba, upd_ne hb, upd_ne hba, upd_ne hb]
end
/-! ### in a try's body, in its suite -/
section
variable {X : Cx} {pn : List (Addr × Obj)} {xe : Value → Shared → Prop} {k : Nat} {nm : Str} {a : Addr}
theorem CalF.tr {S : Sg} (h : CalF X k nm S) : CalF (X.tr pn xe) k nm S := ⟨h.rm, h.ex⟩
theorem CalX.tr {S : SgX} (h : CalX X k nm S) : CalX (X.tr pn xe) k nm S := ⟨h.rm, h.ex⟩
theorem Blt.tr {f : Value} (h : Blt X nm f) : Blt (X.tr pn xe) nm f := ⟨h.mg, h.bt⟩
theorem Con.tr {x : D} (h : Con X nm x) : Con (X.tr pn xe) nm x := ⟨h.ex⟩
theorem Blt.su {f : Value} (h : Blt X nm f) : Blt (X.suite a pn) nm f := ⟨h.mg, h.bt⟩
theorem Con.su {x : D} (h : Con X nm x) : Con (X.suite a pn) nm x := ⟨h.ex⟩
theorem KCls.su {cv : Value} (h : KCls X nm cv) : KCls (X.suite a pn) nm cv := ⟨h.nm⟩
theorem CalE.su {S : Addr → Bool → Prop} (h : CalE X k nm S) : CalE (X.suite a pn) k nm S := ⟨⟨h.rm.dp, h.rm.un⟩, h.ex⟩
end
/-! ### class facts -/
/-- an own class that a name stands for -/
structure ClsAt (K : PySem.W.Frag) (mg : Str → Option Value) (nm : Str) (C : Addr) : Prop where
  m : mg nm = some (.ref C)
  hd : PySem.W.hasDictIn K C = true
  ty : PySem.W.typeIn K (.ref C) = some (.type "type")
theorem ClsAt.k {X : Cx} {nm : Str} {C : Addr} (h : ClsAt X.K X.mg nm C) : KCls X nm (.ref C) := ⟨.inl ⟨C, h.m, rfl⟩⟩
theorem kit_of {K : PySem.W.Frag} {mg : Str → Option Value} {nm : Str} {C D : Addr} {b : Bool} (h : ClsAt K mg nm D) (self : PySem.W.subIn K (.ref C) (.ref C) = some true) (s : PySem.W.subIn K (.ref C) (.ref D) = some b) : PySem.W.kitOne K (.ref C) (.ref D) = some b := by
  unfold PySem.W.kitOne
  by_cases e : (Value.ref C == Value.ref D) = true
  · rw [if_pos e]
    have e' : C = D := Value.ref.inj (beq_iff_eq.mp e)
    subst e'
    rw [self] at s; exact s
  · rw [if_neg e]
    unfold PySem.W.kitCls
    have hc : (PySem.W.clsIn K D).isSome = true := by obtain ⟨cd, hc, _⟩ := PySem.W.any_some h.hd; rw [hc]; rfl
    have ht : (PySem.W.typeIn K (.ref D) == some (.type "type")) = true := by rw [h.ty]; rfl
    show (if ((PySem.W.clsIn K D).isSome && PySem.W.typeIn K (.ref D) == some (.type "type")) = true then _ else _) = _
    rw [hc, ht]; exact s
/-- isinstance of an instance of the class at C, by the names -/
def KRow (K : PySem.W.Frag) (mg : Str → Option Value) (C : Addr) : List Str → List Bool → Prop
  | [], bs => bs = []
  | nm :: ns, bs => ∃ b bs', bs = b :: bs' ∧ (∃ D, ClsAt K mg nm D ∧ PySem.W.kitOne K (.ref C) (.ref D) = some b) ∧ KRow K mg C ns bs'
/-- a class of errors: its instances may be asked for their class and fields -/
structure ErrC (K : PySem.W.Frag) (mg : Str → Option Value) (nm : Str) (fns : List Str) (C : Addr) : Prop where
  m : mg nm = some (.ref C)
  e : ExcC K C
  ve : PySem.W.kitOne K (.ref C) (.type "ValueError") = some true
  no : ∀ f ∈ fns, PySem.W.findIn K (.ref C) f = some none
theorem kcls_ve {X : Cx} (h : X.mg "ValueError" = none) : KCls X "ValueError" (.type "ValueError") := ⟨.inr ⟨h, "ValueError", by decide +kernel, rfl⟩⟩
/-- what the top has written of a class of errors with its own __init__ -/
structure RaiseAt (P : Program) (K : PySem.W.Frag) (mg : Str → Option Value) (nm qual : Str) (st : Stmt) (ps fns : List Str) where
  C : Addr
  fI : Addr
  cc : Addr
  cda : Addr
  fd : FuncData
  e : ErrC K mg nm fns C
  S : SupC P K mg C fI cc cda
  iC : PySem.W.findIn K (.ref C) "__init__" = some (some (.ref fI))
  tI : PySem.W.typeIn K (.ref fI) = some (.type "function")
  lk : ∃ (oc kV doc pm ctv : Value) (od an : Option Addr) (osl : Array (Option Value)), fd = PySem.W.fnX "__init__" qual (defArgs st) (defBody st) (defScope st) [(("__class__" : Str), cc)] .none kV doc pm an (.ref cda) ctv ∧ K.lookup fI = some ⟨oc, od, .func fd, osl⟩
  cd : PySem.W.codeIn K (.ref cda) qual = true
  b : Binds K fd ps []
theorem kit_ve {K : PySem.W.Frag} {C : Addr} (h : PySem.W.subIn K (.ref C) (.type "ValueError") = some true) : PySem.W.kitOne K (.ref C) (.type "ValueError") = some true := by
  unfold PySem.W.kitOne
  have z : ¬ (Value.ref C == Value.type "ValueError") = true := fun z => by cases beq_iff_eq.mp z
  rw [if_neg z]
  unfold PySem.W.kitCls
  have z2 : PySem.W.kitMeta "ValueError" = true := by decide +kernel
  simp only [z2, if_true]
  exact h
def raiseAt {P : Program} {K : PySem.W.Frag} {h : Heap} {mg : Str → Option Value} (X : K.In h) (G : h.Ns mainGlobals mg) {nm qual : Str} {st : Stmt} {ps fns : List Str} {C fI cc cda N : Addr} {oc kV doc pm ctv cl ccl : Value} {od an cld cdd dd : Option Addr} {osl csl ccs : Array (Option Value)} {vs : Array Value} {file : Str} {tf : Tok}
    {nm' q' : Str} {bs bm : List Value} {sn : List Str} {sub : List Value} {ab : Bool} {col : Option Bool} {k0 k1 k2 k3 k5 : Option Value}
    (a : PySem.W.nsIn K mainGlobals nm = some (some (.ref C)))
    (l : K.lookup C = some (excClassObj nm' q' C N bs bm true sn sub ab col dd k0 k1 k2 k3 k5 "ValueError.__new__")) (hbm : PySem.HandSPX.refsVE bm = true)
    (iC : PySem.W.findIn K (.ref C) "__init__" = some (some (.ref fI)))
    (lk : K.lookup fI = some ⟨oc, od, .func (PySem.W.fnX "__init__" qual (defArgs st) (defBody st) (defScope st) [(("__class__" : Str), cc)] .none kV doc pm an (.ref cda) ctv), osl⟩)
    (hg : PySem.W.findIn K (.ref C) "__getattribute__" = some (some (.builtin "BaseException.__getattribute__"))) (hk : PySem.W.findIn K (.ref C) "__getattr__" = some none) (hs : PySem.W.subIn K (.ref C) (.type "BaseException") = some true)
    (hd : PySem.W.hasDictIn K C = true) (ha : PySem.W.findIn K (.ref C) "__class__" = some (some (.builtin "object.__class__"))) (hn : PySem.W.specialIn K (.builtin "object.__class__") "__get__" = some (some (.builtin "getset_descriptor.__get__")))
    (ht : PySem.W.takesIn K (.builtin "object.__class__") = some true) (hm : PySem.W.mroIn K C (.type "object") = some true) (ve : PySem.W.subIn K (.ref C) (.type "ValueError") = some true)
    (sa : PySem.W.findIn K (.ref C) "__setattr__" = some (some (.builtin "object.__setattr__"))) (ty : PySem.W.typeIn K (.ref C) = some (.type "type")) (kC : PySem.W.keepIn K (.ref C) = true)
    (cell : K.lookup cc = some ⟨cl, cld, .cell (some (.ref C)), csl⟩) (code : K.lookup cda = some ⟨ccl, cdd, .fields vs, ccs⟩) (hvs : vs[2]? = some (.str file tf)) (hfile : ((P.main.file : Str) == file) = true)
    (mr : PySem.W.mroIn K C (.ref C) = some true) (sup : PySem.W.nsIn K mainGlobals "super" = some none) (tp : PySem.W.nsIn K cStatics "thirdparty.any" = some none) (ini : PySem.W.ks_superIn K C C "__init__" = some (some (.builtin "ValueError.__init__")))
    (top : (P.main.scope.names.lookup ("super" : Str)).isSome = false) (tI : PySem.W.typeIn K (.ref fI) = some (.type "function")) (cd : PySem.W.codeIn K (.ref cda) qual = true)
    (hb : ∀ (kV doc pm : Value) (an : Option Addr) (ctv : Value) (us : List Value), us.length = ps.length → bindArgs (PySem.W.fnX "__init__" qual (defArgs st) (defBody st) (defScope st) [(("__class__" : Str), cc)] .none kV doc pm an (.ref cda) ctv) ⟨us, []⟩ = pure (ps.zip us))
    (no : ∀ f ∈ fns, PySem.W.findIn K (.ref C) f = some none) : RaiseAt P K mg nm qual st ps fns where
  C := C
  fI := fI
  cc := cc
  cda := cda
  fd := _
  e := ⟨PySem.W.mg_of X G a, ⟨hg, hk, hs, hd, ha, hn, ht, hm⟩, kit_ve ve, no⟩
  S := ⟨⟨⟨_, _, _, _, _, _, _, _, _, _, _, _, _, _, _, l, hbm⟩, sa, hs, ty, kC⟩, ⟨_, _, _, cell⟩, ⟨_, _, _, _, _, _, code, hvs, hfile⟩, (by obtain ⟨cd, hc, _⟩ := PySem.W.any_some hd; rw [hc]; rfl), mr, PySem.W.mg_none_of X G sup, tp, ini, ve, top⟩
  iC := iC
  tI := tI
  lk := ⟨_, _, _, _, _, _, _, _, rfl, lk⟩
  cd := cd
  b := .all (hb kV doc pm an ctv)
theorem clsAt {K : PySem.W.Frag} {h : Heap} {mg : Str → Option Value} (X : K.In h) (G : h.Ns mainGlobals mg) {nm : Str} {C : Addr} (a : PySem.W.nsIn K mainGlobals nm = some (some (.ref C))) (hd : PySem.W.hasDictIn K C = true) (ty : PySem.W.typeIn K (.ref C) = some (.type "type")) : ClsAt K mg nm C :=
  ⟨PySem.W.mg_of X G a, hd, ty⟩
/-- the classes that _law_alone names -/
def aloneNms : List Str := ["ZeroDivisor", "BadNumber", "EmptySpan", "BeforeStart", "TurnsBack", "BadRate", "BadBound", "BadName", "DuplicateName", "UnknownName", "BadLink", "UnknownLink", "BadNote", "UnknownMoment", "NoWorld", "OutsideSpan", "TooManyLiars", "RootFollows", "Condemned", "BadDate", "BadLeap", "BadLabel", "NoSuchSecond", "BadCells", "RefusedEntry", "DuplicateTag", "UnknownTag", "BadLine", "NothingToUndo", "NothingToRedo"]
/-- _law_alone says b of an instance of the class at C -/
def S_alone (K : PySem.W.Frag) (mg : Str → Option Value) : Addr → Bool → Prop := fun C b => b = true ∧ ExcC K C ∧ PySem.W.kitOne K (.ref C) (.type "ValueError") = some true ∧ ∃ bs, KRow K mg C aloneNms bs ∧ bs.count true = 1
theorem krow_nil {K : PySem.W.Frag} {mg : Str → Option Value} {C : Addr} : KRow K mg C [] [] := rfl
theorem krow_cons {K : PySem.W.Frag} {mg : Str → Option Value} {nm : Str} {C D : Addr} {b : Bool} {ns : List Str} {bs : List Bool} (self : PySem.W.subIn K (.ref C) (.ref C) = some true) (h : ClsAt K mg nm D) (s : PySem.W.subIn K (.ref C) (.ref D) = some b) (r : KRow K mg C ns bs) : KRow K mg C (nm :: ns) (b :: bs) :=
  ⟨b, bs, rfl, ⟨D, h, kit_of h self s⟩, r⟩
theorem RaiseAt.k {P : Program} {K : PySem.W.Frag} {mg : Str → Option Value} {nm qual : Str} {st : Stmt} {ps fns : List Str} (R : RaiseAt P K mg nm qual st ps fns) : ClsAt K mg nm R.C := ⟨R.e.m, R.e.e.hd, R.S.T.tyC⟩
theorem exm_of {K : PySem.W.Frag} {mg : Str → Option Value} {nm : Str} {C D : Addr} {b : Bool} (h : ClsAt K mg nm D) (hb : PySem.W.subIn K (.ref D) (.type "BaseException") = some true) (s : PySem.W.subIn K (.ref C) (.ref D) = some b) : PySem.W.exmOne K (.ref C) (.ref D) = some b :=
  PySem.W.exm_ref hb h.hd h.ty s
theorem bs_lay : ∀ (a : List Bool), PyData.canLayAll0 (pdL (a.map D.bl)) = true
  | [] => rfl
  | p :: a => by
    show ((D.bl p).pd.canLay0 && PyData.canLayAll0 (pdL (a.map D.bl))) = true
    rw [bs_lay a]; rfl
theorem bs_count (q : Bool) : ∀ (a : List Bool), ((pdL (a.map D.bl)).countP fun y => PyData.eqv y (D.bl q).pd) = a.count q
  | [] => rfl
  | p :: a => by
    have e : PyData.eqv (D.bl p).pd (D.bl q).pd = (p == q) := by cases p <;> cases q <;> decide +kernel
    show ((D.bl p).pd :: pdL (a.map D.bl)).countP _ = _
    rw [List.countP_cons, bs_count q a, e, List.count_cons]
section
variable {X : Cx} {n : Nm} {c : Cc} {Γ : SL} {e b : Expr} {pos ap : Pos}
theorem ev_countB {qs : List Bool} {q : Bool} (ha : EV X n c Γ e (.lst (qs.map D.bl))) (hb : EV X n c Γ b (.bl q))
    (hbase : attributeBase e "count" X.env (eval e X.env) = eval e X.env := by rfl) (hline : (ap.endLine == pos.line) = true := by rfl) (hst : isStar b = false := by rfl) : EV X n c Γ (.Call (.Attribute e "count" ap) [b] [] pos) (.int ((qs.count q : Nat) : Int)) := .mk fun hn σ R H s Q k => by
  refine (pe_bm PySem.F.plainAttrs_list PySem.F.slot_list_count PySem.F.type_list_count (mt_countD hn.units) pW pWA hbase (by rw [se_c hst]; rfl) hline (se_c hst) rfl).w ?_
  refine ha.run hn σ R H s _ fun v R1 H1 x Γ1 s1 e1 r1 ⟨g1, g2⟩ => ?_
  subst g1 g2
  obtain ⟨p, vs, rfl, h2, h3⟩ := r1
  refine ⟨.inl ⟨rfl, _, .inl (.inl (s1.rh p _ h2))⟩, ?_⟩
  refine (wa_of (ea_cons (ek_d hb) ea_nil (se_c hst)) (P := fun ks Γ' => ks = [.d (.bl q)] ∧ Γ' = Γ1) ⟨rfl, rfl⟩).run hn σ R1 H1 s1 _ fun us R2 H2 ks Γ2 s2 e2 r2 ⟨g3, g4⟩ => ?_
  subst g3 g4
  obtain ⟨u, ws, rfl, h4, h5⟩ := r2
  cases (show ws = [] from h5)
  refine ⟨p, vs, pdL (qs.map D.bl), (D.bl q).pd, u, rfl, rfl, .inl (.inl (s2.rh p _ (e2 p _ h2))), dpAll_mono s2.rh (RpL.dp _ _ (bs_lay qs) (h3.mono e2)), dp_mono s2.rh (Rp.dp _ _ rfl h4), bs_lay qs, rfl, Nat.le_of_ble_eq_true rfl, ?_⟩
  rw [bs_count]
  exact k _ R2 H2 (.int ((qs.count q : Nat) : Int)) _ s2 (e1.trans e2) rfl ⟨rfl, rfl⟩
end
end DL

end
section
set_option Elab.async false
set_option linter.all false
set_option autoImplicit true
set_option maxRecDepth 100000
set_option maxHeartbeats 1000000
/-! the head by one kernel run, its facts by names -/
namespace DL
open PySem L2 NdefX He
open PyProof.Rows hiding St
theorem all_at {l : List Bool} (h : l.all id = true) (i : Nat) {b : Bool} (e : l[i]? = some b := by rfl) : b = true := List.all_eq_true.mp h b (List.mem_of_getElem? e)
/-! ### a class of errors -/
structure InD where
  nm : Str
  qual : Str
  st : Stmt
  ps : List Str
  fns : List Str
abbrev InV : Type := Option (Str × Str × Arguments × FuncBody × Scope × Addr × Value × Addr × List Str)
def inObs (K : PySem.W.Frag) (nm : Str) : InV := match K.lookup (ma K (ga K nm) "__init__") with
  | some ⟨_, _, .func fd, _⟩ => some (fd.name, fd.qualname, fd.params, fd.body, fd.scope, fd.globals, fd.defaults, fd.builtins, fd.closure.map (·.1))
  | _ => none
def InD.val (e : InD) : InV := some (("__init__" : Str), e.qual, defArgs e.st, .stmts (defBody e.st), defScope e.st, mainGlobals, .none, builtinsNs, [("__class__" : Str)])
def clsB (K : PySem.W.Frag) (C : Addr) : Bool := match K.lookup C with
  | some ⟨.type "type", _, .cls cd, sl⟩ => (match cd.mro, sl.toList with
    | .ref C' :: bm, [_, _, _, _, some (.builtin n), _] => C' == C && (n == "ValueError.__new__" && (!cd.hasDel && (cd.hasDict && PySem.HandSPX.refsVE bm)))
    | _, _ => false)
  | _ => false
theorem clsB_ok {K : PySem.W.Frag} {C : Addr} (h : clsB K C = true) : ∃ nm q N bs bm sn sub ab col dd k0 k1 k2 k3 k5, K.lookup C = some (excClassObj nm q C N bs bm true sn sub ab col dd k0 k1 k2 k3 k5 "ValueError.__new__") ∧ PySem.HandSPX.refsVE bm = true := by
  unfold clsB at h
  split at h
  · rename_i dd cd sl ho
    split at h
    · rename_i C' bm k0 k1 k2 k3 n k5 hm hs
      simp only [Bool.and_eq_true, beq_iff_eq, Bool.not_eq_true'] at h
      obtain ⟨rfl, rfl, hdel, hdct, hr⟩ := h
      obtain ⟨nm, bs, mro, ns, qn, hd, sn, sub, ab, col, del⟩ := cd
      dsimp only at hm hdel hdct
      subst hm hdel hdct
      have hsl : sl = #[k0, k1, k2, k3, some (.builtin "ValueError.__new__"), k5] := by
        obtain ⟨l⟩ := sl
        simp only at hs
        rw [hs]
      subst hsl
      exact ⟨nm, qn, ns, bs, bm, sn, sub, ab, col, dd, k0, k1, k2, k3, k5, ho, hr⟩
    · cases h
  · cases h
def ccAd (K : PySem.W.Frag) (f : Addr) : Addr := match K.lookup f with
  | some ⟨_, _, .func fd, _⟩ => (match fd.closure with
    | [(_, c)] => c
    | _ => 0)
  | _ => 0
def cdAd (K : PySem.W.Frag) (f : Addr) : Value := match K.lookup f with
  | some ⟨_, _, .func fd, _⟩ => fd.code
  | _ => .none
def cellB (K : PySem.W.Frag) (c C : Addr) : Bool := match K.lookup c with
  | some ⟨_, _, .cell (some (.ref D)), _⟩ => decide (D = C)
  | _ => false
theorem cellB_ok {K : PySem.W.Frag} {c C : Addr} (h : cellB K c C = true) : ∃ cl cld csl, K.lookup c = some ⟨cl, cld, .cell (some (.ref C)), csl⟩ := by
  unfold cellB at h
  split at h
  · rename_i a b d e ho
    have := of_decide_eq_true h
    subst this
    exact ⟨_, _, _, ho⟩
  · cases h
def codeB (mf : Str) (K : PySem.W.Frag) (v : Value) : Bool := match v with
  | .ref c => (match K.lookup c with
    | some ⟨_, _, .fields vs, _⟩ => (match (vs[2]? : Option Value) with
      | some (.str f _) => mf == f
      | _ => false)
    | _ => false)
  | _ => false
theorem codeB_ok {mf : Str} {K : PySem.W.Frag} {v : Value} (h : codeB mf K v = true) : ∃ c, v = .ref c ∧ ∃ ccl cdd vs ccs file tf, K.lookup c = some ⟨ccl, cdd, .fields vs, ccs⟩ ∧ vs[2]? = some (.str file tf) ∧ (mf == file) = true := by
  unfold codeB at h
  split at h
  · rename_i c
    split at h
    · rename_i ho
      split at h
      · rename_i hv
        exact ⟨c, rfl, _, _, _, _, _, _, ho, hv, h⟩
      · cases h
    · cases h
  · cases h
def exL (mf : Str) (K : PySem.W.Frag) (e : InD) : List Bool :=
  [eqO (PySem.W.nsIn K mainGlobals e.nm) (some (some (.ref (ga K e.nm)))), clsB K (ga K e.nm), eqO (PySem.W.findIn K (.ref (ga K e.nm)) "__init__") (some (some (.ref (ma K (ga K e.nm) "__init__")))),
    eqO (PySem.W.findIn K (.ref (ga K e.nm)) "__getattribute__") (some (some (.builtin "BaseException.__getattribute__"))), eqO (PySem.W.findIn K (.ref (ga K e.nm)) "__getattr__") (some none), decide (PySem.W.subIn K (.ref (ga K e.nm)) (.type "BaseException") = some true),
    PySem.W.hasDictIn K (ga K e.nm), eqO (PySem.W.findIn K (.ref (ga K e.nm)) "__class__") (some (some (.builtin "object.__class__"))), eqO (PySem.W.specialIn K (.builtin "object.__class__") "__get__") (some (some (.builtin "getset_descriptor.__get__"))),
    decide (PySem.W.takesIn K (.builtin "object.__class__") = some true), decide (PySem.W.mroIn K (ga K e.nm) (.type "object") = some true), decide (PySem.W.subIn K (.ref (ga K e.nm)) (.type "ValueError") = some true),
    eqO (PySem.W.findIn K (.ref (ga K e.nm)) "__setattr__") (some (some (.builtin "object.__setattr__"))), decide (PySem.W.typeIn K (.ref (ga K e.nm)) = some (.type "type")), PySem.W.keepIn K (.ref (ga K e.nm)),
    cellB K (ccAd K (ma K (ga K e.nm) "__init__")) (ga K e.nm), codeB mf K (cdAd K (ma K (ga K e.nm) "__init__")), decide (PySem.W.mroIn K (ga K e.nm) (.ref (ga K e.nm)) = some true), eqO (PySem.W.nsIn K mainGlobals "super") (some none), eqO (PySem.W.nsIn K cStatics "thirdparty.any") (some none),
    eqO (PySem.W.ks_superIn K (ga K e.nm) (ga K e.nm) "__init__") (some (some (.builtin "ValueError.__init__"))), decide (PySem.W.typeIn K (.ref (ma K (ga K e.nm) "__init__")) = some (.type "function")), PySem.W.codeIn K (cdAd K (ma K (ga K e.nm) "__init__")) e.qual,
    e.fns.all fun f => eqO (PySem.W.findIn K (.ref (ga K e.nm)) f) (some none)]
theorem in_ok {K : PySem.W.Frag} {e : InD} (h : inObs K e.nm = e.val) : ∃ (oc kV doc pm ctv cdv : Value) (od an : Option Addr) (osl : Array (Option Value)) (cc : Addr), K.lookup (ma K (ga K e.nm) "__init__") = some ⟨oc, od, .func (PySem.W.fnX "__init__" e.qual (defArgs e.st) (defBody e.st) (defScope e.st) [(("__class__" : Str), cc)] .none kV doc pm an cdv ctv), osl⟩ := by
  unfold inObs at h
  cases q : K.lookup (ma K (ga K e.nm) "__init__") with
  | none => rw [q] at h; cases h
  | some o =>
    obtain ⟨oc, od, dt, osl⟩ := o
    rw [q] at h
    cases dt with
    | func fd =>
      obtain ⟨n1, n2, n3, n4, n5, n6, n7, n8, n9, n10, n11, n12, n13, n14, n15⟩ := fd
      have e2 : (some (n1, n2, n3, n4, n5, n6, n8, n15, n7.map (·.1)) : InV) = some (("__init__" : Str), e.qual, defArgs e.st, .stmts (defBody e.st), defScope e.st, mainGlobals, .none, builtinsNs, [("__class__" : Str)]) := h
      simp only [Option.some.injEq, Prod.mk.injEq] at e2
      obtain ⟨h1, h2, h3, h4, h5, h6, h7, h8, h9⟩ := e2
      subst h1 h2 h3 h4 h5 h6 h7 h8
      match n7, h9 with
      | [(x, cc)], h9 =>
        have hx : x = ("__class__" : Str) := by simpa using h9
        subst hx
        exact ⟨oc, n9, n10, n11, n14, n13, od, n12, osl, cc, rfl⟩
    | _ => cases h
theorem raise_of {P : Program} {K : PySem.W.Frag} {h : Heap} {mg : Str → Option Value} (X : K.In h) (G : h.Ns mainGlobals mg) (e : InD) (ho : inObs K e.nm = e.val) (hx : (exL P.main.file K e).all id = true) (top : (P.main.scope.names.lookup ("super" : Str)).isSome = false)
    (hb : ∀ (cc : Addr) (kV doc pm : Value) (an : Option Addr) (cdv ctv : Value) (us : List Value), us.length = e.ps.length → bindArgs (PySem.W.fnX "__init__" e.qual (defArgs e.st) (defBody e.st) (defScope e.st) [(("__class__" : Str), cc)] .none kV doc pm an cdv ctv) ⟨us, []⟩ = pure (e.ps.zip us)) : Nonempty (RaiseAt P K mg e.nm e.qual e.st e.ps e.fns) := by
  obtain ⟨oc, kV, doc, pm, ctv, cdv, od, an, osl, cc, lk⟩ := in_ok ho
  obtain ⟨_, _, _, _, _, _, _, _, _, _, _, _, _, _, _, l, hbm⟩ := clsB_ok (all_at hx 1)
  have ecc : ccAd K (ma K (ga K e.nm) "__init__") = cc := by unfold ccAd; rw [lk]
  have ecd : cdAd K (ma K (ga K e.nm) "__init__") = cdv := by unfold cdAd; rw [lk]
  have h15 := all_at hx 15
  have h16 := all_at hx 16
  have h22 := all_at hx 22
  rw [ecc] at h15
  rw [ecd] at h16 h22
  obtain ⟨_, _, _, cell⟩ := cellB_ok h15
  obtain ⟨cda, rfl, _, _, _, _, _, _, code, hvs, hfile⟩ := codeB_ok h16
  exact ⟨raiseAt X G (eqO_ok (all_at hx 0)) l hbm (eqO_ok (all_at hx 2)) lk (eqO_ok (all_at hx 3)) (eqO_ok (all_at hx 4)) (of_decide_eq_true (all_at hx 5)) (all_at hx 6) (eqO_ok (all_at hx 7)) (eqO_ok (all_at hx 8)) (of_decide_eq_true (all_at hx 9)) (of_decide_eq_true (all_at hx 10)) (of_decide_eq_true (all_at hx 11))
    (eqO_ok (all_at hx 12)) (of_decide_eq_true (all_at hx 13)) (all_at hx 14) cell code hvs hfile (of_decide_eq_true (all_at hx 17)) (eqO_ok (all_at hx 18)) (eqO_ok (all_at hx 19)) (eqO_ok (all_at hx 20)) top (of_decide_eq_true (all_at hx 21)) h22 (fun kV doc pm an ctv us hl => hb cc kV doc pm an (.ref cda) ctv us hl)
    (fun f hf => eqO_ok (List.all_eq_true.mp (all_at hx 23) f hf))⟩
/-! ### facts by names -/
inductive Fx where
  | fa (f : Fa)
  | cls (x : Str)
  | sub (x y : Str) (b : Bool)
  | bex (x : Str)
  | qd (x : Str) (i j : Int)
def Fx.ok (K : PySem.W.Frag) : Fx → Bool
  | .fa f => f.ok K
  | .cls x => [eqO (PySem.W.nsIn K mainGlobals x) (some (some (.ref (ga K x)))), PySem.W.hasDictIn K (ga K x), decide (PySem.W.typeIn K (.ref (ga K x)) = some (.type "type"))].all id
  | .sub x y b => decide (PySem.W.subIn K (.ref (ga K x)) (.ref (ga K y)) = some b)
  | .bex x => decide (PySem.W.subIn K (.ref (ga K x)) (.type "BaseException") = some true)
  | .qd x i j => [eqO (PySem.W.nsIn K mainGlobals x) (some (some (.ref (ga K x)))), tupB K x [.int i, .int j]].all id
theorem fx_free {K : PySem.W.Frag} {h : Heap} {mg : Str → Option Value} (X : K.In h) (G : h.Ns mainGlobals mg) {x : Str} (c : (Fx.fa (.free x)).ok K = true) : mg x = none := He.free_ok X G (x := x) c
theorem fx_cls {K : PySem.W.Frag} {h : Heap} {mg : Str → Option Value} (X : K.In h) (G : h.Ns mainGlobals mg) {x : Str} (c : (Fx.cls x).ok K = true) : ClsAt K mg x (ga K x) := clsAt X G (eqO_ok (all_at c 0)) (all_at c 1) (of_decide_eq_true (all_at c 2))
theorem fx_sub {K : PySem.W.Frag} {x y : Str} {b : Bool} (c : (Fx.sub x y b).ok K = true) : PySem.W.subIn K (.ref (ga K x)) (.ref (ga K y)) = some b := of_decide_eq_true c
theorem fx_bex {K : PySem.W.Frag} {x : Str} (c : (Fx.bex x).ok K = true) : PySem.W.subIn K (.ref (ga K x)) (.type "BaseException") = some true := of_decide_eq_true c
theorem fx_qd {K : PySem.W.Frag} {h : Heap} {mg : Str → Option Value} (X : K.In h) (G : h.Ns mainGlobals mg) {x : Str} {i j : Int} (c : (Fx.qd x i j).ok K = true) : ∃ v u, mg x = some u ∧ RelV v u ∧ ∀ R, Rp K R (.tup [.int i, .int j]) v :=
  ⟨.ref (ga K x), .ref (ga K x), PySem.W.mg_of X G (eqO_ok (all_at c 0)), rfl, fun R => ⟨ga K x, [.int i, .int j], rfl, tupB_ok (vs := [.int i, .int j]) (all_at c 1) R, ⟨_, _, rfl, rfl, _, _, rfl, rfl, rfl⟩⟩⟩
/-! ### the Hook -/
structure TopD where
  mf : Str
  nm : List Str
  fx : List Fx
  fn : List FnD
  ex : List InD
abbrev AlX : Type := Bool × List FnV × List InV
def obsX (T : TopD) (K : PySem.W.Frag) : AlX := ([T.fx.all fun f => f.ok K, T.fn.all fun d => (Fa.code d.at_ d.qual).ok K && PySem.W.keepIn K (.ref (fAd K d.at_)), T.ex.all fun e => (exL T.mf K e).all id].all id, T.fn.map fun d => fnObs K d.at_, T.ex.map fun e => inObs K e.nm)
def valX (T : TopD) : AlX := (true, T.fn.map FnD.val, T.ex.map InD.val)
def SaysX (T : TopD) (K : PySem.W.Frag) : Prop := obsX T K = valX T
/-- what an object at a names -/
def refsAt (g : Addr → Option Obj) (a : Addr) : List Addr := match g a with
  | some o => refsD o
  | none => []
/-- the addresses of the names, what they name; of the classes of errors what their __init__ names -/
def asX (g : Addr → Option Obj) (nms exs : List Str) : List Addr :=
  cStatics :: mainGlobals :: ((nms.map (ga (frG g [mainGlobals]))) ++ ((nms.map (ga (frG g [mainGlobals]))).flatMap (refsAt g) ++ (((exs.map (ga (frG g [mainGlobals]))).flatMap (refsAt g)).flatMap (refsAt g) ++ (((exs.map (ga (frG g [mainGlobals]))).flatMap (refsAt g)).flatMap (refsAt g)).flatMap (refsAt g))))
def KX (T : TopD) (g : Addr → Option Obj) : PySem.W.Frag := frG g (asX g T.nm (T.ex.map (·.nm)))
def obsXG (T : TopD) (g : Addr → Option Obj) : AlX := obsX T (KX T g)
def hookX (T : TopD) : PySem.W.Hook where
  α := AlX
  obs := fun s => obsXG T s.heap.get?
  val := fun _ => valX T
  says := fun _ h => ∃ K : PySem.W.Frag, K.In h ∧ SaysX T K
  of := fun _ _ e => ⟨_, frG_in, e⟩
  keeps := fun _ _ _ ⟨K, hK, c⟩ k => ⟨K, PySem.W.Frag.In.keeps hK k, c⟩
theorem obsXG_eq {T : TopD} {g : Addr → Option Obj} {s : Shared} (h : ∀ a, g a = s.heap.get? a) : obsXG T g = (hookX T).obs s := by
  have e : g = s.heap.get? := funext h
  rw [e] <;> rfl
/-! ### the run in pieces: each piece runs anew -/
def obFx (T : TopD) (l : List Fx) (s : PySem.W.SharedT) : Bool := l.all fun f => f.ok (KX T (HandSHeadRun.getT s))
def obFn (T : TopD) (l : List FnD) (s : PySem.W.SharedT) : Bool × List FnV := (l.all fun d => (Fa.code d.at_ d.qual).ok (KX T (HandSHeadRun.getT s)) && PySem.W.keepIn (KX T (HandSHeadRun.getT s)) (.ref (fAd (KX T (HandSHeadRun.getT s)) d.at_)), l.map fun d => fnObs (KX T (HandSHeadRun.getT s)) d.at_)
def obEx (T : TopD) (l : List InD) (s : PySem.W.SharedT) : Bool × List InV := (l.all fun e => (exL T.mf (KX T (HandSHeadRun.getT s)) e).all id, l.map fun e => inObs (KX T (HandSHeadRun.getT s)) e.nm)
open PySem.W PySem.Calls in
noncomputable abbrev endS (r : OpenRow) (M : Nat) (w : World) (os : OsState) : Option SharedT := HandSHeadRun.endF (HandSHeadRun.stepQ (HandSHeadRun.denQ HandSHeadRun.tabQ) r.prog w) M r.prog w os
open PySem.W PySem.Calls in
noncomputable abbrev lookS (r : OpenRow) (q : Program) (loose : List PySem.Str) (w : World) (s : SharedT) := (HandSHeadRun.looksF r.prog (boot_heap w.params) s.abs, HandSHeadRun.seenQ q loose (importedModules r.prog.main.body) (fun s => xlAt q [] s && recOk r.toRowW.records s) s.abs)
theorem ob3 {a : Bool} {α β : Type} {x : α} {y : β} {b c : Bool} (h1 : a = true) (h2 : b = true) (h3 : c = true) : ([a, b, c].all id, x, y) = (true, x, y) := by subst h1 h2 h3; rfl
open PySem.W PySem.Calls in
theorem run_split {r : OpenRow} {q : Program} {T : TopD} {M : Nat} {loose : List PySem.Str} {w : World} {fA fB : List Fx} (hf : T.fx = fA ++ fB)
    (h0 : ∀ os : OsState, (endS r M w os).map (lookS r q loose w) = some (true, openGood q loose)) (hA : ∀ os : OsState, (endS r M w os).map (obFx T fA) = some true) (hB : ∀ os : OsState, (endS r M w os).map (fun s => (obFx T fB s, obFn T T.fn s, obEx T T.ex s)) = some (true, (true, T.fn.map FnD.val), (true, T.ex.map InD.val))) :
    HandSHeadRun.RunEq r q (hookX T) (fun s => obsXG T (HandSHeadRun.getT s)) M loose w := fun os => by
  obtain ⟨s, hs, p0⟩ := Option.map_eq_some_iff.mp (h0 os)
  have e1 := hA os
  have e2 := hB os
  rw [hs] at e1 e2
  have e1 : obFx T fA s = true := Option.some.inj e1
  have e2 : (obFx T fB s, obFn T T.fn s, obEx T T.ex s) = (true, (true, T.fn.map FnD.val), (true, T.ex.map InD.val)) := Option.some.inj e2
  have a1 : obFx T fB s = true := congrArg (fun z => z.1) e2
  have a2 : obFn T T.fn s = (true, T.fn.map FnD.val) := congrArg (fun z => z.2.1) e2
  have a3 : obEx T T.ex s = (true, T.ex.map InD.val) := congrArg (fun z => z.2.2) e2
  have b0 : (T.fx.all fun f => f.ok (KX T (HandSHeadRun.getT s))) = true := by
    rw [hf, List.all_append]
    exact Bool.and_eq_true_iff.mpr ⟨e1, a1⟩
  have b1 := congrArg (fun z => z.1) a2
  have b2 := congrArg (fun z => z.2) a2
  have b3 := congrArg (fun z => z.1) a3
  have b4 := congrArg (fun z => z.2) a3
  have eo : obsXG T (HandSHeadRun.getT s) = valX T := by
    refine (ob3 b0 b1 b3).trans ?_
    exact congrArg (Prod.mk true) (Prod.ext b2 b4)
  have hp1 := congrArg (fun z => z.1) p0
  have hp2 := congrArg (fun z => z.2) p0
  show (endS r M w os).map _ = _
  rw [hs]
  exact congrArg some (Prod.ext hp1 (Prod.ext hp2 eo))
open PySem.W PySem.Calls in
theorem run_nil {r : OpenRow} {q : Program} {T : TopD} {M : Nat} {loose : List PySem.Str} {w : World} (h0 : ∀ os : OsState, (endS r M w os).map (lookS r q loose w) = some (true, openGood q loose)) : ∀ os : OsState, (endS r M w os).map (obFx T []) = some true := fun os => by
  obtain ⟨s, hs, _⟩ := Option.map_eq_some_iff.mp (h0 os)
  rw [hs]; rfl
section
variable {T : TopD} {K : PySem.W.Frag}
theorem SaysX.fact (c : SaysX T K) (i : Nat) {f : Fx} (h : T.fx[i]? = some f := by rfl) : f.ok K = true := by
  have c1 := all_at (show [T.fx.all fun f => f.ok K, T.fn.all fun d => (Fa.code d.at_ d.qual).ok K && PySem.W.keepIn K (.ref (fAd K d.at_)), T.ex.all fun e => (exL T.mf K e).all id].all id = true from congrArg (fun z : AlX => z.1) c) 0
  exact List.all_eq_true.mp c1 f (List.mem_of_getElem? h)
theorem SaysX.def_ (c : SaysX T K) (i : Nat) {x : Str} {st : Stmt} (h : T.fn[i]? = some ⟨(x, none), x, x, defArgs st, defBody st, defScope st⟩ := by rfl) : ∃ fd, Fun K x x st (ga K x) fd := by
  have c1 := all_at (show [T.fx.all fun f => f.ok K, T.fn.all fun d => (Fa.code d.at_ d.qual).ok K && PySem.W.keepIn K (.ref (fAd K d.at_)), T.ex.all fun e => (exL T.mf K e).all id].all id = true from congrArg (fun z : AlX => z.1) c) 1
  have c2 := Bool.and_eq_true_iff.mp (List.all_eq_true.mp c1 _ (List.mem_of_getElem? h))
  have e : T.fn.map (fun d => fnObs K d.at_) = T.fn.map FnD.val := congrArg (fun z : AlX => z.2.1) c
  have e2 : (T.fn.map fun d => fnObs K d.at_)[i]? = (T.fn.map FnD.val)[i]? := by rw [e]
  rw [List.getElem?_map, List.getElem?_map, h] at e2
  obtain ⟨oc, od, osl, kV, doc, pm, an, cdv, ct, lk, hcd⟩ := He.fn_ok (Option.some.inj e2) c2.1
  exact ⟨_, ⟨oc, od, kV, doc, pm, an, cdv, ct, osl, rfl, lk, hcd⟩, c2.2⟩
theorem SaysX.err (c : SaysX T K) (i : Nat) {e : InD} (h : T.ex[i]? = some e := by rfl) : inObs K e.nm = e.val ∧ (exL T.mf K e).all id = true := by
  have c1 := all_at (show [T.fx.all fun f => f.ok K, T.fn.all fun d => (Fa.code d.at_ d.qual).ok K && PySem.W.keepIn K (.ref (fAd K d.at_)), T.ex.all fun e => (exL T.mf K e).all id].all id = true from congrArg (fun z : AlX => z.1) c) 2
  have e0 : T.ex.map (fun e => inObs K e.nm) = T.ex.map InD.val := congrArg (fun z : AlX => z.2.2) c
  have e2 : (T.ex.map fun e => inObs K e.nm)[i]? = (T.ex.map InD.val)[i]? := by rw [e0]
  rw [List.getElem?_map, List.getElem?_map, h] at e2
  exact ⟨Option.some.inj e2, List.all_eq_true.mp c1 _ (List.mem_of_getElem? h)⟩
/-- a def as the top has left it -/
noncomputable def defX {h : Heap} {mg : Str → Option Value} (X : K.In h) (G : h.Ns mainGlobals mg) {nm : Str} {st : Stmt} {ps : List Str} (F : ∃ fd, Fun K nm nm st (ga K nm) fd) (g : (Fx.fa (.glo nm)).ok K = true)
    (hb : ∀ (kV doc pm : Value) (an : Option Addr) (cdv ct : Value) (us : List Value), us.length = ps.length → bindArgs (PySem.W.fnOf nm nm (defArgs st) (defBody st) (defScope st) .none kV doc pm an cdv ct) ⟨us, []⟩ = pure (ps.zip us)) : DefAt K mg nm st ps :=
  ⟨ga K nm, Classical.choose F, Classical.choose_spec F, glo_ok X G g, fun us hl => by
    obtain ⟨oc, od, kV, doc, pm, an, cdv, ct, osl, e, _⟩ := (Classical.choose_spec F).ex
    rw [e]; exact hb kV doc pm an cdv ct us hl⟩
end
end DL

end
section
set_option Elab.async false
set_option linter.all false
set_option autoImplicit true
set_option maxRecDepth 10000
set_option maxHeartbeats 400000
/-! the piece in force, the worst error -/
namespace DL
open PySem L2
open PyProof.Rows hiding St
def absQ (q : Rat) : Rat := if q < 0 then -q else q
theorem absQ_neg (q : Rat) : absQ (-q) = absQ q := by unfold absQ; grind
theorem absQ_nn (q : Rat) : 0 ≤ absQ q := by unfold absQ; grind
theorem absQ_le {q w : Rat} (h1 : q ≤ w) (h2 : -q ≤ w) : absQ q ≤ w := by unfold absQ; grind
theorem le_absQ (q : Rat) : q ≤ absQ q := by unfold absQ; grind
theorem neg_le_absQ (q : Rat) : -q ≤ absQ q := by unfold absQ; grind
theorem absQ_sub (a b : Rat) : absQ (a - b) = absQ (b - a) := by unfold absQ; grind
theorem absQ_sz {k : Nat} {q : Rat} (h : Sz k q) : Sz k (absQ q) := by
  unfold absQ
  split
  · exact ⟨by rw [Rat.neg_num, Int.natAbs_neg]; exact h.1, by rw [Rat.neg_den]; exact h.2⟩
  · exact h
theorem neg_num {q : Rat} : q.num < 0 ↔ q < 0 := by
  have := lt_num (a := q) (b := 0)
  simp at this; exact this.symm
theorem absQ_num (q : Rat) : (absQ q).num = (if q.num < 0 then -q.num else q.num) ∧ (absQ q).den = q.den := by
  unfold absQ
  by_cases h : q < 0
  · have : q.num < 0 := neg_num.mpr h
    rw [if_pos h, if_pos this]; exact ⟨Rat.neg_num _, Rat.neg_den _⟩
  · have : ¬ q.num < 0 := fun z => h (neg_num.mp z)
    rw [if_neg h, if_neg this]; exact ⟨rfl, rfl⟩
theorem absQ_D (q : Rat) : qD (absQ q) = .tup [.int (if q.num < 0 then -q.num else q.num), .int (q.den : Int)] := by
  obtain ⟨h1, h2⟩ := absQ_num q
  show DL.D.tup [.int (absQ q).num, .int ((absQ q).den : Int)] = _
  rw [h1, h2]
theorem maxQ_le {a b w : Rat} (h1 : a ≤ w) (h2 : b ≤ w) : maxQ a b ≤ w := by unfold maxQ; split <;> assumption
theorem le_maxL (a b : Rat) : a ≤ maxQ a b := by unfold maxQ; grind
theorem le_maxR (a b : Rat) : b ≤ maxQ a b := by unfold maxQ; grind
theorem maxQ_or (a b : Rat) : maxQ a b = a ∨ maxQ a b = b := by unfold maxQ; split <;> simp
theorem fold_max : ∀ (l : List Rat) (w : Rat), (l.foldl maxQ w = w ∨ l.foldl maxQ w ∈ l) ∧ w ≤ l.foldl maxQ w ∧ ∀ x ∈ l, x ≤ l.foldl maxQ w
  | [], w => ⟨.inl rfl, Rat.le_refl, by simp⟩
  | a :: l, w => by
    obtain ⟨h1, h2, h3⟩ := fold_max l (maxQ w a)
    rw [List.foldl_cons]
    refine ⟨?_, Rat.le_trans (le_maxL _ _) h2, fun x hx => ?_⟩
    · rcases h1 with h1 | h1
      · rw [h1]
        rcases maxQ_or w a with e | e
        · exact .inl e
        · exact .inr (by rw [e]; simp)
      · exact .inr (List.mem_cons_of_mem _ h1)
    · rcases List.mem_cons.mp hx with rfl | hx
      · exact Rat.le_trans (le_maxR _ _) h2
      · exact h3 x hx
/-! ### the piece in force -/
def placeN (c : List Pc) (t : Rat) : Nat := ((c.drop 1).takeWhile fun p => decide (p.1 ≤ t)).length
theorem tw_len {α : Type} {f : α → Bool} : ∀ {l : List α} {i : Nat}, (∀ j x, j < i → l[j]? = some x → f x = true) → i ≤ l.length → (∀ x, l[i]? = some x → f x = false) → (l.takeWhile f).length = i
  | [], i, _, h, _ => by simp at h; subst h; rfl
  | x :: l, 0, _, _, h => by
    rw [List.takeWhile_cons, h x rfl]; rfl
  | x :: l, i + 1, h1, h2, h3 => by
    rw [List.takeWhile_cons, h1 0 x (by omega) rfl]
    simp only [if_true, List.length_cons]
    rw [tw_len (i := i) (fun j y hj hy => h1 (j + 1) y (by omega) (by simpa using hy)) (by simpa using h2) fun y hy => h3 y (by simpa using hy)]
theorem tw_all {α : Type} {f : α → Bool} : ∀ {l : List α} {j : Nat} {x : α}, j < (l.takeWhile f).length → l[j]? = some x → f x = true
  | [], _, _, _, h => by simp at h
  | y :: l, j, x, h1, h2 => by
    rw [List.takeWhile_cons] at h1
    split at h1
    · rename_i hy
      cases j with
      | zero => cases h2; exact hy
      | succ j => exact tw_all (l := l) (by simpa using h1) (by simpa using h2)
    · simp at h1
theorem tw_stop {α : Type} {f : α → Bool} : ∀ {l : List α} {x : α}, l[(l.takeWhile f).length]? = some x → f x = false
  | [], _, h => by simp at h
  | y :: l, x, h => by
    rw [List.takeWhile_cons] at h
    split at h
    · exact tw_stop (l := l) (by simpa using h)
    · rename_i hy; simp at h; subst h; simpa using hy
theorem tw_le {α : Type} {f : α → Bool} (l : List α) : (l.takeWhile f).length ≤ l.length := (List.takeWhile_prefix f).length_le
theorem place_eq {c : List Pc} {t : Rat} {i : Nat} (h1 : ∀ j p, 0 < j → j ≤ i → c[j]? = some p → p.1 ≤ t) (h2 : i + 1 ≤ c.length) (h3 : ∀ p, c[i + 1]? = some p → t < p.1) : placeN c t = i := by
  unfold placeN
  refine tw_len (fun j x hj hx => ?_) (by rw [List.length_drop]; omega) fun x hx => ?_
  · rw [List.getElem?_drop] at hx
    exact decide_eq_true (h1 (1 + j) x (by omega) (by omega) hx)
  · rw [List.getElem?_drop, Nat.add_comm] at hx
    exact decide_eq_false (fun z => absurd (h3 x hx) (by grind))
/-- what it says, of a course that has begun -/
theorem place_at {c : List Pc} {t : Rat} {p0 : Pc} (ha : Asc c) (h0 : c[0]? = some p0) (hs : p0.1 ≤ t) : ∃ p, c[placeN c t]? = some p ∧ p.1 ≤ t ∧ ∀ q, c[placeN c t + 1]? = some q → t < q.1 := by
  have hl : placeN c t ≤ (c.drop 1).length := tw_le _
  have hlen : 0 < c.length := (List.getElem?_eq_some_iff.mp h0).1
  rw [List.length_drop] at hl
  have e := atB (xs := c) (i := placeN c t) (by omega)
  generalize c[placeN c t] = p at e
  refine ⟨p, e, ?_, fun q hq => ?_⟩
  · cases hp : placeN c t with
    | zero => rw [hp] at e; rw [h0] at e; cases e; exact hs
    | succ j =>
      have e2 : (c.drop 1)[j]? = some p := by rw [List.getElem?_drop, Nat.add_comm, ← hp]; exact e
      have := tw_all (f := fun p : Pc => decide (p.1 ≤ t)) (l := c.drop 1) (j := j) (by show j < placeN c t; omega) e2
      exact of_decide_eq_true this
  · have e2 : (c.drop 1)[((c.drop 1).takeWhile fun p : Pc => decide (p.1 ≤ t)).length]? = some q := by
      rw [List.getElem?_drop, Nat.add_comm]; exact hq
    have := of_decide_eq_false (tw_stop (f := fun p : Pc => decide (p.1 ≤ t)) e2)
    grind
def ST_reqstart (CB : Addr) : SgX := fun ps Post Xp => ∃ (c : List Pc) (p : Pc) (t : Rat) (s k : Nat), ps = [.w (cD c), .d (qD t)] ∧ c[0]? = some p ∧ Sz s p.1 ∧ Sz k t ∧ s + k ≤ 8000 ∧ (¬ t < p.1 → Post (.d .non)) ∧ (t < p.1 → Xp CB [("value", qD t)])
def ST_place : Sg := fun ps Post => ∃ (c : List Pc) (t : Rat) (s k : Nat), ps = [.w (cD c), .d (qD t)] ∧ c ≠ [] ∧ (∀ p ∈ c, Sz s p.1) ∧ Sz k t ∧ s + k ≤ 8000 ∧ c.length ≤ 100000 ∧ Post (.d (.int (placeN c t : Nat))) []
def ST_dist : Sg := fun ps Post => ∃ (a b : Rat) (j k : Nat), ps = [.d (qD a), .d (qD b)] ∧ Sz j a ∧ Sz k b ∧ j + k ≤ 7900 ∧ Post (.d (qD (absQ (a - b)))) []
/-! ### the worst error -/
def endQ (c : List Pc) (e : Rat) (i : Nat) : Rat := match c[i + 1]? with
  | none => e
  | some q => minQ q.1 e
def errs (c : List Pc) (s e : Rat) (i : Nat) : List Rat := match c[i]? with
  | none => []
  | some p => [absQ (maxQ p.1 s - pline p (maxQ p.1 s)), absQ (endQ c e i - pline p (endQ c e i))]
def worstTo (c : List Pc) (s e : Rat) (m : Nat) : Rat := (((List.range m).map (placeN c s + ·)).flatMap (errs c s e)).foldl maxQ 0
def stepsN (c : List Pc) (s e : Rat) : Nat := ((c.drop (placeN c s)).takeWhile fun p => decide (p.1 ≤ e)).length
def worstQ (c : List Pc) (s e : Rat) : Rat := worstTo c s e (stepsN c s e)
theorem worstTo_succ {c : List Pc} {s e : Rat} {m : Nat} {p : Pc} (h : c[placeN c s + m]? = some p) : worstTo c s e (m + 1) = maxQ (maxQ (worstTo c s e m) (absQ (maxQ p.1 s - pline p (maxQ p.1 s)))) (absQ (endQ c e (placeN c s + m) - pline p (endQ c e (placeN c s + m)))) := by
  unfold worstTo
  rw [List.range_succ, List.map_append, List.flatMap_append, List.foldl_append]
  simp only [List.map_cons, List.map_nil, List.flatMap_cons, List.flatMap_nil, List.append_nil]
  unfold errs
  rw [h]; rfl
def toldQ (c : List Pc) (s e : Rat) : D := match c[0]? with
  | none => .non
  | some p => if s < p.1 then .tup [.str "BeforeStart", qD s] else if e < s then .tup [.str "EmptySpan", qD s, qD e] else .tup [.str "is", qD (worstQ c s e)]
abbrev C50 (c : List Pc) : Prop := Cz 50 300 50 c ∧ c.length ≤ 1000 ∧ c ≠ []
def ST_worst (CB CE : Addr) : SgX := fun ps Post Xp => ∃ (c : List Pc) (p : Pc) (s e : Rat), ps = [.w (cD c), .d (qD s), .d (qD e)] ∧ c[0]? = some p ∧ C50 c ∧ Sz 50 s ∧ Sz 50 e ∧ (¬ s < p.1 → ¬ e < s → Post (.d (qD (worstQ c s e)))) ∧ (s < p.1 → Xp CB [("value", qD s)]) ∧ (¬ s < p.1 → e < s → Xp CE [("high", qD e), ("low", qD s)])
def ST_told : Sg := fun ps Post => ∃ (c : List Pc) (s e : Rat), ps = [.w (cD c), .d (qD s), .d (qD e)] ∧ C50 c ∧ Sz 50 s ∧ Sz 50 e ∧ Post (.d (toldQ c s e)) []
theorem maxQ_sz {k : Nat} {a b : Rat} (ha : Sz k a) (hb : Sz k b) : Sz k (maxQ a b) := by unfold maxQ; split <;> assumption
theorem minQ_sz {k : Nat} {a b : Rat} (ha : Sz k a) (hb : Sz k b) : Sz k (minQ a b) := by unfold minQ; split <;> assumption
theorem endQ_sz {c : List Pc} {e : Rat} {i : Nat} (h : Cz 50 300 50 c) (he : Sz 50 e) : Sz 50 (endQ c e i) := by
  unfold endQ
  split
  · exact he
  · rename_i q hq; exact minQ_sz (h.at hq).1 he
theorem pl50 {p : Pc} {t : Rat} (h : Sz 50 p.1 ∧ Sz 300 p.2.1 ∧ Sz 50 p.2.2) (ht : Sz 50 t) : Sz 452 (pline p t) := (h.2.1.add (h.2.2.mul (ht.sub h.1))).mono (by decide)
theorem err_sz {p : Pc} {t : Rat} (h : Sz 50 p.1 ∧ Sz 300 p.2.1 ∧ Sz 50 p.2.2) (ht : Sz 50 t) : Sz 503 (absQ (t - pline p t)) := absQ_sz ((ht.sub (pl50 h ht)).mono (by decide))
theorem errs_sz {c : List Pc} {s e : Rat} {i : Nat} (h : Cz 50 300 50 c) (hs : Sz 50 s) (he : Sz 50 e) : ∀ x ∈ errs c s e i, Sz 503 x := fun x hx => by
  unfold errs at hx
  split at hx
  · simp at hx
  · rename_i p hp
    have hp' := h.at hp
    rcases List.mem_cons.mp hx with rfl | hx
    · exact err_sz hp' (maxQ_sz hp'.1 hs)
    · have : x = absQ (endQ c e i - pline p (endQ c e i)) := by simpa using hx
      subst this
      exact err_sz hp' (endQ_sz h he)
theorem sz_zero {k : Nat} : Sz (k + 1) 0 := ⟨Nat.pow_pos (by decide), Nat.one_lt_two_pow (by omega)⟩
theorem worstTo_sz {c : List Pc} {s e : Rat} {m : Nat} (h : Cz 50 300 50 c) (hs : Sz 50 s) (he : Sz 50 e) : Sz 503 (worstTo c s e m) := by
  rcases (fold_max (((List.range m).map (placeN c s + ·)).flatMap (errs c s e)) 0).1 with h1 | h1
  · unfold worstTo; rw [h1]; exact sz_zero
  · obtain ⟨i, _, hi⟩ := List.mem_flatMap.mp h1
    exact errs_sz h hs he _ hi
/-- the steps: the pieces from the place of s on that start at e or before -/
theorem worst_mem {c : List Pc} {s e x : Rat} (ha : Asc c) : x ∈ ((List.range (stepsN c s e)).map (placeN c s + ·)).flatMap (errs c s e) ↔ ∃ i p, placeN c s ≤ i ∧ c[i]? = some p ∧ p.1 ≤ e ∧ x ∈ errs c s e i := by
  constructor
  · intro h
    obtain ⟨i, hi, hx⟩ := List.mem_flatMap.mp h
    obtain ⟨m, hm, rfl⟩ := List.mem_map.mp hi
    have hm' := List.mem_range.mp hm
    have hl : stepsN c s e ≤ (c.drop (placeN c s)).length := tw_le _
    rw [List.length_drop] at hl
    have e1 := atB (xs := c) (i := placeN c s + m) (by omega)
    refine ⟨_, _, by omega, e1, ?_, hx⟩
    have e2 : (c.drop (placeN c s))[m]? = some (c[placeN c s + m]'(by omega)) := by rw [List.getElem?_drop]; exact e1
    exact of_decide_eq_true (tw_all (f := fun p : Pc => decide (p.1 ≤ e)) hm' e2)
  · rintro ⟨i, p, h1, h2, h3, h4⟩
    refine List.mem_flatMap.mpr ⟨i, List.mem_map.mpr ⟨i - placeN c s, List.mem_range.mpr ?_, by omega⟩, h4⟩
    apply Decidable.byContradiction
    intro hn
    have hlt : i < c.length := (List.getElem?_eq_some_iff.mp h2).1
    have e1 := atB (xs := c) (i := placeN c s + stepsN c s e) (by omega)
    have e2 : (c.drop (placeN c s))[((c.drop (placeN c s)).takeWhile fun p : Pc => decide (p.1 ≤ e)).length]? = some (c[placeN c s + stepsN c s e]'(by omega)) := by rw [List.getElem?_drop]; exact e1
    have f := of_decide_eq_false (tw_stop (f := fun p : Pc => decide (p.1 ≤ e)) e2)
    by_cases hh : placeN c s + stepsN c s e = i
    · subst hh; rw [h2] at e1; cases e1; exact f h3
    · have := asc_lt ha e1 h2 (by omega)
      grind
/-! ### the law's distances -/
def distP (s e : Rat) (x : Pc × Pc) : List (Rat × Rat) := if s < x.2.1 ∧ ¬ e < x.2.1 then [(x.2.1, x.2.2.1), (x.2.1, pline x.1 x.2.1)] else []
/-- the times with what is shown there -/
def distL (c : List Pc) (s e vs ve : Rat) (m : Nat) : List (Rat × Rat) := [(s, vs), (e, ve)] ++ ((prs c).take m).flatMap (distP s e)
def wayQ (x : Rat × Rat) : Rat := absQ (x.2 - x.1)
theorem place_in {c : List Pc} {t : Rat} {i : Nat} {p : Pc} (ha : Asc c) (hp : c[i]? = some p) (h1 : p.1 ≤ t) (h2 : ∀ q, c[i + 1]? = some q → t < q.1) : placeN c t = i := by
  refine place_eq (fun j q _ hj hq => ?_) (List.getElem?_eq_some_iff.mp hp).1 h2
  by_cases e : j = i
  · subst e; rw [hp] at hq; cases hq; exact h1
  · have := asc_lt ha hq hp (by omega); grind
theorem prs_mem {c : List Pc} {x : Pc × Pc} : x ∈ prs c ↔ ∃ i, c[i]? = some x.1 ∧ c[i + 1]? = some x.2 := by
  constructor
  · intro h
    obtain ⟨i, hi, e⟩ := List.mem_iff_getElem.mp h
    have hl := prs_len c
    have e1 := atB (xs := c) (i := i) (by omega)
    have e2 := atB (xs := c) (i := i + 1) (by omega)
    have := prs_at e1 e2
    have e3 := atB (xs := prs c) hi
    rw [this, e] at e3
    cases e3
    exact ⟨i, e1, e2⟩
  · rintro ⟨i, h1, h2⟩
    exact List.mem_of_getElem? (prs_at h1 h2)
section
variable {c : List Pc} {s e vs ve : Rat} {p0 : Pc}
theorem end_le {i : Nat} {p : Pc} (hi : c[i]? = some p) : endQ c e i ≤ e := by
  unfold endQ; split
  · exact Rat.le_refl
  · unfold minQ; grind
/-- the ways are the errors -/
theorem ways_errs (ha : Asc c) (h0 : c[0]? = some p0) (hs : p0.1 ≤ s) (he : s ≤ e) (hvs : nowQ c s = some vs) (hve : nowQ c e = some ve) (x : Rat) :
    x ∈ (distL c s e vs ve (prs c).length).map wayQ ↔ ∃ i p, placeN c s ≤ i ∧ c[i]? = some p ∧ p.1 ≤ e ∧ x ∈ errs c s e i := by
  obtain ⟨ps, s1, s2, s3⟩ := place_at ha h0 hs
  obtain ⟨pe, e1, e2, e3⟩ := place_at ha h0 (t := e) (Rat.le_trans hs he)
  have nvs : vs = pline ps s := by have := now_at ha s1 s2 s3; rw [this] at hvs; exact (Option.some.inj hvs).symm
  have nve : ve = pline pe e := by have := now_at ha e1 e2 e3; rw [this] at hve; exact (Option.some.inj hve).symm
  have hle : placeN c s ≤ placeN c e := by
    apply Decidable.byContradiction
    intro hn
    have hlt := (List.getElem?_eq_some_iff.mp s1).1
    have q := atB (xs := c) (i := placeN c e + 1) (by omega)
    generalize c[placeN c e + 1] = qq at q
    have h1 := e3 _ q
    have : qq.1 ≤ ps.1 := by
      by_cases z : placeN c e + 1 = placeN c s
      · rw [z, s1] at q; cases q; exact Rat.le_refl
      · have := asc_lt ha q s1 (by omega); grind
    grind
  have mxs : ∀ {i : Nat} {p : Pc}, placeN c s ≤ i → c[i]? = some p → (i = placeN c s ∧ p = ps ∧ maxQ p.1 s = s) ∨ (∃ j q, i = j + 1 ∧ c[j]? = some q ∧ s < p.1 ∧ maxQ p.1 s = p.1) := fun {i p} hi hp => by
    by_cases z : i = placeN c s
    · subst z; rw [s1] at hp; cases hp
      refine .inl ⟨rfl, rfl, ?_⟩
      unfold maxQ; grind
    · obtain ⟨j, rfl⟩ : ∃ j, i = j + 1 := ⟨i - 1, by omega⟩
      have hl := (List.getElem?_eq_some_iff.mp hp).1
      have q := atB (xs := c) (i := placeN c s + 1) (by omega)
      generalize c[placeN c s + 1] = qq at q
      have h1 := s3 _ q
      have h2 : s < p.1 := by
        by_cases y : placeN c s + 1 = j + 1
        · rw [y, hp] at q; cases q; exact h1
        · have := asc_lt ha q hp (by omega); grind
      refine .inr ⟨j, _, rfl, atB (by omega), h2, ?_⟩
      unfold maxQ; grind
  have ed : ∀ {i : Nat} {p : Pc}, c[i]? = some p → p.1 ≤ e → (p = pe ∧ endQ c e i = e) ∨ ∃ q, c[i + 1]? = some q ∧ q.1 ≤ e ∧ endQ c e i = q.1 := fun {i p} hp h => by
    unfold endQ
    cases hq : c[i + 1]? with
    | none =>
      have := place_in ha hp h (fun q z => by rw [hq] at z; cases z)
      rw [this] at e1; rw [hp] at e1; cases e1
      exact .inl ⟨rfl, rfl⟩
    | some q =>
      by_cases z : e < q.1
      · have := place_in ha hp h (fun q' y => by rw [hq] at y; cases y; exact z)
        rw [this] at e1; rw [hp] at e1; cases e1
        exact .inl ⟨rfl, by show minQ q.1 e = e; unfold minQ; rw [if_pos z]⟩
      · exact .inr ⟨q, rfl, by grind, by show minQ q.1 e = q.1; unfold minQ; rw [if_neg z]⟩
  have pl0 : ∀ p : Pc, pline p p.1 = p.2.1 := fun p => by unfold pline; grind
  have inD : ∀ {i : Nat} {p q : Pc}, c[i]? = some p → c[i + 1]? = some q → s < q.1 → q.1 ≤ e → absQ (q.2.1 - q.1) ∈ (distL c s e vs ve (prs c).length).map wayQ ∧ absQ (pline p q.1 - q.1) ∈ (distL c s e vs ve (prs c).length).map wayQ := fun {i p q} h1 h2 h3 h4 => by
    have hm : (p, q) ∈ prs c := prs_mem.mpr ⟨i, h1, h2⟩
    have hd : distP s e (p, q) = [(q.1, q.2.1), (q.1, pline p q.1)] := by unfold distP; rw [if_pos ⟨h3, by grind⟩]
    have sub : ∀ y ∈ distP s e (p, q), y ∈ distL c s e vs ve (prs c).length := fun y hy => by
      unfold distL
      rw [List.take_length]
      exact List.mem_append_right _ (List.mem_flatMap.mpr ⟨_, hm, hy⟩)
    exact ⟨List.mem_map.mpr ⟨(q.1, q.2.1), sub _ (by rw [hd]; simp), rfl⟩, List.mem_map.mpr ⟨(q.1, pline p q.1), sub _ (by rw [hd]; simp), rfl⟩⟩
  constructor
  · intro h
    obtain ⟨y, hy, rfl⟩ := List.mem_map.mp h
    have errA : ∀ {i : Nat} {p : Pc}, c[i]? = some p → absQ (maxQ p.1 s - pline p (maxQ p.1 s)) ∈ errs c s e i := fun {i p} h => by unfold errs; rw [h]; simp
    have errB : ∀ {i : Nat} {p : Pc}, c[i]? = some p → absQ (endQ c e i - pline p (endQ c e i)) ∈ errs c s e i := fun {i p} h => by unfold errs; rw [h]; simp
    unfold distL at hy
    rw [List.take_length] at hy
    rcases List.mem_append.mp hy with hy | hy
    · rcases List.mem_cons.mp hy with rfl | hy
      · refine ⟨_, ps, Nat.le_refl _, s1, by grind, ?_⟩
        have := errA s1
        rcases mxs (Nat.le_refl _) s1 with ⟨_, _, m⟩ | ⟨j, q, _, _, m, _⟩
        · rw [m] at this
          show absQ (vs - s) ∈ _
          rw [nvs, absQ_sub]; exact this
        · grind
      · have : y = (e, ve) := by simpa using hy
        subst this
        refine ⟨_, pe, hle, e1, e2, ?_⟩
        have := errB e1
        rcases ed e1 e2 with ⟨_, m⟩ | ⟨q, q1, q2, _⟩
        · rw [m] at this
          show absQ (ve - e) ∈ _
          rw [nve, absQ_sub]; exact this
        · have := e3 q q1; grind
    · obtain ⟨⟨p, q⟩, hpq, hy⟩ := List.mem_flatMap.mp hy
      obtain ⟨i, h1, h2⟩ := prs_mem.mp hpq
      unfold distP at hy
      split at hy
      · rename_i hc
        obtain ⟨c1, c2⟩ := hc
        have hpi : placeN c s ≤ i := by
          apply Decidable.byContradiction
          intro hn
          have : q.1 ≤ ps.1 := by
            by_cases z : i + 1 = placeN c s
            · have h2' : c[i + 1]? = some q := h2
              rw [z, s1] at h2'; cases h2'; exact Rat.le_refl
            · have := asc_lt ha h2 s1 (by omega); grind
          grind
        rcases List.mem_cons.mp hy with rfl | hy
        · refine ⟨i + 1, q, by omega, h2, by grind, ?_⟩
          have := errA h2
          rcases mxs (by omega) h2 with ⟨z, _, _⟩ | ⟨_, _, _, _, _, m⟩
          · omega
          · rw [m, pl0] at this
            show absQ (q.2.1 - q.1) ∈ _
            rw [absQ_sub]; exact this
        · have : y = (q.1, pline p q.1) := by simpa using hy
          subst this
          have hlt := asc_lt ha h1 h2 (Nat.lt_succ_self i)
          refine ⟨i, p, hpi, h1, by grind, ?_⟩
          have := errB h1
          have m : endQ c e i = q.1 := by
            unfold endQ; rw [h2]; show minQ q.1 e = q.1; unfold minQ; rw [if_neg c2]
          rw [m] at this
          show absQ (pline p q.1 - q.1) ∈ _
          rw [absQ_sub]; exact this
      · simp at hy
  · rintro ⟨i, p, h1, h2, h3, h4⟩
    unfold errs at h4
    rw [h2] at h4
    rcases List.mem_cons.mp h4 with rfl | h4
    · rcases mxs h1 h2 with ⟨_, rfl, m⟩ | ⟨j, q, rfl, hj, m1, m⟩
      · rw [m]
        refine List.mem_map.mpr ⟨(s, vs), by unfold distL; simp, ?_⟩
        show absQ (vs - s) = _
        rw [nvs, absQ_sub]
      · rw [m, pl0, absQ_sub]
        exact (inD hj h2 m1 h3).1
    · have : x = absQ (endQ c e i - pline p (endQ c e i)) := by simpa using h4
      subst this
      rcases ed h2 h3 with ⟨rfl, m⟩ | ⟨q, q1, q2, m⟩
      · rw [m]
        refine List.mem_map.mpr ⟨(e, ve), by unfold distL; simp, ?_⟩
        show absQ (ve - e) = _
        rw [nve, absQ_sub]
      · rw [m, absQ_sub]
        have hs2 : s < q.1 := by
          rcases mxs (i := i + 1) (by omega) q1 with ⟨z, _, _⟩ | ⟨_, _, _, _, z, _⟩
          · omega
          · exact z
        exact (inD h2 q1 hs2 q2).2
/-- the worst one is one of the ways, no way is above it, and none in between -/
theorem worst_ok (ha : Asc c) (h0 : c[0]? = some p0) (hs : p0.1 ≤ s) (he : s ≤ e) (hvs : nowQ c s = some vs) (hve : nowQ c e = some ve) :
    worstQ c s e ∈ (distL c s e vs ve (prs c).length).map wayQ ∧ (∀ x ∈ (distL c s e vs ve (prs c).length).map wayQ, x ≤ worstQ c s e) ∧ ∀ t v, s ≤ t → t ≤ e → nowQ c t = some v → absQ (v - t) ≤ worstQ c s e := by
  have hw := ways_errs ha h0 hs he hvs hve
  obtain ⟨f1, f2, f3⟩ := fold_max (((List.range (stepsN c s e)).map (placeN c s + ·)).flatMap (errs c s e)) 0
  have up : ∀ x, (∃ i p, placeN c s ≤ i ∧ c[i]? = some p ∧ p.1 ≤ e ∧ x ∈ errs c s e i) → x ≤ worstQ c s e := fun x hx => f3 x ((worst_mem ha).mpr hx)
  refine ⟨?_, fun x hx => up x ((hw x).mp hx), fun t v ht1 ht2 hv => ?_⟩
  · have h1 : wayQ (s, vs) ∈ (distL c s e vs ve (prs c).length).map wayQ := List.mem_map.mpr ⟨(s, vs), by unfold distL; simp, rfl⟩
    rcases f1 with z | z
    · have := up _ ((hw _).mp h1)
      have h2 : worstQ c s e = 0 := z
      have h3 : wayQ (s, vs) = worstQ c s e := by
        have := absQ_nn (vs - s)
        unfold wayQ at *
        grind
      rw [← h3]; exact h1
    · exact (hw _).mpr ((worst_mem ha).mp z)
  · obtain ⟨pt, t1, t2, t3⟩ := place_at ha h0 (t := t) (Rat.le_trans hs ht1)
    have nv : v = pline pt t := by have := now_at ha t1 t2 t3; rw [this] at hv; exact (Option.some.inj hv).symm
    obtain ⟨ps, s1, s2, s3⟩ := place_at ha h0 hs
    have hle : placeN c s ≤ placeN c t := by
      apply Decidable.byContradiction
      intro hn
      have hlt := (List.getElem?_eq_some_iff.mp s1).1
      have q := atB (xs := c) (i := placeN c t + 1) (by omega)
      generalize c[placeN c t + 1] = qq at q
      have h1 := t3 _ q
      have : qq.1 ≤ ps.1 := by
        by_cases z : placeN c t + 1 = placeN c s
        · rw [z, s1] at q; cases q; exact Rat.le_refl
        · have := asc_lt ha q s1 (by omega); grind
      grind
    have eA := up (absQ (maxQ pt.1 s - pline pt (maxQ pt.1 s))) ⟨_, pt, hle, t1, by grind, by unfold errs; rw [t1]; simp⟩
    have eB := up (absQ (endQ c e (placeN c t) - pline pt (endQ c e (placeN c t)))) ⟨_, pt, hle, t1, by grind, by unfold errs; rw [t1]; simp⟩
    have hf : maxQ pt.1 s ≤ t := maxQ_le t2 ht1
    have hl : t ≤ endQ c e (placeN c t) := by
      unfold endQ; split
      · exact ht2
      · rename_i q hq; have := t3 q hq; unfold minQ; grind
    generalize maxQ pt.1 s = f at hf eA
    generalize endQ c e (placeN c t) = l at hl eB
    generalize worstQ c s e = W at eA eB ⊢
    rw [nv]
    have a1 := le_absQ (f - pline pt f)
    have a2 := neg_le_absQ (f - pline pt f)
    have b1 := le_absQ (l - pline pt l)
    have b2 := neg_le_absQ (l - pline pt l)
    have df : pline pt t - t = (pline pt f - f) + (pt.2.2 - 1) * (t - f) := by unfold pline; grind
    have dl : pline pt t - t = (pline pt l - l) - (pt.2.2 - 1) * (l - t) := by unfold pline; grind
    refine absQ_le ?_ ?_
    · by_cases hr : 0 ≤ pt.2.2 - 1
      · have := Rat.mul_nonneg hr (show 0 ≤ l - t by grind); grind
      · have := Rat.mul_nonneg (show 0 ≤ -(pt.2.2 - 1) by grind) (show 0 ≤ t - f by grind); grind
    · by_cases hr : 0 ≤ pt.2.2 - 1
      · have := Rat.mul_nonneg hr (show 0 ≤ t - f by grind); grind
      · have := Rat.mul_nonneg (show 0 ≤ -(pt.2.2 - 1) by grind) (show 0 ≤ l - t by grind); grind
end
theorem cmp_le {a b : Rat} : decide (cmpQ a b ≤ 0) = decide (a ≤ b) := by
  unfold cmpQ
  by_cases h : a < b
  · rw [if_pos h]; simp; grind
  · rw [if_neg h]
    by_cases h2 : b < a
    · rw [if_pos h2]; simp; grind
    · rw [if_neg h2]; simp; grind
theorem place_lt {c : List Pc} {t : Rat} (h : c ≠ []) : placeN c t < c.length := by
  have hl : placeN c t ≤ (c.drop 1).length := tw_le _
  have := List.length_pos_iff.mpr h
  rw [List.length_drop] at hl
  omega
/-- the steps that were gone -/
theorem steps_eq {c : List Pc} {s e : Rat} {i : Nat} (h1 : placeN c s + i ≤ c.length) (h2 : ∀ j p, j < i → c[placeN c s + j]? = some p → p.1 ≤ e) (h3 : ∀ p, c[placeN c s + i]? = some p → e < p.1) : stepsN c s e = i := by
  unfold stepsN
  refine tw_len (fun j x hj hx => ?_) (by rw [List.length_drop]; omega) fun x hx => ?_
  · rw [List.getElem?_drop] at hx
    exact decide_eq_true (h2 j x hj hx)
  · rw [List.getElem?_drop] at hx
    exact decide_eq_false (fun z => absurd (h3 x hx) (by grind))
/-! ### q not in qs -/
theorem qs_depth : ∀ (a : List Rat), PyData.depthAll (pdL (a.map qD)) ≤ 2
  | [] => Nat.zero_le _
  | p :: a => by
    show max (qD p).pd.depth (PyData.depthAll (pdL (a.map qD))) ≤ 2
    have h1 : (qD p).pd.depth ≤ 2 := Nat.le_of_ble_eq_true rfl
    have := qs_depth a
    omega
theorem qs_shp (a : List Rat) : (DL.D.lst (a.map qD)).shp = true := by
  show (PyData.canLayAll0 (pdL (a.map qD)) && decide (PyData.depthAll (pdL (a.map qD)) + 1 ≤ 64)) = true
  have := qs_depth a
  rw [qs_lay a, decide_eq_true (by omega)]; rfl
theorem qs_any (q : Rat) : ∀ (a : List Rat), ((pdL (a.map qD)).any fun y => PyData.eqv y (qD q).pd) = a.contains q
  | [] => rfl
  | p :: a => by
    have e : PyData.eqv (qD p).pd (qD q).pd = decide (p = q) := eqv_q p q
    show ((qD p).pd :: pdL (a.map qD)).any _ = _
    rw [List.any_cons, qs_any q a, e, List.contains_cons]
    congr 1
    by_cases h : p = q
    · subst h; simp
    · simp [h, Ne.symm h]
section
variable {X : Cx} {n : Nm} {c : Cc} {Γ : SL} {a b : Expr} {pos : Pos} {k l : AK} {q : Rat} {qs : List Rat}
theorem dop_notInQ : DOp X n c (compareOp .NotIn) (fun x y Post => ∃ (q : Rat) (qs : List Rat), x = qD q ∧ y = .lst (qs.map qD) ∧ Post (.bl (!qs.contains q))) := fun hn => ⟨_, op_notInD (by have := hn.room.un; omega), fun Γ σ R H x y v w Post s hx hy ⟨q, qs, e1, e2, p⟩ Q k => by
  subst e1 e2
  refine ⟨(qD q).pd, pdL (qs.map qD), hx.dp s.rh rfl, hy.dp s.rh (canLay_shp (qs_shp qs)), rfl, qs_shp qs, ?_⟩
  rw [qs_any]
  exact k (.bl (!qs.contains q)) R H (.bl (!qs.contains q)) s (Ex.refl _) rfl p⟩
theorem et_notInQ (ha : EK X n c Γ a k) (hb : EK X n c Γ b l) (ga : k.get Γ = some (qD q) := by rfl) (gb : l.get Γ = some (.lst (qs.map qD)) := by rfl) (hm : behindInMarks .NotIn b = false := by rfl) : ET X n c Γ (.Compare a [.NotIn] [b] pos) (!qs.contains q) := et_cmp dop_notInQ ha hb (fun _ p => ⟨q, qs, rfl, rfl, p⟩) ga gb hm
end
def ST_dists : Sg := fun ps Post => ∃ (c : List Pc) (s e vs ve : Rat), ps = [.w (cD c), .d (qD s), .d (qD e)] ∧ C50 c ∧ Sz 50 s ∧ Sz 50 e ∧ nowQ c s = some vs ∧ nowQ c e = some ve ∧ Post (.own (.lst (((distL c s e vs ve (prs c).length).map wayQ).map qD))) []
def ST_rightw : Sg := fun ps Post => ∃ (c : List Pc) (s e : Rat), ps = [.w (cD c), .d (qD s), .d (qD e), .d (toldQ c s e)] ∧ C50 c ∧ Asc c ∧ Sz 50 s ∧ Sz 50 e ∧ Post (.d (.bl true)) []
def ST_stretch : Sg := fun ps Post => ∃ (c : List Pc) (s e : Rat), ps = [.w (cD c), .d (qD s), .d (qD e)] ∧ C50 c ∧ Asc c ∧ Sz 50 s ∧ Sz 50 e ∧ Post (.d (.bl true)) []
def ST_somecourse : Sg := fun ps Post => ∃ m : Nat, ps = [.own .sto, .d (.int (m : Int))] ∧ m ≤ 14 ∧ ∀ c : List Pc, c.length = m → Asc c → Cz 25 250 20 c → Post (.own (.lst (c.map pD))) [.sto]
def ST_when : Sg := fun ps Post => ∃ c : List Pc, ps = [.own .sto, .w (cD c)] ∧ c ≠ [] ∧ c.length ≤ 1000 ∧ Cz 25 250 20 c ∧ ∀ t, Sz 50 t → Post (.d (qD t)) [.sto]
theorem distL_succ {c : List Pc} {s e vs ve : Rat} {i : Nat} {p q : Pc} (h1 : c[i]? = some p) (h2 : c[i + 1]? = some q) : distL c s e vs ve (i + 1) = distL c s e vs ve i ++ distP s e (p, q) := by
  unfold distL
  rw [List.take_succ, prs_at h1 h2, List.flatMap_append, List.append_assoc]; simp
theorem distL_sz {c : List Pc} {s e vs ve : Rat} {m : Nat} (h : Cz 50 300 50 c) (hs : Sz 50 s) (he : Sz 50 e) (hvs : nowQ c s = some vs) (hve : nowQ c e = some ve) : ∀ x ∈ distL c s e vs ve m, Sz 50 x.1 ∧ Sz 452 x.2 := by
  have now : ∀ {t v : Rat}, Sz 50 t → nowQ c t = some v → Sz 452 v := fun {t v} ht hv => by
    unfold nowQ at hv
    obtain ⟨p, hp, rfl⟩ := Option.map_eq_some_iff.mp hv
    exact pl50 (h p (List.mem_filter.mp (List.mem_of_getLast? hp)).1) ht
  intro x hx
  unfold distL at hx
  rcases List.mem_append.mp hx with hx | hx
  · simp only [List.mem_cons, List.not_mem_nil, or_false] at hx
    rcases hx with rfl | rfl
    · exact ⟨hs, now hs hvs⟩
    · exact ⟨he, now he hve⟩
  · obtain ⟨⟨p, q⟩, hpq, hy⟩ := List.mem_flatMap.mp hx
    obtain ⟨i, h1, h2⟩ := prs_mem.mp (List.mem_of_mem_take hpq)
    have zp := h.at h1
    have zq := h.at h2
    unfold distP at hy
    split at hy
    · simp only [List.mem_cons, List.not_mem_nil, or_false] at hy
      rcases hy with rfl | rfl
      · exact ⟨zq.1, zq.2.1.mono (by decide)⟩
      · exact ⟨zq.1, pl50 zp zq.1⟩
    · simp at hy
theorem distL_len {c : List Pc} {s e vs ve : Rat} : ∀ m, (distL c s e vs ve m).length ≤ 2 + 2 * m := fun m => by
  have h : ∀ l : List (Pc × Pc), (l.flatMap (distP s e)).length ≤ 2 * l.length := fun l => by
    induction l with
    | nil => simp
    | cons x l ih =>
      rw [List.flatMap_cons, List.length_append, List.length_cons]
      have : (distP s e x).length ≤ 2 := by unfold distP; split <;> simp
      omega
  unfold distL
  have := h ((prs c).take m)
  rw [List.length_append]
  have := List.length_take_le m (prs c)
  show 2 + _ ≤ _
  omega
theorem now_some {c : List Pc} {t : Rat} {p0 : Pc} (ha : Asc c) (h0 : c[0]? = some p0) (hs : p0.1 ≤ t) : ∃ v, nowQ c t = some v := by
  obtain ⟨p, h1, h2, h3⟩ := place_at ha h0 hs
  exact ⟨_, now_at ha h1 h2 h3⟩
theorem pl_sq (x : Str) (q : Rat) : (DL.D.tup [.str x, qD q]).pl 5 := ⟨Nat.le_of_ble_eq_true rfl, fun d hd => by
  simp only [List.mem_cons, List.not_mem_nil, or_false] at hd
  rcases hd with rfl | rfl
  · trivial
  · exact pl_q 3 q⟩
theorem pl_sqq (x : Str) (q r : Rat) : (DL.D.tup [.str x, qD q, qD r]).pl 5 := ⟨Nat.le_of_ble_eq_true rfl, fun d hd => by
  simp only [List.mem_cons, List.not_mem_nil, or_false] at hd
  rcases hd with rfl | rfl | rfl
  · trivial
  · exact pl_q 3 q
  · exact pl_q 3 r⟩
theorem pl_told (c : List Pc) (s e : Rat) : (toldQ c s e).pl 5 := by
  unfold toldQ
  split
  · trivial
  · split
    · exact pl_sq _ _
    · split
      · exact pl_sqq _ _ _
      · exact pl_sq _ _
theorem same_of {Q : Res → List OB → Prop} {v d : DL.D} {b : Bool} (e : v = d) (hb : b = true ↔ v = d) (z : Q (.d (.bl true)) []) : Q (.d (.bl b)) [] := by
  have := hb.mpr e
  subst this; exact z
section
variable {X : Cx} {n : Nm} {c : Cc} {Γ : SL} {a b d : Expr} {k l m : AK} {ps : List Par} {S : Sg} {nm : Str} {p pos : Pos}
theorem eo_call3 {o : OB} (hc : CalF X n.k nm S) (j : Nat) (ha : EK X n c Γ a k) (hb : EK X n c Γ b l) (hd : EK X n c Γ d m) (h : ∀ Post : Res → List OB → Prop, Post (.own o) [] → S ps Post) (hp : pars Γ [k, l, m] = some ps := by rfl) (ho : ownIx [k, l, m] = [] := by rfl) (hj : n.GN[j]? = some nm := by rfl)
    (he : starEach [a, b, d] X.env = (false, eval a X.env) :: starEach [b, d] X.env := by exact se_c rfl) (he2 : starEach [b, d] X.env = (false, eval b X.env) :: starEach [d] X.env := by exact se_c rfl) (he3 : starEach [d] X.env = (false, eval d X.env) :: starEach [] X.env := by exact se_c rfl) (hpl : (backTo pos (starEach [b, d] X.env)).any (·.1) = false := by exact se_any rfl) : EO X n c Γ (.Call (.Name nm p) [a, b, d] [] pos) o :=
  wo_call hc j (wa_of (ea_cons ha (ea_cons hb (ea_cons hd ea_nil he3) he2) he) ⟨ps, hp, by rw [ho]; exact List.nodup_nil, by rw [ho]; simp, h _ ⟨o, rfl, rfl, by rw [ho]; rfl⟩⟩) hj he hpl
end
end DL

end
section
set_option Elab.async false
set_option linter.all false
set_option autoImplicit true
set_option maxRecDepth 10000
set_option maxHeartbeats 400000
namespace DL
open PySem L2
/-! ### is True, is not True -/
section
variable {X : Cx} {n : Nm} {c : Cc} {Γ : SL} {a b : Expr} {pos : Pos} {k l : AK} {p q : Bool}
theorem dop_isB : DOp X n c (compareOp .Is) (fun x y Post => ∃ a b : Bool, x = .bl a ∧ y = .bl b ∧ Post (.bl (decide (a = b)))) := fun _ => ⟨_, op_isBl, fun Γ σ R H x y v w Post s hx hy ⟨a, b, e1, e2, p⟩ Q q => by
  subst e1 e2
  exact ⟨a, b, hx.bl, hy.bl, q (.bl (decide (a = b))) R H (.bl (decide (a = b))) s (Ex.refl _) rfl p⟩⟩
theorem dop_notB : DOp X n c (compareOp .IsNot) (fun x y Post => ∃ a b : Bool, x = .bl a ∧ y = .bl b ∧ Post (.bl (!decide (a = b)))) := fun _ => ⟨_, op_notBl, fun Γ σ R H x y v w Post s hx hy ⟨a, b, e1, e2, p⟩ Q q => by
  subst e1 e2
  exact ⟨a, b, hx.bl, hy.bl, q (.bl (!decide (a = b))) R H (.bl (!decide (a = b))) s (Ex.refl _) rfl p⟩⟩
theorem et_isB (ha : EV X n c Γ a (.bl p)) (hb : EV X n c Γ b (.bl q)) (hm : behindInMarks .Is b = false := by first | exact nomark _ | rfl) : ET X n c Γ (.Compare a [.Is] [b] pos) (decide (p = q)) := et_cmp dop_isB (ek_d ha) (ek_d hb) (fun _ z => ⟨p, q, rfl, rfl, z⟩) rfl rfl hm
theorem et_notB (ha : EV X n c Γ a (.bl p)) (hb : EV X n c Γ b (.bl q)) (hm : behindInMarks .IsNot b = false := by first | exact nomark _ | rfl) : ET X n c Γ (.Compare a [.IsNot] [b] pos) (!decide (p = q)) := et_cmp dop_notB (ek_d ha) (ek_d hb) (fun _ z => ⟨p, q, rfl, rfl, z⟩) rfl rfl hm
end
/-! ### sizes -/
theorem Sz.inv {k : Nat} {q : Rat} (h : Sz k q) (h0 : q ≠ 0) : Sz (8 * k) q⁻¹ := by
  have e : q⁻¹ = fr (q.den : Int) q.num := fr_inv.symm
  rw [e]
  exact fr_sz ((show Bt (8 * k) (q.den : Int) from h.d.mono (by omega)).mono (by omega)) h.n (fun z => h0 (Rat.num_eq_zero.mp z))
theorem szPart {q : Rat} (h : PPart q) : Sz 6 q := Sd.sz h (by decide) (show 60 < 2 ^ 6 by decide) (by decide)
theorem szStep {q : Rat} (h : PStep q) : Sz 6 q := Sd.sz h.1 (by decide) (show 60 < 2 ^ 6 by decide) (by decide)
theorem szSpare {q : Rat} (h : PSpare q) : Sz 6 q := Sd.sz h.1 (by decide) (show 60 < 2 ^ 6 by decide) (by decide)
theorem szPace {q : Rat} (h : PPace q) : Sz 15 q := Sd.sz h.1 (by decide) (show 27720 < 2 ^ 15 by decide) (by decide)
def PNeg (q : Rat) : Prop := q < 0 ∧ Sz 10 q
def PNab (q : Rat) : Prop := ¬ 0 < q ∧ Sz 10 q
/-! ### the elapsed time -/
def spanEl (d lo top : Rat) : Spn := if d < 0 then (some (d / lo), some (d / top)) else (some (d / top), some (d / lo))
def elD (d lo top : Rat) : D := if ¬ 0 < lo then .tup [.str "BadRate", qD lo] else if top < lo then .tup [.str "BadRate", qD top] else .tup [.str "is", sD (spanEl d lo top)]
theorem dvm {d a : Rat} (h : 0 < a) : d / a * a = d := Rat.div_mul_cancel (by grind)
theorem le_dv {a b c : Rat} (h : 0 < b) (e : a * b ≤ c) : a ≤ c / b := by
  by_cases z : c / b < a
  · have := (Rat.div_lt_iff h).mp z; grind
  · grind
theorem dv_le {a b c : Rat} (h : 0 < b) (e : c ≤ a * b) : c / b ≤ a := by
  by_cases z : a < c / b
  · have := (Rat.lt_div_iff h).mp z; grind
  · grind
def Betw (lo top g d : Rat) : Prop := (0 ≤ g → lo * g ≤ d ∧ d ≤ top * g) ∧ (g ≤ 0 → top * g ≤ d ∧ d ≤ lo * g)
theorem Betw.neg {lo top g d : Rat} (h : Betw lo top g d) : Betw lo top (-g) (-d) := ⟨fun z => by
  have := h.2 (by grind); grind, fun z => by
  have := h.1 (by grind); grind⟩
theorem el_in {lo top g d : Rat} (h0 : 0 < lo) (h1 : ¬ top < lo) (h : Betw lo top g d) : inS (spanEl d lo top) g = true := by
  have ht : 0 < top := by grind
  unfold spanEl
  by_cases hd : d < 0
  · rw [if_pos hd]
    have hg : g ≤ 0 := by
      by_cases z : 0 ≤ g
      · have := (h.1 z).1
        have := Rat.mul_nonneg (Rat.le_of_lt h0) z
        grind
      · grind
    obtain ⟨a1, a2⟩ := h.2 hg
    have b1 : d / lo ≤ g := dv_le h0 (by grind)
    have b2 : g ≤ d / top := le_dv ht (by grind)
    show (!decide (g < d / lo) && !decide (d / top < g)) = true
    rw [decide_eq_false (by grind), decide_eq_false (by grind)]; rfl
  · rw [if_neg hd]
    have hg : 0 ≤ g := by
      by_cases z : g < 0
      · have a := (h.2 (by grind)).2
        have : lo * g < 0 := by
          have := Rat.mul_pos h0 (show 0 < -g by grind)
          grind
        grind
      · grind
    obtain ⟨a1, a2⟩ := h.1 hg
    have b1 : d / top ≤ g := dv_le ht (by grind)
    have b2 : g ≤ d / lo := le_dv h0 (by grind)
    show (!decide (g < d / top) && !decide (d / lo < g)) = true
    rw [decide_eq_false (by grind), decide_eq_false (by grind)]; rfl
theorem el_ord {lo top d : Rat} (h0 : 0 < lo) (h1 : ¬ top < lo) : OrdS (spanEl d lo top) := by
  have ht : 0 < top := by grind
  unfold spanEl
  by_cases hd : d < 0
  · rw [if_pos hd]
    intro a b e1 e2
    cases e1; cases e2
    have e1 := dvm (d := d) h0
    have : d / lo ≤ d / top := le_dv ht (by
      have hx : d / lo ≤ 0 := dv_le h0 (by grind)
      have := Rat.mul_nonneg (show 0 ≤ -(d / lo) by grind) (show 0 ≤ top - lo by grind)
      grind)
    grind
  · rw [if_neg hd]
    intro a b e1 e2
    cases e1; cases e2
    have e1 := dvm (d := d) ht
    have : d / top ≤ d / lo := le_dv h0 (by
      have hx : 0 ≤ d / top := le_dv ht (by grind)
      have := Rat.mul_nonneg hx (show 0 ≤ top - lo by grind)
      grind)
    grind
theorem el_sz {d lo top : Rat} {j k : Nat} (hd : Sz j d) (h1 : Sz k lo⁻¹) (h2 : Sz k top⁻¹) : SzS (j + k) (spanEl d lo top) := by
  have a : Sz (j + k) (d / lo) := by rw [Rat.div_def]; exact hd.mul h1
  have b : Sz (j + k) (d / top) := by rw [Rat.div_def]; exact hd.mul h2
  unfold spanEl
  split
  · exact ⟨fun q e => by cases e; exact a, fun q e => by cases e; exact b⟩
  · exact ⟨fun q e => by cases e; exact b, fun q e => by cases e; exact a⟩
/-! ### a course of steady rates -/
def Stdy (c : List Pc) : Prop := ∀ (i : Nat) (p q : Pc), c[i]? = some p → c[i + 1]? = some q → q.2.1 = pline p q.1
def Rates (lo top : Rat) (c : List Pc) : Prop := ∀ p ∈ c, ¬ p.2.2 < lo ∧ ¬ top < p.2.2
def KeepP (c : List Pc) (lo top : Rat) : Prop := Rates lo top c ∧ Stdy c
noncomputable def keepB (c : List Pc) (lo top : Rat) : Bool := @decide (KeepP c lo top) (Classical.propDecidable _)
theorem keepB_of {c : List Pc} {lo top : Rat} {b : Bool} (h : b = true ↔ KeepP c lo top) : keepB c lo top = b := by
  unfold keepB
  rw [Bool.eq_iff_iff, h]
  exact @decide_eq_true_iff _ (Classical.propDecidable _)
theorem jumps_nil {c : List Pc} : jumpsQ c = [] ↔ Stdy c := by
  unfold jumpsQ
  rw [List.filterMap_eq_nil_iff]
  constructor
  · intro h i p q hp hq
    have := h (p, q) (prs_mem.mpr ⟨i, hp, hq⟩)
    unfold jF at this
    split at this
    · rename_i z
      unfold jmp at z
      show q.2.1 = _
      have z' : q.2.1 - pline p q.1 = 0 := z
      grind
    · cases this
  · rintro h ⟨p, q⟩ hm
    obtain ⟨i, h1, h2⟩ := prs_mem.mp hm
    have := h i p q h1 h2
    unfold jF
    rw [if_pos]
    show q.2.1 - pline p q.1 = 0
    grind
theorem steady_starts {c : List Pc} {lo top : Rat} (ha : Asc c) (hs : Stdy c) (hr : Rates lo top c) : ∀ (k i : Nat) (p q : Pc), c[i]? = some p → c[i + k]? = some q → lo * (q.1 - p.1) ≤ q.2.1 - p.2.1 ∧ q.2.1 - p.2.1 ≤ top * (q.1 - p.1)
  | 0, i, p, q, h1, h2 => by
    rw [Nat.add_zero, h1] at h2
    cases h2
    grind
  | k + 1, i, p, q, h1, h2 => by
    have hl := (List.getElem?_eq_some_iff.mp h2).1
    have e := atB (xs := c) (i := i + k) (by omega)
    generalize c[i + k] = r at e
    obtain ⟨a1, a2⟩ := steady_starts ha hs hr k i p r h1 e
    have h3 := hs (i + k) r q e h2
    have h4 := asc_lt ha e h2 (by omega)
    obtain ⟨r1, r2⟩ := hr r (List.mem_of_getElem? e)
    have m1 := Rat.mul_nonneg (show 0 ≤ r.2.2 - lo by grind) (show 0 ≤ q.1 - r.1 by grind)
    have m2 := Rat.mul_nonneg (show 0 ≤ top - r.2.2 by grind) (show 0 ≤ q.1 - r.1 by grind)
    unfold pline at h3
    grind
theorem steady_le {c : List Pc} {lo top : Rat} (ha : Asc c) (hs : Stdy c) (hr : Rates lo top c) {p0 : Pc} (h0 : c[0]? = some p0) {t u : Rat} (h1 : p0.1 ≤ t) (h2 : t ≤ u) : ∃ v w, nowQ c t = some v ∧ nowQ c u = some w ∧ lo * (u - t) ≤ w - v ∧ w - v ≤ top * (u - t) := by
  obtain ⟨p, p1, p2, p3⟩ := place_at ha h0 h1
  obtain ⟨q, q1, q2, q3⟩ := place_at ha h0 (show p0.1 ≤ u by grind)
  have np := now_at ha p1 p2 p3
  have nq := now_at ha q1 q2 q3
  generalize placeN c t = i at p1 p3
  generalize placeN c u = j at q1 q3
  refine ⟨_, _, np, nq, ?_⟩
  have hil := (List.getElem?_eq_some_iff.mp p1).1
  have hjl := (List.getElem?_eq_some_iff.mp q1).1
  obtain ⟨rp1, rp2⟩ := hr p (List.mem_of_getElem? p1)
  obtain ⟨rq1, rq2⟩ := hr q (List.mem_of_getElem? q1)
  have hij : i ≤ j := by
    by_cases z : j < i
    · have e := atB (xs := c) (i := j + 1) (by omega)
      generalize c[j + 1] = r at e
      have a1 := q3 r e
      by_cases y : j + 1 = i
      · rw [y, p1] at e; cases e; grind
      · have := asc_lt ha e p1 (by omega); grind
    · omega
  by_cases y : i = j
  · subst y
    rw [p1] at q1; cases q1
    have m1 := Rat.mul_nonneg (show 0 ≤ p.2.2 - lo by grind) (show 0 ≤ u - t by grind)
    have m2 := Rat.mul_nonneg (show 0 ≤ top - p.2.2 by grind) (show 0 ≤ u - t by grind)
    unfold pline
    grind
  · have e := atB (xs := c) (i := i + 1) (by omega)
    generalize c[i + 1] = r at e
    have a1 := p3 r e
    have a2 := hs i p r p1 e
    obtain ⟨a3, a4⟩ := steady_starts ha hs hr (j - (i + 1)) (i + 1) r q e (by rw [show i + 1 + (j - (i + 1)) = j by omega]; exact q1)
    have m1 := Rat.mul_nonneg (show 0 ≤ p.2.2 - lo by grind) (show 0 ≤ r.1 - t by grind)
    have m2 := Rat.mul_nonneg (show 0 ≤ top - p.2.2 by grind) (show 0 ≤ r.1 - t by grind)
    have m3 := Rat.mul_nonneg (show 0 ≤ q.2.2 - lo by grind) (show 0 ≤ u - q.1 by grind)
    have m4 := Rat.mul_nonneg (show 0 ≤ top - q.2.2 by grind) (show 0 ≤ u - q.1 by grind)
    unfold pline at a2 ⊢
    grind
theorem steady_now {c : List Pc} {lo top : Rat} (ha : Asc c) (hs : Stdy c) (hr : Rates lo top c) {p0 : Pc} (h0 : c[0]? = some p0) {t u : Rat} (h1 : p0.1 ≤ t) (h2 : p0.1 ≤ u) : ∃ v w, nowQ c t = some v ∧ nowQ c u = some w ∧ Betw lo top (u - t) (w - v) := by
  by_cases z : t ≤ u
  · obtain ⟨v, w, e1, e2, e3, e4⟩ := steady_le ha hs hr h0 h1 z
    refine ⟨v, w, e1, e2, fun _ => ⟨e3, e4⟩, fun y => ?_⟩
    have e : u - t = 0 := by grind
    rw [e] at e3 e4 ⊢
    grind
  · obtain ⟨v, w, e1, e2, e3, e4⟩ := steady_le ha hs hr h0 h2 (show u ≤ t by grind)
    refine ⟨w, v, e2, e1, fun y => ?_, fun y => ?_⟩
    · exact absurd y (by grind)
    · grind
theorem Asc.first {c : List Pc} (ha : Asc c) {p0 p : Pc} {i : Nat} (h0 : c[0]? = some p0) (h : c[i]? = some p) : p0.1 ≤ p.1 := by
  cases i with
  | zero => rw [h0] at h; cases h; exact Rat.le_refl
  | succ i => exact Rat.le_of_lt (asc_lt ha h0 h (by omega))
theorem Stdy.snoc {c : List Pc} {p : Pc} (h : Stdy c) (hp : ∀ q, c[c.length - 1]? = some q → c ≠ [] → p.2.1 = pline q p.1) : Stdy (c ++ [p]) := by
  intro i a b h1 h2
  have hl := (List.getElem?_eq_some_iff.mp h2).1
  rw [List.length_append] at hl
  have hl : i + 1 < c.length + 1 := hl
  rw [List.getElem?_append_left (by omega)] at h1
  by_cases z : i + 1 < c.length
  · rw [List.getElem?_append_left z] at h2
    exact h i a b h1 h2
  · have e : i + 1 = c.length := by omega
    rw [e, List.getElem?_append_right (Nat.le_refl _), Nat.sub_self] at h2
    cases h2
    exact hp a (by rw [show c.length - 1 = i by omega]; exact h1) (fun z => by rw [z] at e; simp at e)
def ST_runs : Sg := fun ps Post => ∃ (c : List Pc) (lo top : Rat), ps = [.w (cD c), .d (qD lo), .d (qD top)] ∧ C50 c ∧ Sz 60 lo ∧ Sz 60 top ∧ Post (.d (.bl (keepB c lo top))) []
def ST_bright : Sg := fun ps Post => ∃ (c : List Pc) (lo top : Rat), ps = [.w (cD c), .d (qD lo), .d (qD top)] ∧ C50 c ∧ Sz 40 lo ∧ Sz 40 top ∧ Post (.d (.bl true)) []
def ST_steady : Sg := fun ps Post => ∃ (lo top : Rat) (m : Nat), ps = [.own .sto, .d (qD lo), .d (qD top), .d (.int (m : Int))] ∧ PPace lo ∧ Sd 27720 60 top ∧ ¬ top < lo ∧ m ≤ 12 ∧ ∀ c : List Pc, c.length = m → Asc c → Stdy c → Rates lo top c → Cz 25 250 50 c → Post (.own (.lst (c.map pD))) [.sto]
def ST_changed : Sg := fun ps Post => ∃ c : List Pc, ps = [.own .sto, .w (cD c)] ∧ c ≠ [] ∧ c.length ≤ 100 ∧ Cz 25 250 50 c ∧ ∀ d : List Pc, d.length = c.length → Cz 25 261 50 d → Post (.own (.lst (d.map pD))) [.sto]
def ST_elapsed (CR : Addr) : SgX := fun ps Post Xp => ∃ (d lo top : Rat), ps = [.d (qD d), .d (qD lo), .d (qD top)] ∧ Sz 1000 d ∧ Sz 50 lo ∧ Sz 50 top ∧ (0 < lo → ¬ top < lo → Post (.d (sD (spanEl d lo top)))) ∧ (¬ 0 < lo → Xp CR [("value", qD lo)]) ∧ (0 < lo → top < lo → Xp CR [("value", qD top)])
def ST_toldel : Sg := fun ps Post => ∃ (d lo top : Rat), ps = [.d (qD d), .d (qD lo), .d (qD top)] ∧ Sz 1000 d ∧ Sz 50 lo ∧ Sz 50 top ∧ Post (.d (elD d lo top)) []
def ST_elright : Sg := fun ps Post => ∃ (d lo top : Rat), ps = [.d (qD d), .d (qD lo), .d (qD top), .d (elD d lo top)] ∧ 0 < lo ∧ ¬ top < lo ∧ Sz 1000 d ∧ Sz 50 lo ∧ Sz 50 top ∧ Post (.d (.bl true)) []
def ST_betright : Sg := fun ps Post => ∃ (c : List Pc) (p0 : Pc) (lo top t u : Rat), ps = [.w (cD c), .d (qD lo), .d (qD top), .d (qD t), .d (qD u)] ∧ c[0]? = some p0 ∧ C50 c ∧ Asc c ∧ Stdy c ∧ Rates lo top c ∧ 0 < lo ∧ ¬ top < lo ∧ Sz 50 lo ∧ Sz 50 top ∧ ¬ t < p0.1 ∧ ¬ u < p0.1 ∧ Sz 60 t ∧ Sz 60 u ∧ Post (.d (.bl true)) []
def ST_whenel : Sg := fun ps Post => ∃ (c : List Pc) (p0 : Pc), ps = [.own .sto, .w (cD c)] ∧ c[0]? = some p0 ∧ c.length ≤ 1000 ∧ Asc c ∧ Cz 25 250 50 c ∧ ∀ t, ¬ t < p0.1 → Sz 60 t → Post (.d (qD t)) [.sto]
def N3 : Nat := 13305600
def ShareP (q : Rat) : Prop := Sd 8 3 q ∧ 0 ≤ q ∧ q ≤ 1
theorem share_rates {lo top s : Rat} (h : ¬ top < lo) (hs : ShareP s) : ¬ lo + s * (top - lo) < lo ∧ ¬ top < lo + s * (top - lo) := by
  have h1 := Rat.mul_nonneg hs.2.1 (show 0 ≤ top - lo by grind)
  have h2 := Rat.mul_nonneg (show 0 ≤ 1 - s by have := hs.2.2; grind) (show 0 ≤ top - lo by grind)
  grind
theorem Rates.snoc {lo top : Rat} {c : List Pc} {p : Pc} (h : Rates lo top c) (hp : ¬ p.2.2 < lo ∧ ¬ top < p.2.2) : Rates lo top (c ++ [p]) := fun q hq => by
  rcases List.mem_append.mp hq with hq | hq
  · exact h q hq
  · have : q = p := by simpa using hq
    subst this; exact hp
theorem Cz.snoc {s t r : Nat} {c : List Pc} {p : Pc} (h : Cz s t r c) (hp : Sz s p.1 ∧ Sz t p.2.1 ∧ Sz r p.2.2) : Cz s t r (c ++ [p]) := fun q hq => by
  rcases List.mem_append.mp hq with hq | hq
  · exact h q hq
  · have : q = p := by simpa using hq
    subst this; exact hp
def BadR (a b e : Rat) : Prop := Sz 40 a ∧ Sz 40 b ∧ ((¬ 0 < a ∧ e = a) ∨ (0 < a ∧ b < a ∧ e = b))
def ST_badrates : Sg := fun ps Post => ps = [.own .sto] ∧ ∀ a b e, BadR a b e → Post (.d (.tup [qD a, qD b, .tup [.str "BadRate", qD e]])) [.sto]
theorem el_bad {d a b e : Rat} (h : BadR a b e) : elD d a b = .tup [.str "BadRate", qD e] := by
  unfold elD
  rcases h.2.2 with ⟨h1, rfl⟩ | ⟨h1, h2, rfl⟩
  · rw [if_pos h1]
  · rw [if_neg (by grind), if_pos h2]
theorem el_good {d lo top : Rat} (h0 : 0 < lo) (h1 : ¬ top < lo) : elD d lo top = .tup [.str "is", sD (spanEl d lo top)] := by
  unfold elD
  rw [if_neg (by grind), if_neg h1]
theorem fr_div {n d : Int} : fr n d = (n : Rat) / (d : Rat) := Rat.divInt_eq_div n d
theorem fr_le_of {n d q : Int} (hd : 0 < d) (h : n ≤ q * d) : fr n d ≤ (q : Rat) := by
  rw [fr_div]
  refine dv_le (by exact_mod_cast hd) ?_
  rw [← Rat.intCast_mul]
  exact Rat.intCast_le_intCast.mpr h
theorem le_fr_of {n d q : Int} (hd : 0 < d) (h : q * d ≤ n) : (q : Rat) ≤ fr n d := by
  rw [fr_div]
  refine le_dv (by exact_mod_cast hd) ?_
  rw [← Rat.intCast_mul]
  exact Rat.intCast_le_intCast.mpr h
end DL

end
section
set_option Elab.async false
set_option linter.all false
set_option autoImplicit true
set_option maxRecDepth 100000
set_option maxHeartbeats 4000000
/-! several except clauses with names; calls with keywords -/
namespace L2
open PySem PySem.Spec PyProof.Rows
def wManyA (K : PySem.W.Frag) (i : Nat) (Wout : WX) (D : Ends) : List (Value × (Addr → Value → Option Addr → TS)) → WX
  | [] => Wout
  | (c, ts) :: r => fun cls d σ H => ∃ b, PySem.W.exmOne K cls c = some b ∧ (b = true → ∀ a, H a = none → ts a cls d { nx := fun σ' H' => D.nx (σ'.set i none) H', rt := D.rt, bk := fun σ' H' => D.bk (σ'.set i none) H', ct := fun σ' H' => D.ct (σ'.set i none) H' } (σ.set i (some (.ref a))) H) ∧ (b = false → wManyA K i Wout D r cls d σ H)
inductive HdsA (X : Cx) (n : Str) : List ExceptHandler → List (Value × (Addr → Value → Option Addr → TS)) → Prop
  | nil : HdsA X n [] []
  | cons {x : Str} {c : Value} {ts : Addr → Value → Option Addr → TS} {b₀ : Stmt} {suite : List Stmt} {np pos' : Pos} {hds : List ExceptHandler} {l : List (Value × (Addr → Value → Option Addr → TS))} (hc : Names X x c)
      (hsu : ∀ (a : Addr) (oe : Obj) (cls : Value) (d : Option Addr) (pn : List (Addr × Obj)), Zc cls d oe → (∃ vs, oe.data = .fields vs) → PSs (X.suite a ((a, oe) :: pn)) (b₀ :: suite) (ts a cls d)) (r : HdsA X n hds l) :
      HdsA X n (.ExceptHandler (some (.Name x np)) (some n) (b₀ :: suite) pos' :: hds) ((c, ts) :: l)
section
variable {X : Cx} {n : Str} {i : Nat} {body : List Stmt} {h₀ : ExceptHandler} {hds : List ExceptHandler} {l : List (Value × (Addr → Value → Option Addr → TS))} {pos : Pos} {tb : WX → TS} {Wout : WX}
theorem ps_try_manyA (hs : X.stack = X.env :: X.outer) (hf : X.env.frame = some X.env.locals) (hN : X.N.Nodup) (hi : X.N[i]? = some n) (hln : X.env.kindOf n = some .local) (tk : Takes X Wout)
    (hb : ∀ (W : WX) (pn : List (Addr × Obj)) (xe : Value → Shared → Prop), Takes (X.tr pn xe) W → PassesOwn (model X.prog X.w) X.A X.env xe → PSs (X.tr pn xe) body (tb W))
    (hh : HdsA X n (h₀ :: hds) l) : PS X (.Try body (h₀ :: hds) [] [] pos) (fun D σ H => tb (wManyA X.K i Wout D l) D σ H) := by
  refine ⟨fun pins s σ H D I h => ?_⟩
  have ok := I.ok
  have hfr : X.A.frames = some (X.env :: X.outer) := by rw [ok.frames, hs]
  have hloc : Loc X.env.scope n := .inl hln
  refine wpAny_Try_except ?_
  refine wpAny_mono ((hb (wManyA X.K i Wout D l) (X.pn ++ pins) (fun e s₁ => wpAny (model X.prog X.w) X.A (noteFrame e X.env) (fun _ s₂ => wpAny (model X.prog X.w) X.A (setFlight e none) (fun _ s₃ =>
    wpAny (model X.prog X.w) X.A (handleBy e X.env (h₀ :: hds)) (SP X pins D) X.xe s₃) X.xe s₂) X.xe s₁) (fun u s' xx => ?_) PassesOwn.looking).run [] s σ H D (I.toTry _) h) (fun f s1 hsp => ?_) (fun e s1 he => he)
  · obtain ⟨a, B, sI, pins', σ', H', cls, d, rfl, J', nb, up, sky, na, os, ag, w⟩ := xx
    have J : Inv X pins σ' H' sI := J'.ofTry ok
    have sky' : Sky B (X.env :: X.outer) a (Zc cls d) X.env.locals s'.heap := by rw [← hs]; exact sky
    show wpAny (model X.prog X.w) X.A (noteFrame (.ref a) X.env) _ _ _
    refine Sky.land Zc.steady hfr hf sky' fun h3 fl3 up3 => ?_
    have J3 : Inv X pins σ' H' { s' with heap := h3 } := J.landed nb fl3.1 (up.trans up3) os ag
    obtain ⟨oe3, vs3, he3, hz3, hd3⟩ := fl3.there
    have notFr : ∀ {h : Heap} {o : Obj} {vs : Array Value}, h.FunFrames B (X.env :: X.outer) → h.get? a = some o → o.data = .fields vs → a ∉ frs (X.env :: X.outer) := fun {h o vs} ff e dd hm => by
      obtain ⟨_, o', e', hnf⟩ := ff.mem hm
      rw [e] at e'; cases e'
      exact hnf _ dd
    have nfr := notFr fl3.2.2.1 he3 hd3
    have nL : a ≠ X.env.locals := fun z => nfr (List.mem_filterMap.mpr ⟨X.env, List.mem_cons_self, by rw [hf, z]⟩)
    have nF : a ∉ X.fs := fun hm => by
      obtain ⟨e, he, q⟩ := List.mem_filterMap.mp hm
      exact nfr (List.mem_filterMap.mpr ⟨e, List.mem_cons_of_mem _ he, q⟩)
    have S3 := J3.suite he3 hd3 na nL nF
    have go : ∀ {hds' : List ExceptHandler} {l' : List (Value × (Addr → Value → Option Addr → TS))}, HdsA X n hds' l' → wManyA X.K i Wout D l' cls d σ' H' →
        wpAny (model X.prog X.w) X.A (handleBy (.ref a) X.env hds') (SP X pins D) X.xe { s' with heap := h3 } := by
      intro hds' l' hk
      induction hk with
      | nil =>
        intro w
        refine wpAny_handleBy_nil ?_
        obtain ⟨k1, k2, k3, oe, vs, T, oT, ts', he, hz, hd, h1, hr⟩ := id fl3
        unfold PySem.passOn
        refine wpAny_bind (wpAny_field he hd h1 ?_)
        rw [if_neg (show ¬ ((Value.ref T == Value.none) = true) from by simp)]
        have fin : wpAny (model X.prog X.w) X.A (setFlight (.ref a) X.env.frame) (fun _ s4 => wpAny (model X.prog X.w) X.A (throw (.ref a) : Sem Flow) (SP X pins D) X.xe s4) X.xe { s' with heap := h3 } := by
          rw [hf]
          refine HandSPX.setFlight_upZ fl3 fun h4 hh4 up4 => wpAny_throw (tk _ _ ?_)
          exact ⟨a, B, sI, pins, σ', H', cls, d, rfl, J, nb, (up.trans up3).trans up4, .inr (.inr (by rw [hs]; exact hh4)), na, os, ag, w⟩
        first
          | exact wpAny_bind (wpAny_pure (wpAny_bind fin))
          | exact wpAny_bind fin
      | @cons x c ts b₀ suite np pos' hds2 l2 hc hsu r ih =>
        intro w
        obtain ⟨b, hb1, hyes, hno⟩ := w
        refine wpAny_handleBy_cons (codeAny_handlers_test ?_) (by intro q; cases q)
        have LT : PySem.W.Looks (model X.prog X.w) h3 (typeOf (.ref a)) cls := fun A Q E s k q => wpAny_typeOf_ref (k _ _ he3) (by rw [hz3.1]; exact q)
        have LM := PySem.W.exm_one (M := model X.prog X.w) (J3.kIn) LT hb1
        have test : ∀ {Q : Value → Shared → Prop} {E : Value → Shared → Prop}, Q c { s' with heap := h3 } → wpAny (model X.prog X.w) (X.A.mark (some (.ref a))) (eval (.Name x np) X.env) Q E { s' with heap := h3 } := fun {Q E} q => by
          obtain ⟨hg, hdbg, hm | ⟨hm, hv, hnn⟩⟩ := hc
          · exact ld_glob (X := X.suite a ((a, oe3) :: (X.pn ++ pins))) S3 hg hm q hdbg
          · exact ld_blt (X := X.suite a ((a, oe3) :: (X.pn ++ pins))) S3 hg hm hv q hnn hdbg
        refine test (LM.here ?_)
        cases b with
        | true =>
          refine codeAny_handlers_suite_as ?_
          refine HandSPX.lands_againZ fl3 fun h4 fl4 up4 => ?_
          have J4 : Inv X pins σ' H' { s' with heap := h4 } := J.landed nb fl4.1 ((up.trans up3).trans up4) os ag
          obtain ⟨oe4, vs4, he4, hz4, hd4⟩ := fl4.there
          have S4 := J4.suite he4 hd4 na nL nF
          refine store_ok (X := X.suite a ((a, oe4) :: (X.pn ++ pins))) (v := .ref a) S4 hN hi hloc rfl (fun s5 S5 => ?_) (.inr hln)
          refine wpAny_mono ((hsu a oe4 cls d (X.pn ++ pins) hz4 ⟨_, hd4⟩).run [] s5 _ H' _ S5 (hyes rfl a na)) (fun f s6 hsp => ?_) (fun _ _ z => False.elim z)
          have end_ : ∀ {σ6 : St} {H6 : Hp} {Q : Shared → Prop}, Inv (X.suite a ((a, oe4) :: (X.pn ++ pins))) [] σ6 H6 s6 → (∀ s7, Inv X pins (σ6.set i none) H6 s7 → Q s7) →
              wpAny (model X.prog X.w) X.A (do bindName X.env n .none; unbindBehindTheSuite X.env n pos') (fun _ s7 => Q s7) X.xe s6 := fun {σ6 H6 Q} S6 hq => gone_ok (S6.unsuite ok) hN hi hln hq
          cases f with
          | next =>
            obtain ⟨σ6, H6, S6, q6⟩ := hsp
            exact end_ S6 fun s7 J7 => ⟨_, _, J7, q6⟩
          | brk =>
            obtain ⟨σ6, H6, S6, q6⟩ := hsp
            exact end_ S6 fun s7 J7 => ⟨_, _, J7, q6⟩
          | cont =>
            obtain ⟨σ6, H6, S6, q6⟩ := hsp
            exact end_ S6 fun s7 J7 => ⟨_, _, J7, q6⟩
          | ret u =>
            obtain ⟨v6, σ6, H6, S6, r6, q6⟩ := hsp
            exact end_ S6 fun s7 J7 => ⟨_, _, _, J7, r6, q6⟩
        | false =>
          show wpAny _ X.A (handleBy (.ref a) X.env hds2) _ _ _
          exact ih (hno rfl)
    exact go hh w
  · cases f with
    | next =>
      obtain ⟨σ', H', J', q⟩ := hsp
      exact wpAny_execs_nil ⟨σ', H', J'.ofTry ok, q⟩
    | brk =>
      obtain ⟨σ', H', J', q⟩ := hsp
      exact ⟨σ', H', J'.ofTry ok, q⟩
    | cont =>
      obtain ⟨σ', H', J', q⟩ := hsp
      exact ⟨σ', H', J'.ofTry ok, q⟩
    | ret u =>
      obtain ⟨v, σ', H', J', r, q⟩ := hsp
      exact ⟨v, σ', H', J'.ofTry ok, r, q⟩
end
def tCallNS (n m : Nat) (sp : Sp) (gV : List V → List V → List V) (E : St → XK) (t tk : TA) : TE := fun σ H Q => t σ H fun vs H1 => tk σ H1 fun zs H2 => vs.length = n ∧ zs.length = m ∧ sp (gV vs zs) H2 Q (E σ)
section
variable {X : Cx} {CX : CXT} {k n : Nat} {f : Addr} {fd : FuncData} {ps ks : List Str} {sp : Sp} {E : St → XK} {x : Str} {p pos : Pos} {e : Expr} {es : List Expr} {kws : List Keyword} {t tk : TA} {g : List Value → List Value → List Value} {gV : List V → List V → List V}
theorem pe_callNS (F : FnOk X.prog X.w X.K X.mg X.base CX k f fd ps sp) (hr : Room k X.A) (hg : Gl X x) (hm : X.mg x = some (.ref f)) (hk : PySem.W.keepIn X.K (.ref f) = true) (hb : KBn X.K fd ps n ks g gV) (hx : ∀ σ, PassesAt CX X σ (E σ))
    (ha : PA X (e :: es) t) (hkw : PK X kws tk) (hall : (backToKw pos (keywordEach kws X.env)).all (·.1.isSome) = true) (hks : (backToKw pos (keywordEach kws X.env)).filterMap (·.1) = ks)
    (hdb : (x == ("__debug__" : Str)) = false) (he : starEach (e :: es) X.env = (false, eval e X.env) :: starEach es X.env)
    (hpl : ((backTo pos (starEach (e :: es) X.env)).any (·.1) || (backToKw pos (keywordEach kws X.env)).any (·.1.isNone)) = false) :
    PE X (.Call (.Name x p) (e :: es) kws pos) (tCallNS n ks.length sp gV E t tk) := by
  refine ⟨fun pins s σ H Q I h => ?_⟩
  refine wpAny_Call_Name_kw (ld_glob I hg hm ?_ hdb)
  refine PySem.W.callWith_KW (h₀ := X.base) I.ok.mod.kin hk hall (thn (ha.run pos pins s σ H _ I h) fun us s1 ⟨vs, H1, I1, r, q⟩ => ?_) hpl he
  refine thn (hkw.run pos pins s1 σ H1 _ I1 q) fun ws s2 ⟨zs, H2, I2, rz, l1, l2, q2⟩ => ⟨I2.kIn, ?_⟩
  rw [hks]
  have r2 := hb.rel r rz
  refine wpAny_call (codeAny_mono (F.run X.A X.stack s2 H2 ⟨us, ks.zip ws⟩ (g us ws) (gV vs zs) Q (E σ) hr I2.env0 (hb.to s2 us ws I2.kIn (r.length.symm.trans l1) (rz.length.symm.trans l2)) r2 q2) fun r s' hq => ?_)
  cases r with
  | error e => exact hx σ pins H2 s2 e s' I2 hq
  | ok fl =>
    cases fl with
    | ret u => exact I2.after hq
    | next => exact False.elim hq
    | brk => exact False.elim hq
    | cont => exact False.elim hq
end
end L2
namespace DL
open PySem L2
variable {X : Cx} {n : Nm} {c : Cc} {Γ : SL} {nm en cn cn2 : Str} {cv cv2 : Value} {De : DE} {body suite suite2 : List Stmt} {b₀ b₁ : Stmt} {np np2 pos pos' pos2 : Pos}
/-- what two clauses ask of an exception of the body -/
def wTry2 (X : Cx) (n : Nm) (c : Cc) (i : Nat) (cv : Value) (su : List Stmt) (cv2 : Value) (su2 : List Stmt) (De : DE) : Addr → List (Str × D) → List Slot → Prop := fun C fs Γ =>
  ∃ b, PySem.W.exmOne X.K (.ref C) cv = some b ∧ (b = true → ∀ a d oe pn, Zc (.ref C) d oe → (∃ vs, oe.data = .fields vs) → (d = none → fs = []) → HotE (X.suite a ((a, oe) :: pn)) a C d → WB (X.suite a ((a, oe) :: pn)) n.ht c.nox (Γ.set i (.ex a d fs)) su (De.at i)) ∧ (b = false → wTry X n c i cv2 su2 De C fs Γ)
theorem KCls.names {X : Cx} {cn : Str} {cv : Value} (kc : KCls X cn cv) {n : Nm} {c : Cc} (hn : NOk X n c) (j : Nat) (hj : n.GN[j]? = some cn) : Names X cn cv := by
  obtain ⟨g1, g2, g3⟩ := hn.gl j cn hj
  rcases kc.nm with ⟨C, m1, rfl⟩ | ⟨m1, T, m2, rfl⟩
  · exact ⟨g1, g2, .inl m1⟩
  · exact ⟨g1, g2, .inr ⟨m1, m2, g3⟩⟩
theorem ws_try2 (i j j2 : Nat) (kc : KCls X cn cv) (kc2 : KCls X cn2 cv2)
    (hb : ∀ (pn : List (Addr × Obj)) (xe : Value → Shared → Prop) (R0 : Hp), WB (X.tr pn xe) n (c.tr R0 (wTry2 X n c i cv (b₀ :: suite) cv2 (b₁ :: suite2) De)) Γ body De)
    (hj : n.GN[j]? = some cn := by rfl) (hj2 : n.GN[j2]? = some cn2 := by rfl) (hi : n.N[i]? = some en := by rfl) (hl : n.lc.contains i = true := by rfl) (ho : n.oi.contains i = false := by rfl) (hne : n.lc ≠ [] := by exact List.cons_ne_nil _ _) : WS X n c Γ (.Try body [.ExceptHandler (some (.Name cn np)) (some en) (b₀ :: suite) pos', .ExceptHandler (some (.Name cn2 np2)) (some en) (b₁ :: suite2) pos2] [] [] pos) De := .mk fun hn σ R H s E ok => by
  obtain ⟨hs, hf⟩ := hn.fr hne
  have hc := kc.names hn j hj
  have hc2 := kc2.names hn j2 hj2
  refine (ps_try_manyA (n := en) (i := i) (tb := fun W D σ H => ∀ (pn : List (Addr × Obj)) (xe : Value → Shared → Prop), Takes (X.tr pn xe) W → PassesOwn (model X.prog X.w) X.A X.env xe → tWB (X.tr pn xe) body D σ H)
    (l := [(cv, fun a cls d D σ H => ∀ (oe : Obj) (pn : List (Addr × Obj)), Zc cls d oe → (∃ vs, oe.data = .fields vs) → tWB (X.suite a ((a, oe) :: pn)) (b₀ :: suite) D σ H), (cv2, fun a cls d D σ H => ∀ (oe : Obj) (pn : List (Addr × Obj)), Zc cls d oe → (∃ vs, oe.data = .fields vs) → tWB (X.suite a ((a, oe) :: pn)) (b₁ :: suite2) D σ H)]) (Wout := wish X.K c)
    hs hf (by rw [hn.eq]; exact hn.nd) (by rw [hn.eq]; exact hi) (hn.lc i en hl hi) hn.tk (fun W pn xe tk po => ⟨fun pins s σ H D I h => h pn xe tk po pins s I⟩)
    (.cons hc (fun a oe cls d pn hz hf => ⟨fun pins s σ H D I h => h oe pn hz hf pins s I⟩) (.cons hc2 (fun a oe cls d pn hz hf => ⟨fun pins s σ H D I h => h oe pn hz hf pins s I⟩) .nil))).w ?_
  intro pn xe tk po
  refine (hb pn xe R).run ⟨hn.eq, hn.nd, hn.vis, hn.loc, hn.dbg, hn.gl, hn.kind, hn.scp, hn.calm, hn.room, po, hn.lc, hn.oi, hn.cm, ?_, hn.fr⟩ σ R H s.tr E (ok.tr s)
  refine tk.imp fun cls d σ' H' ⟨C, fs, Γ1, R1, e1, xd, s1, b, hb1, hy, hno⟩ => ?_
  subst e1
  have hio : i ∉ c.oi.map (·.1) := hn.noi ho
  have suite_ok : ∀ {sts : List Stmt}, (∀ a d oe pn, Zc (.ref C) d oe → (∃ vs, oe.data = .fields vs) → (d = none → fs = []) → HotE (X.suite a ((a, oe) :: pn)) a C d → WB (X.suite a ((a, oe) :: pn)) n.ht c.nox (Γ1.set i (.ex a d fs)) sts (De.at i)) →
      ∀ a, H' a = none → ∀ (oe : Obj) (pn : List (Addr × Obj)), Zc (.ref C) d oe → (∃ vs, oe.data = .fields vs) → tWB (X.suite a ((a, oe) :: pn)) sts { nx := fun σ' H' => E.nx (σ'.set i none) H', rt := E.rt, bk := fun σ' H' => E.bk (σ'.set i none) H', ct := fun σ' H' => E.ct (σ'.set i none) H' } (σ'.set i (some (.ref a))) H' := fun {sts} hy a na oe pn' hz hf => by
    obtain ⟨R2, s2, e2, xf⟩ := (s1.untr s).freezeX xd
    have s3 : SOk X.K c (Γ1.set i (.ex a d fs)) (σ'.set i (some (.ref a))) R2 H' := s2.set i rfl ⟨rfl, xf⟩ hio
    have hfs : d = none → fs = [] := fun hd => by
      rcases xf with h | ⟨dd, vs, h1, _⟩
      · exact h.2
      · rw [hd] at h1; cases h1
    have eR : Ex R R2 := s1.r0.trans e2
    refine (hy a d oe pn' hz hf hfs ⟨oe, List.mem_cons_self, hz, hf⟩).run ⟨hn.eq, hn.nd, hn.vis, hn.loc, hn.dbg, hn.gl, hn.kind, hn.scp, (fun z => by cases z), ⟨hn.room.dp, hn.room.un⟩, PassesOwn.never, hn.lc, hn.oi, hn.cm, takes_no rfl, hn.fr⟩ _ R2 H' s3.xws _ ?_
    refine ⟨fun σ2 R' H2 Γ2 s' e' p => ?_, fun v σ2 R' H2 Γ2 r s' e' ro p => ?_, fun σ2 R' H2 Γ2 s' e' p => ?_, fun σ2 R' H2 Γ2 s' e' p => ?_⟩
    · exact ok.nx _ R' H2 _ (s'.unxws.set i (sl := .no) rfl rfl hio) (eR.trans e') p
    · exact ok.rt v σ2 R' H2 Γ2 r s'.unxws (eR.trans e') ro.unxws p
    · exact ok.bk _ R' H2 _ (s'.unxws.set i (sl := .no) rfl rfl hio) (eR.trans e') p
    · exact ok.ct _ R' H2 _ (s'.unxws.set i (sl := .no) rfl rfl hio) (eR.trans e') p
  refine ⟨b, hb1, fun hbt a na => suite_ok (hy hbt) a na, fun hbf => ?_⟩
  obtain ⟨b2, hb2, hy2, hno2⟩ := hno hbf
  exact ⟨b2, hb2, fun hbt a na => suite_ok (hy2 hbt) a na, fun hbf => ⟨C, fs, Γ1, R1, rfl, xd, s1.untr s, hno2 hbf⟩⟩
/-! ### calls with keywords -/
structure DefAtK (K : PySem.W.Frag) (mg : Str → Option Value) (nm : Str) (st : Stmt) (ps : List Str) (np : Nat) (ks : List Str) where
  a : Addr
  fd : FuncData
  F : Fun K nm nm st a fd
  m : mg nm = some (.ref a)
  bb : ∀ us ws : List Value, us.length = np → ws.length = ks.length → bindArgs fd ⟨us, ks.zip ws⟩ = pure (ps.zip (us ++ ws))
structure CalK (X : Cx) (k : Nat) (nm : Str) (m : Nat) (ks : List Str) (S : SgX) : Prop where
  rm : Room k X.A
  ex : ∃ f fd ps k0, FnOk X.prog X.w X.K X.mg X.base (L2.CX X.prog X.w) k0 f fd ps (spOfX X.K S) ∧ k0 ≤ k ∧ X.mg nm = some (.ref f) ∧ PySem.W.keepIn X.K (.ref f) = true ∧ KBn X.K fd ps m ks (fun us ws => us ++ ws) (fun vs zs => vs ++ zs)
theorem vals_app {vs zs : List V} {us ws : List Value} (h : Vals vs us) (h2 : Vals zs ws) : Vals (vs ++ zs) (us ++ ws) := h.append h2
theorem DefAtK.calK {X : Cx} {nm : Str} {st : Stmt} {ps : List Str} {m : Nat} {ks : List Str} {k k0 : Nat} {S : SgX} (d : DefAtK X.K X.mg nm st ps m ks) (F : FnOk X.prog X.w X.K X.mg X.base (L2.CX X.prog X.w) k0 d.a d.fd ps (spOfX X.K S)) (h : k0 ≤ k) (rm : Room k X.A) : CalK X k nm m ks S :=
  ⟨rm, d.a, d.fd, ps, k0, F, h, d.m, d.F.2, ⟨fun s us ws _ h1 h2 => .of_eq (d.bb us ws h1 h2), vals_app⟩⟩
theorem CalK.tr {X : Cx} {k : Nat} {nm : Str} {m : Nat} {ks : List Str} {S : SgX} {pn : List (Addr × Obj)} {xe : Value → Shared → Prop} (h : CalK X k nm m ks S) : CalK (X.tr pn xe) k nm m ks S := ⟨h.rm, h.ex⟩
/-- keywords whose values are data -/
def EKws (X : Cx) (n : Nm) (c : Cc) (Γ : SL) : List Keyword → List D → Prop
  | [], [] => True
  | kw :: r, x :: xs => EV X n c Γ kw.value x ∧ EKws X n c Γ r xs
  | _, _ => False
def tKw (X : Cx) : List Keyword → TA
  | [] => tNil
  | kw :: r => tCons (tW X kw.value) (tKw X r)
theorem pKw {X : Cx} : ∀ {kws : List Keyword}, PK X kws (tKw X kws)
  | [] => pk_nil
  | ⟨_, _, _⟩ :: _ => pk_cons pW pKw
theorem EKws.run {X : Cx} {n : Nm} {c : Cc} {Γ : SL} (hn : NOk X n c) {σ : L2.St} : ∀ {kws : List Keyword} {xs : List D} {R H : Hp}, EKws X n c Γ kws xs → SOk X.K c Γ σ R H → ∀ Q : List V → Hp → Prop, (∀ zs R' H', SOk X.K c Γ σ R' H' → Ex R R' → AksOk X.K R' σ (xs.map AK.d) zs → Q zs H') → tKw X kws σ H Q
  | [], [], R, H, _, s, Q, q => q [] R H s (Ex.refl _) rfl
  | kw :: r, x :: xs, R, H, ⟨h1, h2⟩, s, Q, q => h1.run hn σ R H s _ fun v R1 H1 y Γ1 s1 e1 r1 ⟨ey, eg⟩ => by
    subst ey eg
    exact EKws.run hn h2 s1 _ fun zs R2 H2 s2 e2 r2 => q (v :: zs) R2 H2 s2 (e1.trans e2) ⟨v, zs, rfl, Rp.mono e2 _ _ r1, r2⟩
theorem kw_names : ∀ {kws : List Keyword} {ks : List Str} {pos : Pos} {env : Env}, kws.map (·.arg) = ks.map some → (backToKw pos (keywordEach kws env)).all (·.1.isSome) = true ∧ (backToKw pos (keywordEach kws env)).filterMap (·.1) = ks ∧ (backToKw pos (keywordEach kws env)).any (·.1.isNone) = false
  | [], [], _, _, _ => ⟨rfl, rfl, rfl⟩
  | ⟨a, e, p⟩ :: r, k :: ks, pos, env, h => by
    simp only [List.map_cons, List.cons.injEq] at h
    obtain ⟨rfl, h⟩ := h
    obtain ⟨h1, h2, h3⟩ := kw_names (pos := pos) (env := env) h
    refine ⟨?_, ?_, ?_⟩
    · show (true && (backToKw pos (keywordEach r env)).all (·.1.isSome)) = true
      rw [h1]; rfl
    · show k :: (backToKw pos (keywordEach r env)).filterMap (·.1) = k :: ks
      rw [h2]
    · show (false || (backToKw pos (keywordEach r env)).any (·.1.isNone)) = false
      rw [h3]; rfl
  | [], _ :: _, _, _, h => by cases h
  | _ :: _, [], _, _, h => by cases h
theorem aks_app {K : PySem.W.Frag} {R : Hp} {σ : L2.St} : ∀ {ks ls : List AK} {vs zs : List V}, AksOk K R σ ks vs → AksOk K R σ ls zs → AksOk K R σ (ks ++ ls) (vs ++ zs)
  | [], _, _, _, h, h2 => by cases (show _ = _ from h); exact h2
  | k :: ks, _, _, _, ⟨v, ws, h1, h2, h3⟩, h4 => by subst h1; exact ⟨v, _, rfl, h2, aks_app h3 h4⟩
theorem pars_app {Γ : SL} : ∀ {ks ls : List AK} {ps qs : List Par}, pars Γ ks = some ps → pars Γ ls = some qs → pars Γ (ks ++ ls) = some (ps ++ qs)
  | [], _, _, _, h, h2 => by cases h; exact h2
  | k :: ks, ls, ps, qs, h, h2 => by
    unfold pars at h
    split at h
    · rename_i x xs e1 e2
      cases h
      have := pars_app e2 h2
      show pars Γ (k :: (ks ++ ls)) = _
      unfold pars
      rw [e1, this]; rfl
    · cases h
theorem pars_d {Γ : SL} : ∀ xs : List D, pars Γ (xs.map AK.d) = some (xs.map Par.d)
  | [] => rfl
  | x :: xs => by
    show pars Γ (AK.d x :: xs.map AK.d) = _
    unfold pars
    rw [pars_d xs]; rfl
theorem ownIx_app : ∀ {ks ls : List AK}, ownIx ks = [] → ownIx ls = [] → ownIx (ks ++ ls) = []
  | [], _, _, h => h
  | k :: ks, ls, h, h2 => by
    cases k with
    | o i => cases h
    | d x => exact ownIx_app (ks := ks) h h2
    | v x => exact ownIx_app (ks := ks) h h2
    | s i => exact ownIx_app (ks := ks) h h2
theorem ownIx_d : ∀ xs : List D, ownIx (xs.map AK.d) = []
  | [] => rfl
  | x :: xs => ownIx_d xs
theorem aks_len {K : PySem.W.Frag} {R : Hp} {σ : L2.St} : ∀ {ks : List AK} {vs : List V}, AksOk K R σ ks vs → vs.length = ks.length
  | [], _, h => by cases (show _ = _ from h); rfl
  | k :: ks, _, ⟨v, ws, h1, h2, h3⟩ => by subst h1; simp [aks_len h3]
section
variable {X : Cx} {n : Nm} {c : Cc} {Γ : SL} {e : Expr} {es : List Expr} {kws : List Keyword} {nm : Str} {m : Nat} {kns : List Str} {S : SgX} {p pos : Pos}
theorem we_callK {Post : D → SL → Prop} {ks : List AK} {ps : List Par} {xs : List D} (hc : CalK X n.k nm m kns S) (j : Nat) (ha : EA X n c Γ (e :: es) ks) (hk : EKws X n c Γ kws xs) (h : S (ps ++ xs.map Par.d) (fun r => ∃ x, r.data = some x ∧ Post x Γ) fun C fs => c.xw C fs Γ)
    (hm : ks.length = m := by rfl) (hx : xs.length = kns.length := by rfl) (hp : pars Γ ks = some ps := by rfl) (ho : ownIx ks = [] := by rfl) (hkn : kws.map (·.arg) = kns.map some := by rfl)
    (hj : n.GN[j]? = some nm := by rfl) (he : starEach (e :: es) X.env = (false, eval e X.env) :: starEach es X.env := by exact se_c rfl) (hpl : (backTo pos (starEach (e :: es) X.env)).any (·.1) = false := by exact se_any rfl) : WE X n c Γ (.Call (.Name nm p) (e :: es) kws pos) Post := .mk fun hn σ R H s Q q => by
  obtain ⟨f, fd, qs, k0, F, hkk, hmg, kp, hb⟩ := hc.ex
  obtain ⟨g1, g2, g3⟩ := hn.gl j nm hj
  obtain ⟨n1, n2, n3⟩ := kw_names (pos := pos) (env := X.env) hkn
  refine (pe_callNS F (hc.rm.mono hkk) g1 hmg kp hb (fun σ => passAt hn.tk σ) pWA pKw n1 n2 g2 he (by rw [hpl, n3]; rfl)).w ?_
  refine ha.run hn σ R H s _ fun vs R1 H1 ks1 Γ1 s1 e1 r1 ⟨ek, eg⟩ => ?_
  subst ek eg
  refine EKws.run hn hk s1 _ fun zs R2 H2 s2 e2 r2 => ⟨(aks_len r1).trans hm, (aks_len r2).trans (by rw [List.length_map]; exact hx), ?_⟩
  have r3 := aks_app (r1.mono e2) r2
  have h1 := pars_app hp (pars_d xs)
  have h2 := ownIx_app ho (ownIx_d xs)
  have hoi := parOi_of (i := 0) h1 h2
  obtain ⟨o1, o2⟩ := noOi (vs := vs ++ zs) hoi
  have aft : ∀ {R' H'}, After X.K [] R2 H2 R' H' → SOk X.K c Γ1 σ R' H' := fun {R' H'} A => by
    have := s2.after (os := []) r3 h1 (by rw [h2]; exact List.nodup_nil) (by rw [o1]; exact A) (by rw [o1]; rfl)
    rw [h2] at this
    exact this
  refine ⟨R2, _, _, _, s2.rh, pars_ok s2 (fun a ha => by rw [o1] at ha; cases ha) r3 h1 (fun i hi a o z1 z2 z3 => by rw [o1] at z3; cases z3), hoi, h, fun v R' H' r A ro ⟨x, hx, px⟩ => ?_, fun C d fs R' H' A xd xp => ⟨C, fs, Γ1, R', rfl, ?_, aft A, xp⟩⟩
  rotate_left
  · rcases xd with h | ⟨dd, ws, h1, h2, h3, h4, h5⟩
    · exact .inl h
    · refine .inr ⟨dd, ws, h1, h2, h3, h4, ?_⟩
      cases z : c.H0 dd with
      | none => rfl
      | some u => exact absurd h5 (s2.pr dd (by rw [z]; simp))
  have sA := aft A
  cases r with
  | d y => cases hx; exact q v R' H' _ Γ1 sA (e1.trans (e2.trans A.r)) ro px
  | own o =>
    have vo : VOk X.K c Γ1 σ R' H' (.own o) v := by
      obtain ⟨a, q1, q2, q3, q4⟩ := ro
      refine ⟨a, q1, q2, q3, ?_, fun i o' z z2 => ?_⟩
      · cases z : c.H0 a with
        | none => rfl
        | some u => exact absurd q4 (s2.pr a (by rw [z]; simp))
      · obtain ⟨w, w1, wx⟩ := s2.sl i _ (show Γ1[i]? = some (.own o') from z)
        obtain ⟨a', w2, w3, w4⟩ : ∃ a, w = some (.ref a) ∧ OBOk X.K R2 H2 a o' ∧ R2 a = none ∧ (c.H0 a = none ∨ c.M a) := wx
        rw [z2] at w1
        cases w1
        cases w2
        exact absurd q4 w3.there
    obtain ⟨R3, s3, e3, r3⟩ := sA.freezeR vo hx
    exact q v R3 H' x Γ1 s3 (e1.trans (e2.trans (A.r.trans e3))) r3 px
end
open NdefX He PyProof.Rows in
noncomputable def defXK {K : PySem.W.Frag} {h : Heap} {mg : Str → Option Value} (X : K.In h) (G : h.Ns mainGlobals mg) {nm : Str} {st : Stmt} {ps : List Str} {np : Nat} {ks : List Str} (F : ∃ fd, Fun K nm nm st (ga K nm) fd) (g : (Fx.fa (.glo nm)).ok K = true)
    (hb : ∀ (kV doc pm : Value) (an : Option Addr) (cdv ct : Value) (us ws : List Value), us.length = np → ws.length = ks.length → bindArgs (PySem.W.fnOf nm nm (defArgs st) (defBody st) (defScope st) .none kV doc pm an cdv ct) ⟨us, ks.zip ws⟩ = pure (ps.zip (us ++ ws))) : DefAtK K mg nm st ps np ks :=
  ⟨ga K nm, Classical.choose F, Classical.choose_spec F, glo_ok X G g, fun us ws h1 h2 => by
    obtain ⟨oc, od, kV, doc, pm, an, cdv, ct, osl, e, _⟩ := (Classical.choose_spec F).ex
    rw [e]; exact hb kV doc pm an cdv ct us ws h1 h2⟩
end DL

end
section
set_option Elab.async false
set_option linter.all false
set_option autoImplicit true
set_option maxRecDepth 10000
set_option maxHeartbeats 400000
namespace DL
open PySem L2
/-! ### a steered display's bound, lap by lap -/
def PStep6 (q : Rat) : Prop := PStep q ∧ fr 1 6 ≤ q
def SlewP (s d : Rat) : Prop := 0 < s ∧ s < 1 ∧ 0 ≤ d ∧ d < s ∧ fr 1 160 ≤ s - d ∧ Sz 6 s ∧ Sz 12 d
def GoodB (b h l : Rat) : Prop := ¬ b < 0 ∧ ¬ h < 0 ∧ 0 < l
def BadB (b h l e : Rat) : Prop := (b < 0 ∧ e = b) ∨ (¬ b < 0 ∧ h < 0 ∧ e = h) ∨ (¬ b < 0 ∧ ¬ h < 0 ∧ ¬ 0 < l ∧ e = l)
def GoodS (s d : Rat) : Prop := 0 < s ∧ s < 1 ∧ ¬ d < 0 ∧ d < s
def BadS (s d e : Rat) : Prop := ((¬ 0 < s ∨ ¬ s < 1) ∧ e = s) ∨ (0 < s ∧ s < 1 ∧ (d < 0 ∨ ¬ d < s) ∧ e = d)
structure LA where
  b : Rat
  h : Rat
  l : Rat
  s : Rat
  d : Rat
  g : Rat
def LA.D (a : LA) : DL.D := .lst [qD a.b, qD a.h, qD a.l, qD a.s, qD a.d, qD a.g]
def LA.ah (a : LA) : Rat := a.h + a.d * a.l
def LA.gain (a : LA) : Rat := (a.s - a.d) * a.l
def LA.sz (a : LA) : Prop := Sz 600 a.b ∧ Sz 60 a.h ∧ Sz 60 a.l ∧ Sz 60 a.s ∧ Sz 60 a.d ∧ Sz 250 a.g
def LA.good (a : LA) : Prop := GoodB a.b a.h a.l ∧ GoodS a.s a.d
def aftQ (a : LA) (n : Nat) : Rat := if n = 0 then a.b else if a.b + (n : Rat) * ((a.d - a.s) * a.l) < a.ah then a.ah else a.b + (n : Rat) * ((a.d - a.s) * a.l)
def behQ (b h l s d : Rat) : Rat := d * l + maxQ (b - s * l) h
def flQ (q : Rat) : Int := q.num.fdiv (q.den : Int)
def oI : Option Int → D
  | none => .non
  | some i => .int i
def lapsQ (a : LA) : Option Int := if a.b ≤ a.g then some 0 else if a.g < a.ah then none else some (-(flQ (-((a.b - a.g) / a.gain))))
theorem fl_le (q : Rat) : ((flQ q : Int) : Rat) ≤ q ∧ q < ((flQ q : Int) : Rat) + 1 := by
  have hd := den_pos' q
  have h : flQ q = q.num / (q.den : Int) := fdiv_ediv (by have := q.den_nz; omega)
  have h1 := Int.ediv_mul_le q.num (show (q.den : Int) ≠ 0 by omega)
  have h2 := Int.lt_ediv_add_one_mul_self q.num hd
  rw [← h] at h1 h2
  have le : ∀ m : Int, (m : Rat) ≤ q ↔ m * (q.den : Int) ≤ q.num := fun m => by
    rw [Rat.le_iff, Rat.num_intCast, Rat.den_intCast]; simp
  refine ⟨(le _).mpr h1, ?_⟩
  by_cases z : q < ((flQ q : Int) : Rat) + 1
  · exact z
  · have : (((flQ q + 1 : Int)) : Rat) ≤ q := by
      rw [Rat.intCast_add]
      have e : ((1 : Int) : Rat) = 1 := rfl
      rw [e]; grind
    have := (le _).mp this
    omega
theorem LA.gain_pos {a : LA} (h : a.good) : 0 < a.gain := Rat.mul_pos (by have := h.2.2.2.2; grind) h.1.2.2
theorem LA.ah_nn {a : LA} (h : a.good) : 0 ≤ a.ah := by
  have h1 := Rat.mul_nonneg (show 0 ≤ a.d by have := h.2.2.2.1; grind) (show 0 ≤ a.l by have := h.1.2.2; grind)
  have := h.1.2.1
  unfold LA.ah; grind
theorem LA.ah_sz {a : LA} (h : a.sz) : Sz 181 a.ah := by unfold LA.ah; exact (h.2.1.add (h.2.2.2.2.1.mul h.2.2.1)).mono (by decide)
theorem LA.gain_sz {a : LA} (h : a.sz) : Sz 181 a.gain := by unfold LA.gain; exact ((h.2.2.2.1.sub h.2.2.2.2.1).mul h.2.2.1).mono (by decide)
theorem fall_eq (a : LA) (n : Rat) : a.b + n * ((a.d - a.s) * a.l) = a.b - n * a.gain := by unfold LA.gain; grind
/-- what laps_until says, if it says a number -/
theorem laps_some {a : LA} {n : Int} (hg : a.good) (h : lapsQ a = some n) : 0 ≤ n ∧ (n = 0 → a.b ≤ a.g) ∧ (0 < n → a.g < a.b ∧ ¬ a.g < a.ah ∧ a.b - (n : Rat) * a.gain ≤ a.g ∧ a.g < a.b - ((n : Rat) - 1) * a.gain) := by
  have gp := (LA.gain_pos hg)
  unfold lapsQ at h
  split at h
  · cases h
    rename_i h1
    exact ⟨by decide, fun _ => h1, fun z => absurd z (by decide)⟩
  · split at h
    · cases h
    · rename_i h1 h2
      cases h
      obtain ⟨f1, f2⟩ := fl_le (-((a.b - a.g) / a.gain))
      generalize flQ (-((a.b - a.g) / a.gain)) = f at f1 f2
      have e := dvm (d := a.b - a.g) gp
      generalize (a.b - a.g) / a.gain = w at e f1 f2
      have cast : ((-f : Int) : Rat) = -(f : Rat) := Rat.intCast_neg f
      have wp : 0 < w := by
        by_cases z : 0 < w
        · exact z
        · have := Rat.mul_nonneg (show 0 ≤ -w by grind) (Rat.le_of_lt gp)
          grind
      have fn : f < 0 := by
        by_cases z : f < 0
        · exact z
        · have : ((0 : Int) : Rat) ≤ (f : Rat) := Rat.intCast_le_intCast.mpr (by omega)
          have e0 : ((0 : Int) : Rat) = 0 := rfl
          rw [e0] at this
          grind
      refine ⟨by omega, fun z => by omega, fun _ => ⟨by grind, h2, ?_, ?_⟩⟩
      · rw [cast]
        have := Rat.mul_nonneg (show 0 ≤ -(f : Rat) - w by grind) (Rat.le_of_lt gp)
        grind
      · rw [cast]
        have := Rat.mul_pos (show 0 < w - (-(f : Rat) - 1) by grind) gp
        grind
theorem laps_none {a : LA} (h : lapsQ a = none) : a.g < a.b ∧ a.g < a.ah := by
  unfold lapsQ at h
  split at h
  · cases h
  · split at h
    · grind
    · cases h
theorem laps_le {a : LA} {n : Int} (hg : a.good) (h : lapsQ a = some n) (hb : a.b - a.g ≤ 1000 * a.gain ∨ a.g < a.ah) : n ≤ 1000 := by
  obtain ⟨h1, h2, h3⟩ := laps_some hg h
  by_cases z : 0 < n
  · obtain ⟨q1, q2, q3, q4⟩ := h3 z
    have gp := (LA.gain_pos hg)
    rcases hb with hb | hb
    · by_cases y : n ≤ 1000
      · exact y
      · have : ((1001 : Int) : Rat) ≤ (n : Rat) := Rat.intCast_le_intCast.mpr (by omega)
        have e0 : ((1001 : Int) : Rat) = 1001 := rfl
        rw [e0] at this
        have := Rat.mul_nonneg (show 0 ≤ (n : Rat) - 1001 by grind) (Rat.le_of_lt gp)
        grind
    · exact absurd hb q2
  · omega
theorem maxif (x y : Rat) : (if x < y then y else x) = maxQ x y := by unfold maxQ; rfl
theorem aft_ge {a : LA} {n : Nat} (hn : n ≠ 0) : aftQ a n = maxQ (a.b - (n : Rat) * a.gain) a.ah := by
  unfold aftQ
  rw [if_neg hn, fall_eq, maxif]
theorem natI (n : Nat) : (((n : Nat) : Int) : Rat) = (n : Rat) := Rat.intCast_natCast n
theorem beh_aft (a : LA) : behQ a.b a.h a.l a.s a.d = aftQ a 1 := by
  rw [aft_ge (by decide)]
  unfold behQ maxQ LA.ah LA.gain
  have e : ((1 : Nat) : Rat) = 1 := rfl
  rw [e]
  split <;> split <;> grind
/-- from a bound b0 on, lap by lap -/
theorem beh_step (a : LA) (hg : a.good) (k : Nat) : behQ (aftQ a k) a.h a.l a.s a.d = aftQ a (k + 1) := by
  cases k with
  | zero =>
    have : aftQ a 0 = a.b := if_pos rfl
    rw [this]; exact beh_aft a
  | succ k =>
    rw [aft_ge (by omega), aft_ge (by omega)]
    have gp := (LA.gain_pos hg)
    have e : (((k + 1 + 1 : Nat)) : Rat) = ((k + 1 : Nat) : Rat) + 1 := by
      rw [← natI, ← natI, Int.natCast_add (k + 1) 1, Rat.intCast_add]; rfl
    rw [e]
    generalize ((k + 1 : Nat) : Rat) = x
    have gp : 0 < (a.s - a.d) * a.l := gp
    unfold behQ maxQ LA.ah LA.gain
    split <;> split <;> split <;> grind
theorem aft_nn {a : LA} (hg : a.good) (n : Nat) : ¬ aftQ a n < 0 := by
  by_cases z : n = 0
  · subst z
    have : aftQ a 0 = a.b := if_pos rfl
    rw [this]; exact hg.1.1
  · rw [aft_ge z]
    have := (LA.ah_nn hg)
    unfold maxQ; split <;> grind
theorem aft_sz {a : LA} (h : Sz 600 a.b ∧ Sz 60 a.h ∧ Sz 60 a.l ∧ Sz 60 a.s ∧ Sz 60 a.d) {n : Nat} (hn : n ≤ 1000) (k : Nat) (hk : Sz k a.b) (h2 : 130 ≤ k) : Sz (k + 200) (aftQ a n) := by
  obtain ⟨h1, hh, hl, hs, hd⟩ := h
  have zn : Sz 10 (n : Rat) := by
    rw [← natI, ← fr_one]
    exact fr_sz ((show Bt 10 ((n : Nat) : Int) from bt_of (by omega) (by omega)).mono (by decide)) (bt_of (by decide) (by decide)) (by decide)
  have z1 : Sz (k + 200) (a.b + (n : Rat) * ((a.d - a.s) * a.l)) := (hk.add (zn.mul ((hd.sub hs).mul hl))).mono (by omega)
  have z2 : Sz (k + 200) a.ah := (hh.add (hd.mul hl)).mono (by omega)
  unfold aftQ
  split
  · exact hk.mono (by omega)
  · split
    · exact z2
    · exact z1
theorem int_of_nonneg {n : Int} (h : 0 ≤ n) : ∃ m : Nat, n = (m : Int) := ⟨n.toNat, by omega⟩
/-- after told laps the goal is kept -/
theorem aft_goal {a : LA} (hg : a.good) {m : Nat} (h : lapsQ a = some (m : Int)) : ¬ a.g < aftQ a m := by
  obtain ⟨h1, h2, h3⟩ := laps_some hg h
  by_cases z : m = 0
  · subst z
    have : aftQ a 0 = a.b := if_pos rfl
    have := h2 rfl
    grind
  · obtain ⟨q1, q2, q3, q4⟩ := h3 (by omega)
    rw [natI] at q3
    rw [aft_ge z]
    unfold maxQ; split <;> grind
theorem aft_before {a : LA} (hg : a.good) {m : Nat} (h : lapsQ a = some (m : Int)) (h2 : 2 ≤ m) : a.g < aftQ a (m - 1) := by
  obtain ⟨q1, q2, q3, q4⟩ := (laps_some hg h).2.2 (by omega)
  rw [natI] at q4
  rw [aft_ge (by omega)]
  have e : ((m - 1 : Nat) : Rat) = (m : Rat) - 1 := by
    rw [← natI, ← natI, Int.natCast_sub (by omega), Rat.intCast_sub]; rfl
  rw [e]
  unfold maxQ; split <;> grind
theorem aft_stays {a : LA} (hg : a.good) {m : Nat} (h : lapsQ a = some (m : Int)) (ha : ¬ a.g < a.ah) (k : Nat) : ¬ a.g < aftQ { a with b := aftQ a m } (k + 1) := by
  have h1 := aft_goal hg h
  have gp := (LA.gain_pos hg)
  rw [aft_ge (by omega)]
  show ¬ a.g < maxQ (aftQ a m - ((k + 1 : Nat) : Rat) * a.gain) a.ah
  have kp : (0 : Rat) ≤ ((k + 1 : Nat) : Rat) := by
    rw [← natI]
    exact Rat.intCast_le_intCast.mpr (show (0 : Int) ≤ ((k + 1 : Nat) : Int) by omega)
  have := Rat.mul_nonneg kp (Rat.le_of_lt gp)
  unfold maxQ; split <;> grind
theorem cmp_ge {a b : Rat} : decide (cmpQ a b ≥ 0) = decide (b ≤ a) := by
  unfold cmpQ
  by_cases h : a < b
  · rw [if_pos h]; simp; grind
  · rw [if_neg h]
    by_cases h2 : b < a
    · rw [if_pos h2]; simp; grind
    · rw [if_neg h2]; simp; grind
theorem castle {a b : Int} (h : a ≤ b) : (a : Rat) ≤ (b : Rat) := Rat.intCast_le_intCast.mpr h
theorem castpos {a : Int} (h : 0 < a) : (0 : Rat) < (a : Rat) := by
  have := castle (show 1 ≤ a by omega)
  have e : ((1 : Int) : Rat) = 1 := rfl
  rw [e] at this; grind
theorem fr_le6 {n d : Int} (hd : 0 < d) (h : d ≤ 6 * n) : fr 1 6 ≤ fr n d := by
  rw [fr_div (n := n)]
  refine le_dv (castpos hd) ?_
  have h1 := castle h
  rw [Rat.intCast_mul] at h1
  have e6 : ((6 : Int) : Rat) = 6 := rfl
  have e : fr 1 6 = 1 / 6 := by decide +kernel
  rw [e6] at h1
  rw [e]
  generalize (n : Rat) = x at h1 ⊢
  generalize (d : Rat) = y at h1 ⊢
  grind
theorem fr_ge20 {n d : Int} (hd : 0 < d) (hn : 1 ≤ n) (h : d ≤ 20) : fr 1 20 ≤ fr n d := by
  rw [fr_div (n := n)]
  refine le_dv (castpos hd) ?_
  have h1 := castle h
  have h2 := castle hn
  have e1 : ((1 : Int) : Rat) = 1 := rfl
  have e2 : ((20 : Int) : Rat) = 20 := rfl
  rw [e1] at h2
  rw [e2] at h1
  have e : fr 1 20 = 1 / 20 := by decide +kernel
  rw [e]
  generalize (n : Rat) = x at h2 ⊢
  generalize (d : Rat) = y at h1 ⊢
  grind
theorem fr_lt1 {n d : Int} (hd : 0 < d) (h : n < d) : fr n d < 1 := by
  rw [fr_div]
  refine (Rat.div_lt_iff (castpos hd)).mpr ?_
  have := castle (show n + 1 ≤ d by omega)
  rw [Rat.intCast_add] at this
  have e1 : ((1 : Int) : Rat) = 1 := rfl
  rw [e1] at this; grind
theorem fr8 {j : Nat} (h : j < 8) : 0 ≤ fr (j : Int) 8 ∧ fr (j : Int) 8 ≤ fr 7 8 := by
  have : j = 0 ∨ j = 1 ∨ j = 2 ∨ j = 3 ∨ j = 4 ∨ j = 5 ∨ j = 6 ∨ j = 7 := by omega
  rcases this with rfl | rfl | rfl | rfl | rfl | rfl | rfl | rfl <;> exact ⟨by decide +kernel, by decide +kernel⟩
theorem SlewP.good {s d : Rat} (h : SlewP s d) : GoodS s d := ⟨h.1, h.2.1, by have := h.2.2.1; grind, h.2.2.2.1⟩
def ST_slews : Sg := fun ps Post => ps = [.own .sto] ∧ ∀ s d, SlewP s d → Post (.d (.tup [qD s, qD d])) [.sto]
def GoodC (a : LA) : Prop := a.good ∧ a.sz ∧ Sz 200 a.b ∧ fr 1 960 ≤ a.gain ∧ (a.b - a.g ≤ 1000 * a.gain ∨ a.g < a.ah)
def ST_case : Sg := fun ps Post => ps = [.own .sto] ∧ ∀ a : LA, GoodC a → Post (.own (.lst [qD a.b, qD a.h, qD a.l, qD a.s, qD a.d, qD a.g])) [.sto]
def ST_reqlap (CB : Addr) : SgX := fun ps Post Xp => ∃ b h l : Rat, ps = [.d (qD b), .d (qD h), .d (qD l)] ∧ Sz 2000 b ∧ Sz 60 h ∧ Sz 60 l ∧ (GoodB b h l → Post (.d .non)) ∧ ∀ e, BadB b h l e → Xp CB [("value", qD e)]
def ST_reqslew (CR : Addr) : SgX := fun ps Post Xp => ∃ s d : Rat, ps = [.d (qD s), .d (qD d)] ∧ Sz 60 s ∧ Sz 60 d ∧ (GoodS s d → Post (.d .non)) ∧ ∀ e, BadS s d e → Xp CR [("value", qD e)]
def ST_floor : Sg := fun ps Post => ∃ (q : Rat) (k : Nat), ps = [.d (qD q)] ∧ Sz k q ∧ k ≤ 8000 ∧ Post (.d (.int (flQ q))) []
def XLaps (CB CR : Addr) (a : LA) (Xp : Addr → List (Str × D) → Prop) : Prop := (∀ e, BadB a.b a.h a.l e → Xp CB [("value", qD e)]) ∧ ∀ e, GoodB a.b a.h a.l → BadS a.s a.d e → Xp CR [("value", qD e)]
def ST_lapsu (CB CR : Addr) : SgX := fun ps Post Xp => ∃ a : LA, ps = [.d (qD a.b), .d (qD a.h), .d (qD a.g), .d (qD a.l), .d (qD a.s), .d (qD a.d)] ∧ a.sz ∧ (a.good → Post (.d (oI (lapsQ a)))) ∧ XLaps CB CR a Xp
def ST_laps (CB CR : Addr) : SgX := fun ps Post Xp => ∃ a : LA, ps = [.w a.D] ∧ a.sz ∧ (a.good → Post (.d (oI (lapsQ a)))) ∧ XLaps CB CR a Xp
def ST_after : Sg := fun ps Post => ∃ (a : LA) (n : Nat), ps = [.w a.D, .d (.int (n : Int))] ∧ a.sz ∧ n ≤ 1000 ∧ Post (.d (qD (aftQ a n))) []
def ST_lapsok : Sg := fun ps Post => ∃ a : LA, ps = [.w a.D, .d (oI (lapsQ a))] ∧ a.good ∧ a.sz ∧ (a.b - a.g ≤ 1000 * a.gain ∨ a.g < a.ah) ∧ Post (.d (.bl true)) []
def ST_behind : Sg := fun ps Post => ∃ b h l s d : Rat, ps = [.d (qD b), .d (qD h), .d (qD l), .d (qD s), .d (qD d)] ∧ Sz 2000 b ∧ Sz 60 h ∧ Sz 60 l ∧ Sz 60 s ∧ Sz 60 d ∧ Post (.d (qD (behQ b h l s d))) []
def ST_bafter (CB CR : Addr) : SgX := fun ps Post Xp => ∃ b h l s d : Rat, ps = [.d (qD b), .d (qD h), .d (qD l), .d (qD s), .d (qD d)] ∧ Sz 2000 b ∧ Sz 60 h ∧ Sz 60 l ∧ Sz 60 s ∧ Sz 60 d ∧ (GoodB b h l → GoodS s d → Post (.d (qD (behQ b h l s d)))) ∧ (∀ e, BadB b h l e → Xp CB [("value", qD e)]) ∧ ∀ e, GoodB b h l → BadS s d e → Xp CR [("value", qD e)]
def ST_nextb : Sg := fun ps Post => ∃ (a : LA) (b : Rat), ps = [.w a.D, .d (qD b)] ∧ a.good ∧ a.sz ∧ ¬ b < 0 ∧ Sz 2000 b ∧ Post (.d (qD (behQ b a.h a.l a.s a.d))) []
def ST_stays : Sg := fun ps Post => ∃ (a : LA) (m : Nat), ps = [.w a.D, .d (.int (m : Int))] ∧ a.good ∧ a.sz ∧ Sz 200 a.b ∧ lapsQ a = some (m : Int) ∧ m ≤ 1000 ∧ Post (.d (.bl true)) []
def PBadSlew (q : Rat) : Prop := (¬ 0 < q ∨ ¬ q < 1) ∧ Sz 20 q
def ST_baddrift : Sg := fun ps Post => ∃ s : Rat, ps = [.own .sto, .d (qD s)] ∧ 0 < s ∧ s < 1 ∧ Sz 6 s ∧ ∀ d, (d < 0 ∨ ¬ d < s) → Sz 20 d → Post (.d (qD d)) [.sto]
def BadL (b h l s d : Rat) (nm : Str) (e : Rat) : Prop := Sz 60 b ∧ Sz 60 h ∧ Sz 60 l ∧ Sz 60 s ∧ Sz 60 d ∧ ((nm = "BadBound" ∧ BadB b h l e) ∨ (nm = "BadRate" ∧ GoodB b h l ∧ BadS s d e))
def ST_badlap : Sg := fun ps Post => ps = [.own .sto] ∧ ∀ b h l s d nm e, BadL b h l s d nm e → Post (.d (.tup [qD b, qD h, qD l, qD s, qD d, .tup [.str nm, qD e]])) [.sto]
def ST_refused : Sg := fun ps Post => ∃ (a : LA) (nm : Str) (e : Rat), ps = [.w a.D] ∧ BadL a.b a.h a.l a.s a.d nm e ∧ Sz 60 a.g ∧ Post (.own (.lst [.str nm, qD e])) []
theorem ep0 {X : Cx} {n : Nm} {c : Cc} {Γ : SL} : EP1 X n c Γ none none := trivial
theorem ep1 {X : Cx} {n : Nm} {c : Cc} {Γ : SL} {e : Expr} {i : Int} (h : EV X n c Γ e (.int i)) : EP1 X n c Γ (some e) (some i) := h
section
variable {X : Cx} {n : Nm} {c : Cc} {Γ : SL} {a b d f h : Expr} {k l m q r : AK} {ps : List Par} {S : Sg} {nm : Str} {p pos : Pos} {z : DL.D}
theorem ev_call5 (hc : CalF X n.k nm S) (j : Nat) (ha : EK X n c Γ a k) (hb : EK X n c Γ b l) (hd : EK X n c Γ d m) (hf : EK X n c Γ f q) (hh : EK X n c Γ h r) (hS : ∀ Post : Res → List OB → Prop, Post (.d z) [] → S ps Post) (hp : pars Γ [k, l, m, q, r] = some ps := by rfl) (ho : ownIx [k, l, m, q, r] = [] := by rfl) (hj : n.GN[j]? = some nm := by rfl)
    (he : starEach [a, b, d, f, h] X.env = (false, eval a X.env) :: starEach [b, d, f, h] X.env := by exact se_c rfl) (he2 : starEach [b, d, f, h] X.env = (false, eval b X.env) :: starEach [d, f, h] X.env := by exact se_c rfl) (he3 : starEach [d, f, h] X.env = (false, eval d X.env) :: starEach [f, h] X.env := by exact se_c rfl) (he4 : starEach [f, h] X.env = (false, eval f X.env) :: starEach [h] X.env := by exact se_c rfl) (he5 : starEach [h] X.env = (false, eval h X.env) :: starEach [] X.env := by exact se_c rfl) (hpl : (backTo pos (starEach [b, d, f, h] X.env)).any (·.1) = false := by exact se_any rfl) : EV X n c Γ (.Call (.Name nm p) [a, b, d, f, h] [] pos) z :=
  we_call hc j (wa_of (ea_cons ha (ea_cons hb (ea_cons hd (ea_cons hf (ea_cons hh ea_nil he5) he4) he3) he2) he) ⟨ps, hp, by rw [ho]; exact List.nodup_nil, by rw [ho]; simp, hS _ ⟨z, rfl, rfl, by rw [ho]; rfl⟩⟩) hj he hpl
end
theorem nat_bit {m i : Nat} : ((m : Int).fdiv ((2 ^ i : Nat) : Int)).fmod 2 = ((m / 2 ^ i % 2 : Nat) : Int) := by
  generalize 2 ^ i = k
  rw [Int.fdiv_eq_ediv_of_nonneg _ (Int.natCast_nonneg k), Int.fmod_eq_emod_of_nonneg _ (by decide)]
  rfl
theorem list5 {α : Type} {us : List α} (h : us.length = 5) : ∃ a b c d e, us = [a, b, c, d, e] := by
  match us, h with
  | [a, b, c, d, e], _ => exact ⟨a, b, c, d, e, rfl⟩
def kindOf (i : Nat) : Str := if i < 3 then "BadBound" else "BadRate"
/-- the first wrong argument -/
structure LapInv (m : Nat) (os ws as : List Rat) (due : D) (i : Nat) : Prop where
  len : as.length = 5
  rest : ∀ j, i ≤ j → as[j]? = os[j]?
  due : (due = .tup [] ∧ as = os ∧ ∀ j, j < i → m / 2 ^ j % 2 = 0) ∨ ∃ k w, k < i ∧ k < 5 ∧ ws[k]? = some w ∧ as[k]? = some w ∧ due = .tup [.str (kindOf k), qD w] ∧ ∀ j, j < k → as[j]? = os[j]?
  sz : ∀ q ∈ as, Sz 20 q
theorem LapInv.skip {m : Nat} {os ws as : List Rat} {due : D} {i : Nat} (h : LapInv m os ws as due i) (hb : m / 2 ^ i % 2 = 0) : LapInv m os ws as due (i + 1) := by
  refine ⟨h.len, fun j hj => h.rest j (by omega), ?_, h.sz⟩
  rcases h.due with ⟨h1, h2, h3⟩ | ⟨k, w, h1, h2, h3⟩
  · refine .inl ⟨h1, h2, fun j hj => ?_⟩
    by_cases e : j = i
    · rw [e]; exact hb
    · exact h3 j (by omega)
  · exact .inr ⟨k, w, by omega, h2, h3⟩
theorem LapInv.first {m : Nat} {os ws as : List Rat} {i : Nat} {w : Rat} (h : LapInv m os ws as (.tup []) i) (hi : i < 5) (hw : ws[i]? = some w) (zw : Sz 20 w) : LapInv m os ws (as.set i w) (.tup [.str (kindOf i), qD w]) (i + 1) := by
  have hos : as = os := by
    rcases h.due with ⟨_, h2, _⟩ | ⟨k, w, _, _, _, _, z, _⟩
    · exact h2
    · cases z
  refine ⟨by rw [List.length_set]; exact h.len, fun j hj => ?_, .inr ⟨i, w, by omega, hi, hw, ?_, rfl, fun j hj => ?_⟩, fun q hq => ?_⟩
  · rw [List.getElem?_set_ne (by omega)]; exact h.rest j (by omega)
  · rw [List.getElem?_set_self (by rw [h.len]; exact hi)]
  · rw [List.getElem?_set_ne (by omega), hos]
  · rcases List.mem_or_eq_of_mem_set hq with z | rfl
    · exact h.sz q z
    · exact zw
theorem LapInv.later {m : Nat} {os ws as : List Rat} {due : D} {i : Nat} {w : Rat} (h : LapInv m os ws as due i) (hd : due ≠ .tup []) (zw : Sz 20 w) : LapInv m os ws (as.set i w) due (i + 1) := by
  refine ⟨by rw [List.length_set]; exact h.len, fun j hj => ?_, ?_, fun q hq => ?_⟩
  · rw [List.getElem?_set_ne (by omega)]; exact h.rest j (by omega)
  · rcases h.due with ⟨z, _, _⟩ | ⟨k, v, h1, h2, h3, h4, h5, h6⟩
    · exact absurd z hd
    · refine .inr ⟨k, v, by omega, h2, h3, ?_, h5, fun j hj => ?_⟩
      · rw [List.getElem?_set_ne (by omega)]; exact h4
      · rw [List.getElem?_set_ne (by omega)]; exact h6 j hj
  · rcases List.mem_or_eq_of_mem_set hq with z | rfl
    · exact h.sz q z
    · exact zw
/-- what is told of it -/
theorem LapInv.end {m : Nat} {b h l s d b' h' l' s' d' : Rat} {as : List Rat} {due : D} (I : LapInv m [b, h, l, s, d] [b', h', l', s', d'] as due 5) (m1 : 1 ≤ m) (m2 : m ≤ 31) (gb : GoodB b h l) (gs : GoodS s d) (hb : b' < 0) (hh : h' < 0) (hl : ¬ 0 < l') (hs : ¬ 0 < s' ∨ ¬ s' < 1) (hd : d' < 0 ∨ ¬ d' < s) :
    ∃ a0 a1 a2 a3 a4 nm e, as = [a0, a1, a2, a3, a4] ∧ due = .tup [.str nm, qD e] ∧ BadL a0 a1 a2 a3 a4 nm e := by
  obtain ⟨a0, a1, a2, a3, a4, rfl⟩ := list5 I.len
  have z : ∀ q ∈ [a0, a1, a2, a3, a4], Sz 60 q := fun q hq => (I.sz q hq).mono (by decide)
  have z0 := z a0 (by simp)
  have z1 := z a1 (by simp)
  have z2 := z a2 (by simp)
  have z3 := z a3 (by simp)
  have z4 := z a4 (by simp)
  rcases I.due with ⟨_, _, h3⟩ | ⟨k, w, h1, h2, h3, h4, h5, h6⟩
  · exfalso
    have e0 := h3 0 (by omega)
    have e1 := h3 1 (by omega)
    have e2 := h3 2 (by omega)
    have e3 := h3 3 (by omega)
    have e4 := h3 4 (by omega)
    simp at e0 e1 e2 e3 e4
    omega
  · refine ⟨a0, a1, a2, a3, a4, kindOf k, w, rfl, h5, z0, z1, z2, z3, z4, ?_⟩
    have hk : k = 0 ∨ k = 1 ∨ k = 2 ∨ k = 3 ∨ k = 4 := by omega
    obtain ⟨g1, g2, g3⟩ := gb
    obtain ⟨t1, t2, t3, t4⟩ := gs
    rcases hk with rfl | rfl | rfl | rfl | rfl
    · cases h3; cases h4
      exact .inl ⟨rfl, .inl ⟨hb, rfl⟩⟩
    · have f0 := h6 0 (by omega)
      cases h3; cases h4; cases f0
      exact .inl ⟨rfl, .inr (.inl ⟨g1, hh, rfl⟩)⟩
    · have f0 := h6 0 (by omega)
      have f1 := h6 1 (by omega)
      cases h3; cases h4; cases f0; cases f1
      exact .inl ⟨rfl, .inr (.inr ⟨g1, g2, hl, rfl⟩)⟩
    · have f0 := h6 0 (by omega)
      have f1 := h6 1 (by omega)
      have f2 := h6 2 (by omega)
      cases h3; cases h4; cases f0; cases f1; cases f2
      exact .inr ⟨rfl, ⟨g1, g2, g3⟩, .inl ⟨hs, rfl⟩⟩
    · have f0 := h6 0 (by omega)
      have f1 := h6 1 (by omega)
      have f2 := h6 2 (by omega)
      have f3 := h6 3 (by omega)
      cases h3; cases h4; cases f0; cases f1; cases f2; cases f3
      exact .inr ⟨rfl, ⟨g1, g2, g3⟩, .inr ⟨t1, t2, hd, rfl⟩⟩
theorem pw_at {i : Nat} (h : i < 5) : ([.int 1, .int 2, .int 4, .int 8, .int 16] : List D)[i]? = some (.int ((2 ^ i : Nat) : Int)) := by
  have : i = 0 ∨ i = 1 ∨ i = 2 ∨ i = 3 ∨ i = 4 := by omega
  rcases this with rfl | rfl | rfl | rfl | rfl <;> rfl
theorem gain960 {l s d : Rat} (sp : SlewP s d) (hl : PStep6 l) : fr 1 960 ≤ (s - d) * l := by
  have e1 : fr 1 960 = 1 / 960 := by decide +kernel
  have e2 : fr 1 160 = 1 / 160 := by decide +kernel
  have e3 : fr 1 6 = 1 / 6 := by decide +kernel
  have h1 := sp.2.2.2.2.1
  have h2 := hl.2
  rw [e2] at h1
  rw [e3] at h2
  rw [e1]
  generalize s - d = x at h1 ⊢
  have := Rat.mul_nonneg (show 0 ≤ x - 1 / 160 by grind) (show 0 ≤ l by grind)
  grind
/-- the drawn case -/
theorem case_good {b h l s d g : Rat} (sp : SlewP s d) (hh : ¬ h < 0) (hl : PStep6 l) (zb : Sz 200 b) (zh : Sz 60 h) (zg : Sz 60 g) (hb : ¬ b < 0) (hd : b - g ≤ 1000 * ((s - d) * l) ∨ b = 0) : GoodC ⟨b, h, l, s, d, g⟩ := by
  have l0 : 0 < l := hl.1.2
  have good : LA.good ⟨b, h, l, s, d, g⟩ := ⟨⟨hb, hh, l0⟩, sp.good⟩
  have gp := LA.gain_pos good
  refine ⟨good, ⟨zb.mono (by decide), zh, (szStep hl.1).mono (by decide), sp.2.2.2.2.2.1.mono (by decide), sp.2.2.2.2.2.2.mono (by decide), zg.mono (by decide)⟩, zb, gain960 sp hl, ?_⟩
  rcases hd with hd | hd
  · exact .inl hd
  · by_cases z : g < 0
    · exact .inr (by have := LA.ah_nn good; show g < LA.ah ⟨b, h, l, s, d, g⟩; grind)
    · exact .inl (by
        show b - g ≤ 1000 * LA.gain ⟨b, h, l, s, d, g⟩
        grind)
theorem pl_lsq (x : Str) (q : Rat) : (DL.D.lst [.str x, qD q]).pl 5 := ⟨Nat.le_of_ble_eq_true rfl, fun d hd => by
  simp only [List.mem_cons, List.not_mem_nil, or_false] at hd
  rcases hd with rfl | rfl
  · trivial
  · exact pl_q 3 q⟩
theorem pl_oI (o : Option Int) : (oI o).pl 5 := by cases o <;> trivial
end DL

end
section
set_option Elab.async false
set_option linter.all false
set_option autoImplicit true
set_option maxRecDepth 100000
set_option maxHeartbeats 4000000
/-! defs called in a suite with the exception, that give a fresh list -/
namespace DL
open PySem L2 PySem.Spec PyProof.Rows
def spEO (K : PySem.W.Frag) (S : Addr → List D → Prop) : Addr × Obj → Sp := fun p vs H Q _ => ∃ (R : Hp) (C : Addr) (d : Option Addr) (fs : List (Str × D)) (xs : List D), Ex R H ∧ vs = [.ref p.1] ∧ Zc (.ref C) d p.2 ∧ (∃ us, p.2.data = .fields us) ∧ XfOk K R d fs ∧ S C xs ∧
  ∀ v R' H', After K [] R H R' H' → RetOk K H R' H' (.own (.lst xs)) v → Q v H'
structure CalEO (X : Cx) (k : Nat) (nm : Str) (S : Addr → List D → Prop) : Prop where
  rm : L2H.RoomH k X.A
  ex : ∃ f fd ps k0, FnE X.prog X.w X.K X.mg X.base k0 f fd ps (spEO X.K S) ∧ k0 ≤ k ∧ X.mg nm = some (.ref f) ∧ PySem.W.keepIn X.K (.ref f) = true ∧ Binds X.K fd ps []
theorem DefAt.calEO {X : Cx} {nm : Str} {st : Stmt} {ps : List Str} {k k0 : Nat} {S : Addr → List D → Prop} (d : DefAt X.K X.mg nm st ps) (F : FnE X.prog X.w X.K X.mg X.base k0 d.a d.fd ps (spEO X.K S)) (h : k0 ≤ k) (rm : L2H.RoomH k X.A) : CalEO X k nm S :=
  ⟨rm, d.a, d.fd, ps, k0, F, h, d.m, d.F.kp, d.b⟩
theorem CalEO.su {X : Cx} {k : Nat} {nm : Str} {S : Addr → List D → Prop} {a : Addr} {pn : List (Addr × Obj)} (h : CalEO X k nm S) : CalEO (X.suite a pn) k nm S := by
  obtain ⟨h1, h2⟩ := h
  exact ⟨⟨h1.dp, h1.un⟩, h2⟩
section
variable {X : Cx} {n : Nm} {c : Cc} {Γ : SL} {pos p p1 : Pos} {nm en : Str} {a C : Addr} {d : Option Addr} {fs : List (Str × D)} {xs : List D} {S : Addr → List D → Prop}
theorem eo_callE (i : Nat) (hc : CalEO X n.k nm S) (hE : HotE X a C d) (hS : S C xs) (j : Nat) (hg : Γ[i]? = some (.ex a d fs) := by rfl) (hi : n.N[i]? = some en := by rfl) (hv : n.V.contains i = true := by rfl) (hj : n.GN[j]? = some nm := by rfl)
    (he : starEach [.Name en p1] X.env = (false, eval (.Name en p1) X.env) :: starEach [] X.env := by exact se_c rfl) (hpl : (backTo pos (starEach [] X.env)).any (·.1) = false := by exact se_any rfl) : EO X n c Γ (.Call (.Name nm p) [.Name en p1] [] pos) (.lst xs) := .mk fun hn σ R H s Q q => by
  obtain ⟨f, fd, qs, k0, F, hk, hm, kp, hb⟩ := hc.ex
  obtain ⟨g1, g2, g3⟩ := hn.gl j nm hj
  obtain ⟨o, e1, e2, xf⟩ := s.sl i _ hg
  subst e2
  obtain ⟨h1, h2⟩ := hn.dbg i en hi
  obtain ⟨oe, hmm, hz, hvs⟩ := hE
  have pv := pe_var (X := X) (pos := p1) (i := i) (by rw [hn.eq]; exact hi) (hn.vis i en hv hi) h1 h2
  intro pins sh I
  refine wpAny_Call_Name_kw (ld_glob I g1 hm ?_ g2)
  refine PySem.W.callWith_K (h₀ := X.base) I.ok.mod.kin kp (thn ((pa_cons pv pa_nil he).run pos pins sh σ H (fun vs H1 => vs = [V.ref a] ∧ H1 = H) I ⟨.ref a, e1, rfl, rfl⟩) fun us s1 ⟨vs, H1, I1, r, e3, e4⟩ => ⟨I1.kIn, ?_⟩) he hpl
  subst e3
  have e4' := e4.symm
  subst e4'
  refine run_fnE (q := (a, oe)) F (hc.rm.mono hk) hmm hb I1 r ⟨R, C, d, fs, xs, s.rh, rfl, hz, hvs, xf, hS, fun v R' H' A ro => ?_⟩
  have s' : SOk X.K c Γ σ R' H' := by
    have := s.after (ks := []) (vs := []) (ps := []) (os := []) rfl rfl List.nodup_nil A rfl
    exact this
  refine q v R' H' (.lst xs) Γ s' A.r ?_ ⟨rfl, rfl⟩
  obtain ⟨a, q1, q2, q3, q4⟩ := ro
  refine ⟨a, q1, q2, q3, ?_, fun i o' z z2 => ?_⟩
  · cases z : c.H0 a with
    | none => rfl
    | some u => exact absurd q4 (s.pr a (by rw [z]; simp))
  · obtain ⟨w, w1, wx⟩ := s.sl i _ (show Γ[i]? = some (.own o') from z)
    obtain ⟨a', w2, w3, w4⟩ : ∃ a, w = some (.ref a) ∧ OBOk X.K R H a o' ∧ R a = none ∧ (c.H0 a = none ∨ c.M a) := wx
    rw [z2] at w1
    cases w1
    cases w2
    exact absurd q4 w3.there
end
theorem fn_okEO {P : Program} {w : World} {K : PySem.W.Frag} {mg : Str → Option Value} {base : Heap} {x qual : Str} {st : Stmt} {f : Addr} {fd : FuncData} {qn : Str} {n : Nm} {S : Addr → List D → Prop} (F : Fun K x qual st f fd) (sc : FnScope n.N [qn] (defScope st)) (sb : ScOk (defScope st) n) (hsc : n.sc = none ∨ n.sc = some (defScope st)) (hoi : n.oi = []) (hot : n.hot = true)
    (body : ∀ (X : Cx) (c : Cc), X.prog = P ∧ X.w = w ∧ X.K = K ∧ X.mg = mg ∧ X.base = base ∧ L2H.RoomH n.k X.A → ∀ a C d fs xs, HotE X a C d → S C xs → WB X n c (.ex a d fs :: List.replicate (n.N.length - 1) .no) (defBody st) (fnD [] fun r _ => r = .own (.lst xs))) : FnE P w K mg base (n.k + 1) f fd [qn] (spEO K S) := by
  obtain ⟨oc, od, kV, doc, pm, an, cdv, ct, osl, rfl, lk, hcd⟩ := F.ex
  refine fn_ofE lk hcd sc (fun p vs H Q E h => ?_) (fun A outer s H vs Q E p hr hfree h => ?_)
  · obtain ⟨R, C, d, fs, b, _, rfl, _⟩ := h; rfl
  · obtain ⟨R, C, d, fs, xs, e, rfl, hz, hf, xf, hS, q⟩ := h
    refine ⟨_, PSs.nox pWB, ?_⟩
    have hlen : 1 ≤ n.N.length := by have := congrArg List.length sc.pre; rw [List.length_take] at this; simp at this; omega
    have s0 : SOk K ⟨R, H, fun _ => False, [], fun _ _ _ => False⟩ (.ex p.1 d fs :: List.replicate (n.N.length - 1) .no) (L2.start n.N [.ref p.1]) R H := by
      refine ⟨e, Ex.refl _, fun _ _ _ h => h, fun _ h => h, fun _ _ h => h, by unfold L2.start; simp, fun i sl hi => ?_, fun i j a o o' h1 h2 => ?_, fun _ h => nomatch h⟩
      · unfold L2.start
        cases i with
        | zero => cases hi; exact ⟨_, rfl, rfl, xf⟩
        | succ i =>
          simp only [List.getElem?_cons_succ, List.getElem?_replicate] at hi
          split at hi
          · cases hi
            refine ⟨none, ?_, rfl⟩
            simp only [List.map_cons, List.map_nil, List.cons_append, List.nil_append, List.getElem?_cons_succ, List.getElem?_replicate, List.length_singleton]
            rw [if_pos (by assumption)]
          · cases hi
      · cases i with
        | zero => cases h1
        | succ i =>
          simp only [List.getElem?_cons_succ, List.getElem?_replicate] at h1
          split at h1 <;> cases h1
    refine (body (L2H.cxH L2.CX0 P w K mg base n.N qual (defScope st) f cdv A outer s H E p).nox ⟨R, H, fun _ => False, [], fun _ _ _ => False⟩ ⟨rfl, rfl, rfl, rfl, rfl, hr⟩ p.1 C d fs xs ⟨p.2, List.mem_singleton.mpr rfl, hz, hf⟩ hS).run ?_ _ R H s0 _ ?_
    · refine ⟨rfl, sc.nd, fun i x hv hi => ?_, fun i x ha hi => ?_, sb.dbg, sb.gl, sc.kind, fun s0 e0 => ?_, (fun z => by rw [hot] at z; cases z), hr, PassesOwn.never, sb.lc, hoi.symm, fun a ha => ha.elim, takes_no rfl, fun _ => ⟨rfl, rfl⟩⟩
      · rcases sb.vis i x hv hi with h | h
        · exact .inl h
        · exact .inr (.inl h)
      · refine ⟨?_, .inl rfl⟩
        rcases sb.vis i x (sb.as i ha) hi with h | h
        · exact .inl h
        · exact .inr h
      · rcases hsc with h | h
        · rw [h] at e0; cases e0
        · rw [h] at e0; cases e0; rfl
    · have aft : ∀ {σ : L2.St} {R' H' : Hp} {Γ : SL}, SOk K ⟨R, H, fun _ => False, [], fun _ _ _ => False⟩ Γ σ R' H' → After K [] R H R' H' := fun {σ R' H' Γ} s => ⟨s.r0, s.rh, fun a o na h => s.hm a o (fun z => z) h, s.pr, s.un⟩
      refine ⟨(fun σ R' H' Γ s e' ⟨os, h1, h2⟩ => by cases h2), fun v σ R' H' Γ r s e' ro ⟨r', os, h1, h2, h3⟩ => ?_, fun σ R' H' Γ s e' h => h.elim, fun σ R' H' Γ s e' h => h.elim⟩
      subst h3
      cases r with
      | d y => exact absurd (show Res.d y = Res.own (.lst xs) from h1) (by intro z; cases z)
      | own o =>
        have ho : o = .lst xs := by
          rcases (show _ ∨ _ from h1) with h | h
          · cases h; rfl
          · obtain ⟨y, _⟩ := h; cases y
        subst ho
        obtain ⟨a, q1, q2, q3, q4, _⟩ := ro
        exact q v R' H' (aft s) ⟨a, q1, q2, q3, q4⟩
/-! ### a, b, c, d, e = a list's five things -/
section
variable {X : Cx} {n : Nm} {c : Cc} {Γ : SL} {e : Expr} {pos : Pos} {De : DE}
theorem ws_unpL5 (i j l m o : Nat) {nx ny nz nw nv : Str} {px py pz pw pv pt : Pos} {kt : Nat} (h : WE X n c Γ e fun x Γ' => ∃ u v w y z, x = .lst [u, v, w, y, z] ∧ De.nx (((((Γ'.set i (.d u)).set j (.d v)).set l (.d w)).set m (.d y)).set o (.d z))) (hi : n.N[i]? = some nx := by rfl) (hh : n.hot = false := by rfl) (hj : n.N[j]? = some ny := by rfl) (hl : n.N[l]? = some nz := by rfl) (hm : n.N[m]? = some nw := by rfl) (ho : n.N[o]? = some nv := by rfl)
    (li : n.as.contains i = true := by rfl) (lj : n.as.contains j = true := by rfl) (ll : n.as.contains l = true := by rfl) (lm : n.as.contains m = true := by rfl) (lo : n.as.contains o = true := by rfl) (oi : n.oi.contains i = false := by rfl) (oj : n.oi.contains j = false := by rfl) (ol : n.oi.contains l = false := by rfl) (om : n.oi.contains m = false := by rfl) (oo : n.oi.contains o = false := by rfl)
    (h1 : (assignEach [.Name nx px, .Name ny py, .Name nz pz, .Name nw pw, .Name nv pv] X.env).map (·.2) = assign (.Name nx px) X.env :: (assignEach [.Name ny py, .Name nz pz, .Name nw pw, .Name nv pv] X.env).map (·.2) := by rfl) (h2 : (assignEach [.Name ny py, .Name nz pz, .Name nw pw, .Name nv pv] X.env).map (·.2) = assign (.Name ny py) X.env :: (assignEach [.Name nz pz, .Name nw pw, .Name nv pv] X.env).map (·.2) := by rfl)
    (h2' : (assignEach [.Name nz pz, .Name nw pw, .Name nv pv] X.env).map (·.2) = assign (.Name nz pz) X.env :: (assignEach [.Name nw pw, .Name nv pv] X.env).map (·.2) := by rfl) (h2'' : (assignEach [.Name nw pw, .Name nv pv] X.env).map (·.2) = assign (.Name nw pw) X.env :: (assignEach [.Name nv pv] X.env).map (·.2) := by rfl) (h2a : (assignEach [.Name nv pv] X.env).map (·.2) = assign (.Name nv pv) X.env :: (assignEach [] X.env).map (·.2) := by rfl)
    (h3 : (assignEach [.Name nx px, .Name ny py, .Name nz pz, .Name nw pw, .Name nv pv] X.env).length = 5 := by rfl) (h4 : (assignEach [.Name nx px, .Name ny py, .Name nz pz, .Name nw pw, .Name nv pv] X.env).findIdx? (·.1) = none := by rfl)
    (hs : swapsWithSole [.Tuple [.Name nx px, .Name ny py, .Name nz pz, .Name nw pw, .Name nv pv] kt pt] e pos.line X.env = pure false := by rfl) (hw : swappedStores [.Tuple [.Name nx px, .Name ny py, .Name nz pz, .Name nw pw, .Name nv pv] kt pt] e X.env = pure none := by rfl)
    (h5 : (assignEach [.Tuple [.Name nx px, .Name ny py, .Name nz pz, .Name nw pw, .Name nv pv] kt pt] X.env).map (·.2) = [assign (.Tuple [.Name nx px, .Name ny py, .Name nz pz, .Name nw pw, .Name nv pv] kt pt) X.env] := by rfl) :
    WS X n c Γ (.Assign [.Tuple [.Name nx px, .Name ny py, .Name nz pz, .Name nw pw, .Name nv pv] kt pt] e pos) De := .mk fun hn σ R H s E ok => by
  obtain ⟨l1, l2⟩ := hn.loc i nx li hi
  obtain ⟨l3, l4⟩ := hn.loc j ny lj hj
  obtain ⟨l5, l6⟩ := hn.loc l nz ll hl
  obtain ⟨l7, l8⟩ := hn.loc m nw lm hm
  obtain ⟨l9, la⟩ := hn.loc o nv lo ho
  have nd : X.N.Nodup := by rw [hn.eq]; exact hn.nd
  refine (ps_asg pW (pg_lst (hn.calm hh) (pgs_cons (pg_name nd (by rw [hn.eq]; exact hi) l1 l2) (pgs_cons (pg_name nd (by rw [hn.eq]; exact hj) l3 l4) (pgs_cons (pg_name nd (by rw [hn.eq]; exact hl) l5 l6) (pgs_cons (pg_name nd (by rw [hn.eq]; exact hm) l7 l8) (pgs_cons (pg_name nd (by rw [hn.eq]; exact ho) l9 la) pgs_nil h2a) h2'') h2') h2) h1) h3 h4) hs hw h5).w (h.run hn σ R H s _ fun v R' H' x Γ' s' e' r ⟨u, w, y, y2, y3, hx, p⟩ => ?_)
  subst hx
  obtain ⟨t, vs, rfl, hT, v1, ws, rfl, q1, v2, ws2, rfl, q2, v3, ws3, rfl, q3, v4, ws4, rfl, q4, v5, ws5, rfl, q5, q6⟩ := r
  cases (show ws5 = [] from q6)
  exact ⟨t, _, rfl, .inl (.inl (s'.rh _ _ hT)), rfl, v1, [v2, v3, v4, v5], rfl, v2, [v3, v4, v5], rfl, v3, [v4, v5], rfl, v4, [v5], rfl, v5, [], rfl, rfl, ok.nx _ R' H' _ (((((s'.setD i q1 (hn.noi oi)).setD j q2 (hn.noi oj)).setD l q3 (hn.noi ol)).setD m q4 (hn.noi om)).setD o q5 (hn.noi oo)) e' p⟩
end
/-! ### bounds lap by lap, drifts -/
def classesNms : List Str := ["BadBound", "BadRate", "EmptySpan", "TurnsBack", "VerdictError"]
def S_classes (K : PySem.W.Frag) (mg : Str → Option Value) : Addr → List D → Prop := fun C xs => ExcC K C ∧ ∃ bs, KRow K mg C classesNms bs ∧ ((bs = [true, false, false, false, true] ∧ xs = [.str "BadBound"]) ∨ (bs = [false, true, false, false, true] ∧ xs = [.str "BadRate"]))
structure L5 where
  b : Rat
  h : Rat
  l : Rat
  s : Rat
  d : Rat
def L5.D (a : L5) : DL.D := .lst [qD a.b, qD a.h, qD a.l, qD a.s, qD a.d]
def L5.la (a : L5) : LA := ⟨a.b, a.h, a.l, a.s, a.d, 0⟩
def L5.sz (a : L5) : Prop := Sz 60 a.b ∧ Sz 60 a.h ∧ Sz 60 a.l ∧ Sz 60 a.s ∧ Sz 60 a.d
def L5.good (a : L5) : Prop := GoodB a.b a.h a.l ∧ GoodS a.s a.d
def ST_called (CB CR : Addr) : SgX := fun ps Post Xp => ∃ b h l s d : Rat, ps = [.w (.lst [qD b, qD h, qD l, qD s, qD d])] ∧ Sz 2000 b ∧ Sz 60 h ∧ Sz 60 l ∧ Sz 60 s ∧ Sz 60 d ∧ (GoodB b h l → GoodS s d → Post (.d (qD (behQ b h l s d)))) ∧ (∀ e, BadB b h l e → Xp CB [("value", qD e)]) ∧ ∀ e, GoodB b h l → BadS s d e → Xp CR [("value", qD e)]
def ST_lapargs : Sg := fun ps Post => ps = [.own .sto] ∧ ∀ a : L5, a.good → a.sz → Post (.own (.lst [qD a.b, qD a.h, qD a.l, qD a.s, qD a.d])) [.sto]
def ST_after5 : Sg := fun ps Post => ∃ (a : L5) (n : Nat), ps = [.d a.D, .d (.int (n : Int))] ∧ a.sz ∧ 1 ≤ n ∧ n ≤ 1000 ∧ Post (.d (qD (aftQ a.la n))) []
def ST_refused5 : Sg := fun ps Post => ∃ (b h l s d : Rat) (nm : Str) (e : Rat), ps = [.w (.lst [qD b, qD h, qD l, qD s, qD d])] ∧ BadL b h l s d nm e ∧ Post (.d (.tup [.lst [.str nm], qD e])) []
def ST_over : Sg := fun ps Post => ∃ (a b : Rat) (j k : Nat), ps = [.w (qD a), .w (qD b)] ∧ 0 < b ∧ Sz j a ∧ Sz k b ∧ j + k ≤ 900 ∧ Post (.d (qD (a / b))) []
def dbQ (lo top : Rat) : Rat := maxQ (absQ (1 - 1 / top)) (absQ (1 - 1 / lo))
def ST_drift (CR : Addr) : SgX := fun ps Post Xp => ∃ lo top : Rat, ps = [.d (qD lo), .d (qD top)] ∧ Sz 60 lo ∧ Sz 60 top ∧ (0 < lo → ¬ top < lo → Post (.d (qD (dbQ lo top)))) ∧ (¬ 0 < lo → Xp CR [("value", qD lo)]) ∧ (0 < lo → top < lo → Xp CR [("value", qD top)])
def ST_driftok : Sg := fun ps Post => ∃ lo top x : Rat, ps = [.d (qD lo), .d (qD top), .d (qD (dbQ lo top)), .d (qD x)] ∧ 0 < lo ∧ ¬ top < lo ∧ 0 < x ∧ Sz 60 lo ∧ Sz 60 top ∧ Sz 60 x ∧ Post (.d (.bl true)) []
def ST_ratesref : Sg := fun ps Post => ∃ a b e : Rat, ps = [.d (qD a), .d (qD b)] ∧ BadR a b e ∧ Post (.d (.tup [.lst [.str "BadRate"], qD e])) []
theorem fr_over {a b : Rat} (h : 0 < b) : fr (a.num * (b.den : Int)) ((a.den : Int) * b.num) = a / b := by
  have e : fr (a.num * (b.den : Int)) ((a.den : Int) * b.num) = fr a.num (a.den : Int) * fr (b.den : Int) b.num := by
    unfold fr
    rw [Rat.divInt_mul_divInt]
  rw [e, fr_inv, Rat.div_def]
  congr 1
  exact Rat.num_divInt_den a
theorem db_sz {lo top : Rat} (h1 : 0 < lo) (h2 : ¬ top < lo) (z1 : Sz 60 lo) (z2 : Sz 60 top) : Sz 490 (dbQ lo top) := by
  have zo : Sz 1 (1 : Rat) := ⟨by decide, by decide⟩
  have a : ∀ {p : Rat}, 0 < p → Sz 60 p → Sz 490 (absQ (1 - 1 / p)) := fun {p} hp zp => absQ_sz (by
    rw [Rat.div_def]
    exact (zo.sub (zo.mul (zp.inv (by grind)))).mono (by decide))
  exact maxQ_sz (a (by grind) z2) (a h1 z1)
theorem away_eq {x p : Rat} (hx : 0 < x) (hp : 0 < p) : absQ (x / p - x) = absQ (1 - 1 / p) * x := by
  have e1 := dvm (d := x) hp
  have e2 := dvm (d := (1 : Rat)) hp
  have e3 : x / p = (1 / p) * x := by rw [Rat.div_def, Rat.div_def]; grind
  rw [e3]
  generalize 1 / p = w
  unfold absQ
  by_cases z : 1 - w < 0
  · rw [if_pos z]
    have := Rat.mul_pos (show 0 < -(1 - w) by grind) hx
    rw [if_neg (by grind)]
    grind
  · rw [if_neg z]
    have := Rat.mul_nonneg (show 0 ≤ 1 - w by grind) (Rat.le_of_lt hx)
    by_cases y : w * x - x < 0
    · rw [if_pos y]; grind
    · rw [if_neg y]; grind
theorem reach_ok {x lo top : Rat} (hx : 0 < x) : ¬ dbQ lo top * x < absQ (1 - 1 / lo) * x ∧ ¬ dbQ lo top * x < absQ (1 - 1 / top) * x ∧ (absQ (1 - 1 / lo) * x = dbQ lo top * x ∨ absQ (1 - 1 / top) * x = dbQ lo top * x) := by
  unfold dbQ
  generalize absQ (1 - 1 / lo) = u
  generalize absQ (1 - 1 / top) = v
  have h1 := le_maxL v u
  have h2 := le_maxR v u
  have h3 := maxQ_or v u
  generalize maxQ v u = m at *
  have a1 := Rat.mul_nonneg (show 0 ≤ m - u by grind) (Rat.le_of_lt hx)
  have a2 := Rat.mul_nonneg (show 0 ≤ m - v by grind) (Rat.le_of_lt hx)
  refine ⟨by grind, by grind, ?_⟩
  rcases h3 with h | h
  · exact .inr (by rw [h])
  · exact .inl (by rw [h])
theorem db_nn (lo top : Rat) : ¬ dbQ lo top < 0 := by
  have h1 := le_maxL (absQ (1 - 1 / top)) (absQ (1 - 1 / lo))
  have h2 := absQ_nn (1 - 1 / top)
  unfold dbQ
  grind
theorem ones_sz : Sz 1 (1 : Rat) := ⟨by decide, by decide⟩
theorem fr_lt {a b d : Int} (h : a < b) (hd : 0 < d) : fr a d < fr b d := by
  rw [fr_div, fr_div]
  refine (Rat.lt_div_iff (castpos hd)).mpr ?_
  have e := dvm (d := (a : Rat)) (castpos hd)
  rw [e]
  have := castle (show a + 1 ≤ b by omega)
  rw [Rat.intCast_add] at this
  have e1 : ((1 : Int) : Rat) = 1 := rfl
  rw [e1] at this
  generalize (a : Rat) = x at this ⊢
  generalize (b : Rat) = y at this ⊢
  grind
theorem pl_tls (x : Str) (q : Rat) : (DL.D.tup [.lst [.str x], qD q]).pl 5 := ⟨Nat.le_of_ble_eq_true rfl, fun d hd => by
  simp only [List.mem_cons, List.not_mem_nil, or_false] at hd
  rcases hd with rfl | rfl
  · exact ⟨Nat.le_of_ble_eq_true rfl, fun d hd => by
      have : d = .str x := by simpa using hd
      subst this; trivial⟩
  · exact pl_q 3 q⟩
end DL

end
section
set_option Elab.async false
set_option linter.all false
set_option autoImplicit true
set_option maxRecDepth 100000
set_option maxHeartbeats 400000
/-! instances of own classes: attributes, methods, properties, making -/
namespace DL
open PySem L2
open PyProof.Rows hiding St

theorem lk_mem {f : Str} {x : D} : ∀ {fs : List (Str × D)}, fs.lookup f = some x → f ∈ fs.map (·.1)
  | [], h => by cases h
  | (k, d) :: r, h => by
    rw [List.lookup_cons] at h
    cases hk : (f == k) with
    | true => have : f = k := by simpa using hk
              subst this; simp
    | false => rw [hk] at h; simp only [List.map_cons, List.mem_cons]; exact .inr (lk_mem h)
theorem fld_none {K : PySem.W.Frag} {R : Hp} {f : Str} : ∀ {fs : List (Str × D)} {ws : List (Str × V)}, FldOk K R fs ws → fs.lookup f = none → ws.lookup f = none
  | [], _, h, _ => by cases (show _ = _ from h); rfl
  | (k, d) :: r, _, ⟨v, ws', e, h1, h2⟩, h => by
    subst e
    rw [List.lookup_cons] at h ⊢
    cases hk : (f == k) with
    | true => rw [hk] at h; cases h
    | false => rw [hk] at h; exact fld_none h2 h
def putD (f : Str) (x : D) : List (Str × D) → List (Str × D)
  | [] => [(f, x)]
  | (g, y) :: r => if g = f then (g, x) :: r else (g, y) :: putD f x r
theorem fld_put {K : PySem.W.Frag} {R : Hp} {f : Str} {x : D} {v : V} (hx : Rp K R x v) : ∀ {fs : List (Str × D)} {ws : List (Str × V)}, FldOk K R fs ws → FldOk K R (putD f x fs) (putF f v ws)
  | [], _, h => by cases (show _ = _ from h); exact ⟨v, [], rfl, hx, rfl⟩
  | (k, d) :: r, _, ⟨u, ws', e, h1, h2⟩ => by
    subst e
    unfold putD putF
    split
    · exact ⟨v, ws', rfl, hx, h2⟩
    · exact ⟨u, _, rfl, h1, fld_put hx h2⟩
theorem fld_len {K : PySem.W.Frag} {R : Hp} : ∀ {fs : List (Str × D)} {ws : List (Str × V)}, FldOk K R fs ws → ws.length = fs.length
  | [], _, h => by cases (show _ = _ from h); rfl
  | (k, d) :: r, _, ⟨v, ws', e, h1, h2⟩ => by subst e; simp [fld_len h2]
theorem put_names {f : Str} {x : D} : ∀ {fs : List (Str × D)} {g : Str}, g ∈ (putD f x fs).map (·.1) → g = f ∨ g ∈ fs.map (·.1)
  | [], g, h => by
    have : g = f := by simpa [putD] using h
    exact .inl this
  | (k, d) :: r, g, h => by
    unfold putD at h
    split at h
    · exact .inr (by simpa using h)
    · simp only [List.map_cons, List.mem_cons] at h ⊢
      rcases h with h | h
      · exact .inr (.inl h)
      · rcases put_names h with h | h
        · exact .inl h
        · exact .inr (.inr h)

section
variable {X : Cx} {n : Nm} {c : Cc} {Γ : SL} {e o : Expr} {es : List Expr} {x : D} {pos p p1 p2 apos : Pos} {nm cls f m : Str} {k : AK} {fs : List (Str × D)} {De : DE} {S : Sg}
/-- o.f -/
theorem ev_atr (ha : EK X n c Γ e k) (hg : k.get Γ = some (.ins cls fs)) (hl : fs.lookup f = some x) (hb : attributeBase e f X.env (eval e X.env) = eval e X.env := by rfl) : EV X n c Γ (.Attribute e f pos) x := .mk fun hn σ R H s Q q =>
  (pe_fld pW hb).w (ha.run hn σ R H s _ fun v R1 H1 k' Γ1 s1 e1 r1 ⟨g1, g2⟩ => by
    subst g1 g2
    obtain ⟨a, dx, ws, rfl, h2, ⟨h3, h4⟩, h5⟩ := (r1.wk s1 hg).ins s1.rh
    obtain ⟨u, hu, ru⟩ := fld_lookup h5 hl
    exact ⟨a, _, dx, ws, u, rfl, h2, h3.cl, h4 f (lk_mem hl), hu, q u R1 H1 x _ s1 e1 ru ⟨rfl, rfl⟩⟩)
/-- self.f = e -/
theorem ws_atr (i : Nat) (hno : NoAttr X.K (He.ga X.K cls) f) (h : WE X n c Γ e fun x Γ' => ∃ fs, Γ'[i]? = some (.own (.ins cls fs)) ∧ fs.length < 1000 ∧ De.nx (Γ'.set i (.own (.ins cls (putD f x fs)))))
    (hi : n.N[i]? = some nm := by rfl) (hv : n.V.contains i = true := by rfl) (hs : swapsWith e (some (.Attribute (.Name nm p1) f p2)) pos.line X.env = pure false := by rfl) : WS X n c Γ (.Assign [.Attribute (.Name nm p1) f p2] e pos) De := .mk fun hn σ R H s E ok => by
  obtain ⟨d1, d2⟩ := hn.dbg i nm hi
  refine (ps_fld (pe_var (i := i) (by rw [hn.eq]; exact hi) (hn.vis i nm hv hi) d1 d2) pW hs).w (h.run hn σ R H s _ fun v R1 H1 x Γ1 s1 e1 r1 ⟨fs, hg, hl, hd⟩ => ?_)
  obtain ⟨w, w1, a, w2, ⟨dx, ws, w3, ⟨w4, w5⟩, w6⟩, w7⟩ := s1.sl i _ hg
  subst w2
  refine ⟨.ref a, w1, a, _, dx, ws, rfl, w3, w4.cl, hno, by rw [fld_len w6]; exact hl, ok.nx σ R1 _ _ (s1.mut (ob' := .ins cls (putD f x fs)) i hg w1 ⟨dx, _, upd_same, ⟨w4, fun g hg => ?_⟩, fld_put r1 w6⟩) e1 hd⟩
  rcases put_names hg with rfl | hg
  · exact hno
  · exact w5 g hg
/-- what the callee is handed, behind the arguments -/
theorem call_tail {Post : Res → SL → Prop} {Γ1 : SL} {σ : L2.St} {R1 H1 : Hp} {ks : List AK} {vs : List V} {ps : List Par} {E : XK} {R : Hp} (s1 : SOk X.K c Γ1 σ R1 H1) (e1 : Ex R R1) (r1 : AksOk X.K R1 σ ks vs) (h1 : pars Γ1 ks = some ps) (h2 : (ownIx ks).Nodup) (h3 : ∀ i ∈ readIx ks, i ∉ ownIx ks) (h4 : S ps fun r os => Post r (updOwn Γ1 (ownIx ks) os))
    (Q : VK) (q : ∀ v R' H' r Γ', SOk X.K c Γ' σ R' H' → Ex R R' → VOk X.K c Γ' σ R' H' r v → Post r Γ' → Q v H') : spOf X.K S vs H1 Q E := by
  obtain ⟨o1, o2⟩ := own_ad s1 r1 h1
  have inO : ∀ a, a ∈ ownAd ps vs → c.H0 a = none ∨ c.M a := fun a ha => by
    rw [o1] at ha
    obtain ⟨i, hi, q⟩ := List.mem_map.mp ha
    obtain ⟨b, o, q1, q2, q3, q4, q5⟩ := o2 i hi
    rw [q1] at q
    have q' : b = a := q
    subst q'; exact q5
  refine ⟨R1, ps, _, s1.rh, pars_ok s1 inO r1 h1 fun i hi a o z1 z2 z3 => ?_, by rw [o1]; exact own_nd s1 h2 o2, h4, fun v R' H' r os A ro ow po => ?_⟩
  · rw [o1] at z3
    obtain ⟨j, hj, q⟩ := List.mem_map.mp z3
    obtain ⟨b, o', q1, q2, _⟩ := o2 j hj
    rw [q1] at q
    have q' : b = a := q
    subst q'
    have := s1.dj i j b o o' z1 q2 z2 q1
    subst this
    exact h3 i hi hj
  · have s2 := s1.after r1 h1 h2 A ow
    refine q v R' H' r _ s2 (e1.trans A.r) ?_ po
    cases r with
    | d x => exact ro
    | own ob =>
      obtain ⟨a, w1, w2, w3, w4⟩ := ro
      refine ⟨a, w1, w2, w3, ?_, fun i o z1 z2 => ?_⟩
      · cases z : c.H0 a with
        | none => rfl
        | some u => exact absurd w4 (s1.pr a (by rw [z]; simp))
      · have : ∃ o, Γ1[i]? = some (.own o) := by
          by_cases hi : i ∈ ownIx ks
          · obtain ⟨_, o', _, q2, _⟩ := o2 i hi; exact ⟨o', q2⟩
          · rw [updOwn_out hi] at z1; exact ⟨o, z1⟩
        obtain ⟨o', z3⟩ := this
        obtain ⟨w, u1, b, u2, u3, _⟩ := s1.sl i _ z3
        rw [z2] at u1; cases u1; cases u2
        exact u3.there w4
/-- a method known by its promise -/
structure CalM (X : Cx) (k : Nat) (cls m : Str) (S : Sg) : Prop where
  rm : Room k X.A
  ic : InsC X.K cls
  ex : ∃ f fd ps k0, FnOk X.prog X.w X.K X.mg X.base CX0 k0 f fd ps (spOf X.K S) ∧ k0 ≤ k ∧ Meth X.K (He.ga X.K cls) m f ∧ Binds X.K fd ps []
theorem CalM.blk {X X' : Cx} {sc : Scope} {k : Nat} {cls m : Str} {S : Sg} (b : BlkX X X' sc) (h : CalM X k cls m S) : CalM X' k cls m S := by
  obtain ⟨s, H, C, cl, fp, rfl⟩ := b
  exact ⟨h.rm, h.ic, h.ex⟩
/-- o.m(e, ..) -/
theorem meth_core {Post : Res → SL → Prop} (hc : CalM X n.k cls m S) (hn : NOk X n c) (ho : EK X n c Γ o k) (hg : k.get Γ = some (.ins cls fs)) (hm : fs.lookup m = none)
    (h : WA X n c Γ (e :: es) fun ks Γ1 => ∃ ps, pars Γ1 (k :: ks) = some ps ∧ (ownIx (k :: ks)).Nodup ∧ (∀ i ∈ readIx (k :: ks), i ∉ ownIx (k :: ks)) ∧ S ps fun r os => Post r (updOwn Γ1 (ownIx (k :: ks)) os))
    (hst : starEach (e :: es) X.env = (false, eval e X.env) :: starEach es X.env) (hpl : (backTo pos (starEach es X.env)).any (·.1) = false) {pl : Sem Bool}
    (ht : eval (.Call (.Attribute o m apos) (e :: es) [] pos) X.env = (do
      let ov ← eval o X.env
      standAt apos.atName
      let (f, first) ← holding [ov] (getMethod ov m pl)
      callWith pos f first (backTo pos (starEach (e :: es) X.env)) (backToKw pos (keywordEach [] X.env))))
    {σ : L2.St} {R H : Hp} (s : SOk X.K c Γ σ R H) (Q : VK) (q : ∀ v R' H' r Γ', SOk X.K c Γ' σ R' H' → Ex R R' → VOk X.K c Γ' σ R' H' r v → Post r Γ' → Q v H') : tW X (.Call (.Attribute o m apos) (e :: es) [] pos) σ H Q := by
  obtain ⟨f, fd, qs, k0, F, hk, hmm, hb⟩ := hc.ex
  refine (pe_meth (pl := pl) pW hc.ic.cl hmm F (hc.rm.mono hk) hb .nil pass0 pWA hst hpl ht).w ?_
  refine ho.run hn σ R H s _ fun v R1 H1 k' Γ1 s1 e1 r1 ⟨g1, g2⟩ => ?_
  subst g1 g2
  obtain ⟨a, dx, ws, rfl, h2, h3, h5⟩ := (r1.wk s1 hg).ins s1.rh
  refine ⟨a, dx, ws, rfl, h2, fld_none h5 hm, ?_⟩
  refine h.run hn σ R1 H1 s1 _ fun vs R2 H2 ks Γ2 s2 e2 r2 ⟨ps, q1, q2, q3, q4⟩ => ?_
  rw [List.append_nil]
  exact call_tail (ks := k' :: ks) (vs := .ref a :: vs) s2 (e1.trans e2) ⟨_, vs, rfl, r1.mono e2, r2⟩ q1 q2 q3 q4 Q q
/-- o.m() -/
theorem meth_core0 {Post : Res → SL → Prop} {ps : List Par} (hc : CalM X n.k cls m S) (hn : NOk X n c) (ho : EK X n c Γ o k) (hg : k.get Γ = some (.ins cls fs)) (hm : fs.lookup m = none)
    (hp : pars Γ [k] = some ps) (h : S ps fun r os => Post r (updOwn Γ (ownIx [k]) os)) {pl : Sem Bool}
    (ht : eval (.Call (.Attribute o m apos) [] [] pos) X.env = (do
      let ov ← eval o X.env
      standAt apos.atName
      let (f, first) ← holding [ov] (getMethod ov m pl)
      callWith pos f first (backTo pos (starEach [] X.env)) (backToKw pos (keywordEach [] X.env))))
    {σ : L2.St} {R H : Hp} (s : SOk X.K c Γ σ R H) (Q : VK) (q : ∀ v R' H' r Γ', SOk X.K c Γ' σ R' H' → Ex R R' → VOk X.K c Γ' σ R' H' r v → Post r Γ' → Q v H') : tW X (.Call (.Attribute o m apos) [] [] pos) σ H Q := by
  obtain ⟨f, fd, qs, k0, F, hk, hmm, hb⟩ := hc.ex
  refine (pe_meth0 (pl := pl) pW hc.ic.cl hmm F (hc.rm.mono hk) hb .nil pass0 ht).w ?_
  refine ho.run hn σ R H s _ fun v R1 H1 k' Γ1 s1 e1 r1 ⟨g1, g2⟩ => ?_
  subst g1 g2
  obtain ⟨a, dx, ws, rfl, h2, h3, h5⟩ := (r1.wk s1 hg).ins s1.rh
  refine ⟨a, dx, ws, rfl, h2, fld_none h5 hm, ?_⟩
  show spOf X.K S [.ref a] H1 Q E0
  refine call_tail (ks := [k']) (vs := [.ref a]) s1 e1 ⟨_, [], rfl, r1, rfl⟩ hp ?_ ?_ h Q q
  · cases k' <;> simp [ownIx]
  · cases k' <;> simp [ownIx, readIx]
theorem frz_res {Post : D → SL → Prop} {σ : L2.St} {R R' H' : Hp} {Γ' : SL} {r : Res} {v : V} {Q : VK} (s' : SOk X.K c Γ' σ R' H') (e' : Ex R R') (ro : VOk X.K c Γ' σ R' H' r v) (h : ∃ x, r.data = some x ∧ Post x Γ')
    (q : ∀ v R' H' x Γ', SOk X.K c Γ' σ R' H' → Ex R R' → Rp X.K R' x v → Post x Γ' → Q v H') : Q v H' := by
  obtain ⟨x, hx, px⟩ := h
  cases r with
  | d y => cases hx; exact q v R' H' x Γ' s' e' ro px
  | own o =>
    obtain ⟨R2, s2, e2, r2⟩ := s'.freezeR ro hx
    exact q v R2 H' x Γ' s2 (e'.trans e2) r2 px
theorem we_imeth {Post : D → SL → Prop} {ks : List AK} {ps : List Par} {pl : Sem Bool} (hc : CalM X n.k cls m S) (ho : EK X n c Γ o k) (ha : EA X n c Γ (e :: es) ks) (h : S ps fun r os => ∃ x, r.data = some x ∧ Post x (updOwn Γ (ownIx (k :: ks)) os))
    (hg : k.get Γ = some (.ins cls fs) := by rfl) (hm : fs.lookup m = none := by rfl) (hp : pars Γ (k :: ks) = some ps := by rfl) (hnd : (ownIx (k :: ks)).Nodup := by decide) (hrd : ∀ i ∈ readIx (k :: ks), i ∉ ownIx (k :: ks) := by decide)
    (hst : starEach (e :: es) X.env = (false, eval e X.env) :: starEach es X.env := by exact se_c rfl) (hpl : (backTo pos (starEach es X.env)).any (·.1) = false := by exact se_any rfl)
    (ht : eval (.Call (.Attribute o m apos) (e :: es) [] pos) X.env = (do
      let ov ← eval o X.env
      standAt apos.atName
      let (f, first) ← holding [ov] (getMethod ov m pl)
      callWith pos f first (backTo pos (starEach (e :: es) X.env)) (backToKw pos (keywordEach [] X.env))) := by rfl) : WE X n c Γ (.Call (.Attribute o m apos) (e :: es) [] pos) Post := .mk fun hn σ R H s Q q =>
  meth_core (Post := fun r Γ' => ∃ x, r.data = some x ∧ Post x Γ') hc hn ho hg hm (wa_of ha ⟨ps, hp, hnd, hrd, h⟩) hst hpl ht s Q fun v R' H' r Γ' s' e' ro px => frz_res s' e' ro px q
theorem wo_imeth {Post : OB → SL → Prop} {ks : List AK} {ps : List Par} {pl : Sem Bool} (hc : CalM X n.k cls m S) (ho : EK X n c Γ o k) (ha : EA X n c Γ (e :: es) ks) (h : S ps fun r os => ∃ b, r = .own b ∧ Post b (updOwn Γ (ownIx (k :: ks)) os))
    (hg : k.get Γ = some (.ins cls fs) := by rfl) (hm : fs.lookup m = none := by rfl) (hp : pars Γ (k :: ks) = some ps := by rfl) (hnd : (ownIx (k :: ks)).Nodup := by decide) (hrd : ∀ i ∈ readIx (k :: ks), i ∉ ownIx (k :: ks) := by decide)
    (hst : starEach (e :: es) X.env = (false, eval e X.env) :: starEach es X.env := by exact se_c rfl) (hpl : (backTo pos (starEach es X.env)).any (·.1) = false := by exact se_any rfl)
    (ht : eval (.Call (.Attribute o m apos) (e :: es) [] pos) X.env = (do
      let ov ← eval o X.env
      standAt apos.atName
      let (f, first) ← holding [ov] (getMethod ov m pl)
      callWith pos f first (backTo pos (starEach (e :: es) X.env)) (backToKw pos (keywordEach [] X.env))) := by rfl) : WO X n c Γ (.Call (.Attribute o m apos) (e :: es) [] pos) Post := .mk fun hn σ R H s Q q =>
  meth_core (Post := fun r Γ' => ∃ b, r = .own b ∧ Post b Γ') hc hn ho hg hm (wa_of ha ⟨ps, hp, hnd, hrd, h⟩) hst hpl ht s Q fun v R' H' r Γ' s' e' ro ⟨b, hb, px⟩ => by subst hb; exact q v R' H' b Γ' s' e' ro px
theorem we_imeth0 {Post : D → SL → Prop} {ps : List Par} {pl : Sem Bool} (hc : CalM X n.k cls m S) (ho : EK X n c Γ o k) (h : S ps fun r os => ∃ x, r.data = some x ∧ Post x (updOwn Γ (ownIx [k]) os))
    (hg : k.get Γ = some (.ins cls fs) := by rfl) (hm : fs.lookup m = none := by rfl) (hp : pars Γ [k] = some ps := by rfl)
    (ht : eval (.Call (.Attribute o m apos) [] [] pos) X.env = (do
      let ov ← eval o X.env
      standAt apos.atName
      let (f, first) ← holding [ov] (getMethod ov m pl)
      callWith pos f first (backTo pos (starEach [] X.env)) (backToKw pos (keywordEach [] X.env))) := by rfl) : WE X n c Γ (.Call (.Attribute o m apos) [] [] pos) Post := .mk fun hn σ R H s Q q =>
  meth_core0 (Post := fun r Γ' => ∃ x, r.data = some x ∧ Post x Γ') hc hn ho hg hm hp h ht s Q fun v R' H' r Γ' s' e' ro px => frz_res s' e' ro px q
theorem wo_imeth0 {Post : OB → SL → Prop} {ps : List Par} {pl : Sem Bool} (hc : CalM X n.k cls m S) (ho : EK X n c Γ o k) (h : S ps fun r os => ∃ b, r = .own b ∧ Post b (updOwn Γ (ownIx [k]) os))
    (hg : k.get Γ = some (.ins cls fs) := by rfl) (hm : fs.lookup m = none := by rfl) (hp : pars Γ [k] = some ps := by rfl)
    (ht : eval (.Call (.Attribute o m apos) [] [] pos) X.env = (do
      let ov ← eval o X.env
      standAt apos.atName
      let (f, first) ← holding [ov] (getMethod ov m pl)
      callWith pos f first (backTo pos (starEach [] X.env)) (backToKw pos (keywordEach [] X.env))) := by rfl) : WO X n c Γ (.Call (.Attribute o m apos) [] [] pos) Post := .mk fun hn σ R H s Q q =>
  meth_core0 (Post := fun r Γ' => ∃ b, r = .own b ∧ Post b Γ') hc hn ho hg hm hp h ht s Q fun v R' H' r Γ' s' e' ro ⟨b, hb, px⟩ => by subst hb; exact q v R' H' b Γ' s' e' ro px
/-- a property known by its getter's promise -/
structure CalP (X : Cx) (k : Nat) (cls f : Str) (S : Sg) : Prop where
  rm : Room k X.A
  ic : InsC X.K cls
  ex : ∃ p g fd ps k0, FnOk X.prog X.w X.K X.mg X.base CX0 k0 g fd ps (spOf X.K S) ∧ k0 + 1 ≤ k ∧ PropOf X.K (He.ga X.K cls) f p g ∧ Binds X.K fd ps []
theorem we_prop {Post : D → SL → Prop} {ps : List Par} (hc : CalP X n.k cls f S) (ho : EK X n c Γ o k) (h : S ps fun r os => ∃ x, r.data = some x ∧ Post x (updOwn Γ (ownIx [k]) os))
    (hg : k.get Γ = some (.ins cls fs) := by rfl) (hp : pars Γ [k] = some ps := by rfl) (hb : attributeBase o f X.env (eval o X.env) = eval o X.env := by rfl) : WE X n c Γ (.Attribute o f pos) Post := .mk fun hn σ R H s Q q => by
  obtain ⟨p, g, fd, qs, k0, F, hk, hpo, hbb⟩ := hc.ex
  refine (pe_prop (dvs := []) pW hc.ic.cl hpo F (hc.rm.mono hk) hbb .nil pass0 hb).w ?_
  refine ho.run hn σ R H s _ fun v R1 H1 k' Γ1 s1 e1 r1 ⟨g1, g2⟩ => ?_
  subst g1 g2
  obtain ⟨a, dx, ws, rfl, h2, h3, h5⟩ := (r1.wk s1 hg).ins s1.rh
  refine ⟨a, dx, ws, rfl, h2, ?_⟩
  refine call_tail (Post := fun r Γ' => ∃ x, r.data = some x ∧ Post x Γ') (ks := [k']) (vs := [.ref a]) s1 e1 ⟨_, [], rfl, r1, rfl⟩ hp ?_ ?_ h Q fun v R' H' r Γ' s' e' ro px => frz_res s' e' ro px q
  · cases k' <;> simp [ownIx]
  · cases k' <;> simp [ownIx, readIx]
end
/-- behind a call that was lent a fresh thing alone -/
theorem SOk.afterP {K : PySem.W.Frag} {c : Cc} {Γ : SL} {σ : L2.St} {R H R' H' : Hp} {x : Addr} (s : SOk K c Γ σ R H) (A : After K [x] R H R' H') (h0 : c.H0 x = none) (hn : ∀ (i : Nat) (o : OB), Γ[i]? = some (.own o) → σ[i]? ≠ some (some (.ref x))) : SOk K c Γ σ R' H' := by
  refine ⟨A.rh, s.r0.trans A.r, fun a o n e => A.h a o (fun z => ?_) (s.hm a o n e), fun a n => A.pr a (s.pr a n), fun a n e => A.un a (s.pr a n) (s.un a n e), s.len, fun i sl e => ?_, s.dj, s.oi⟩
  · rw [List.mem_singleton] at z; subst z; rw [h0] at e; cases e
  · obtain ⟨o, w1, w2⟩ := s.sl i sl e
    refine ⟨o, w1, ?_⟩
    cases sl with
    | no => exact w2
    | any => exact w2
    | d x => obtain ⟨v, z1, z2⟩ := w2; exact ⟨v, z1, Rp.mono A.r _ _ z2⟩
    | sc ns => obtain ⟨v, z1, z2⟩ := w2; exact ⟨v, z1, ex_l A.r z2⟩
    | ex _ _ _ => exact ⟨w2.1, w2.2.mono A.r⟩
    | w y => obtain ⟨v, z1, z2⟩ := w2; exact ⟨v, z1, z2.mono A.r fun a o na => A.h a o fun z => na (.inl (by rw [List.mem_singleton] at z; subst z; exact h0))⟩
    | own ob =>
      obtain ⟨a, z1, z2, z3, z4⟩ := w2
      refine ⟨a, z1, z2.mono A.r fun o => A.h a o fun z => ?_, A.un a z2.there z3, z4⟩
      rw [List.mem_singleton] at z
      subst z
      exact hn i ob e (by rw [w1, z1])
/-- an own class called: np positional values, keywords ks; G puts them and the defaults in order -/
structure CalN (X : Cx) (k : Nat) (cls : Str) (np : Nat) (kns : List Str) (G : List Par → List Par → List Par) (S : Sg) : Prop where
  rm : Room k X.A
  ic : InsC X.K cls
  mg : X.mg cls = some (.ref (He.ga X.K cls))
  ex : ∃ f fd ps k0 g gV, Mk X.K (He.ga X.K cls) f ∧ FnOk X.prog X.w X.K X.mg X.base CX0 k0 f fd ps (spOf X.K S) ∧ k0 + 1 ≤ k ∧ KBn X.K fd ps (np + 1) kns g gV ∧
    ∀ M R H vs zs pv pz v, ParsOk X.K M R H pv vs → ParsOk X.K M R H pz zs → pv.length = np → pz.length = kns.length → parOi 0 pv = [] → parOi 0 pz = [] → ∃ us, gV (v :: vs) zs = v :: us ∧ ParsOk X.K M R H (G pv pz) us ∧ parOi 0 (G pv pz) = []
section
variable {X : Cx} {n : Nm} {c : Cc} {Γ : SL} {e : Expr} {es : List Expr} {kws : List Keyword} {pos p : Pos} {cls : Str} {np : Nat} {kns : List Str} {G : List Par → List Par → List Par} {S : Sg}
theorem wo_make {Post : OB → SL → Prop} {ks : List AK} {ps : List Par} {xs : List D} (hc : CalN X n.k cls np kns G S) (j : Nat) (ha : EA X n c Γ (e :: es) ks) (hk : EKws X n c Γ kws xs)
    (h : S (.own (.ins cls []) :: G ps (xs.map Par.d)) fun r os => r = .d .non ∧ ∃ fs, os = [.ins cls fs] ∧ Post (.ins cls fs) Γ)
    (hm : ks.length = np := by rfl) (hx : xs.length = kns.length := by rfl) (hp : pars Γ ks = some ps := by rfl) (ho : ownIx ks = [] := by rfl) (hkn : kws.map (·.arg) = kns.map some := by rfl)
    (hj : n.GN[j]? = some cls := by rfl) (he : starEach (e :: es) X.env = (false, eval e X.env) :: starEach es X.env := by exact se_c rfl) (hpl : (backTo pos (starEach (e :: es) X.env)).any (·.1) = false := by exact se_any rfl) : WO X n c Γ (.Call (.Name cls p) (e :: es) kws pos) Post := .mk fun hn σ R H s Q q => by
  obtain ⟨f, fd, qs, k0, g, gV, M, F, hkk, hb, hG⟩ := hc.ex
  obtain ⟨g1, g2, g3⟩ := hn.gl j cls hj
  obtain ⟨n1, n2, n3⟩ := kw_names (pos := pos) (env := X.env) hkn
  refine (pe_makeN M F (hc.rm.mono hkk) g1 hc.mg hb pass0 pWA pKw n1 n2 g2 he (by rw [hpl, n3]; rfl)).w ?_
  refine ha.run hn σ R H s _ fun vs R1 H1 ks1 Γ1 s1 e1 r1 ⟨ek, eg⟩ => ?_
  subst ek eg
  refine EKws.run hn hk s1 _ fun zs R2 H2 s2 e2 r2 => ⟨(aks_len r1).trans hm, (aks_len r2).trans (by rw [List.length_map]; exact hx), fun x dx hx0 hd0 hne => ?_⟩
  have sd := s2.grow (s2.newOwn (.own x) hd0)
  have hx1 : upd H2 dx (.own x) x = none := by rw [upd_ne (fun z => hne z.symm)]; exact hx0
  have s3 := sd.grow (sd.newOwn (.ins (He.ga X.K cls) dx []) hx1)
  have v0 : VOk X.K c Γ1 σ R2 (upd (upd H2 dx (.own x)) x (.ins (He.ga X.K cls) dx [])) (.own (.ins cls [])) (.ref x) := .fresh sd hx1 ⟨dx, [], upd_same, ⟨hc.ic, fun f hf => by cases hf⟩, rfl⟩
  obtain ⟨x', hxx, o1, o2, o3, o4⟩ := v0
  cases hxx
  have q1 : ParsOk X.K (fun a => a = x) R2 (upd (upd H2 dx (.own x)) x (.ins (He.ga X.K cls) dx [])) ps vs := pars_ok s3 (fun a z => .inl (by rw [z]; exact o3)) (r1.mono e2) hp fun i hi a o z1 z2 z3 => o4 i o z1 (by rw [z2, z3])
  have q2 : ParsOk X.K (fun a => a = x) R2 (upd (upd H2 dx (.own x)) x (.ins (He.ga X.K cls) dx [])) (xs.map Par.d) zs := pars_ok s3 (fun a z => .inl (by rw [z]; exact o3)) r2 (pars_d xs) fun i hi a o z1 z2 z3 => o4 i o z1 (by rw [z2, z3])
  obtain ⟨us, e3, q3, q4⟩ := hG _ _ _ vs zs ps (xs.map Par.d) (.ref x) q1 q2 (by rw [parsOk_len q1]; exact (aks_len r1).trans hm) (by rw [List.length_map]; exact hx) (parOi_of (i := 0) hp ho) (parOi_of (i := 0) (pars_d (Γ := Γ1) xs) (ownIx_d xs))
  obtain ⟨a1, a2⟩ := noOi (vs := us) q4
  rw [e3]
  have eo : ownAd (.own (.ins cls []) :: G ps (xs.map Par.d)) (V.ref x :: us) = [x] := by show adr (.ref x) :: ownAd _ us = [x]; rw [a1]; rfl
  refine ⟨R2, .own (.ins cls []) :: G ps (xs.map Par.d), _, s3.rh, ⟨_, us, rfl, ⟨x, rfl, o1, o2⟩, ?_⟩, by rw [eo]; simp, h, fun v R' H' r os A ro ow ⟨er, fs, eos, po⟩ => ?_⟩
  · rw [eo]
    have : (fun a => a ∈ [x]) = (fun a => a = x) := by funext a; simp
    rw [this]; exact q3
  · rw [eo] at A ow
    subst er eos
    obtain ⟨o, os', z1, z2, z3⟩ := ow
    cases z1
    refine ⟨ro, q (.ref x) R' H' _ Γ1 (s3.afterP A o3 o4) (e1.trans (e2.trans A.r)) ⟨x, rfl, z2, A.un x (by rw [upd_same]; simp) o2, o3, o4⟩ po⟩
end
end DL

end
section
set_option Elab.async false
set_option linter.all false
set_option autoImplicit true
set_option maxRecDepth 100000
set_option maxHeartbeats 1000000
/-! the head by one kernel run, with own classes: methods, getters, defaults -/
namespace DL
open PySem L2 NdefX He
open PyProof.Rows hiding St
/-- where a def stands -/
inductive At where
  | glo (x : Str) | meth (x m : Str) | get (x f : Str)
def propG (K : PySem.W.Frag) (C : Addr) (f : Str) : Addr := match PySem.W.recIn K (ma K C f) "property" with
  | some (.ref g :: _) => g
  | _ => 0
def At.ad (K : PySem.W.Frag) : At → Addr
  | .glo x => ga K x
  | .meth x m => ma K (ga K x) m
  | .get x f => propG K (ga K x) f
structure FnZ where
  at_ : At
  name : Str
  qual : Str
  st : Stmt
  dfl : List Dv := []
  kwd : List (Str × Dv) := []
def fnZ (K : PySem.W.Frag) (p : At) : FnW := match K.lookup (p.ad K) with
  | some ⟨_, _, .func fd, _⟩ => some (fd.name, fd.qualname, fd.params, fd.body, fd.scope, fd.globals, fd.closure, fd.builtins)
  | _ => none
def FnZ.val (d : FnZ) : FnW := some (d.name, d.qual, defArgs d.st, .stmts (defBody d.st), defScope d.st, mainGlobals, [], builtinsNs)
def FnZ.dvs (K : PySem.W.Frag) (d : FnZ) : List V := d.dfl.map (Dv.v K)
def FnZ.kws (K : PySem.W.Frag) (d : FnZ) : List (Str × V) := d.kwd.map fun q => (q.1, q.2.v K)
def FnZ.ok (K : PySem.W.Frag) (d : FnZ) : Bool := PySem.W.keepIn K (.ref (d.at_.ad K)) && (match K.lookup (d.at_.ad K) with
  | some ⟨_, _, .func fd, _⟩ => PySem.W.codeIn K fd.code d.qual && (dflB K fd.defaults (d.dvs K) && kwdB K fd.kwdefaults (d.kws K))
  | _ => false)
theorem FnZ.funD {K : PySem.W.Frag} {d : FnZ} (e : fnZ K d.at_ = d.val) (c : d.ok K = true) : ∃ fd, FunD K d.name d.qual (defArgs d.st) (defBody d.st) (defScope d.st) (d.dvs K) (d.kws K) (d.at_.ad K) fd := by
  obtain ⟨kp, c2⟩ := ba c
  unfold fnZ at e
  cases q : K.lookup (d.at_.ad K) with
  | none => rw [q] at c2; cases c2
  | some o =>
    obtain ⟨oc, od, dt, osl⟩ := o
    rw [q] at c2 e
    cases dt with
    | func fd =>
      obtain ⟨n1, n2, n3, n4, n5, n6, n7, n8, n9, n10, n11, n12, n13, n14, n15⟩ := fd
      have e2 : (some (n1, n2, n3, n4, n5, n6, n7, n15) : FnW) = some (d.name, d.qual, defArgs d.st, .stmts (defBody d.st), defScope d.st, mainGlobals, [], builtinsNs) := e
      simp only [Option.some.injEq, Prod.mk.injEq] at e2
      obtain ⟨h1, h2, h3, h4, h5, h6, h7, h8⟩ := e2
      subst h1 h2 h3 h4 h5 h6 h7 h8
      have c3 : (PySem.W.codeIn K n13 d.qual && (dflB K n8 (d.dvs K) && kwdB K n9 (d.kws K))) = true := c2
      obtain ⟨k1, k2⟩ := ba c3
      obtain ⟨k3, k4⟩ := ba k2
      exact ⟨_, ⟨oc, od, n8, n9, n10, n11, n12, n13, n14, osl, rfl, q, k1, dflB_ok k3, kwdB_ok k4⟩, kp⟩
    | _ => cases c2
theorem funD_fun {K : PySem.W.Frag} {x qual : Str} {st : Stmt} {kws : List (Str × V)} {f : Addr} {fd : FuncData} (F : FunD K x qual (defArgs st) (defBody st) (defScope st) [] kws f fd) : Fun K x qual st f fd := by
  obtain ⟨oc, od, dV, kV, doc, pm, an, cdv, ct, osl, e, lk, hcd, hD, _⟩ := F.ex
  rcases hD with ⟨_, rfl⟩ | ⟨h, _⟩
  · exact ⟨⟨oc, od, kV, doc, pm, an, cdv, ct, osl, e, lk, hcd⟩, F.kp⟩
  · exact absurd rfl h
/-- a keyword default that is an object; a default -/
def kwAt (f : At) (k : Str) (K : PySem.W.Frag) : Addr := match K.lookup (f.ad K) with
  | some ⟨_, _, .func fd, _⟩ => (match fd.kwdefaults with
    | .ref D => (match PySem.W.nsIn K D k with
      | some (some (.ref a)) => a
      | _ => 0)
    | _ => 0)
  | _ => 0
def dfAt (f : At) (i : Nat) (K : PySem.W.Frag) : Addr := match K.lookup (f.ad K) with
  | some ⟨_, _, .func fd, _⟩ => (match fd.defaults with
    | .ref T => (match K.lookup T with
      | some ⟨_, _, .seq its _, _⟩ => (match its.toList[i]? with
        | some (.ref a) => a
        | _ => 0)
      | _ => 0)
    | _ => 0)
  | _ => 0
def tupA (K : PySem.W.Frag) (a : Addr) (vs : List Dv) : Bool := match K.lookup a with
  | some ⟨.type c, _, .seq its _, _⟩ => decide (c = "tuple") && (decide (its.size ≤ sizeLine) && relAll (vs.map (Dv.v K)) its.toList)
  | _ => false
theorem tupA_ok {K : PySem.W.Frag} {a : Addr} {vs : List Dv} (h : tupA K a vs = true) (H : Hp) : SqT K H a (vs.map (Dv.v K)) := by
  unfold tupA at h
  cases q : K.lookup a with
  | none => rw [q] at h; cases h
  | some o =>
    obtain ⟨oc, od, dt, osl⟩ := o
    rw [q] at h
    cases oc with
    | type c =>
      cases dt with
      | seq its n =>
        obtain ⟨h1, h2⟩ := ba (show (decide (c = "tuple") && (decide (its.size ≤ sizeLine) && relAll (vs.map (Dv.v K)) its.toList)) = true from h)
        obtain ⟨h3, h4⟩ := ba h2
        exact .inr ⟨_, its, n, q, congrArg Value.type (of_decide_eq_true h1), rfl, of_decide_eq_true h3, relAll_ok h4⟩
      | _ => cases h
    | _ => cases dt <;> cases h
inductive Fy where
  | fx (f : Fx)
  | ins (x : Str)
  | prop (x f : Str)
  | tup (p : PySem.W.Frag → Addr) (vs : List Dv)
def Fy.ok (K : PySem.W.Frag) : Fy → Bool
  | .fx f => f.ok K
  | .ins x => [(Fa.cls x).ok K, eqO (PySem.W.findIn K (.ref (ga K x)) "__class__") (some (some (.builtin "object.__class__"))), eqO (PySem.W.specialIn K (.builtin "object.__class__") "__get__") (some (some (.builtin "getset_descriptor.__get__"))),
    decide (PySem.W.takesIn K (.builtin "object.__class__") = some true), decide (PySem.W.mroIn K (ga K x) (.type "object") = some true), (["bool", "int", "str", "list", "tuple", "dict"] : List String).all fun T => decide (PySem.W.kitOne K (.ref (ga K x)) (.type T) = some false)].all id
  | .prop x f => [eqO (PySem.W.findIn K (.ref (ga K x)) f) (some (some (.ref (ma K (ga K x) f)))), eqO (PySem.W.specialIn K (.ref (ma K (ga K x) f)) "__get__") (some (some (.builtin "property.__get__"))), decide (PySem.W.takesIn K (.ref (ma K (ga K x) f)) = some true),
    (match PySem.W.recIn K (ma K (ga K x) f) "property" with
      | some (.ref _ :: _) => true
      | _ => false)].all id
  | .tup p vs => tupA K (p K) vs
theorem fy_ins {K : PySem.W.Frag} {x : Str} (c : (Fy.ins x).ok K = true) : InsC K x :=
  ⟨cls_ok (all_at c 0), eqO_ok (all_at c 1), eqO_ok (all_at c 2), of_decide_eq_true (all_at c 3), of_decide_eq_true (all_at c 4), fun T hT => of_decide_eq_true (List.all_eq_true.mp (all_at c 5) T hT)⟩
theorem fy_prop {K : PySem.W.Frag} {x f : Str} (c : (Fy.prop x f).ok K = true) : PropOf K (ga K x) f (ma K (ga K x) f) (propG K (ga K x) f) := by
  refine ⟨eqO_ok (all_at c 0), eqO_ok (all_at c 1), of_decide_eq_true (all_at c 2), ?_⟩
  have h := all_at c 3
  unfold propG
  split at h
  · rename_i g r e
    rw [e]; exact ⟨_, rfl⟩
  · cases h
theorem fy_tup {K : PySem.W.Frag} {p : PySem.W.Frag → Addr} {i j : Int} (c : (Fy.tup p [.int i, .int j]).ok K = true) : ∀ R, Rp K R (.tup [.int i, .int j]) (.ref (p K)) := fun R =>
  ⟨p K, [.int i, .int j], rfl, tupA_ok (vs := [.int i, .int j]) c R, ⟨_, _, rfl, rfl, _, _, rfl, rfl, rfl⟩⟩
/-! ### the Hook -/
structure TopE where
  mf : Str
  nm : List Str
  cl : List Str
  fx : List Fy
  fn : List FnZ
  ex : List InD
abbrev AlE : Type := Bool × List FnW × List InV
def obsE (T : TopE) (K : PySem.W.Frag) : AlE := ([T.fx.all fun f => f.ok K, T.fn.all fun d => d.ok K, T.ex.all fun e => (exL T.mf K e).all id].all id, T.fn.map fun d => fnZ K d.at_, T.ex.map fun e => inObs K e.nm)
def valE (T : TopE) : AlE := (true, T.fn.map FnZ.val, T.ex.map InD.val)
def SaysE (T : TopE) (K : PySem.W.Frag) : Prop := obsE T K = valE T
/-- what they name, n steps deep -/
def reach (g : Addr → Option Obj) : Nat → List Addr → List Addr
  | 0, as => as
  | n + 1, as => as ++ reach g n (as.flatMap (refsAt g))
def asE (g : Addr → Option Obj) (nms cls exs : List Str) : List Addr :=
  asX g nms exs ++ reach g 3 ((cls.map (ga (frG g [mainGlobals]))).flatMap (refsAt g))
def KE (T : TopE) (g : Addr → Option Obj) : PySem.W.Frag := frG g (asE g T.nm T.cl (T.ex.map (·.nm)))
def obsEG (T : TopE) (g : Addr → Option Obj) : AlE := obsE T (KE T g)
def hookE (T : TopE) : PySem.W.Hook where
  α := AlE
  obs := fun s => obsEG T s.heap.get?
  val := fun _ => valE T
  says := fun _ h => ∃ K : PySem.W.Frag, K.In h ∧ SaysE T K
  of := fun _ _ e => ⟨_, frG_in, e⟩
  keeps := fun _ _ _ ⟨K, hK, c⟩ k => ⟨K, PySem.W.Frag.In.keeps hK k, c⟩
theorem obsEG_eq {T : TopE} {g : Addr → Option Obj} {s : Shared} (h : ∀ a, g a = s.heap.get? a) : obsEG T g = (hookE T).obs s := by
  have e : g = s.heap.get? := funext h
  rw [e] <;> rfl
def obFy (T : TopE) (l : List Fy) (s : PySem.W.SharedT) : Bool := l.all fun f => f.ok (KE T (HandSHeadRun.getT s))
def obFz (T : TopE) (l : List FnZ) (s : PySem.W.SharedT) : Bool × List FnW := (l.all fun d => d.ok (KE T (HandSHeadRun.getT s)), l.map fun d => fnZ (KE T (HandSHeadRun.getT s)) d.at_)
def obEz (T : TopE) (l : List InD) (s : PySem.W.SharedT) : Bool × List InV := (l.all fun e => (exL T.mf (KE T (HandSHeadRun.getT s)) e).all id, l.map fun e => inObs (KE T (HandSHeadRun.getT s)) e.nm)
open PySem.W PySem.Calls in
theorem run_splitE {r : OpenRow} {q : Program} {T : TopE} {M : Nat} {loose : List PySem.Str} {w : World}
    (h0 : ∀ os : OsState, (endS r M w os).map (lookS r q loose w) = some (true, openGood q loose)) (hB : ∀ os : OsState, (endS r M w os).map (fun s => (obFy T T.fx s, obFz T T.fn s, obEz T T.ex s)) = some (true, (true, T.fn.map FnZ.val), (true, T.ex.map InD.val))) :
    HandSHeadRun.RunEq r q (hookE T) (fun s => obsEG T (HandSHeadRun.getT s)) M loose w := fun os => by
  obtain ⟨s, hs, p0⟩ := Option.map_eq_some_iff.mp (h0 os)
  have e2 := hB os
  rw [hs] at e2
  have e2 : (obFy T T.fx s, obFz T T.fn s, obEz T T.ex s) = (true, (true, T.fn.map FnZ.val), (true, T.ex.map InD.val)) := Option.some.inj e2
  have a1 : obFy T T.fx s = true := congrArg (fun z => z.1) e2
  have a2 : obFz T T.fn s = (true, T.fn.map FnZ.val) := congrArg (fun z => z.2.1) e2
  have a3 : obEz T T.ex s = (true, T.ex.map InD.val) := congrArg (fun z => z.2.2) e2
  have b1 := congrArg (fun z => z.1) a2
  have b2 := congrArg (fun z => z.2) a2
  have b3 := congrArg (fun z => z.1) a3
  have b4 := congrArg (fun z => z.2) a3
  have eo : obsEG T (HandSHeadRun.getT s) = valE T := by
    refine (ob3 a1 b1 b3).trans ?_
    exact congrArg (Prod.mk true) (Prod.ext b2 b4)
  have hp1 := congrArg (fun z => z.1) p0
  have hp2 := congrArg (fun z => z.2) p0
  show (endS r M w os).map _ = _
  rw [hs]
  exact congrArg some (Prod.ext hp1 (Prod.ext hp2 eo))
section
variable {T : TopE} {K : PySem.W.Frag}
theorem SaysE.fact (c : SaysE T K) (i : Nat) {f : Fy} (h : T.fx[i]? = some f := by rfl) : f.ok K = true := by
  have c1 := all_at (show [T.fx.all fun f => f.ok K, T.fn.all fun d => d.ok K, T.ex.all fun e => (exL T.mf K e).all id].all id = true from congrArg (fun z : AlE => z.1) c) 0
  exact List.all_eq_true.mp c1 f (List.mem_of_getElem? h)
theorem SaysE.factX (c : SaysE T K) (i : Nat) {f : Fx} (h : T.fx[i]? = some (.fx f) := by rfl) : f.ok K = true := c.fact i h
theorem SaysE.factA (c : SaysE T K) (i : Nat) {f : Fa} (h : T.fx[i]? = some (.fx (.fa f)) := by rfl) : f.ok K = true := c.factX i h
theorem SaysE.def_ (c : SaysE T K) (i : Nat) {d : FnZ} (h : T.fn[i]? = some d := by rfl) : ∃ fd, FunD K d.name d.qual (defArgs d.st) (defBody d.st) (defScope d.st) (d.dvs K) (d.kws K) (d.at_.ad K) fd := by
  have c1 := all_at (show [T.fx.all fun f => f.ok K, T.fn.all fun d => d.ok K, T.ex.all fun e => (exL T.mf K e).all id].all id = true from congrArg (fun z : AlE => z.1) c) 1
  have c2 := List.all_eq_true.mp c1 _ (List.mem_of_getElem? h)
  have e : T.fn.map (fun d => fnZ K d.at_) = T.fn.map FnZ.val := congrArg (fun z : AlE => z.2.1) c
  have e2 : (T.fn.map fun d => fnZ K d.at_)[i]? = (T.fn.map FnZ.val)[i]? := by rw [e]
  rw [List.getElem?_map, List.getElem?_map, h] at e2
  exact FnZ.funD (Option.some.inj e2) c2
theorem SaysE.err (c : SaysE T K) (i : Nat) {e : InD} (h : T.ex[i]? = some e := by rfl) : inObs K e.nm = e.val ∧ (exL T.mf K e).all id = true := by
  have c1 := all_at (show [T.fx.all fun f => f.ok K, T.fn.all fun d => d.ok K, T.ex.all fun e => (exL T.mf K e).all id].all id = true from congrArg (fun z : AlE => z.1) c) 2
  have e0 : T.ex.map (fun e => inObs K e.nm) = T.ex.map InD.val := congrArg (fun z : AlE => z.2.2) c
  have e2 : (T.ex.map fun e => inObs K e.nm)[i]? = (T.ex.map InD.val)[i]? := by rw [e0]
  rw [List.getElem?_map, List.getElem?_map, h] at e2
  exact ⟨Option.some.inj e2, List.all_eq_true.mp c1 _ (List.mem_of_getElem? h)⟩
/-- a def of the module's, as Fun -/
theorem SaysE.fn (c : SaysE T K) (i : Nat) {x : Str} {st : Stmt} (h : T.fn[i]? = some ⟨.glo x, x, x, st, [], []⟩ := by rfl) : ∃ fd, Fun K x x st (ga K x) fd := (c.def_ i h).imp fun _ F => funD_fun F
end
/-! ### methods, getters, classes as the top has left them -/
/-- a method without defaults -/
structure MethAt (K : PySem.W.Frag) (cls m : Str) (qual : Str) (st : Stmt) (ps : List Str) where
  fd : FuncData
  F : Fun K m qual st (ma K (ga K cls) m) fd
  m : Meth K (ga K cls) m (ma K (ga K cls) m)
  b : Binds K fd ps []
  ic : InsC K cls
structure GetAt (K : PySem.W.Frag) (cls f : Str) (qual : Str) (st : Stmt) (ps : List Str) where
  fd : FuncData
  F : Fun K f qual st (propG K (ga K cls) f) fd
  p : PropOf K (ga K cls) f (ma K (ga K cls) f) (propG K (ga K cls) f)
  b : Binds K fd ps []
  ic : InsC K cls
theorem binds_of {K : PySem.W.Frag} {nm qual : Str} {st : Stmt} {f : Addr} {fd : FuncData} {ps : List Str} (F : Fun K nm qual st f fd)
    (hb : ∀ (kV doc pm : Value) (an : Option Addr) (cdv ct : Value) (us : List Value), us.length = ps.length → bindArgs (PySem.W.fnOf nm qual (defArgs st) (defBody st) (defScope st) .none kV doc pm an cdv ct) ⟨us, []⟩ = pure (ps.zip us)) : Binds K fd ps [] :=
  .all fun us hl => by
    obtain ⟨oc, od, kV, doc, pm, an, cdv, ct, osl, e, _⟩ := F.ex
    rw [e]; exact hb kV doc pm an cdv ct us hl
noncomputable def methX {K : PySem.W.Frag} {cls m qual : Str} {st : Stmt} {ps : List Str} {kws : List (Str × V)} (ic : InsC K cls) (F : ∃ fd, FunD K m qual (defArgs st) (defBody st) (defScope st) [] kws (ma K (ga K cls) m) fd) (hm : (Fa.meth cls m).ok K = true)
    (hb : ∀ (kV doc pm : Value) (an : Option Addr) (cdv ct : Value) (us : List Value), us.length = ps.length → bindArgs (PySem.W.fnOf m qual (defArgs st) (defBody st) (defScope st) .none kV doc pm an cdv ct) ⟨us, []⟩ = pure (ps.zip us)) : MethAt K cls m qual st ps :=
  ⟨Classical.choose F, funD_fun (Classical.choose_spec F), meth_ok hm, binds_of (funD_fun (Classical.choose_spec F)) hb, ic⟩
noncomputable def getX {K : PySem.W.Frag} {cls f qual : Str} {st : Stmt} {ps : List Str} (ic : InsC K cls) (F : ∃ fd, FunD K f qual (defArgs st) (defBody st) (defScope st) [] [] (propG K (ga K cls) f) fd) (hm : (Fy.prop cls f).ok K = true)
    (hb : ∀ (kV doc pm : Value) (an : Option Addr) (cdv ct : Value) (us : List Value), us.length = ps.length → bindArgs (PySem.W.fnOf f qual (defArgs st) (defBody st) (defScope st) .none kV doc pm an cdv ct) ⟨us, []⟩ = pure (ps.zip us)) : GetAt K cls f qual st ps :=
  ⟨Classical.choose F, funD_fun (Classical.choose_spec F), fy_prop hm, binds_of (funD_fun (Classical.choose_spec F)) hb, ic⟩
theorem MethAt.cal {X : Cx} {cls m qual : Str} {st : Stmt} {ps : List Str} {k k0 : Nat} {S : Sg} (d : MethAt X.K cls m qual st ps) (F : FnOk X.prog X.w X.K X.mg X.base CX0 k0 (ma X.K (ga X.K cls) m) d.fd ps (spOf X.K S)) (h : k0 ≤ k) (rm : Room k X.A) : CalM X k cls m S :=
  ⟨rm, d.ic, _, d.fd, ps, k0, F, h, d.m, d.b⟩
theorem GetAt.cal {X : Cx} {cls f qual : Str} {st : Stmt} {ps : List Str} {k k0 : Nat} {S : Sg} (d : GetAt X.K cls f qual st ps) (F : FnOk X.prog X.w X.K X.mg X.base CX0 k0 (propG X.K (ga X.K cls) f) d.fd ps (spOf X.K S)) (h : k0 + 1 ≤ k) (rm : Room k X.A) : CalP X k cls f S :=
  ⟨rm, d.ic, _, _, d.fd, ps, k0, F, h, d.p, d.b⟩
def methOf (s : Stmt) (j : Nat) : Stmt := match s with
  | .ClassDef _ _ _ b _ _ _ _ _ _ _ => b.getD j (.Pass ⟨0, 0, 0, 0⟩)
  | _ => .Pass ⟨0, 0, 0, 0⟩
/-- an own class that is called: its __init__, keyword defaults kws that are the data kwD -/
structure InitAt (K : PySem.W.Frag) (mg : Str → Option Value) (cls qual : Str) (st : Stmt) (ps : List Str) (kws : List (Str × V)) where
  fd : FuncData
  F : FunD K "__init__" qual (defArgs st) (defBody st) (defScope st) [] kws (ma K (ga K cls) "__init__") fd
  mak : Mk K (ga K cls) (ma K (ga K cls) "__init__")
  mg : mg cls = some (.ref (ga K cls))
  ic : InsC K cls
noncomputable def initX {K : PySem.W.Frag} {h : Heap} {mg : Str → Option Value} {cls qual : Str} {st : Stmt} {ps : List Str} {kws : List (Str × V)} (X : K.In h) (G : h.Ns mainGlobals mg) (ic : InsC K cls) (F : ∃ fd, FunD K "__init__" qual (defArgs st) (defBody st) (defScope st) [] kws (ma K (ga K cls) "__init__") fd) (hm : (Fa.mkr cls).ok K = true) (hg : (Fa.glo cls).ok K = true) : InitAt K mg cls qual st ps kws :=
  ⟨Classical.choose F, Classical.choose_spec F, mkr_ok hm, glo_ok X G hg, ic⟩
theorem InitAt.Fn {K : PySem.W.Frag} {mg : Str → Option Value} {cls qual : Str} {st : Stmt} {ps : List Str} {kws : List (Str × V)} (d : InitAt K mg cls qual st ps kws) : Fun K "__init__" qual st (ma K (ga K cls) "__init__") d.fd := funD_fun d.F
theorem parsOk_app {K : PySem.W.Frag} {M : Addr → Prop} {R H : Hp} : ∀ {ps qs : List Par} {vs ws : List V}, ParsOk K M R H ps vs → ParsOk K M R H qs ws → ParsOk K M R H (ps ++ qs) (vs ++ ws)
  | [], _, _, _, h, h2 => by cases (show _ = _ from h); exact h2
  | p :: ps, _, _, _, ⟨v, us, e, h1, h2⟩, h3 => by subst e; exact ⟨v, _, rfl, h1, parsOk_app h2 h3⟩
theorem parOi_sh : ∀ {ps : List Par} {i j : Nat}, parOi i ps = [] → parOi j ps = []
  | [], _, _, _ => rfl
  | p :: ps, i, j, h => by
    cases p with
    | own o => cases h
    | d x => exact parOi_sh (ps := ps) (i := i + 1) (j := j + 1) h
    | w x => exact parOi_sh (ps := ps) (i := i + 1) (j := j + 1) h
    | sc x => exact parOi_sh (ps := ps) (i := i + 1) (j := j + 1) h
theorem parOi_app : ∀ {ps qs : List Par} {i : Nat}, parOi i ps = [] → parOi i qs = [] → parOi i (ps ++ qs) = []
  | [], _, _, _, h => h
  | p :: ps, qs, i, h, h2 => by
    cases p with
    | own o => cases h
    | d x => exact parOi_app (ps := ps) (i := i + 1) h (parOi_sh h2)
    | w x => exact parOi_app (ps := ps) (i := i + 1) h (parOi_sh h2)
    | sc x => exact parOi_app (ps := ps) (i := i + 1) h (parOi_sh h2)
theorem parOi_d : ∀ {xs : List D} {i : Nat}, parOi i (xs.map Par.d) = []
  | [], _ => rfl
  | x :: xs, i => parOi_d (xs := xs) (i := i + 1)
theorem parsOk_d {K : PySem.W.Frag} {M : Addr → Prop} {R H : Hp} : ∀ {xs : List D} {vs : List V}, RpL K R xs vs → ParsOk K M R H (xs.map Par.d) vs
  | [], _, h => by cases (show _ = _ from h); rfl
  | x :: xs, _, ⟨v, ws, e, h1, h2⟩ => by subst e; exact ⟨v, ws, rfl, h1, parsOk_d h2⟩
theorem ParsOk.take {K : PySem.W.Frag} {M : Addr → Prop} {R H : Hp} : ∀ {ps : List Par} {vs : List V} (i : Nat), ParsOk K M R H ps vs → ParsOk K M R H (ps.take i) (vs.take i)
  | [], _, i, h => by cases (show _ = _ from h); simp [ParsOk]
  | p :: ps, _, 0, h => by simp [ParsOk]
  | p :: ps, _, i + 1, ⟨v, ws, e, h1, h2⟩ => by subst e; exact ⟨v, _, rfl, h1, h2.take i⟩
theorem ParsOk.drop {K : PySem.W.Frag} {M : Addr → Prop} {R H : Hp} : ∀ {ps : List Par} {vs : List V} (i : Nat), ParsOk K M R H ps vs → ParsOk K M R H (ps.drop i) (vs.drop i)
  | [], _, i, h => by cases (show _ = _ from h); simp [ParsOk]
  | p :: ps, _, 0, h => h
  | p :: ps, _, i + 1, ⟨v, ws, e, h1, h2⟩ => by subst e; exact h2.drop i
theorem parOi_take : ∀ {ps : List Par} {i j k : Nat}, parOi i ps = [] → parOi k (ps.take j) = []
  | [], _, j, _, _ => by simp [parOi]
  | p :: ps, _, 0, _, _ => by simp [parOi]
  | p :: ps, i, j + 1, k, h => by
    cases p with
    | own o => cases h
    | d x => exact parOi_take (ps := ps) (i := i + 1) (k := k + 1) h
    | w x => exact parOi_take (ps := ps) (i := i + 1) (k := k + 1) h
    | sc x => exact parOi_take (ps := ps) (i := i + 1) (k := k + 1) h
theorem parOi_drop : ∀ {ps : List Par} {i j k : Nat}, parOi i ps = [] → parOi k (ps.drop j) = []
  | [], _, j, _, _ => by simp [parOi]
  | p :: ps, i, 0, k, h => parOi_sh h
  | p :: ps, i, j + 1, k, h => by
    cases p with
    | own o => cases h
    | d x => exact parOi_drop (ps := ps) (i := i + 1) h
    | w x => exact parOi_drop (ps := ps) (i := i + 1) h
    | sc x => exact parOi_drop (ps := ps) (i := i + 1) h
/-- the keywords that lack stand behind the first i of those that are written -/
theorem InitAt.cal {X : Cx} {cls qual : Str} {st : Stmt} {ps kns : List Str} {kws ms : List (Str × V)} {k k0 np : Nat} {S : Sg} (d : InitAt X.K X.mg cls qual st ps kws) (i : Nat) (F : FnOk X.prog X.w X.K X.mg X.base CX0 k0 (ma X.K (ga X.K cls) "__init__") d.fd ps (spOf X.K S)) (h : k0 + 1 ≤ k) (rm : Room k X.A)
    (kb : ∃ mv : List Value, KBn X.K d.fd ps (np + 1) kns (fun us ws => us ++ (ws.take i ++ (mv ++ ws.drop i))) (fun vs zs => vs ++ (zs.take i ++ (ms.map (·.2) ++ zs.drop i)))) (msD : List D) (hms : ∀ R, RpL X.K R msD (ms.map (·.2))) : CalN X k cls np kns (fun pv pz => pv ++ (pz.take i ++ (msD.map Par.d ++ pz.drop i))) S := by
  obtain ⟨mv, kb⟩ := kb
  refine ⟨rm, d.ic, d.mg, _, d.fd, ps, k0, _, _, d.mak, F, h, kb, fun M R H vs zs pv pz v h1 h2 _ _ h5 h6 => ⟨vs ++ (zs.take i ++ (ms.map (·.2) ++ zs.drop i)), rfl, parsOk_app h1 (parsOk_app (h2.take i) (parsOk_app (parsOk_d (hms R)) (h2.drop i))), parOi_app h5 (parOi_app (parOi_take h6) (parOi_app parOi_d (parOi_drop h6)))⟩⟩
end DL

end
section
set_option Elab.async false
set_option linter.all false
set_option autoImplicit true
set_option maxRecDepth 100000
set_option maxHeartbeats 400000
/-! steering: what a display holds, its answers -/
namespace DL
open PySem L2
open PyProof.Rows hiding St
structure StQ where
  slew : Rat
  drift : Rat
  step : Option Rat
  at_ : Rat
  ps : List Pc
  bound : Rat
  half : Rat
  aim : Option Rat
def StQ.fs (s : StQ) : List (Str × D) := [("slew_told", qD s.slew), ("drift_told", qD s.drift), ("step_told", oD s.step), ("steered_at", qD s.at_), ("steered_pieces", cD s.ps), ("steered_bound", qD s.bound), ("steered_half", qD s.half), ("steered_aim", oD s.aim)]
abbrev StQ.D (s : StQ) : DL.D := .ins "Steering" s.fs
abbrev StQ.O (s : StQ) : OB := .ins "Steering" s.fs
/-- what a course shows at t -/
def atQ (c : List Pc) (t : Rat) : Rat := match c[placeN c t]? with
  | some p => pline p t
  | none => 0
def farQ (lo hi t : Rat) : Rat := maxQ (absQ (t - lo)) (absQ (t - hi))
def followQ (sp : Spn) (shown bound : Rat) : Spn := (meetQ sp (some (shown - bound), some (shown + bound))).getD sp
def rateQ (shown aim slew : Rat) : Rat := if shown < aim then 1 + slew else 1 - slew
def lenQ (shown aim slew : Rat) : Rat := absQ (aim - shown) / slew
def towardsQ (raw shown aim slew : Rat) : List Pc := if aim = shown then [(raw, shown, 1)] else [(raw, shown, rateQ shown aim slew), (raw + lenQ shown aim slew, aim + lenQ shown aim slew, 1)]
def StQ.err (s : StQ) (r : Rat) : Rat := behQ s.bound s.half (r - s.at_) s.slew s.drift
/-- behind a call of steer with no closed span; with one that is followed from lo to hi -/
def StQ.idle (s : StQ) (raw : Rat) : StQ := { s with at_ := raw, ps := tidyQ (s.ps.filter (fun p => decide (p.1 < raw)) ++ [(raw, atQ s.ps raw, 1)]), bound := s.err raw, half := s.err raw, aim := none }
def StQ.jumps (s : StQ) (shown aim : Rat) : Bool := match s.step with
  | some d => decide (d < aim - shown)
  | none => false
def StQ.plan (s : StQ) (raw lo hi : Rat) : List Pc := if s.jumps (atQ s.ps raw) ((lo + hi) * fr 1 2) then [(raw, (lo + hi) * fr 1 2, 1)] else towardsQ raw (atQ s.ps raw) ((lo + hi) * fr 1 2) s.slew
def StQ.goto (s : StQ) (raw lo hi : Rat) : StQ := { s with at_ := raw, ps := tidyQ (s.ps.filter (fun p => decide (p.1 < raw)) ++ s.plan raw lo hi), bound := if s.jumps (atQ s.ps raw) ((lo + hi) * fr 1 2) then (hi - lo) / fr 2 1 else farQ lo hi (atQ s.ps raw), half := (hi - lo) / fr 2 1, aim := some ((lo + hi) * fr 1 2) }
def ST_shownat (CB : Addr) : SgX := fun ps Post Xp => ∃ (c : List Pc) (p : Pc) (t : Rat) (s u v w : Nat), ps = [.w (cD c), .d (qD t)] ∧ c[0]? = some p ∧ Cz s u v c ∧ Sz w t ∧ s + u + v + w + 10 ≤ 7900 ∧ c.length ≤ 100000 ∧ (¬ t < p.1 → Post (.d (qD (atQ c t)))) ∧ (t < p.1 → Xp CB [("value", qD t)])
def ST_middle : Sg := fun ps Post => ∃ (a b : Rat) (j k : Nat), ps = [.d (sD (some a, some b))] ∧ Sz j a ∧ Sz k b ∧ j + k + 10 ≤ 7900 ∧ Post (.d (qD ((a + b) * fr 1 2))) []
def ST_width : Sg := fun ps Post => ∃ (a b : Rat) (j k : Nat), ps = [.d (sD (some a, some b))] ∧ Sz j a ∧ Sz k b ∧ j + k + 10 ≤ 7900 ∧ Post (.d (qD (b - a))) []
def ST_far : Sg := fun ps Post => ∃ (a b t : Rat) (j k : Nat), ps = [.d (sD (some a, some b)), .d (qD t)] ∧ Sz j a ∧ Sz j b ∧ Sz k t ∧ 2 * j + 2 * k + 10 ≤ 7900 ∧ Post (.d (qD (farQ a b t))) []
def ST_follow : Sg := fun ps Post => ∃ (s : Spn) (x b : Rat) (i j k : Nat), ps = [.d (sD s), .d (qD x), .d (qD b)] ∧ SzS i s ∧ Sz j x ∧ Sz k b ∧ i + j + k + 10 ≤ 3900 ∧ Post (.d (sD (followQ s x b))) []
/-- sizes of what leads from shown to aim -/
structure SzT (raw shown aim slew : Rat) : Prop where
  zr : Sz 300 raw
  zs : Sz 300 shown
  za : Sz 300 aim
  zl : Sz 60 slew
  n0 : slew ≠ 0
  zi : Sz 60 slew⁻¹
  zn : Sz 300 (lenQ shown aim slew)
def ST_towards : Sg := fun ps Post => ∃ raw shown aim slew : Rat, ps = [.d (qD raw), .d (qD shown), .d (qD aim), .d (qD slew)] ∧ SzT raw shown aim slew ∧ Post (.own (.lst ((towardsQ raw shown aim slew).map pD))) []
def ST_behindG : Sg := fun ps Post => ∃ (b h l s d : Rat) (kb kh kl ks kd : Nat), ps = [.d (qD b), .d (qD h), .d (qD l), .d (qD s), .d (qD d)] ∧ Sz kb b ∧ Sz kh h ∧ Sz kl l ∧ Sz ks s ∧ Sz kd d ∧ kb + kh + ks + kd + 2 * kl + 10 ≤ 7900 ∧ Post (.d (qD (behQ b h l s d))) []
/-- sizes of a steering -/
structure StQ.sz (s : StQ) : Prop where
  za : Sz 300 s.at_
  zp : Cz 300 300 70 s.ps
  np : s.ps.length ≤ 1000
  zb : Sz 700 s.bound
  zh : Sz 700 s.half
  zs : Sz 60 s.slew
  zd : Sz 60 s.drift
  zo : SzO 300 s.step
def ST_errat : Sg := fun ps Post => ∃ (s : StQ) (r : Rat), ps = [.w s.D, .d (qD r)] ∧ s.sz ∧ Sz 300 r ∧ ¬ r < s.at_ ∧ Post (.d (qD (s.err r))) []
def ST_display : Sg := fun ps Post => ∃ (s : StQ) (p : Pc) (r : Rat), ps = [.w s.D, .d (qD r)] ∧ s.sz ∧ s.ps[0]? = some p ∧ Sz 300 r ∧ ¬ r < p.1 ∧ Post (.d (qD (atQ s.ps r))) []
def ST_courseof : Sg := fun ps Post => ∃ s : StQ, ps = [.w s.D] ∧ s.sz ∧ s.ps ≠ [] ∧ Post (.own (.lst ((tidyQ s.ps).map pD))) []
def ST_aim : Sg := fun ps Post => ∃ s : StQ, ps = [.w s.D] ∧ Post (.d (oD s.aim)) []
def stQ0 (raw shown err slew drift : Rat) (step : Option Rat) : StQ := ⟨slew, drift, step, raw, [(raw, shown, 1)], err, err, none⟩
theorem goodS_no {s d e : Rat} (h : BadS s d e) : ¬ GoodS s d := fun ⟨h1, h2, h3, h4⟩ => by
  rcases h with ⟨h | h, _⟩ | ⟨_, _, h | h, _⟩
  · exact h h1
  · exact h h2
  · exact h3 h
  · exact h h4
def GoodO (o : Option Rat) : Prop := ∀ d, o = some d → ¬ d < 0
def ST_init : Sg := fun ps Post => ∃ (raw shown err slew drift : Rat) (step : Option Rat), ps = [.own (.ins "Steering" []), .d (qD raw), .d (qD shown), .d (qD err), .d (qD slew), .d (qD drift), .d (oD step)] ∧ ¬ err < 0 ∧ GoodS slew drift ∧ GoodO step ∧ Sz 700 err ∧ Sz 60 slew ∧ Sz 60 drift ∧ SzO 300 step ∧
  Post (.d .non) [(stQ0 raw shown err slew drift step).O]
def closeQ (lo hi shown bound : Rat) : Rat × Rat := if minQ hi (shown + bound) < maxQ lo (shown - bound) then (lo, hi) else (maxQ lo (shown - bound), minQ hi (shown + bound))
theorem follow_close (lo hi x b : Rat) : followQ (some lo, some hi) x b = (some (closeQ lo hi x b).1, some (closeQ lo hi x b).2) := by
  unfold followQ meetQ closeQ
  simp only [meetLo, meetHi, crossB]
  by_cases h : minQ hi (x + b) < maxQ lo (x - b)
  · simp [h]
  · simp [h]
def StQ.after (s : StQ) (raw : Rat) (sp : Option Spn) : StQ := match sp with
  | some (some lo, some hi) => s.goto raw (closeQ lo hi (atQ s.ps raw) (s.err raw)).1 (closeQ lo hi (atQ s.ps raw) (s.err raw)).2
  | _ => s.idle raw
def StQ.planO (s : StQ) (raw : Rat) (sp : Option Spn) : List Pc := match sp with
  | some (some lo, some hi) => s.plan raw (closeQ lo hi (atQ s.ps raw) (s.err raw)).1 (closeQ lo hi (atQ s.ps raw) (s.err raw)).2
  | _ => [(raw, atQ s.ps raw, 1)]
theorem StQ.after_eq (s : StQ) (raw : Rat) (sp : Option Spn) : s.after raw sp = { s with at_ := raw, ps := tidyQ (s.ps.filter (fun p => decide (p.1 < raw)) ++ s.planO raw sp), bound := (s.after raw sp).bound, half := (s.after raw sp).half, aim := (s.after raw sp).aim } := by
  unfold StQ.after StQ.planO
  split <;> rfl
theorem StQ.planO_ne (s : StQ) (raw : Rat) (sp : Option Spn) : s.planO raw sp ≠ [] := by
  unfold StQ.planO StQ.plan towardsQ
  split
  · split
    · simp
    · split <;> simp
  · simp
theorem StQ.planO_len (s : StQ) (raw : Rat) (sp : Option Spn) : (s.planO raw sp).length ≤ 2 := by
  unfold StQ.planO StQ.plan towardsQ
  split
  · split
    · simp
    · split <;> simp
  · simp
def opnB : Option Spn → Bool
  | some (some _, some _) => false
  | _ => true
theorem opn_after {s : StQ} {raw : Rat} {sp : Option Spn} (h : opnB sp = true) : s.after raw sp = s.idle raw ∧ s.planO raw sp = [(raw, atQ s.ps raw, 1)] := by
  unfold StQ.after StQ.planO
  split
  · cases h
  · exact ⟨rfl, rfl⟩
theorem opn_no {sp : Option Spn} (h : opnB sp = false) : ∃ lo hi, sp = some (some lo, some hi) := by
  unfold opnB at h
  split at h
  · exact ⟨_, _, rfl⟩
  · cases h
/-- what a call of steer wants of its values -/
structure SteerZ (s : StQ) (raw : Rat) (sp : Option Spn) : Prop where
  z : s.sz
  zr : Sz 300 raw
  p0 : ∃ p, s.ps[0]? = some p ∧ ¬ raw < p.1
  na : ¬ raw < s.at_
  zsh : Sz 300 (atQ s.ps raw)
  ze : Sz 700 (s.err raw)
  zc : ∀ lo hi, sp = some (some lo, some hi) → Sz 300 lo ∧ Sz 300 hi ∧ Sz 300 (closeQ lo hi (atQ s.ps raw) (s.err raw)).1 ∧ Sz 300 (closeQ lo hi (atQ s.ps raw) (s.err raw)).2 ∧
    SzT raw (atQ s.ps raw) (((closeQ lo hi (atQ s.ps raw) (s.err raw)).1 + (closeQ lo hi (atQ s.ps raw) (s.err raw)).2) * fr 1 2) s.slew
  zo : ∀ lo hi, sp = some (lo, hi) → SzO 300 lo ∧ SzO 300 hi
  zp : Cz 300 300 70 (s.planO raw sp)
def ST_steer : Sg := fun ps Post => ∃ (s : StQ) (raw : Rat) (sp : Option Spn), ps = [.own s.O, .d (qD raw), .d (oS sp)] ∧ SteerZ s raw sp ∧ Post (.d .non) [(s.after raw sp).O]
end DL

end
section
set_option Elab.async false
set_option linter.all false
set_option autoImplicit true
set_option maxRecDepth 100000
set_option maxHeartbeats 400000
/-! k34: the law's own reading of a steering -/
namespace DL
open PySem L2
open PyProof.Rows hiding St
def ST_shownl : Sg := fun ps Post => ∃ (c : List Pc) (x : Rat) (s t r w : Nat), ps = [.w (cD c), .d (qD x)] ∧ Cz s t r c ∧ Sz w x ∧ s + t + r + w + 30 ≤ 7900 ∧ c.length ≤ 100000 ∧ Post (.d (oD (nowQ c x))) []
theorem now_step {c : List Pc} {i : Nat} {p : Pc} {x : Rat} (h : c[i]? = some p) : nowQ (c.take (i + 1)) x = if past x p then some (pline p x) else nowQ (c.take i) x := by
  unfold nowQ
  rw [flt_step h]
  cases past x p with
  | true => simp
  | false => simp
/-- the state of a display: steered at, shown, its rate, how long, the bound, half -/
structure KS where
  at_ : Rat
  y : Rat
  r : Rat
  len : Rat
  b : Rat
  h : Option Rat
abbrev KS.D (k : KS) : DL.D := .tup [qD k.at_, qD k.y, qD k.r, qD k.len, qD k.b, oD k.h]
def KS.now (k : KS) (raw : Rat) : Rat := (k.y + k.r * (if raw - k.at_ < k.len then raw - k.at_ else k.len)) + ((raw - k.at_) - (if raw - k.at_ < k.len then raw - k.at_ else k.len))
structure KS.sz (k : KS) : Prop where
  za : Sz 300 k.at_
  zy : Sz 300 k.y
  zr : Sz 70 k.r
  zl : Sz 300 k.len
  zb : Sz 700 k.b
  zh : SzO 700 k.h
def ST_lnow : Sg := fun ps Post => ∃ (k : KS) (raw : Rat), ps = [.d k.D, .d (qD raw)] ∧ k.sz ∧ Sz 300 raw ∧ Post (.d (qD (k.now raw))) []
def bothQ (a b c d : Rat) : Option (Rat × Rat) := if minQ b d < maxQ a c then none else some (maxQ a c, minQ b d)
/-- what a steering begins with -/
structure KA where
  first : Rat
  y : Rat
  err : Rat
  slew : Rat
  drift : Rat
  step : Option Rat
abbrev KA.D (a : KA) : DL.D := .lst [qD a.first, qD a.y, qD a.err, qD a.slew, qD a.drift, oD a.step]
structure KA.sz (a : KA) : Prop where
  zf : Sz 300 a.first
  zy : Sz 300 a.y
  ze : Sz 300 a.err
  zs : Sz 60 a.slew
  zd : Sz 60 a.drift
  zo : SzO 300 a.step
def KS.bnd (k : KS) (slew drift raw : Rat) : Rat := match k.h with
  | none => k.b + drift * (raw - k.at_)
  | some h => drift * (raw - k.at_) + (if k.b - slew * (raw - k.at_) < h then h else k.b - slew * (raw - k.at_))
def ST_lbound : Sg := fun ps Post => ∃ (a : KA) (k : KS) (raw : Rat), ps = [.w a.D, .d k.D, .d (qD raw)] ∧ a.sz ∧ k.sz ∧ Sz 300 raw ∧ Post (.d (qD (k.bnd a.slew a.drift raw))) []
abbrev qP (x : Rat × Rat) : DL.D := .tup [qD x.1, qD x.2]
def oP : Option (Rat × Rat) → DL.D
  | none => .non
  | some x => qP x
def ST_both : Sg := fun ps Post => ∃ (a b c d : Rat), ps = [.d (qP (a, b)), .d (qP (c, d))] ∧ Sz 1100 a ∧ Sz 1100 b ∧ Sz 1100 c ∧ Sz 1100 d ∧ a ≤ b ∧ c ≤ d ∧ Post (.d (oP (bothQ a b c d))) []
theorem both_1 {a b c d : Rat} (h : ¬ c < a) (h2 : c ≤ d) : bothQ a b c d = if b < c then none else some (c, if d < b then d else b) := by
  unfold bothQ minQ maxQ
  by_cases e : a < c
  · rw [if_pos e]
    by_cases g : d < b
    · rw [if_pos g]
      have n1 : ¬ d < c := by grind
      have n2 : ¬ b < c := by grind
      rw [if_neg n1, if_neg n2]
    · rw [if_neg g]
  · rw [if_neg e]
    have : a = c := by grind
    subst this
    by_cases g : d < b
    · rw [if_pos g]
      have n1 : ¬ d < a := by grind
      have n2 : ¬ b < a := by grind
      rw [if_neg n1, if_neg n2]
    · rw [if_neg g]
theorem both_2 {a b c d : Rat} (h : c < a) (h2 : a ≤ b) : bothQ a b c d = if d < a then none else some (a, if b < d then b else d) := by
  unfold bothQ minQ maxQ
  rw [if_neg (show ¬ a < c by grind)]
  by_cases g : d < b
  · rw [if_pos g, if_neg (show ¬ b < d by grind)]
  · rw [if_neg g]
    by_cases k : b < d
    · rw [if_pos k, if_neg (show ¬ b < a by grind), if_neg (show ¬ d < a by grind)]
    · have : b = d := by grind
      subst this
      rw [if_neg k]
/-- a drawn step_over -/
def OverP (o : Option Rat) : Prop := ∀ q, o = some q → Sd 60 24 q ∧ ¬ q < 0
def ST_ovstep : Sg := fun ps Post => ps = [.own .sto] ∧ ∀ o, OverP o → Post (.d (oD o)) [.sto]
theorem overP_none : OverP none := fun q h => by cases h
theorem overP_zero : OverP (some (fr 0 1)) := fun q h => by
  cases h
  exact ⟨⟨by decide +kernel, by show (fr 0 1).num.natAbs < 2 ^ 24; decide +kernel⟩, by decide +kernel⟩
theorem overP_step {q : Rat} (h : PStep q) : OverP (some q) := fun r e => by
  cases e
  exact ⟨h.1, by have := h.2; grind⟩
def KA.good (a : KA) : Prop := ¬ a.err < 0 ∧ GoodS a.slew a.drift ∧ GoodO a.step
def KA.st (a : KA) : StQ := stQ0 a.first a.y a.err a.slew a.drift a.step
def ST_lmade : Sg := fun ps Post => ∃ a : KA, ps = [.w a.D] ∧ a.sz ∧ a.good ∧ Post (.own a.st.O) []
theorem isN_o {o : Option Rat} (h : (oD o).isN = true) : o = none := by
  cases o with
  | none => rfl
  | some q => cases h
/-- what a steering of k34 is drawn from -/
structure BeginP (a : KA) : Prop where
  first : Sd 120 24 a.first
  y : ∃ d, PPart d ∧ a.y = a.first + d
  err : PSpare a.err
  sl : SlewP a.slew a.drift
  ov : OverP a.step
def ST_lbegin : Sg := fun ps Post => ps = [.own .sto] ∧ ∀ a : KA, BeginP a → Post (.own (.lst [qD a.first, qD a.y, qD a.err, qD a.slew, qD a.drift, oD a.step])) [.sto]
theorem sd_120 {q : Rat} (h : PPart q) : Sd 120 24 q := ⟨Nat.dvd_trans h.1 (by decide), h.2⟩
theorem sd_120k {n d : Int} (h : (fr n d).den ∣ 120 := by decide +kernel) (h2 : (fr n d).num.natAbs < 2 ^ 24 := by decide +kernel) : Sd 120 24 (fr n d) := ⟨h, h2⟩
end DL

end
section
set_option Elab.async false
set_option linter.all false
set_option autoImplicit true
set_option maxRecDepth 100000
set_option maxHeartbeats 400000
/-! None in a span; a method of a list that no name holds; k34: what the law finds behind a call -/
namespace DL
open PySem L2
open PyProof.Rows hiding St
section
variable {X : Cx} {n : Nm} {c : Cc} {Γ : SL} {e a b o : Expr} {x y z : DL.D} {pos p ap pos2 : Pos} {nm meth : Str} {es : List Expr} {k l : AK} {De : DE}
variable {mid : String} {P : List DL.D → List DL.D → (DL.D → List DL.D → Prop) → Prop}
/-- a method of a fresh list that no name holds -/
theorem we_methT {Post : DL.D → SL → Prop} (hm : DMt X mid P) (pa : PlainAttrs "list") (slot : PySem.Slot "list" meth mid) (hty : typeOf (.builtin mid) = pure (.type "method_descriptor"))
    (h : WO X n c Γ o fun ob Γ' => ∃ ds, ob = .lst ds ∧ P ds [] fun z _ => Post z Γ')
    (hbase : attributeBase o meth X.env (eval o X.env) = eval o X.env := by rfl) (hline : (ap.endLine == pos.line) = true := by rfl) : WE X n c Γ (.Call (.Attribute o meth ap) [] [] pos) Post := .mk fun hn σ R H s Q q => by
  obtain ⟨r, m1, m2⟩ := hm
  refine (pe_bm0 pa slot hty m1 pW hbase hline).w ?_
  refine h.run hn σ R H s _ fun v R1 H1 ob Γ1 s1 e1 hv hp => ?_
  obtain ⟨ds, rfl, hp⟩ := hp
  have hv' := hv
  obtain ⟨a, rfl, ⟨us, u3, u6⟩, w4, w5, w6⟩ := hv
  refine ⟨.inl ⟨rfl, _, .inl (.inl u3)⟩, ?_⟩
  refine m2 R1 H1 a ds us [] [] _ u3 u6 rfl hp Q fun u us' z zs hz hu hP => ?_
  have t := SOk.pend (ob' := .lst zs) s1 hv' ⟨us', upd_same, hz⟩
  exact q u R1 _ z _ t.1 e1 hu hP
def rInT (K : PySem.W.Frag) : R2 := fun x y H Q => ∃ d ds, Dp K H x d ∧ Dp K H y (.tuple ds) ∧ SeqAt.shaped d = true ∧ SeqAt.shaped (.tuple ds) = true ∧ Q (.bl (ds.any fun z => PyData.eqv z d)) H
theorem op_inT (hu : X.A.units + 65 < cLine) : OpR X (compareOp .In) (rInT X.K) := by
  intro pins s σ H x y v u Q I rx ry h
  obtain ⟨d, ds, hd, he, sd, se, q⟩ := h
  obtain ⟨as, r1⟩ := Dp.reads I d x v hd rx
  obtain ⟨bs, r2⟩ := Dp.reads I (.tuple ds) y u he ry
  exact SeqAt.in_tuple_reads r2 r1 (SeqAt.canLay_of_shaped se) (SeqAt.canLay_of_shaped sd) (room_in_shaped sd hu) ⟨.bl _, H, I, rfl, q⟩
theorem NOk.units65 {X : Cx} {n : Nm} {c : Cc} (h : NOk X n c) : X.A.units + 65 < cLine := by have := h.room.un; omega
theorem dop_inT : DOp X n c (compareOp .In) (fun x y Post => ∃ ds, y = .tup ds ∧ x.shp = true ∧ y.shp = true ∧ Post (.bl ((pdL ds).any fun z => PyData.eqv z x.pd))) := fun hn => ⟨_, op_inT hn.units65, fun Γ σ R H x y v w Post s hx hy ⟨ds, e, h1, h2, p⟩ Q q => by
  subst e
  exact ⟨x.pd, pdL ds, hx.dp s.rh (canLay_shp h1), hy.dp s.rh (canLay_shp h2), h1, h2, q (.bl ((pdL ds).any fun z => PyData.eqv z x.pd)) R H (.bl ((pdL ds).any fun z => PyData.eqv z x.pd)) s (Ex.refl _) rfl p⟩⟩
/-- None in a span -/
theorem et_nonS {s : Spn} (ha : EK X n c Γ a k) (hb : EK X n c Γ b l) (ga : k.get Γ = some .non := by rfl) (gb : l.get Γ = some (sD s) := by rfl) (hm : behindInMarks .In b = false := by rfl) : ET X n c Γ (.Compare a [.In] [b] pos) (opnB (some s)) :=
  et_cmp dop_inT ha hb (fun Post p => ⟨[oD s.1, oD s.2], rfl, rfl, by obtain ⟨lo, hi⟩ := s; cases lo <;> cases hi <;> rfl, by
    have e : ((pdL [oD s.1, oD s.2]).any fun z => PyData.eqv z D.non.pd) = opnB (some s) := by obtain ⟨lo, hi⟩ := s; cases lo <;> cases hi <;> rfl
    rw [e]; exact p⟩) ga gb hm
theorem ws_clear (i : Nat) {ds : List DL.D} (h : De.nx (Γ.set i (.own (.lst [])))) (hg : Γ[i]? = some (.own (.lst ds)) := by rfl) (hi : n.N[i]? = some nm := by rfl) (hv : n.V.contains i = true := by rfl)
    (hbase : attributeBase (.Name nm p) "clear" X.env (eval (.Name nm p) X.env) = eval (.Name nm p) X.env := by rfl) (hline : (ap.endLine == pos.line) = true := by rfl) (hs : swapsWith (.Call (.Attribute (.Name nm p) "clear" ap) [] [] pos) none pos2.line X.env = pure false := by rfl) : WS X n c Γ (.Expr (.Call (.Attribute (.Name nm p) "clear" ap) [] [] pos) pos2) De :=
  ws_expr (we_meth0 i dm_clear PySem.F.plainAttrs_list PySem.F.slot_list_clear PySem.F.type_list_clear ⟨rfl, h⟩ hg hi hv hbase hline) hs
end
/-! ### what the law finds -/
def KA.k0 (a : KA) : KS := ⟨a.first, a.y, 1, 0, a.err, none⟩
def KA.over (a : KA) (gap : Rat) : Bool := match a.step with
  | some d => decide (d < gap)
  | none => false
def KA.pace (a : KA) (gap : Rat) : Rat := if gap = 0 then 1 else 1 + (if 0 < gap then a.slew else 0 - a.slew)
structure Turn where
  k : KS
  aim : Option Rat
  j : Bool
abbrev Turn.D (t : Turn) : DL.D := .tup [t.k.D, oD t.aim, .bl t.j]
def KA.go (a : KA) (raw now lo hi : Rat) : Turn :=
  if a.over ((lo + hi) * fr 1 2 - now) = true then ⟨⟨raw, (lo + hi) * fr 1 2, 1, 0, (lo + hi) * fr 1 2 - lo, some ((lo + hi) * fr 1 2 - lo)⟩, some ((lo + hi) * fr 1 2), true⟩
  else ⟨⟨raw, now, a.pace ((lo + hi) * fr 1 2 - now), absQ ((lo + hi) * fr 1 2 - now) / a.slew, absQ ((lo + hi) * fr 1 2 - now) + ((lo + hi) * fr 1 2 - lo), some ((lo + hi) * fr 1 2 - lo)⟩, some ((lo + hi) * fr 1 2), false⟩
def turnQ (a : KA) (k : KS) (raw : Rat) (sp : Option Spn) : Turn := match sp with
  | some (some lo, some hi) => a.go raw (k.now raw) (closeQ lo hi (k.now raw) (k.bnd a.slew a.drift raw)).1 (closeQ lo hi (k.now raw) (k.bnd a.slew a.drift raw)).2
  | _ => ⟨⟨raw, k.now raw, 1, 0, k.bnd a.slew a.drift raw, none⟩, none, false⟩
theorem turn_opn {a : KA} {k : KS} {raw : Rat} {sp : Option Spn} (h : opnB sp = true) : turnQ a k raw sp = ⟨⟨raw, k.now raw, 1, 0, k.bnd a.slew a.drift raw, none⟩, none, false⟩ := by
  unfold turnQ
  split
  · cases h
  · rfl
structure TurnZ (a : KA) (k : KS) (raw : Rat) (sp : Option Spn) : Prop where
  za : a.sz
  zk : k.sz
  zr : Sz 60 raw
  zn : Sz 40 (k.now raw)
  zb : Sz 40 (k.bnd a.slew a.drift raw)
  b0 : 0 ≤ k.bnd a.slew a.drift raw
  s0 : 0 < a.slew
  zc : ∀ lo hi, sp = some (some lo, some hi) → lo ≤ hi ∧ Sz 80 lo ∧ Sz 80 hi
def ST_turned : Sg := fun ps Post => ∃ (a : KA) (k : KS) (raw : Rat) (sp : Option Spn), ps = [.w a.D, .d k.D, .d (qD raw), .d (oS sp)] ∧ TurnZ a k raw sp ∧ Post (.d (turnQ a k raw sp).D) []
def dueQ (a : KA) (k : KS) (j : Bool) : List Pc :=
  if j = false ∧ k.len = 0 then [(a.first, a.y, 1)]
  else (if k.at_ = a.first then [] else [(a.first, a.y, 1)]) ++ [(k.at_, k.y, k.r)] ++ (if j = true then [] else [(k.at_ + k.len, k.now (k.at_ + k.len), 1)])
def ST_due : Sg := fun ps Post => ∃ (a : KA) (k : KS) (j : Bool), ps = [.w a.D, .d k.D, .d (.bl j)] ∧ a.sz ∧ k.sz ∧ Sz 300 (k.at_ + k.len) ∧ Post (.own (.lst ((dueQ a k j).map pD))) []
/-- the law's reading and the program's steering agree at these readings -/
structure AnsZ (a : KA) (s : StQ) (k : KS) (aim : Option Rat) (cs : List Pc) (ts : List Rat) : Prop where
  zs : s.sz
  za : a.sz
  zk : k.sz
  zc : Cz 300 300 70 cs
  ne : s.ps ≠ []
  nl : cs.length ≤ 100
  ea : s.aim = aim
  ec : tidyQ s.ps = cs
  nt : ts.length ≤ 1000
  zt : ∀ t ∈ ts, Sz 300 t
  p0 : ∀ t ∈ ts, ∃ p, s.ps[0]? = some p ∧ ¬ t < p.1
  sh : ∀ t ∈ ts, nowQ cs t = some (atQ s.ps t)
  er : ∀ t ∈ ts, ¬ t < k.at_ → ¬ t < s.at_ ∧ k.bnd a.slew a.drift t = s.err t
def ST_answers : Sg := fun ps Post => ∃ (a : KA) (s : StQ) (k : KS) (aim : Option Rat) (cs : List Pc) (ts : List Rat), ps = [.w a.D, .w s.D, .d k.D, .d (oD aim), .w (cD cs), .w (.lst (ts.map qD))] ∧ AnsZ a s k aim cs ts ∧ Post (.d (.bl true)) []
/-! ### the plain law -/
theorem num_pos_iff {q : Rat} : 0 < q.num ↔ 0 < q := by
  have h := neg_num (q := -q)
  rw [Rat.neg_num] at h
  constructor
  · intro z
    have := h.mp (by omega)
    grind
  · intro z
    have := h.mpr (by grind)
    omega
theorem place1 (p : Pc) (t : Rat) : placeN [p] t = 0 := rfl
theorem atQ1 (p : Pc) (t : Rat) : atQ [p] t = pline p t := rfl
theorem now_atQ {cs : List Pc} {p0 : Pc} {t : Rat} (ha : Asc cs) (h0 : cs[0]? = some p0) (h : ¬ t < p0.1) : nowQ cs t = some (atQ cs t) := by
  obtain ⟨p, hp, h1, h2⟩ := place_at ha h0 (by grind : p0.1 ≤ t)
  rw [now_at ha hp h1 h2]
  unfold atQ
  rw [hp]
theorem k0_now {a : KA} {raw : Rat} (h : ¬ raw < a.first) : a.k0.now raw = a.y + (raw - a.first) := by
  unfold KS.now KA.k0
  have : ¬ raw - a.first < 0 := by grind
  simp only
  rw [if_neg this]
  grind
theorem st_at {a : KA} {raw : Rat} : atQ a.st.ps raw = a.y + (raw - a.first) := by
  show pline (a.first, a.y, 1) raw = _
  unfold pline
  grind
theorem beh_same {b l s d : Rat} (h : 0 ≤ l) (hs : 0 < s) : behQ b b l s d = d * l + b := by
  unfold behQ maxQ
  have := Rat.mul_nonneg (Rat.le_of_lt hs) h
  by_cases e : b - s * l < b
  · rw [if_pos e]
  · rw [if_neg e]; grind
theorem st_err {a : KA} {raw : Rat} (h : ¬ raw < a.first) (hs : 0 < a.slew) : a.st.err raw = a.k0.bnd a.slew a.drift raw := by
  show behQ a.err a.err (raw - a.first) a.slew a.drift = _
  rw [beh_same (by grind) hs]
  unfold KS.bnd KA.k0
  grind
theorem k0_bnd {a : KA} {raw : Rat} : a.k0.bnd a.slew a.drift raw = a.err + a.drift * (raw - a.first) := rfl
theorem close_le {lo hi x b : Rat} (h : lo ≤ hi) : (closeQ lo hi x b).1 ≤ (closeQ lo hi x b).2 := by
  unfold closeQ
  split
  · exact h
  · simp only; grind
theorem half_eq (lo hi : Rat) : (hi - lo) / fr 2 1 = (lo + hi) * fr 1 2 - lo := by
  have e1 : fr 2 1 = 2 := by decide +kernel
  have e2 : fr 1 2 = 1 / 2 := by decide +kernel
  rw [e1, e2]; grind
theorem far_eq {lo hi x : Rat} (h : lo ≤ hi) : farQ lo hi x = absQ ((lo + hi) * fr 1 2 - x) + ((lo + hi) * fr 1 2 - lo) := by
  have e2 : fr 1 2 = 1 / 2 := by decide +kernel
  rw [e2]
  unfold farQ maxQ absQ
  grind
theorem len_zero {g s : Rat} (hs : 0 < s) : absQ g / s = 0 ↔ g = 0 := by
  constructor
  · intro h
    have : absQ g = 0 := by
      have e : absQ g = absQ g / s * s := by grind
      rw [e, h]; grind
    unfold absQ at this
    grind
  · intro h
    rw [h]
    have : absQ 0 = 0 := by decide +kernel
    rw [this]; grind
theorem both_no {lo hi w b : Rat} (q : (oP (bothQ lo hi (w - b) (w + b))).isN = true) : closeQ lo hi w b = (lo, hi) := by
  unfold bothQ at q
  unfold closeQ
  by_cases h : minQ hi (w + b) < maxQ lo (w - b)
  · rw [if_pos h]
  · rw [if_neg h] at q; cases q
theorem both_yes {lo hi w b : Rat} (q : (oP (bothQ lo hi (w - b) (w + b))).isN = false) : bothQ lo hi (w - b) (w + b) = some (closeQ lo hi w b) := by
  unfold bothQ at q ⊢
  unfold closeQ
  by_cases h : minQ hi (w + b) < maxQ lo (w - b)
  · rw [if_pos h] at q; cases q
  · rw [if_neg h, if_neg h]
theorem close_sz {k : Nat} {lo hi x b : Rat} (h1 : Sz k lo) (h2 : Sz k hi) (h3 : Sz k (x - b)) (h4 : Sz k (x + b)) : Sz k (closeQ lo hi x b).1 ∧ Sz k (closeQ lo hi x b).2 := by
  unfold closeQ
  split
  · exact ⟨h1, h2⟩
  · exact ⟨maxQ_sz h1 h3, minQ_sz h2 h4⟩
theorem pl_oD (o : Option Rat) : (oD o).pl 5 := by
  cases o with
  | none => trivial
  | some q => exact pl_q _ _
theorem tidy_1 (p : Pc) : tidyQ [p] = [p] := rfl
theorem tidy_2 (p q : Pc) : tidyQ [p, q] = p :: (tF (p, q)).toList := by
  show [p] ++ [(p, q)].filterMap tF = _
  cases h : tF (p, q) <;> simp [h]
theorem tidy_3 (p q r : Pc) : tidyQ [p, q, r] = p :: ((tF (p, q)).toList ++ (tF (q, r)).toList) := by
  show [p] ++ [(p, q), (q, r)].filterMap tF = _
  cases h : tF (p, q) <;> cases h2 : tF (q, r) <;> simp [h, h2]
theorem tF_rate {p q : Pc} (h : q.2.2 ≠ p.2.2) : tF (p, q) = some q := by
  unfold tF; rw [if_neg (fun z => h z.1)]
theorem tF_jmp {p q : Pc} (h : jmp p q ≠ 0) : tF (p, q) = some q := by
  unfold tF; rw [if_neg (fun z => h z.2)]
theorem tF_no {p q : Pc} (h : q.2.2 = p.2.2) (h2 : jmp p q = 0) : tF (p, q) = none := by
  unfold tF; rw [if_pos ⟨h, h2⟩]
theorem flt_st (a : KA) (raw : Rat) : a.st.ps.filter (fun p => decide (p.1 < raw)) = if a.first < raw then [(a.first, a.y, 1)] else [] := by
  show [(a.first, a.y, (1 : Rat))].filter _ = _
  by_cases h : a.first < raw <;> simp [h]
/-- what the plan leads to, tidied behind the beginning -/
theorem tidy_still {a : KA} {raw : Rat} (h : ¬ raw < a.first) : tidyQ (a.st.ps.filter (fun p => decide (p.1 < raw)) ++ [(raw, a.y + (raw - a.first), 1)]) = [(a.first, a.y, 1)] := by
  rw [flt_st]
  by_cases e : a.first < raw
  · rw [if_pos e]
    show tidyQ [_, _] = _
    rw [tidy_2, tF_no (p := (a.first, a.y, 1)) (q := (raw, a.y + (raw - a.first), 1)) rfl (by unfold jmp pline; grind)]
    rfl
  · rw [if_neg e]
    have : raw = a.first := by grind
    subst this
    show tidyQ [_] = _
    rw [tidy_1]
    have : a.y + (a.first - a.first) = a.y := by grind
    rw [this]
theorem tidy_jump {a : KA} {raw y : Rat} (h : ¬ raw < a.first) (hy : y ≠ a.y + (raw - a.first)) : tidyQ (a.st.ps.filter (fun p => decide (p.1 < raw)) ++ [(raw, y, 1)]) = (if raw = a.first then [] else [(a.first, a.y, 1)]) ++ [(raw, y, 1)] := by
  rw [flt_st]
  by_cases e : a.first < raw
  · rw [if_pos e, if_neg (by grind)]
    show tidyQ [_, _] = _
    rw [tidy_2, tF_jmp (by unfold jmp pline; grind)]
    rfl
  · rw [if_neg e, if_pos (by grind)]
    rfl
theorem tidy_turn {a : KA} {raw r w z : Rat} (h : ¬ raw < a.first) (hr : r ≠ 1) : tidyQ (a.st.ps.filter (fun p => decide (p.1 < raw)) ++ [(raw, a.y + (raw - a.first), r), (w, z, 1)]) = (if raw = a.first then [] else [(a.first, a.y, 1)]) ++ [(raw, a.y + (raw - a.first), r)] ++ [(w, z, 1)] := by
  rw [flt_st]
  by_cases e : a.first < raw
  · rw [if_pos e, if_neg (by grind)]
    show tidyQ [_, _, _] = _
    rw [tidy_3, tF_rate (by simpa using hr), tF_rate (by simpa using Ne.symm hr)]
    rfl
  · rw [if_neg e, if_pos (by grind)]
    show tidyQ [_, _] = _
    rw [tidy_2, tF_rate (by simpa using Ne.symm hr)]
    rfl
theorem turn_end {w aim slew : Rat} (s0 : 0 < slew) : w + rateQ w aim slew * (absQ (aim - w) / slew) = aim + absQ (aim - w) / slew := by
  have e1 : slew * (absQ (aim - w) / slew) = absQ (aim - w) := by grind
  generalize absQ (aim - w) / slew = L at *
  unfold rateQ
  unfold absQ at e1
  split <;> grind
/-- what is asked of a call of steer behind the beginning -/
structure Go (a : KA) (raw : Rat) (sp : Option Spn) : Prop where
  r0 : ¬ raw < a.first
  s0 : 0 < a.slew
  d0 : ¬ a.drift < 0
  o0 : ∀ d, a.step = some d → ¬ d < 0
  c0 : ∀ lo hi, sp = some (some lo, some hi) → lo ≤ hi
structure Steered (a : KA) (raw : Rat) (s : StQ) (t : Turn) : Prop where
  ps : s.ps = dueQ a t.k t.j
  at1 : s.at_ = raw
  at2 : t.k.at_ = raw
  aim : s.aim = t.aim
  er : ∀ x, ¬ x < raw → s.err x = t.k.bnd a.slew a.drift x
  sl : s.slew = a.slew
  dr : s.drift = a.drift
  st : s.step = a.step
  le : 0 ≤ t.k.len
  bd : s.bound = t.k.b
  hf : s.half = t.k.h.getD t.k.b
theorem max_if (x h : Rat) : maxQ x h = if x < h then h else x := rfl
theorem steered_idle {a : KA} {raw : Rat} {sp : Option Spn} (g : Go a raw sp) (h : opnB sp = true) : Steered a raw (a.st.after raw sp) (turnQ a a.k0 raw sp) := by
  rw [(opn_after h).1, turn_opn h]
  refine ⟨?_, rfl, rfl, rfl, fun x hx => ?_, rfl, rfl, rfl, Rat.le_refl, st_err g.r0 g.s0, st_err g.r0 g.s0⟩
  · show tidyQ (a.st.ps.filter (fun p => decide (p.1 < raw)) ++ [(raw, atQ a.st.ps raw, 1)]) = _
    rw [st_at, tidy_still g.r0]
    unfold dueQ
    rw [if_pos ⟨rfl, rfl⟩]
  · show behQ (a.st.err raw) (a.st.err raw) (x - raw) a.slew a.drift = a.k0.bnd a.slew a.drift raw + a.drift * (x - raw)
    rw [beh_same (by grind) g.s0, st_err g.r0 g.s0]
    grind
theorem steered {a : KA} {raw : Rat} {sp : Option Spn} (g : Go a raw sp) : Steered a raw (a.st.after raw sp) (turnQ a a.k0 raw sp) := by
  by_cases ho : opnB sp = true
  · exact steered_idle g ho
  obtain ⟨lo, hi, rfl⟩ := opn_no (by simpa using ho)
  have hle := g.c0 lo hi rfl
  have en := k0_now g.r0
  have eb := st_err g.r0 g.s0
  have ea : a.st.after raw (some (some lo, some hi)) = a.st.goto raw (closeQ lo hi (atQ a.st.ps raw) (a.st.err raw)).1 (closeQ lo hi (atQ a.st.ps raw) (a.st.err raw)).2 := rfl
  have et : turnQ a a.k0 raw (some (some lo, some hi)) = a.go raw (a.k0.now raw) (closeQ lo hi (a.k0.now raw) (a.k0.bnd a.slew a.drift raw)).1 (closeQ lo hi (a.k0.now raw) (a.k0.bnd a.slew a.drift raw)).2 := rfl
  rw [ea, et, st_at, en, eb]
  have cl := close_le (x := a.y + (raw - a.first)) (b := a.k0.bnd a.slew a.drift raw) hle
  generalize (closeQ lo hi (a.y + (raw - a.first)) (a.k0.bnd a.slew a.drift raw)).1 = f1 at *
  generalize (closeQ lo hi (a.y + (raw - a.first)) (a.k0.bnd a.slew a.drift raw)).2 = f2 at *
  have hh := half_eq f1 f2
  have hf := far_eq (x := a.y + (raw - a.first)) cl
  have ej : ∀ x y, a.st.jumps x y = a.over (y - x) := fun x y => rfl
  unfold StQ.goto StQ.plan KA.go
  rw [st_at, ej, hh, hf]
  generalize (f1 + f2) * fr 1 2 = aim at *
  by_cases hj : a.over (aim - (a.y + (raw - a.first))) = true
  · rw [if_pos hj, if_pos hj, if_pos hj]
    have hne : aim ≠ a.y + (raw - a.first) := by
      unfold KA.over at hj
      split at hj
      · rename_i d hd
        have := g.o0 d hd
        have := of_decide_eq_true hj
        grind
      · cases hj
    refine ⟨?_, rfl, rfl, rfl, fun x hx => ?_, rfl, rfl, rfl, Rat.le_refl, rfl, rfl⟩
    · show tidyQ (a.st.ps.filter (fun p => decide (p.1 < raw)) ++ [(raw, aim, 1)]) = _
      rw [tidy_jump g.r0 hne]
      show _ = dueQ a ⟨raw, aim, 1, 0, aim - f1, some (aim - f1)⟩ true
      unfold dueQ
      rw [if_neg (show ¬ ((true = false) ∧ (0 : Rat) = 0) from fun z => by cases z.1), if_pos (rfl : true = true), List.append_nil]
    · show behQ (aim - f1) (aim - f1) (x - raw) a.slew a.drift = _
      rfl
  · rw [if_neg hj, if_neg hj, if_neg hj]
    have hlen : 0 ≤ absQ (aim - (a.y + (raw - a.first))) / a.slew := by
      rw [Rat.div_def]
      exact Rat.mul_nonneg (absQ_nn _) (Rat.le_of_lt (Rat.inv_pos.mpr g.s0))
    refine ⟨?_, rfl, rfl, rfl, fun x hx => rfl, rfl, rfl, rfl, hlen, rfl, rfl⟩
    show tidyQ (a.st.ps.filter (fun p => decide (p.1 < raw)) ++ towardsQ raw (a.y + (raw - a.first)) aim a.slew) = _
    unfold towardsQ dueQ
    by_cases h0 : aim = a.y + (raw - a.first)
    · rw [if_pos h0, tidy_still g.r0, if_pos ⟨rfl, (len_zero g.s0).mpr (by grind)⟩]
    · have hl0 : ¬ (false = false ∧ absQ (aim - (a.y + (raw - a.first))) / a.slew = 0) := fun z => h0 (by have := (len_zero g.s0).mp z.2; grind)
      rw [if_neg h0, if_neg hl0, if_neg (by decide : ¬ (false = true))]
      have er : a.pace (aim - (a.y + (raw - a.first))) = rateQ (a.y + (raw - a.first)) aim a.slew := by
        unfold KA.pace rateQ
        rw [if_neg (by grind)]
        by_cases q : a.y + (raw - a.first) < aim
        · rw [if_pos q, if_pos (by grind)]
        · rw [if_neg q, if_neg (by grind)]; grind
      have hr : rateQ (a.y + (raw - a.first)) aim a.slew ≠ 1 := by
        have := g.s0
        unfold rateQ; split <;> grind
      rw [tidy_turn g.r0 hr, er]
      unfold lenQ
      have ex := turn_end (w := a.y + (raw - a.first)) (aim := aim) g.s0
      have ey : KS.now ⟨raw, a.y + (raw - a.first), rateQ (a.y + (raw - a.first)) aim a.slew, absQ (aim - (a.y + (raw - a.first))) / a.slew, absQ (aim - (a.y + (raw - a.first))) + (aim - f1), some (aim - f1)⟩ (raw + absQ (aim - (a.y + (raw - a.first))) / a.slew) = aim + absQ (aim - (a.y + (raw - a.first))) / a.slew := by
        rw [← ex]
        unfold KS.now
        simp only
        generalize absQ (aim - (a.y + (raw - a.first))) / a.slew = L at *
        have eL : raw + L - raw = L := by grind
        rw [eL, if_neg (by grind)]
        grind
      rw [ey]
/-! ### sizes -/
/-- a span that is drawn -/
def SpanP (sp : Option Spn) : Prop := ∀ s, sp = some s → SzS 80 s ∧ ∀ lo hi, s = (some lo, some hi) → lo ≤ hi
def ST_snear : Sg := fun ps Post => ∃ w b : Rat, ps = [.own .sto, .d (qD w), .d (qD b)] ∧ Sz 25 w ∧ Sz 25 b ∧ 0 ≤ b ∧ ∀ sp, SpanP sp → Post (.d (oS sp)) [.sto]
structure BegZ (a : KA) : Prop where
  zf : Sz 7 a.first
  zy : Sz 14 a.y
  ze : Sz 6 a.err
  e0 : ¬ a.err < 0
  zs : Sz 6 a.slew
  zi : Sz 48 a.slew⁻¹
  zd : Sz 12 a.drift
  gs : GoodS a.slew a.drift
  zo : SzO 300 a.step
  o0 : GoodO a.step
theorem beg_z {a : KA} (h : BeginP a) {o : Option Rat} (h1 : SzO 300 o) (h2 : GoodO o) : BegZ { a with step := o } := by
  obtain ⟨d, hd, hy⟩ := h.y
  have zf : Sz 7 a.first := Sd.sz h.first (by decide) (show 120 < 2 ^ 7 by decide) (by decide)
  have zs : Sz 6 a.slew := h.sl.2.2.2.2.2.1
  have s0 : 0 < a.slew := h.sl.1
  exact ⟨zf, by show Sz 14 a.y; rw [hy]; exact (zf.add (szPart hd)).mono (by decide), szSpare h.err, h.err.2, zs, (zs.inv (by grind)).mono (by decide), h.sl.2.2.2.2.2.2, h.sl.good, h1, h2⟩
theorem BegZ.sz {a : KA} (h : BegZ a) : a.sz := ⟨h.zf.mono (by decide), h.zy.mono (by decide), h.ze.mono (by decide), h.zs.mono (by decide), h.zd.mono (by decide), h.zo⟩
theorem BegZ.good {a : KA} (h : BegZ a) : a.good := ⟨h.e0, h.gs, h.o0⟩
theorem BegZ.s0 {a : KA} (h : BegZ a) : 0 < a.slew := h.gs.1
/-- .. steered at raw -/
structure RawZ (a : KA) (raw : Rat) : Prop where
  b : BegZ a
  p : ∃ p, PSpare p ∧ raw = a.first + p
theorem RawZ.ge {a : KA} {raw : Rat} (h : RawZ a raw) : ¬ raw < a.first := by
  obtain ⟨p, hp, e⟩ := h.p
  have := hp.2
  grind
theorem RawZ.zr {a : KA} {raw : Rat} (h : RawZ a raw) : Sz 14 raw := by
  obtain ⟨p, hp, e⟩ := h.p
  rw [e]; exact (h.b.zf.add (szSpare hp)).mono (by decide)
theorem RawZ.zn {a : KA} {raw : Rat} (h : RawZ a raw) : Sz 21 (a.k0.now raw) := by
  rw [k0_now h.ge]
  obtain ⟨p, hp, e⟩ := h.p
  have : raw - a.first = p := by grind
  rw [this]
  exact (h.b.zy.add (szSpare hp)).mono (by decide)
theorem RawZ.zb {a : KA} {raw : Rat} (h : RawZ a raw) : Sz 25 (a.k0.bnd a.slew a.drift raw) := by
  rw [k0_bnd]
  obtain ⟨p, hp, e⟩ := h.p
  have : raw - a.first = p := by grind
  rw [this]
  exact (h.b.ze.add (h.b.zd.mul (szSpare hp))).mono (by decide)
theorem RawZ.b0 {a : KA} {raw : Rat} (h : RawZ a raw) : 0 ≤ a.k0.bnd a.slew a.drift raw := by
  rw [k0_bnd]
  have h1 := h.ge
  have h2 := h.b.e0
  have h3 := h.b.gs.2.2.1
  have := Rat.mul_nonneg (show 0 ≤ a.drift by grind) (show 0 ≤ raw - a.first by grind)
  grind
theorem k0_sz {a : KA} (h : BegZ a) : a.k0.sz := ⟨h.zf.mono (by decide), h.zy.mono (by decide), ones_sz.mono (by decide), (sz_zero (k := 0)).mono (by decide), h.ze.mono (by decide), fun q z => by cases z⟩
theorem RawZ.turn {a : KA} {raw : Rat} (h : RawZ a raw) {sp : Option Spn} (hs : SpanP sp) : TurnZ a a.k0 raw sp :=
  ⟨h.b.sz, k0_sz h.b, h.zr.mono (by decide), h.zn.mono (by decide), h.zb.mono (by decide), h.b0, h.b.s0, fun lo hi e => by
    obtain ⟨h1, h2⟩ := hs _ e
    exact ⟨h2 lo hi rfl, h1.1 lo rfl, h1.2 hi rfl⟩⟩
theorem RawZ.go {a : KA} {raw : Rat} (h : RawZ a raw) {sp : Option Spn} (hs : SpanP sp) : Go a raw sp :=
  ⟨h.ge, h.b.s0, h.b.gs.2.2.1, h.b.o0, fun lo hi e => (hs _ e).2 lo hi rfl⟩
/-- sizes of what leads to a closed span -/
structure GoZ (a : KA) (raw w lo hi : Rat) : Prop where
  z1 : Sz 80 lo
  z2 : Sz 80 hi
  zm : Sz 163 ((lo + hi) * fr 1 2)
  zg : Sz 185 ((lo + hi) * fr 1 2 - w)
  zh : Sz 244 ((lo + hi) * fr 1 2 - lo)
  zl : Sz 233 (absQ ((lo + hi) * fr 1 2 - w) / a.slew)
  ze : Sz 263 ((lo + hi) * fr 1 2 + absQ ((lo + hi) * fr 1 2 - w) / a.slew)
theorem rate_sz {a : KA} (h : BegZ a) {w aim : Rat} : Sz 8 (rateQ w aim a.slew) := by
  unfold rateQ
  split
  · exact (ones_sz.add h.zs).mono (by decide)
  · exact (ones_sz.sub h.zs).mono (by decide)
theorem pace_sz {a : KA} (h : BegZ a) {g : Rat} : Sz 70 (a.pace g) := by
  unfold KA.pace
  have z0 : Sz 1 (0 : Rat) := sz_zero
  split
  · exact ones_sz.mono (by decide)
  · split
    · exact (ones_sz.add h.zs).mono (by decide)
    · exact (ones_sz.add (z0.sub h.zs)).mono (by decide)
theorem go_z {a : KA} {raw : Rat} (h : RawZ a raw) {lo hi : Rat} (z1 : Sz 80 lo) (z2 : Sz 80 hi) : GoZ a raw (a.k0.now raw) (closeQ lo hi (a.k0.now raw) (a.k0.bnd a.slew a.drift raw)).1 (closeQ lo hi (a.k0.now raw) (a.k0.bnd a.slew a.drift raw)).2 := by
  have zn := h.zn
  have zb := h.zb
  generalize a.k0.now raw = w at *
  obtain ⟨f1, f2⟩ := close_sz (x := w) (b := a.k0.bnd a.slew a.drift raw) z1 z2 ((zn.sub zb).mono (by decide)) ((zn.add zb).mono (by decide))
  generalize (closeQ lo hi w (a.k0.bnd a.slew a.drift raw)).1 = x1 at *
  generalize (closeQ lo hi w (a.k0.bnd a.slew a.drift raw)).2 = x2 at *
  have zm : Sz 163 ((x1 + x2) * fr 1 2) := ((f1.add f2).mul sz_half).mono (by decide)
  have te := turn_end (w := w) (aim := (x1 + x2) * fr 1 2) h.b.s0
  have zg : Sz 185 ((x1 + x2) * fr 1 2 - w) := (zm.sub zn).mono (by decide)
  have zh : Sz 244 ((x1 + x2) * fr 1 2 - x1) := (zm.sub f1).mono (by decide)
  have zl : Sz 233 (absQ ((x1 + x2) * fr 1 2 - w) / a.slew) := by
    rw [Rat.div_def]
    exact ((absQ_sz zg).mul h.b.zi).mono (by decide)
  refine ⟨f1, f2, zm, zg, zh, zl, ?_⟩
  rw [← te]
  exact (zn.add ((rate_sz h.b).mul zl)).mono (by decide)
structure TurnedZ (a : KA) (raw : Rat) (t : Turn) : Prop where
  zk : t.k.sz
  za : SzO 200 t.aim
  zl : Sz 233 t.k.len
  ze : Sz 300 (t.k.at_ + t.k.len)
  zc : Cz 300 300 70 (dueQ a t.k t.j)
theorem one70 : Sz 70 (1 : Rat) := ones_sz.mono (by decide)
theorem due_cz {a : KA} {k : KS} {j : Bool} (h : a.sz) (hk : k.sz) (h1 : Sz 300 (k.at_ + k.len)) (h2 : j = false → Sz 300 (k.now (k.at_ + k.len))) : Cz 300 300 70 (dueQ a k j) := by
  intro p hp
  have c0 : ∀ p ∈ [(a.first, a.y, (1 : Rat))], Sz 300 p.1 ∧ Sz 300 p.2.1 ∧ Sz 70 p.2.2 := fun p hp => by
    rw [List.mem_singleton] at hp; subst hp; exact ⟨h.zf, h.zy, one70⟩
  unfold dueQ at hp
  split at hp
  · exact c0 p hp
  · rcases List.mem_append.mp hp with hp | hp
    · rcases List.mem_append.mp hp with hp | hp
      · split at hp
        · cases hp
        · exact c0 p hp
      · rw [List.mem_singleton] at hp; subst hp; exact ⟨hk.za, hk.zy, hk.zr⟩
    · split at hp
      · cases hp
      · rename_i q
        rw [List.mem_singleton] at hp; subst hp; exact ⟨h1, h2 (by simpa using q), one70⟩
theorem now_end {at_ y r len b : Rat} {h : Option Rat} : KS.now ⟨at_, y, r, len, b, h⟩ (at_ + len) = y + r * len := by
  unfold KS.now
  simp only
  have eL : at_ + len - at_ = len := by grind
  rw [eL, if_neg (by grind)]
  grind
theorem turned_z {a : KA} {raw : Rat} (h : RawZ a raw) {sp : Option Spn} (hs : SpanP sp) : TurnedZ a raw (turnQ a a.k0 raw sp) := by
  have zr := h.zr
  have zn := h.zn
  have z0 : ∀ {k : Nat}, Sz (k + 1) (0 : Rat) := sz_zero
  by_cases ho : opnB sp = true
  · rw [turn_opn ho]
    have zk : KS.sz ⟨raw, a.k0.now raw, 1, 0, a.k0.bnd a.slew a.drift raw, none⟩ := ⟨zr.mono (by decide), zn.mono (by decide), one70, z0, h.zb.mono (by decide), fun q z => by cases z⟩
    have ze : Sz 300 (raw + 0) := (zr.add (z0 (k := 0))).mono (by decide)
    exact ⟨zk, fun q z => (by cases z), z0, ze, due_cz h.b.sz zk ze (fun _ => by rw [now_end]; exact (zn.add (ones_sz.mul (z0 (k := 0)))).mono (by decide))⟩
  obtain ⟨lo, hi, rfl⟩ := opn_no (by simpa using ho)
  obtain ⟨hz, hle⟩ := hs _ rfl
  have gz := go_z h (hz.1 lo rfl) (hz.2 hi rfl)
  have et : turnQ a a.k0 raw (some (some lo, some hi)) = a.go raw (a.k0.now raw) (closeQ lo hi (a.k0.now raw) (a.k0.bnd a.slew a.drift raw)).1 (closeQ lo hi (a.k0.now raw) (a.k0.bnd a.slew a.drift raw)).2 := rfl
  rw [et]
  generalize a.k0.now raw = w at *
  generalize (closeQ lo hi w (a.k0.bnd a.slew a.drift raw)).1 = f1 at *
  generalize (closeQ lo hi w (a.k0.bnd a.slew a.drift raw)).2 = f2 at *
  obtain ⟨z1, z2, zm, zg, zh, zl, ze⟩ := gz
  have te := turn_end (w := w) (aim := (f1 + f2) * fr 1 2) h.b.s0
  unfold KA.go
  generalize (f1 + f2) * fr 1 2 = m at *
  by_cases hj : a.over (m - w) = true
  · rw [if_pos hj]
    have zk : KS.sz ⟨raw, m, 1, 0, m - f1, some (m - f1)⟩ := ⟨zr.mono (by decide), zm.mono (by decide), one70, z0, zh.mono (by decide), fun q z => by cases z; exact zh.mono (by decide)⟩
    have ze : Sz 300 (raw + 0) := (zr.add (z0 (k := 0))).mono (by decide)
    exact ⟨zk, fun q z => (by cases z; exact zm.mono (by decide)), z0, ze, due_cz h.b.sz zk ze (fun z => by cases z)⟩
  · rw [if_neg hj]
    have zk : KS.sz ⟨raw, w, a.pace (m - w), absQ (m - w) / a.slew, absQ (m - w) + (m - f1), some (m - f1)⟩ := ⟨zr.mono (by decide), zn.mono (by decide), pace_sz h.b, zl.mono (by decide), ((absQ_sz zg).add zh).mono (by decide), fun q z => by cases z; exact zh.mono (by decide)⟩
    have ze' : Sz 300 (raw + absQ (m - w) / a.slew) := (zr.add zl).mono (by decide)
    refine ⟨zk, fun q z => (by cases z; exact zm.mono (by decide)), zl, ze', due_cz h.b.sz zk ze' (fun _ => ?_)⟩
    show Sz 300 (KS.now ⟨raw, w, a.pace (m - w), absQ (m - w) / a.slew, absQ (m - w) + (m - f1), some (m - f1)⟩ (raw + absQ (m - w) / a.slew))
    rw [now_end]
    exact (zn.add ((show Sz 8 (a.pace (m - w)) from by
      unfold KA.pace
      have z0 : Sz 0 (0 : Rat) ∨ True := .inr trivial
      split
      · exact ones_sz.mono (by decide)
      · split
        · exact (ones_sz.add h.b.zs).mono (by decide)
        · rw [show (1 : Rat) + (0 - a.slew) = 1 - a.slew by grind]
          exact (ones_sz.sub h.b.zs).mono (by decide)).mul zl)).mono (by decide)
theorem st_sz {a : KA} (h : BegZ a) : a.st.sz := ⟨h.zf.mono (by decide), fun p hp => by
  have e : p = (a.first, a.y, (1 : Rat)) := by simpa [KA.st, stQ0] using hp
  subst e; exact ⟨h.zf.mono (by decide), h.zy.mono (by decide), one70⟩, Nat.le_of_ble_eq_true rfl, h.ze.mono (by decide), h.ze.mono (by decide), h.zs.mono (by decide), h.zd.mono (by decide), h.zo⟩
theorem steer_z {a : KA} {raw : Rat} (h : RawZ a raw) {sp : Option Spn} (hs : SpanP sp) : SteerZ a.st raw sp := by
  have en : atQ a.st.ps raw = a.k0.now raw := by rw [st_at, k0_now h.ge]
  have eb := st_err h.ge h.b.s0
  have zn := h.zn
  have zr := h.zr
  have key : ∀ lo hi, sp = some (some lo, some hi) → GoZ a raw (a.k0.now raw) (closeQ lo hi (a.k0.now raw) (a.k0.bnd a.slew a.drift raw)).1 (closeQ lo hi (a.k0.now raw) (a.k0.bnd a.slew a.drift raw)).2 := fun lo hi e => by
    obtain ⟨hz, _⟩ := hs _ e
    exact go_z h (hz.1 lo rfl) (hz.2 hi rfl)
  refine ⟨st_sz h.b, zr.mono (by decide), ⟨(a.first, a.y, 1), rfl, h.ge⟩, h.ge, by rw [en]; exact zn.mono (by decide), by rw [eb]; exact h.zb.mono (by decide), fun lo hi e => ?_, fun lo hi e => ?_, ?_⟩
  · obtain ⟨hz, _⟩ := hs _ e
    have gz := key lo hi e
    rw [en, eb]
    refine ⟨(hz.1 lo rfl).mono (by decide), (hz.2 hi rfl).mono (by decide), gz.z1.mono (by decide), gz.z2.mono (by decide), ⟨zr.mono (by decide), zn.mono (by decide), gz.zm.mono (by decide), h.b.zs.mono (by decide), ?_, h.b.zi.mono (by decide), gz.zl.mono (by decide)⟩⟩
    have := h.b.s0
    show a.slew ≠ 0
    grind
  · obtain ⟨hz, _⟩ := hs _ e
    exact ⟨fun q z => (hz.1 q z).mono (by decide), fun q z => (hz.2 q z).mono (by decide)⟩
  · unfold StQ.planO
    split
    · rename_i lo hi
      have gz := key lo hi rfl
      rw [en, eb]
      generalize (closeQ lo hi (a.k0.now raw) (a.k0.bnd a.slew a.drift raw)).1 = f1 at *
      generalize (closeQ lo hi (a.k0.now raw) (a.k0.bnd a.slew a.drift raw)).2 = f2 at *
      unfold StQ.plan
      rw [en]
      generalize a.k0.now raw = w at *
      obtain ⟨z1, z2, zm, zg, zh, zl, ze⟩ := gz
      generalize (f1 + f2) * fr 1 2 = m at *
      split
      · intro p hp
        rw [List.mem_singleton] at hp; subst hp
        exact ⟨zr.mono (by decide), zm.mono (by decide), one70⟩
      · unfold towardsQ
        split
        · intro p hp
          rw [List.mem_singleton] at hp; subst hp
          exact ⟨zr.mono (by decide), zn.mono (by decide), one70⟩
        · intro p hp
          simp only [List.mem_cons, List.not_mem_nil, or_false] at hp
          rcases hp with rfl | rfl
          · exact ⟨zr.mono (by decide), zn.mono (by decide), (rate_sz h.b).mono (by decide)⟩
          · exact ⟨(zr.add zl).mono (by decide), ze.mono (by decide), one70⟩
    · intro p hp
      rw [List.mem_singleton] at hp; subst hp
      rw [en]
      exact ⟨zr.mono (by decide), zn.mono (by decide), one70⟩
theorem due_len (a : KA) (k : KS) (j : Bool) : (dueQ a k j).length ≤ 3 := by
  unfold dueQ
  split
  · simp
  · split <;> split <;> simp
theorem after_sz {a : KA} {raw : Rat} (h : RawZ a raw) {sp : Option Spn} (hs : SpanP sp) : (a.st.after raw sp).sz := by
  have S := steered (h.go hs)
  have Z := turned_z h hs
  refine ⟨by rw [S.at1]; exact h.zr.mono (by decide), by rw [S.ps]; exact Z.zc, by rw [S.ps]; have := due_len a (turnQ a a.k0 raw sp).k (turnQ a a.k0 raw sp).j; omega, by rw [S.bd]; exact Z.zk.zb, ?_, by rw [S.sl]; exact h.b.zs.mono (by decide), by rw [S.dr]; exact h.b.zd.mono (by decide), by rw [S.st]; exact h.b.zo⟩
  rw [S.hf]
  cases e : (turnQ a a.k0 raw sp).k.h with
  | none => exact Z.zk.zb
  | some q => exact Z.zk.zh q e
/-- a due course: rising starts, from the beginning on -/
theorem due_asc {a : KA} {k : KS} {j : Bool} (h : ¬ k.at_ < a.first) (hl : 0 ≤ k.len) : Asc (dueQ a k j) ∧ ∃ p, (dueQ a k j)[0]? = some p ∧ p.1 = a.first := by
  unfold dueQ
  split
  · exact ⟨List.pairwise_singleton _ _, _, rfl, rfl⟩
  · rename_i hn
    have h2 : j = false → 0 < k.len := fun e => by
      have : ¬ k.len = 0 := fun z => hn ⟨e, z⟩
      grind
    by_cases e1 : k.at_ = a.first
    · rw [if_pos e1]
      cases j with
      | true => exact ⟨List.pairwise_singleton _ _, _, rfl, e1⟩
      | false =>
        have := h2 rfl
        refine ⟨?_, _, rfl, e1⟩
        show Asc [(k.at_, k.y, k.r), (k.at_ + k.len, k.now (k.at_ + k.len), 1)]
        unfold Asc
        simp only [List.pairwise_cons, List.mem_singleton, forall_eq]
        refine ⟨by grind, ?_⟩
        simp
    · rw [if_neg e1]
      have e2 : a.first < k.at_ := by grind
      cases j with
      | true =>
        refine ⟨?_, _, rfl, rfl⟩
        show Asc [(a.first, a.y, 1), (k.at_, k.y, k.r)]
        unfold Asc
        simp only [List.pairwise_cons, List.mem_singleton, forall_eq]
        refine ⟨e2, ?_⟩
        simp
      | false =>
        have := h2 rfl
        refine ⟨?_, _, rfl, rfl⟩
        show Asc [(a.first, a.y, 1), (k.at_, k.y, k.r), (k.at_ + k.len, k.now (k.at_ + k.len), 1)]
        unfold Asc
        simp only [List.pairwise_cons, List.mem_cons, List.not_mem_nil, or_false, forall_eq_or_imp, forall_eq]
        refine ⟨⟨e2, by grind⟩, by grind, ?_⟩
        simp
/-- the readings that the law asks at -/
structure TsZ (a : KA) (ts : List Rat) : Prop where
  nt : ts.length ≤ 1000
  zt : ∀ t ∈ ts, Sz 300 t
  ge : ∀ t ∈ ts, ¬ t < a.first
theorem ans_first {a : KA} {ts : List Rat} (h : BegZ a) (ht : TsZ a ts) : AnsZ a a.st a.k0 none [(a.first, a.y, 1)] ts where
  zs := st_sz h
  za := h.sz
  zk := k0_sz h
  zc := (st_sz h).zp
  ne := by intro z; cases z
  nl := Nat.le_of_ble_eq_true rfl
  ea := rfl
  ec := rfl
  nt := ht.nt
  zt := ht.zt
  p0 := fun t m => ⟨_, rfl, ht.ge t m⟩
  sh := fun t m => now_atQ (List.pairwise_singleton _ _) rfl (ht.ge t m)
  er := fun t m q => ⟨q, (st_err (ht.ge t m) h.s0).symm⟩
theorem ans_after {a : KA} {raw : Rat} {sp : Option Spn} {ts : List Rat} (h : RawZ a raw) (hs : SpanP sp) (ht : TsZ a ts) : AnsZ a (a.st.after raw sp) (turnQ a a.k0 raw sp).k (turnQ a a.k0 raw sp).aim (dueQ a (turnQ a a.k0 raw sp).k (turnQ a a.k0 raw sp).j) ts := by
  have S := steered (h.go hs)
  have Z := turned_z h hs
  have hz := after_sz h hs
  obtain ⟨ha, p, hp, ep⟩ := due_asc (a := a) (k := (turnQ a a.k0 raw sp).k) (j := (turnQ a a.k0 raw sp).j) (by rw [S.at2]; exact h.ge) S.le
  have hne : (a.st.after raw sp).ps ≠ [] := by rw [S.ps]; intro z; rw [z] at hp; cases hp
  refine ⟨hz, h.b.sz, Z.zk, Z.zc, hne, Nat.le_trans (due_len _ _ _) (by decide), S.aim, ?_, ht.nt, ht.zt, fun t m => ⟨p, by rw [S.ps]; exact hp, by rw [ep]; exact ht.ge t m⟩, fun t m => ?_, fun t m q => ⟨by rw [S.at1]; rw [S.at2] at q; exact q, (S.er t (by rw [S.at2] at q; exact q)).symm⟩⟩
  · rw [← S.ps, StQ.after_eq]
    exact tidy_idem
  · rw [S.ps]
    exact now_atQ ha hp (by rw [ep]; exact ht.ge t m)
theorem span_none : SpanP none := fun s z => by cases z
theorem due_none {a : KA} {raw : Rat} : dueQ a (turnQ a a.k0 raw none).k (turnQ a a.k0 raw none).j = [(a.first, a.y, 1)] := by
  unfold dueQ
  exact if_pos ⟨rfl, rfl⟩
end DL

end
section
set_option Elab.async false
set_option linter.all false
set_option maxRecDepth 100000
set_option maxHeartbeats 400000
namespace Lw
open PySem L2 DL
def top (i : Nat) : Stmt := PySem.Challenge.pw_clockverdict_k34_steer_once.main.body.getD i (.Pass ⟨0, 0, 0, 0⟩)
abbrev v_ZERO_steering : D := .tup [.int 0, .int 1]
abbrev v_ONE : D := .tup [.int 1, .int 1]
abbrev v_ZERO_courses : D := .tup [.int 0, .int 1]
abbrev v_TWO : D := .tup [.int 2, .int 1]

/-! _law_store -/
abbrev s_l_store : Stmt := top 42
abbrev n_l_store : Nm := { N := ["_law_script"], V := [0], as := [0], GN := ["list"], k := 0, oi := [], lc := [0], sc := none }
theorem sc_l_store : FnScope n_l_store.N ["_law_script"] (defScope s_l_store) := ⟨rfl, rfl, rfl, by decide +kernel, rfl, by decide +kernel, by decide +kernel⟩
theorem sb_l_store : ScOk (defScope s_l_store) n_l_store := scOk_of (by decide +kernel)
abbrev S_l_store : Sg := ST_store
theorem bd_l_store {X : Cx} {c : Cc} (b_list : Blt X "list" (.type "list")) : ∀ ps Post, S_l_store ps Post → WB X n_l_store c (entry n_l_store.N ps) (defBody s_l_store) (fnD n_l_store.oi Post) := by
  rintro ps Post ⟨ns, rfl, hz, post⟩
  show WB X n_l_store c [.sc ns] _ _
  refine wb_one (ws_retO (wo_lst (wa_cons (wk_e (we_frz (wo_of (eo_listSc b_list 0 0) ⟨_, rfl, wa_cons (wk_e (we_of ev_int (wa_cons (wk_e (we_of ev_int (wa_cons (wk_e (we_of ev_int (wa_cons (wk_e (we_of ev_int (wa_cons (wk_e (we_of ev_int (wa_nil ?_)))))))))))))))⟩))))))
  refine ⟨_, rfl, Nat.le_of_ble_eq_true rfl, .own .sto, [], .inr ⟨rfl, ns, 0, 0, 1, 0, 0, rfl, ?_⟩, rfl, post⟩
  exact ⟨hz, ⟨by omega, by omega⟩, by omega, ⟨by omega, by omega⟩, ⟨by omega, by omega⟩, by omega⟩


/-! _law_feed -/
abbrev s_l_feed : Stmt := top 43
abbrev n_l_feed : Nm := { N := ["_law_store_here", "_law_cell"], V := [0, 1], as := [0, 1], GN := ["int", "abs"], k := 0, oi := [0], lc := [0, 1], sc := none }
theorem sc_l_feed : FnScope n_l_feed.N ["_law_store_here"] (defScope s_l_feed) := ⟨rfl, rfl, rfl, by decide +kernel, rfl, by decide +kernel, by decide +kernel⟩
theorem sb_l_feed : ScOk (defScope s_l_feed) n_l_feed := scOk_of (by decide +kernel)
abbrev S_l_feed : Sg := ST_feed
theorem bd_l_feed {X : Cx} {c : Cc} (b_int : Blt X "int" (.type "int")) (b_abs : Blt X "abs" (.builtin "abs")) : ∀ ps Post, S_l_feed ps Post → WB X n_l_feed c (entry n_l_feed.N ps) (defBody s_l_feed) (fnD n_l_feed.oi Post) := by
  rintro ps Post ⟨ns, pl, great, st, left, cnt, rfl, ⟨b1, ⟨b2, b3⟩, b4, ⟨b5, b6⟩, ⟨b7, b8⟩, b9⟩, hp, post⟩
  show WB X n_l_feed c [.own (.lst (stoD ns pl great st left cnt)), .no] _ _
  obtain ⟨cell, hc⟩ : ∃ cell : Int, ns[pl]? = some cell := ⟨_, List.getElem?_eq_getElem hp⟩
  refine wb_cons (ws_set 1 (we_of (ev_toint b_int 0 (ev_ixt (ev_ix (ek_s 0) ev_int rfl) (ev_ix (ek_s 0) ev_int rfl) (at_lst (z := .int cell) (by rw [List.getElem?_map, hc]; rfl)))) ?_))
  refine wb_cons (ws_setIx 0 (we_of (ev_add (ev_ix (ek_s 0) ev_int rfl) ev_int) (we_of ev_int ⟨_, _, 1, rfl, rfl, rfl, ?_⟩)))
  refine wb_cons (ws_setIx 0 (we_of (ev_mod (ev_toint b_int 0 (ev_add (ev_mul64 (ev_ix (ek_s 0) ev_int rfl) ev_int (.inr ⟨by decide, by decide⟩)) (ev_var 1))) ev_int (by decide)) (we_of ev_int ⟨_, _, 3, rfl, rfl, rfl, ?_⟩)))
  have m1 : 0 ≤ (st * 30011 + cell).fmod 1000000007 := Int.fmod_nonneg_of_pos _ (by decide)
  have m2 : (st * 30011 + cell).fmod 1000000007 < 1000000007 := Int.fmod_lt_of_pos _ (by decide)
  refine wb_one (ws_ifE (EW.t (ew_or (et_ge (ev_var 1) (ev_pow ev_int ev_int ⟨by decide, by decide, by decide⟩)) fun _ => ew_or1 (et_le (ev_var 1) (ev_sub ev_int (ev_pow ev_int ev_int ⟨by decide, by decide, by decide⟩))))) (fun h => wb_one (ws_setIx 0 (we_of (ev_abs b_abs 1 (ev_var 1)) (we_of ev_int ⟨_, _, 2, rfl, rfl, rfl, ?_⟩)))) (fun h => wb_one (ws_setIx 0 (we_of ev_int (we_of ev_int ⟨_, _, 4, rfl, rfl, rfl, ?_⟩)))))
  · refine ⟨[.sto], ⟨_, .sto, [], rfl, rfl, .inr ⟨rfl, ns, (pl : Int) + 1, if cell < 0 then -cell else cell, (st * 30011 + cell).fmod 1000000007, left, cnt, rfl, ?_⟩, rfl⟩, post⟩
    exact ⟨b1, ⟨by omega, by omega⟩, by split <;> omega, ⟨m1, m2⟩, ⟨b7, b8⟩, b9⟩
  · refine ⟨[.sto], ⟨_, .sto, [], rfl, rfl, .inr ⟨rfl, ns, (pl : Int) + 1, great, (st * 30011 + cell).fmod 1000000007, 3, cnt, rfl, ?_⟩, rfl⟩, post⟩
    exact ⟨b1, ⟨by omega, by omega⟩, b4, ⟨m1, m2⟩, ⟨by omega, by omega⟩, b9⟩


/-! _law_mixed -/
abbrev s_l_mixed : Stmt := top 44
abbrev n_l_mixed : Nm := { N := ["_law_store_here"], V := [0], as := [0], GN := ["int"], k := 0, oi := [0], lc := [0], sc := none }
theorem sc_l_mixed : FnScope n_l_mixed.N ["_law_store_here"] (defScope s_l_mixed) := ⟨rfl, rfl, rfl, by decide +kernel, rfl, by decide +kernel, by decide +kernel⟩
theorem sb_l_mixed : ScOk (defScope s_l_mixed) n_l_mixed := scOk_of (by decide +kernel)
abbrev S_l_mixed : Sg := ST_mixed
theorem bd_l_mixed {X : Cx} {c : Cc} (b_int : Blt X "int" (.type "int")) : ∀ ps Post, S_l_mixed ps Post → WB X n_l_mixed c (entry n_l_mixed.N ps) (defBody s_l_mixed) (fnD n_l_mixed.oi Post) := by
  rintro ps Post ⟨ns, place, great, st, left, cnt, rfl, ⟨b1, ⟨b2, b3⟩, b4, ⟨b5, b6⟩, ⟨b7, b8⟩, b9⟩, post⟩
  show WB X n_l_mixed c [.own (.lst (stoD ns place great st left cnt))] _ _
  refine wb_cons (ws_setIx 0 (we_of (ev_add (ev_ix (ek_s 0) ev_int rfl) ev_int) (we_of ev_int ⟨_, _, 5, rfl, rfl, rfl, ?_⟩)))
  refine wb_cons (ws_setIx 0 (we_of (ev_mod (ev_toint b_int 0 (ev_add (ev_add (ev_mul64 (ev_ix (ek_s 0) ev_int rfl) ev_int (.inr ⟨by decide, by decide⟩)) (ev_mul64 (ev_ix (ek_s 0) ev_int rfl) ev_int (.inr ⟨by decide, by decide⟩))) ev_int)) ev_int (by decide)) (we_of ev_int ⟨_, _, 3, rfl, rfl, rfl, ?_⟩)))
  have m1 : 0 ≤ (st * 70003 + (cnt + 1) * 1009 + 1).fmod 1000000007 := Int.fmod_nonneg_of_pos _ (by decide)
  have m2 : (st * 70003 + (cnt + 1) * 1009 + 1).fmod 1000000007 < 1000000007 := Int.fmod_lt_of_pos _ (by decide)
  refine wb_one (ws_ret (we_of (ev_mod (ev_toint b_int 0 (ev_add (ev_mul64 (ev_ix (ek_s 0) ev_int rfl) ev_int (.inr ⟨by decide, by decide⟩)) (ev_fdiv (ev_ix (ek_s 0) ev_int rfl) ev_int ⟨by decide, by decide⟩))) ev_int (by decide)) ?_))
  refine ⟨_, [.sto], rfl, ⟨_, .sto, [], rfl, rfl, .inr ⟨rfl, ns, place, great, (st * 70003 + (cnt + 1) * 1009 + 1).fmod 1000000007, left, cnt + 1, rfl, ?_⟩, rfl⟩, post _ (Int.fmod_nonneg_of_pos _ (by decide)) (Int.fmod_lt_of_pos _ (by decide))⟩
  exact ⟨b1, ⟨b2, b3⟩, b4, ⟨m1, m2⟩, ⟨b7, b8⟩, by omega⟩


/-! _law_take -/
abbrev s_l_take : Stmt := top 45
abbrev n_l_take : Nm := { N := ["_law_store_here", "_law_many", "_law_number"], V := [0, 1, 2], as := [0, 1, 2], GN := ["max", "len", "_law_feed", "int", "_law_mixed"], k := 1, oi := [0], lc := [0, 1, 2], sc := none }
theorem sc_l_take : FnScope n_l_take.N ["_law_store_here", "_law_many"] (defScope s_l_take) := ⟨rfl, rfl, rfl, by decide +kernel, rfl, by decide +kernel, by decide +kernel⟩
theorem sb_l_take : ScOk (defScope s_l_take) n_l_take := scOk_of (by decide +kernel)
abbrev S_l_take : Sg := ST_take
theorem bd_l_take {X : Cx} {c : Cc} (b_max : Blt X "max" (.builtin "max")) (b_len : Blt X "len" (.builtin "len")) (c_l_feed : CalF X n_l_take.k "_law_feed" S_l_feed) (b_int : Blt X "int" (.type "int")) (c_l_mixed : CalF X n_l_take.k "_law_mixed" S_l_mixed) : ∀ ps Post, S_l_take ps Post → WB X n_l_take c (entry n_l_take.N ps) (defBody s_l_take) (fnD n_l_take.oi Post) := by
  rintro ps Post ⟨many0, rfl, hB, post⟩
  show WB X n_l_take c [.own .sto, .d (.int many0), .no] _ _
  refine wb_cons (ws_set 1 (we_of (ev_max b_max 0 ev_int (ev_var 1)) ?_))
  generalize hm : (if many0 > 1 then many0 else 1) = many at *
  have h1 : 1 ≤ many := by rw [← hm]; split <;> omega
  have hB' : Bt 8000 many := by
    rw [← hm]; split
    · exact hB
    · show Int.natAbs 1 < 2 ^ 8000
      exact Nat.one_lt_two_pow (by decide)
  have hd : ∀ i, CDivA i many := fun i => hB'.cd (by omega) (by decide)
  have k0 : ∀ i : Int, 0 ≤ i.fmod many := fun i => Int.fmod_nonneg_of_pos _ (by omega)
  have k1 : ∀ i : Int, i.fmod many < many := fun i => Int.fmod_lt_of_pos _ (by omega)
  refine wb_open 0 rfl fun ns place great st left cnt hs => ?_
  refine wb_cut (fun Γ => Γ = [.own .sto, .d (.int many), .no] ∨ ∃ ns place great st left cnt, StoreB ns place great st left cnt ∧ Γ = [.own (.lst (stoD ns place great st left cnt)), .d (.int many), .no]) (ws_ifE (EW.t (ew_and (et_eq (ev_ix (ek_s 0) ev_int rfl) ev_int) fun _ => ew_and (et_eq (ev_ix (ek_s 0) ev_int rfl) ev_int) fun _ => ew_and1 (et_lt (ev_ix (ek_s 0) ev_int rfl) (ev_len (x := .lst (ns.map .int)) (m := (ns.map D.int).length) b_len 1 (ek_d (ev_ix (ek_s 0) ev_int rfl)))))) (fun h => ?_) (fun h => wb_nil (.inr ⟨ns, place, great, st, left, cnt, hs, rfl⟩))) ?_
  · refine wb_one (ws_expr (we_callE c_l_feed 2 (ea_cons (ek_o 0) ea_nil) ?_))
    have hp : place < (ns.length : Int) := by
      have := h
      simp only [Bool.and_eq_true, decide_eq_true_eq, List.length_map] at this
      exact this.2.2
    have hp0 : 0 ≤ place := hs.2.1.1
    obtain ⟨pl, rfl⟩ := Int.eq_ofNat_of_zero_le hp0
    exact ⟨ns, pl, great, st, left, cnt, rfl, hs, by omega, .non, rfl, .inl rfl⟩
  have main : ∀ ns place great st left cnt, StoreB ns place great st left cnt → WB X n_l_take c [.own (.lst (stoD ns place great st left cnt)), .d (.int many), .no] (List.drop 2 (defBody s_l_take)) (fnD (n_l_take).oi Post) := by
    intro ns place great st left cnt hs
    have ⟨b1, ⟨b2, b3⟩, b4, ⟨b5, b6⟩, ⟨b7, b8⟩, b9⟩ := hs
    refine wb_cut (fun Γ => Γ = [.own (.lst (stoD ns place great st left cnt)), .d (.int many), .no]) (ws_ifE (et_gt (ev_ix (ek_s 0) ev_int rfl) ev_int) (fun h => ?_) (fun h => wb_nil rfl)) ?_
    · have hg : 0 < great := of_decide_eq_true h
      refine wb_cons (ws_set 2 (we_of (ev_ix (ek_s 0) ev_int rfl) ?_))
      refine wb_cons (ws_setIx 0 (we_of (ev_fdiv (ev_var 2) (ev_var 1) (hd _)) (we_of ev_int ⟨_, _, 2, rfl, rfl, rfl, ?_⟩)))
      refine wb_one (ws_ret (we_of (ev_mod (ev_toint b_int 3 (ev_var 2)) (ev_var 1) (by omega)) ?_))
      refine ⟨_, [.sto], rfl, ⟨_, .sto, [], rfl, rfl, .inr ⟨rfl, ns, place, great.fdiv many, st, left, cnt, rfl, ?_⟩, rfl⟩, post _ (k0 _) (k1 _)⟩
      exact ⟨b1, ⟨b2, b3⟩, Int.fdiv_nonneg b4 (by omega), ⟨b5, b6⟩, ⟨b7, b8⟩, b9⟩
    rintro Γ rfl
    refine wb_cons (ws_setIx 0 (we_of (ev_max b_max 0 ev_int (ev_sub (ev_ix (ek_s 0) ev_int rfl) ev_int)) (we_of ev_int ⟨_, _, 4, rfl, rfl, rfl, ?_⟩)))
    refine wb_cons (ws_set 2 (we_callE c_l_mixed 4 (ea_cons (ek_o 0) ea_nil) ?_))
    refine ⟨ns, place, great, st, if left - 1 > 0 then left - 1 else 0, cnt, rfl, ⟨b1, ⟨b2, b3⟩, b4, ⟨b5, b6⟩, by constructor <;> split <;> omega, b9⟩, fun m m0 m1 => ⟨.int m, rfl, ?_⟩⟩
    show WB X n_l_take c [.own .sto, .d (.int many), .d (.int m)] _ _
    refine wb_open 0 rfl fun ns place great st left cnt hs => ?_
    refine wb_cut (fun Γ => ∃ (o : OB) (m : Int), Γ = [.own o, .d (.int many), .d (.int m)] ∧ o.le .sto) (ws_ifE (et_gt (ev_var 1) ev_int) (fun h => wb_one (ws_set 2 ?_)) (fun h => wb_nil ⟨_, m, rfl, .inr ⟨rfl, ns, place, great, st, left, cnt, rfl, hs⟩⟩)) ?_
    · refine we_bin dop_add (wk_e (we_of (ev_var 2) (wk_e (we_bin dop_mul64 (wk_e (we_callE c_l_mixed 4 (ea_cons (ek_o 0) ea_nil) ⟨ns, place, great, st, left, cnt, rfl, hs, fun m2 _ _ => ⟨.int m2, rfl, wk_e (we_of ev_int ⟨_, _, rfl, rfl, m2, 1000000009, rfl, rfl, .inr ⟨by decide, by decide⟩, ?_⟩)⟩⟩))))))
      exact ⟨_, _, rfl, rfl, _, _, rfl, rfl, trivial, .sto, _, rfl, .inl rfl⟩
    rintro Γ ⟨o, m, rfl, ho⟩
    refine wb_one (ws_ret (we_of (ev_mod (ev_toint b_int 3 (ev_var 2)) (ev_var 1) (by omega)) ?_))
    exact ⟨_, [.sto], rfl, ⟨o, .sto, [], rfl, rfl, ho, rfl⟩, post _ (k0 _) (k1 _)⟩
  rintro Γ (rfl | ⟨ns, place, great, st, left, cnt, hs, rfl⟩)
  · exact wb_open 0 rfl fun ns place great st left cnt hs => main ns place great st left cnt hs
  · exact main ns place great st left cnt hs


/-! _law_frac -/
abbrev s_l_frac : Stmt := top 49
abbrev n_l_frac : Nm := { N := ["_law_n", "_law_d", "_law_a", "_law_b"], V := [0, 1, 2, 3], as := [0, 1, 2, 3], GN := ["abs", "int"], k := 0, oi := [], lc := [0, 1, 2, 3], sc := none }
theorem sc_l_frac : FnScope n_l_frac.N ["_law_n", "_law_d"] (defScope s_l_frac) := ⟨rfl, rfl, rfl, by decide +kernel, rfl, by decide +kernel, by decide +kernel⟩
theorem sb_l_frac : ScOk (defScope s_l_frac) n_l_frac := scOk_of (by decide +kernel)
abbrev S_l_frac : Sg := ST_frac
theorem bd_l_frac {X : Cx} {c : Cc} (b_abs : Blt X "abs" (.builtin "abs")) (b_int : Blt X "int" (.type "int")) : ∀ ps Post, S_l_frac ps Post → WB X n_l_frac c (entry n_l_frac.N ps) (defBody s_l_frac) (fnD n_l_frac.oi Post) := by
  rintro ps Post ⟨n, d, rfl, bn, bd, post⟩
  show WB X n_l_frac c [.d (.int n), .d (.int d), .no, .no] _ _
  refine wb_cut (fun Γ => Γ = [.d (.int n), .d (.int d), .no, .no] ∧ d ≠ 0) (ws_ifE (et_eq (ev_var 1) ev_int) (fun h => wb_one (ws_ret (we_of (ev_tup (ea_cons (ek_d ev_int) (ea_cons (ek_d ev_int) ea_nil))) ⟨_, [], rfl, rfl, ?_⟩))) (fun h => wb_nil ⟨rfl, of_decide_eq_false h⟩)) ?_
  · have h0 : d = 0 := of_decide_eq_true h
    rw [h0, fr_zero] at post
    exact post
  rintro Γ ⟨rfl, h0⟩
  refine wb_cons (ws_set 2 (we_of (ev_abs b_abs 0 (ev_var 0)) ?_))
  refine wb_cons (ws_set 3 (we_of (ev_abs b_abs 0 (ev_var 1)) ?_))
  have e1 : (if n < 0 then -n else n) = (n.natAbs : Int) := by split <;> omega
  have e2 : (if d < 0 then -d else d) = (d.natAbs : Int) := by split <;> omega
  rw [e1, e2]
  refine wb_cut (fun Γ => Γ = [.d (.int n), .d (.int d), .d (.int (Int.gcd n d : Nat)), .d (.int 0)]) (ws_while (fun m Γ => ∃ u v : Nat, m = v ∧ Γ = [.d (.int n), .d (.int d), .d (.int (u : Int)), .d (.int (v : Int))] ∧ Nat.gcd u v = Int.gcd n d) d.natAbs ⟨n.natAbs, d.natAbs, rfl, rfl, rfl⟩ ?_) ?_
  · rintro v Γ ⟨u, _, rfl, rfl, hg⟩
    refine wt_of (et_gt (ev_var 3) ev_int) ⟨fun h => ?_, fun h => ?_⟩
    · have hv : (0 : Int) < (v : Int) := of_decide_eq_true h
      refine wb_one (ws_par 2 3 (wa_of (ea_cons (ek_d (ev_var 3)) (ea_cons (ek_d (ev_mod (ev_toint b_int 1 (ev_var 2)) (ev_var 3) (by omega))) ea_nil)) ⟨_, _, rfl, ?_⟩))
      refine ⟨u % v, Nat.mod_lt _ (by omega), v, u % v, rfl, ?_, ?_⟩
      · show [_, _, _, _] = _
        rw [Int.fmod_eq_emod_of_nonneg _ (by omega)]; rfl
      · rw [← hg, Nat.gcd_comm v, ← Nat.gcd_rec, Nat.gcd_comm]
    · have hv : ¬ ((0 : Int) < (v : Int)) := of_decide_eq_false h
      have hv : v = 0 := by omega
      subst hv
      show _ = _
      rw [← hg]; simp
  rintro Γ rfl
  have gz : Int.gcd n d ≠ 0 := fun z => h0 (Int.gcd_eq_zero_iff.mp z).2
  have gle : Int.gcd n d ≤ d.natAbs := Nat.le_of_dvd (by omega) (Nat.gcd_dvd_right _ _)
  refine wb_cut (fun Γ => Γ = [.d (.int n), .d (.int d), .d (.int (if d < 0 then 0 - (Int.gcd n d : Nat) else (Int.gcd n d : Nat))), .d (.int 0)]) (ws_ifE (et_lt (ev_var 1) ev_int) (fun h => wb_one (ws_set 2 (we_of (ev_sub ev_int (ev_var 2)) ?_))) (fun h => wb_nil ?_)) ?_
  · have := of_decide_eq_true h
    show [_, _, _, _] = _
    rw [if_pos this]
  · have := of_decide_eq_false h
    show [_, _, _, _] = _
    rw [if_neg this]
  rintro Γ rfl
  obtain ⟨f1, f2⟩ := frac_div (n := n) h0
  have sb : Bt 8000 (if d < 0 then 0 - ((Int.gcd n d : Nat) : Int) else ((Int.gcd n d : Nat) : Int)) := bd.le (by split <;> omega)
  have sz : (if d < 0 then 0 - ((Int.gcd n d : Nat) : Int) else ((Int.gcd n d : Nat) : Int)) ≠ 0 := by split <;> omega
  refine wb_one (ws_ret (we_of (ev_tup (ea_cons (ek_d (ev_fdiv (ev_var 0) (ev_var 2) (sb.cd sz (by decide)))) (ea_cons (ek_d (ev_fdiv (ev_var 1) (ev_var 2) (sb.cd sz (by decide)))) ea_nil))) ⟨_, [], rfl, rfl, ?_⟩))
  rw [f1, f2]; exact post


/-! _law_times -/
abbrev s_l_times : Stmt := top 52
abbrev n_l_times : Nm := { N := ["_law_a", "_law_b"], V := [0, 1], as := [0, 1], GN := ["_law_frac"], k := 1, oi := [], lc := [0, 1], sc := none }
theorem sc_l_times : FnScope n_l_times.N ["_law_a", "_law_b"] (defScope s_l_times) := ⟨rfl, rfl, rfl, by decide +kernel, rfl, by decide +kernel, by decide +kernel⟩
theorem sb_l_times : ScOk (defScope s_l_times) n_l_times := scOk_of (by decide +kernel)
abbrev S_l_times : Sg := ST_2 (· * ·)
theorem bd_l_times {X : Cx} {c : Cc} (c_l_frac : CalF X n_l_times.k "_law_frac" S_l_frac) : ∀ ps Post, S_l_times ps Post → WB X n_l_times c (entry n_l_times.N ps) (defBody s_l_times) (fnD n_l_times.oi Post) := by
  rintro ps Post ⟨a, b, j, k, rfl, ha, hb, hjk, post⟩
  show WB X n_l_times c [.w (qD a), .w (qD b)] _ _
  have m1 : ∀ {u v : Int}, Bt (8 * j) u → Bt (8 * k) v → CMulW u v := fun h h' => h.cm h' (by omega)
  have m2 : ∀ {u v : Int}, Bt (8 * k) u → Bt (8 * j) v → CMulW u v := fun h h' => h.cm h' (by omega)
  have i0 : ∀ q : Rat, (qD q).at 0 = some (.int q.num) := fun _ => rfl
  have i1 : ∀ q : Rat, (qD q).at 1 = some (.int (q.den : Int)) := fun _ => rfl
  refine wb_one (ws_ret (we_of (ev_call2 c_l_frac 0 (ek_d (ev_mul (ev_ix (ek_s 0) ev_int (i0 a)) (ev_ix (ek_s 1) ev_int (i0 b)) (m1 ha.n hb.n))) (ek_d (ev_mul (ev_ix (ek_s 0) ev_int (i1 a)) (ev_ix (ek_s 1) ev_int (i1 b)) (m1 (ha.d.mono (by omega)) (hb.d.mono (by omega))))) fun Q q => ⟨_, _, rfl, ?_, ?_, ?_⟩) ⟨_, [], rfl, rfl, post⟩))
  · exact (ha.n.mul hb.n).mono (by omega)
  · exact (ha.d.mul hb.d).mono (by omega)
  · rw [fr_mul]; exact q


/-! _law_slews -/
abbrev s_l_slews : Stmt := top 59
abbrev n_l_slews : Nm := { N := ["_law_store_here", "_law_parts", "_law_bend"], V := [0, 1, 2], as := [0, 1, 2], GN := ["_law_take", "_law_frac", "_law_times"], k := 2, oi := [0], lc := [0, 1, 2], sc := none }
theorem sc_l_slews : FnScope n_l_slews.N ["_law_store_here"] (defScope s_l_slews) := ⟨rfl, rfl, rfl, by decide +kernel, rfl, by decide +kernel, by decide +kernel⟩
theorem sb_l_slews : ScOk (defScope s_l_slews) n_l_slews := scOk_of (by decide +kernel)
abbrev S_l_slews : Sg := ST_slews
theorem bd_l_slews {X : Cx} {c : Cc} (c_l_take : CalF X n_l_slews.k "_law_take" S_l_take) (c_l_frac : CalF X n_l_slews.k "_law_frac" S_l_frac) (c_l_times : CalF X n_l_slews.k "_law_times" S_l_times) : ∀ ps Post, S_l_slews ps Post → WB X n_l_slews c (entry n_l_slews.N ps) (defBody s_l_slews) (fnD n_l_slews.oi Post) := by
  rintro ps Post ⟨rfl, post⟩
  show WB X n_l_slews c [.own .sto, .no, .no] _ _
  have bk : ∀ {r : SL}, Backs (.own .sto :: r) [0] [.sto] := fun {r} => ⟨.sto, .sto, [], rfl, rfl, .inl rfl, rfl⟩
  refine wb_cons (ws_set 1 (we_addL ev_int (we_takeI (m := 19) c_l_take 0 0 fun k hk => ⟨_, rfl, ?_⟩)))
  have m0 : (2 : Int) + (k : Int) = ((k + 2 : Nat) : Int) := by omega
  rw [m0]
  show WB X n_l_slews c [.own .sto, .d (.int ((k + 2 : Nat) : Int)), .no] _ _
  refine wb_cut (fun Γ => ∃ i : Nat, Γ = [.own .sto, .d (.int ((k + 2 : Nat) : Int)), .d (qD (fr (1 + (i : Int)) ((k + 2 : Nat) : Int)))] ∧ i < k + 1) (ws_set 2 (we_call2 c_l_frac 1 (we_addL ev_int (we_take c_l_take 0 0 (we_of (ev_is (ev_sub (ev_var 1) ev_int) (congrArg DL.D.int (show ((k + 2 : Nat) : Int) - 1 = ((k + 1 : Nat) : Int) by omega))) ⟨rfl, _, rfl, by omega, bt64 (by omega), fun i hi => ⟨_, rfl, we_of (ev_var 1) ⟨_, _, rfl, ?_, ?_, _, rfl, i, rfl, hi⟩⟩⟩))))) ?_
  · exact (show Bt 42 _ from bt_of (by omega) (by omega)).mono (by decide)
  · exact (show Bt 42 _ from bt_of (by omega) (by omega)).mono (by decide)
  rintro Γ ⟨i, rfl, hi⟩
  have zb : Sz 6 (fr (1 + (i : Int)) ((k + 2 : Nat) : Int)) := fr_sz ((show Bt 6 _ from bt_of (by omega) (by omega)).mono (by decide)) (bt_of (by omega) (by omega)) (by omega)
  have b0 := fr_gt0 (n := 1 + (i : Int)) (d := ((k + 2 : Nat) : Int)) (by omega) (by omega)
  have b1 := fr_lt1 (n := 1 + (i : Int)) (d := ((k + 2 : Nat) : Int)) (by omega) (by omega)
  have b20 := fr_ge20 (n := 1 + (i : Int)) (d := ((k + 2 : Nat) : Int)) (by omega) (by omega) (by omega)
  generalize fr (1 + (i : Int)) ((k + 2 : Nat) : Int) = s at zb b0 b1 b20
  refine wb_cut (fun Γ => Γ = [.own .sto, .d (.int ((k + 2 : Nat) : Int)), .d (qD s)]) (ws_if (wt_cmp dop_eqI (nomark _) (wk_e (we_takeI (m := 4) c_l_take 0 0 fun j hj => wk_e (we_of ev_int ⟨_, _, rfl, rfl, _, _, rfl, rfl, trivial, _, rfl, fun h => wb_one (ws_ret (we_of (ev_tup (ea_cons (ek_d (ev_var 2)) (ea_cons (ek_d (ev_q ev_int ev_int)) ea_nil))) ⟨_, _, rfl, bk, post s (fr 0 1) ?_⟩)), fun h => wb_nil rfl⟩))))) ?_
  · have e : fr 0 1 = 0 := by decide +kernel
    rw [e]
    have e2 : fr 1 160 ≤ fr 1 20 := by decide +kernel
    exact ⟨b0, b1, by grind, b0, by grind, zb, ⟨by decide, by decide⟩⟩
  rintro Γ rfl
  have post2 : ∀ j : Nat, j < 8 → Sz 4 (fr (j : Int) 8) ∧ Post (.d (.tup [qD s, qD (s * fr (j : Int) 8)])) [.sto] := fun j hj => by
    have zj : Sz 4 (fr (j : Int) 8) := fr_sz ((show Bt 4 _ from bt_of (by omega) (by omega)).mono (by decide)) (bt_of (by decide) (by decide)) (by decide)
    refine ⟨zj, post s (s * fr (j : Int) 8) ?_⟩
    obtain ⟨j0, j7⟩ := fr8 hj
    have j9 : fr 7 8 < 1 := by decide +kernel
    have g0 := Rat.mul_nonneg (Rat.le_of_lt b0) j0
    have g1 := Rat.mul_nonneg (show 0 ≤ s - fr 1 20 by grind) (show 0 ≤ 1 - fr (j : Int) 8 by grind)
    have g2 : fr 1 160 ≤ fr 1 20 * (1 - fr (j : Int) 8) := by
      have e : fr 1 20 * (1 - fr 7 8) = fr 1 160 := by decide +kernel
      have := Rat.mul_nonneg (show 0 ≤ fr 1 20 by decide +kernel) (show 0 ≤ fr 7 8 - fr (j : Int) 8 by grind)
      grind
    have p160 : 0 < fr 1 160 := by decide +kernel
    exact ⟨b0, b1, g0, by grind, by grind, zb, (zb.mul zj).mono (by decide)⟩
  have z8 : ∀ j : Nat, j < 8 → Bt 80000 (j : Int) := fun j hj => (show Bt 4 (j : Int) from bt_of (by omega) (by omega)).mono (by decide)
  refine wb_one (ws_ret (we_tup (wa_cons (wk_ek (ek_d (ev_var 2)) (wa_cons (wk_e (we_call2v c_l_times 2 (we_of (ev_var 2) (we_call2 c_l_frac 1 (we_takeI (m := 8) c_l_take 0 0 fun j hj => we_of ev_int ⟨_, _, rfl, z8 j hj, (show Bt 4 8 from bt_of (by decide) (by decide)).mono (by decide), _, rfl, _, _, 6, 4, rfl, zb, (post2 j hj).1, by decide, _, rfl, wa_nil ⟨_, rfl, Nat.le_of_ble_eq_true rfl, _, _, rfl, bk, (post2 j hj).2⟩⟩))))))))))


/-! _law_pick -/
abbrev s_l_pick : Stmt := top 46
abbrev n_l_pick : Nm := { N := ["_law_store_here", "_law_things"], V := [0, 1], as := [0, 1], GN := ["_law_take", "len"], k := 2, oi := [0], lc := [0, 1], sc := none }
theorem sc_l_pick : FnScope n_l_pick.N ["_law_store_here", "_law_things"] (defScope s_l_pick) := ⟨rfl, rfl, rfl, by decide +kernel, rfl, by decide +kernel, by decide +kernel⟩
theorem sb_l_pick : ScOk (defScope s_l_pick) n_l_pick := scOk_of (by decide +kernel)
abbrev S_l_pick : Sg := ST_pick
theorem bd_l_pick {X : Cx} {c : Cc} (c_l_take : CalF X n_l_pick.k "_law_take" S_l_take) (b_len : Blt X "len" (.builtin "len")) : ∀ ps Post, S_l_pick ps Post → WB X n_l_pick c (entry n_l_pick.N ps) (defBody s_l_pick) (fnD n_l_pick.oi Post) := by
  rintro ps Post ⟨x, m, rfl, hm, hz, h0, h1, hat, post⟩
  show WB X n_l_pick c [.own .sto, .w x] _ _
  refine wb_one (ws_ret (we_ix di_seq (wk_ek (ek_s 1) (wk_e (we_take c_l_take 0 0 (we_of (ev_len b_len 1 (ek_s 1) hm hz) ⟨rfl, m, rfl, h0, bt64 h1, fun k hk => ?_⟩))))))
  obtain ⟨y, hy⟩ := hat k hk
  exact ⟨x, _, rfl, rfl, k, y, rfl, hy, .d y, [.sto], rfl, ⟨.sto, .sto, [], rfl, rfl, .inl rfl, rfl⟩, post k y hk hy⟩


/-! _law_part -/
abbrev s_l_part : Stmt := top 55
abbrev n_l_part : Nm := { N := ["_law_store_here", "_law_sort"], V := [0, 1], as := [0, 1], GN := ["_law_take", "_law_pick", "_law_frac"], k := 3, oi := [0], lc := [0, 1], sc := none }
theorem sc_l_part : FnScope n_l_part.N ["_law_store_here"] (defScope s_l_part) := ⟨rfl, rfl, rfl, by decide +kernel, rfl, by decide +kernel, by decide +kernel⟩
theorem sb_l_part : ScOk (defScope s_l_part) n_l_part := scOk_of (by decide +kernel)
abbrev S_l_part : Sg := ST_draw PPart
theorem bd_l_part {X : Cx} {c : Cc} (c_l_take : CalF X n_l_part.k "_law_take" S_l_take) (c_l_pick : CalF X n_l_part.k "_law_pick" S_l_pick) (c_l_frac : CalF X n_l_part.k "_law_frac" S_l_frac) : ∀ ps Post, S_l_part ps Post → WB X n_l_part c (entry n_l_part.N ps) (defBody s_l_part) (fnD n_l_part.oi Post) := by
  rintro ps Post ⟨rfl, post⟩
  show WB X n_l_part c [.own .sto, .no] _ _
  have ret : ∀ (s : Slot) (q : Rat), Sd 60 24 q → ∃ r' os, (Res.d (qD q)).le r' ∧ Backs [.own .sto, s] [0] os ∧ Post r' os := fun s q hq => ⟨_, _, rfl, ⟨.sto, .sto, [], rfl, rfl, .inl rfl, rfl⟩, post q hq⟩
  refine wb_cons (ws_set 1 (we_takeI c_l_take 0 0 fun k hk => ?_))
  refine wb_cut (fun Γ => Γ = [.own .sto, .d (.int (k : Int))]) (ws_ifE (et_lt (ev_var 1) ev_int) (fun h => ?_) (fun h => wb_nil rfl)) ?_
  · refine wb_one (ws_ret (we_pick c_l_pick 1 0 ?_))
    refine we_frz ?_
    refine wo_of (eo_lst (ea_cons (ek_d (ev_q ev_int ev_int)) (ea_cons (ek_d (ev_q ev_int ev_int)) (ea_cons (ek_d (ev_q ev_int ev_int)) (ea_cons (ek_d (ev_q (ev_neg ev_int) ev_int)) (ea_cons (ek_d (ev_q ev_int ev_int)) (ea_cons (ek_d (ev_q (ev_neg ev_int) ev_int)) ea_nil))))))) ?_
    refine ⟨_, rfl, rfl, _, rfl, by simp, by simp, ?_⟩
    intro y hy
    simp only [List.mem_cons, List.not_mem_nil, or_false] at hy
    rcases hy with rfl | rfl | rfl | rfl | rfl | rfl <;> exact ret _ _ ⟨fr_dvd (by decide) (by decide), (fr_sz (k := 3) (bt_of (by decide) (by decide)) (bt_of (by decide) (by decide)) (by decide)).n⟩
  rintro Γ rfl
  refine wb_one (ws_ret (we_call2 c_l_frac 2 (we_subR (we_takeI (m := 49) c_l_take 0 0 fun m hm => ⟨rfl, _, rfl, ?_⟩) ev_int)))
  have dvd : ∀ l : Nat, l < 6 → (1 + (l : Int)).natAbs ∣ 60 := by decide
  refine we_addL ev_int (we_takeI (m := 6) c_l_take 0 0 fun l hl => ⟨_, rfl, _, _, rfl, ?_, ?_, _, rfl, ret _ _ ⟨fr_dvd (by omega) (dvd l hl), (fr_sz (k := 3) ?_ ?_ ?_).n⟩⟩)
  · exact (show Bt 42 _ from bt_of (by omega) (by omega)).mono (by decide)
  · exact (show Bt 42 _ from bt_of (by omega) (by omega)).mono (by decide)
  · exact bt_of (by omega) (by omega)
  · exact bt_of (by omega) (by omega)
  · omega


/-! _law_plus -/
abbrev s_l_plus : Stmt := top 50
abbrev n_l_plus : Nm := { N := ["_law_a", "_law_b"], V := [0, 1], as := [0, 1], GN := ["_law_frac"], k := 1, oi := [], lc := [0, 1], sc := none }
theorem sc_l_plus : FnScope n_l_plus.N ["_law_a", "_law_b"] (defScope s_l_plus) := ⟨rfl, rfl, rfl, by decide +kernel, rfl, by decide +kernel, by decide +kernel⟩
theorem sb_l_plus : ScOk (defScope s_l_plus) n_l_plus := scOk_of (by decide +kernel)
abbrev S_l_plus : Sg := ST_2 (· + ·)
theorem bd_l_plus {X : Cx} {c : Cc} (c_l_frac : CalF X n_l_plus.k "_law_frac" S_l_frac) : ∀ ps Post, S_l_plus ps Post → WB X n_l_plus c (entry n_l_plus.N ps) (defBody s_l_plus) (fnD n_l_plus.oi Post) := by
  rintro ps Post ⟨a, b, j, k, rfl, ha, hb, hjk, post⟩
  show WB X n_l_plus c [.w (qD a), .w (qD b)] _ _
  have m1 : ∀ {u v : Int}, Bt (8 * j) u → Bt (8 * k) v → CMulW u v := fun h h' => h.cm h' (by omega)
  have m2 : ∀ {u v : Int}, Bt (8 * k) u → Bt (8 * j) v → CMulW u v := fun h h' => h.cm h' (by omega)
  have i0 : ∀ q : Rat, (qD q).at 0 = some (.int q.num) := fun _ => rfl
  have i1 : ∀ q : Rat, (qD q).at 1 = some (.int (q.den : Int)) := fun _ => rfl
  refine wb_one (ws_ret (we_of (ev_call2 c_l_frac 0 (ek_d (ev_add (ev_mul (ev_ix (ek_s 0) ev_int (i0 a)) (ev_ix (ek_s 1) ev_int (i1 b)) (m1 ha.n (hb.d.mono (by omega)))) (ev_mul (ev_ix (ek_s 1) ev_int (i0 b)) (ev_ix (ek_s 0) ev_int (i1 a)) (m2 hb.n (ha.d.mono (by omega)))))) (ek_d (ev_mul (ev_ix (ek_s 0) ev_int (i1 a)) (ev_ix (ek_s 1) ev_int (i1 b)) (m1 (ha.d.mono (by omega)) (hb.d.mono (by omega))))) fun Q q => ⟨_, _, rfl, ?_, ?_, ?_⟩) ⟨_, [], rfl, rfl, post⟩))
  · exact (((ha.n.mul hb.d).mono (show 8 * j + k ≤ 8 * (j + k) by omega)).add ((hb.n.mul ha.d).mono (by omega))).mono (by omega)
  · exact (ha.d.mul hb.d).mono (by omega)
  · rw [fr_add]; exact q


/-! _law_spare -/
abbrev s_l_spare : Stmt := top 56
abbrev n_l_spare : Nm := { N := ["_law_store_here"], V := [0], as := [0], GN := ["_law_take", "_law_frac"], k := 2, oi := [0], lc := [0], sc := none }
theorem sc_l_spare : FnScope n_l_spare.N ["_law_store_here"] (defScope s_l_spare) := ⟨rfl, rfl, rfl, by decide +kernel, rfl, by decide +kernel, by decide +kernel⟩
theorem sb_l_spare : ScOk (defScope s_l_spare) n_l_spare := scOk_of (by decide +kernel)
abbrev S_l_spare : Sg := ST_draw PSpare
theorem bd_l_spare {X : Cx} {c : Cc} (c_l_take : CalF X n_l_spare.k "_law_take" S_l_take) (c_l_frac : CalF X n_l_spare.k "_law_frac" S_l_frac) : ∀ ps Post, S_l_spare ps Post → WB X n_l_spare c (entry n_l_spare.N ps) (defBody s_l_spare) (fnD n_l_spare.oi Post) := by
  rintro ps Post ⟨rfl, post⟩
  show WB X n_l_spare c [.own .sto] _ _
  have ret : ∀ (q : Rat), PSpare q → ∃ r' os, (Res.d (qD q)).le r' ∧ Backs [.own .sto] [0] os ∧ Post r' os := fun q hq => ⟨_, _, rfl, ⟨.sto, .sto, [], rfl, rfl, .inl rfl, rfl⟩, post q hq⟩
  refine wb_cut (fun Γ => Γ = [.own .sto]) (ws_if (wt_cmp dop_eqI (nomark _) (wk_e (we_takeI (m := 4) c_l_take 0 0 fun j hj => wk_e (we_of ev_int ⟨_, _, rfl, rfl, _, _, rfl, rfl, trivial, _, rfl, fun h => wb_one (ws_ret (we_of (ev_q ev_int ev_int) (ret _ ⟨⟨by decide +kernel, (fr_sz (k := 3) (bt_of (by decide) (by decide)) (bt_of (by decide) (by decide)) (by decide)).n⟩, fr_ge0 (by decide) (by decide)⟩))), fun h => wb_nil rfl⟩))))) ?_
  rintro Γ rfl
  have dvd : ∀ l : Nat, l < 6 → (1 + (l : Int)).natAbs ∣ 60 := by decide
  refine wb_one (ws_ret (we_call2 c_l_frac 1 (we_takeI (m := 25) c_l_take 0 0 fun m hm => ?_)))
  refine we_addL ev_int (we_takeI (m := 6) c_l_take 0 0 fun l hl => ⟨_, rfl, _, _, rfl, ?_, ?_, _, rfl, ret _ ⟨⟨fr_dvd (by omega) (dvd l hl), (fr_sz (k := 3) ?_ ?_ ?_).n⟩, fr_ge0 (by omega) (by omega)⟩⟩)
  · exact (show Bt 42 _ from bt_of (by omega) (by omega)).mono (by decide)
  · exact (show Bt 42 _ from bt_of (by omega) (by omega)).mono (by decide)
  · exact bt_of (by omega) (by omega)
  · exact bt_of (by omega) (by omega)
  · omega


/-! _law_above -/
abbrev s_l_above : Stmt := top 57
abbrev n_l_above : Nm := { N := ["_law_store_here"], V := [0], as := [0], GN := ["_law_take", "_law_frac"], k := 2, oi := [0], lc := [0], sc := none }
theorem sc_l_above : FnScope n_l_above.N ["_law_store_here"] (defScope s_l_above) := ⟨rfl, rfl, rfl, by decide +kernel, rfl, by decide +kernel, by decide +kernel⟩
theorem sb_l_above : ScOk (defScope s_l_above) n_l_above := scOk_of (by decide +kernel)
abbrev S_l_above : Sg := ST_draw PStep
theorem bd_l_above {X : Cx} {c : Cc} (c_l_take : CalF X n_l_above.k "_law_take" S_l_take) (c_l_frac : CalF X n_l_above.k "_law_frac" S_l_frac) : ∀ ps Post, S_l_above ps Post → WB X n_l_above c (entry n_l_above.N ps) (defBody s_l_above) (fnD n_l_above.oi Post) := by
  rintro ps Post ⟨rfl, post⟩
  show WB X n_l_above c [.own .sto] _ _
  have ret : ∀ (q : Rat), Sd 60 24 q → 0 < q → ∃ r' os, (Res.d (qD q)).le r' ∧ Backs [.own .sto] [0] os ∧ Post r' os := fun q hq h0 => ⟨_, _, rfl, ⟨.sto, .sto, [], rfl, rfl, .inl rfl, rfl⟩, post q ⟨hq, h0⟩⟩
  refine wb_cut (fun Γ => Γ = [.own .sto]) (ws_if (wt_cmp dop_eqI (nomark _) (wk_e (we_takeI c_l_take 0 0 fun k hk => wk_e (we_of ev_int ⟨_, _, rfl, rfl, _, _, rfl, rfl, trivial, _, rfl, fun h => wb_one (ws_ret (we_of (ev_q ev_int ev_int) (ret _ ⟨fr_dvd (by decide) (by decide), (fr_sz (k := 3) (bt_of (by decide) (by decide)) (bt_of (by decide) (by decide)) (by decide)).n⟩ (fr_gt0 (by decide) (by decide))))), fun h => wb_nil rfl⟩))))) ?_
  rintro Γ rfl
  refine wb_one (ws_ret (we_call2 c_l_frac 1 (we_addL ev_int (we_takeI (m := 24) c_l_take 0 0 fun m hm => ⟨_, rfl, ?_⟩))))
  have dvd : ∀ l : Nat, l < 6 → (1 + (l : Int)).natAbs ∣ 60 := by decide
  refine we_addL ev_int (we_takeI (m := 6) c_l_take 0 0 fun l hl => ⟨_, rfl, _, _, rfl, ?_, ?_, _, rfl, ret _ ⟨fr_dvd (by omega) (dvd l hl), (fr_sz (k := 3) ?_ ?_ ?_).n⟩ (fr_gt0 ?_ ?_)⟩)
  · exact (show Bt 42 _ from bt_of (by omega) (by omega)).mono (by decide)
  · exact (show Bt 42 _ from bt_of (by omega) (by omega)).mono (by decide)
  · exact bt_of (by omega) (by omega)
  · exact bt_of (by omega) (by omega)
  · omega
  · omega
  · omega


/-! _law_over_step -/
abbrev s_l_over_step : Stmt := top 60
abbrev n_l_over_step : Nm := { N := ["_law_store_here"], V := [0], as := [0], GN := ["_law_pick", "_law_above"], k := 3, oi := [0], lc := [0], sc := none }
theorem sc_l_over_step : FnScope n_l_over_step.N ["_law_store_here"] (defScope s_l_over_step) := ⟨rfl, rfl, rfl, by decide +kernel, rfl, by decide +kernel, by decide +kernel⟩
theorem sb_l_over_step : ScOk (defScope s_l_over_step) n_l_over_step := scOk_of (by decide +kernel)
abbrev S_l_over_step : Sg := ST_ovstep
theorem bd_l_over_step {X : Cx} {c : Cc} (c_l_pick : CalF X n_l_over_step.k "_law_pick" S_l_pick) (c_l_above : CalF X n_l_over_step.k "_law_above" S_l_above) : ∀ ps Post, S_l_over_step ps Post → WB X n_l_over_step c (entry n_l_over_step.N ps) (defBody s_l_over_step) (fnD n_l_over_step.oi Post) := by
  rintro ps Post ⟨rfl, post⟩
  show WB X n_l_over_step c [.own .sto] _ _
  have ret : ∀ o : Option Rat, OverP o → ∃ r' os, (Res.d (oD o)).le r' ∧ Backs [.own .sto] [0] os ∧ Post r' os := fun o ho => ⟨_, _, rfl, ⟨.sto, .sto, [], rfl, rfl, .inl rfl, rfl⟩, post o ho⟩
  refine wb_one (ws_ret (we_pick c_l_pick 0 0 (we_frz (wo_lst (wa_cons (wk_ek (ek_d ev_non) (wa_cons (wk_ek (ek_d ev_non) (wa_cons (wk_ek (ek_d (ev_q ev_int ev_int)) (wa_cons (wk_e (we_draw c_l_above 1 0 fun a ha => wa_nil ⟨_, rfl, Nat.le_of_ble_eq_true rfl, _, rfl, rfl, _, rfl, by simp, by simp, fun y hy => ?_⟩)))))))))))))
  simp only [List.mem_cons, List.not_mem_nil, or_false] at hy
  rcases hy with rfl | rfl | rfl | rfl
  · exact ret none overP_none
  · exact ret none overP_none
  · exact ret (some (fr 0 1)) overP_zero
  · exact ret (some a) (overP_step ha)


/-! _law_begin -/
abbrev s_l_begin : Stmt := top 61
abbrev n_l_begin : Nm := { N := ["_law_store_here", "_law_pair", "_law_first"], V := [0, 1, 2], as := [0, 1, 2], GN := ["_law_slews", "_law_pick", "_law_part", "_law_plus", "_law_spare", "_law_over_step"], k := 4, oi := [0], lc := [0, 1, 2], sc := none }
theorem sc_l_begin : FnScope n_l_begin.N ["_law_store_here"] (defScope s_l_begin) := ⟨rfl, rfl, rfl, by decide +kernel, rfl, by decide +kernel, by decide +kernel⟩
theorem sb_l_begin : ScOk (defScope s_l_begin) n_l_begin := scOk_of (by decide +kernel)
abbrev S_l_begin : Sg := ST_lbegin
theorem bd_l_begin {X : Cx} {c : Cc} (c_l_slews : CalF X n_l_begin.k "_law_slews" S_l_slews) (c_l_pick : CalF X n_l_begin.k "_law_pick" S_l_pick) (c_l_part : CalF X n_l_begin.k "_law_part" S_l_part) (c_l_plus : CalF X n_l_begin.k "_law_plus" S_l_plus) (c_l_spare : CalF X n_l_begin.k "_law_spare" S_l_spare) (c_l_over_step : CalF X n_l_begin.k "_law_over_step" S_l_over_step) : ∀ ps Post, S_l_begin ps Post → WB X n_l_begin c (entry n_l_begin.N ps) (defBody s_l_begin) (fnD n_l_begin.oi Post) := by
  rintro ps Post ⟨rfl, post⟩
  show WB X n_l_begin c [.own .sto, .no, .no] _ _
  have bk : ∀ {r : SL}, Backs (.own .sto :: r) [0] [.sto] := fun {r} => ⟨.sto, .sto, [], rfl, rfl, .inl rfl, rfl⟩
  refine wb_cut (fun Γ => ∃ s d : Rat, Γ = [.own .sto, .d (.tup [qD s, qD d]), .no] ∧ SlewP s d) (ws_set 1 (we_st0 c_l_slews 0 0 fun Q q => ⟨rfl, fun s d hp => q _ ⟨_, rfl, s, d, rfl, hp⟩⟩)) ?_
  rintro Γ ⟨s, d, rfl, sp⟩
  have is : (DL.D.tup [qD s, qD d]).at 0 = some (qD s) := rfl
  have id' : (DL.D.tup [qD s, qD d]).at 1 = some (qD d) := rfl
  refine wb_cut (fun Γ => ∃ f : Rat, Γ = [.own .sto, .d (.tup [qD s, qD d]), .d (qD f)] ∧ Sd 120 24 f) (ws_set 2 (we_pick c_l_pick 1 0 (we_frz (wo_lst (wa_cons (wk_e (we_draw c_l_part 2 0 fun a ha => wa_cons (wk_e (we_draw c_l_part 2 0 fun b hb => wa_cons (wk_ek (ek_d (ev_q ev_int ev_int)) (wa_cons (wk_ek (ek_d (ev_q (ev_sub (ev_pow ev_int ev_int ⟨by decide, by decide, by decide⟩) ev_int) ev_int)) (wa_cons (wk_ek (ek_d (ev_q (ev_sub ev_int (ev_pow ev_int ev_int ⟨by decide, by decide, by decide⟩)) ev_int)) (wa_nil ⟨_, rfl, Nat.le_of_ble_eq_true rfl, _, rfl, rfl, _, rfl, by simp, by simp, fun y hy => ?_⟩))))))))))))))) ?_
  · simp only [List.mem_cons, List.not_mem_nil, or_false] at hy
    rcases hy with rfl | rfl | rfl | rfl | rfl
    · exact ⟨a, rfl, sd_120 ha⟩
    · exact ⟨b, rfl, sd_120 hb⟩
    · exact ⟨_, rfl, sd_120k⟩
    · exact ⟨_, rfl, sd_120k⟩
    · exact ⟨_, rfl, sd_120k⟩
  rintro Γ ⟨f, rfl, hf⟩
  have zf : Sz 24 f := Sd.sz hf (by decide) (show 120 < 2 ^ 24 by decide) (by decide)
  exact wb_one (ws_retO (wo_lst (wa_cons (wk_ek (ek_d (ev_var 2)) (wa_cons (wk_e (we_call2v c_l_plus 3 (we_of (ev_var 2) (we_draw c_l_part 2 0 fun p hp => ⟨_, _, 24, 6, rfl, zf, szPart hp, by decide, _, rfl, wa_cons (wk_e (we_draw c_l_spare 4 0 fun e he => wa_cons (wk_ek (ek_d (ev_ixt (ev_var 1) ev_int is)) (wa_cons (wk_ek (ek_d (ev_ixt (ev_var 1) ev_int id')) (wa_cons (wk_e (we_st0 c_l_over_step 5 0 fun Q q => ⟨rfl, fun o ho => q _ ⟨_, rfl, wa_nil ⟨_, rfl, Nat.le_of_ble_eq_true rfl, .own _, [.sto], .inl rfl, bk, post ⟨f, f + p, e, s, d, o⟩ ⟨hf, ⟨p, hp, rfl⟩, he, sp, ho⟩⟩⟩⟩))))))))⟩)))))))))


/-! _law_minus -/
abbrev s_l_minus : Stmt := top 51
abbrev n_l_minus : Nm := { N := ["_law_a", "_law_b"], V := [0, 1], as := [0, 1], GN := ["_law_frac"], k := 1, oi := [], lc := [0, 1], sc := none }
theorem sc_l_minus : FnScope n_l_minus.N ["_law_a", "_law_b"] (defScope s_l_minus) := ⟨rfl, rfl, rfl, by decide +kernel, rfl, by decide +kernel, by decide +kernel⟩
theorem sb_l_minus : ScOk (defScope s_l_minus) n_l_minus := scOk_of (by decide +kernel)
abbrev S_l_minus : Sg := ST_2 (· - ·)
theorem bd_l_minus {X : Cx} {c : Cc} (c_l_frac : CalF X n_l_minus.k "_law_frac" S_l_frac) : ∀ ps Post, S_l_minus ps Post → WB X n_l_minus c (entry n_l_minus.N ps) (defBody s_l_minus) (fnD n_l_minus.oi Post) := by
  rintro ps Post ⟨a, b, j, k, rfl, ha, hb, hjk, post⟩
  show WB X n_l_minus c [.w (qD a), .w (qD b)] _ _
  have m1 : ∀ {u v : Int}, Bt (8 * j) u → Bt (8 * k) v → CMulW u v := fun h h' => h.cm h' (by omega)
  have m2 : ∀ {u v : Int}, Bt (8 * k) u → Bt (8 * j) v → CMulW u v := fun h h' => h.cm h' (by omega)
  have i0 : ∀ q : Rat, (qD q).at 0 = some (.int q.num) := fun _ => rfl
  have i1 : ∀ q : Rat, (qD q).at 1 = some (.int (q.den : Int)) := fun _ => rfl
  refine wb_one (ws_ret (we_of (ev_call2 c_l_frac 0 (ek_d (ev_sub (ev_mul (ev_ix (ek_s 0) ev_int (i0 a)) (ev_ix (ek_s 1) ev_int (i1 b)) (m1 ha.n (hb.d.mono (by omega)))) (ev_mul (ev_ix (ek_s 1) ev_int (i0 b)) (ev_ix (ek_s 0) ev_int (i1 a)) (m2 hb.n (ha.d.mono (by omega)))))) (ek_d (ev_mul (ev_ix (ek_s 0) ev_int (i1 a)) (ev_ix (ek_s 1) ev_int (i1 b)) (m1 (ha.d.mono (by omega)) (hb.d.mono (by omega))))) fun Q q => ⟨_, _, rfl, ?_, ?_, ?_⟩) ⟨_, [], rfl, rfl, post⟩))
  · exact (((ha.n.mul hb.d).mono (show 8 * j + k ≤ 8 * (j + k) by omega)).sub ((hb.n.mul ha.d).mono (by omega))).mono (by omega)
  · exact (ha.d.mul hb.d).mono (by omega)
  · rw [fr_sub]; exact q


/-! _law_span_near -/
abbrev s_l_span_near : Stmt := top 67
abbrev n_l_span_near : Nm := { N := ["_law_store_here", "_law_now_here", "_law_bound_here", "_law_wide", "_law_middle", "_law_top", "_law_down", "_law_spans", "_law_span"], V := [0, 1, 2, 3, 4, 5, 6, 7, 8], as := [0, 1, 2, 3, 4, 5, 6, 7, 8], GN := ["_law_spare", "_law_plus", "_law_part", "_law_minus", "_law_pick"], k := 4, oi := [0], lc := [0, 1, 2, 3, 4, 5, 6, 7, 8], sc := none }
theorem sc_l_span_near : FnScope n_l_span_near.N ["_law_store_here", "_law_now_here", "_law_bound_here"] (defScope s_l_span_near) := ⟨rfl, rfl, rfl, by decide +kernel, rfl, by decide +kernel, by decide +kernel⟩
theorem sb_l_span_near : ScOk (defScope s_l_span_near) n_l_span_near := scOk_of (by decide +kernel)
abbrev S_l_span_near : Sg := ST_snear
theorem bd_l_span_near {X : Cx} {c : Cc} (c_l_spare : CalF X n_l_span_near.k "_law_spare" S_l_spare) (c_l_plus : CalF X n_l_span_near.k "_law_plus" S_l_plus) (c_l_part : CalF X n_l_span_near.k "_law_part" S_l_part) (c_l_minus : CalF X n_l_span_near.k "_law_minus" S_l_minus) (c_l_pick : CalF X n_l_span_near.k "_law_pick" S_l_pick) : ∀ ps Post, S_l_span_near ps Post → WB X n_l_span_near c (entry n_l_span_near.N ps) (defBody s_l_span_near) (fnD n_l_span_near.oi Post) := by
  rintro ps Post ⟨w, b, rfl, zw, zb, b0, post⟩
  have bk : ∀ {r : SL}, Backs (.own .sto :: r) [0] [.sto] := fun {r} => ⟨.sto, .sto, [], rfl, rfl, .inl rfl, rfl⟩
  show WB X n_l_span_near c [.own .sto, .d (qD w), .d (qD b), .no, .no, .no, .no, .no, .no] _ _
  refine wb_cut (fun Γ => ∃ wd : Rat, Γ = [.own .sto, .d (qD w), .d (qD b), .d (qD wd), .no, .no, .no, .no, .no] ∧ PSpare wd) (ws_set 3 (we_draw c_l_spare 0 0 fun p hp => ⟨p, rfl, hp⟩)) ?_
  rintro Γ ⟨wd, rfl, hwd⟩
  have zwd : Sz 6 wd := szSpare hwd
  refine wb_cut (fun Γ => ∃ m : Rat, Γ = [.own .sto, .d (qD w), .d (qD b), .d (qD wd), .d (qD m), .no, .no, .no, .no] ∧ Sz 32 m) (ws_set 4 (we_call2v c_l_plus 1 (we_of (ev_var 1) (we_draw c_l_part 2 0 fun p hp => ⟨w, p, 25, 6, rfl, zw, szPart hp, by decide, _, rfl, w + p, rfl, (zw.add (szPart hp)).mono (by decide)⟩)))) ?_
  rintro Γ ⟨m, rfl, zm⟩
  have zt : Sz 51 (w + b) := (zw.add zb).mono (by decide)
  have zd : Sz 51 (w - b) := (zw.sub zb).mono (by decide)
  refine wb_cut (fun Γ => Γ = [.own .sto, .d (qD w), .d (qD b), .d (qD wd), .d (qD m), .d (qD (w + b)), .no, .no, .no]) (ws_set 5 (we_of (ev_call2 c_l_plus 1 (ek_v (ev_var 1)) (ek_v (ev_var 2)) fun _ z => ⟨w, b, 25, 25, rfl, zw, zb, by decide, z⟩) rfl)) ?_
  rintro Γ rfl
  refine wb_cut (fun Γ => Γ = [.own .sto, .d (qD w), .d (qD b), .d (qD wd), .d (qD m), .d (qD (w + b)), .d (qD (w - b)), .no, .no]) (ws_set 6 (we_of (ev_call2 c_l_minus 3 (ek_v (ev_var 1)) (ek_v (ev_var 2)) fun _ z => ⟨w, b, 25, 25, rfl, zw, zb, by decide, z⟩) rfl)) ?_
  rintro Γ rfl
  have wd0 : 0 ≤ wd := by have := hwd.2; grind
  have hdt : w - b ≤ w + b := by grind
  generalize w + b = top at *
  generalize w - b = dn at *
  refine wb_cut (fun Γ => Γ = [.own .sto, .d (qD w), .d (qD b), .d (qD wd), .d (qD m), .d (qD top), .d (qD dn), .own (.lst [oS none, oS (some (none, some m)), oS (some (some m, none)), oS (some (none, none)), oS (some (some top, some (top + wd)))]), .no]) (ws_setO 7 (wo_of (eo_lst (ea_cons (ek_d ev_non) (ea_cons (ek_d (ev_tup (ea_cons (ek_d ev_non) (ea_cons (ek_d (ev_var 4)) ea_nil)))) (ea_cons (ek_d (ev_tup (ea_cons (ek_d (ev_var 4)) (ea_cons (ek_d ev_non) ea_nil)))) (ea_cons (ek_d (ev_tup (ea_cons (ek_d ev_non) (ea_cons (ek_d ev_non) ea_nil)))) (ea_cons (ek_d (ev_tup (ea_cons (ek_d (ev_var 5)) (ea_cons (ek_d (ev_call2 c_l_plus 1 (ek_v (ev_var 5)) (ek_v (ev_var 3)) fun _ z => ⟨top, wd, 51, 6, rfl, zt, zwd, by decide, z⟩)) ea_nil)))) ea_nil)))))) rfl)) ?_
  rintro Γ rfl
  refine wb_cut (fun Γ => Γ = [.own .sto, .d (qD w), .d (qD b), .d (qD wd), .d (qD m), .d (qD top), .d (qD dn), .own (.lst [oS none, oS (some (none, some m)), oS (some (some m, none)), oS (some (none, none)), oS (some (some top, some (top + wd))), oS (some (some (dn - wd), some dn)), oS (some (some (w - wd), some (w + wd))), oS (some (some top, some top))]), .no]) (ws_setO 7 (wo_of (eo_cat (xs := [oS none, oS (some (none, some m)), oS (some (some m, none)), oS (some (none, none)), oS (some (some top, some (top + wd)))]) (ys := [oS (some (some (dn - wd), some dn)), oS (some (some (w - wd), some (w + wd))), oS (some (some top, some top))]) (ek_s 7) (ek_d (ev_frz (eo_lst (ea_cons (ek_d (ev_tup (ea_cons (ek_d (ev_call2 c_l_minus 3 (ek_v (ev_var 6)) (ek_v (ev_var 3)) fun _ z => ⟨dn, wd, 51, 6, rfl, zd, zwd, by decide, z⟩)) (ea_cons (ek_d (ev_var 6)) ea_nil)))) (ea_cons (ek_d (ev_tup (ea_cons (ek_d (ev_call2 c_l_minus 3 (ek_v (ev_var 1)) (ek_v (ev_var 3)) fun _ z => ⟨w, wd, 25, 6, rfl, zw, zwd, by decide, z⟩)) (ea_cons (ek_d (ev_call2 c_l_plus 1 (ek_v (ev_var 1)) (ek_v (ev_var 3)) fun _ z => ⟨w, wd, 25, 6, rfl, zw, zwd, by decide, z⟩)) ea_nil)))) (ea_cons (ek_d (ev_tup (ea_cons (ek_d (ev_var 5)) (ea_cons (ek_d (ev_var 5)) ea_nil)))) ea_nil)))))) (Nat.le_of_ble_eq_true rfl)) rfl)) ?_
  rintro Γ rfl
  refine wb_cut (fun Γ => Γ = [.own .sto, .d (qD w), .d (qD b), .d (qD wd), .d (qD m), .d (qD top), .d (qD dn), .own (.lst [oS none, oS (some (none, some m)), oS (some (some m, none)), oS (some (none, none)), oS (some (some top, some (top + wd))), oS (some (some (dn - wd), some dn)), oS (some (some (w - wd), some (w + wd))), oS (some (some top, some top)), oS (some (some (top + fr 1 3), some (top + fr 7 3)))]), .no]) (ws_setO 7 (wo_of (eo_cat (xs := [oS none, oS (some (none, some m)), oS (some (some m, none)), oS (some (none, none)), oS (some (some top, some (top + wd))), oS (some (some (dn - wd), some dn)), oS (some (some (w - wd), some (w + wd))), oS (some (some top, some top))]) (ys := [oS (some (some (top + fr 1 3), some (top + fr 7 3)))]) (ek_s 7) (ek_d (ev_frz (eo_lst (ea_cons (ek_d (ev_tup (ea_cons (ek_d (ev_call2 c_l_plus 1 (ek_v (ev_var 5)) (ek_v (ev_q ev_int ev_int)) fun _ z => ⟨top, fr 1 3, 51, 3, rfl, zt, (fr_sz (k := 3) (bt_of (by decide) (by decide)) (bt_of (by decide) (by decide)) (by decide)), by decide, z⟩)) (ea_cons (ek_d (ev_call2 c_l_plus 1 (ek_v (ev_var 5)) (ek_v (ev_q ev_int ev_int)) fun _ z => ⟨top, fr 7 3, 51, 3, rfl, zt, (fr_sz (k := 3) (bt_of (by decide) (by decide)) (bt_of (by decide) (by decide)) (by decide)), by decide, z⟩)) ea_nil)))) ea_nil)))) (Nat.le_of_ble_eq_true rfl)) rfl)) ?_
  rintro Γ rfl
  refine wb_cut (fun Γ => Γ = [.own .sto, .d (qD w), .d (qD b), .d (qD wd), .d (qD m), .d (qD top), .d (qD dn), .own (.lst [oS none, oS (some (none, some m)), oS (some (some m, none)), oS (some (none, none)), oS (some (some top, some (top + wd))), oS (some (some (dn - wd), some dn)), oS (some (some (w - wd), some (w + wd))), oS (some (some top, some top)), oS (some (some (top + fr 1 3), some (top + fr 7 3))), oS (some (some (dn - fr 2 1), some (dn - fr 1 5)))]), .no]) (ws_setO 7 (wo_of (eo_cat (xs := [oS none, oS (some (none, some m)), oS (some (some m, none)), oS (some (none, none)), oS (some (some top, some (top + wd))), oS (some (some (dn - wd), some dn)), oS (some (some (w - wd), some (w + wd))), oS (some (some top, some top)), oS (some (some (top + fr 1 3), some (top + fr 7 3)))]) (ys := [oS (some (some (dn - fr 2 1), some (dn - fr 1 5)))]) (ek_s 7) (ek_d (ev_frz (eo_lst (ea_cons (ek_d (ev_tup (ea_cons (ek_d (ev_call2 c_l_minus 3 (ek_v (ev_var 6)) (ek_v (ev_q ev_int ev_int)) fun _ z => ⟨dn, fr 2 1, 51, 3, rfl, zd, (fr_sz (k := 3) (bt_of (by decide) (by decide)) (bt_of (by decide) (by decide)) (by decide)), by decide, z⟩)) (ea_cons (ek_d (ev_call2 c_l_minus 3 (ek_v (ev_var 6)) (ek_v (ev_q ev_int ev_int)) fun _ z => ⟨dn, fr 1 5, 51, 3, rfl, zd, (fr_sz (k := 3) (bt_of (by decide) (by decide)) (bt_of (by decide) (by decide)) (by decide)), by decide, z⟩)) ea_nil)))) ea_nil)))) (Nat.le_of_ble_eq_true rfl)) rfl)) ?_
  rintro Γ rfl
  refine wb_cut (fun Γ => Γ = [.own .sto, .d (qD w), .d (qD b), .d (qD wd), .d (qD m), .d (qD top), .d (qD dn), .own (.lst [oS none, oS (some (none, some m)), oS (some (some m, none)), oS (some (none, none)), oS (some (some top, some (top + wd))), oS (some (some (dn - wd), some dn)), oS (some (some (w - wd), some (w + wd))), oS (some (some top, some top)), oS (some (some (top + fr 1 3), some (top + fr 7 3))), oS (some (some (dn - fr 2 1), some (dn - fr 1 5)))]), .d (oS (some (some (m - wd), some (m + wd))))]) (ws_set 8 (we_of (ev_tup (ea_cons (ek_d (ev_call2 c_l_minus 3 (ek_v (ev_var 4)) (ek_v (ev_var 3)) fun _ z => ⟨m, wd, 32, 6, rfl, zm, zwd, by decide, z⟩)) (ea_cons (ek_d (ev_call2 c_l_plus 1 (ek_v (ev_var 4)) (ek_v (ev_var 3)) fun _ z => ⟨m, wd, 32, 6, rfl, zm, zwd, by decide, z⟩)) ea_nil))) rfl)) ?_
  rintro Γ rfl
  refine wb_one (ws_ret (we_pick c_l_pick 4 0 (we_frz (wo_of (eo_cat (xs := [oS none, oS (some (none, some m)), oS (some (some m, none)), oS (some (none, none)), oS (some (some top, some (top + wd))), oS (some (some (dn - wd), some dn)), oS (some (some (w - wd), some (w + wd))), oS (some (some top, some top)), oS (some (some (top + fr 1 3), some (top + fr 7 3))), oS (some (some (dn - fr 2 1), some (dn - fr 1 5)))]) (ys := [oS (some (some (m - wd), some (m + wd))), oS (some (some (m - wd), some (m + wd))), oS (some (some (m - wd), some (m + wd))), oS (some (some (m - wd), some (m + wd))), oS (some (some (m - wd), some (m + wd))), oS (some (some (m - wd), some (m + wd))), oS (some (some (m - wd), some (m + wd)))]) (ek_s 7) (ek_d (ev_frz (eo_lst (ea_cons (ek_d (ev_var 8)) (ea_cons (ek_d (ev_var 8)) (ea_cons (ek_d (ev_var 8)) (ea_cons (ek_d (ev_var 8)) (ea_cons (ek_d (ev_var 8)) (ea_cons (ek_d (ev_var 8)) (ea_cons (ek_d (ev_var 8)) ea_nil)))))))))) (Nat.le_of_ble_eq_true rfl)) ⟨_, rfl, rfl, _, rfl, (by simp), (by simp), fun y hy => ?_⟩))))
  suffices hh : ∃ sp, SpanP sp ∧ y = oS sp by
    obtain ⟨sp, h, e⟩ := hh
    subst e
    exact ⟨_, _, rfl, bk, post sp h⟩
  have fin : ∀ sp, SpanP sp → y = oS sp → ∃ sp, SpanP sp ∧ y = oS sp := fun sp h e => ⟨sp, h, e⟩
  have k2 : ∀ lo hi, lo ≤ hi → Sz 80 lo → Sz 80 hi → SpanP (some (some lo, some hi)) := fun lo hi h z1 z2 s e => by
    cases e
    exact ⟨⟨fun q z => (by cases z; exact z1), fun q z => (by cases z; exact z2)⟩, fun a b e => by cases e; exact h⟩
  have z13 : Sz 3 (fr 1 3) := fr_sz (bt_of (by decide) (by decide)) (bt_of (by decide) (by decide)) (by decide)
  have z73 : Sz 3 (fr 7 3) := fr_sz (bt_of (by decide) (by decide)) (bt_of (by decide) (by decide)) (by decide)
  have z21 : Sz 3 (fr 2 1) := fr_sz (bt_of (by decide) (by decide)) (bt_of (by decide) (by decide)) (by decide)
  have z15 : Sz 3 (fr 1 5) := fr_sz (bt_of (by decide) (by decide)) (bt_of (by decide) (by decide)) (by decide)
  have o1 : fr 1 3 ≤ fr 7 3 := by decide +kernel
  have o2 : fr 1 5 ≤ fr 2 1 := by decide +kernel
  have s5 := k2 (m - wd) (m + wd) (by grind) ((zm.sub zwd).mono (by decide)) ((zm.add zwd).mono (by decide))
  have opn : ∀ s : Spn, SzS 80 s → (∀ lo hi, s ≠ (some lo, some hi)) → SpanP (some s) := fun s h1 h2 s' e => by
    cases e
    exact ⟨h1, fun lo hi e => absurd e (h2 lo hi)⟩
  have zm' : Sz 80 m := zm.mono (by decide)
  simp only [List.mem_append, List.mem_cons, List.not_mem_nil, or_false] at hy
  rcases hy with (rfl | rfl | rfl | rfl | rfl | rfl | rfl | rfl | rfl | rfl) | (rfl | rfl | rfl | rfl | rfl | rfl | rfl)
  · exact fin none span_none rfl
  · exact fin _ (opn (none, some m) ⟨fun q z => (by cases z), fun q z => by cases z; exact zm'⟩ (fun lo hi e => by cases e)) rfl
  · exact fin _ (opn (some m, none) ⟨fun q z => (by cases z; exact zm'), fun q z => by cases z⟩ (fun lo hi e => by cases e)) rfl
  · exact fin _ (opn (none, none) ⟨fun q z => (by cases z), fun q z => by cases z⟩ (fun lo hi e => by cases e)) rfl
  · exact fin _ (k2 top (top + wd) (by grind) (zt.mono (by decide)) ((zt.add zwd).mono (by decide))) rfl
  · exact fin _ (k2 (dn - wd) dn (by grind) ((zd.sub zwd).mono (by decide)) (zd.mono (by decide))) rfl
  · exact fin _ (k2 (w - wd) (w + wd) (by grind) ((zw.sub zwd).mono (by decide)) ((zw.add zwd).mono (by decide))) rfl
  · exact fin _ (k2 top top Rat.le_refl (zt.mono (by decide)) (zt.mono (by decide))) rfl
  · exact fin _ (k2 (top + fr 1 3) (top + fr 7 3) (by grind) ((zt.add z13).mono (by decide)) ((zt.add z73).mono (by decide))) rfl
  · exact fin _ (k2 (dn - fr 2 1) (dn - fr 1 5) (by grind) ((zd.sub z21).mono (by decide)) ((zd.sub z15).mono (by decide))) rfl
  all_goals exact fin _ s5 rfl


/-! _law_below -/
abbrev s_l_below : Stmt := top 54
abbrev n_l_below : Nm := { N := ["_law_a", "_law_b"], V := [0, 1], as := [0, 1], GN := [], k := 0, oi := [], lc := [0, 1], sc := none }
theorem sc_l_below : FnScope n_l_below.N ["_law_a", "_law_b"] (defScope s_l_below) := ⟨rfl, rfl, rfl, by decide +kernel, rfl, by decide +kernel, by decide +kernel⟩
theorem sb_l_below : ScOk (defScope s_l_below) n_l_below := scOk_of (by decide +kernel)
abbrev S_l_below : Sg := ST_below
theorem bd_l_below {X : Cx} {c : Cc}  : ∀ ps Post, S_l_below ps Post → WB X n_l_below c (entry n_l_below.N ps) (defBody s_l_below) (fnD n_l_below.oi Post) := by
  rintro ps Post ⟨a, b, j, k, rfl, ha, hb, hjk, post⟩
  show WB X n_l_below c [.w (qD a), .w (qD b)] _ _
  have i0 : ∀ q : Rat, (qD q).at 0 = some (.int q.num) := fun _ => rfl
  have i1 : ∀ q : Rat, (qD q).at 1 = some (.int (q.den : Int)) := fun _ => rfl
  refine wb_one (ws_ret (we_of (ev_lt (ev_mul (ev_ix (ek_s 0) ev_int (i0 a)) (ev_ix (ek_s 1) ev_int (i1 b)) (ha.n.cm hb.d (by omega))) (ev_mul (ev_ix (ek_s 1) ev_int (i0 b)) (ev_ix (ek_s 0) ev_int (i1 a)) (hb.n.cm ha.d (by omega)))) ⟨_, [], rfl, rfl, ?_⟩))
  have e : decide (a.num * (b.den : Int) < b.num * (a.den : Int)) = decide (a < b) := decide_eq_decide.mpr lt_num.symm
  rw [e]; exact post


/-! _law_now -/
abbrev s_l_now : Stmt := top 63
abbrev n_l_now : Nm := { N := ["_law_state", "_law_raw", "_law_x", "_law_y"], V := [0, 1, 2, 3], as := [0, 1, 2, 3], GN := ["_law_minus", "_law_below", "_law_plus", "_law_times"], k := 2, oi := [], lc := [0, 1, 2, 3], sc := none }
theorem sc_l_now : FnScope n_l_now.N ["_law_state", "_law_raw"] (defScope s_l_now) := ⟨rfl, rfl, rfl, by decide +kernel, rfl, by decide +kernel, by decide +kernel⟩
theorem sb_l_now : ScOk (defScope s_l_now) n_l_now := scOk_of (by decide +kernel)
abbrev S_l_now : Sg := ST_lnow
theorem bd_l_now {X : Cx} {c : Cc} (c_l_minus : CalF X n_l_now.k "_law_minus" S_l_minus) (c_l_below : CalF X n_l_now.k "_law_below" S_l_below) (c_l_plus : CalF X n_l_now.k "_law_plus" S_l_plus) (c_l_times : CalF X n_l_now.k "_law_times" S_l_times) : ∀ ps Post, S_l_now ps Post → WB X n_l_now c (entry n_l_now.N ps) (defBody s_l_now) (fnD n_l_now.oi Post) := by
  rintro ps Post ⟨k, raw, rfl, ⟨za, zy, zr, zl, zb, zh⟩, zw, post⟩
  show WB X n_l_now c [.d k.D, .d (qD raw), .no, .no] _ _
  have zx : Sz 601 (raw - k.at_) := (zw.sub za).mono (by decide)
  refine wb_cons (ws_set 2 (we_of (ev_call2 c_l_minus 0 (ek_v (ev_var 1)) (ek_v (ev_ixt (x := k.D) (ev_var 0) ev_int)) fun _ z => ⟨raw, k.at_, 300, 300, rfl, zw, za, by decide, z⟩) ?_))
  show WB X n_l_now c [.d k.D, .d (qD raw), .d (qD (raw - k.at_)), .no] _ _
  refine wb_cut (fun Γ => Γ = [.d k.D, .d (qD raw), .d (qD (raw - k.at_)), .d (qD (if raw - k.at_ < k.len then raw - k.at_ else k.len))]) (ws_set 3 (we_if (wt_of (et_val (ev_call2 c_l_below 1 (ek_v (ev_var 2)) (ek_v (ev_ixt (x := k.D) (ev_var 0) ev_int)) fun _ z => ⟨raw - k.at_, k.len, 601, 300, rfl, zx, zl, by decide, z⟩)) ⟨fun h => we_of (ev_var 2) ?_, fun h => we_of (ev_ixt (x := k.D) (ev_var 0) ev_int) ?_⟩))) ?_
  · rw [if_pos (of_decide_eq_true h)]; rfl
  · rw [if_neg (of_decide_eq_false h)]; rfl
  rintro Γ rfl
  have zq : Sz 601 (if raw - k.at_ < k.len then raw - k.at_ else k.len) := by split; exact zx; exact zl.mono (by decide)
  unfold KS.now at post
  generalize (if raw - k.at_ < k.len then raw - k.at_ else k.len) = q at *
  exact wb_one (ws_ret (we_of (ev_call2 c_l_plus 2 (ek_v (ev_call2 c_l_plus 2 (ek_v (ev_ixt (x := k.D) (ev_var 0) ev_int)) (ek_v (ev_call2 c_l_times 3 (ek_v (ev_ixt (x := k.D) (ev_var 0) ev_int)) (ek_v (ev_var 3)) fun _ z => ⟨k.r, q, 70, 601, rfl, zr, zq, by decide, z⟩)) fun _ z => ⟨k.y, k.r * q, 300, _, rfl, zy, zr.mul zq, by decide, z⟩)) (ek_v (ev_call2 c_l_minus 0 (ek_v (ev_var 2)) (ek_v (ev_var 3)) fun _ z => ⟨raw - k.at_, q, 601, 601, rfl, zx, zq, by decide, z⟩)) fun _ z => ⟨k.y + k.r * q, raw - k.at_ - q, _, _, rfl, zy.add (zr.mul zq), zx.sub zq, by decide, z⟩) ⟨_, [], rfl, rfl, post⟩))


/-! _law_bound -/
abbrev s_l_bound : Stmt := top 64
abbrev n_l_bound : Nm := { N := ["_law_args", "_law_state", "_law_raw", "_law_x", "_law_loss", "_law_fallen"], V := [0, 1, 2, 3, 4, 5], as := [0, 1, 2, 3, 4, 5], GN := ["_law_minus", "_law_times", "_law_plus", "_law_below"], k := 2, oi := [], lc := [0, 1, 2, 3, 4, 5], sc := none }
theorem sc_l_bound : FnScope n_l_bound.N ["_law_args", "_law_state", "_law_raw"] (defScope s_l_bound) := ⟨rfl, rfl, rfl, by decide +kernel, rfl, by decide +kernel, by decide +kernel⟩
theorem sb_l_bound : ScOk (defScope s_l_bound) n_l_bound := scOk_of (by decide +kernel)
abbrev S_l_bound : Sg := ST_lbound
theorem bd_l_bound {X : Cx} {c : Cc} (c_l_minus : CalF X n_l_bound.k "_law_minus" S_l_minus) (c_l_times : CalF X n_l_bound.k "_law_times" S_l_times) (c_l_plus : CalF X n_l_bound.k "_law_plus" S_l_plus) (c_l_below : CalF X n_l_bound.k "_law_below" S_l_below) : ∀ ps Post, S_l_bound ps Post → WB X n_l_bound c (entry n_l_bound.N ps) (defBody s_l_bound) (fnD n_l_bound.oi Post) := by
  rintro ps Post ⟨a, k, raw, rfl, ha, hk, zw, post⟩
  show WB X n_l_bound c [.w a.D, .d k.D, .d (qD raw), .no, .no, .no] _ _
  have zx : Sz 601 (raw - k.at_) := (zw.sub hk.za).mono (by decide)
  have zq : Sz 700 (a.drift * (raw - k.at_)) := (ha.zd.mul zx).mono (by decide)
  have zf : Sz 1400 (k.b - a.slew * (raw - k.at_)) := (hk.zb.sub (ha.zs.mul zx)).mono (by decide)
  refine wb_cons (ws_set 3 (we_of (ev_call2 c_l_minus 0 (ek_v (ev_var 2)) (ek_v (ev_ixt (x := k.D) (ev_var 1) ev_int)) fun _ z => ⟨raw, k.at_, 300, 300, rfl, zw, hk.za, by decide, z⟩) ?_))
  refine wb_cons (ws_set 4 (we_of (ev_call2 c_l_times 1 (ek_v (ev_ix (x := a.D) (ek_s 0) ev_int rfl)) (ek_v (ev_var 3)) fun _ z => ⟨a.drift, raw - k.at_, 60, 601, rfl, ha.zd, zx, by decide, z⟩) ?_))
  show WB X n_l_bound c [.w a.D, .d k.D, .d (qD raw), .d (qD (raw - k.at_)), .d (qD (a.drift * (raw - k.at_))), .no] _ _
  have zh := hk.zh
  unfold KS.bnd at post
  cases hh : k.h with
  | none =>
    rw [hh] at post
    refine wb_cut (fun Γ => False) (ws_ifE (et_isN (x := .non) (ek_d (ev_is (ev_ixt (x := k.D) (ev_var 1) ev_int) (by rw [hh])))) (fun _ => wb_one (ws_ret (we_of (ev_call2 c_l_plus 2 (ek_v (ev_ixt (x := k.D) (ev_var 1) ev_int)) (ek_v (ev_var 4)) fun _ z => ⟨k.b, a.drift * (raw - k.at_), 700, 700, rfl, hk.zb, zq, by decide, z⟩) ⟨_, [], rfl, rfl, post⟩))) (fun q => by cases q)) (fun Γ h => h.elim)
  | some h =>
    rw [hh] at post
    have zh' : Sz 700 h := zh h hh
    refine wb_cut (fun Γ => Γ = [.w a.D, .d k.D, .d (qD raw), .d (qD (raw - k.at_)), .d (qD (a.drift * (raw - k.at_))), .no]) (ws_ifE (et_isN (x := qD h) (ek_d (ev_is (ev_ixt (x := k.D) (ev_var 1) ev_int) (by rw [hh])))) (fun q => by cases q) (fun _ => wb_nil rfl)) ?_
    rintro Γ rfl
    refine wb_cons (ws_set 5 (we_of (ev_call2 c_l_minus 0 (ek_v (ev_ixt (x := k.D) (ev_var 1) ev_int)) (ek_v (ev_call2 c_l_times 1 (ek_v (ev_ix (x := a.D) (ek_s 0) ev_int rfl)) (ek_v (ev_var 3)) fun _ z => ⟨a.slew, raw - k.at_, 60, 601, rfl, ha.zs, zx, by decide, z⟩)) fun _ z => ⟨k.b, a.slew * (raw - k.at_), 700, _, rfl, hk.zb, ha.zs.mul zx, by decide, z⟩) ?_))
    show WB X n_l_bound c [.w a.D, .d k.D, .d (qD raw), .d (qD (raw - k.at_)), .d (qD (a.drift * (raw - k.at_))), .d (qD (k.b - a.slew * (raw - k.at_)))] _ _
    refine wb_one (ws_ret (we_of (ev_call2 c_l_plus 2 (ek_v (ev_var 4)) (ek_v (x := qD (if k.b - a.slew * (raw - k.at_) < h then h else k.b - a.slew * (raw - k.at_))) ?_) fun _ z => ⟨a.drift * (raw - k.at_), (if k.b - a.slew * (raw - k.at_) < h then h else k.b - a.slew * (raw - k.at_)), 700, 1400, rfl, zq, by split <;> first | exact zh'.mono (by decide) | exact zf, by decide, z⟩) ⟨_, [], rfl, rfl, post⟩))
    refine we_if (wt_of (et_val (ev_call2 c_l_below 3 (ek_v (ev_var 5)) (ek_v (ev_is (y := qD h) (ev_ixt (x := k.D) (ev_var 1) ev_int) (by rw [hh]; rfl))) fun _ z => ⟨k.b - a.slew * (raw - k.at_), h, 1400, 700, rfl, zf, zh', by decide, z⟩)) ⟨fun q => ?_, fun q => ?_⟩)
    · rw [if_pos (of_decide_eq_true q)]; exact ev_is (ev_ixt (x := k.D) (ev_var 1) ev_int) (by rw [hh]; rfl)
    · rw [if_neg (of_decide_eq_false q)]; exact ev_var 5


/-! _law_both -/
abbrev s_l_both : Stmt := top 65
abbrev n_l_both : Nm := { N := ["_law_a", "_law_b"], V := [0, 1], as := [0, 1], GN := ["_law_below"], k := 1, oi := [], lc := [0, 1], sc := none }
theorem sc_l_both : FnScope n_l_both.N ["_law_a", "_law_b"] (defScope s_l_both) := ⟨rfl, rfl, rfl, by decide +kernel, rfl, by decide +kernel, by decide +kernel⟩
theorem sb_l_both : ScOk (defScope s_l_both) n_l_both := scOk_of (by decide +kernel)
abbrev S_l_both : Sg := ST_both
theorem bd_l_both {X : Cx} {c : Cc} (c_l_below : CalF X n_l_both.k "_law_below" S_l_below) : ∀ ps Post, S_l_both ps Post → WB X n_l_both c (entry n_l_both.N ps) (defBody s_l_both) (fnD n_l_both.oi Post) := by
  rintro ps Post ⟨a, b, d, e, rfl, za, zb, zd, ze, h1, h2, post⟩
  show WB X n_l_both c [.d (qP (a, b)), .d (qP (d, e))] _ _
  have key : ∀ (a b d e : Rat), Sz 1100 a → Sz 1100 b → Sz 1100 d → Sz 1100 e → Post (.d (oP (if b < d then none else some (d, if e < b then e else b)))) [] → WB X n_l_both c [.d (qP (a, b)), .d (qP (d, e))] ((defBody s_l_both).drop 1) (fnD n_l_both.oi Post) := by
    intro a b d e za zb zd ze post
    refine wb_cut (fun Γ => Γ = [.d (qP (a, b)), .d (qP (d, e))] ∧ ¬ b < d) (ws_ifE (et_val (ev_call2 c_l_below 0 (ek_v (ev_ixt (ev_var 0) ev_int)) (ek_v (ev_ixt (ev_var 1) ev_int)) fun _ z => ⟨b, d, 1100, 1100, rfl, zb, zd, by decide, z⟩)) (fun q => ?_) (fun q => wb_nil ⟨rfl, of_decide_eq_false q⟩)) ?_
    · rw [if_pos (of_decide_eq_true q)] at post
      exact wb_one (ws_ret (we_of ev_non ⟨_, [], rfl, rfl, post⟩))
    rintro Γ ⟨rfl, n1⟩
    rw [if_neg n1] at post
    refine wb_one (ws_ret (we_of (ev_tup (ea_cons (ek_d (ev_ixt (ev_var 1) ev_int)) (ea_cons (ek_d (x := qD (if e < b then e else b)) ?_) ea_nil))) ⟨_, [], rfl, rfl, post⟩))
    refine we_if (wt_of (et_val (ev_call2 c_l_below 0 (ek_v (ev_ixt (ev_var 1) ev_int)) (ek_v (ev_ixt (ev_var 0) ev_int)) fun _ z => ⟨e, b, 1100, 1100, rfl, ze, zb, by decide, z⟩)) ⟨fun q => ?_, fun q => ?_⟩)
    · rw [if_pos (of_decide_eq_true q)]; exact ev_ixt (ev_var 1) ev_int
    · rw [if_neg (of_decide_eq_false q)]; exact ev_ixt (ev_var 0) ev_int
  refine wb_cut (fun Γ => if d < a then Γ = [.d (qP (d, e)), .d (qP (a, b))] else Γ = [.d (qP (a, b)), .d (qP (d, e))]) (ws_ifE (et_val (ev_call2 c_l_below 0 (ek_v (ev_ixt (ev_var 1) ev_int)) (ek_v (ev_ixt (ev_var 0) ev_int)) fun _ z => ⟨d, a, 1100, 1100, rfl, zd, za, by decide, z⟩)) (fun q => wb_one (ws_par 0 1 (wa_of (ea_cons (ek_d (ev_var 1)) (ea_cons (ek_d (ev_var 0)) ea_nil)) ⟨_, _, rfl, ?_⟩))) (fun q => wb_nil ?_)) ?_
  · dsimp only; rw [if_pos (of_decide_eq_true q)]; rfl
  · dsimp only; rw [if_neg (of_decide_eq_false q)]
  intro Γ hΓ
  by_cases q : d < a
  · rw [if_pos q] at hΓ
    subst hΓ
    rw [both_2 q h1] at post
    exact key d e a b zd ze za zb post
  · rw [if_neg q] at hΓ
    subst hΓ
    rw [both_1 q h2] at post
    exact key a b d e za zb zd ze post


/-! _law_over -/
abbrev s_l_over : Stmt := top 53
abbrev n_l_over : Nm := { N := ["_law_a", "_law_b"], V := [0, 1], as := [0, 1], GN := ["_law_frac"], k := 1, oi := [], lc := [0, 1], sc := none }
theorem sc_l_over : FnScope n_l_over.N ["_law_a", "_law_b"] (defScope s_l_over) := ⟨rfl, rfl, rfl, by decide +kernel, rfl, by decide +kernel, by decide +kernel⟩
theorem sb_l_over : ScOk (defScope s_l_over) n_l_over := scOk_of (by decide +kernel)
abbrev S_l_over : Sg := ST_over
theorem bd_l_over {X : Cx} {c : Cc} (c_l_frac : CalF X n_l_over.k "_law_frac" S_l_frac) : ∀ ps Post, S_l_over ps Post → WB X n_l_over c (entry n_l_over.N ps) (defBody s_l_over) (fnD n_l_over.oi Post) := by
  rintro ps Post ⟨a, b, j, k, rfl, h0, ha, hb, hjk, post⟩
  show WB X n_l_over c [.w (qD a), .w (qD b)] _ _
  have e := fr_over (a := a) h0
  refine wb_one (ws_ret (we_of (ev_call2 c_l_frac 0 (ek_d (ev_mul (ev_ix (z := .int a.num) (ek_s 0) ev_int rfl) (ev_ix (z := .int (b.den : Int)) (ek_s 1) ev_int rfl) (ha.n.cm hb.d (by omega)))) (ek_d (ev_mul (ev_ix (z := .int (a.den : Int)) (ek_s 0) ev_int rfl) (ev_ix (z := .int b.num) (ek_s 1) ev_int rfl) (ha.d.cm hb.n (by omega)))) fun _ z => ⟨_, _, rfl, (ha.n.mul hb.d).mono (by omega), (ha.d.mul hb.n).mono (by omega), z⟩) ⟨_, [], rfl, rfl, ?_⟩))
  rw [e]; exact post


/-! _law_turned -/
abbrev s_l_turned : Stmt := top 66
abbrev n_l_turned : Nm := { N := ["_law_args", "_law_state", "_law_raw", "_law_span", "_law_now_here", "_law_bound_here", "_law_met", "_law_aim", "_law_half", "_law_gap", "_law_size", "_law_pace"], V := [0, 1, 2, 3, 4, 5, 6, 7, 8, 9, 10, 11], as := [0, 1, 2, 3, 4, 5, 6, 7, 8, 9, 10, 11], GN := ["_law_now", "_law_bound", "_law_both", "_law_minus", "_law_plus", "_law_times", "_law_below", "abs", "_law_over"], k := 3, oi := [], lc := [0, 1, 2, 3, 4, 5, 6, 7, 8, 9, 10, 11], sc := none }
theorem sc_l_turned : FnScope n_l_turned.N ["_law_args", "_law_state", "_law_raw", "_law_span"] (defScope s_l_turned) := ⟨rfl, rfl, rfl, by decide +kernel, rfl, by decide +kernel, by decide +kernel⟩
theorem sb_l_turned : ScOk (defScope s_l_turned) n_l_turned := scOk_of (by decide +kernel)
abbrev S_l_turned : Sg := ST_turned
theorem bd_l_turned {X : Cx} {c : Cc} (c_l_now : CalF X n_l_turned.k "_law_now" S_l_now) (c_l_bound : CalF X n_l_turned.k "_law_bound" S_l_bound) (c_l_both : CalF X n_l_turned.k "_law_both" S_l_both) (c_l_minus : CalF X n_l_turned.k "_law_minus" S_l_minus) (c_l_plus : CalF X n_l_turned.k "_law_plus" S_l_plus) (c_l_times : CalF X n_l_turned.k "_law_times" S_l_times) (c_l_below : CalF X n_l_turned.k "_law_below" S_l_below) (b_abs : Blt X "abs" (.builtin "abs")) (c_l_over : CalF X n_l_turned.k "_law_over" S_l_over) : ∀ ps Post, S_l_turned ps Post → WB X n_l_turned c (entry n_l_turned.N ps) (defBody s_l_turned) (fnD n_l_turned.oi Post) := by
  rintro ps Post ⟨a, k, raw, sp, rfl, ⟨za, zk, zr, zn, zb, b0, s0, zc⟩, post⟩
  have zr' : Sz 300 raw := zr.mono (by decide)
  show WB X n_l_turned c [.w a.D, .d k.D, .d (qD raw), .d (oS sp), .no, .no, .no, .no, .no, .no, .no, .no] _ _
  refine wb_cut (fun Γ => Γ = [.w a.D, .d k.D, .d (qD raw), .d (oS sp), .d (qD (k.now raw)), .no, .no, .no, .no, .no, .no, .no]) (ws_set 4 (we_of (ev_call2 c_l_now 0 (ek_d (ev_var 1)) (ek_d (ev_var 2)) fun _ z => ⟨k, raw, rfl, zk, zr', z⟩) rfl)) ?_
  rintro Γ rfl
  refine wb_cut (fun Γ => Γ = [.w a.D, .d k.D, .d (qD raw), .d (oS sp), .d (qD (k.now raw)), .d (qD (k.bnd a.slew a.drift raw)), .no, .no, .no, .no, .no, .no]) (ws_set 5 (we_of (ev_call3 c_l_bound 1 (ek_s 0) (ek_d (ev_var 1)) (ek_d (ev_var 2)) fun _ z => ⟨a, k, raw, rfl, za, zk, zr', z⟩) rfl)) ?_
  rintro Γ rfl
  refine wb_cut (fun Γ => opnB sp = false ∧ Γ = [.w a.D, .d k.D, .d (qD raw), .d (oS sp), .d (qD (k.now raw)), .d (qD (k.bnd a.slew a.drift raw)), .no, .no, .no, .no, .no, .no]) (ws_ifE (q := opnB sp) (EW.t ?_) (fun h => ?_) (fun h => wb_nil ⟨h, rfl⟩)) ?_
  · cases sp with
    | none => exact ew_or (p := true) (q := true) (et_isN (x := .non) (ek_s 3)) (fun q => by cases q)
    | some s => exact ew_or (p := false) (q := opnB (some s)) (et_isN (x := sD s) (ek_s 3)) (fun _ => ew_or1 (et_nonS (s := s) (ek_d ev_non) (ek_s 3)))
  · rw [turn_opn h] at post
    exact wb_one (ws_ret (we_of (ev_tup (ea_cons (ek_d (ev_tup (ea_cons (ek_d (ev_var 2)) (ea_cons (ek_d (ev_var 4)) (ea_cons (ek_d (ev_tup2 ev_int ev_int)) (ea_cons (ek_d (ev_tup2 ev_int ev_int)) (ea_cons (ek_d (ev_var 5)) (ea_cons (ek_d ev_non) ea_nil)))))))) (ea_cons (ek_d ev_non) (ea_cons (ek_d ev_bl) ea_nil)))) ⟨_, [], rfl, rfl, post⟩))
  rintro Γ ⟨ho, rfl⟩
  obtain ⟨lo, hi, rfl⟩ := opn_no ho
  obtain ⟨hle, zlo, zhi⟩ := zc lo hi rfl
  have et : turnQ a k raw (some (some lo, some hi)) = a.go raw (k.now raw) (closeQ lo hi (k.now raw) (k.bnd a.slew a.drift raw)).1 (closeQ lo hi (k.now raw) (k.bnd a.slew a.drift raw)).2 := rfl
  rw [et] at post
  clear et
  generalize k.now raw = w at *
  generalize k.bnd a.slew a.drift raw = b at *
  have zd : Sz 81 (w - b) := (zn.sub zb).mono (by decide)
  have zt : Sz 81 (w + b) := (zn.add zb).mono (by decide)
  have zc1 := close_sz (x := w) (b := b) (zlo.mono (by decide) : Sz 81 lo) (zhi.mono (by decide) : Sz 81 hi) zd zt
  refine wb_cut (fun Γ => Γ = [.w a.D, .d k.D, .d (qD raw), .d (sD (some lo, some hi)), .d (qD w), .d (qD b), .d (oP (bothQ lo hi (w - b) (w + b))), .no, .no, .no, .no, .no]) (ws_set 6 (we_of (ev_call2 c_l_both 2 (ek_d (ev_var 3)) (ek_d (ev_tup (ea_cons (ek_d (ev_call2 c_l_minus 3 (ek_v (ev_var 4)) (ek_v (ev_var 5)) fun _ z => ⟨w, b, 40, 40, rfl, zn, zb, by decide, z⟩)) (ea_cons (ek_d (ev_call2 c_l_plus 4 (ek_v (ev_var 4)) (ek_v (ev_var 5)) fun _ z => ⟨w, b, 40, 40, rfl, zn, zb, by decide, z⟩)) ea_nil)))) fun _ z => ⟨lo, hi, w - b, w + b, rfl, zlo.mono (by decide), zhi.mono (by decide), zd.mono (by decide), zt.mono (by decide), hle, by grind, z⟩) rfl)) ?_
  rintro Γ rfl
  refine wb_cut (fun Γ => Γ = [.w a.D, .d k.D, .d (qD raw), .d (sD (some lo, some hi)), .d (qD w), .d (qD b), .d (qP (closeQ lo hi w b)), .no, .no, .no, .no, .no]) (ws_ifE (et_isN (x := oP (bothQ lo hi (w - b) (w + b))) (ek_s 6)) (fun q => ?_) (fun q => ?_)) ?_
  · have e : closeQ lo hi w b = (lo, hi) := both_no q
    exact wb_one (ws_set 6 (we_of (ev_var 3) (by rw [e]; rfl)))
  · have e : bothQ lo hi (w - b) (w + b) = some (closeQ lo hi w b) := both_yes q
    rw [e]
    exact wb_nil rfl
  rintro Γ rfl
  generalize hf : closeQ lo hi w b = f at *
  obtain ⟨f1, f2⟩ := f
  obtain ⟨zf1, zf2⟩ := zc1
  have zm : Sz 170 ((f1 + f2) * fr 1 2) := ((zf1.add zf2).mul sz_half).mono (by decide)
  refine wb_cut (fun Γ => Γ = [.w a.D, .d k.D, .d (qD raw), .d (sD (some lo, some hi)), .d (qD w), .d (qD b), .d (qP (f1, f2)), .d (qD ((f1 + f2) * fr 1 2)), .no, .no, .no, .no]) (ws_set 7 (we_of (ev_call2 c_l_times 5 (ek_v (ev_call2 c_l_plus 4 (ek_v (ev_ixt (x := qP (f1, f2)) (ev_var 6) ev_int)) (ek_v (ev_ixt (x := qP (f1, f2)) (ev_var 6) ev_int)) fun _ z => ⟨f1, f2, 81, 81, rfl, zf1, zf2, by decide, z⟩)) (ek_v (ev_q ev_int ev_int)) fun _ z => ⟨f1 + f2, fr 1 2, _, 2, rfl, zf1.add zf2, sz_half, by decide, z⟩) rfl)) ?_
  rintro Γ rfl
  have zh : Sz 260 ((f1 + f2) * fr 1 2 - f1) := (zm.sub zf1).mono (by decide)
  have zg : Sz 220 ((f1 + f2) * fr 1 2 - w) := (zm.sub zn).mono (by decide)
  refine wb_cons (ws_set 8 (we_of (ev_call2 c_l_minus 3 (ek_v (ev_var 7)) (ek_v (ev_ixt (x := qP (f1, f2)) (ev_var 6) ev_int)) fun _ z => ⟨(f1 + f2) * fr 1 2, f1, 170, 81, rfl, zm, zf1, by decide, z⟩) ?_))
  refine wb_cons (ws_set 9 (we_of (ev_call2 c_l_minus 3 (ek_v (ev_var 7)) (ek_v (ev_var 4)) fun _ z => ⟨(f1 + f2) * fr 1 2, w, 170, 40, rfl, zm, zn, by decide, z⟩) ?_))
  unfold KA.go at post
  dsimp only at post
  show WB X n_l_turned c [.w a.D, .d k.D, .d (qD raw), .d (sD (some lo, some hi)), .d (qD w), .d (qD b), .d (qP (f1, f2)), .d (qD ((f1 + f2) * fr 1 2)), .d (qD ((f1 + f2) * fr 1 2 - f1)), .d (qD ((f1 + f2) * fr 1 2 - w)), .no, .no] _ _
  generalize (f1 + f2) * fr 1 2 = m at *
  generalize m - f1 = hf1 at *
  generalize m - w = g at *
  refine wb_cut (fun Γ => a.over g = false ∧ Γ = [.w a.D, .d k.D, .d (qD raw), .d (sD (some lo, some hi)), .d (qD w), .d (qD b), .d (qP (f1, f2)), .d (qD m), .d (qD hf1), .d (qD g), .no, .no]) (ws_ifE (q := a.over g) (EW.t ?_) (fun q => ?_) (fun q => wb_nil ⟨q, rfl⟩)) ?_
  · cases hs : a.step with
    | none =>
      have hj : a.over g = false := by unfold KA.over; rw [hs]
      rw [hj]
      exact ew_and (p := false) (q := false) (et_notN (x := .non) (ek_d (ev_is (ev_ix (x := a.D) (z := oD a.step) (ek_s 0) ev_int rfl) (by rw [hs])))) (fun q => by cases q)
    | some d =>
      have hj : a.over g = decide (d < g) := by unfold KA.over; rw [hs]
      rw [hj]
      exact ew_and (p := true) (et_notN (x := qD d) (ek_d (ev_is (ev_ix (x := a.D) (z := oD a.step) (ek_s 0) ev_int rfl) (by rw [hs])))) (fun _ => ew_and1 (et_val (ev_call2 c_l_below 6 (ek_v (ev_is (y := qD d) (ev_ix (x := a.D) (z := oD a.step) (ek_s 0) ev_int rfl) (by rw [hs]; rfl))) (ek_v (ev_var 9)) fun _ z => ⟨d, g, 300, 220, rfl, za.zo d hs, zg, by decide, z⟩)))
  · rw [if_pos q] at post
    exact wb_one (ws_ret (we_of (ev_tup (ea_cons (ek_d (ev_tup (ea_cons (ek_d (ev_var 2)) (ea_cons (ek_d (ev_var 7)) (ea_cons (ek_d (ev_tup2 ev_int ev_int)) (ea_cons (ek_d (ev_tup2 ev_int ev_int)) (ea_cons (ek_d (ev_var 8)) (ea_cons (ek_d (ev_var 8)) ea_nil)))))))) (ea_cons (ek_d (ev_var 7)) (ea_cons (ek_d ev_bl) ea_nil)))) ⟨_, [], rfl, rfl, post⟩))
  rintro Γ ⟨q, rfl⟩
  rw [if_neg (by rw [q]; decide)] at post
  refine wb_cut (fun Γ => Γ = [.w a.D, .d k.D, .d (qD raw), .d (sD (some lo, some hi)), .d (qD w), .d (qD b), .d (qP (f1, f2)), .d (qD m), .d (qD hf1), .d (qD g), .d (qD (absQ g)), .no]) (ws_set 10 (we_of (ev_is (ev_tup2 (ev_abs b_abs 7 (ev_ixt (x := qD g) (z := .int g.num) (ev_var 9) ev_int)) (ev_ixt (x := qD g) (z := .int (g.den : Int)) (ev_var 9) ev_int)) (absQ_D g).symm) rfl)) ?_
  rintro Γ rfl
  have z01 : Sz 1 (fr 0 1) := fr_sz (bt_of (by decide) (by decide)) (bt_of (by decide) (by decide)) (by decide)
  refine wb_cut (fun Γ => Γ = [.w a.D, .d k.D, .d (qD raw), .d (sD (some lo, some hi)), .d (qD w), .d (qD b), .d (qP (f1, f2)), .d (qD m), .d (qD hf1), .d (qD g), .d (qD (absQ g)), .d (qD (a.pace g))]) (ws_set 11 (we_of (ev_if (p := decide (g.num = 0)) (et_eq (ev_ixt (x := qD g) (z := .int g.num) (ev_var 9) ev_int) ev_int) (fun q0 => ?_) (fun q0 => ?_)) rfl)) ?_
  · have e : g = 0 := Rat.num_eq_zero.mp (of_decide_eq_true q0)
    exact ev_is (ev_tup2 ev_int ev_int) (by rw [e]; rfl)
  · have e : ¬ g = 0 := fun z => of_decide_eq_false q0 (by rw [z]; rfl)
    have e2 : a.pace g = 1 + (if 0 < g then a.slew else 0 - a.slew) := by unfold KA.pace; rw [if_neg e]
    rw [e2]
    refine ev_call2 c_l_plus 4 (ek_v (ev_is (y := qD 1) (ev_tup2 ev_int ev_int) rfl)) (ek_v (x := qD (if 0 < g then a.slew else 0 - a.slew)) ?_) fun _ z => ⟨1, (if 0 < g then a.slew else 0 - a.slew), 1, 62, rfl, ones_sz, by split; exact za.zs.mono (by decide); exact ((show Sz 1 (0 : Rat) from z01).sub za.zs).mono (by decide), by decide, z⟩
    refine ev_if (p := decide (0 < g.num)) (et_gt (ev_ixt (x := qD g) (z := .int g.num) (ev_var 9) ev_int) ev_int) (fun q1 => ?_) (fun q1 => ?_)
    · rw [if_pos (num_pos_iff.mp (of_decide_eq_true q1))]
      exact ev_ix (x := a.D) (z := qD a.slew) (ek_s 0) ev_int rfl
    · rw [if_neg (fun z => of_decide_eq_false q1 (num_pos_iff.mpr z))]
      exact ev_call2 c_l_minus 3 (ek_v (ev_is (y := qD 0) (ev_tup2 ev_int ev_int) rfl)) (ek_v (ev_ix (x := a.D) (z := qD a.slew) (ek_s 0) ev_int rfl)) fun _ z => ⟨0, a.slew, 1, 60, rfl, z01, za.zs, by decide, z⟩
  rintro Γ rfl
  exact wb_one (ws_ret (we_of (ev_tup (ea_cons (ek_d (ev_tup (ea_cons (ek_d (ev_var 2)) (ea_cons (ek_d (ev_var 4)) (ea_cons (ek_d (ev_var 11)) (ea_cons (ek_d (ev_call2 c_l_over 8 (ek_v (ev_var 10)) (ek_v (ev_ix (x := a.D) (z := qD a.slew) (ek_s 0) ev_int rfl)) fun _ z => ⟨absQ g, a.slew, 220, 60, rfl, s0, absQ_sz zg, za.zs, by decide, z⟩)) (ea_cons (ek_d (ev_call2 c_l_plus 4 (ek_v (ev_var 10)) (ek_v (ev_var 8)) fun _ z => ⟨absQ g, hf1, 220, 260, rfl, absQ_sz zg, zh, by decide, z⟩)) (ea_cons (ek_d (ev_var 8)) ea_nil)))))))) (ea_cons (ek_d (ev_var 7)) (ea_cons (ek_d ev_bl) ea_nil)))) ⟨_, [], rfl, rfl, post⟩))


/-! _law_course_due -/
abbrev s_l_course_due : Stmt := top 68
abbrev n_l_course_due : Nm := { N := ["_law_args", "_law_state", "_law_jumped", "_law_course", "_law_finish"], V := [0, 1, 2, 3, 4], as := [0, 1, 2, 3, 4], GN := ["_law_plus", "_law_now"], k := 3, oi := [], lc := [0, 1, 2, 3, 4], sc := none }
theorem sc_l_course_due : FnScope n_l_course_due.N ["_law_args", "_law_state", "_law_jumped"] (defScope s_l_course_due) := ⟨rfl, rfl, rfl, by decide +kernel, rfl, by decide +kernel, by decide +kernel⟩
theorem sb_l_course_due : ScOk (defScope s_l_course_due) n_l_course_due := scOk_of (by decide +kernel)
abbrev S_l_course_due : Sg := ST_due
theorem bd_l_course_due {X : Cx} {c : Cc} (c_l_plus : CalF X n_l_course_due.k "_law_plus" S_l_plus) (c_l_now : CalF X n_l_course_due.k "_law_now" S_l_now) : ∀ ps Post, S_l_course_due ps Post → WB X n_l_course_due c (entry n_l_course_due.N ps) (defBody s_l_course_due) (fnD n_l_course_due.oi Post) := by
  rintro ps Post ⟨a, k, j, rfl, za, zk, zf, post⟩
  show WB X n_l_course_due c [.w a.D, .d k.D, .d (.bl j), .no, .no] _ _
  refine wb_cut (fun Γ => Γ = [.w a.D, .d k.D, .d (.bl j), .own (.lst [pD (a.first, a.y, 1)]), .no]) (ws_setO 3 (wo_of (eo_lst (ea_cons (ek_d (ev_tup (ea_cons (ek_d (ev_ix (x := a.D) (z := qD a.first) (ek_s 0) ev_int rfl)) (ea_cons (ek_d (ev_ix (x := a.D) (z := qD a.y) (ek_s 0) ev_int rfl)) (ea_cons (ek_d (ev_tup2 ev_int ev_int)) ea_nil))))) ea_nil)) rfl)) ?_
  rintro Γ rfl
  refine wb_cut (fun Γ => ¬ (j = false ∧ k.len = 0) ∧ Γ = [.w a.D, .d k.D, .d (.bl j), .own (.lst [pD (a.first, a.y, 1)]), .no]) (ws_ifE (EW.t (ew_and (et_not (et_val (ev_var 2))) fun _ => ew_and1 (et_is (et_eqD (x := qD k.len) (y := qD 0) (ek_d (ev_ixt (x := k.D) (ev_var 1) ev_int)) (ek_d (ev_is (y := qD 0) (ev_tup2 ev_int ev_int) rfl)) rfl rfl) (eqv_q _ _)))) (fun q => ?_) (fun q => wb_nil ⟨fun z => ?_, rfl⟩)) ?_
  · have e : dueQ a k j = [(a.first, a.y, 1)] := by unfold dueQ; rw [if_pos]; simpa using q
    rw [e] at post
    exact wb_one (ws_retS 3 ⟨.own _, [], .inl rfl, rfl, post⟩)
  · rw [z.1, z.2] at q; simp at q
  rintro Γ ⟨hn, rfl⟩
  refine wb_cut (fun Γ => Γ = [.w a.D, .d k.D, .d (.bl j), .own (.lst ((if k.at_ = a.first then [] else [(a.first, a.y, (1 : Rat))]).map pD)), .no]) (ws_ifE (et_is (et_eqD (x := qD k.at_) (y := qD a.first) (ek_d (ev_ixt (x := k.D) (ev_var 1) ev_int)) (ek_d (ev_ix (x := a.D) (z := qD a.first) (ek_s 0) ev_int rfl)) rfl rfl) (eqv_q _ _)) (fun q => ?_) (fun q => ?_)) ?_
  · rw [if_pos (of_decide_eq_true q)]
    exact wb_one (ws_clear 3 rfl)
  · rw [if_neg (of_decide_eq_false q)]
    exact wb_nil rfl
  rintro Γ rfl
  generalize hp : (if k.at_ = a.first then [] else [(a.first, a.y, (1 : Rat))]) = p0 at *
  have hl : p0.length ≤ 1 := by rw [← hp]; split <;> simp
  refine wb_cut (fun Γ => Γ = [.w a.D, .d k.D, .d (.bl j), .own (.lst ((p0 ++ [(k.at_, k.y, k.r)]).map pD)), .no]) (ws_append 3 (we_of (ev_tup (ea_cons (ek_d (ev_ixt (x := k.D) (z := qD k.at_) (ev_var 1) ev_int)) (ea_cons (ek_d (ev_ixt (x := k.D) (z := qD k.y) (ev_var 1) ev_int)) (ea_cons (ek_d (ev_ixt (x := k.D) (z := qD k.r) (ev_var 1) ev_int)) ea_nil)))) ⟨_, rfl, by rw [List.length_map]; omega, by rw [List.map_append]; rfl⟩)) ?_
  rintro Γ rfl
  have e : dueQ a k j = p0 ++ [(k.at_, k.y, k.r)] ++ (if j = true then [] else [(k.at_ + k.len, k.now (k.at_ + k.len), 1)]) := by unfold dueQ; rw [if_neg hn, hp]
  rw [e] at post
  cases j with
  | true =>
    refine wb_cut (fun Γ => Γ = [.w a.D, .d k.D, .d (.bl true), .own (.lst ((p0 ++ [(k.at_, k.y, k.r)]).map pD)), .no]) (ws_ifE (q := false) (et_is (et_not (et_val (p := true) (ev_var 2))) rfl) (fun q => by cases q) (fun _ => wb_nil rfl)) ?_
    rintro Γ rfl
    rw [if_pos rfl, List.append_nil] at post
    exact wb_one (ws_retS 3 ⟨.own _, [], .inl rfl, rfl, post⟩)
  | false =>
    rw [if_neg (by decide)] at post
    refine wb_cut (fun Γ => ∃ u, Γ = [.w a.D, .d k.D, .d (.bl false), .own (.lst ((p0 ++ [(k.at_, k.y, k.r)] ++ [(k.at_ + k.len, k.now (k.at_ + k.len), 1)]).map pD)), u]) (ws_ifE (q := true) (et_is (et_not (et_val (p := false) (ev_var 2))) rfl) (fun _ => ?_) (fun q => by cases q)) ?_
    · refine wb_cut (fun Γ => Γ = [.w a.D, .d k.D, .d (.bl false), .own (.lst ((p0 ++ [(k.at_, k.y, k.r)]).map pD)), .d (qD (k.at_ + k.len))]) (ws_set 4 (we_of (ev_call2 c_l_plus 0 (ek_v (ev_ixt (x := k.D) (z := qD k.at_) (ev_var 1) ev_int)) (ek_v (ev_ixt (x := k.D) (z := qD k.len) (ev_var 1) ev_int)) fun _ z => ⟨k.at_, k.len, 300, 300, rfl, zk.za, zk.zl, by decide, z⟩) rfl)) ?_
      rintro Γ rfl
      exact wb_one (ws_append 3 (we_of (ev_tup (ea_cons (ek_d (ev_var 4)) (ea_cons (ek_d (ev_call2 c_l_now 1 (ek_d (ev_var 1)) (ek_d (ev_var 4)) fun _ z => ⟨k, k.at_ + k.len, rfl, zk, zf, z⟩)) (ea_cons (ek_d (ev_tup2 ev_int ev_int)) ea_nil)))) ⟨_, rfl, by rw [List.length_map, List.length_append]; simp; omega, _, by rw [List.map_append (l₂ := [(k.at_ + k.len, k.now (k.at_ + k.len), 1)])]; rfl⟩))
    rintro Γ ⟨u, rfl⟩
    exact wb_one (ws_retS 3 ⟨.own _, [], .inl rfl, rfl, post⟩)


/-! compare -/
abbrev s_p_compare : Stmt := top 15
abbrev n_p_compare : Nm := { N := ["a", "b", "left", "right"], V := [0, 1, 2, 3], as := [0, 1, 2, 3], GN := [], k := 0, oi := [], lc := [0, 1, 2, 3], sc := none }
theorem sc_p_compare : FnScope n_p_compare.N ["a", "b"] (defScope s_p_compare) := ⟨rfl, rfl, rfl, by decide +kernel, rfl, by decide +kernel, by decide +kernel⟩
theorem sb_p_compare : ScOk (defScope s_p_compare) n_p_compare := scOk_of (by decide +kernel)
def S_p_compare : Sg := fun ps Post => ∃ (a b : Rat) (j k : Nat), ps = [.d (qD a), .d (qD b)] ∧ Sz j a ∧ Sz k b ∧ j + k ≤ 8000 ∧ Post (.d (.int (cmpQ a b))) []
theorem bd_p_compare {X : Cx} {c : Cc}  : ∀ ps Post, S_p_compare ps Post → WB X n_p_compare c (entry n_p_compare.N ps) (defBody s_p_compare) (fnD n_p_compare.oi Post) := by
  rintro ps Post ⟨a, b, j, k, rfl, ha, hb, hjk, post⟩
  show WB X n_p_compare c [.d (qD a), .d (qD b), .no, .no] _ _
  refine wb_cut (fun Γ => ∃ l r : Int, Γ = [.d (qD a), .d (qD b), .d (.int l), .d (.int r)] ∧ (l < r ↔ a < b) ∧ (r < l ↔ b < a)) (ws_ifE (et_eq (ev_ixt (ev_var 0) ev_int) (ev_ixt (ev_var 1) ev_int)) (fun h => wb_one (ws_par 2 3 (wa_of (ea_cons (ek_d (ev_ixt (ev_var 0) ev_int)) (ea_cons (ek_d (ev_ixt (ev_var 1) ev_int)) ea_nil)) ⟨_, _, rfl, _, _, rfl, ?_⟩)))
    (fun h => wb_one (ws_par 2 3 (wa_of (ea_cons (ek_d (ev_mul (ev_ixt (ev_var 0) ev_int) (ev_ixt (ev_var 1) ev_int) (ha.n.cm hb.d (by omega)))) (ea_cons (ek_d (ev_mul (ev_ixt (ev_var 1) ev_int) (ev_ixt (ev_var 0) ev_int) (hb.n.cm ha.d (by omega)))) ea_nil)) ⟨_, _, rfl, _, _, rfl, ?_⟩)))) ?_
  · have h1 : (a.den : Int) = (b.den : Int) := by simpa using h
    have h2 : a.den = b.den := by omega
    exact ⟨(lt_same h2).symm, (lt_same h2.symm).symm⟩
  · exact ⟨lt_num.symm, lt_num.symm⟩
  rintro Γ ⟨l, r, rfl, h1, h2⟩
  refine wb_cut (fun Γ => Γ = [.d (qD a), .d (qD b), .d (.int l), .d (.int r)] ∧ ¬ a < b) (ws_ifE (et_lt (ev_var 2) (ev_var 3)) (fun h => wb_one (ws_ret (we_of (ev_neg ev_int) ⟨_, _, rfl, rfl, ?_⟩))) (fun h => wb_nil ⟨rfl, fun z => ?_⟩)) ?_
  · have h3 : a < b := h1.mp (of_decide_eq_true h)
    have e : cmpQ a b = -1 := by unfold cmpQ; rw [if_pos h3]
    rw [← e]; exact post
  · exact absurd (h1.mpr z) (of_decide_eq_false h)
  rintro Γ ⟨rfl, h3⟩
  refine wb_cut (fun Γ => Γ = [.d (qD a), .d (qD b), .d (.int l), .d (.int r)] ∧ ¬ b < a) (ws_ifE (et_gt (ev_var 2) (ev_var 3)) (fun h => wb_one (ws_ret (we_of ev_int ⟨_, _, rfl, rfl, ?_⟩))) (fun h => wb_nil ⟨rfl, fun z => ?_⟩)) ?_
  · have h4 : b < a := h2.mp (of_decide_eq_true h)
    have e : cmpQ a b = 1 := by unfold cmpQ; rw [if_neg h3, if_pos h4]
    rw [← e]; exact post
  · exact absurd (h2.mpr z) (of_decide_eq_false h)
  rintro Γ ⟨rfl, h4⟩
  refine wb_one (ws_ret (we_of ev_int ⟨_, _, rfl, rfl, ?_⟩))
  have e : cmpQ a b = 0 := by unfold cmpQ; rw [if_neg h3, if_neg h4]
  rw [← e]; exact post


/-! require_slew_and_drift -/
abbrev s_p_require_slew_and_drift : Stmt := top 36
abbrev n_p_require_slew_and_drift : Nm := { N := ["slew", "drift"], V := [0, 1], as := [0, 1], GN := ["compare", "ZERO_steering", "ONE", "BadRate"], k := 2, oi := [], lc := [0, 1], sc := none }
theorem sc_p_require_slew_and_drift : FnScope n_p_require_slew_and_drift.N ["slew", "drift"] (defScope s_p_require_slew_and_drift) := ⟨rfl, rfl, rfl, by decide +kernel, rfl, by decide +kernel, by decide +kernel⟩
theorem sb_p_require_slew_and_drift : ScOk (defScope s_p_require_slew_and_drift) n_p_require_slew_and_drift := scOk_of (by decide +kernel)
abbrev S_p_require_slew_and_drift (C_BadRate : Addr) : SgX := ST_reqslew C_BadRate
theorem bd_p_require_slew_and_drift {X : Cx} {c : Cc} {C_BadRate : Addr} (k_BadRate : ClsAt X.K X.mg "BadRate" C_BadRate) (x_BadRate : ExcF X n_p_require_slew_and_drift.k "BadRate" C_BadRate (fsO1 "value") 1) (c_p_compare : CalF X n_p_require_slew_and_drift.k "compare" S_p_compare) (g_ZERO_steering : Con X "ZERO_steering" v_ZERO_steering) (g_ONE : Con X "ONE" v_ONE) : ∀ ps Post Xp, (S_p_require_slew_and_drift C_BadRate) ps Post Xp → (∀ C fs Γ, Xp C fs → c.xw C fs Γ) → WB X n_p_require_slew_and_drift c (entry n_p_require_slew_and_drift.N ps) (defBody s_p_require_slew_and_drift) (fnD [] fun r _ => Post r) := by
  rintro ps Post Xp ⟨s, d, rfl, zs, zd, post, xp⟩ hX
  show WB X n_p_require_slew_and_drift c [.d (qD s), .d (qD d)] _ _
  have zz : Sz 1 (0 : Rat) := ⟨by decide, by decide⟩
  have z1 : Sz 1 (1 : Rat) := ⟨by decide, by decide⟩
  refine wb_cut (fun Γ => Γ = [.d (qD s), .d (qD d)] ∧ 0 < s ∧ s < 1) (ws_ifE (EW.t (ew_or (et_le (ev_call2 c_p_compare 0 (ek_d (ev_var 0)) (ek_d (ev_glob 1 g_ZERO_steering)) fun _ z => ⟨_, _, 60, 1, rfl, zs, zz, by decide, z⟩) ev_int) fun _ => ew_or1 (et_ge (ev_call2 c_p_compare 0 (ek_d (ev_var 0)) (ek_d (ev_glob 2 g_ONE)) fun _ z => ⟨s, 1, 60, 1, rfl, zs, z1, by decide, z⟩) ev_int))) (fun q => ?_) (fun q => wb_nil ⟨rfl, ?_⟩)) ?_
  · rw [cmp_le, cmp_ge, Bool.or_eq_true] at q
    refine wb_one (ws_raise x_BadRate 3 (fsD1 "value") fs1_ok (by decide) (wa_of (ea_cons (ek_d (ev_var 0)) ea_nil) ⟨_, rfl, rfl, hX _ _ _ (xp s (.inl ⟨?_, rfl⟩))⟩))
    rcases q with q | q
    · exact .inl (by have := of_decide_eq_true q; grind)
    · exact .inr (by have := of_decide_eq_true q; grind)
  · rw [cmp_le, cmp_ge, Bool.or_eq_false_iff] at q
    have q1 := of_decide_eq_false q.1
    have q2 := of_decide_eq_false q.2
    constructor <;> grind
  rintro Γ ⟨rfl, h1, h2⟩
  refine wb_one (ws_ifE (EW.t (ew_or (et_lt (ev_call2 c_p_compare 0 (ek_d (ev_var 1)) (ek_d (ev_glob 1 g_ZERO_steering)) fun _ z => ⟨_, _, 60, 1, rfl, zd, zz, by decide, z⟩) ev_int) fun _ => ew_or1 (et_ge (ev_call2 c_p_compare 0 (ek_d (ev_var 1)) (ek_d (ev_var 0)) fun _ z => ⟨d, s, 60, 60, rfl, zd, zs, by decide, z⟩) ev_int))) (fun q => ?_) (fun q => wb_nil ⟨[], rfl, post ?_⟩))
  · rw [cmp_lt, cmp_ge, Bool.or_eq_true] at q
    refine wb_one (ws_raise x_BadRate 3 (fsD1 "value") fs1_ok (by decide) (wa_of (ea_cons (ek_d (ev_var 1)) ea_nil) ⟨_, rfl, rfl, hX _ _ _ (xp d (.inr ⟨h1, h2, ?_, rfl⟩))⟩))
    rcases q with q | q
    · exact .inl (of_decide_eq_true q)
    · exact .inr (by have := of_decide_eq_true q; grind)
  · rw [cmp_lt, cmp_ge, Bool.or_eq_false_iff] at q
    have q1 := of_decide_eq_false q.1
    have q2 := of_decide_eq_false q.2
    exact ⟨h1, h2, q1, by grind⟩


/-! Steering.__init__ -/
abbrev s_Steering___init__ : Stmt := methOf (top 40) 0
abbrev n_Steering___init__ : Nm := { N := ["self", "raw", "shown", "error", "slew", "drift", "step_over"], V := [0, 1, 2, 3, 4, 5, 6], as := [0, 1, 2, 3, 4, 5, 6], GN := ["compare", "ZERO_steering", "BadBound", "require_slew_and_drift", "ONE"], k := 3, oi := [0], lc := [0, 1, 2, 3, 4, 5, 6], sc := none }
theorem sc_Steering___init__ : FnScope n_Steering___init__.N ["self", "raw", "shown", "error", "slew", "drift", "step_over"] (defScope s_Steering___init__) := ⟨rfl, rfl, rfl, by decide +kernel, rfl, by decide +kernel, by decide +kernel⟩
theorem sb_Steering___init__ : ScOk (defScope s_Steering___init__) n_Steering___init__ := scOk_of (by decide +kernel)
abbrev S_Steering___init__ : Sg := ST_init
theorem bd_Steering___init__ {X : Cx} {c : Cc} {C_BadRate : Addr} (k_BadRate : ClsAt X.K X.mg "BadRate" C_BadRate) (c_p_compare : CalF X n_Steering___init__.k "compare" S_p_compare) (g_ZERO_steering : Con X "ZERO_steering" v_ZERO_steering) (c_p_require_slew_and_drift : CalX X n_Steering___init__.k "require_slew_and_drift" (S_p_require_slew_and_drift C_BadRate)) (g_ONE : Con X "ONE" v_ONE) (no_Steering_slew_told : NoAttr X.K (He.ga X.K "Steering") "slew_told") (no_Steering_drift_told : NoAttr X.K (He.ga X.K "Steering") "drift_told") (no_Steering_step_told : NoAttr X.K (He.ga X.K "Steering") "step_told") (no_Steering_steered_at : NoAttr X.K (He.ga X.K "Steering") "steered_at") (no_Steering_steered_pieces : NoAttr X.K (He.ga X.K "Steering") "steered_pieces") (no_Steering_steered_bound : NoAttr X.K (He.ga X.K "Steering") "steered_bound") (no_Steering_steered_half : NoAttr X.K (He.ga X.K "Steering") "steered_half") (no_Steering_steered_aim : NoAttr X.K (He.ga X.K "Steering") "steered_aim") : ∀ ps Post, S_Steering___init__ ps Post → WB X n_Steering___init__ c (entry n_Steering___init__.N ps) (defBody s_Steering___init__) (fnD n_Steering___init__.oi Post) := by
  rintro ps Post ⟨raw, shown, err, slew, drift, step, rfl, h1, h2, h3, z1, z2, z3, z4, post⟩
  have zz : Sz 1 (0 : Rat) := ⟨by decide, by decide⟩
  show WB X n_Steering___init__ c [.own (.ins "Steering" []), .d (qD raw), .d (qD shown), .d (qD err), .d (qD slew), .d (qD drift), .d (oD step)] _ _
  refine wb_cut (fun Γ => Γ = [.own (.ins "Steering" []), .d (qD raw), .d (qD shown), .d (qD err), .d (qD slew), .d (qD drift), .d (oD step)]) (ws_ifE (et_is (et_lt (ev_call2 c_p_compare 0 (ek_d (ev_var 3)) (ek_d (ev_glob 1 g_ZERO_steering)) fun _ z => ⟨err, 0, 700, 1, rfl, z1, zz, by decide, z⟩) ev_int) cmp_lt) (fun q => absurd (of_decide_eq_true q) h1) (fun q => wb_nil rfl)) ?_
  rintro Γ rfl
  refine wb_cut (fun Γ => Γ = [.own (.ins "Steering" []), .d (qD raw), .d (qD shown), .d (qD err), .d (qD slew), .d (qD drift), .d (oD step)]) (ws_expr (we_callXE c_p_require_slew_and_drift 3 (ea_cons (ek_d (ev_var 4)) (ea_cons (ek_d (ev_var 5)) ea_nil)) ⟨slew, drift, rfl, z2, z3, fun _ => ⟨_, rfl, rfl⟩, fun e h => absurd h2 (goodS_no h)⟩)) ?_
  rintro Γ rfl
  refine wb_cut (fun Γ => Γ = [.own (.ins "Steering" []), .d (qD raw), .d (qD shown), .d (qD err), .d (qD slew), .d (qD drift), .d (oD step)]) ?_ ?_
  · cases step with
    | none => exact ws_ifE (EW.t (ew_and (q := false) (et_is (q := false) (et_notN (x := oD none) (ek_s 6)) rfl) (fun q => by cases q))) (fun q => by cases q) (fun q => wb_nil rfl)
    | some d => exact ws_ifE (EW.t (ew_and (et_notN (x := oD (some d)) (ek_s 6)) fun _ => ew_and1 (et_is (et_lt (ev_call2 c_p_compare 0 (ek_d (ev_var 6)) (ek_d (ev_glob 1 g_ZERO_steering)) fun _ z => ⟨d, 0, 300, 1, rfl, z4 d rfl, zz, by decide, z⟩) ev_int) cmp_lt))) (fun q => absurd (by rw [Bool.and_eq_true] at q; exact of_decide_eq_true q.2) (h3 d rfl)) (fun q => wb_nil rfl)
  rintro Γ rfl
  refine wb_cut (fun Γ => Γ = [.own (.ins "Steering" [("slew_told", qD slew)]), .d (qD raw), .d (qD shown), .d (qD err), .d (qD slew), .d (qD drift), .d (oD step)]) (ws_atr 0 no_Steering_slew_told (we_of (ev_var 4) ⟨_, rfl, Nat.le_of_ble_eq_true rfl, rfl⟩)) ?_
  rintro Γ rfl
  refine wb_cut (fun Γ => Γ = [.own (.ins "Steering" [("slew_told", qD slew), ("drift_told", qD drift)]), .d (qD raw), .d (qD shown), .d (qD err), .d (qD slew), .d (qD drift), .d (oD step)]) (ws_atr 0 no_Steering_drift_told (we_of (ev_var 5) ⟨_, rfl, Nat.le_of_ble_eq_true rfl, rfl⟩)) ?_
  rintro Γ rfl
  refine wb_cut (fun Γ => Γ = [.own (.ins "Steering" [("slew_told", qD slew), ("drift_told", qD drift), ("step_told", oD step)]), .d (qD raw), .d (qD shown), .d (qD err), .d (qD slew), .d (qD drift), .d (oD step)]) (ws_atr 0 no_Steering_step_told (we_of (ev_var 6) ⟨_, rfl, Nat.le_of_ble_eq_true rfl, rfl⟩)) ?_
  rintro Γ rfl
  refine wb_cut (fun Γ => Γ = [.own (.ins "Steering" [("slew_told", qD slew), ("drift_told", qD drift), ("step_told", oD step), ("steered_at", qD raw)]), .d (qD raw), .d (qD shown), .d (qD err), .d (qD slew), .d (qD drift), .d (oD step)]) (ws_atr 0 no_Steering_steered_at (we_of (ev_var 1) ⟨_, rfl, Nat.le_of_ble_eq_true rfl, rfl⟩)) ?_
  rintro Γ rfl
  refine wb_cut (fun Γ => Γ = [.own (.ins "Steering" [("slew_told", qD slew), ("drift_told", qD drift), ("step_told", oD step), ("steered_at", qD raw), ("steered_pieces", cD [(raw, shown, 1)])]), .d (qD raw), .d (qD shown), .d (qD err), .d (qD slew), .d (qD drift), .d (oD step)]) (ws_atr 0 no_Steering_steered_pieces (we_of (ev_frz (eo_lst (ea_cons (ek_d (ev_tup (ea_cons (ek_d (ev_var 1)) (ea_cons (ek_d (ev_var 2)) (ea_cons (ek_d (ev_glob 4 g_ONE)) ea_nil))))) ea_nil))) ⟨_, rfl, Nat.le_of_ble_eq_true rfl, rfl⟩)) ?_
  rintro Γ rfl
  refine wb_cut (fun Γ => Γ = [.own (.ins "Steering" [("slew_told", qD slew), ("drift_told", qD drift), ("step_told", oD step), ("steered_at", qD raw), ("steered_pieces", cD [(raw, shown, 1)]), ("steered_bound", qD err)]), .d (qD raw), .d (qD shown), .d (qD err), .d (qD slew), .d (qD drift), .d (oD step)]) (ws_atr 0 no_Steering_steered_bound (we_of (ev_var 3) ⟨_, rfl, Nat.le_of_ble_eq_true rfl, rfl⟩)) ?_
  rintro Γ rfl
  refine wb_cut (fun Γ => Γ = [.own (.ins "Steering" [("slew_told", qD slew), ("drift_told", qD drift), ("step_told", oD step), ("steered_at", qD raw), ("steered_pieces", cD [(raw, shown, 1)]), ("steered_bound", qD err), ("steered_half", qD err)]), .d (qD raw), .d (qD shown), .d (qD err), .d (qD slew), .d (qD drift), .d (oD step)]) (ws_atr 0 no_Steering_steered_half (we_of (ev_var 3) ⟨_, rfl, Nat.le_of_ble_eq_true rfl, rfl⟩)) ?_
  rintro Γ rfl
  refine wb_cut (fun Γ => Γ = [.own (.ins "Steering" [("slew_told", qD slew), ("drift_told", qD drift), ("step_told", oD step), ("steered_at", qD raw), ("steered_pieces", cD [(raw, shown, 1)]), ("steered_bound", qD err), ("steered_half", qD err), ("steered_aim", .non)]), .d (qD raw), .d (qD shown), .d (qD err), .d (qD slew), .d (qD drift), .d (oD step)]) (ws_atr 0 no_Steering_steered_aim (we_of ev_non ⟨_, rfl, Nat.le_of_ble_eq_true rfl, rfl⟩)) ?_
  rintro Γ rfl
  exact wb_nil ⟨_, ⟨_, _, _, rfl, rfl, .inl rfl, rfl⟩, post⟩


/-! _law_made -/
abbrev s_l_made : Stmt := top 62
abbrev n_l_made : Nm := { N := ["_law_args"], V := [0], as := [0], GN := ["Steering"], k := 5, oi := [], lc := [0], sc := none }
theorem sc_l_made : FnScope n_l_made.N ["_law_args"] (defScope s_l_made) := ⟨rfl, rfl, rfl, by decide +kernel, rfl, by decide +kernel, by decide +kernel⟩
theorem sb_l_made : ScOk (defScope s_l_made) n_l_made := scOk_of (by decide +kernel)
abbrev S_l_made : Sg := ST_lmade
theorem bd_l_made {X : Cx} {c : Cc} (mk_Steering_3_slew_drift_step_over : CalN X n_l_made.k "Steering" 3 ["slew", "drift", "step_over"] (fun pv pz => pv ++ (pz.take 3 ++ (([] : List D).map Par.d ++ pz.drop 3))) S_Steering___init__) (mk_Steering_3_slew : CalN X n_l_made.k "Steering" 3 ["slew"] (fun pv pz => pv ++ (pz.take 1 ++ (([.tup [.int 0, .int 1], .non] : List D).map Par.d ++ pz.drop 1))) S_Steering___init__) (mk_Steering_3_slew_drift : CalN X n_l_made.k "Steering" 3 ["slew", "drift"] (fun pv pz => pv ++ (pz.take 2 ++ (([.non] : List D).map Par.d ++ pz.drop 2))) S_Steering___init__) (mk_Steering_3_slew_step_over : CalN X n_l_made.k "Steering" 3 ["slew", "step_over"] (fun pv pz => pv ++ (pz.take 1 ++ (([.tup [.int 0, .int 1]] : List D).map Par.d ++ pz.drop 1))) S_Steering___init__) : ∀ ps Post, S_l_made ps Post → WB X n_l_made c (entry n_l_made.N ps) (defBody s_l_made) (fnD n_l_made.oi Post) := by
  rintro ps Post ⟨a, rfl, ha, ⟨g1, g2, g3⟩, post⟩
  show WB X n_l_made c [.w a.D] _ _
  refine wb_cut (fun Γ => Γ = [.w a.D] ∧ ¬ (a.step = none ∧ a.drift = fr 0 1)) (ws_ifE (EW.t (ew_and (et_isN (x := oD a.step) (ek_d (ev_ix (x := a.D) (ek_s 0) ev_int rfl))) fun _ => ew_and1 (et_is (et_eqD (x := qD a.drift) (y := qD (fr 0 1)) (ek_d (ev_ix (x := a.D) (ek_s 0) ev_int rfl)) (ek_d (ev_q ev_int ev_int)) rfl rfl) (eqv_q _ _)))) (fun q => ?_) (fun q => wb_nil ⟨rfl, ?_⟩)) ?_
  · rw [Bool.and_eq_true] at q
    have e1 := isN_o q.1
    have e2 := of_decide_eq_true q.2
    exact wb_one (ws_retO (wo_make (xs := [qD a.slew]) (ps := [.d (qD a.first), .d (qD a.y), .d (qD a.err)]) mk_Steering_3_slew 0 (ea_cons (ek_d (ev_ix (x := a.D) (ek_s 0) ev_int rfl)) (ea_cons (ek_d (ev_ix (x := a.D) (ek_s 0) ev_int rfl)) (ea_cons (ek_d (ev_ix (x := a.D) (ek_s 0) ev_int rfl)) ea_nil))) ⟨ev_ix (x := a.D) (ek_s 0) ev_int rfl, trivial⟩ ⟨a.first, a.y, a.err, a.slew, a.drift, a.step, by rw [e1, e2]; rfl, g1, g2, g3, ha.ze.mono (by decide), ha.zs, ha.zd, ha.zo, rfl, _, rfl, .own _, [], .inl rfl, rfl, post⟩))
  · intro ⟨e1, e2⟩
    rw [e1, e2] at q
    simp [oD, D.isN] at q
  rintro Γ ⟨rfl, n1⟩
  refine wb_cut (fun Γ => Γ = [.w a.D] ∧ ¬ a.step = none) (ws_ifE (et_isN (x := oD a.step) (ek_d (ev_ix (x := a.D) (ek_s 0) ev_int rfl))) (fun q => ?_) (fun q => wb_nil ⟨rfl, ?_⟩)) ?_
  · have e1 := isN_o q
    exact wb_one (ws_retO (wo_make (xs := [qD a.slew, qD a.drift]) (ps := [.d (qD a.first), .d (qD a.y), .d (qD a.err)]) mk_Steering_3_slew_drift 0 (ea_cons (ek_d (ev_ix (x := a.D) (ek_s 0) ev_int rfl)) (ea_cons (ek_d (ev_ix (x := a.D) (ek_s 0) ev_int rfl)) (ea_cons (ek_d (ev_ix (x := a.D) (ek_s 0) ev_int rfl)) ea_nil))) ⟨ev_ix (x := a.D) (ek_s 0) ev_int rfl, ⟨ev_ix (x := a.D) (ek_s 0) ev_int rfl, trivial⟩⟩ ⟨a.first, a.y, a.err, a.slew, a.drift, a.step, by rw [e1]; rfl, g1, g2, g3, ha.ze.mono (by decide), ha.zs, ha.zd, ha.zo, rfl, _, rfl, .own _, [], .inl rfl, rfl, post⟩))
  · intro e1
    rw [e1] at q
    cases q
  rintro Γ ⟨rfl, n2⟩
  refine wb_cut (fun Γ => Γ = [.w a.D]) (ws_ifE (et_is (et_eqD (x := qD a.drift) (y := qD (fr 0 1)) (ek_d (ev_ix (x := a.D) (ek_s 0) ev_int rfl)) (ek_d (ev_q ev_int ev_int)) rfl rfl) (eqv_q _ _)) (fun q => ?_) (fun q => wb_nil rfl)) ?_
  · have e2 := of_decide_eq_true q
    exact wb_one (ws_retO (wo_make (xs := [qD a.slew, oD a.step]) (ps := [.d (qD a.first), .d (qD a.y), .d (qD a.err)]) mk_Steering_3_slew_step_over 0 (ea_cons (ek_d (ev_ix (x := a.D) (ek_s 0) ev_int rfl)) (ea_cons (ek_d (ev_ix (x := a.D) (ek_s 0) ev_int rfl)) (ea_cons (ek_d (ev_ix (x := a.D) (ek_s 0) ev_int rfl)) ea_nil))) ⟨ev_ix (x := a.D) (ek_s 0) ev_int rfl, ⟨ev_ix (x := a.D) (ek_s 0) ev_int rfl, trivial⟩⟩ ⟨a.first, a.y, a.err, a.slew, a.drift, a.step, by rw [e2]; rfl, g1, g2, g3, ha.ze.mono (by decide), ha.zs, ha.zd, ha.zo, rfl, _, rfl, .own _, [], .inl rfl, rfl, post⟩))
  rintro Γ rfl
  exact wb_one (ws_retO (wo_make (xs := [qD a.slew, qD a.drift, oD a.step]) (ps := [.d (qD a.first), .d (qD a.y), .d (qD a.err)]) mk_Steering_3_slew_drift_step_over 0 (ea_cons (ek_d (ev_ix (x := a.D) (ek_s 0) ev_int rfl)) (ea_cons (ek_d (ev_ix (x := a.D) (ek_s 0) ev_int rfl)) (ea_cons (ek_d (ev_ix (x := a.D) (ek_s 0) ev_int rfl)) ea_nil))) ⟨ev_ix (x := a.D) (ek_s 0) ev_int rfl, ⟨ev_ix (x := a.D) (ek_s 0) ev_int rfl, ⟨ev_ix (x := a.D) (ek_s 0) ev_int rfl, trivial⟩⟩⟩ ⟨a.first, a.y, a.err, a.slew, a.drift, a.step, by rfl, g1, g2, g3, ha.ze.mono (by decide), ha.zs, ha.zd, ha.zo, rfl, _, rfl, .own _, [], .inl rfl, rfl, post⟩))


/-! _law_is_int -/
abbrev s_l_is_int : Stmt := top 47
abbrev n_l_is_int : Nm := { N := ["_law_value"], V := [0], as := [0], GN := ["isinstance", "int", "bool"], k := 0, oi := [], lc := [0], sc := none }
theorem sc_l_is_int : FnScope n_l_is_int.N ["_law_value"] (defScope s_l_is_int) := ⟨rfl, rfl, rfl, by decide +kernel, rfl, by decide +kernel, by decide +kernel⟩
theorem sb_l_is_int : ScOk (defScope s_l_is_int) n_l_is_int := scOk_of (by decide +kernel)
abbrev S_l_is_int : Sg := ST_isint
theorem bd_l_is_int {X : Cx} {c : Cc} (b_isinstance : Blt X "isinstance" (.builtin "isinstance")) (b_int : Blt X "int" (.type "int")) (b_bool : Blt X "bool" (.type "bool")) : ∀ ps Post, S_l_is_int ps Post → WB X n_l_is_int c (entry n_l_is_int.N ps) (defBody s_l_is_int) (fnD n_l_is_int.oi Post) := by
  rintro ps Post ⟨x, rfl, post⟩
  show WB X n_l_is_int c [.w x] _ _
  refine wb_one (ws_ret (we_of (ev_and (ev_isi b_isinstance b_int 0 1 (ek_s 0)) fun h => ev_one (ev_not (ev_isi b_isinstance b_bool 0 2 (ek_s 0)))) ⟨_, [], rfl, rfl, ?_⟩))
  rw [isI_ty]; exact post


/-! _law_same -/
abbrev s_l_same : Stmt := top 48
abbrev n_l_same (j : Nat) : Nm := { N := ["_law_value", "_law_due", "_law_keys", "_law_k", "_law_name"], V := [0, 1, 2, 3], as := [0, 1, 2, 3], GN := ["isinstance", "bool", "int", "_law_is_int", "str", "dict", "list", "_law_same", "tuple", "len", "range"], k := 1 + j, oi := [], lc := [2, 3], sc := some (defScope s_l_same) }
abbrev n_l_same_c1 (j : Nat) : Nm := { N := ["_law_value", "_law_due", "_law_keys", "_law_k", "_law_name"], V := [0, 4], as := [4], GN := [], k := 1 + j, oi := [] }
abbrev n_l_same_c2 (j : Nat) : Nm := { N := ["_law_value", "_law_due", "_law_keys", "_law_k", "_law_name"], V := [1, 4], as := [4], GN := [], k := 1 + j, oi := [] }
theorem sc_l_same : FnScope (n_l_same 0).N ["_law_value", "_law_due"] (defScope s_l_same) := ⟨rfl, rfl, rfl, by decide +kernel, rfl, by decide +kernel, by decide +kernel⟩
theorem sb_l_same : ScOk (defScope s_l_same) (n_l_same 0) := scOk_of (by decide +kernel)
abbrev S_l_same : Sg := ST_same 5
theorem bd_l_same {X : Cx} {c : Cc} (j : Nat) (b_isinstance : Blt X "isinstance" (.builtin "isinstance")) (b_bool : Blt X "bool" (.type "bool")) (b_int : Blt X "int" (.type "int")) (c_l_is_int : CalF X (n_l_same j).k "_law_is_int" S_l_is_int) (b_str : Blt X "str" (.type "str")) (b_dict : Blt X "dict" (.type "dict")) (b_list : Blt X "list" (.type "list")) (b_tuple : Blt X "tuple" (.type "tuple")) (b_len : Blt X "len" (.builtin "len")) (b_range : Blt X "range" (.type "range")) (c_rec : ∀ i, j = i + 1 → CalF X (n_l_same j).k "_law_same" (ST_same i)) : ∀ ps Post, ST_same j ps Post → WB X (n_l_same j) c (entry (n_l_same j).N ps) (defBody s_l_same) (fnD (n_l_same j).oi Post) := by
  rintro ps Post ⟨v, d, rfl, hp, post⟩
  show WB X (n_l_same j) c [.w v, .w d, .no, .no, .no] _ _
  refine wb_cut (fun Γ => Γ = [.w v, .w d, .no, .no, .no] ∧ d.isN = false) (ws_ifE (et_isN (ek_s 1)) (fun h => wb_one (ws_ret (we_of (ev_isN (ek_s 0)) ⟨_, [], rfl, rfl, post _ ?_⟩))) (fun h => wb_nil ⟨rfl, h⟩)) ?_
  · rw [ty_non h]; exact ⟨ty_non, fun e => by rw [e]; rfl⟩
  rintro Γ ⟨rfl, h1⟩
  refine wb_cut (fun Γ => Γ = [.w v, .w d, .no, .no, .no] ∧ tyB d.ty "bool" = false) (ws_ifE (et_isi b_isinstance b_bool 0 1 (ek_s 1)) (fun h => ?_) (fun h => wb_nil ⟨rfl, h⟩)) ?_
  · obtain ⟨b, rfl⟩ := ty_bool h
    refine wb_one (ws_ret (we_and (we_of (ev_isi b_isinstance b_bool 0 1 (ek_s 0)) ⟨_, rfl, fun q => ?_, fun q => ⟨_, [], rfl, rfl, post _ ⟨fun z => (by cases z), fun e => ?_⟩⟩⟩)))
    · obtain ⟨u, rfl⟩ := ty_bool q
      refine we_and1 (we_of (ev_eqD (ek_s 0) (ek_s 1) rfl rfl) ⟨_, [], rfl, rfl, post _ ?_⟩)
      cases u <;> cases b <;> simp [D.eqv, D.pd, PyData.eqv]
    · rw [e] at q; cases q
  rintro Γ ⟨rfl, h2⟩
  refine wb_cut (fun Γ => Γ = [.w v, .w d, .no, .no, .no] ∧ tyB d.ty "int" = false) (ws_ifE (et_isi b_isinstance b_int 0 2 (ek_s 1)) (fun h => ?_) (fun h => wb_nil ⟨rfl, h⟩)) ?_
  · obtain ⟨b, rfl⟩ := ty_int h h2
    refine wb_one (ws_ret (we_and (we_of (ev_call1 c_l_is_int 3 (ek_s 0) fun _ p => ⟨_, rfl, p⟩) ⟨_, rfl, fun q => ?_, fun q => ⟨_, [], rfl, rfl, post _ ⟨fun z => (by cases z), fun e => ?_⟩⟩⟩)))
    · obtain ⟨u, rfl⟩ := isI_of q
      refine we_and1 (we_of (ev_eqD (ek_s 0) (ek_s 1) rfl rfl) ⟨_, [], rfl, rfl, post _ ?_⟩)
      show (u == b) = true ↔ _
      simp
    · rw [e] at q; cases q
  rintro Γ ⟨rfl, h3⟩
  refine wb_cut (fun Γ => Γ = [.w v, .w d, .no, .no, .no] ∧ tyB d.ty "str" = false) (ws_ifE (et_isi b_isinstance b_str 0 4 (ek_s 1)) (fun h => ?_) (fun h => wb_nil ⟨rfl, h⟩)) ?_
  · obtain ⟨b, rfl⟩ := ty_str h
    refine wb_one (ws_ret (we_and (we_of (ev_isi b_isinstance b_str 0 4 (ek_s 0)) ⟨_, rfl, fun q => ?_, fun q => ⟨_, [], rfl, rfl, post _ ⟨fun z => (by cases z), fun e => ?_⟩⟩⟩)))
    · obtain ⟨u, rfl⟩ := ty_str q
      refine we_and1 (we_of (ev_eqS (ek_s 0) (ek_s 1)) ⟨_, [], rfl, rfl, post _ ?_⟩)
      simp
    · rw [e] at q; cases q
  rintro Γ ⟨rfl, h4⟩
  refine wb_cut (fun Γ => Γ = [.w v, .w d, .no, .no, .no] ∧ tyB d.ty "dict" = false) (ws_ifE (et_isi b_isinstance b_dict 0 5 (ek_s 1)) (fun h => ?_) (fun h => wb_nil ⟨rfl, h⟩)) ?_
  · obtain ⟨b, rfl⟩ := ty_dict h
    exact absurd hp (by cases j <;> exact fun z => z)
  rintro Γ ⟨rfl, h5⟩
  refine wb_cut (fun Γ => Γ = [.w v, .w d, .no, .no, .no] ∧ (tyB d.ty "list" && !tyB v.ty "list") = false) (ws_ifE (EW.t (ew_and (et_isi b_isinstance b_list 0 6 (ek_s 1)) fun _ => ew_and1 (et_not (et_isi b_isinstance b_list 0 6 (ek_s 0))))) (fun h => wb_one (ws_ret (we_of ev_bl ⟨_, [], rfl, rfl, post _ ⟨fun z => (by cases z), fun e => ?_⟩⟩))) (fun h => wb_nil ⟨rfl, h⟩)) ?_
  · rw [e] at h; simp at h
  rintro Γ ⟨rfl, h6⟩
  refine wb_cut (fun Γ => Γ = [.w v, .w d, .no, .no, .no] ∧ (tyB d.ty "tuple" && !tyB v.ty "tuple") = false) (ws_ifE (EW.t (ew_and (et_isi b_isinstance b_tuple 0 8 (ek_s 1)) fun _ => ew_and1 (et_not (et_isi b_isinstance b_tuple 0 8 (ek_s 0))))) (fun h => wb_one (ws_ret (we_of ev_bl ⟨_, [], rfl, rfl, post _ ⟨fun z => (by cases z), fun e => ?_⟩⟩))) (fun h => wb_nil ⟨rfl, h⟩)) ?_
  · rw [e] at h; simp at h
  rintro Γ ⟨rfl, h7⟩
  obtain ⟨vs, ds, q1, q2, q3, q4, q5, q6, q7, q8, q9⟩ := same_seq h1 h2 h3 h4 h5 h6 h7 hp
  cases j with
  | zero => exact absurd hp q9
  | succ i =>
  obtain ⟨hz, hpl⟩ := q8 i hp
  refine wb_cut (fun Γ => Γ = [.w v, .w d, .no, .no, .no] ∧ vs.length = ds.length) (ws_ifE (et_ne (ev_len b_len 9 (ek_s 0) q2 fun z e => absurd e (q4 z)) (ev_len b_len 9 (ek_s 1) q3 fun z e => absurd e (q5 z))) (fun h => wb_one (ws_ret (we_of ev_bl ⟨_, [], rfl, rfl, post _ ⟨fun z => (by cases z), fun e => ?_⟩⟩))) (fun h => wb_nil ⟨rfl, ?_⟩)) ?_
  · rw [q1.mp e] at h; simp at h
  · simp at h; omega
  rintro Γ ⟨rfl, hl⟩
  refine wb_cut (fun Γ => (∃ s, Γ = [.w v, .w d, .no, s, .no]) ∧ vs = ds) (ws_forR1 3 (fun i Γ => (∃ s, Γ = [.w v, .w d, .no, s, .no]) ∧ vs.take i = ds.take i) ds.length b_range 10 (we_of (ev_len b_len 9 (ek_s 1) q3 fun z e => absurd e (q5 z)) ⟨_, rfl, by simp, by omega, by omega, ⟨_, rfl⟩, rfl⟩) ?_ ?_) ?_
  · rintro k Γ hk ⟨⟨s, rfl⟩, ht⟩
    have e1 := atB (xs := vs) (i := k) (by omega)
    have e2 := atB hk
    refine wb_one (ws_if (wt_not (wt_val (we_call2v (c_rec i rfl) 7 (we_of (ev_ix (ek_s 0) (ev_var 3) (q6 k _ e1)) (we_of (ev_ix (ek_s 1) (ev_var 3) (q7 k _ e2)) ⟨_, _, rfl, hpl _ (List.getElem_mem hk), fun b hb => ⟨.bl b, rfl, b, rfl, fun z => ?_, fun z => ?_⟩⟩))))))
    · refine wb_one (ws_ret (we_of ev_bl ⟨_, [], rfl, rfl, post _ ⟨fun z => (by cases z), fun e => ?_⟩⟩))
      have e' := q1.mp e
      subst e'
      rw [hb.mpr rfl] at z; cases z
    · refine wb_nil ⟨⟨_, rfl⟩, take_succ ht ?_⟩
      rw [e1, e2, hb.mp (by simpa using z)]
  · rintro Γ ⟨hs, ht⟩
    refine ⟨hs, ?_⟩
    have h8 : vs.take vs.length = ds.take ds.length := by rw [hl]; exact ht
    simpa using h8
  rintro Γ ⟨⟨s, rfl⟩, e⟩
  exact wb_one (ws_ret (we_of ev_bl ⟨_, [], rfl, rfl, post _ ⟨fun _ => q1.mpr e, fun _ => rfl⟩⟩))


/-! _law_shown -/
abbrev s_l_shown : Stmt := top 58
abbrev n_l_shown : Nm := { N := ["_law_course", "_law_t", "_law_found", "_law_piece"], V := [0, 1, 2, 3], as := [0, 1, 2, 3], GN := ["_law_below", "_law_plus", "_law_times", "_law_minus"], k := 2, oi := [], lc := [0, 1, 2, 3], sc := none }
theorem sc_l_shown : FnScope n_l_shown.N ["_law_course", "_law_t"] (defScope s_l_shown) := ⟨rfl, rfl, rfl, by decide +kernel, rfl, by decide +kernel, by decide +kernel⟩
theorem sb_l_shown : ScOk (defScope s_l_shown) n_l_shown := scOk_of (by decide +kernel)
abbrev S_l_shown : Sg := ST_shownl
theorem bd_l_shown {X : Cx} {c : Cc} (c_l_below : CalF X n_l_shown.k "_law_below" S_l_below) (c_l_plus : CalF X n_l_shown.k "_law_plus" S_l_plus) (c_l_times : CalF X n_l_shown.k "_law_times" S_l_times) (c_l_minus : CalF X n_l_shown.k "_law_minus" S_l_minus) : ∀ ps Post, S_l_shown ps Post → WB X n_l_shown c (entry n_l_shown.N ps) (defBody s_l_shown) (fnD n_l_shown.oi Post) := by
  rintro ps Post ⟨cs, x, s, t, r, w, rfl, hc, hx, hz, hl, post⟩
  show WB X n_l_shown c [.w (cD cs), .d (qD x), .no, .no] _ _
  refine wb_cons (ws_set 2 (we_of ev_non ?_))
  refine wb_cut (fun Γ => ∃ u, Γ = [.w (cD cs), .d (qD x), .d (oD (nowQ cs x)), u]) (ws_forW 0 3 (fun i Γ => ∃ u, Γ = [.w (cD cs), .d (qD x), .d (oD (nowQ (cs.take i) x)), u]) (cs.map pD) rfl ⟨.no, rfl⟩ ?_ ?_) ?_
  · rintro i Γ d hd ⟨u, rfl⟩
    rw [List.getElem?_map] at hd
    obtain ⟨p, hp, rfl⟩ := Option.map_eq_some_iff.mp hd
    have sp := hc.at hp
    show WB X n_l_shown c [.w (cD cs), .d (qD x), .d (oD (nowQ (cs.take i) x)), .d (pD p)] _ _
    refine wb_one (ws_ifE (et_not (et_val (ev_call2 c_l_below 0 (ek_v (ev_var 1)) (ek_v (ev_ixt (ev_var 3) ev_int)) fun _ z => ⟨x, p.1, _, _, rfl, hx, sp.1, by omega, z⟩))) (fun h => ?_) (fun h => wb_nil ⟨.d (pD p), ?_⟩))
    · refine wb_one (ws_set 2 (we_of (ev_call2 c_l_plus 1 (ek_v (ev_ixt (ev_var 3) ev_int)) (ek_v (ev_call2 c_l_times 2 (ek_v (ev_ixt (ev_var 3) ev_int)) (ek_v (ev_call2 c_l_minus 3 (ek_v (ev_var 1)) (ek_v (ev_ixt (ev_var 3) ev_int)) fun _ z => ⟨x, p.1, _, _, rfl, hx, sp.1, by omega, z⟩)) fun _ z => ⟨p.2.2, x - p.1, _, _, rfl, sp.2.2, hx.sub sp.1, by omega, z⟩)) fun _ z => ⟨p.2.1, p.2.2 * (x - p.1), _, _, rfl, sp.2.1, sp.2.2.mul (hx.sub sp.1), by omega, z⟩) ⟨.d (pD p), ?_⟩))
      rw [now_step hp, if_pos (show past x p = true from h)]
      rfl
    · rw [now_step hp, if_neg (by rw [show past x p = false from h]; simp)]
  · rintro Γ ⟨u, rfl⟩
    refine ⟨u, ?_⟩
    rw [List.length_map, List.take_length]
  rintro Γ ⟨u, rfl⟩
  exact wb_one (ws_ret (we_of (ev_var 2) ⟨_, [], rfl, rfl, post⟩))


/-! Steering.aim -/
abbrev s_Steering_aim : Stmt := methOf (top 40) 2
abbrev n_Steering_aim : Nm := { N := ["self"], V := [0], as := [0], GN := [], k := 0, oi := [], lc := [0], sc := none }
theorem sc_Steering_aim : FnScope n_Steering_aim.N ["self"] (defScope s_Steering_aim) := ⟨rfl, rfl, rfl, by decide +kernel, rfl, by decide +kernel, by decide +kernel⟩
theorem sb_Steering_aim : ScOk (defScope s_Steering_aim) n_Steering_aim := scOk_of (by decide +kernel)
abbrev S_Steering_aim : Sg := ST_aim
theorem bd_Steering_aim {X : Cx} {c : Cc}  : ∀ ps Post, S_Steering_aim ps Post → WB X n_Steering_aim c (entry n_Steering_aim.N ps) (defBody s_Steering_aim) (fnD n_Steering_aim.oi Post) := by
  rintro ps Post ⟨s, rfl, post⟩
  show WB X n_Steering_aim c [.w s.D] _ _
  exact wb_one (ws_ret (we_of (ev_atr (ek_s 0) rfl rfl) ⟨_, [], rfl, rfl, post⟩))


/-! common_factor -/
abbrev s_p_common_factor : Stmt := top 8
abbrev n_p_common_factor : Nm := { N := ["a", "b"], V := [0, 1], as := [0, 1], GN := [], k := 0, oi := [], lc := [0, 1], sc := none }
theorem sc_p_common_factor : FnScope n_p_common_factor.N ["a", "b"] (defScope s_p_common_factor) := ⟨rfl, rfl, rfl, by decide +kernel, rfl, by decide +kernel, by decide +kernel⟩
theorem sb_p_common_factor : ScOk (defScope s_p_common_factor) n_p_common_factor := scOk_of (by decide +kernel)
def S_p_common_factor : Sg := fun ps Post => ∃ a b : Int, ps = [.d (.int a), .d (.int b)] ∧ Post (.d (.int (Int.gcd a b : Nat))) []
theorem bd_p_common_factor {X : Cx} {c : Cc}  : ∀ ps Post, S_p_common_factor ps Post → WB X n_p_common_factor c (entry n_p_common_factor.N ps) (defBody s_p_common_factor) (fnD n_p_common_factor.oi Post) := by
  rintro ps Post ⟨a, b, rfl, post⟩
  show WB X n_p_common_factor c [.d (.int a), .d (.int b)] _ _
  refine wb_cut (fun Γ => Γ = [.d (.int (a.natAbs : Int)), .d (.int b)]) (ws_ifE (et_lt (ev_var 0) ev_int) (fun h => wb_one (ws_set 0 (we_of (ev_neg (ev_var 0)) ?_))) (fun h => wb_nil ?_)) ?_
  · have := of_decide_eq_true h
    show [_, _] = _
    rw [show ((a.natAbs : Nat) : Int) = -a by omega]
  · have := of_decide_eq_false h
    show [_, _] = _
    rw [show ((a.natAbs : Nat) : Int) = a by omega]
  rintro Γ rfl
  refine wb_cut (fun Γ => Γ = [.d (.int (a.natAbs : Int)), .d (.int (b.natAbs : Int))]) (ws_ifE (et_lt (ev_var 1) ev_int) (fun h => wb_one (ws_set 1 (we_of (ev_neg (ev_var 1)) ?_))) (fun h => wb_nil ?_)) ?_
  · have := of_decide_eq_true h
    show [_, _] = _
    rw [show ((b.natAbs : Nat) : Int) = -b by omega]
  · have := of_decide_eq_false h
    show [_, _] = _
    rw [show ((b.natAbs : Nat) : Int) = b by omega]
  rintro Γ rfl
  refine wb_cut (fun Γ => Γ = [.d (.int (Int.gcd a b : Nat)), .d (.int 0)]) (ws_while (fun m Γ => ∃ u v : Nat, m = v ∧ Γ = [.d (.int (u : Int)), .d (.int (v : Int))] ∧ Nat.gcd u v = Int.gcd a b) b.natAbs ⟨_, _, rfl, rfl, rfl⟩ ?_) ?_
  · rintro v Γ ⟨u, _, rfl, rfl, hg⟩
    refine wt_of (et_ne (ev_var 1) ev_int) ⟨fun h => ?_, fun h => ?_⟩
    · have hv : (v : Int) ≠ 0 := by simpa using h
      refine wb_one (ws_par 0 1 (wa_of (ea_cons (ek_d (ev_var 1)) (ea_cons (ek_d (ev_mod (ev_var 0) (ev_var 1) hv)) ea_nil)) ⟨_, _, rfl, ?_⟩))
      refine ⟨u % v, Nat.mod_lt _ (by omega), v, u % v, rfl, ?_, ?_⟩
      · show [_, _] = _
        rw [Int.fmod_eq_emod_of_nonneg _ (by omega)]; rfl
      · rw [← hg, Nat.gcd_comm v, ← Nat.gcd_rec, Nat.gcd_comm]
    · have hv : v = 0 := by simpa using h
      subst hv
      show _ = _
      rw [← hg]; simp
  rintro Γ rfl
  exact wb_one (ws_ret (we_of (ev_var 0) ⟨_, _, rfl, rfl, post⟩))


/-! add -/
abbrev s_p_add : Stmt := top 9
abbrev n_p_add : Nm := { N := ["a", "b", "an", "ad", "bn", "bd", "shared", "left", "top", "factor"], V := [0, 1, 2, 3, 4, 5, 6, 7, 8, 9], as := [0, 1, 2, 3, 4, 5, 6, 7, 8, 9], GN := ["common_factor"], k := 1, oi := [], lc := [0, 1, 2, 3, 4, 5, 6, 7, 8, 9], sc := none }
theorem sc_p_add : FnScope n_p_add.N ["a", "b"] (defScope s_p_add) := ⟨rfl, rfl, rfl, by decide +kernel, rfl, by decide +kernel, by decide +kernel⟩
theorem sb_p_add : ScOk (defScope s_p_add) n_p_add := scOk_of (by decide +kernel)
def S_p_add : Sg := fun ps Post => ∃ (a b : Rat) (j k : Nat), ps = [.d (qD a), .d (qD b)] ∧ Sz j a ∧ Sz k b ∧ j + k ≤ 8000 ∧ Post (.d (qD (a + b))) []
theorem bd_p_add {X : Cx} {c : Cc} (c_p_common_factor : CalF X n_p_add.k "common_factor" S_p_common_factor) : ∀ ps Post, S_p_add ps Post → WB X n_p_add c (entry n_p_add.N ps) (defBody s_p_add) (fnD n_p_add.oi Post) := by
  rintro ps Post ⟨a, b, j, k, rfl, ha, hb, hjk, post⟩
  show WB X n_p_add c [.d (qD a), .d (qD b), .no, .no, .no, .no, .no, .no, .no, .no] _ _
  have a0 : (a.den : Int) ≠ 0 := by have := den_pos' a; omega
  have b0 : (b.den : Int) ≠ 0 := by have := den_pos' b; omega
  refine wb_cons (ws_unp2 2 3 (we_of (ev_var 0) ⟨_, _, rfl, ?_⟩))
  refine wb_cons (ws_unp2 4 5 (we_of (ev_var 1) ⟨_, _, rfl, ?_⟩))
  refine wb_cut (fun Γ => Γ = [.d (qD a), .d (qD b), .d (.int a.num), .d (.int a.den), .d (.int b.num), .d (.int b.den), .no, .no, .no, .no]) (ws_ifE (EW.t (ew_and (et_eq (ev_var 3) ev_int) fun _ => ew_and1 (et_eq (ev_var 5) ev_int))) (fun h => wb_one (ws_ret (we_of (ev_tup (ea_cons (ek_d (ev_add (ev_var 2) (ev_var 4))) (ea_cons (ek_d ev_int) ea_nil))) ⟨_, _, rfl, rfl, ?_⟩))) (fun h => wb_nil rfl)) ?_
  · have ⟨h1, h2⟩ : (a.den : Int) = 1 ∧ (b.den : Int) = 1 := by simpa using h
    have d1 : a.den = 1 := by omega
    have d2 : b.den = 1 := by omega
    obtain ⟨e1, e2⟩ := add_parts1 a b (by rw [d1, d2]; rfl)
    have e : (D.tup [.int (a.num + b.num), .int 1]) = qD (a + b) := by rw [qD, e1, e2, d1, d2]; simp
    rw [e]; exact post
  rintro Γ rfl
  refine wb_cons (ws_set 6 (we_of (ev_call2 c_p_common_factor 0 (ek_d (ev_var 3)) (ek_d (ev_var 5)) (fun _ p => ⟨_, _, rfl, p⟩)) ?_))
  have hg : Int.gcd (a.den : Int) (b.den : Int) = Nat.gcd a.den b.den := rfl
  rw [hg]
  have g0 : Nat.gcd a.den b.den ≠ 0 := Nat.gcd_ne_zero_left a.den_nz
  have gle : Nat.gcd a.den b.den ≤ a.den := Nat.gcd_le_left _ a.den_pos
  refine wb_cut (fun Γ => Γ = [.d (qD a), .d (qD b), .d (.int a.num), .d (.int a.den), .d (.int b.num), .d (.int b.den), .d (.int (Nat.gcd a.den b.den : Nat)), .no, .no, .no] ∧ Nat.gcd a.den b.den ≠ 1) (ws_ifE (et_eq (ev_var 6) ev_int) (fun h => wb_one (ws_ret (we_of (ev_tup (ea_cons (ek_d (ev_add (ev_mul (ev_var 2) (ev_var 5) (ha.n.cm hb.d (by omega))) (ev_mul (ev_var 4) (ev_var 3) (hb.n.cm ha.d (by omega))))) (ea_cons (ek_d (ev_mul (ev_var 3) (ev_var 5) (ha.d.cm hb.d (by omega)))) ea_nil))) ⟨_, _, rfl, rfl, ?_⟩))) (fun h => wb_nil ⟨rfl, ?_⟩)) ?_
  · have h1 : Nat.gcd a.den b.den = 1 := by have : ((Nat.gcd a.den b.den : Nat) : Int) = 1 := by simpa using h
                                            omega
    obtain ⟨e1, e2⟩ := add_parts1 a b h1
    have e : (D.tup [.int (a.num * (b.den : Int) + b.num * (a.den : Int)), .int ((a.den : Int) * (b.den : Int))]) = qD (a + b) := by rw [qD, e1, e2]; simp
    rw [e]; exact post
  · intro h1; rw [h1] at h; simp at h
  rintro Γ ⟨rfl, h1⟩
  have gg : Bt j ((Nat.gcd a.den b.den : Nat) : Int) := ha.d.nat gle
  have gz : ((Nat.gcd a.den b.den : Nat) : Int) ≠ 0 := by omega
  refine wb_cons (ws_set 7 (we_of (ev_fdiv (ev_var 3) (ev_var 6) (gg.cd gz (by omega))) ?_))
  rw [fdiv_ediv g0]
  have bb : Bt k ((b.den : Int) / ((Nat.gcd a.den b.den : Nat) : Int)) := by rw [← Int.natCast_ediv]; exact hb.d.nat (Nat.div_le_self _ _)
  have ab : Bt j ((a.den : Int) / ((Nat.gcd a.den b.den : Nat) : Int)) := by rw [← Int.natCast_ediv]; exact ha.d.nat (Nat.div_le_self _ _)
  have tb : Bt (8 * (j + k) + 1) (a.num * ((b.den : Int) / ((Nat.gcd a.den b.den : Nat) : Int)) + b.num * ((a.den : Int) / ((Nat.gcd a.den b.den : Nat) : Int))) := ((ha.n.mul bb).mono (by omega)).add ((hb.n.mul ab).mono (by omega))
  refine wb_cons (ws_set 8 (we_of (ev_add (ev_mul (ev_var 2) (ev_fdiv (ev_var 5) (ev_var 6) (gg.cd gz (by omega))) (ha.n.cm (by rw [fdiv_ediv g0]; exact bb) (by omega))) (ev_mul (ev_var 4) (ev_var 7) (hb.n.cm ab (by omega)))) ?_))
  rw [fdiv_ediv g0]
  refine wb_cons (ws_set 9 (we_of (ev_call2 c_p_common_factor 0 (ek_d (ev_var 8)) (ek_d (ev_var 6)) (fun _ p => ⟨_, _, rfl, p⟩)) ?_))
  obtain ⟨e1, e2⟩ := add_parts a b h1
  rw [Int.natCast_ediv, Int.natCast_ediv] at e1 e2
  rw [gcd_int]
  generalize hf : Nat.gcd (a.num * ((b.den : Int) / ((Nat.gcd a.den b.den : Nat) : Int)) + b.num * ((a.den : Int) / ((Nat.gcd a.den b.den : Nat) : Int))).natAbs (Nat.gcd a.den b.den) = f at *
  have f0 : f ≠ 0 := by rw [← hf]; exact Nat.gcd_ne_zero_right g0
  have fg : f ∣ Nat.gcd a.den b.den := by rw [← hf]; exact Nat.gcd_dvd_right _ _
  have fle : f ≤ Nat.gcd a.den b.den := Nat.le_of_dvd (by omega) fg
  have fb : f ∣ b.den := Nat.dvd_trans fg (Nat.gcd_dvd_right _ _)
  have fB : Bt j (f : Int) := gg.nat fle
  have b1 : Bt k ((b.den : Int).fdiv (f : Int)) := by rw [fdiv_ediv f0, ← Int.natCast_ediv]; exact hb.d.nat (Nat.div_le_self _ _)
  refine wb_one (ws_ret (we_of (ev_tup (ea_cons (ek_d (ev_fdiv (ev_var 8) (ev_var 9) (fB.cd (by omega) (by omega)))) (ea_cons (ek_d (ev_mul (ev_var 7) (ev_fdiv (ev_var 5) (ev_var 9) (fB.cd (by omega) (by omega))) (ab.cm b1 (by omega)))) ea_nil))) ⟨_, _, rfl, rfl, ?_⟩))
  rw [fdiv_ediv f0, fdiv_ediv f0]
  rw [qD, e1, e2] at post
  have ed : ((a.den / Nat.gcd a.den b.den * b.den / f : Nat) : Int) = (a.den : Int) / ((Nat.gcd a.den b.den : Nat) : Int) * ((b.den : Int) / (f : Int)) := by
    rw [Nat.mul_div_assoc _ fb]; simp
  rw [ed] at post
  exact post


/-! negate -/
abbrev s_p_negate : Stmt := top 10
abbrev n_p_negate : Nm := { N := ["a"], V := [0], as := [0], GN := [], k := 0, oi := [], lc := [0], sc := none }
theorem sc_p_negate : FnScope n_p_negate.N ["a"] (defScope s_p_negate) := ⟨rfl, rfl, rfl, by decide +kernel, rfl, by decide +kernel, by decide +kernel⟩
theorem sb_p_negate : ScOk (defScope s_p_negate) n_p_negate := scOk_of (by decide +kernel)
def S_p_negate : Sg := fun ps Post => ∃ a : Rat, ps = [.d (qD a)] ∧ Post (.d (qD (-a))) []
theorem bd_p_negate {X : Cx} {c : Cc}  : ∀ ps Post, S_p_negate ps Post → WB X n_p_negate c (entry n_p_negate.N ps) (defBody s_p_negate) (fnD n_p_negate.oi Post) := by
  rintro ps Post ⟨a, rfl, post⟩
  show WB X n_p_negate c [.d (qD a)] _ _
  exact wb_one (ws_ret (we_of (ev_tup (ea_cons (ek_d (ev_neg (ev_ixt (ev_var 0) ev_int))) (ea_cons (ek_d (ev_ixt (ev_var 0) ev_int)) ea_nil))) ⟨_, _, rfl, rfl, post⟩))


/-! subtract -/
abbrev s_p_subtract : Stmt := top 11
abbrev n_p_subtract : Nm := { N := ["a", "b"], V := [0, 1], as := [0, 1], GN := ["add", "negate"], k := 2, oi := [], lc := [0, 1], sc := none }
theorem sc_p_subtract : FnScope n_p_subtract.N ["a", "b"] (defScope s_p_subtract) := ⟨rfl, rfl, rfl, by decide +kernel, rfl, by decide +kernel, by decide +kernel⟩
theorem sb_p_subtract : ScOk (defScope s_p_subtract) n_p_subtract := scOk_of (by decide +kernel)
def S_p_subtract : Sg := fun ps Post => ∃ (a b : Rat) (j k : Nat), ps = [.d (qD a), .d (qD b)] ∧ Sz j a ∧ Sz k b ∧ j + k ≤ 8000 ∧ Post (.d (qD (a - b))) []
theorem bd_p_subtract {X : Cx} {c : Cc} (c_p_add : CalF X n_p_subtract.k "add" S_p_add) (c_p_negate : CalF X n_p_subtract.k "negate" S_p_negate) : ∀ ps Post, S_p_subtract ps Post → WB X n_p_subtract c (entry n_p_subtract.N ps) (defBody s_p_subtract) (fnD n_p_subtract.oi Post) := by
  rintro ps Post ⟨a, b, j, k, rfl, ha, hb, hjk, post⟩
  show WB X n_p_subtract c [.d (qD a), .d (qD b)] _ _
  rw [Rat.sub_eq_add_neg] at post
  exact wb_one (ws_ret (we_of (ev_call2 c_p_add 0 (ek_d (ev_var 0)) (ek_d (ev_call1 c_p_negate 1 (ek_d (ev_var 1)) (fun _ p => ⟨_, rfl, p⟩))) (fun _ p => ⟨_, _, _, _, rfl, ha, hb.neg, hjk, p⟩)) ⟨_, _, rfl, rfl, post⟩))


/-! multiply -/
abbrev s_p_multiply : Stmt := top 12
abbrev n_p_multiply : Nm := { N := ["a", "b", "an", "ad", "bn", "bd", "one", "two"], V := [0, 1, 2, 3, 4, 5, 6, 7], as := [0, 1, 2, 3, 4, 5, 6, 7], GN := ["common_factor"], k := 1, oi := [], lc := [0, 1, 2, 3, 4, 5, 6, 7], sc := none }
theorem sc_p_multiply : FnScope n_p_multiply.N ["a", "b"] (defScope s_p_multiply) := ⟨rfl, rfl, rfl, by decide +kernel, rfl, by decide +kernel, by decide +kernel⟩
theorem sb_p_multiply : ScOk (defScope s_p_multiply) n_p_multiply := scOk_of (by decide +kernel)
def S_p_multiply : Sg := fun ps Post => ∃ (a b : Rat) (j k : Nat), ps = [.d (qD a), .d (qD b)] ∧ Sz j a ∧ Sz k b ∧ j + k ≤ 8000 ∧ Post (.d (qD (a * b))) []
theorem bd_p_multiply {X : Cx} {c : Cc} (c_p_common_factor : CalF X n_p_multiply.k "common_factor" S_p_common_factor) : ∀ ps Post, S_p_multiply ps Post → WB X n_p_multiply c (entry n_p_multiply.N ps) (defBody s_p_multiply) (fnD n_p_multiply.oi Post) := by
  rintro ps Post ⟨a, b, j, k, rfl, ha, hb, hjk, post⟩
  show WB X n_p_multiply c [.d (qD a), .d (qD b), .no, .no, .no, .no, .no, .no] _ _
  obtain ⟨e1, e2⟩ := mul_parts a b
  refine wb_cons (ws_unp2 2 3 (we_of (ev_var 0) ⟨_, _, rfl, ?_⟩))
  refine wb_cons (ws_unp2 4 5 (we_of (ev_var 1) ⟨_, _, rfl, ?_⟩))
  refine wb_cut (fun Γ => Γ = [.d (qD a), .d (qD b), .d (.int a.num), .d (.int a.den), .d (.int b.num), .d (.int b.den), .no, .no]) (ws_ifE (EW.t (ew_and (et_eq (ev_var 3) ev_int) fun _ => ew_and1 (et_eq (ev_var 5) ev_int))) (fun h => wb_one (ws_ret (we_of (ev_tup (ea_cons (ek_d (ev_mul (ev_var 2) (ev_var 4) (ha.n.cm hb.n (by omega)))) (ea_cons (ek_d ev_int) ea_nil))) ⟨_, _, rfl, rfl, ?_⟩))) (fun h => wb_nil rfl)) ?_
  · have ⟨h1, h2⟩ : (a.den : Int) = 1 ∧ (b.den : Int) = 1 := by simpa using h
    have d1 : a.den = 1 := by omega
    have d2 : b.den = 1 := by omega
    have e : (D.tup [.int (a.num * b.num), .int 1]) = qD (a * b) := by rw [qD, e1, e2, d1, d2]; simp
    rw [e]; exact post
  rintro Γ rfl
  have x0 : Nat.gcd a.num.natAbs b.den ≠ 0 := Nat.gcd_ne_zero_right b.den_nz
  have y0 : Nat.gcd b.num.natAbs a.den ≠ 0 := Nat.gcd_ne_zero_right a.den_nz
  have x1 : Bt k ((Nat.gcd a.num.natAbs b.den : Nat) : Int) := hb.d.nat (Nat.gcd_le_right _ b.den_pos)
  have y1 : Bt j ((Nat.gcd b.num.natAbs a.den : Nat) : Int) := ha.d.nat (Nat.gcd_le_right _ a.den_pos)
  refine wb_cons (ws_set 6 (we_of (ev_call2 c_p_common_factor 0 (ek_d (ev_var 2)) (ek_d (ev_var 5)) (fun _ p => ⟨_, _, rfl, p⟩)) ?_))
  rw [gcd_int]
  refine wb_cons (ws_set 7 (we_of (ev_call2 c_p_common_factor 0 (ek_d (ev_var 4)) (ek_d (ev_var 3)) (fun _ p => ⟨_, _, rfl, p⟩)) ?_))
  rw [gcd_int]
  have le : ∀ (i : Int) (m : Nat), (i / (m : Int)).natAbs ≤ i.natAbs := fun i m => Int.natAbs_ediv_le_natAbs i m
  refine wb_one (ws_ret (we_of (ev_tup (ea_cons (ek_d (ev_mul (ev_fdiv (ev_var 2) (ev_var 6) (x1.cd (by omega) (by omega))) (ev_fdiv (ev_var 4) (ev_var 7) (y1.cd (by omega) (by omega))) (by
    rw [fdiv_ediv x0, fdiv_ediv y0]; exact (ha.n.le (le _ _)).cm (hb.n.le (le _ _)) (by omega)))) (ea_cons (ek_d (ev_mul (ev_fdiv (ev_var 3) (ev_var 7) (y1.cd (by omega) (by omega))) (ev_fdiv (ev_var 5) (ev_var 6) (x1.cd (by omega) (by omega))) (by
    rw [fdiv_ediv x0, fdiv_ediv y0]; exact (ha.d.le (le _ _)).cm (hb.d.le (le _ _)) (by omega)))) ea_nil))) ⟨_, _, rfl, rfl, ?_⟩))
  rw [fdiv_ediv x0, fdiv_ediv y0, fdiv_ediv x0, fdiv_ediv y0]
  rw [qD, e1, e2] at post
  have ed : ((a.den / Nat.gcd b.num.natAbs a.den * (b.den / Nat.gcd a.num.natAbs b.den) : Nat) : Int) = (a.den : Int) / ((Nat.gcd b.num.natAbs a.den : Nat) : Int) * ((b.den : Int) / ((Nat.gcd a.num.natAbs b.den : Nat) : Int)) := by simp
  rw [ed] at post
  exact post


/-! line_at -/
abbrev s_p_line_at : Stmt := top 26
abbrev n_p_line_at : Nm := { N := ["piece", "t"], V := [0, 1], as := [0, 1], GN := ["add", "multiply", "subtract"], k := 3, oi := [], lc := [0, 1], sc := none }
theorem sc_p_line_at : FnScope n_p_line_at.N ["piece", "t"] (defScope s_p_line_at) := ⟨rfl, rfl, rfl, by decide +kernel, rfl, by decide +kernel, by decide +kernel⟩
theorem sb_p_line_at : ScOk (defScope s_p_line_at) n_p_line_at := scOk_of (by decide +kernel)
abbrev S_p_line_at : Sg := ST_line
theorem bd_p_line_at {X : Cx} {c : Cc} (c_p_add : CalF X n_p_line_at.k "add" S_p_add) (c_p_multiply : CalF X n_p_line_at.k "multiply" S_p_multiply) (c_p_subtract : CalF X n_p_line_at.k "subtract" S_p_subtract) : ∀ ps Post, S_p_line_at ps Post → WB X n_p_line_at c (entry n_p_line_at.N ps) (defBody s_p_line_at) (fnD n_p_line_at.oi Post) := by
  rintro ps Post ⟨p, t, s, u, v, w, rfl, ⟨h1, h2, h3⟩, h4, hz, post⟩
  show WB X n_p_line_at c [.d (pD p), .d (qD t)] _ _
  refine wb_one (ws_ret (we_of (ev_call2 c_p_add 0 (ek_d (ev_ixt (ev_var 0) ev_int)) (ek_d (ev_call2 c_p_multiply 1 (ek_d (ev_ixt (ev_var 0) ev_int)) (ek_d (ev_call2 c_p_subtract 2 (ek_d (ev_var 1)) (ek_d (ev_ixt (ev_var 0) ev_int)) fun _ q => ⟨_, _, _, _, rfl, h4, h1, by omega, q⟩)) fun _ q => ⟨_, _, _, _, rfl, h3, h4.sub h1, by omega, q⟩)) fun _ q => ⟨_, _, _, _, rfl, h2, h3.mul (h4.sub h1), by omega, q⟩) ⟨_, [], rfl, rfl, post⟩))


/-! jump_at -/
abbrev s_p_jump_at : Stmt := top 28
abbrev n_p_jump_at : Nm := { N := ["course", "at", "piece"], V := [0, 1, 2], as := [0, 1, 2], GN := ["subtract", "line_at"], k := 4, oi := [], lc := [0, 1, 2], sc := none }
theorem sc_p_jump_at : FnScope n_p_jump_at.N ["course", "at"] (defScope s_p_jump_at) := ⟨rfl, rfl, rfl, by decide +kernel, rfl, by decide +kernel, by decide +kernel⟩
theorem sb_p_jump_at : ScOk (defScope s_p_jump_at) n_p_jump_at := scOk_of (by decide +kernel)
abbrev S_p_jump_at : Sg := ST_jump
theorem bd_p_jump_at {X : Cx} {c : Cc} (c_p_subtract : CalF X n_p_jump_at.k "subtract" S_p_subtract) (c_p_line_at : CalF X n_p_jump_at.k "line_at" S_p_line_at) : ∀ ps Post, S_p_jump_at ps Post → WB X n_p_jump_at c (entry n_p_jump_at.N ps) (defBody s_p_jump_at) (fnD n_p_jump_at.oi Post) := by
  rintro ps Post ⟨cs, i, p, q, s, t, r, rfl, hp, hq, ⟨hc, hz, hl⟩, post⟩
  show WB X n_p_jump_at c [.w (cD cs), .d (.int ((i : Int) + 1)), .no] _ _
  have sp := hc.at hp
  have sq := hc.at hq
  refine wb_cons (ws_set 2 (we_of (ev_ix (ek_s 0) (ev_var 1) (cD_at (i := i + 1) hq)) ?_))
  have e : (i : Int) + 1 - 1 = (i : Int) := by omega
  refine wb_one (ws_ret (we_of (ev_call2 c_p_subtract 0 (ek_d (ev_ixt (ev_var 2) ev_int)) (ek_d (ev_call2 c_p_line_at 1 (ek_d (ev_ix (ek_s 0) (ev_sub (ev_var 1) ev_int) (by rw [e]; exact cD_at hp))) (ek_d (ev_ixt (ev_var 2) ev_int)) fun _ z => ⟨_, _, _, _, _, _, rfl, sp, sq.1, by omega, z⟩)) fun _ z => ⟨_, _, _, _, rfl, sq.2.1, pline_sz sp sq.1, by omega, z⟩) ⟨_, [], rfl, rfl, post⟩))


/-! tidy -/
abbrev s_p_tidy : Stmt := top 31
abbrev n_p_tidy : Nm := { N := ["course", "rows", "at", "same_rate"], V := [0, 1, 2, 3], as := [0, 1, 2, 3], GN := ["range", "len", "compare", "jump_at", "ZERO_courses"], k := 5, oi := [], lc := [0, 1, 2, 3], sc := none }
theorem sc_p_tidy : FnScope n_p_tidy.N ["course"] (defScope s_p_tidy) := ⟨rfl, rfl, rfl, by decide +kernel, rfl, by decide +kernel, by decide +kernel⟩
theorem sb_p_tidy : ScOk (defScope s_p_tidy) n_p_tidy := scOk_of (by decide +kernel)
abbrev S_p_tidy : Sg := ST_course (fun c => .lst ((tidyQ c).map pD))
theorem bd_p_tidy {X : Cx} {c : Cc} (b_range : Blt X "range" (.type "range")) (b_len : Blt X "len" (.builtin "len")) (c_p_compare : CalF X n_p_tidy.k "compare" S_p_compare) (c_p_jump_at : CalF X n_p_tidy.k "jump_at" S_p_jump_at) (g_ZERO_courses : Con X "ZERO_courses" v_ZERO_courses) : ∀ ps Post, S_p_tidy ps Post → WB X n_p_tidy c (entry n_p_tidy.N ps) (defBody s_p_tidy) (fnD n_p_tidy.oi Post) := by
  rintro ps Post ⟨cs, s, t, r, rfl, hne, hw, post⟩
  have ⟨hc, hz, hl⟩ := hw
  show WB X n_p_tidy c [.w (cD cs), .no, .no, .no] _ _
  have h0 : 0 < cs.length := List.length_pos_iff.mpr hne
  have ez := atB h0
  refine wb_cons (ws_setO 1 (wo_of (eo_lst (ea_cons (ek_d (ev_ix (ek_s 0) ev_int (cD_at (i := 0) ez))) ea_nil)) ?_))
  have et : (cs.take 1).map pD = [pD cs[0]] := by
    cases cs with
    | nil => exact absurd rfl hne
    | cons a b => rfl
  refine wb_cut (fun Γ => ∃ u v, Γ = [.w (cD cs), .own (.lst ((tidyQ cs).map pD)), u, v]) (ws_forR2 2 (fun i Γ => ∃ u v, Γ = [.w (cD cs), .own (.lst ((cs.take 1 ++ ((prs cs).take i).filterMap tF).map pD)), u, v]) 1 cs.length b_range 0 ev_int (ev_is (ev_len (x := cD cs) (m := (cs.map pD).length) b_len 1 (ek_s 0)) (by rw [List.length_map])) ⟨by omega, by omega, by omega, by omega⟩ ⟨_, _, own2 ?_⟩ ?_ ?_) ?_
  · rw [List.map_append, et]; rfl
  · rintro i Γ hi ⟨u, v, rfl⟩
    have e1 := atB (xs := cs) (i := i) (by omega)
    have e2 := atB (xs := cs) (i := i + 1) (by omega)
    have ep := prs_at e1 e2
    generalize cs[i] = p at e1 ep
    generalize cs[i + 1] = q at e2 ep
    have e4 : (1 : Int) + (i : Int) = (i : Int) + 1 := by omega
    have e5 : (i : Int) + 1 - 1 = (i : Int) := by omega
    have hlen : (cs.take 1 ++ ((prs cs).take i).filterMap tF).length < 1000000 := by
      have := List.length_filterMap_le tF ((prs cs).take i)
      have := List.length_take_le i (prs cs)
      have := List.length_take_le 1 cs
      rw [List.length_append]; omega
    show WB X n_p_tidy c [.w (cD cs), .own (.lst ((cs.take 1 ++ ((prs cs).take i).filterMap tF).map pD)), .d (.int (1 + (i : Int))), v] _ _
    rw [e4]
    have sp := hc.at e1
    have sq := hc.at e2
    refine wb_cons (ws_set 3 (we_of (ev_is (ev_eq (ev_call2 c_p_compare 2 (ek_d (ev_ixt (ev_ix (ek_s 0) (ev_var 2) (cD_at (i := i + 1) e2)) ev_int (pD_2 _))) (ek_d (ev_ixt (ev_ix (ek_s 0) (ev_sub (ev_var 2) ev_int) (by rw [e5]; exact cD_at e1)) ev_int (pD_2 _))) fun _ z => ⟨_, _, _, _, rfl, sq.2.2, sp.2.2, by omega, z⟩) ev_int) (by rw [cmp_eq])) ?_))
    refine wb_one (ws_ifE (et_is (EW.t (ew_or (et_not (et_val (ev_var 3))) fun _ => ew_or1 (et_ne (ev_call2 c_p_compare 2 (ek_d (ev_call2 c_p_jump_at 3 (ek_s 0) (ek_d (ev_var 2)) fun _ z => ⟨cs, i, p, q, s, t, r, rfl, e1, e2, hw, z⟩)) (ek_d (ev_glob 4 g_ZERO_courses)) fun _ z => ⟨jmp p q, 0, _, 1, rfl, jmp_sz sp sq, ⟨by decide, by decide⟩, by omega, z⟩) ev_int))) (by rw [cmp_ne])) (fun h => ?_) (fun h => wb_nil ⟨_, _, own2 ?_⟩))
    · have hj : ¬ (q.2.2 = p.2.2 ∧ jmp p q = 0) := fun ⟨z1, z2⟩ => by simp [z1, z2] at h
      refine wb_one (ws_append 1 (we_of (ev_ix (ek_s 0) (ev_var 2) (cD_at (i := i + 1) e2)) ⟨_, rfl, by simpa using hlen, _, _, own2 ?_⟩))
      rw [fm_step ep]
      simp [tF, hj]
    · have hj : q.2.2 = p.2.2 ∧ jmp p q = 0 := by simpa using h
      rw [fm_step ep]
      simp [tF, hj]
  · rintro Γ ⟨u, v, rfl⟩
    refine ⟨u, v, ?_⟩
    have : ((cs.length : Int) - 1).toNat = (prs cs).length := by rw [prs_len]; omega
    rw [this, List.take_length]; rfl
  rintro Γ ⟨u, v, rfl⟩
  exact wb_one (ws_retS 1 ⟨.own _, [], .inl rfl, rfl, post⟩)


/-! Steering.course_of -/
abbrev s_Steering_course_of : Stmt := methOf (top 40) 5
abbrev n_Steering_course_of : Nm := { N := ["self"], V := [0], as := [0], GN := ["tidy"], k := 6, oi := [], lc := [0], sc := none }
theorem sc_Steering_course_of : FnScope n_Steering_course_of.N ["self"] (defScope s_Steering_course_of) := ⟨rfl, rfl, rfl, by decide +kernel, rfl, by decide +kernel, by decide +kernel⟩
theorem sb_Steering_course_of : ScOk (defScope s_Steering_course_of) n_Steering_course_of := scOk_of (by decide +kernel)
abbrev S_Steering_course_of : Sg := ST_courseof
theorem bd_Steering_course_of {X : Cx} {c : Cc} (c_p_tidy : CalF X n_Steering_course_of.k "tidy" S_p_tidy) : ∀ ps Post, S_Steering_course_of ps Post → WB X n_Steering_course_of c (entry n_Steering_course_of.N ps) (defBody s_Steering_course_of) (fnD n_Steering_course_of.oi Post) := by
  rintro ps Post ⟨s, rfl, hz, hne, post⟩
  show WB X n_Steering_course_of c [.w s.D] _ _
  exact wb_one (ws_retO (wo_callE c_p_tidy 0 (ea_cons (ek_v (ev_atr (x := cD s.ps) (ek_s 0) rfl rfl)) ea_nil) ⟨s.ps, 300, 300, 70, rfl, hne, ⟨hz.zp, by decide, by have := hz.np; omega⟩, _, rfl, .own _, [], .inl rfl, rfl, post⟩ (hnd := List.nodup_nil) (hrd := fun i hi => by cases hi)))


/-! require_started -/
abbrev s_p_require_started : Stmt := top 29
abbrev n_p_require_started : Nm := { N := ["course", "t"], V := [0, 1], as := [0, 1], GN := ["compare", "BeforeStart"], k := 2, oi := [], lc := [0, 1], sc := none }
theorem sc_p_require_started : FnScope n_p_require_started.N ["course", "t"] (defScope s_p_require_started) := ⟨rfl, rfl, rfl, by decide +kernel, rfl, by decide +kernel, by decide +kernel⟩
theorem sb_p_require_started : ScOk (defScope s_p_require_started) n_p_require_started := scOk_of (by decide +kernel)
abbrev S_p_require_started (C_BeforeStart : Addr) : SgX := ST_reqstart C_BeforeStart
theorem bd_p_require_started {X : Cx} {c : Cc} {C_BeforeStart : Addr} (k_BeforeStart : ClsAt X.K X.mg "BeforeStart" C_BeforeStart) (x_BeforeStart : ExcF X n_p_require_started.k "BeforeStart" C_BeforeStart (fsO1 "value") 1) (c_p_compare : CalF X n_p_require_started.k "compare" S_p_compare) : ∀ ps Post Xp, (S_p_require_started C_BeforeStart) ps Post Xp → (∀ C fs Γ, Xp C fs → c.xw C fs Γ) → WB X n_p_require_started c (entry n_p_require_started.N ps) (defBody s_p_require_started) (fnD [] fun r _ => Post r) := by
  rintro ps Post Xp ⟨cs, p, t, s, k, rfl, hp, hs, ht, hk, post, xp⟩ hX
  show WB X n_p_require_started c [.w (cD cs), .d (qD t)] _ _
  refine wb_one (ws_ifE (et_lt (ev_call2 c_p_compare 0 (ek_d (ev_var 1)) (ek_d (ev_ixt (ev_ix (ek_s 0) ev_int (cD_at (i := 0) hp)) ev_int (pD_0 p))) fun _ z => ⟨_, _, _, _, rfl, ht, hs, by omega, z⟩) ev_int) (fun h => ?_) (fun h => wb_nil ⟨[], rfl, post ?_⟩))
  · rw [cmp_lt] at h
    exact wb_one (ws_raise x_BeforeStart 1 (fsD1 "value") fs1_ok (by decide) (wa_of (ea_cons (ek_d (ev_var 1)) ea_nil) ⟨_, rfl, rfl, hX _ _ _ (xp (of_decide_eq_true h))⟩))
  · rw [cmp_lt] at h
    exact of_decide_eq_false h


/-! place_in_force -/
abbrev s_p_place_in_force : Stmt := top 27
abbrev n_p_place_in_force : Nm := { N := ["course", "t", "at"], V := [0, 1, 2], as := [0, 1, 2], GN := ["len", "compare"], k := 1, oi := [], lc := [0, 1, 2], sc := none }
theorem sc_p_place_in_force : FnScope n_p_place_in_force.N ["course", "t"] (defScope s_p_place_in_force) := ⟨rfl, rfl, rfl, by decide +kernel, rfl, by decide +kernel, by decide +kernel⟩
theorem sb_p_place_in_force : ScOk (defScope s_p_place_in_force) n_p_place_in_force := scOk_of (by decide +kernel)
abbrev S_p_place_in_force : Sg := ST_place
theorem bd_p_place_in_force {X : Cx} {c : Cc} (b_len : Blt X "len" (.builtin "len")) (c_p_compare : CalF X n_p_place_in_force.k "compare" S_p_compare) : ∀ ps Post, S_p_place_in_force ps Post → WB X n_p_place_in_force c (entry n_p_place_in_force.N ps) (defBody s_p_place_in_force) (fnD n_p_place_in_force.oi Post) := by
  rintro ps Post ⟨cs, t, s, k, rfl, hne, hs, ht, hk, hl, post⟩
  show WB X n_p_place_in_force c [.w (cD cs), .d (qD t), .no] _ _
  have hpos := List.length_pos_iff.mpr hne
  refine wb_cons (ws_set 2 (we_of ev_int ?_))
  refine wb_cut (fun Γ => Γ = [.w (cD cs), .d (qD t), .d (.int (placeN cs t : Nat))]) (ws_while (fun m Γ => ∃ i : Nat, m = cs.length - i ∧ Γ = [.w (cD cs), .d (qD t), .d (.int (i : Int))] ∧ i < cs.length ∧ ∀ j p, 0 < j → j ≤ i → cs[j]? = some p → p.1 ≤ t) cs.length ⟨0, rfl, rfl, hpos, fun j p h1 h2 => by omega⟩ ?_) ?_
  · rintro m Γ ⟨i, rfl, rfl, hi, hj⟩
    refine WW.t (ww_and (wt_of (et_lt (ev_add (ev_var 2) ev_int) (ev_len (x := cD cs) (m := (cs.map pD).length) b_len 0 (ek_s 0))) ⟨fun h => ?_, fun h => ?_⟩))
    · have h' := of_decide_eq_true h
      rw [List.length_map] at h'
      have e1 := atB (xs := cs) (i := i + 1) (by omega)
      generalize cs[i + 1] = q at e1
      have hq := hs q (List.mem_of_getElem? e1)
      refine ww_and1 (wt_of (et_le (ev_call2 c_p_compare 1 (ek_d (ev_ixt (ev_ix (ek_s 0) (ev_add (ev_var 2) ev_int) (cD_at (i := i + 1) e1)) ev_int (pD_0 q))) (ek_d (ev_var 1)) fun _ z => ⟨_, _, _, _, rfl, hq, ht, by omega, z⟩) ev_int) ⟨fun h2 => ?_, fun h2 => ?_⟩)
      · rw [cmp_le] at h2
        have h3 := of_decide_eq_true h2
        refine wb_one (ws_aug 2 ip_add (we_of ev_int ⟨_, rfl, cs.length - (i + 1), by omega, i + 1, rfl, rfl, by omega, fun j p z1 z2 z3 => ?_⟩))
        by_cases z : j = i + 1
        · subst z; rw [e1] at z3; cases z3; exact h3
        · exact hj j p z1 (by omega) z3
      · rw [cmp_le] at h2
        have h3 := of_decide_eq_false h2
        have e : placeN cs t = i := place_eq hj (by omega) fun p hp => by rw [e1] at hp; cases hp; grind
        show _ = _
        rw [e]
    · have h' := of_decide_eq_false h
      rw [List.length_map] at h'
      have e : placeN cs t = i := place_eq hj (by omega) fun p hp => by have := (List.getElem?_eq_some_iff.mp hp).1; omega
      refine ⟨fun z => (by cases z), fun _ => ?_⟩
      show _ = _
      rw [e]
  rintro Γ rfl
  exact wb_one (ws_ret (we_of (ev_var 2) ⟨_, [], rfl, rfl, post⟩))


/-! shown_at -/
abbrev s_p_shown_at : Stmt := top 30
abbrev n_p_shown_at : Nm := { N := ["course", "t"], V := [0, 1], as := [0, 1], GN := ["require_started", "line_at", "place_in_force"], k := 4, oi := [], lc := [0, 1], sc := none }
theorem sc_p_shown_at : FnScope n_p_shown_at.N ["course", "t"] (defScope s_p_shown_at) := ⟨rfl, rfl, rfl, by decide +kernel, rfl, by decide +kernel, by decide +kernel⟩
theorem sb_p_shown_at : ScOk (defScope s_p_shown_at) n_p_shown_at := scOk_of (by decide +kernel)
abbrev S_p_shown_at (C_BeforeStart : Addr) : SgX := ST_shownat C_BeforeStart
theorem bd_p_shown_at {X : Cx} {c : Cc} {C_BeforeStart : Addr} (k_BeforeStart : ClsAt X.K X.mg "BeforeStart" C_BeforeStart) (c_p_require_started : CalX X n_p_shown_at.k "require_started" (S_p_require_started C_BeforeStart)) (c_p_line_at : CalF X n_p_shown_at.k "line_at" S_p_line_at) (c_p_place_in_force : CalF X n_p_shown_at.k "place_in_force" S_p_place_in_force) : ∀ ps Post Xp, (S_p_shown_at C_BeforeStart) ps Post Xp → (∀ C fs Γ, Xp C fs → c.xw C fs Γ) → WB X n_p_shown_at c (entry n_p_shown_at.N ps) (defBody s_p_shown_at) (fnD [] fun r _ => Post r) := by
  rintro ps Post Xp ⟨cs, p, t, s, u, v, w, rfl, hp, hc, ht, hs, hl, post, xp⟩ hX
  show WB X n_p_shown_at c [.w (cD cs), .d (qD t)] _ _
  have hne : cs ≠ [] := fun z => by rw [z] at hp; cases hp
  refine wb_cut (fun Γ => Γ = [.w (cD cs), .d (qD t)] ∧ ¬ t < p.1) (ws_expr (we_callXE c_p_require_started 0 (ea_cons (ek_s 0) (ea_cons (ek_d (ev_var 1)) ea_nil)) ⟨cs, p, t, s, w, rfl, hp, (hc.at hp).1, ht, by omega, fun h => ⟨_, rfl, rfl, h⟩, fun h => hX _ _ _ (xp h)⟩)) ?_
  rintro Γ ⟨rfl, h⟩
  have e := atB (place_lt (t := t) hne)
  have po := post h
  unfold atQ at po
  rw [e] at po
  exact wb_one (ws_ret (we_of (ev_call2 c_p_line_at 1 (ek_d (ev_ix (ek_s 0) (ev_call2 c_p_place_in_force 2 (ek_s 0) (ek_d (ev_var 1)) fun _ z => ⟨cs, t, s, w, rfl, hne, fun p hp => (hc p hp).1, ht, by omega, hl, z⟩) (cD_at e))) (ek_d (ev_var 1)) fun _ z => ⟨_, t, s, u, v, w, rfl, hc.at e, ht, by omega, z⟩) ⟨_, [], rfl, rfl, po⟩))


/-! Steering.display -/
abbrev s_Steering_display : Stmt := methOf (top 40) 3
abbrev n_Steering_display : Nm := { N := ["self", "raw"], V := [0, 1], as := [0, 1], GN := ["shown_at"], k := 5, oi := [], lc := [0, 1], sc := none }
theorem sc_Steering_display : FnScope n_Steering_display.N ["self", "raw"] (defScope s_Steering_display) := ⟨rfl, rfl, rfl, by decide +kernel, rfl, by decide +kernel, by decide +kernel⟩
theorem sb_Steering_display : ScOk (defScope s_Steering_display) n_Steering_display := scOk_of (by decide +kernel)
abbrev S_Steering_display : Sg := ST_display
theorem bd_Steering_display {X : Cx} {c : Cc} {C_BeforeStart : Addr} (k_BeforeStart : ClsAt X.K X.mg "BeforeStart" C_BeforeStart) (c_p_shown_at : CalX X n_Steering_display.k "shown_at" (S_p_shown_at C_BeforeStart)) : ∀ ps Post, S_Steering_display ps Post → WB X n_Steering_display c (entry n_Steering_display.N ps) (defBody s_Steering_display) (fnD n_Steering_display.oi Post) := by
  rintro ps Post ⟨s, p, r, rfl, hz, hp, zr, h, post⟩
  show WB X n_Steering_display c [.w s.D, .d (qD r)] _ _
  exact wb_one (ws_ret (we_callXE c_p_shown_at 0 (ea_cons (ek_v (ev_atr (x := cD s.ps) (ek_s 0) rfl rfl)) (ea_cons (ek_d (ev_var 1)) ea_nil)) ⟨s.ps, p, r, 300, 300, 70, 300, rfl, hp, hz.zp, zr, by decide, by have := hz.np; omega, fun _ => ⟨_, rfl, _, [], rfl, rfl, post⟩, fun q => absurd q h⟩))


/-! larger -/
abbrev s_p_larger : Stmt := top 17
abbrev n_p_larger : Nm := { N := ["a", "b"], V := [0, 1], as := [0, 1], GN := ["compare"], k := 1, oi := [], lc := [0, 1], sc := none }
theorem sc_p_larger : FnScope n_p_larger.N ["a", "b"] (defScope s_p_larger) := ⟨rfl, rfl, rfl, by decide +kernel, rfl, by decide +kernel, by decide +kernel⟩
theorem sb_p_larger : ScOk (defScope s_p_larger) n_p_larger := scOk_of (by decide +kernel)
abbrev S_p_larger : Sg := ST_cmp2 maxQ
theorem bd_p_larger {X : Cx} {c : Cc} (c_p_compare : CalF X n_p_larger.k "compare" S_p_compare) : ∀ ps Post, S_p_larger ps Post → WB X n_p_larger c (entry n_p_larger.N ps) (defBody s_p_larger) (fnD n_p_larger.oi Post) := by
  rintro ps Post ⟨a, b, j, k, rfl, ha, hb, hjk, post⟩
  show WB X n_p_larger c [.d (qD a), .d (qD b)] _ _
  refine wb_one (ws_ret (we_if (wt_of (et_lt (ev_call2 c_p_compare 0 (ek_d (ev_var 0)) (ek_d (ev_var 1)) fun _ z => ⟨_, _, _, _, rfl, ha, hb, hjk, z⟩) ev_int) ⟨fun h => we_of (ev_var 1) ⟨_, [], rfl, rfl, ?_⟩, fun h => we_of (ev_var 0) ⟨_, [], rfl, rfl, ?_⟩⟩)))
  · rw [cmp_lt] at h
    unfold maxQ at post
    rwa [if_pos (of_decide_eq_true h)] at post
  · rw [cmp_lt] at h
    unfold maxQ at post
    rwa [if_neg (of_decide_eq_false h)] at post


/-! bound_behind -/
abbrev s_p_bound_behind : Stmt := top 37
abbrev n_p_bound_behind : Nm := { N := ["bound", "half", "length", "slew", "drift", "lowered"], V := [0, 1, 2, 3, 4, 5], as := [0, 1, 2, 3, 4, 5], GN := ["subtract", "multiply", "add", "larger"], k := 3, oi := [], lc := [0, 1, 2, 3, 4, 5], sc := none }
theorem sc_p_bound_behind : FnScope n_p_bound_behind.N ["bound", "half", "length", "slew", "drift"] (defScope s_p_bound_behind) := ⟨rfl, rfl, rfl, by decide +kernel, rfl, by decide +kernel, by decide +kernel⟩
theorem sb_p_bound_behind : ScOk (defScope s_p_bound_behind) n_p_bound_behind := scOk_of (by decide +kernel)
abbrev S_p_bound_behind : Sg := ST_behindG
theorem bd_p_bound_behind {X : Cx} {c : Cc} (c_p_subtract : CalF X n_p_bound_behind.k "subtract" S_p_subtract) (c_p_multiply : CalF X n_p_bound_behind.k "multiply" S_p_multiply) (c_p_add : CalF X n_p_bound_behind.k "add" S_p_add) (c_p_larger : CalF X n_p_bound_behind.k "larger" S_p_larger) : ∀ ps Post, S_p_bound_behind ps Post → WB X n_p_bound_behind c (entry n_p_bound_behind.N ps) (defBody s_p_bound_behind) (fnD n_p_bound_behind.oi Post) := by
  rintro ps Post ⟨b, h, l, s, d, kb, kh, kl, ks, kd, rfl, zb, zh, zl, zs, zd, hk, post⟩
  show WB X n_p_bound_behind c [.d (qD b), .d (qD h), .d (qD l), .d (qD s), .d (qD d), .no] _ _
  have z1 : Sz (kb + (ks + kl) + 1) (b - s * l) := zb.sub (zs.mul zl)
  refine wb_cons (ws_set 5 (we_of (ev_call2 c_p_subtract 0 (ek_d (ev_var 0)) (ek_d (ev_call2 c_p_multiply 1 (ek_d (ev_var 3)) (ek_d (ev_var 2)) fun _ z => ⟨s, l, ks, kl, rfl, zs, zl, by omega, z⟩)) fun _ z => ⟨b, s * l, kb, ks + kl, rfl, zb, zs.mul zl, by omega, z⟩) ?_))
  show WB X n_p_bound_behind c [.d (qD b), .d (qD h), .d (qD l), .d (qD s), .d (qD d), .d (qD (b - s * l))] _ _
  have z2 : Sz (kb + (ks + kl) + 1 + kh) (maxQ (b - s * l) h) := maxQ_sz (z1.mono (by omega)) (zh.mono (by omega))
  exact wb_one (ws_ret (we_of (ev_call2 c_p_add 2 (ek_d (ev_call2 c_p_multiply 1 (ek_d (ev_var 4)) (ek_d (ev_var 2)) fun _ z => ⟨d, l, kd, kl, rfl, zd, zl, by omega, z⟩)) (ek_d (ev_call2 c_p_larger 3 (ek_d (ev_var 5)) (ek_d (ev_var 1)) fun _ z => ⟨b - s * l, h, _, kh, rfl, z1, zh, by omega, z⟩)) fun _ z => ⟨d * l, maxQ (b - s * l) h, kd + kl, _, rfl, zd.mul zl, z2, by omega, z⟩) ⟨_, [], rfl, rfl, post⟩))


/-! Steering.error_at -/
abbrev s_Steering_error_at : Stmt := methOf (top 40) 4
abbrev n_Steering_error_at : Nm := { N := ["self", "raw", "length"], V := [0, 1, 2], as := [0, 1, 2], GN := ["compare", "TurnsBack", "subtract", "bound_behind"], k := 4, oi := [], lc := [0, 1, 2], sc := none }
theorem sc_Steering_error_at : FnScope n_Steering_error_at.N ["self", "raw"] (defScope s_Steering_error_at) := ⟨rfl, rfl, rfl, by decide +kernel, rfl, by decide +kernel, by decide +kernel⟩
theorem sb_Steering_error_at : ScOk (defScope s_Steering_error_at) n_Steering_error_at := scOk_of (by decide +kernel)
abbrev S_Steering_error_at : Sg := ST_errat
theorem bd_Steering_error_at {X : Cx} {c : Cc} (c_p_compare : CalF X n_Steering_error_at.k "compare" S_p_compare) (c_p_subtract : CalF X n_Steering_error_at.k "subtract" S_p_subtract) (c_p_bound_behind : CalF X n_Steering_error_at.k "bound_behind" S_p_bound_behind) : ∀ ps Post, S_Steering_error_at ps Post → WB X n_Steering_error_at c (entry n_Steering_error_at.N ps) (defBody s_Steering_error_at) (fnD n_Steering_error_at.oi Post) := by
  rintro ps Post ⟨s, r, rfl, hz, zr, h, post⟩
  show WB X n_Steering_error_at c [.w s.D, .d (qD r), .no] _ _
  refine wb_cut (fun Γ => Γ = [.w s.D, .d (qD r), .no]) (ws_ifE (et_is (et_lt (ev_call2 c_p_compare 0 (ek_d (ev_var 1)) (ek_d (ev_atr (ek_s 0) rfl rfl)) fun _ z => ⟨r, s.at_, 300, 300, rfl, zr, hz.za, by decide, z⟩) ev_int) cmp_lt) (fun q => absurd (of_decide_eq_true q) h) (fun q => wb_nil rfl)) ?_
  rintro Γ rfl
  refine wb_cons (ws_set 2 (we_of (ev_call2 c_p_subtract 2 (ek_d (ev_var 1)) (ek_d (ev_atr (ek_s 0) rfl rfl)) fun _ z => ⟨r, s.at_, 300, 300, rfl, zr, hz.za, by decide, z⟩) ?_))
  show WB X n_Steering_error_at c [.w s.D, .d (qD r), .d (qD (r - s.at_))] _ _
  exact wb_one (ws_ret (we_of (ev_call5 c_p_bound_behind 3 (ek_d (ev_atr (ek_s 0) rfl rfl)) (ek_d (ev_atr (ek_s 0) rfl rfl)) (ek_d (ev_var 2)) (ek_d (ev_atr (ek_s 0) rfl rfl)) (ek_d (ev_atr (ek_s 0) rfl rfl)) fun _ z => ⟨s.bound, s.half, r - s.at_, s.slew, s.drift, 700, 700, _, 60, 60, rfl, hz.zb, hz.zh, zr.sub hz.za, hz.zs, hz.zd, by decide, z⟩) ⟨_, [], rfl, rfl, post⟩))


/-! _law_answers_ok -/
abbrev s_l_answers_ok : Stmt := top 69
abbrev n_l_answers_ok : Nm := { N := ["_law_args", "_law_steering", "_law_state", "_law_aim", "_law_course", "_law_probes", "_law_t"], V := [0, 1, 2, 3, 4, 5, 6], as := [0, 1, 2, 3, 4, 5, 6], GN := ["_law_same", "_law_shown", "_law_below", "_law_bound"], k := 7, oi := [], lc := [0, 1, 2, 3, 4, 5, 6], sc := none }
theorem sc_l_answers_ok : FnScope n_l_answers_ok.N ["_law_args", "_law_steering", "_law_state", "_law_aim", "_law_course", "_law_probes"] (defScope s_l_answers_ok) := ⟨rfl, rfl, rfl, by decide +kernel, rfl, by decide +kernel, by decide +kernel⟩
theorem sb_l_answers_ok : ScOk (defScope s_l_answers_ok) n_l_answers_ok := scOk_of (by decide +kernel)
abbrev S_l_answers_ok : Sg := ST_answers
theorem bd_l_answers_ok {X : Cx} {c : Cc} (c_l_same : CalF X n_l_answers_ok.k "_law_same" S_l_same) (c_l_shown : CalF X n_l_answers_ok.k "_law_shown" S_l_shown) (c_l_below : CalF X n_l_answers_ok.k "_law_below" S_l_below) (c_l_bound : CalF X n_l_answers_ok.k "_law_bound" S_l_bound) (m_Steering_aim : CalP X n_l_answers_ok.k "Steering" "aim" S_Steering_aim) (m_Steering_course_of : CalM X n_l_answers_ok.k "Steering" "course_of" S_Steering_course_of) (m_Steering_display : CalM X n_l_answers_ok.k "Steering" "display" S_Steering_display) (m_Steering_error_at : CalM X n_l_answers_ok.k "Steering" "error_at" S_Steering_error_at) : ∀ ps Post, S_l_answers_ok ps Post → WB X n_l_answers_ok c (entry n_l_answers_ok.N ps) (defBody s_l_answers_ok) (fnD n_l_answers_ok.oi Post) := by
  rintro ps Post ⟨a, s, k, aim, cs, ts, rfl, hz, post⟩
  show WB X n_l_answers_ok c [.w a.D, .w s.D, .d k.D, .d (oD aim), .w (cD cs), .w (.lst (ts.map qD)), .no] _ _
  refine wb_cut (fun Γ => Γ = [.w a.D, .w s.D, .d k.D, .d (oD aim), .w (cD cs), .w (.lst (ts.map qD)), .no]) (ws_ifE (q := false) (EW.t (ew_or (p := false) (et_not (et_val (p := true) (ev_call2 c_l_same 0 (ek_v (x := oD s.aim) (we_prop m_Steering_aim (ek_s 1) ⟨s, rfl, _, rfl, rfl, rfl⟩ (fs := s.fs))) (ek_s 3) fun _ z => ⟨oD s.aim, oD aim, rfl, pl_oD _, fun b hb => same_of (by rw [hz.ea]) hb z⟩))) fun _ => ew_or1 (et_not (et_val (p := true) (ev_call2 c_l_same 0 (ek_v (x := cD (tidyQ s.ps)) (ev_frz (wo_imeth0 m_Steering_course_of (ek_s 1) ⟨s, rfl, hz.zs, hz.ne, _, rfl, rfl, rfl⟩ (fs := s.fs)))) (ek_s 4) fun _ z => ⟨cD (tidyQ s.ps), cD cs, rfl, pl_c (by have := hz.nl; omega), fun b hb => same_of (by rw [hz.ec]) hb z⟩))))) (fun h => by cases h) (fun _ => wb_nil rfl)) ?_
  rintro Γ rfl
  refine wb_cut (fun Γ => ∃ u, Γ = [.w a.D, .w s.D, .d k.D, .d (oD aim), .w (cD cs), .w (.lst (ts.map qD)), u]) (ws_forW 5 6 (fun i Γ => ∃ u, Γ = [.w a.D, .w s.D, .d k.D, .d (oD aim), .w (cD cs), .w (.lst (ts.map qD)), u]) (ts.map qD) rfl ⟨.no, rfl⟩ ?_ (fun _ h => h)) ?_
  · rintro i Γ d hd ⟨u, rfl⟩
    rw [List.getElem?_map] at hd
    obtain ⟨t, ht, rfl⟩ := Option.map_eq_some_iff.mp hd
    have hm := List.mem_of_getElem? ht
    obtain ⟨p, hp, hnp⟩ := hz.p0 t hm
    have zt := hz.zt t hm
    show WB X n_l_answers_ok c [.w a.D, .w s.D, .d k.D, .d (oD aim), .w (cD cs), .w (.lst (ts.map qD)), .d (qD t)] _ _
    refine wb_cut (fun Γ => Γ = [.w a.D, .w s.D, .d k.D, .d (oD aim), .w (cD cs), .w (.lst (ts.map qD)), .d (qD t)]) (ws_ifE (q := false) (et_not (et_val (p := true) (ev_call2 c_l_same 0 (ek_v (x := qD (atQ s.ps t)) (we_imeth m_Steering_display (ek_s 1) (ea_cons (ek_d (ev_var 6)) ea_nil) ⟨s, p, t, rfl, hz.zs, hp, zt, hnp, _, rfl, rfl, rfl⟩ (fs := s.fs) (hnd := List.nodup_nil) (hrd := fun _ _ h => by cases h))) (ek_v (ev_call2 c_l_shown 1 (ek_s 4) (ek_d (ev_var 6)) fun _ z => ⟨cs, t, 300, 300, 70, 300, rfl, hz.zc, zt, by decide, by have := hz.nl; omega, z⟩)) fun _ z => ⟨qD (atQ s.ps t), oD (nowQ cs t), rfl, pl_oD _, fun b hb => same_of (by rw [hz.sh t hm]; rfl) hb z⟩))) (fun h => by cases h) (fun _ => wb_nil rfl)) ?_
    rintro Γ rfl
    refine wb_one (ws_ifE (q := false) (EW.t ?_) (fun h => by cases h) (fun _ => wb_nil ⟨_, rfl⟩))
    by_cases q : t < k.at_
    · exact ew_and (p := false) (q := false) (et_is (et_not (et_val (ev_call2 c_l_below 2 (ek_v (ev_var 6)) (ek_v (ev_ixt (x := k.D) (z := qD k.at_) (ev_var 2) ev_int)) fun _ z => ⟨t, k.at_, 300, 300, rfl, zt, hz.zk.za, by decide, z⟩))) (by rw [decide_eq_true q]; rfl)) (fun z => by cases z)
    · obtain ⟨h1, h2⟩ := hz.er t hm q
      exact ew_and (p := true) (q := false) (et_is (et_not (et_val (ev_call2 c_l_below 2 (ek_v (ev_var 6)) (ek_v (ev_ixt (x := k.D) (z := qD k.at_) (ev_var 2) ev_int)) fun _ z => ⟨t, k.at_, 300, 300, rfl, zt, hz.zk.za, by decide, z⟩))) (by rw [decide_eq_false q]; rfl)) (fun _ => ew_and1 (et_not (et_val (p := true) (ev_call2 c_l_same 0 (ek_v (x := qD (s.err t)) (we_imeth m_Steering_error_at (ek_s 1) (ea_cons (ek_d (ev_var 6)) ea_nil) ⟨s, t, rfl, hz.zs, zt, h1, _, rfl, rfl, rfl⟩ (fs := s.fs) (hnd := List.nodup_nil) (hrd := fun _ _ h => by cases h))) (ek_v (ev_call3 c_l_bound 3 (ek_s 0) (ek_d (ev_var 2)) (ek_d (ev_var 6)) fun _ z => ⟨a, k, t, rfl, hz.za, hz.zk, zt, z⟩)) fun _ z => ⟨qD (s.err t), qD (k.bnd a.slew a.drift t), rfl, pl_q _ _, fun b hb => same_of (by rw [h2]) hb z⟩))))
  rintro Γ ⟨u, rfl⟩
  exact wb_one (ws_ret (we_of ev_bl ⟨_, [], rfl, rfl, post⟩))


/-! smaller -/
abbrev s_p_smaller : Stmt := top 16
abbrev n_p_smaller : Nm := { N := ["a", "b"], V := [0, 1], as := [0, 1], GN := ["compare"], k := 1, oi := [], lc := [0, 1], sc := none }
theorem sc_p_smaller : FnScope n_p_smaller.N ["a", "b"] (defScope s_p_smaller) := ⟨rfl, rfl, rfl, by decide +kernel, rfl, by decide +kernel, by decide +kernel⟩
theorem sb_p_smaller : ScOk (defScope s_p_smaller) n_p_smaller := scOk_of (by decide +kernel)
abbrev S_p_smaller : Sg := ST_cmp2 minQ
theorem bd_p_smaller {X : Cx} {c : Cc} (c_p_compare : CalF X n_p_smaller.k "compare" S_p_compare) : ∀ ps Post, S_p_smaller ps Post → WB X n_p_smaller c (entry n_p_smaller.N ps) (defBody s_p_smaller) (fnD n_p_smaller.oi Post) := by
  rintro ps Post ⟨a, b, j, k, rfl, ha, hb, hjk, post⟩
  show WB X n_p_smaller c [.d (qD a), .d (qD b)] _ _
  refine wb_one (ws_ret (we_if (wt_of (et_gt (ev_call2 c_p_compare 0 (ek_d (ev_var 0)) (ek_d (ev_var 1)) fun _ z => ⟨_, _, _, _, rfl, ha, hb, hjk, z⟩) ev_int) ⟨fun h => we_of (ev_var 1) ⟨_, [], rfl, rfl, ?_⟩, fun h => we_of (ev_var 0) ⟨_, [], rfl, rfl, ?_⟩⟩)))
  · rw [cmp_gt] at h
    unfold minQ at post
    rwa [if_pos (of_decide_eq_true h)] at post
  · rw [cmp_gt] at h
    unfold minQ at post
    rwa [if_neg (of_decide_eq_false h)] at post


/-! ends_cross -/
abbrev s_p_ends_cross : Stmt := top 19
abbrev n_p_ends_cross : Nm := { N := ["low", "high"], V := [0, 1], as := [0, 1], GN := ["compare"], k := 1, oi := [], lc := [0, 1], sc := none }
theorem sc_p_ends_cross : FnScope n_p_ends_cross.N ["low", "high"] (defScope s_p_ends_cross) := ⟨rfl, rfl, rfl, by decide +kernel, rfl, by decide +kernel, by decide +kernel⟩
theorem sb_p_ends_cross : ScOk (defScope s_p_ends_cross) n_p_ends_cross := scOk_of (by decide +kernel)
abbrev S_p_ends_cross : Sg := ST_cross
theorem bd_p_ends_cross {X : Cx} {c : Cc} (c_p_compare : CalF X n_p_ends_cross.k "compare" S_p_compare) : ∀ ps Post, S_p_ends_cross ps Post → WB X n_p_ends_cross c (entry n_p_ends_cross.N ps) (defBody s_p_ends_cross) (fnD n_p_ends_cross.oi Post) := by
  rintro ps Post ⟨a, b, k, rfl, ha, hb, hk, post⟩
  show WB X n_p_ends_cross c [.d (oD a), .d (oD b)] _ _
  cases a with
  | none => exact wb_cut (fun _ => False) (ws_ifE (EW.t (ew_or (q := true) (et_isN (ek_s 0)) fun h => (by cases h))) (fun h => wb_one (ws_ret (we_of ev_bl ⟨_, [], rfl, rfl, post⟩))) (fun h => (by cases h))) (fun _ h => h.elim)
  | some x =>
    cases b with
    | none => exact wb_cut (fun _ => False) (ws_ifE (EW.t (ew_or (et_isN (ek_s 0)) fun h => ew_or1 (et_isN (ek_s 1)))) (fun h => wb_one (ws_ret (we_of ev_bl ⟨_, [], rfl, rfl, post⟩))) (fun h => (by cases h))) (fun _ h => h.elim)
    | some y =>
      refine wb_cut (fun Γ => Γ = [.d (oD (some x)), .d (oD (some y))]) (ws_ifE (EW.t (ew_or (et_isN (ek_s 0)) fun h => ew_or1 (et_isN (ek_s 1)))) (fun h => (by cases h)) (fun h => wb_nil rfl)) ?_
      rintro Γ rfl
      refine wb_one (ws_ret (we_of (ev_gt (ev_call2 c_p_compare 0 (ek_d (ev_var 0)) (ek_d (ev_var 1)) fun _ z => ⟨_, _, _, _, rfl, ha x rfl, hb y rfl, by omega, z⟩) ev_int) ⟨_, [], rfl, rfl, ?_⟩))
      rw [cmp_gt]
      exact post


/-! meet -/
abbrev s_p_meet : Stmt := top 23
abbrev n_p_meet : Nm := { N := ["a", "b", "low", "high"], V := [0, 1, 2, 3], as := [0, 1, 2, 3], GN := ["larger", "smaller", "ends_cross"], k := 2, oi := [], lc := [0, 1, 2, 3], sc := none }
theorem sc_p_meet : FnScope n_p_meet.N ["a", "b"] (defScope s_p_meet) := ⟨rfl, rfl, rfl, by decide +kernel, rfl, by decide +kernel, by decide +kernel⟩
theorem sb_p_meet : ScOk (defScope s_p_meet) n_p_meet := scOk_of (by decide +kernel)
abbrev S_p_meet : Sg := ST_meet
theorem bd_p_meet {X : Cx} {c : Cc} (c_p_larger : CalF X n_p_meet.k "larger" S_p_larger) (c_p_smaller : CalF X n_p_meet.k "smaller" S_p_smaller) (c_p_ends_cross : CalF X n_p_meet.k "ends_cross" S_p_ends_cross) : ∀ ps Post, S_p_meet ps Post → WB X n_p_meet c (entry n_p_meet.N ps) (defBody s_p_meet) (fnD n_p_meet.oi Post) := by
  rintro ps Post ⟨⟨a1, a2⟩, ⟨b1, b2⟩, k, rfl, ha, hb, hk, post⟩
  obtain ⟨ha1, ha2⟩ := ha
  obtain ⟨hb1, hb2⟩ := hb
  show WB X n_p_meet c [.d (sD (a1, a2)), .d (sD (b1, b2)), .no, .no] _ _
  refine wb_cons (ws_unp2 2 3 (we_of (ev_var 0) ⟨_, _, rfl, ?_⟩))
  refine wb_cut (fun Γ => Γ = [.d (sD (a1, a2)), .d (sD (b1, b2)), .d (oD (meetLo a1 b1)), .d (oD a2)]) (ws_ifE (et_isN (x := oD a1) (ek_s 2)) (fun h => ?_) (fun h => ?_)) ?_
  · cases a1 with
    | some x => cases h
    | none => exact wb_one (ws_set 2 (we_of (ev_ixt (ev_var 1) ev_int) rfl))
  · cases a1 with
    | none => cases h
    | some x =>
      cases b1 with
      | none => exact wb_one (ws_ifE (et_notN (ek_d (ev_ixt (z := .non) (ev_var 1) ev_int))) (fun h => (by cases h)) (fun h => wb_nil rfl))
      | some y => exact wb_one (ws_ifE (et_notN (ek_d (ev_ixt (z := qD y) (ev_var 1) ev_int))) (fun h => wb_one (ws_set 2 (we_of (ev_call2 c_p_larger 0 (ek_d (ev_var 2)) (ek_d (ev_ixt (z := qD y) (ev_var 1) ev_int)) fun _ z => ⟨x, y, k, k, rfl, ha1 x rfl, hb1 y rfl, by omega, z⟩) rfl))) (fun h => (by cases h)))
  rintro Γ rfl
  refine wb_cut (fun Γ => Γ = [.d (sD (a1, a2)), .d (sD (b1, b2)), .d (oD (meetLo a1 b1)), .d (oD (meetHi a2 b2))]) (ws_ifE (et_isN (x := oD a2) (ek_s 3)) (fun h => ?_) (fun h => ?_)) ?_
  · cases a2 with
    | some x => cases h
    | none => exact wb_one (ws_set 3 (we_of (ev_ixt (ev_var 1) ev_int) rfl))
  · cases a2 with
    | none => cases h
    | some x =>
      cases b2 with
      | none => exact wb_one (ws_ifE (et_notN (ek_d (ev_ixt (z := .non) (ev_var 1) ev_int))) (fun h => (by cases h)) (fun h => wb_nil rfl))
      | some y => exact wb_one (ws_ifE (et_notN (ek_d (ev_ixt (z := qD y) (ev_var 1) ev_int))) (fun h => wb_one (ws_set 3 (we_of (ev_call2 c_p_smaller 1 (ek_d (ev_var 3)) (ek_d (ev_ixt (z := qD y) (ev_var 1) ev_int)) fun _ z => ⟨x, y, k, k, rfl, ha2 x rfl, hb2 y rfl, by omega, z⟩) rfl))) (fun h => (by cases h)))
  rintro Γ rfl
  refine wb_cut (fun Γ => Γ = [.d (sD (a1, a2)), .d (sD (b1, b2)), .d (oD (meetLo a1 b1)), .d (oD (meetHi a2 b2))] ∧ crossB (meetLo a1 b1) (meetHi a2 b2) = false) (ws_ifE (et_val (ev_call2 c_p_ends_cross 2 (ek_d (ev_var 2)) (ek_d (ev_var 3)) fun _ z => ⟨_, _, k, rfl, ha1.meetLo hb1, ha2.meetHi hb2, hk, z⟩)) (fun h => wb_one (ws_ret (we_of ev_non ⟨_, [], rfl, rfl, ?_⟩))) (fun h => wb_nil ⟨rfl, h⟩)) ?_
  · unfold meetQ at post
    rwa [if_pos h] at post
  rintro Γ ⟨rfl, h⟩
  refine wb_one (ws_ret (we_of (ev_tup (ea_cons (ek_d (ev_var 2)) (ea_cons (ek_d (ev_var 3)) ea_nil))) ⟨_, [], rfl, rfl, ?_⟩))
  unfold meetQ at post
  rwa [if_neg (by rw [h]; simp)] at post


/-! span_to_follow -/
abbrev s_p_span_to_follow : Stmt := top 39
abbrev n_p_span_to_follow : Nm := { N := ["span", "shown", "bound", "common"], V := [0, 1, 2, 3], as := [0, 1, 2, 3], GN := ["meet", "subtract", "add"], k := 3, oi := [], lc := [0, 1, 2, 3], sc := none }
theorem sc_p_span_to_follow : FnScope n_p_span_to_follow.N ["span", "shown", "bound"] (defScope s_p_span_to_follow) := ⟨rfl, rfl, rfl, by decide +kernel, rfl, by decide +kernel, by decide +kernel⟩
theorem sb_p_span_to_follow : ScOk (defScope s_p_span_to_follow) n_p_span_to_follow := scOk_of (by decide +kernel)
abbrev S_p_span_to_follow : Sg := ST_follow
theorem bd_p_span_to_follow {X : Cx} {c : Cc} (c_p_meet : CalF X n_p_span_to_follow.k "meet" S_p_meet) (c_p_subtract : CalF X n_p_span_to_follow.k "subtract" S_p_subtract) (c_p_add : CalF X n_p_span_to_follow.k "add" S_p_add) : ∀ ps Post, S_p_span_to_follow ps Post → WB X n_p_span_to_follow c (entry n_p_span_to_follow.N ps) (defBody s_p_span_to_follow) (fnD n_p_span_to_follow.oi Post) := by
  rintro ps Post ⟨s, x, b, i, j, k, rfl, hs, hx, hb, hk, post⟩
  show WB X n_p_span_to_follow c [.d (sD s), .d (qD x), .d (qD b), .no] _ _
  have z1 : Sz (i + j + k + 1) (x - b) := (hx.sub hb).mono (by omega)
  have z2 : Sz (i + j + k + 1) (x + b) := (hx.add hb).mono (by omega)
  have zs : SzS (i + j + k + 1) s := ⟨fun q h => (hs.1 q h).mono (by omega), fun q h => (hs.2 q h).mono (by omega)⟩
  refine wb_cons (ws_set 3 (we_of (ev_call2 c_p_meet 0 (ek_d (ev_var 0)) (ek_d (ev_tup (ea_cons (ek_d (ev_call2 c_p_subtract 1 (ek_d (ev_var 1)) (ek_d (ev_var 2)) fun _ z => ⟨x, b, j, k, rfl, hx, hb, by omega, z⟩)) (ea_cons (ek_d (ev_call2 c_p_add 2 (ek_d (ev_var 1)) (ek_d (ev_var 2)) fun _ z => ⟨x, b, j, k, rfl, hx, hb, by omega, z⟩)) ea_nil)))) fun _ z => ⟨s, (some (x - b), some (x + b)), i + j + k + 1, rfl, zs, ⟨fun q h => by cases h; exact z1, fun q h => by cases h; exact z2⟩, by omega, z⟩) ?_))
  show WB X n_p_span_to_follow c [.d (sD s), .d (qD x), .d (qD b), .d (oS (meetQ s (some (x - b), some (x + b))))] _ _
  unfold followQ at post
  cases hm : meetQ s (some (x - b), some (x + b)) with
  | none =>
    rw [hm] at post
    exact wb_cut (fun Γ => False) (ws_ifE (et_isN (x := oS none) (ek_s 3)) (fun h => wb_one (ws_ret (we_of (ev_var 0) ⟨_, [], rfl, rfl, post⟩))) (fun h => by cases h)) (fun Γ h => h.elim)
  | some m =>
    rw [hm] at post
    refine wb_cut (fun Γ => Γ = [.d (sD s), .d (qD x), .d (qD b), .d (sD m)]) (ws_ifE (et_isN (x := oS (some m)) (ek_s 3)) (fun h => by cases h) (fun h => wb_nil rfl)) ?_
    rintro Γ rfl
    exact wb_one (ws_ret (we_of (ev_var 3) ⟨_, [], rfl, rfl, post⟩))


/-! middle_of -/
abbrev s_p_middle_of : Stmt := top 21
abbrev n_p_middle_of : Nm := { N := ["span", "low", "high"], V := [0, 1, 2], as := [0, 1, 2], GN := ["multiply", "add"], k := 2, oi := [], lc := [0, 1, 2], sc := none }
theorem sc_p_middle_of : FnScope n_p_middle_of.N ["span"] (defScope s_p_middle_of) := ⟨rfl, rfl, rfl, by decide +kernel, rfl, by decide +kernel, by decide +kernel⟩
theorem sb_p_middle_of : ScOk (defScope s_p_middle_of) n_p_middle_of := scOk_of (by decide +kernel)
abbrev S_p_middle_of : Sg := ST_middle
theorem bd_p_middle_of {X : Cx} {c : Cc} (c_p_multiply : CalF X n_p_middle_of.k "multiply" S_p_multiply) (c_p_add : CalF X n_p_middle_of.k "add" S_p_add) : ∀ ps Post, S_p_middle_of ps Post → WB X n_p_middle_of c (entry n_p_middle_of.N ps) (defBody s_p_middle_of) (fnD n_p_middle_of.oi Post) := by
  rintro ps Post ⟨a, b, j, k, rfl, ha, hb, hjk, post⟩
  show WB X n_p_middle_of c [.d (sD (some a, some b)), .no, .no] _ _
  refine wb_cons (ws_unp2 1 2 (we_of (ev_var 0) ⟨_, _, rfl, ?_⟩))
  refine wb_cut (fun Γ => Γ = [.d (sD (some a, some b)), .d (qD a), .d (qD b)]) (ws_ifE (EW.t (ew_or (et_isN (x := qD a) (ek_s 1)) fun _ => ew_or1 (et_isN (x := qD b) (ek_s 2)))) (fun h => by cases h) (fun h => wb_nil rfl)) ?_
  rintro Γ rfl
  exact wb_one (ws_ret (we_of (ev_call2 c_p_multiply 0 (ek_d (ev_call2 c_p_add 1 (ek_d (ev_var 1)) (ek_d (ev_var 2)) fun _ z => ⟨a, b, j, k, rfl, ha, hb, by omega, z⟩)) (ek_d (ev_is (ev_tup2 ev_int ev_int) (by rfl))) fun _ z => ⟨a + b, fr 1 2, _, 2, rfl, ha.add hb, ⟨by decide, by decide⟩, by omega, z⟩) ⟨_, [], rfl, rfl, post⟩))


/-! divide -/
abbrev s_p_divide : Stmt := top 13
abbrev n_p_divide : Nm := { N := ["a", "b", "bn", "bd"], V := [0, 1, 2, 3], as := [0, 1, 2, 3], GN := ["ZeroDivisor", "multiply"], k := 2, oi := [], lc := [0, 1, 2, 3], sc := none }
theorem sc_p_divide : FnScope n_p_divide.N ["a", "b"] (defScope s_p_divide) := ⟨rfl, rfl, rfl, by decide +kernel, rfl, by decide +kernel, by decide +kernel⟩
theorem sb_p_divide : ScOk (defScope s_p_divide) n_p_divide := scOk_of (by decide +kernel)
abbrev S_p_divide : Sg := ST_div
theorem bd_p_divide {X : Cx} {c : Cc} (c_p_multiply : CalF X n_p_divide.k "multiply" S_p_multiply) : ∀ ps Post, S_p_divide ps Post → WB X n_p_divide c (entry n_p_divide.N ps) (defBody s_p_divide) (fnD n_p_divide.oi Post) := by
  rintro ps Post ⟨a, b, j, k, rfl, h0, ha, hb, hjk, post⟩
  show WB X n_p_divide c [.d (qD a), .d (qD b), .no, .no] _ _
  have n0 : b.num ≠ 0 := fun z => h0 (Rat.num_eq_zero.mp z)
  refine wb_cons (ws_unp2 2 3 (we_of (ev_var 1) ⟨_, _, rfl, ?_⟩))
  refine wb_cut (fun Γ => Γ = [.d (qD a), .d (qD b), .d (.int b.num), .d (.int (b.den : Int))]) (ws_ifE (et_eq (ev_var 2) ev_int) (fun h => absurd (of_decide_eq_true h) n0) (fun h => wb_nil rfl)) ?_
  rintro Γ rfl
  refine wb_cut (fun Γ => Γ = [.d (qD a), .d (qD b), .d (.int b.num), .d (.int (b.den : Int))] ∧ 0 < b.num) (ws_ifE (et_lt (ev_var 2) ev_int) (fun h => ?_) (fun h => wb_nil ⟨rfl, ?_⟩)) ?_
  · have h' : b.num < 0 := of_decide_eq_true h
    exact wb_one (ws_ret (we_of (ev_call2 c_p_multiply 1 (ek_d (ev_var 0)) (ek_d (ev_is (ev_tup2 (ev_neg (ev_var 3)) (ev_neg (ev_var 2))) (inv_neg h'))) fun _ z => ⟨a, b⁻¹, j, k, rfl, ha, hb, by omega, z⟩) ⟨_, [], rfl, rfl, by rw [div_eq]; exact post⟩))
  · have h' : ¬ b.num < 0 := of_decide_eq_false h
    omega
  rintro Γ ⟨rfl, h'⟩
  exact wb_one (ws_ret (we_of (ev_call2 c_p_multiply 1 (ek_d (ev_var 0)) (ek_d (ev_is (ev_tup2 (ev_var 3) (ev_var 2)) (inv_pos h'))) fun _ z => ⟨a, b⁻¹, j, k, rfl, ha, hb, by omega, z⟩) ⟨_, [], rfl, rfl, by rw [div_eq]; exact post⟩))


/-! width_of -/
abbrev s_p_width_of : Stmt := top 20
abbrev n_p_width_of : Nm := { N := ["span", "low", "high"], V := [0, 1, 2], as := [0, 1, 2], GN := ["subtract"], k := 3, oi := [], lc := [0, 1, 2], sc := none }
theorem sc_p_width_of : FnScope n_p_width_of.N ["span"] (defScope s_p_width_of) := ⟨rfl, rfl, rfl, by decide +kernel, rfl, by decide +kernel, by decide +kernel⟩
theorem sb_p_width_of : ScOk (defScope s_p_width_of) n_p_width_of := scOk_of (by decide +kernel)
abbrev S_p_width_of : Sg := ST_width
theorem bd_p_width_of {X : Cx} {c : Cc} (c_p_subtract : CalF X n_p_width_of.k "subtract" S_p_subtract) : ∀ ps Post, S_p_width_of ps Post → WB X n_p_width_of c (entry n_p_width_of.N ps) (defBody s_p_width_of) (fnD n_p_width_of.oi Post) := by
  rintro ps Post ⟨a, b, j, k, rfl, ha, hb, hjk, post⟩
  show WB X n_p_width_of c [.d (sD (some a, some b)), .no, .no] _ _
  refine wb_cons (ws_unp2 1 2 (we_of (ev_var 0) ⟨_, _, rfl, ?_⟩))
  refine wb_cut (fun Γ => Γ = [.d (sD (some a, some b)), .d (qD a), .d (qD b)]) (ws_ifE (EW.t (ew_or (et_isN (x := qD a) (ek_s 1)) fun _ => ew_or1 (et_isN (x := qD b) (ek_s 2)))) (fun h => by cases h) (fun h => wb_nil rfl)) ?_
  rintro Γ rfl
  exact wb_one (ws_ret (we_of (ev_call2 c_p_subtract 0 (ek_d (ev_var 2)) (ek_d (ev_var 1)) fun _ z => ⟨b, a, k, j, rfl, hb, ha, by omega, z⟩) ⟨_, [], rfl, rfl, post⟩))


/-! distance -/
abbrev s_p_distance : Stmt := top 14
abbrev n_p_distance : Nm := { N := ["a", "b", "n", "d"], V := [0, 1, 2, 3], as := [0, 1, 2, 3], GN := ["subtract"], k := 3, oi := [], lc := [0, 1, 2, 3], sc := none }
theorem sc_p_distance : FnScope n_p_distance.N ["a", "b"] (defScope s_p_distance) := ⟨rfl, rfl, rfl, by decide +kernel, rfl, by decide +kernel, by decide +kernel⟩
theorem sb_p_distance : ScOk (defScope s_p_distance) n_p_distance := scOk_of (by decide +kernel)
abbrev S_p_distance : Sg := ST_dist
theorem bd_p_distance {X : Cx} {c : Cc} (c_p_subtract : CalF X n_p_distance.k "subtract" S_p_subtract) : ∀ ps Post, S_p_distance ps Post → WB X n_p_distance c (entry n_p_distance.N ps) (defBody s_p_distance) (fnD n_p_distance.oi Post) := by
  rintro ps Post ⟨a, b, j, k, rfl, ha, hb, hjk, post⟩
  show WB X n_p_distance c [.d (qD a), .d (qD b), .no, .no] _ _
  rw [absQ_D] at post
  refine wb_cons (ws_unp2 2 3 (we_of (ev_call2 c_p_subtract 0 (ek_d (ev_var 0)) (ek_d (ev_var 1)) fun _ z => ⟨_, _, _, _, rfl, ha, hb, by omega, z⟩) ⟨_, _, rfl, ?_⟩))
  show WB X n_p_distance c [.d (qD a), .d (qD b), .d (.int (a - b).num), .d (.int ((a - b).den : Int))] _ _
  refine wb_cut (fun Γ => Γ = [.d (qD a), .d (qD b), .d (.int (a - b).num), .d (.int ((a - b).den : Int))] ∧ ¬ (a - b).num < 0) (ws_ifE (et_lt (ev_var 2) ev_int) (fun h => wb_one (ws_ret (we_of (ev_tup (ea_cons (ek_d (ev_neg (ev_var 2))) (ea_cons (ek_d (ev_var 3)) ea_nil))) ⟨_, [], rfl, rfl, ?_⟩))) (fun h => wb_nil ⟨rfl, of_decide_eq_false h⟩)) ?_
  · rw [if_pos (of_decide_eq_true h)] at post; exact post
  rintro Γ ⟨rfl, h⟩
  rw [if_neg h] at post
  exact wb_one (ws_ret (we_of (ev_tup (ea_cons (ek_d (ev_var 2)) (ea_cons (ek_d (ev_var 3)) ea_nil))) ⟨_, [], rfl, rfl, post⟩))


/-! far_end -/
abbrev s_p_far_end : Stmt := top 22
abbrev n_p_far_end : Nm := { N := ["span", "t", "low", "high"], V := [0, 1, 2, 3], as := [0, 1, 2, 3], GN := ["larger", "distance"], k := 4, oi := [], lc := [0, 1, 2, 3], sc := none }
theorem sc_p_far_end : FnScope n_p_far_end.N ["span", "t"] (defScope s_p_far_end) := ⟨rfl, rfl, rfl, by decide +kernel, rfl, by decide +kernel, by decide +kernel⟩
theorem sb_p_far_end : ScOk (defScope s_p_far_end) n_p_far_end := scOk_of (by decide +kernel)
abbrev S_p_far_end : Sg := ST_far
theorem bd_p_far_end {X : Cx} {c : Cc} (c_p_larger : CalF X n_p_far_end.k "larger" S_p_larger) (c_p_distance : CalF X n_p_far_end.k "distance" S_p_distance) : ∀ ps Post, S_p_far_end ps Post → WB X n_p_far_end c (entry n_p_far_end.N ps) (defBody s_p_far_end) (fnD n_p_far_end.oi Post) := by
  rintro ps Post ⟨a, b, t, j, k, rfl, ha, hb, ht, hjk, post⟩
  show WB X n_p_far_end c [.d (sD (some a, some b)), .d (qD t), .no, .no] _ _
  refine wb_cons (ws_unp2 2 3 (we_of (ev_var 0) ⟨_, _, rfl, ?_⟩))
  refine wb_cut (fun Γ => Γ = [.d (sD (some a, some b)), .d (qD t), .d (qD a), .d (qD b)]) (ws_ifE (EW.t (ew_or (et_isN (x := qD a) (ek_s 2)) fun _ => ew_or1 (et_isN (x := qD b) (ek_s 3)))) (fun h => by cases h) (fun h => wb_nil rfl)) ?_
  rintro Γ rfl
  exact wb_one (ws_ret (we_of (ev_call2 c_p_larger 0 (ek_d (ev_call2 c_p_distance 1 (ek_d (ev_var 1)) (ek_d (ev_var 2)) fun _ z => ⟨t, a, k, j, rfl, ht, ha, by omega, z⟩)) (ek_d (ev_call2 c_p_distance 1 (ek_d (ev_var 1)) (ek_d (ev_var 3)) fun _ z => ⟨t, b, k, j, rfl, ht, hb, by omega, z⟩)) fun _ z => ⟨absQ (t - a), absQ (t - b), _, _, rfl, absQ_sz (ht.sub ha), absQ_sz (ht.sub hb), by omega, z⟩) ⟨_, [], rfl, rfl, post⟩))


/-! pieces_towards -/
abbrev s_p_pieces_towards : Stmt := top 38
abbrev n_p_pieces_towards : Nm := { N := ["raw", "shown", "aim", "slew", "side", "rate", "length"], V := [0, 1, 2, 3, 4, 5, 6], as := [0, 1, 2, 3, 4, 5, 6], GN := ["compare", "ONE", "add", "subtract", "divide", "distance"], k := 4, oi := [], lc := [0, 1, 2, 3, 4, 5, 6], sc := none }
theorem sc_p_pieces_towards : FnScope n_p_pieces_towards.N ["raw", "shown", "aim", "slew"] (defScope s_p_pieces_towards) := ⟨rfl, rfl, rfl, by decide +kernel, rfl, by decide +kernel, by decide +kernel⟩
theorem sb_p_pieces_towards : ScOk (defScope s_p_pieces_towards) n_p_pieces_towards := scOk_of (by decide +kernel)
abbrev S_p_pieces_towards : Sg := ST_towards
theorem bd_p_pieces_towards {X : Cx} {c : Cc} (c_p_compare : CalF X n_p_pieces_towards.k "compare" S_p_compare) (g_ONE : Con X "ONE" v_ONE) (c_p_add : CalF X n_p_pieces_towards.k "add" S_p_add) (c_p_subtract : CalF X n_p_pieces_towards.k "subtract" S_p_subtract) (c_p_divide : CalF X n_p_pieces_towards.k "divide" S_p_divide) (c_p_distance : CalF X n_p_pieces_towards.k "distance" S_p_distance) : ∀ ps Post, S_p_pieces_towards ps Post → WB X n_p_pieces_towards c (entry n_p_pieces_towards.N ps) (defBody s_p_pieces_towards) (fnD n_p_pieces_towards.oi Post) := by
  rintro ps Post ⟨raw, shown, aim, slew, rfl, hz, post⟩
  obtain ⟨zr, zs, za, zl, n0, zi, zn⟩ := hz
  have z1 : Sz 1 (1 : Rat) := ⟨by decide, by decide⟩
  show WB X n_p_pieces_towards c [.d (qD raw), .d (qD shown), .d (qD aim), .d (qD slew), .no, .no, .no] _ _
  refine wb_cons (ws_set 4 (we_of (ev_call2 c_p_compare 0 (ek_d (ev_var 2)) (ek_d (ev_var 1)) fun _ z => ⟨aim, shown, 300, 300, rfl, za, zs, by decide, z⟩) ?_))
  unfold towardsQ at post
  refine wb_cut (fun Γ => Γ = [.d (qD raw), .d (qD shown), .d (qD aim), .d (qD slew), .d (.int (cmpQ aim shown)), .no, .no] ∧ ¬ aim = shown) (ws_ifE (et_is (et_eq (ev_var 4) ev_int) cmp_eq) (fun h => ?_) (fun h => wb_nil ⟨rfl, of_decide_eq_false h⟩)) ?_
  · rw [if_pos (of_decide_eq_true h)] at post
    exact wb_one (ws_retO (wo_of (eo_lst (ea_cons (ek_d (ev_tup (ea_cons (ek_d (ev_var 0)) (ea_cons (ek_d (ev_var 1)) (ea_cons (ek_d (ev_glob 1 g_ONE)) ea_nil))))) ea_nil)) ⟨.own _, [], .inl rfl, rfl, post⟩))
  rintro Γ ⟨rfl, h⟩
  rw [if_neg h] at post
  refine wb_cut (fun Γ => Γ = [.d (qD raw), .d (qD shown), .d (qD aim), .d (qD slew), .d (.int (cmpQ aim shown)), .d (qD (rateQ shown aim slew)), .no]) (ws_set 5 (we_if (wt_of (et_is (et_gt (ev_var 4) ev_int) cmp_gt) ⟨fun h => we_of (ev_call2 c_p_add 2 (ek_d (ev_glob 1 g_ONE)) (ek_d (ev_var 3)) fun _ z => ⟨1, slew, 1, 60, rfl, z1, zl, by decide, z⟩) ?_, fun h => we_of (ev_call2 c_p_subtract 3 (ek_d (ev_glob 1 g_ONE)) (ek_d (ev_var 3)) fun _ z => ⟨1, slew, 1, 60, rfl, z1, zl, by decide, z⟩) ?_⟩))) ?_
  · unfold rateQ; rw [if_pos (of_decide_eq_true h)]; rfl
  · unfold rateQ; rw [if_neg (of_decide_eq_false h)]; rfl
  rintro Γ rfl
  refine wb_cons (ws_set 6 (we_of (ev_call2 c_p_divide 4 (ek_d (ev_call2 c_p_distance 5 (ek_d (ev_var 2)) (ek_d (ev_var 1)) fun _ z => ⟨aim, shown, 300, 300, rfl, za, zs, by decide, z⟩)) (ek_d (ev_var 3)) fun _ z => ⟨absQ (aim - shown), slew, _, 60, rfl, n0, absQ_sz (za.sub zs), zi, by decide, z⟩) ?_))
  show WB X n_p_pieces_towards c [.d (qD raw), .d (qD shown), .d (qD aim), .d (qD slew), .d (.int (cmpQ aim shown)), .d (qD (rateQ shown aim slew)), .d (qD (lenQ shown aim slew))] _ _
  exact wb_one (ws_retO (wo_of (eo_lst (ea_cons (ek_d (ev_tup (ea_cons (ek_d (ev_var 0)) (ea_cons (ek_d (ev_var 1)) (ea_cons (ek_d (ev_var 5)) ea_nil))))) (ea_cons (ek_d (ev_tup (ea_cons (ek_d (ev_call2 c_p_add 2 (ek_d (ev_var 0)) (ek_d (ev_var 6)) fun _ z => ⟨raw, _, 300, 300, rfl, zr, zn, by decide, z⟩)) (ea_cons (ek_d (ev_call2 c_p_add 2 (ek_d (ev_var 2)) (ek_d (ev_var 6)) fun _ z => ⟨aim, _, 300, 300, rfl, za, zn, by decide, z⟩)) (ea_cons (ek_d (ev_glob 1 g_ONE)) ea_nil))))) ea_nil))) ⟨.own _, [], .inl rfl, rfl, post⟩))


/-! Steering.steer -/
abbrev s_Steering_steer : Stmt := methOf (top 40) 1
abbrev n_Steering_steer : Nm := { N := ["self", "raw", "span", "shown", "bound", "aim", "half", "planned", "followed", "kept", "piece"], V := [0, 1, 2, 3, 4, 5, 6, 7, 8, 9], as := [0, 1, 2, 3, 4, 5, 6, 7, 8, 9], GN := ["compare", "TurnsBack", "shown_at", "ONE", "span_to_follow", "middle_of", "divide", "width_of", "TWO", "subtract", "far_end", "pieces_towards", "tidy"], k := 6, oi := [0], lc := [0, 2, 3, 4, 5, 6, 7, 8, 9], sc := some (defScope s_Steering_steer) }
abbrev n_Steering_steer_c1 : Nm := { N := ["self", "raw", "span", "shown", "bound", "aim", "half", "planned", "followed", "kept", "piece"], V := [1, 10], as := [10], GN := ["compare"], k := 6, oi := [] }
theorem sc_Steering_steer : FnScope n_Steering_steer.N ["self", "raw", "span"] (defScope s_Steering_steer) := ⟨rfl, rfl, rfl, by decide +kernel, rfl, by decide +kernel, by decide +kernel⟩
theorem sb_Steering_steer : ScOk (defScope s_Steering_steer) n_Steering_steer := scOk_of (by decide +kernel)
abbrev S_Steering_steer : Sg := ST_steer
theorem bd_Steering_steer {X : Cx} {c : Cc} {C_BeforeStart : Addr} (k_BeforeStart : ClsAt X.K X.mg "BeforeStart" C_BeforeStart) (c_p_compare : CalF X n_Steering_steer.k "compare" S_p_compare) (c_p_shown_at : CalX X n_Steering_steer.k "shown_at" (S_p_shown_at C_BeforeStart)) (g_ONE : Con X "ONE" v_ONE) (c_p_span_to_follow : CalF X n_Steering_steer.k "span_to_follow" S_p_span_to_follow) (c_p_middle_of : CalF X n_Steering_steer.k "middle_of" S_p_middle_of) (c_p_divide : CalF X n_Steering_steer.k "divide" S_p_divide) (c_p_width_of : CalF X n_Steering_steer.k "width_of" S_p_width_of) (g_TWO : Con X "TWO" v_TWO) (c_p_subtract : CalF X n_Steering_steer.k "subtract" S_p_subtract) (c_p_far_end : CalF X n_Steering_steer.k "far_end" S_p_far_end) (c_p_pieces_towards : CalF X n_Steering_steer.k "pieces_towards" S_p_pieces_towards) (c_p_tidy : CalF X n_Steering_steer.k "tidy" S_p_tidy) (m_Steering_error_at : CalM X n_Steering_steer.k "Steering" "error_at" S_Steering_error_at) (no_Steering_steered_pieces : NoAttr X.K (He.ga X.K "Steering") "steered_pieces") (no_Steering_steered_at : NoAttr X.K (He.ga X.K "Steering") "steered_at") (no_Steering_steered_bound : NoAttr X.K (He.ga X.K "Steering") "steered_bound") (no_Steering_steered_half : NoAttr X.K (He.ga X.K "Steering") "steered_half") (no_Steering_steered_aim : NoAttr X.K (He.ga X.K "Steering") "steered_aim") : ∀ ps Post, S_Steering_steer ps Post → WB X n_Steering_steer c (entry n_Steering_steer.N ps) (defBody s_Steering_steer) (fnD n_Steering_steer.oi Post) := by
  rintro ps Post ⟨s, raw, sp, rfl, ⟨hz, zr, ⟨p0, hp0, h0⟩, hna, zsh, ze, zc, zo, zp⟩, post⟩
  show WB X n_Steering_steer c [.own s.O, .d (qD raw), .d (oS sp), .no, .no, .no, .no, .no, .no, .no, .no] _ _
  refine wb_cut (fun Γ => Γ = [.own s.O, .d (qD raw), .d (oS sp), .no, .no, .no, .no, .no, .no, .no, .no]) (ws_ifE (et_is (et_lt (ev_call2 c_p_compare 0 (ek_d (ev_var 1)) (ek_d (ev_atr (fs := s.fs) (ek_s 0) rfl rfl)) fun _ z => ⟨raw, s.at_, 300, 300, rfl, zr, hz.za, by decide, z⟩) ev_int) cmp_lt) (fun q => absurd (of_decide_eq_true q) hna) (fun q => wb_nil rfl)) ?_
  rintro Γ rfl
  refine wb_cut (fun Γ => Γ = [.own s.O, .d (qD raw), .d (oS sp), .d (qD (atQ s.ps raw)), .no, .no, .no, .no, .no, .no, .no]) (ws_set 3 (we_callXE c_p_shown_at 2 (ea_cons (ek_v (ev_atr (x := cD s.ps) (fs := s.fs) (ek_s 0) rfl rfl)) (ea_cons (ek_d (ev_var 1)) ea_nil)) ⟨s.ps, p0, raw, 300, 300, 70, 300, rfl, hp0, hz.zp, zr, by decide, by have := hz.np; omega, fun _ => ⟨_, rfl, rfl⟩, fun q => absurd q h0⟩)) ?_
  rintro Γ rfl
  refine wb_cut (fun Γ => Γ = [.own s.O, .d (qD raw), .d (oS sp), .d (qD (atQ s.ps raw)), .d (qD (s.err raw)), .no, .no, .no, .no, .no, .no]) (ws_set 4 (we_imeth m_Steering_error_at (ek_s 0) (ea_cons (ek_d (ev_var 1)) ea_nil) ⟨s, raw, rfl, hz, zr, hna, _, rfl, rfl⟩ (fs := s.fs) (hnd := List.nodup_nil) (hrd := fun _ _ h => by cases h))) ?_
  rintro Γ rfl
  refine wb_cut (fun Γ => ∃ F : Slot, (F = .no ∨ ∃ d, F = .d d) ∧ Γ = [.own s.O, .d (qD raw), .d (oS sp), .d (qD (atQ s.ps raw)), .d (qD (s.after raw sp).bound), .d (oD (s.after raw sp).aim), .d (qD (s.after raw sp).half), .own (.lst ((s.planO raw sp).map pD)), F, .no, .no]) ?_ ?_
  · refine ws_ifE (q := opnB sp) (EW.t ?_) (fun h => ?_) (fun h => ?_)
    · cases sp with
      | none => exact ew_or (p := true) (q := true) (et_isN (x := .non) (ek_s 2)) (fun q => by cases q)
      | some ab =>
        obtain ⟨a, b⟩ := ab
        refine ew_or (p := false) (q := opnB (some (a, b))) (et_isN (x := sD (a, b)) (ek_s 2)) (fun _ => ?_)
        cases a with
        | none => exact ew_or (p := true) (q := true) (et_isN (x := .non) (ek_d (ev_ixt (ev_var 2) ev_int))) (fun q => by cases q)
        | some a =>
          refine ew_or (p := false) (q := opnB (some (some a, b))) (et_isN (x := qD a) (ek_d (ev_ixt (ev_var 2) ev_int))) (fun _ => ?_)
          cases b with
          | none => exact ew_or1 (et_isN (x := .non) (ek_d (ev_ixt (ev_var 2) ev_int)))
          | some b => exact ew_or1 (et_isN (x := qD b) (ek_d (ev_ixt (ev_var 2) ev_int)))
    · obtain ⟨e1, e2⟩ := opn_after (s := s) (raw := raw) h
      refine wb_cons (ws_set 5 (we_of ev_non ?_))
      refine wb_cons (ws_set 6 (we_of (ev_var 4) ?_))
      refine wb_one (ws_setO 7 (wo_of (eo_lst (ea_cons (ek_d (ev_tup (ea_cons (ek_d (ev_var 1)) (ea_cons (ek_d (ev_var 3)) (ea_cons (ek_d (ev_glob 3 g_ONE)) ea_nil))))) ea_nil)) ⟨.no, .inl rfl, ?_⟩))
      rw [e1, e2]
      rfl
    · obtain ⟨lo, hi, rfl⟩ := opn_no h
      obtain ⟨c1, c2, c3, c4, c5⟩ := zc lo hi rfl
      have fc := follow_close lo hi (atQ s.ps raw) (s.err raw)
      show WB X n_Steering_steer c [.own s.O, .d (qD raw), .d (sD (some lo, some hi)), .d (qD (atQ s.ps raw)), .d (qD (s.err raw)), .no, .no, .no, .no, .no, .no] _ _
      refine wb_cons (ws_set 8 (we_of (ev_call3 c_p_span_to_follow 4 (ek_d (ev_var 2)) (ek_d (ev_var 3)) (ek_d (ev_var 4)) fun _ z => ⟨(some lo, some hi), atQ s.ps raw, s.err raw, 300, 300, 700, rfl, ⟨fun q h => by cases h; exact c1, fun q h => by cases h; exact c2⟩, zsh, ze, by decide, z⟩) ?_))
      rw [fc]
      have ea : s.after raw (some (some lo, some hi)) = s.goto raw (closeQ lo hi (atQ s.ps raw) (s.err raw)).1 (closeQ lo hi (atQ s.ps raw) (s.err raw)).2 := rfl
      have ep : s.planO raw (some (some lo, some hi)) = s.plan raw (closeQ lo hi (atQ s.ps raw) (s.err raw)).1 (closeQ lo hi (atQ s.ps raw) (s.err raw)).2 := rfl
      rw [ea, ep]
      generalize (closeQ lo hi (atQ s.ps raw) (s.err raw)).1 = f1 at *
      generalize (closeQ lo hi (atQ s.ps raw) (s.err raw)).2 = f2 at *
      show WB X n_Steering_steer c [.own s.O, .d (qD raw), .d (sD (some lo, some hi)), .d (qD (atQ s.ps raw)), .d (qD (s.err raw)), .no, .no, .no, .d (sD (some f1, some f2)), .no, .no] _ _
      refine wb_cons (ws_set 5 (we_of (ev_call1 c_p_middle_of 5 (ek_d (ev_var 8)) fun _ z => ⟨f1, f2, 300, 300, rfl, c3, c4, by decide, z⟩) ?_))
      refine wb_cons (ws_set 6 (we_of (ev_call2 c_p_divide 6 (ek_d (ev_call1 c_p_width_of 7 (ek_d (ev_var 8)) fun _ z => ⟨f1, f2, 300, 300, rfl, c3, c4, by decide, z⟩)) (ek_d (ev_glob 8 g_TWO)) fun _ z => ⟨f2 - f1, fr 2 1, _, 2, rfl, by decide, c4.sub c3, ⟨by decide +kernel, by decide +kernel⟩, by decide, z⟩) ?_))
      show WB X n_Steering_steer c [.own s.O, .d (qD raw), .d (sD (some lo, some hi)), .d (qD (atQ s.ps raw)), .d (qD (s.err raw)), .d (qD ((f1 + f2) * fr 1 2)), .d (qD ((f2 - f1) / fr 2 1)), .no, .d (sD (some f1, some f2)), .no, .no] _ _
      refine wb_one (ws_ifE (q := s.jumps (atQ s.ps raw) ((f1 + f2) * fr 1 2)) (EW.t ?_) (fun q => ?_) (fun q => ?_))
      · cases hs : s.step with
        | none =>
          have hj : s.jumps (atQ s.ps raw) ((f1 + f2) * fr 1 2) = false := by unfold StQ.jumps; rw [hs]
          rw [hj]
          exact ew_and (p := false) (q := false) (et_notN (x := .non) (ek_d (ev_is (ev_atr (fs := s.fs) (ek_s 0) rfl rfl) (by rw [hs])))) (fun q => by cases q)
        | some d =>
          have hj : s.jumps (atQ s.ps raw) ((f1 + f2) * fr 1 2) = decide (d < (f1 + f2) * fr 1 2 - atQ s.ps raw) := by unfold StQ.jumps; rw [hs]
          rw [hj]
          refine ew_and (p := true) (et_notN (x := qD d) (ek_d (ev_is (ev_atr (fs := s.fs) (ek_s 0) rfl rfl) (by rw [hs])))) (fun _ => ew_and1 (et_is (et_gt (ev_call2 c_p_compare 0 (ek_d (ev_call2 c_p_subtract 9 (ek_d (ev_var 5)) (ek_d (ev_var 3)) fun _ z => ⟨(f1 + f2) * fr 1 2, atQ s.ps raw, 300, 300, rfl, c5.za, zsh, by decide, z⟩)) (ek_d (ev_is (ev_atr (fs := s.fs) (ek_s 0) rfl rfl) (by rw [hs]))) fun _ z => ⟨(f1 + f2) * fr 1 2 - atQ s.ps raw, d, _, 300, rfl, c5.za.sub zsh, hz.zo d hs, by decide, z⟩) ev_int) cmp_gt))
      · refine wb_cons (ws_set 4 (we_of (ev_var 6) ?_))
        refine wb_one (ws_setO 7 (wo_of (eo_lst (ea_cons (ek_d (ev_tup (ea_cons (ek_d (ev_var 1)) (ea_cons (ek_d (ev_var 5)) (ea_cons (ek_d (ev_glob 3 g_ONE)) ea_nil))))) ea_nil)) ⟨.d (sD (some f1, some f2)), .inr ⟨_, rfl⟩, ?_⟩))
        unfold StQ.goto StQ.plan
        rw [q]
        rfl
      · refine wb_cons (ws_set 4 (we_of (ev_call2 c_p_far_end 10 (ek_d (ev_var 8)) (ek_d (ev_var 3)) fun _ z => ⟨f1, f2, atQ s.ps raw, 300, 300, rfl, c3, c4, zsh, by decide, z⟩) ?_))
        refine wb_one (ws_setO 7 (wo_callE c_p_pieces_towards 11 (ea_cons (ek_d (ev_var 1)) (ea_cons (ek_d (ev_var 3)) (ea_cons (ek_d (ev_var 5)) (ea_cons (ek_d (ev_atr (fs := s.fs) (ek_s 0) rfl rfl)) ea_nil)))) ⟨raw, atQ s.ps raw, (f1 + f2) * fr 1 2, s.slew, rfl, c5, _, rfl, .d (sD (some f1, some f2)), .inr ⟨_, rfl⟩, ?_⟩ (hnd := List.nodup_nil) (hrd := fun _ _ h => by cases h)))
        unfold StQ.goto StQ.plan
        rw [q]
        rfl
  rintro Γ ⟨F, hF, rfl⟩
  rw [StQ.after_eq] at post
  generalize (s.after raw sp).bound = B at *
  generalize (s.after raw sp).half = Hf at *
  generalize (s.after raw sp).aim = A at *
  have hpn := s.planO_ne raw sp
  have hpl := s.planO_len raw sp
  generalize s.planO raw sp = pl at *
  refine wb_cons (ws_lcL (n' := n_Steering_steer_c1) 10 9 (fun i acc => acc = ((s.ps.take i).filter (fun p => decide (p.1 < raw))).map pD) (fun i d b => ∃ p, s.ps[i]? = some p ∧ b = decide (p.1 < raw)) ⟨⟨_, rfl, by decide +kernel⟩, by decide +kernel, rfl, rfl, rfl, rfl, (by rcases hF with rfl | ⟨d, rfl⟩ <;> rfl), rfl, rfl, (by intro o h; cases h), rfl⟩ (ek_v (ev_atr (x := cD s.ps) (fs := s.fs) (ek_s 0) rfl rfl)) rfl (by rw [List.length_map]; have := hz.np; omega) rfl (fun X' c' hb i d hd => ?_) (fun X' c' hb i d acc hd ht ha hn => ?_) (fun i d acc hd ht ha => ?_) (fun out ho => ?_))
  · rw [List.getElem?_map] at hd
    obtain ⟨p, hp, rfl⟩ := Option.map_eq_some_iff.mp hd
    have sp := hz.zp.at hp
    exact wt_of (et_is (et_lt (ev_call2 (c_p_compare.blk hb) 0 (ek_d (ev_ixt (ev_var 10) ev_int)) (ek_d (ev_var 1)) fun _ z => ⟨p.1, raw, 300, 300, rfl, sp.1, zr, by decide, z⟩) ev_int) cmp_lt) ⟨rfl, p, hp, rfl⟩
  · obtain ⟨p, hp, hq⟩ := ht
    rw [List.getElem?_map, hp] at hd
    cases hd
    refine we_of (ev_var 10) ⟨rfl, ?_⟩
    rw [ha, flt_step hp, ← hq]; simp
  · obtain ⟨p, hp, hq⟩ := ht
    rw [ha, flt_step hp, ← hq]; simp
  rw [List.length_map, List.take_length] at ho
  subst ho
  have hsub : ∀ p ∈ s.ps.filter (fun p => decide (p.1 < raw)), p ∈ s.ps := fun p hp => (List.mem_filter.mp hp).1
  have hlen := List.length_filter_le (fun p : Pc => decide (p.1 < raw)) s.ps
  generalize hk : s.ps.filter (fun p => decide (p.1 < raw)) = kp at *
  have cw : Cw 300 300 70 (kp ++ pl) := ⟨fun p hp => ?_, by decide, ?_⟩
  rotate_left
  · rcases List.mem_append.mp hp with hp | hp
    · exact hz.zp p (hsub p hp)
    · exact zp p hp
  · have := hz.np
    rw [List.length_append]; omega
  have hne : kp ++ pl ≠ [] := fun z => hpn (List.append_eq_nil_iff.mp z).2
  refine wb_cut (fun Γ => Γ = [.own ({ s with ps := tidyQ (kp ++ pl) } : StQ).O, .d (qD raw), .d (oS sp), .d (qD (atQ s.ps raw)), .d (qD B), .d (oD A), .d (qD Hf), .own (.lst (pl.map pD)), F, .own (.lst (kp.map pD)), .no]) (ws_atr 0 no_Steering_steered_pieces (we_callE c_p_tidy 12 (ea_cons (ek_v (ev_is (y := cD (kp ++ pl)) (ev_frz (eo_cat (xs := kp.map pD) (ys := pl.map pD) (ek_s 9) (ek_s 7) (by have := hz.np; rw [List.length_map, List.length_map]; omega))) (by show D.lst _ = D.lst _; rw [List.map_append]))) ea_nil) ⟨kp ++ pl, 300, 300, 70, rfl, hne, cw, _, rfl, s.fs, rfl, Nat.le_of_ble_eq_true rfl, rfl⟩ (hnd := List.nodup_nil) (hrd := fun _ _ h => by cases h))) ?_
  rintro Γ rfl
  refine wb_cut (fun Γ => Γ = [.own ({ s with ps := tidyQ (kp ++ pl), at_ := raw } : StQ).O, .d (qD raw), .d (oS sp), .d (qD (atQ s.ps raw)), .d (qD B), .d (oD A), .d (qD Hf), .own (.lst (pl.map pD)), F, .own (.lst (kp.map pD)), .no]) (ws_atr 0 no_Steering_steered_at (we_of (ev_var 1) ⟨_, rfl, Nat.le_of_ble_eq_true rfl, rfl⟩)) ?_
  rintro Γ rfl
  refine wb_cut (fun Γ => Γ = [.own ({ s with ps := tidyQ (kp ++ pl), at_ := raw, bound := B } : StQ).O, .d (qD raw), .d (oS sp), .d (qD (atQ s.ps raw)), .d (qD B), .d (oD A), .d (qD Hf), .own (.lst (pl.map pD)), F, .own (.lst (kp.map pD)), .no]) (ws_atr 0 no_Steering_steered_bound (we_of (ev_var 4) ⟨_, rfl, Nat.le_of_ble_eq_true rfl, rfl⟩)) ?_
  rintro Γ rfl
  refine wb_cut (fun Γ => Γ = [.own ({ s with ps := tidyQ (kp ++ pl), at_ := raw, bound := B, half := Hf } : StQ).O, .d (qD raw), .d (oS sp), .d (qD (atQ s.ps raw)), .d (qD B), .d (oD A), .d (qD Hf), .own (.lst (pl.map pD)), F, .own (.lst (kp.map pD)), .no]) (ws_atr 0 no_Steering_steered_half (we_of (ev_var 6) ⟨_, rfl, Nat.le_of_ble_eq_true rfl, rfl⟩)) ?_
  rintro Γ rfl
  refine wb_cut (fun Γ => Γ = [.own ({ s with ps := tidyQ (kp ++ pl), at_ := raw, bound := B, half := Hf, aim := A } : StQ).O, .d (qD raw), .d (oS sp), .d (qD (atQ s.ps raw)), .d (qD B), .d (oD A), .d (qD Hf), .own (.lst (pl.map pD)), F, .own (.lst (kp.map pD)), .no]) (ws_atr 0 no_Steering_steered_aim (we_of (ev_var 5) ⟨_, rfl, Nat.le_of_ble_eq_true rfl, rfl⟩)) ?_
  rintro Γ rfl
  exact wb_nil ⟨_, ⟨_, _, _, rfl, rfl, .inl rfl, rfl⟩, post⟩


/-! law -/
abbrev s_law : Stmt := top 70
abbrev n_law : Nm := { N := ["_law_script", "_law_store_here", "_law_args", "_law_first", "_law_raw", "_law_span", "_law_told", "_law_course", "_law_due", "_law_steps", "_law_probes", "_law_steering", "_law_other", "_law_away", "_law_step"], V := [0, 1, 2, 3, 4, 5, 6, 7, 8, 9, 10, 11, 12, 13], as := [0, 1, 2, 3, 4, 5, 6, 7, 8, 9, 10, 11, 12, 13], GN := ["_law_store", "_law_begin", "_law_plus", "_law_spare", "_law_span_near", "_law_now", "_law_bound", "_law_turned", "_law_take", "_law_below", "_law_minus", "_law_course_due", "_law_times", "_law_made", "_law_answers_ok"], k := 8, oi := [], lc := [0, 1, 2, 3, 5, 6, 7, 8, 9, 10, 11, 12, 13], sc := some (defScope s_law) }
abbrev n_law_c1 : Nm := { N := ["_law_script", "_law_store_here", "_law_args", "_law_first", "_law_raw", "_law_span", "_law_told", "_law_course", "_law_due", "_law_steps", "_law_probes", "_law_steering", "_law_other", "_law_away", "_law_step"], V := [4, 14], as := [14], GN := ["_law_plus"], k := 8, oi := [1] }
theorem sc_law : FnScope n_law.N ["_law_script"] (defScope s_law) := ⟨rfl, rfl, rfl, by decide +kernel, rfl, by decide +kernel, by decide +kernel⟩
theorem sb_law : ScOk (defScope s_law) n_law := scOk_of (by decide +kernel)
def S_law : Sg := fun ps Post => ∃ ns : List Int, ps = [.sc ns] ∧ ns.length ≤ 63 ∧ Post (.d (.bl true)) []
theorem bd_law {X : Cx} {c : Cc} (c_l_store : CalF X n_law.k "_law_store" S_l_store) (c_l_begin : CalF X n_law.k "_law_begin" S_l_begin) (c_l_plus : CalF X n_law.k "_law_plus" S_l_plus) (c_l_spare : CalF X n_law.k "_law_spare" S_l_spare) (c_l_span_near : CalF X n_law.k "_law_span_near" S_l_span_near) (c_l_now : CalF X n_law.k "_law_now" S_l_now) (c_l_bound : CalF X n_law.k "_law_bound" S_l_bound) (c_l_turned : CalF X n_law.k "_law_turned" S_l_turned) (c_l_take : CalF X n_law.k "_law_take" S_l_take) (c_l_below : CalF X n_law.k "_law_below" S_l_below) (c_l_minus : CalF X n_law.k "_law_minus" S_l_minus) (c_l_course_due : CalF X n_law.k "_law_course_due" S_l_course_due) (c_l_times : CalF X n_law.k "_law_times" S_l_times) (c_l_made : CalF X n_law.k "_law_made" S_l_made) (c_l_answers_ok : CalF X n_law.k "_law_answers_ok" S_l_answers_ok) (m_Steering_steer : CalM X n_law.k "Steering" "steer" S_Steering_steer) (m_Steering_course_of : CalM X n_law.k "Steering" "course_of" S_Steering_course_of) : ∀ ps Post, S_law ps Post → WB X n_law c (entry n_law.N ps) (defBody s_law) (fnD n_law.oi Post) := by
  rintro ps Post ⟨ns, rfl, hz, post⟩
  show WB X n_law c [.sc ns, .no, .no, .no, .no, .no, .no, .no, .no, .no, .no, .no, .no, .no, .no] _ _
  refine wb_cons (ws_setO 1 (wo_callE c_l_store 0 (ea_cons (ek_s 0) ea_nil) ⟨ns, rfl, hz, .sto, rfl, ?_⟩))
  have key : ∀ (a : KA) (raw : Rat) (sp : Option Spn) (x : DL.D), RawZ a raw → SpanP sp → WB X n_law c [.sc ns, .own .sto, .own (.lst [qD a.first, qD a.y, qD a.err, qD a.slew, qD a.drift, oD a.step]), .d a.k0.D, .d (qD raw), .d (oS sp), .d x, .no, .no, .no, .no, .no, .no, .no, .no] ((defBody s_law).drop 7) (fnD n_law.oi Post) := by
    intro a raw sp x rz hs
    have zr : Sz 300 raw := rz.zr.mono (by decide)
    have k0z := k0_sz rz.b
    have tz := rz.turn hs
    have Z := turned_z rz hs
    have St := steered (rz.go hs)
    have An := fun ts ht => ans_after (ts := ts) rz hs ht
    have sz := steer_z rz hs
    have az := after_sz rz hs
    refine wb_cut (fun Γ => Γ = [.sc ns, .own .sto, .own (.lst [qD a.first, qD a.y, qD a.err, qD a.slew, qD a.drift, oD a.step]), .d a.k0.D, .d (qD raw), .d (oS sp), .d (turnQ a a.k0 raw sp).D, .no, .no, .no, .no, .no, .no, .no, .no]) (ws_set 6 (we_of (ev_call4 c_l_turned 7 (ek_s 2) (ek_d (ev_var 3)) (ek_d (ev_var 4)) (ek_d (ev_var 5)) fun _ z => ⟨a, a.k0, raw, sp, rfl, tz, z⟩) rfl)) ?_
    rintro Γ rfl
    generalize turnQ a a.k0 raw sp = t at *
    refine wb_frz 2 ?_
    show WB X n_law c [.sc ns, .own .sto, .d a.D, .d a.k0.D, .d (qD raw), .d (oS sp), .d t.D, .no, .no, .no, .no, .no, .no, .no, .no] _ _
    refine wb_cut (fun Γ => Γ = [.sc ns, .own .sto, .d a.D, .d a.k0.D, .d (qD raw), .d (oS sp), .d t.D, .own (.lst [pD (a.first, a.y, 1)]), .no, .no, .no, .no, .no, .no, .no]) (ws_setO 7 (wo_of (eo_lst (ea_cons (ek_d (ev_tup (ea_cons (ek_d (ev_ix (x := a.D) (z := qD a.first) (ek_s 2) ev_int rfl)) (ea_cons (ek_d (ev_ix (x := a.D) (z := qD a.y) (ek_s 2) ev_int rfl)) (ea_cons (ek_d (ev_tup2 ev_int ev_int)) ea_nil))))) ea_nil)) rfl)) ?_
    rintro Γ rfl
    refine wb_cut (fun Γ => Γ = [.sc ns, .own .sto, .d a.D, .d a.k0.D, .d (qD raw), .d (oS sp), .d t.D, .own (.lst [pD (a.first, a.y, 1)]), .own (.lst ((dueQ a t.k t.j).map pD)), .no, .no, .no, .no, .no, .no]) (ws_setO 8 (wo_of (eo_call3 c_l_course_due 11 (ek_s 2) (ek_d (ev_ixt (x := t.D) (z := t.k.D) (ev_var 6) ev_int)) (ek_d (ev_ixt (x := t.D) (z := .bl t.j) (ev_var 6) ev_int)) fun _ z => ⟨a, t.k, t.j, rfl, rz.b.sz, Z.zk, Z.ze, z⟩) rfl)) ?_
    rintro Γ rfl
    have zlh : Sz 240 (t.k.len * fr 1 2) := (Z.zl.mul sz_half).mono (by decide)
    refine wb_cut (fun Γ => ∃ ss : List Rat, Γ = [.sc ns, .own .sto, .d a.D, .d a.k0.D, .d (qD raw), .d (oS sp), .d t.D, .own (.lst [pD (a.first, a.y, 1)]), .own (.lst ((dueQ a t.k t.j).map pD)), .own (.lst (ss.map qD)), .no, .no, .no, .no, .no] ∧ ss.length = 5 ∧ ∀ x ∈ ss, 0 ≤ x ∧ Sz 240 x) (ws_setO 9 (wo_lst (wa_cons (wk_ek (ek_d (ev_is (y := qD 0) (ev_tup2 ev_int ev_int) rfl)) (wa_cons (wk_e (we_draw c_l_spare 3 1 fun p hp => wa_cons (wk_ek (ek_d (ev_ixt (x := t.k.D) (z := qD t.k.len) (ev_ixt (x := t.D) (z := t.k.D) (ev_var 6) ev_int) ev_int)) (wa_cons (wk_ek (ek_d (ev_call2 c_l_times 12 (ek_v (ev_ixt (x := t.k.D) (z := qD t.k.len) (ev_ixt (x := t.D) (z := t.k.D) (ev_var 6) ev_int) ev_int)) (ek_v (ev_q ev_int ev_int)) fun _ z => ⟨t.k.len, fr 1 2, 233, 2, rfl, Z.zl, sz_half, by decide, z⟩)) (wa_cons (wk_e (we_draw c_l_spare 3 1 fun r hr => wa_nil ⟨_, rfl, Nat.le_of_ble_eq_true rfl, [0, p, t.k.len, t.k.len * fr 1 2, r], rfl, rfl, fun x hx => ?_⟩))))))))))))) ?_
    · simp only [List.mem_cons, List.not_mem_nil, or_false] at hx
      have h2 : (0 : Rat) ≤ fr 1 2 := by decide +kernel
      have l0 := St.le
      have p0 := hp.2
      have r0 := hr.2
      rcases hx with rfl | rfl | rfl | rfl | rfl
      · exact ⟨Rat.le_refl, sz_zero⟩
      · exact ⟨by grind, (szSpare hp).mono (by decide)⟩
      · exact ⟨l0, Z.zl.mono (by decide)⟩
      · exact ⟨Rat.mul_nonneg l0 h2, zlh⟩
      · exact ⟨by grind, (szSpare hr).mono (by decide)⟩
    rintro Γ ⟨ss, rfl, hl5, hss⟩
    refine wb_cut (fun Γ => Γ = [.sc ns, .own .sto, .d a.D, .d a.k0.D, .d (qD raw), .d (oS sp), .d t.D, .own (.lst [pD (a.first, a.y, 1)]), .own (.lst ((dueQ a t.k t.j).map pD)), .own (.lst (ss.map qD)), .own (.lst ((ss.map (raw + ·)).map qD)), .no, .no, .no, .no]) (ws_lcL (n' := n_law_c1) 14 10 (fun i acc => acc = ((ss.take i).map (raw + ·)).map qD) (fun _ _ b => b = true) ⟨⟨_, rfl, by decide +kernel⟩, by decide +kernel, rfl, rfl, rfl, rfl, rfl, rfl, rfl, (by intro o h; cases h), rfl⟩ (ek_s 9) rfl (by rw [List.length_map]; omega) rfl (fun X' c' hb i d hd => ⟨rfl, rfl⟩) (fun X' c' hb i d acc hd _ ha hn => ?_) (fun i d acc hd ht ha => (by cases ht)) (fun out ho => ?_)) ?_
    · rw [List.getElem?_map] at hd
      obtain ⟨x, hx, rfl⟩ := Option.map_eq_some_iff.mp hd
      have zx := (hss x (List.mem_of_getElem? hx)).2
      refine we_of (ev_call2 (c_l_plus.blk hb) 0 (ek_v (ev_var 4)) (ek_v (ev_var 14)) fun _ z => ⟨raw, x, 300, 240, rfl, zr, zx, by decide, z⟩) ⟨rfl, ?_⟩
      rw [ha, List.take_succ, hx]
      simp
    · rw [List.length_map, List.take_length] at ho
      subst ho
      rfl
    rintro Γ rfl
    refine wb_cut (fun Γ => Γ = [.sc ns, .own .sto, .d a.D, .d a.k0.D, .d (qD raw), .d (oS sp), .d t.D, .own (.lst [pD (a.first, a.y, 1)]), .own (.lst ((dueQ a t.k t.j).map pD)), .own (.lst (ss.map qD)), .own (.lst ((ss.map (raw + ·) ++ [a.first, (a.first + raw) * fr 1 2]).map qD)), .no, .no, .no, .no]) (ws_setO 10 (wo_of (eo_cat (xs := (ss.map (raw + ·)).map qD) (ys := [qD a.first, qD ((a.first + raw) * fr 1 2)]) (ek_s 10) (ek_d (ev_frz (eo_lst (ea_cons (ek_d (ev_ix (x := a.D) (z := qD a.first) (ek_s 2) ev_int rfl)) (ea_cons (ek_d (ev_call2 c_l_times 12 (ek_v (ev_call2 c_l_plus 2 (ek_v (ev_ix (x := a.D) (z := qD a.first) (ek_s 2) ev_int rfl)) (ek_v (ev_var 4)) fun _ z => ⟨a.first, raw, 300, 300, rfl, rz.b.sz.zf, zr, by decide, z⟩)) (ek_v (ev_q ev_int ev_int)) fun _ z => ⟨a.first + raw, fr 1 2, _, 2, rfl, rz.b.sz.zf.add zr, sz_half, by decide, z⟩)) ea_nil))))) (by rw [List.length_map, List.length_map, hl5]; exact Nat.le_of_ble_eq_true rfl)) (by rw [List.map_append]; rfl))) ?_
    rintro Γ rfl
    have tsz : TsZ a (ss.map (raw + ·) ++ [a.first, (a.first + raw) * fr 1 2]) := by
      have ge := rz.ge
      have zz := rz.zr
      have zf := rz.b.zf
      have e2 : fr 1 2 = 1 / 2 := by decide +kernel
      have hm : ∀ t ∈ ss.map (raw + ·) ++ [a.first, (a.first + raw) * fr 1 2], Sz 300 t ∧ ¬ t < a.first := by
        intro t ht
        rcases List.mem_append.mp ht with ht | ht
        · obtain ⟨x, hx, rfl⟩ := List.mem_map.mp ht
          obtain ⟨h1, h2⟩ := hss x hx
          exact ⟨(zz.add h2).mono (by decide), by grind⟩
        · simp only [List.mem_cons, List.not_mem_nil, or_false] at ht
          rcases ht with rfl | rfl
          · exact ⟨zf.mono (by decide), by grind⟩
          · exact ⟨((zf.add zz).mul sz_half).mono (by decide), by rw [e2]; grind⟩
      exact ⟨by rw [List.length_append, List.length_map, hl5]; exact Nat.le_of_ble_eq_true rfl, fun t ht => (hm t ht).1, fun t ht => (hm t ht).2⟩
    have A0 := ans_first rz.b tsz
    have A1 := An _ tsz
    have A2 := ans_after rz span_none tsz
    rw [due_none] at A2
    generalize ss.map (raw + ·) ++ [a.first, (a.first + raw) * fr 1 2] = qs at *
    refine wb_cut (fun Γ => Γ = [.sc ns, .own .sto, .d a.D, .d a.k0.D, .d (qD raw), .d (oS sp), .d t.D, .own (.lst [pD (a.first, a.y, 1)]), .own (.lst ((dueQ a t.k t.j).map pD)), .own (.lst (ss.map qD)), .own (.lst (qs.map qD)), .own a.st.O, .no, .no, .no]) (ws_setO 11 (wo_callE c_l_made 13 (ea_cons (ek_s 2) ea_nil) ⟨a, rfl, rz.b.sz, rz.b.good, _, rfl, rfl⟩)) ?_
    rintro Γ rfl
    refine wb_cut (fun Γ => Γ = [.sc ns, .own .sto, .d a.D, .d a.k0.D, .d (qD raw), .d (oS sp), .d t.D, .own (.lst [pD (a.first, a.y, 1)]), .own (.lst ((dueQ a t.k t.j).map pD)), .own (.lst (ss.map qD)), .own (.lst (qs.map qD)), .own a.st.O, .own a.st.O, .no, .no]) (ws_setO 12 (wo_callE c_l_made 13 (ea_cons (ek_s 2) ea_nil) ⟨a, rfl, rz.b.sz, rz.b.good, _, rfl, rfl⟩)) ?_
    rintro Γ rfl
    refine wb_cut (fun Γ => Γ = [.sc ns, .own .sto, .d a.D, .d a.k0.D, .d (qD raw), .d (oS sp), .d t.D, .own (.lst [pD (a.first, a.y, 1)]), .own (.lst ((dueQ a t.k t.j).map pD)), .own (.lst (ss.map qD)), .own (.lst (qs.map qD)), .own a.st.O, .own a.st.O, .no, .no]) (ws_ifE (q := false) (et_not (et_val (p := true) (we_callE c_l_answers_ok 14 (ea_cons (ek_s 2) (ea_cons (ek_s 11) (ea_cons (ek_d (ev_var 3)) (ea_cons (ek_d ev_non) (ea_cons (ek_s 7) (ea_cons (ek_s 10) ea_nil)))))) ⟨a, a.st, a.k0, none, [(a.first, a.y, 1)], qs, rfl, A0, _, rfl, rfl, rfl⟩ (hnd := List.nodup_nil) (hrd := fun _ _ h => by cases h)))) (fun h => by cases h) (fun _ => wb_nil rfl)) ?_
    rintro Γ rfl
    refine wb_cut (fun Γ => Γ = [.sc ns, .own .sto, .d a.D, .d a.k0.D, .d (qD raw), .d (oS sp), .d t.D, .own (.lst [pD (a.first, a.y, 1)]), .own (.lst ((dueQ a t.k t.j).map pD)), .own (.lst (ss.map qD)), .own (.lst (qs.map qD)), .own (a.st.after raw sp).O, .own a.st.O, .no, .no]) (ws_if (wt_cmp dop_notN (nomark _) (wk_e (we_imeth m_Steering_steer (ek_o 11) (ea_cons (ek_d (ev_var 4)) (ea_cons (ek_d (ev_var 5)) ea_nil)) ⟨a.st, raw, sp, rfl, sz, .non, rfl, wk_ek (ek_d ev_non) ⟨.non, .non, rfl, rfl, rfl, _, rfl, fun q => (by cases q), fun _ => wb_nil rfl⟩⟩ (fs := a.st.fs) (hnd := List.pairwise_singleton _ _) (hrd := fun _ h => by cases h))))) ?_
    rintro Γ rfl
    generalize a.st.after raw sp = s1 at *
    refine wb_cut (fun Γ => Γ = [.sc ns, .own .sto, .d a.D, .d a.k0.D, .d (qD raw), .d (oS sp), .d t.D, .own (.lst [pD (a.first, a.y, 1)]), .own (.lst ((dueQ a t.k t.j).map pD)), .own (.lst (ss.map qD)), .own (.lst (qs.map qD)), .own s1.O, .own a.st.O, .no, .no]) (ws_ifE (q := false) (et_not (et_val (p := true) (we_callE c_l_answers_ok 14 (ea_cons (ek_s 2) (ea_cons (ek_s 11) (ea_cons (ek_d (ev_ixt (x := t.D) (z := t.k.D) (ev_var 6) ev_int)) (ea_cons (ek_d (ev_ixt (x := t.D) (z := oD t.aim) (ev_var 6) ev_int)) (ea_cons (ek_s 8) (ea_cons (ek_s 10) ea_nil)))))) ⟨a, s1, t.k, t.aim, dueQ a t.k t.j, qs, rfl, A1, _, rfl, rfl, rfl⟩ (hnd := List.nodup_nil) (hrd := fun _ _ h => by cases h)))) (fun h => by cases h) (fun _ => wb_nil rfl)) ?_
    rintro Γ rfl
    refine wb_cut (fun Γ => Γ = [.sc ns, .own .sto, .d a.D, .d a.k0.D, .d (qD raw), .d (oS sp), .d t.D, .own (.lst [pD (a.first, a.y, 1)]), .own (.lst ((dueQ a t.k t.j).map pD)), .own (.lst (ss.map qD)), .own (.lst (qs.map qD)), .own s1.O, .own a.st.O, .no, .no]) (ws_expr (we_methT dm_clear PySem.F.plainAttrs_list PySem.F.slot_list_clear PySem.F.type_list_clear (wo_imeth0 m_Steering_course_of (ek_s 11) ⟨s1, rfl, az, A1.ne, _, rfl, _, rfl, rfl, rfl⟩ (fs := s1.fs)))) ?_
    rintro Γ rfl
    refine wb_cut (fun Γ => Γ = [.sc ns, .own .sto, .d a.D, .d a.k0.D, .d (qD raw), .d (oS sp), .d t.D, .own (.lst [pD (a.first, a.y, 1)]), .own (.lst ((dueQ a t.k t.j).map pD)), .own (.lst (ss.map qD)), .own (.lst (qs.map qD)), .own s1.O, .own a.st.O, .no, .no]) (ws_ifE (q := false) (et_not (et_val (p := true) (we_callE c_l_answers_ok 14 (ea_cons (ek_s 2) (ea_cons (ek_s 12) (ea_cons (ek_d (ev_var 3)) (ea_cons (ek_d ev_non) (ea_cons (ek_s 7) (ea_cons (ek_s 10) ea_nil)))))) ⟨a, a.st, a.k0, none, [(a.first, a.y, 1)], qs, rfl, A0, _, rfl, rfl, rfl⟩ (hnd := List.nodup_nil) (hrd := fun _ _ h => by cases h)))) (fun h => by cases h) (fun _ => wb_nil rfl)) ?_
    rintro Γ rfl
    refine wb_cut (fun Γ => Γ = [.sc ns, .own .sto, .d a.D, .d a.k0.D, .d (qD raw), .d (oS sp), .d t.D, .own (.lst [pD (a.first, a.y, 1)]), .own (.lst ((dueQ a t.k t.j).map pD)), .own (.lst (ss.map qD)), .own (.lst (qs.map qD)), .own s1.O, .own (a.st.after raw none).O, .no, .no]) (ws_expr (we_imeth m_Steering_steer (ek_o 12) (ea_cons (ek_d (ev_var 4)) (ea_cons (ek_d ev_non) ea_nil)) ⟨a.st, raw, none, rfl, steer_z rz span_none, .non, rfl, rfl⟩ (fs := a.st.fs) (hnd := List.pairwise_singleton _ _) (hrd := fun _ h => by cases h))) ?_
    rintro Γ rfl
    refine wb_cut (fun Γ => Γ = [.sc ns, .own .sto, .d a.D, .d a.k0.D, .d (qD raw), .d (oS sp), .d t.D, .own (.lst [pD (a.first, a.y, 1)]), .own (.lst ((dueQ a t.k t.j).map pD)), .own (.lst (ss.map qD)), .own (.lst (qs.map qD)), .own s1.O, .own (a.st.after raw none).O, .d (turnQ a a.k0 raw none).D, .no]) (ws_set 13 (we_of (ev_call4 c_l_turned 7 (ek_s 2) (ek_d (ev_var 3)) (ek_d (ev_var 4)) (ek_d ev_non) fun _ z => ⟨a, a.k0, raw, none, rfl, rz.turn span_none, z⟩) rfl)) ?_
    rintro Γ rfl
    generalize a.st.after raw none = s2 at *
    refine wb_cut (fun Γ => Γ = [.sc ns, .own .sto, .d a.D, .d a.k0.D, .d (qD raw), .d (oS sp), .d t.D, .own (.lst [pD (a.first, a.y, 1)]), .own (.lst ((dueQ a t.k t.j).map pD)), .own (.lst (ss.map qD)), .own (.lst (qs.map qD)), .own s1.O, .own s2.O, .d (turnQ a a.k0 raw none).D, .no]) (ws_ifE (q := false) (et_not (et_val (p := true) (we_callE c_l_answers_ok 14 (ea_cons (ek_s 2) (ea_cons (ek_s 12) (ea_cons (ek_d (ev_ixt (x := (turnQ a a.k0 raw none).D) (z := (turnQ a a.k0 raw none).k.D) (ev_var 13) ev_int)) (ea_cons (ek_d ev_non) (ea_cons (ek_s 7) (ea_cons (ek_s 10) ea_nil)))))) ⟨a, s2, (turnQ a a.k0 raw none).k, none, [(a.first, a.y, 1)], qs, rfl, A2, _, rfl, rfl, rfl⟩ (hnd := List.nodup_nil) (hrd := fun _ _ h => by cases h)))) (fun h => by cases h) (fun _ => wb_nil rfl)) ?_
    rintro Γ rfl
    exact wb_one (ws_ret (we_of (we_callE c_l_answers_ok 14 (ea_cons (ek_s 2) (ea_cons (ek_s 11) (ea_cons (ek_d (ev_ixt (x := t.D) (z := t.k.D) (ev_var 6) ev_int)) (ea_cons (ek_d (ev_ixt (x := t.D) (z := oD t.aim) (ev_var 6) ev_int)) (ea_cons (ek_s 8) (ea_cons (ek_s 10) ea_nil)))))) ⟨a, s1, t.k, t.aim, dueQ a t.k t.j, qs, rfl, A1, _, rfl, rfl, rfl⟩ (hnd := List.nodup_nil) (hrd := fun _ _ h => by cases h)) ⟨_, [], rfl, rfl, post⟩))
  refine wb_cut (fun Γ => ∃ a : KA, Γ = [.sc ns, .own .sto, .own (.lst [qD a.first, qD a.y, qD a.err, qD a.slew, qD a.drift, oD a.step]), .no, .no, .no, .no, .no, .no, .no, .no, .no, .no, .no, .no] ∧ BeginP a) (ws_setO 2 (wo_sto c_l_begin 1 1 (wa_nil ⟨rfl, [], rfl, rfl, by simp [readIx], fun Q q => ⟨rfl, fun a ha => q _ ⟨_, rfl, a, rfl, ha⟩⟩⟩))) ?_
  rintro Γ ⟨a, rfl, ha⟩
  refine wb_cut (fun Γ => Γ = [.sc ns, .own .sto, .own (.lst [qD a.first, qD a.y, qD a.err, qD a.slew, qD a.drift, oD a.step]), .d a.k0.D, .no, .no, .no, .no, .no, .no, .no, .no, .no, .no, .no]) (ws_set 3 (we_of (ev_tup (ea_cons (ek_d (ev_ix (x := a.D) (z := qD a.first) (ek_s 2) ev_int rfl)) (ea_cons (ek_d (ev_ix (x := a.D) (z := qD a.y) (ek_s 2) ev_int rfl)) (ea_cons (ek_d (ev_tup2 ev_int ev_int)) (ea_cons (ek_d (ev_tup2 ev_int ev_int)) (ea_cons (ek_d (ev_ix (x := a.D) (z := qD a.err) (ek_s 2) ev_int rfl)) (ea_cons (ek_d ev_non) ea_nil))))))) rfl)) ?_
  rintro Γ rfl
  have bz : ∀ o, SzO 300 o → GoodO o → BegZ { a with step := o } := fun o h1 h2 => beg_z ha h1 h2
  have zo0 : SzO 300 a.step := fun q h => (show Sz 6 q from Sd.sz (ha.ov q h).1 (by decide) (show 60 < 2 ^ 6 by decide) (by decide)).mono (by decide)
  have bza := bz a.step zo0 (fun q h => (ha.ov q h).2)
  have zf : Sz 7 a.first := bza.zf
  refine wb_cut (fun Γ => ∃ raw : Rat, Γ = [.sc ns, .own .sto, .own (.lst [qD a.first, qD a.y, qD a.err, qD a.slew, qD a.drift, oD a.step]), .d a.k0.D, .d (qD raw), .no, .no, .no, .no, .no, .no, .no, .no, .no, .no] ∧ ∃ p, PSpare p ∧ raw = a.first + p) (ws_set 4 (we_call2v c_l_plus 2 (we_of (ev_ix (x := a.D) (z := qD a.first) (ek_s 2) ev_int rfl) (we_draw c_l_spare 3 1 fun p hp => ⟨a.first, p, 7, 6, rfl, zf, szSpare hp, by decide, _, rfl, a.first + p, rfl, p, hp, rfl⟩)))) ?_
  rintro Γ ⟨raw, rfl, hp⟩
  have rzo : ∀ o, SzO 300 o → GoodO o → RawZ { a with step := o } raw := fun o h1 h2 => ⟨bz o h1 h2, hp⟩
  have rza : RawZ a raw := rzo a.step zo0 (fun q h => (ha.ov q h).2)
  have zr : Sz 300 raw := rza.zr.mono (by decide)
  have k0z := k0_sz rza.b
  refine wb_cut (fun Γ => ∃ sp : Option Spn, Γ = [.sc ns, .own .sto, .own (.lst [qD a.first, qD a.y, qD a.err, qD a.slew, qD a.drift, oD a.step]), .d a.k0.D, .d (qD raw), .d (oS sp), .no, .no, .no, .no, .no, .no, .no, .no, .no] ∧ SpanP sp) (ws_set 5 (we_sto c_l_span_near 4 1 (sto_ea (ea_cons (ek_d (ev_call2 c_l_now 5 (ek_d (ev_var 3)) (ek_d (ev_var 4)) fun _ z => ⟨a.k0, raw, rfl, k0z, zr, z⟩)) (ea_cons (ek_d (ev_call3 c_l_bound 6 (ek_s 2) (ek_d (ev_var 3)) (ek_d (ev_var 4)) fun _ z => ⟨a, a.k0, raw, rfl, rza.b.sz, k0z, zr, z⟩)) ea_nil)) (fun Q q => ⟨a.k0.now raw, a.k0.bnd a.slew a.drift raw, rfl, rza.zn.mono (by decide), rza.zb, rza.b0, fun sp hs => q _ ⟨_, rfl, sp, rfl, hs⟩⟩) (hr := by simp [readIx])))) ?_
  rintro Γ ⟨sp, rfl, hs⟩
  have rz0 : RawZ { a with step := none } raw := rzo none (fun q z => by cases z) (fun q z => by cases z)
  have Z0 := turned_z rz0 hs
  have tz0 := rz0.turn hs
  refine wb_cut (fun Γ => Γ = [.sc ns, .own .sto, .own (.lst [qD a.first, qD a.y, qD a.err, qD a.slew, qD a.drift, oD a.step]), .d a.k0.D, .d (qD raw), .d (oS sp), .d (turnQ { a with step := none } a.k0 raw sp).D, .no, .no, .no, .no, .no, .no, .no, .no]) (ws_set 6 (we_of (ev_call4 c_l_turned 7 (ek_v (ev_frz (eo_cat (xs := [qD a.first, qD a.y, qD a.err, qD a.slew, qD a.drift]) (ys := [.non]) (ek_d (ev_frz (eo_slice (l1 := none) (h1 := some 5) (xs := [qD a.first, qD a.y, qD a.err, qD a.slew, qD a.drift, oD a.step]) (ek_s 2) ep0 (ep1 ev_int)))) (ek_d (ev_frz (eo_lst (ea_cons (ek_d ev_non) ea_nil)))) (Nat.le_of_ble_eq_true rfl)))) (ek_d (ev_var 3)) (ek_d (ev_var 4)) (ek_d (ev_var 5)) fun _ z => ⟨{ a with step := none }, a.k0, raw, sp, rfl, tz0, z⟩) rfl)) ?_
  rintro Γ rfl
  have za0 := Z0.za
  change SzO 200 (turnQ { a with step := none } a.k0 raw sp).aim at za0
  clear Z0 tz0
  generalize turnQ { a with step := none } a.k0 raw sp = t at *
  refine wb_cut (fun Γ => ∃ o : Option Rat, Γ = [.sc ns, .own .sto, .own (.lst [qD a.first, qD a.y, qD a.err, qD a.slew, qD a.drift, oD o]), .d a.k0.D, .d (qD raw), .d (oS sp), .d t.D, .no, .no, .no, .no, .no, .no, .no, .no] ∧ SzO 300 o ∧ GoodO o) ?_ ?_
  · have zn := rza.zn
    cases e : t.aim with
    | none => exact ws_ifE (q := false) (EW.t (ew_and (p := false) (q := false) (et_is (et_notN (x := oD t.aim) (ek_d (ev_ixt (x := t.D) (z := oD t.aim) (ev_var 6) ev_int))) (by rw [e]; rfl)) (fun z => by cases z))) (fun q => by cases q) (fun _ => wb_nil ⟨a.step, rfl, zo0, fun q h => (ha.ov q h).2⟩)
    | some m =>
      have zm : Sz 200 m := za0 m e
      refine ws_if (WW.t (ww_and (wt_of (et_is (q := true) (et_notN (x := oD t.aim) (ek_d (ev_ixt (x := t.D) (z := oD t.aim) (ev_var 6) ev_int))) (by rw [e]; rfl)) ⟨fun _ => ww_and (wt_cmp dop_eqI (nomark _) (wk_e (we_takeI (m := 3) c_l_take 8 1 fun j hj => wk_e (we_of ev_int ⟨_, _, rfl, rfl, _, _, rfl, rfl, trivial, _, rfl, fun _ => ww_and1 (wt_of (et_not (et_val (ev_call2 c_l_below 9 (ek_v (x := qD m) (ev_is (ev_ixt (x := t.D) (z := oD t.aim) (ev_var 6) ev_int) (by rw [e]; rfl))) (ek_v (ev_call2 c_l_now 5 (ek_d (ev_var 3)) (ek_d (ev_var 4)) fun _ z => ⟨a.k0, raw, rfl, k0z, zr, z⟩)) fun _ z => ⟨m, a.k0.now raw, 200, 21, rfl, zm, zn, by decide, z⟩))) ⟨fun q => ?_, fun _ => wb_nil ⟨a.step, rfl, zo0, fun q h => (ha.ov q h).2⟩⟩), fun _ => ⟨fun q => (by cases q), fun _ => wb_nil ⟨a.step, rfl, zo0, fun q h => (ha.ov q h).2⟩⟩⟩)))), fun q => (by cases q)⟩)))
      refine wb_one (ws_setIx 2 (we_of (ev_call2 c_l_minus 10 (ek_v (x := qD m) (ev_is (ev_ixt (x := t.D) (z := oD t.aim) (ev_var 6) ev_int) (by rw [e]; rfl))) (ek_v (ev_call2 c_l_now 5 (ek_d (ev_var 3)) (ek_d (ev_var 4)) fun _ z => ⟨a.k0, raw, rfl, k0z, zr, z⟩)) fun _ z => ⟨m, a.k0.now raw, 200, 21, rfl, zm, zn, by decide, z⟩) (we_of ev_int ⟨_, 5, 5, rfl, rfl, rfl, some (m - a.k0.now raw), rfl, fun q z => ?_, fun q z => ?_⟩)))
      · cases z; exact (zm.sub zn).mono (by decide)
      · cases z
        have := of_decide_eq_false (by simpa using q : decide (m < a.k0.now raw) = false)
        grind
  rintro Γ ⟨o, rfl, h1, h2⟩
  exact key { a with step := o } raw sp _ (rzo o h1 h2) hs


/-! ### what the top has written -/
abbrev i_BadRate : Stmt := initOf (top 5)
abbrev i_BeforeStart : Stmt := initOf (top 3)
structure Wd (P : Program) (K : PySem.W.Frag) (mg : Str → Option Value) where
  d_l_store : DefAt K mg "_law_store" s_l_store ["_law_script"]
  d_l_feed : DefAt K mg "_law_feed" s_l_feed ["_law_store_here"]
  d_l_mixed : DefAt K mg "_law_mixed" s_l_mixed ["_law_store_here"]
  d_l_take : DefAt K mg "_law_take" s_l_take ["_law_store_here", "_law_many"]
  d_l_frac : DefAt K mg "_law_frac" s_l_frac ["_law_n", "_law_d"]
  d_l_times : DefAt K mg "_law_times" s_l_times ["_law_a", "_law_b"]
  d_l_slews : DefAt K mg "_law_slews" s_l_slews ["_law_store_here"]
  d_l_pick : DefAt K mg "_law_pick" s_l_pick ["_law_store_here", "_law_things"]
  d_l_part : DefAt K mg "_law_part" s_l_part ["_law_store_here"]
  d_l_plus : DefAt K mg "_law_plus" s_l_plus ["_law_a", "_law_b"]
  d_l_spare : DefAt K mg "_law_spare" s_l_spare ["_law_store_here"]
  d_l_above : DefAt K mg "_law_above" s_l_above ["_law_store_here"]
  d_l_over_step : DefAt K mg "_law_over_step" s_l_over_step ["_law_store_here"]
  d_l_begin : DefAt K mg "_law_begin" s_l_begin ["_law_store_here"]
  d_l_minus : DefAt K mg "_law_minus" s_l_minus ["_law_a", "_law_b"]
  d_l_span_near : DefAt K mg "_law_span_near" s_l_span_near ["_law_store_here", "_law_now_here", "_law_bound_here"]
  d_l_below : DefAt K mg "_law_below" s_l_below ["_law_a", "_law_b"]
  d_l_now : DefAt K mg "_law_now" s_l_now ["_law_state", "_law_raw"]
  d_l_bound : DefAt K mg "_law_bound" s_l_bound ["_law_args", "_law_state", "_law_raw"]
  d_l_both : DefAt K mg "_law_both" s_l_both ["_law_a", "_law_b"]
  d_l_over : DefAt K mg "_law_over" s_l_over ["_law_a", "_law_b"]
  d_l_turned : DefAt K mg "_law_turned" s_l_turned ["_law_args", "_law_state", "_law_raw", "_law_span"]
  d_l_course_due : DefAt K mg "_law_course_due" s_l_course_due ["_law_args", "_law_state", "_law_jumped"]
  d_p_compare : DefAt K mg "compare" s_p_compare ["a", "b"]
  d_p_require_slew_and_drift : DefAt K mg "require_slew_and_drift" s_p_require_slew_and_drift ["slew", "drift"]
  d_Steering___init__ : InitAt K mg "Steering" "Steering.__init__" s_Steering___init__ ["self", "raw", "shown", "error", "slew", "drift", "step_over"] [("drift", .ref (kwAt (.meth "Steering" "__init__") "drift" K)), ("step_over", .non)]
  d_l_made : DefAt K mg "_law_made" s_l_made ["_law_args"]
  d_l_is_int : DefAt K mg "_law_is_int" s_l_is_int ["_law_value"]
  d_l_same : DefAt K mg "_law_same" s_l_same ["_law_value", "_law_due"]
  d_l_shown : DefAt K mg "_law_shown" s_l_shown ["_law_course", "_law_t"]
  d_Steering_aim : GetAt K "Steering" "aim" "Steering.aim" s_Steering_aim ["self"]
  d_p_common_factor : DefAt K mg "common_factor" s_p_common_factor ["a", "b"]
  d_p_add : DefAt K mg "add" s_p_add ["a", "b"]
  d_p_negate : DefAt K mg "negate" s_p_negate ["a"]
  d_p_subtract : DefAt K mg "subtract" s_p_subtract ["a", "b"]
  d_p_multiply : DefAt K mg "multiply" s_p_multiply ["a", "b"]
  d_p_line_at : DefAt K mg "line_at" s_p_line_at ["piece", "t"]
  d_p_jump_at : DefAt K mg "jump_at" s_p_jump_at ["course", "at"]
  d_p_tidy : DefAt K mg "tidy" s_p_tidy ["course"]
  d_Steering_course_of : MethAt K "Steering" "course_of" "Steering.course_of" s_Steering_course_of ["self"]
  d_p_require_started : DefAt K mg "require_started" s_p_require_started ["course", "t"]
  d_p_place_in_force : DefAt K mg "place_in_force" s_p_place_in_force ["course", "t"]
  d_p_shown_at : DefAt K mg "shown_at" s_p_shown_at ["course", "t"]
  d_Steering_display : MethAt K "Steering" "display" "Steering.display" s_Steering_display ["self", "raw"]
  d_p_larger : DefAt K mg "larger" s_p_larger ["a", "b"]
  d_p_bound_behind : DefAt K mg "bound_behind" s_p_bound_behind ["bound", "half", "length", "slew", "drift"]
  d_Steering_error_at : MethAt K "Steering" "error_at" "Steering.error_at" s_Steering_error_at ["self", "raw"]
  d_l_answers_ok : DefAt K mg "_law_answers_ok" s_l_answers_ok ["_law_args", "_law_steering", "_law_state", "_law_aim", "_law_course", "_law_probes"]
  d_p_smaller : DefAt K mg "smaller" s_p_smaller ["a", "b"]
  d_p_ends_cross : DefAt K mg "ends_cross" s_p_ends_cross ["low", "high"]
  d_p_meet : DefAt K mg "meet" s_p_meet ["a", "b"]
  d_p_span_to_follow : DefAt K mg "span_to_follow" s_p_span_to_follow ["span", "shown", "bound"]
  d_p_middle_of : DefAt K mg "middle_of" s_p_middle_of ["span"]
  d_p_divide : DefAt K mg "divide" s_p_divide ["a", "b"]
  d_p_width_of : DefAt K mg "width_of" s_p_width_of ["span"]
  d_p_distance : DefAt K mg "distance" s_p_distance ["a", "b"]
  d_p_far_end : DefAt K mg "far_end" s_p_far_end ["span", "t"]
  d_p_pieces_towards : DefAt K mg "pieces_towards" s_p_pieces_towards ["raw", "shown", "aim", "slew"]
  d_Steering_steer : MethAt K "Steering" "steer" "Steering.steer" s_Steering_steer ["self", "raw", "span"]
  d_law : DefAt K mg "law" s_law ["_law_script"]
  no_Steering_slew_told : NoAttr K (He.ga K "Steering") "slew_told"
  no_Steering_drift_told : NoAttr K (He.ga K "Steering") "drift_told"
  no_Steering_step_told : NoAttr K (He.ga K "Steering") "step_told"
  no_Steering_steered_at : NoAttr K (He.ga K "Steering") "steered_at"
  no_Steering_steered_pieces : NoAttr K (He.ga K "Steering") "steered_pieces"
  no_Steering_steered_bound : NoAttr K (He.ga K "Steering") "steered_bound"
  no_Steering_steered_half : NoAttr K (He.ga K "Steering") "steered_half"
  no_Steering_steered_aim : NoAttr K (He.ga K "Steering") "steered_aim"
  kd_Steering_drift : ∀ R, Rp K R (.tup [.int 0, .int 1]) (.ref (kwAt (.meth "Steering" "__init__") "drift" K))
  b_list : mg "list" = none
  b_int : mg "int" = none
  b_abs : mg "abs" = none
  b_max : mg "max" = none
  b_len : mg "len" = none
  b_isinstance : mg "isinstance" = none
  b_bool : mg "bool" = none
  b_str : mg "str" = none
  b_dict : mg "dict" = none
  b_tuple : mg "tuple" = none
  b_range : mg "range" = none
  g_ZERO_steering : ∃ v u, mg "ZERO_steering" = some u ∧ RelV v u ∧ ∀ R, Rp K R v_ZERO_steering v
  g_ONE : ∃ v u, mg "ONE" = some u ∧ RelV v u ∧ ∀ R, Rp K R v_ONE v
  g_ZERO_courses : ∃ v u, mg "ZERO_courses" = some u ∧ RelV v u ∧ ∀ R, Rp K R v_ZERO_courses v
  g_TWO : ∃ v u, mg "TWO" = some u ∧ RelV v u ∧ ∀ R, Rp K R v_TWO v
  R_BadRate : RaiseAt P K mg "BadRate" "BadRate.__init__" i_BadRate ["self", "value"] ["value"]
  R_BeforeStart : RaiseAt P K mg "BeforeStart" "BeforeStart.__init__" i_BeforeStart ["self", "value"] ["value"]
  s_BadRate_BadRate : PySem.W.subIn K (.ref R_BadRate.C) (.ref R_BadRate.C) = some true
  s_BeforeStart_BeforeStart : PySem.W.subIn K (.ref R_BeforeStart.C) (.ref R_BeforeStart.C) = some true
theorem ex_BadRate {X : Cx} {k : Nat} (R : RaiseAt X.prog X.K X.mg "BadRate" "BadRate.__init__" i_BadRate ["self", "value"] ["value"]) (h : 2 ≤ k) (rm : Room k X.A) : ExcF X k "BadRate" R.C (fsO1 "value") 1 := by
  obtain ⟨oc, kV, doc, pm, ctv, od, an, osl, efd, lk⟩ := R.lk
  have b := R.b
  rw [efd] at lk b
  exact excF_of R.S.T R.iC R.tI (ini1 (st := i_BadRate) rfl rfl rfl (NdefX.nscope_by (by decide +kernel)) rfl rfl rfl (fun _ => rfl) (fun _ => rfl) (fun _ => ⟨_, rfl⟩) (fun _ => rfl) R.S lk R.cd (R.e.no _ (by simp))) b R.e.m h rm
theorem ex_BeforeStart {X : Cx} {k : Nat} (R : RaiseAt X.prog X.K X.mg "BeforeStart" "BeforeStart.__init__" i_BeforeStart ["self", "value"] ["value"]) (h : 2 ≤ k) (rm : Room k X.A) : ExcF X k "BeforeStart" R.C (fsO1 "value") 1 := by
  obtain ⟨oc, kV, doc, pm, ctv, od, an, osl, efd, lk⟩ := R.lk
  have b := R.b
  rw [efd] at lk b
  exact excF_of R.S.T R.iC R.tI (ini1 (st := i_BeforeStart) rfl rfl rfl (NdefX.nscope_by (by decide +kernel)) rfl rfl rfl (fun _ => rfl) (fun _ => rfl) (fun _ => ⟨_, rfl⟩) (fun _ => rfl) R.S lk R.cd (R.e.no _ (by simp))) b R.e.m h rm
section
variable {P : Program} {w : World} {K : PySem.W.Frag} {mg : Str → Option Value} {base : Heap}
theorem ok_l_store (T : Wd P K mg) : FnOk P w K mg base CX0 1 T.d_l_store.a T.d_l_store.fd ["_law_script"] (spOf K S_l_store) :=
  fn_ok T.d_l_store.F sc_l_store sb_l_store (.inl rfl) (by rintro ps Post ⟨ns, rfl, _⟩; exact ⟨rfl, rfl⟩) (fun X c e => by obtain ⟨rfl, rfl, rfl, rfl, rfl, rm⟩ := e; exact bd_l_store ⟨T.b_list, by decide +kernel⟩)
theorem ok_l_feed (T : Wd P K mg) : FnOk P w K mg base CX0 1 T.d_l_feed.a T.d_l_feed.fd ["_law_store_here"] (spOf K S_l_feed) :=
  fn_ok T.d_l_feed.F sc_l_feed sb_l_feed (.inl rfl) (by rintro ps Post ⟨ns, pl, great, st, left, cnt, rfl, _⟩; exact ⟨rfl, rfl⟩) (fun X c e => by obtain ⟨rfl, rfl, rfl, rfl, rfl, rm⟩ := e; exact bd_l_feed ⟨T.b_int, by decide +kernel⟩ ⟨T.b_abs, by decide +kernel⟩)
theorem ok_l_mixed (T : Wd P K mg) : FnOk P w K mg base CX0 1 T.d_l_mixed.a T.d_l_mixed.fd ["_law_store_here"] (spOf K S_l_mixed) :=
  fn_ok T.d_l_mixed.F sc_l_mixed sb_l_mixed (.inl rfl) (by rintro ps Post ⟨ns, place, great, st, left, cnt, rfl, _⟩; exact ⟨rfl, rfl⟩) (fun X c e => by obtain ⟨rfl, rfl, rfl, rfl, rfl, rm⟩ := e; exact bd_l_mixed ⟨T.b_int, by decide +kernel⟩)
theorem ok_l_take (T : Wd P K mg) : FnOk P w K mg base CX0 2 T.d_l_take.a T.d_l_take.fd ["_law_store_here", "_law_many"] (spOf K S_l_take) :=
  fn_ok T.d_l_take.F sc_l_take sb_l_take (.inl rfl) (by rintro ps Post ⟨many, rfl, _⟩; exact ⟨rfl, rfl⟩) (fun X c e => by obtain ⟨rfl, rfl, rfl, rfl, rfl, rm⟩ := e; exact bd_l_take ⟨T.b_max, by decide +kernel⟩ ⟨T.b_len, by decide +kernel⟩ (T.d_l_feed.cal (ok_l_feed T) (by decide) rm) ⟨T.b_int, by decide +kernel⟩ (T.d_l_mixed.cal (ok_l_mixed T) (by decide) rm))
theorem ok_l_frac (T : Wd P K mg) : FnOk P w K mg base CX0 1 T.d_l_frac.a T.d_l_frac.fd ["_law_n", "_law_d"] (spOf K S_l_frac) :=
  fn_ok T.d_l_frac.F sc_l_frac sb_l_frac (.inl rfl) (by rintro ps Post ⟨n, d, rfl, _⟩; exact ⟨rfl, rfl⟩) (fun X c e => by obtain ⟨rfl, rfl, rfl, rfl, rfl, rm⟩ := e; exact bd_l_frac ⟨T.b_abs, by decide +kernel⟩ ⟨T.b_int, by decide +kernel⟩)
theorem ok_l_times (T : Wd P K mg) : FnOk P w K mg base CX0 2 T.d_l_times.a T.d_l_times.fd ["_law_a", "_law_b"] (spOf K S_l_times) :=
  fn_ok T.d_l_times.F sc_l_times sb_l_times (.inl rfl) (by rintro ps Post ⟨a, b, j, k, rfl, _⟩; exact ⟨rfl, rfl⟩) (fun X c e => by obtain ⟨rfl, rfl, rfl, rfl, rfl, rm⟩ := e; exact bd_l_times (T.d_l_frac.cal (ok_l_frac T) (by decide) rm))
theorem ok_l_slews (T : Wd P K mg) : FnOk P w K mg base CX0 3 T.d_l_slews.a T.d_l_slews.fd ["_law_store_here"] (spOf K S_l_slews) :=
  fn_ok T.d_l_slews.F sc_l_slews sb_l_slews (.inl rfl) (by rintro ps Post ⟨rfl, _⟩; exact ⟨rfl, rfl⟩) (fun X c e => by obtain ⟨rfl, rfl, rfl, rfl, rfl, rm⟩ := e; exact bd_l_slews (T.d_l_take.cal (ok_l_take T) (by decide) rm) (T.d_l_frac.cal (ok_l_frac T) (by decide) rm) (T.d_l_times.cal (ok_l_times T) (by decide) rm))
theorem ok_l_pick (T : Wd P K mg) : FnOk P w K mg base CX0 3 T.d_l_pick.a T.d_l_pick.fd ["_law_store_here", "_law_things"] (spOf K S_l_pick) :=
  fn_ok T.d_l_pick.F sc_l_pick sb_l_pick (.inl rfl) (by rintro ps Post ⟨x, m, rfl, _⟩; exact ⟨rfl, rfl⟩) (fun X c e => by obtain ⟨rfl, rfl, rfl, rfl, rfl, rm⟩ := e; exact bd_l_pick (T.d_l_take.cal (ok_l_take T) (by decide) rm) ⟨T.b_len, by decide +kernel⟩)
theorem ok_l_part (T : Wd P K mg) : FnOk P w K mg base CX0 4 T.d_l_part.a T.d_l_part.fd ["_law_store_here"] (spOf K S_l_part) :=
  fn_ok T.d_l_part.F sc_l_part sb_l_part (.inl rfl) (by rintro ps Post ⟨rfl, _⟩; exact ⟨rfl, rfl⟩) (fun X c e => by obtain ⟨rfl, rfl, rfl, rfl, rfl, rm⟩ := e; exact bd_l_part (T.d_l_take.cal (ok_l_take T) (by decide) rm) (T.d_l_pick.cal (ok_l_pick T) (by decide) rm) (T.d_l_frac.cal (ok_l_frac T) (by decide) rm))
theorem ok_l_plus (T : Wd P K mg) : FnOk P w K mg base CX0 2 T.d_l_plus.a T.d_l_plus.fd ["_law_a", "_law_b"] (spOf K S_l_plus) :=
  fn_ok T.d_l_plus.F sc_l_plus sb_l_plus (.inl rfl) (by rintro ps Post ⟨a, b, j, k, rfl, _⟩; exact ⟨rfl, rfl⟩) (fun X c e => by obtain ⟨rfl, rfl, rfl, rfl, rfl, rm⟩ := e; exact bd_l_plus (T.d_l_frac.cal (ok_l_frac T) (by decide) rm))
theorem ok_l_spare (T : Wd P K mg) : FnOk P w K mg base CX0 3 T.d_l_spare.a T.d_l_spare.fd ["_law_store_here"] (spOf K S_l_spare) :=
  fn_ok T.d_l_spare.F sc_l_spare sb_l_spare (.inl rfl) (by rintro ps Post ⟨rfl, _⟩; exact ⟨rfl, rfl⟩) (fun X c e => by obtain ⟨rfl, rfl, rfl, rfl, rfl, rm⟩ := e; exact bd_l_spare (T.d_l_take.cal (ok_l_take T) (by decide) rm) (T.d_l_frac.cal (ok_l_frac T) (by decide) rm))
theorem ok_l_above (T : Wd P K mg) : FnOk P w K mg base CX0 3 T.d_l_above.a T.d_l_above.fd ["_law_store_here"] (spOf K S_l_above) :=
  fn_ok T.d_l_above.F sc_l_above sb_l_above (.inl rfl) (by rintro ps Post ⟨rfl, _⟩; exact ⟨rfl, rfl⟩) (fun X c e => by obtain ⟨rfl, rfl, rfl, rfl, rfl, rm⟩ := e; exact bd_l_above (T.d_l_take.cal (ok_l_take T) (by decide) rm) (T.d_l_frac.cal (ok_l_frac T) (by decide) rm))
theorem ok_l_over_step (T : Wd P K mg) : FnOk P w K mg base CX0 4 T.d_l_over_step.a T.d_l_over_step.fd ["_law_store_here"] (spOf K S_l_over_step) :=
  fn_ok T.d_l_over_step.F sc_l_over_step sb_l_over_step (.inl rfl) (by rintro ps Post ⟨rfl, _⟩; exact ⟨rfl, rfl⟩) (fun X c e => by obtain ⟨rfl, rfl, rfl, rfl, rfl, rm⟩ := e; exact bd_l_over_step (T.d_l_pick.cal (ok_l_pick T) (by decide) rm) (T.d_l_above.cal (ok_l_above T) (by decide) rm))
theorem ok_l_begin (T : Wd P K mg) : FnOk P w K mg base CX0 5 T.d_l_begin.a T.d_l_begin.fd ["_law_store_here"] (spOf K S_l_begin) :=
  fn_ok T.d_l_begin.F sc_l_begin sb_l_begin (.inl rfl) (by rintro ps Post ⟨rfl, _⟩; exact ⟨rfl, rfl⟩) (fun X c e => by obtain ⟨rfl, rfl, rfl, rfl, rfl, rm⟩ := e; exact bd_l_begin (T.d_l_slews.cal (ok_l_slews T) (by decide) rm) (T.d_l_pick.cal (ok_l_pick T) (by decide) rm) (T.d_l_part.cal (ok_l_part T) (by decide) rm) (T.d_l_plus.cal (ok_l_plus T) (by decide) rm) (T.d_l_spare.cal (ok_l_spare T) (by decide) rm) (T.d_l_over_step.cal (ok_l_over_step T) (by decide) rm))
theorem ok_l_minus (T : Wd P K mg) : FnOk P w K mg base CX0 2 T.d_l_minus.a T.d_l_minus.fd ["_law_a", "_law_b"] (spOf K S_l_minus) :=
  fn_ok T.d_l_minus.F sc_l_minus sb_l_minus (.inl rfl) (by rintro ps Post ⟨a, b, j, k, rfl, _⟩; exact ⟨rfl, rfl⟩) (fun X c e => by obtain ⟨rfl, rfl, rfl, rfl, rfl, rm⟩ := e; exact bd_l_minus (T.d_l_frac.cal (ok_l_frac T) (by decide) rm))
theorem ok_l_span_near (T : Wd P K mg) : FnOk P w K mg base CX0 5 T.d_l_span_near.a T.d_l_span_near.fd ["_law_store_here", "_law_now_here", "_law_bound_here"] (spOf K S_l_span_near) :=
  fn_ok T.d_l_span_near.F sc_l_span_near sb_l_span_near (.inl rfl) (by rintro ps Post ⟨w, b, rfl, _⟩; exact ⟨rfl, rfl⟩) (fun X c e => by obtain ⟨rfl, rfl, rfl, rfl, rfl, rm⟩ := e; exact bd_l_span_near (T.d_l_spare.cal (ok_l_spare T) (by decide) rm) (T.d_l_plus.cal (ok_l_plus T) (by decide) rm) (T.d_l_part.cal (ok_l_part T) (by decide) rm) (T.d_l_minus.cal (ok_l_minus T) (by decide) rm) (T.d_l_pick.cal (ok_l_pick T) (by decide) rm))
theorem ok_l_below (T : Wd P K mg) : FnOk P w K mg base CX0 1 T.d_l_below.a T.d_l_below.fd ["_law_a", "_law_b"] (spOf K S_l_below) :=
  fn_ok T.d_l_below.F sc_l_below sb_l_below (.inl rfl) (by rintro ps Post ⟨a, b, j, k, rfl, _⟩; exact ⟨rfl, rfl⟩) (fun X c e => by obtain ⟨rfl, rfl, rfl, rfl, rfl, rm⟩ := e; exact bd_l_below )
theorem ok_l_now (T : Wd P K mg) : FnOk P w K mg base CX0 3 T.d_l_now.a T.d_l_now.fd ["_law_state", "_law_raw"] (spOf K S_l_now) :=
  fn_ok T.d_l_now.F sc_l_now sb_l_now (.inl rfl) (by rintro ps Post ⟨k, raw, rfl, _⟩; exact ⟨rfl, rfl⟩) (fun X c e => by obtain ⟨rfl, rfl, rfl, rfl, rfl, rm⟩ := e; exact bd_l_now (T.d_l_minus.cal (ok_l_minus T) (by decide) rm) (T.d_l_below.cal (ok_l_below T) (by decide) rm) (T.d_l_plus.cal (ok_l_plus T) (by decide) rm) (T.d_l_times.cal (ok_l_times T) (by decide) rm))
theorem ok_l_bound (T : Wd P K mg) : FnOk P w K mg base CX0 3 T.d_l_bound.a T.d_l_bound.fd ["_law_args", "_law_state", "_law_raw"] (spOf K S_l_bound) :=
  fn_ok T.d_l_bound.F sc_l_bound sb_l_bound (.inl rfl) (by rintro ps Post ⟨a, k, raw, rfl, _⟩; exact ⟨rfl, rfl⟩) (fun X c e => by obtain ⟨rfl, rfl, rfl, rfl, rfl, rm⟩ := e; exact bd_l_bound (T.d_l_minus.cal (ok_l_minus T) (by decide) rm) (T.d_l_times.cal (ok_l_times T) (by decide) rm) (T.d_l_plus.cal (ok_l_plus T) (by decide) rm) (T.d_l_below.cal (ok_l_below T) (by decide) rm))
theorem ok_l_both (T : Wd P K mg) : FnOk P w K mg base CX0 2 T.d_l_both.a T.d_l_both.fd ["_law_a", "_law_b"] (spOf K S_l_both) :=
  fn_ok T.d_l_both.F sc_l_both sb_l_both (.inl rfl) (by rintro ps Post ⟨a, b, d, e, rfl, _⟩; exact ⟨rfl, rfl⟩) (fun X c e => by obtain ⟨rfl, rfl, rfl, rfl, rfl, rm⟩ := e; exact bd_l_both (T.d_l_below.cal (ok_l_below T) (by decide) rm))
theorem ok_l_over (T : Wd P K mg) : FnOk P w K mg base CX0 2 T.d_l_over.a T.d_l_over.fd ["_law_a", "_law_b"] (spOf K S_l_over) :=
  fn_ok T.d_l_over.F sc_l_over sb_l_over (.inl rfl) (by rintro ps Post ⟨a, b, j, k, rfl, _⟩; exact ⟨rfl, rfl⟩) (fun X c e => by obtain ⟨rfl, rfl, rfl, rfl, rfl, rm⟩ := e; exact bd_l_over (T.d_l_frac.cal (ok_l_frac T) (by decide) rm))
theorem ok_l_turned (T : Wd P K mg) : FnOk P w K mg base CX0 4 T.d_l_turned.a T.d_l_turned.fd ["_law_args", "_law_state", "_law_raw", "_law_span"] (spOf K S_l_turned) :=
  fn_ok T.d_l_turned.F sc_l_turned sb_l_turned (.inl rfl) (by rintro ps Post ⟨a, k, raw, sp, rfl, _⟩; exact ⟨rfl, rfl⟩) (fun X c e => by obtain ⟨rfl, rfl, rfl, rfl, rfl, rm⟩ := e; exact bd_l_turned (T.d_l_now.cal (ok_l_now T) (by decide) rm) (T.d_l_bound.cal (ok_l_bound T) (by decide) rm) (T.d_l_both.cal (ok_l_both T) (by decide) rm) (T.d_l_minus.cal (ok_l_minus T) (by decide) rm) (T.d_l_plus.cal (ok_l_plus T) (by decide) rm) (T.d_l_times.cal (ok_l_times T) (by decide) rm) (T.d_l_below.cal (ok_l_below T) (by decide) rm) ⟨T.b_abs, by decide +kernel⟩ (T.d_l_over.cal (ok_l_over T) (by decide) rm))
theorem ok_l_course_due (T : Wd P K mg) : FnOk P w K mg base CX0 4 T.d_l_course_due.a T.d_l_course_due.fd ["_law_args", "_law_state", "_law_jumped"] (spOf K S_l_course_due) :=
  fn_ok T.d_l_course_due.F sc_l_course_due sb_l_course_due (.inl rfl) (by rintro ps Post ⟨a, k, j, rfl, _⟩; exact ⟨rfl, rfl⟩) (fun X c e => by obtain ⟨rfl, rfl, rfl, rfl, rfl, rm⟩ := e; exact bd_l_course_due (T.d_l_plus.cal (ok_l_plus T) (by decide) rm) (T.d_l_now.cal (ok_l_now T) (by decide) rm))
theorem ok_p_compare (T : Wd P K mg) : FnOk P w K mg base CX0 1 T.d_p_compare.a T.d_p_compare.fd ["a", "b"] (spOf K S_p_compare) :=
  fn_ok T.d_p_compare.F sc_p_compare sb_p_compare (.inl rfl) (by rintro ps Post ⟨a, b, j, k, rfl, _⟩; exact ⟨rfl, rfl⟩) (fun X c e => by obtain ⟨rfl, rfl, rfl, rfl, rfl, rm⟩ := e; exact bd_p_compare )
theorem ok_p_require_slew_and_drift (T : Wd P K mg) : FnOk P w K mg base (L2.CX P w) 3 T.d_p_require_slew_and_drift.a T.d_p_require_slew_and_drift.fd ["slew", "drift"] (spOfX K (S_p_require_slew_and_drift T.R_BadRate.C)) :=
  fn_okX T.d_p_require_slew_and_drift.F sc_p_require_slew_and_drift sb_p_require_slew_and_drift (.inl rfl) rfl (by rintro ps Post Xp ⟨s, d, rfl, _⟩; exact ⟨rfl, rfl⟩) (fun X c e => by obtain ⟨rfl, rfl, rfl, rfl, rfl, rm⟩ := e; exact bd_p_require_slew_and_drift (T.R_BadRate.k) (ex_BadRate T.R_BadRate (by decide) rm) (T.d_p_compare.cal (ok_p_compare T) (by decide) rm) ⟨T.g_ZERO_steering⟩ ⟨T.g_ONE⟩)
theorem ok_Steering___init__ (T : Wd P K mg) : FnOk P w K mg base CX0 4 (He.ma K (He.ga K "Steering") "__init__") T.d_Steering___init__.fd ["self", "raw", "shown", "error", "slew", "drift", "step_over"] (spOf K S_Steering___init__) :=
  fn_ok T.d_Steering___init__.Fn sc_Steering___init__ sb_Steering___init__ (.inl rfl) (by rintro ps Post ⟨raw, shown, err, slew, drift, step, rfl, _⟩; exact ⟨rfl, rfl⟩) (fun X c e => by obtain ⟨rfl, rfl, rfl, rfl, rfl, rm⟩ := e; exact bd_Steering___init__ (T.R_BadRate.k) (T.d_p_compare.cal (ok_p_compare T) (by decide) rm) ⟨T.g_ZERO_steering⟩ (T.d_p_require_slew_and_drift.calX (ok_p_require_slew_and_drift T) (by decide) rm) ⟨T.g_ONE⟩ T.no_Steering_slew_told T.no_Steering_drift_told T.no_Steering_step_told T.no_Steering_steered_at T.no_Steering_steered_pieces T.no_Steering_steered_bound T.no_Steering_steered_half T.no_Steering_steered_aim)
theorem kb_mk_Steering_3_slew_drift_step_over (T : Wd P K mg) : ∃ mv : List Value, KBn K T.d_Steering___init__.fd ["self", "raw", "shown", "error", "slew", "drift", "step_over"] (3 + 1) ["slew", "drift", "step_over"] (fun us ws => us ++ (ws.take 3 ++ (mv ++ ws.drop 3))) (fun vs zs => vs ++ (zs.take 3 ++ (([] : List (Str × V)).map (·.2) ++ zs.drop 3))) := by
  refine T.d_Steering___init__.F.kbinds0 (3 + 1) ["slew", "drift", "step_over"] ([] : List (Str × V)) (fun us mv ws => us ++ (ws.take 3 ++ (mv ++ ws.drop 3))) (by simp) (by intro q h; simp only [List.mem_cons, List.not_mem_nil, or_false] at h ⊢ <;> first | exact h | exact .inl h | exact .inr h | grind) (fun h1 h2 h3 => h1.append ((h3.take 3).append (h2.append (h3.drop 3)))) fun D doc pm an cdv ct us mv ws h1 h2 h3 => ?_
  match us, mv, ws, h1, h2, h3 with
  | [_, _, _, _], [], [_, _, _], _, _, _ => exact rfl
theorem kb_mk_Steering_3_slew (T : Wd P K mg) : ∃ mv : List Value, KBn K T.d_Steering___init__.fd ["self", "raw", "shown", "error", "slew", "drift", "step_over"] (3 + 1) ["slew"] (fun us ws => us ++ (ws.take 1 ++ (mv ++ ws.drop 1))) (fun vs zs => vs ++ (zs.take 1 ++ (([("drift", .ref (kwAt (.meth "Steering" "__init__") "drift" K)), ("step_over", .non)] : List (Str × V)).map (·.2) ++ zs.drop 1))) := by
  refine T.d_Steering___init__.F.kbinds0 (3 + 1) ["slew"] ([("drift", .ref (kwAt (.meth "Steering" "__init__") "drift" K)), ("step_over", .non)] : List (Str × V)) (fun us mv ws => us ++ (ws.take 1 ++ (mv ++ ws.drop 1))) (by simp) (by intro q h; simp only [List.mem_cons, List.not_mem_nil, or_false] at h ⊢ <;> first | exact h | exact .inl h | exact .inr h | grind) (fun h1 h2 h3 => h1.append ((h3.take 1).append (h2.append (h3.drop 1)))) fun D doc pm an cdv ct us mv ws h1 h2 h3 => ?_
  match us, mv, ws, h1, h2, h3 with
  | [_, _, _, _], [_, _], [_], _, _, _ => exact ⟨_, _, _, _, _, _, rfl, rfl, ⟨_, _, _, _, _, _, rfl, rfl, rfl⟩⟩
theorem kb_mk_Steering_3_slew_drift (T : Wd P K mg) : ∃ mv : List Value, KBn K T.d_Steering___init__.fd ["self", "raw", "shown", "error", "slew", "drift", "step_over"] (3 + 1) ["slew", "drift"] (fun us ws => us ++ (ws.take 2 ++ (mv ++ ws.drop 2))) (fun vs zs => vs ++ (zs.take 2 ++ (([("step_over", .non)] : List (Str × V)).map (·.2) ++ zs.drop 2))) := by
  refine T.d_Steering___init__.F.kbinds0 (3 + 1) ["slew", "drift"] ([("step_over", .non)] : List (Str × V)) (fun us mv ws => us ++ (ws.take 2 ++ (mv ++ ws.drop 2))) (by simp) (by intro q h; simp only [List.mem_cons, List.not_mem_nil, or_false] at h ⊢ <;> first | exact h | exact .inl h | exact .inr h | grind) (fun h1 h2 h3 => h1.append ((h3.take 2).append (h2.append (h3.drop 2)))) fun D doc pm an cdv ct us mv ws h1 h2 h3 => ?_
  match us, mv, ws, h1, h2, h3 with
  | [_, _, _, _], [_], [_, _], _, _, _ => exact ⟨_, _, _, _, _, _, rfl, rfl, rfl⟩
theorem kb_mk_Steering_3_slew_step_over (T : Wd P K mg) : ∃ mv : List Value, KBn K T.d_Steering___init__.fd ["self", "raw", "shown", "error", "slew", "drift", "step_over"] (3 + 1) ["slew", "step_over"] (fun us ws => us ++ (ws.take 1 ++ (mv ++ ws.drop 1))) (fun vs zs => vs ++ (zs.take 1 ++ (([("drift", .ref (kwAt (.meth "Steering" "__init__") "drift" K))] : List (Str × V)).map (·.2) ++ zs.drop 1))) := by
  refine T.d_Steering___init__.F.kbinds0 (3 + 1) ["slew", "step_over"] ([("drift", .ref (kwAt (.meth "Steering" "__init__") "drift" K))] : List (Str × V)) (fun us mv ws => us ++ (ws.take 1 ++ (mv ++ ws.drop 1))) (by simp) (by intro q h; simp only [List.mem_cons, List.not_mem_nil, or_false] at h ⊢ <;> first | exact h | exact .inl h | exact .inr h | grind) (fun h1 h2 h3 => h1.append ((h3.take 1).append (h2.append (h3.drop 1)))) fun D doc pm an cdv ct us mv ws h1 h2 h3 => ?_
  match us, mv, ws, h1, h2, h3 with
  | [_, _, _, _], [_], [_, _], _, _, _ => exact ⟨_, _, _, _, _, _, rfl, rfl, rfl⟩
theorem ok_l_made (T : Wd P K mg) : FnOk P w K mg base CX0 6 T.d_l_made.a T.d_l_made.fd ["_law_args"] (spOf K S_l_made) :=
  fn_ok T.d_l_made.F sc_l_made sb_l_made (.inl rfl) (by rintro ps Post ⟨a, rfl, _⟩; exact ⟨rfl, rfl⟩) (fun X c e => by obtain ⟨rfl, rfl, rfl, rfl, rfl, rm⟩ := e; exact bd_l_made (T.d_Steering___init__.cal 3 (ok_Steering___init__ T) (by decide) rm (kb_mk_Steering_3_slew_drift_step_over T) [] (fun R => rfl)) (T.d_Steering___init__.cal 1 (ok_Steering___init__ T) (by decide) rm (kb_mk_Steering_3_slew T) [.tup [.int 0, .int 1], .non] (fun R => ⟨_, _, rfl, T.kd_Steering_drift R, ⟨_, _, rfl, rfl, rfl⟩⟩)) (T.d_Steering___init__.cal 2 (ok_Steering___init__ T) (by decide) rm (kb_mk_Steering_3_slew_drift T) [.non] (fun R => ⟨_, _, rfl, rfl, rfl⟩)) (T.d_Steering___init__.cal 1 (ok_Steering___init__ T) (by decide) rm (kb_mk_Steering_3_slew_step_over T) [.tup [.int 0, .int 1]] (fun R => ⟨_, _, rfl, T.kd_Steering_drift R, rfl⟩)))
theorem ok_l_is_int (T : Wd P K mg) : FnOk P w K mg base CX0 1 T.d_l_is_int.a T.d_l_is_int.fd ["_law_value"] (spOf K S_l_is_int) :=
  fn_ok T.d_l_is_int.F sc_l_is_int sb_l_is_int (.inl rfl) (by rintro ps Post ⟨x, rfl, _⟩; exact ⟨rfl, rfl⟩) (fun X c e => by obtain ⟨rfl, rfl, rfl, rfl, rfl, rm⟩ := e; exact bd_l_is_int ⟨T.b_isinstance, by decide +kernel⟩ ⟨T.b_int, by decide +kernel⟩ ⟨T.b_bool, by decide +kernel⟩)
theorem okr_l_same (T : Wd P K mg) : ∀ j, FnOk P w K mg base CX0 (1 + j + 1) T.d_l_same.a T.d_l_same.fd ["_law_value", "_law_due"] (spOf K (ST_same j))
  | 0 => by
    exact fn_ok (n := n_l_same (0)) T.d_l_same.F sc_l_same (sb_l_same.k _) (.inr rfl) (by rintro ps Post ⟨v, d, rfl, _⟩; exact ⟨rfl, rfl⟩) (fun X c e => by obtain ⟨rfl, rfl, rfl, rfl, rfl, rm⟩ := e; exact bd_l_same (0) ⟨T.b_isinstance, by decide +kernel⟩ ⟨T.b_bool, by decide +kernel⟩ ⟨T.b_int, by decide +kernel⟩ (T.d_l_is_int.cal (ok_l_is_int T) (Nat.le_trans (by decide) (Nat.le_add_right 1 _)) rm) ⟨T.b_str, by decide +kernel⟩ ⟨T.b_dict, by decide +kernel⟩ ⟨T.b_list, by decide +kernel⟩ ⟨T.b_tuple, by decide +kernel⟩ ⟨T.b_len, by decide +kernel⟩ ⟨T.b_range, by decide +kernel⟩ (fun i e => by cases e))
  | j + 1 => by
    have rc := okr_l_same T j
    exact fn_ok (n := n_l_same (j + 1)) T.d_l_same.F sc_l_same (sb_l_same.k _) (.inr rfl) (by rintro ps Post ⟨v, d, rfl, _⟩; exact ⟨rfl, rfl⟩) (fun X c e => by obtain ⟨rfl, rfl, rfl, rfl, rfl, rm⟩ := e; exact bd_l_same (j + 1) ⟨T.b_isinstance, by decide +kernel⟩ ⟨T.b_bool, by decide +kernel⟩ ⟨T.b_int, by decide +kernel⟩ (T.d_l_is_int.cal (ok_l_is_int T) (Nat.le_trans (by decide) (Nat.le_add_right 1 _)) rm) ⟨T.b_str, by decide +kernel⟩ ⟨T.b_dict, by decide +kernel⟩ ⟨T.b_list, by decide +kernel⟩ ⟨T.b_tuple, by decide +kernel⟩ ⟨T.b_len, by decide +kernel⟩ ⟨T.b_range, by decide +kernel⟩ (fun i e => by cases e; exact T.d_l_same.cal rc (Nat.le_refl _) rm))
theorem ok_l_same (T : Wd P K mg) : FnOk P w K mg base CX0 7 T.d_l_same.a T.d_l_same.fd ["_law_value", "_law_due"] (spOf K S_l_same) := okr_l_same T 5
theorem ok_l_shown (T : Wd P K mg) : FnOk P w K mg base CX0 3 T.d_l_shown.a T.d_l_shown.fd ["_law_course", "_law_t"] (spOf K S_l_shown) :=
  fn_ok T.d_l_shown.F sc_l_shown sb_l_shown (.inl rfl) (by rintro ps Post ⟨cs, x, s, t, r, w, rfl, _⟩; exact ⟨rfl, rfl⟩) (fun X c e => by obtain ⟨rfl, rfl, rfl, rfl, rfl, rm⟩ := e; exact bd_l_shown (T.d_l_below.cal (ok_l_below T) (by decide) rm) (T.d_l_plus.cal (ok_l_plus T) (by decide) rm) (T.d_l_times.cal (ok_l_times T) (by decide) rm) (T.d_l_minus.cal (ok_l_minus T) (by decide) rm))
theorem ok_Steering_aim (T : Wd P K mg) : FnOk P w K mg base CX0 1 (propG K (He.ga K "Steering") "aim") T.d_Steering_aim.fd ["self"] (spOf K S_Steering_aim) :=
  fn_ok T.d_Steering_aim.F sc_Steering_aim sb_Steering_aim (.inl rfl) (by rintro ps Post ⟨s, rfl, _⟩; exact ⟨rfl, rfl⟩) (fun X c e => by obtain ⟨rfl, rfl, rfl, rfl, rfl, rm⟩ := e; exact bd_Steering_aim )
theorem ok_p_common_factor (T : Wd P K mg) : FnOk P w K mg base CX0 1 T.d_p_common_factor.a T.d_p_common_factor.fd ["a", "b"] (spOf K S_p_common_factor) :=
  fn_ok T.d_p_common_factor.F sc_p_common_factor sb_p_common_factor (.inl rfl) (by rintro ps Post ⟨a, b, rfl, _⟩; exact ⟨rfl, rfl⟩) (fun X c e => by obtain ⟨rfl, rfl, rfl, rfl, rfl, rm⟩ := e; exact bd_p_common_factor )
theorem ok_p_add (T : Wd P K mg) : FnOk P w K mg base CX0 2 T.d_p_add.a T.d_p_add.fd ["a", "b"] (spOf K S_p_add) :=
  fn_ok T.d_p_add.F sc_p_add sb_p_add (.inl rfl) (by rintro ps Post ⟨a, b, j, k, rfl, _⟩; exact ⟨rfl, rfl⟩) (fun X c e => by obtain ⟨rfl, rfl, rfl, rfl, rfl, rm⟩ := e; exact bd_p_add (T.d_p_common_factor.cal (ok_p_common_factor T) (by decide) rm))
theorem ok_p_negate (T : Wd P K mg) : FnOk P w K mg base CX0 1 T.d_p_negate.a T.d_p_negate.fd ["a"] (spOf K S_p_negate) :=
  fn_ok T.d_p_negate.F sc_p_negate sb_p_negate (.inl rfl) (by rintro ps Post ⟨a, rfl, _⟩; exact ⟨rfl, rfl⟩) (fun X c e => by obtain ⟨rfl, rfl, rfl, rfl, rfl, rm⟩ := e; exact bd_p_negate )
theorem ok_p_subtract (T : Wd P K mg) : FnOk P w K mg base CX0 3 T.d_p_subtract.a T.d_p_subtract.fd ["a", "b"] (spOf K S_p_subtract) :=
  fn_ok T.d_p_subtract.F sc_p_subtract sb_p_subtract (.inl rfl) (by rintro ps Post ⟨a, b, j, k, rfl, _⟩; exact ⟨rfl, rfl⟩) (fun X c e => by obtain ⟨rfl, rfl, rfl, rfl, rfl, rm⟩ := e; exact bd_p_subtract (T.d_p_add.cal (ok_p_add T) (by decide) rm) (T.d_p_negate.cal (ok_p_negate T) (by decide) rm))
theorem ok_p_multiply (T : Wd P K mg) : FnOk P w K mg base CX0 2 T.d_p_multiply.a T.d_p_multiply.fd ["a", "b"] (spOf K S_p_multiply) :=
  fn_ok T.d_p_multiply.F sc_p_multiply sb_p_multiply (.inl rfl) (by rintro ps Post ⟨a, b, j, k, rfl, _⟩; exact ⟨rfl, rfl⟩) (fun X c e => by obtain ⟨rfl, rfl, rfl, rfl, rfl, rm⟩ := e; exact bd_p_multiply (T.d_p_common_factor.cal (ok_p_common_factor T) (by decide) rm))
theorem ok_p_line_at (T : Wd P K mg) : FnOk P w K mg base CX0 4 T.d_p_line_at.a T.d_p_line_at.fd ["piece", "t"] (spOf K S_p_line_at) :=
  fn_ok T.d_p_line_at.F sc_p_line_at sb_p_line_at (.inl rfl) (by rintro ps Post ⟨p, t, s, u, v, w, rfl, _⟩; exact ⟨rfl, rfl⟩) (fun X c e => by obtain ⟨rfl, rfl, rfl, rfl, rfl, rm⟩ := e; exact bd_p_line_at (T.d_p_add.cal (ok_p_add T) (by decide) rm) (T.d_p_multiply.cal (ok_p_multiply T) (by decide) rm) (T.d_p_subtract.cal (ok_p_subtract T) (by decide) rm))
theorem ok_p_jump_at (T : Wd P K mg) : FnOk P w K mg base CX0 5 T.d_p_jump_at.a T.d_p_jump_at.fd ["course", "at"] (spOf K S_p_jump_at) :=
  fn_ok T.d_p_jump_at.F sc_p_jump_at sb_p_jump_at (.inl rfl) (by rintro ps Post ⟨cs, i, p, q, s, t, r, rfl, _⟩; exact ⟨rfl, rfl⟩) (fun X c e => by obtain ⟨rfl, rfl, rfl, rfl, rfl, rm⟩ := e; exact bd_p_jump_at (T.d_p_subtract.cal (ok_p_subtract T) (by decide) rm) (T.d_p_line_at.cal (ok_p_line_at T) (by decide) rm))
theorem ok_p_tidy (T : Wd P K mg) : FnOk P w K mg base CX0 6 T.d_p_tidy.a T.d_p_tidy.fd ["course"] (spOf K S_p_tidy) :=
  fn_ok T.d_p_tidy.F sc_p_tidy sb_p_tidy (.inl rfl) (by rintro ps Post ⟨cs, s, t, r, rfl, _⟩; exact ⟨rfl, rfl⟩) (fun X c e => by obtain ⟨rfl, rfl, rfl, rfl, rfl, rm⟩ := e; exact bd_p_tidy ⟨T.b_range, by decide +kernel⟩ ⟨T.b_len, by decide +kernel⟩ (T.d_p_compare.cal (ok_p_compare T) (by decide) rm) (T.d_p_jump_at.cal (ok_p_jump_at T) (by decide) rm) ⟨T.g_ZERO_courses⟩)
theorem ok_Steering_course_of (T : Wd P K mg) : FnOk P w K mg base CX0 7 (He.ma K (He.ga K "Steering") "course_of") T.d_Steering_course_of.fd ["self"] (spOf K S_Steering_course_of) :=
  fn_ok T.d_Steering_course_of.F sc_Steering_course_of sb_Steering_course_of (.inl rfl) (by rintro ps Post ⟨s, rfl, _⟩; exact ⟨rfl, rfl⟩) (fun X c e => by obtain ⟨rfl, rfl, rfl, rfl, rfl, rm⟩ := e; exact bd_Steering_course_of (T.d_p_tidy.cal (ok_p_tidy T) (by decide) rm))
theorem ok_p_require_started (T : Wd P K mg) : FnOk P w K mg base (L2.CX P w) 3 T.d_p_require_started.a T.d_p_require_started.fd ["course", "t"] (spOfX K (S_p_require_started T.R_BeforeStart.C)) :=
  fn_okX T.d_p_require_started.F sc_p_require_started sb_p_require_started (.inl rfl) rfl (by rintro ps Post Xp ⟨cs, p, t, s, k, rfl, _⟩; exact ⟨rfl, rfl⟩) (fun X c e => by obtain ⟨rfl, rfl, rfl, rfl, rfl, rm⟩ := e; exact bd_p_require_started (T.R_BeforeStart.k) (ex_BeforeStart T.R_BeforeStart (by decide) rm) (T.d_p_compare.cal (ok_p_compare T) (by decide) rm))
theorem ok_p_place_in_force (T : Wd P K mg) : FnOk P w K mg base CX0 2 T.d_p_place_in_force.a T.d_p_place_in_force.fd ["course", "t"] (spOf K S_p_place_in_force) :=
  fn_ok T.d_p_place_in_force.F sc_p_place_in_force sb_p_place_in_force (.inl rfl) (by rintro ps Post ⟨cs, t, s, k, rfl, _⟩; exact ⟨rfl, rfl⟩) (fun X c e => by obtain ⟨rfl, rfl, rfl, rfl, rfl, rm⟩ := e; exact bd_p_place_in_force ⟨T.b_len, by decide +kernel⟩ (T.d_p_compare.cal (ok_p_compare T) (by decide) rm))
theorem ok_p_shown_at (T : Wd P K mg) : FnOk P w K mg base (L2.CX P w) 5 T.d_p_shown_at.a T.d_p_shown_at.fd ["course", "t"] (spOfX K (S_p_shown_at T.R_BeforeStart.C)) :=
  fn_okX T.d_p_shown_at.F sc_p_shown_at sb_p_shown_at (.inl rfl) rfl (by rintro ps Post Xp ⟨cs, p, t, s, u, v, w, rfl, _⟩; exact ⟨rfl, rfl⟩) (fun X c e => by obtain ⟨rfl, rfl, rfl, rfl, rfl, rm⟩ := e; exact bd_p_shown_at (T.R_BeforeStart.k) (T.d_p_require_started.calX (ok_p_require_started T) (by decide) rm) (T.d_p_line_at.cal (ok_p_line_at T) (by decide) rm) (T.d_p_place_in_force.cal (ok_p_place_in_force T) (by decide) rm))
theorem ok_Steering_display (T : Wd P K mg) : FnOk P w K mg base CX0 6 (He.ma K (He.ga K "Steering") "display") T.d_Steering_display.fd ["self", "raw"] (spOf K S_Steering_display) :=
  fn_ok T.d_Steering_display.F sc_Steering_display sb_Steering_display (.inl rfl) (by rintro ps Post ⟨s, p, r, rfl, _⟩; exact ⟨rfl, rfl⟩) (fun X c e => by obtain ⟨rfl, rfl, rfl, rfl, rfl, rm⟩ := e; exact bd_Steering_display (T.R_BeforeStart.k) (T.d_p_shown_at.calX (ok_p_shown_at T) (by decide) rm))
theorem ok_p_larger (T : Wd P K mg) : FnOk P w K mg base CX0 2 T.d_p_larger.a T.d_p_larger.fd ["a", "b"] (spOf K S_p_larger) :=
  fn_ok T.d_p_larger.F sc_p_larger sb_p_larger (.inl rfl) (by rintro ps Post ⟨a, b, j, k, rfl, _⟩; exact ⟨rfl, rfl⟩) (fun X c e => by obtain ⟨rfl, rfl, rfl, rfl, rfl, rm⟩ := e; exact bd_p_larger (T.d_p_compare.cal (ok_p_compare T) (by decide) rm))
theorem ok_p_bound_behind (T : Wd P K mg) : FnOk P w K mg base CX0 4 T.d_p_bound_behind.a T.d_p_bound_behind.fd ["bound", "half", "length", "slew", "drift"] (spOf K S_p_bound_behind) :=
  fn_ok T.d_p_bound_behind.F sc_p_bound_behind sb_p_bound_behind (.inl rfl) (by rintro ps Post ⟨b, h, l, s, d, kb, kh, kl, ks, kd, rfl, _⟩; exact ⟨rfl, rfl⟩) (fun X c e => by obtain ⟨rfl, rfl, rfl, rfl, rfl, rm⟩ := e; exact bd_p_bound_behind (T.d_p_subtract.cal (ok_p_subtract T) (by decide) rm) (T.d_p_multiply.cal (ok_p_multiply T) (by decide) rm) (T.d_p_add.cal (ok_p_add T) (by decide) rm) (T.d_p_larger.cal (ok_p_larger T) (by decide) rm))
theorem ok_Steering_error_at (T : Wd P K mg) : FnOk P w K mg base CX0 5 (He.ma K (He.ga K "Steering") "error_at") T.d_Steering_error_at.fd ["self", "raw"] (spOf K S_Steering_error_at) :=
  fn_ok T.d_Steering_error_at.F sc_Steering_error_at sb_Steering_error_at (.inl rfl) (by rintro ps Post ⟨s, r, rfl, _⟩; exact ⟨rfl, rfl⟩) (fun X c e => by obtain ⟨rfl, rfl, rfl, rfl, rfl, rm⟩ := e; exact bd_Steering_error_at (T.d_p_compare.cal (ok_p_compare T) (by decide) rm) (T.d_p_subtract.cal (ok_p_subtract T) (by decide) rm) (T.d_p_bound_behind.cal (ok_p_bound_behind T) (by decide) rm))
theorem ok_l_answers_ok (T : Wd P K mg) : FnOk P w K mg base CX0 8 T.d_l_answers_ok.a T.d_l_answers_ok.fd ["_law_args", "_law_steering", "_law_state", "_law_aim", "_law_course", "_law_probes"] (spOf K S_l_answers_ok) :=
  fn_ok T.d_l_answers_ok.F sc_l_answers_ok sb_l_answers_ok (.inl rfl) (by rintro ps Post ⟨a, s, k, aim, cs, ts, rfl, _⟩; exact ⟨rfl, rfl⟩) (fun X c e => by obtain ⟨rfl, rfl, rfl, rfl, rfl, rm⟩ := e; exact bd_l_answers_ok (T.d_l_same.cal (ok_l_same T) (by decide) rm) (T.d_l_shown.cal (ok_l_shown T) (by decide) rm) (T.d_l_below.cal (ok_l_below T) (by decide) rm) (T.d_l_bound.cal (ok_l_bound T) (by decide) rm) (T.d_Steering_aim.cal (ok_Steering_aim T) (by decide) rm) (T.d_Steering_course_of.cal (ok_Steering_course_of T) (by decide) rm) (T.d_Steering_display.cal (ok_Steering_display T) (by decide) rm) (T.d_Steering_error_at.cal (ok_Steering_error_at T) (by decide) rm))
theorem ok_p_smaller (T : Wd P K mg) : FnOk P w K mg base CX0 2 T.d_p_smaller.a T.d_p_smaller.fd ["a", "b"] (spOf K S_p_smaller) :=
  fn_ok T.d_p_smaller.F sc_p_smaller sb_p_smaller (.inl rfl) (by rintro ps Post ⟨a, b, j, k, rfl, _⟩; exact ⟨rfl, rfl⟩) (fun X c e => by obtain ⟨rfl, rfl, rfl, rfl, rfl, rm⟩ := e; exact bd_p_smaller (T.d_p_compare.cal (ok_p_compare T) (by decide) rm))
theorem ok_p_ends_cross (T : Wd P K mg) : FnOk P w K mg base CX0 2 T.d_p_ends_cross.a T.d_p_ends_cross.fd ["low", "high"] (spOf K S_p_ends_cross) :=
  fn_ok T.d_p_ends_cross.F sc_p_ends_cross sb_p_ends_cross (.inl rfl) (by rintro ps Post ⟨a, b, k, rfl, _⟩; exact ⟨rfl, rfl⟩) (fun X c e => by obtain ⟨rfl, rfl, rfl, rfl, rfl, rm⟩ := e; exact bd_p_ends_cross (T.d_p_compare.cal (ok_p_compare T) (by decide) rm))
theorem ok_p_meet (T : Wd P K mg) : FnOk P w K mg base CX0 3 T.d_p_meet.a T.d_p_meet.fd ["a", "b"] (spOf K S_p_meet) :=
  fn_ok T.d_p_meet.F sc_p_meet sb_p_meet (.inl rfl) (by rintro ps Post ⟨a, b, k, rfl, _⟩; exact ⟨rfl, rfl⟩) (fun X c e => by obtain ⟨rfl, rfl, rfl, rfl, rfl, rm⟩ := e; exact bd_p_meet (T.d_p_larger.cal (ok_p_larger T) (by decide) rm) (T.d_p_smaller.cal (ok_p_smaller T) (by decide) rm) (T.d_p_ends_cross.cal (ok_p_ends_cross T) (by decide) rm))
theorem ok_p_span_to_follow (T : Wd P K mg) : FnOk P w K mg base CX0 4 T.d_p_span_to_follow.a T.d_p_span_to_follow.fd ["span", "shown", "bound"] (spOf K S_p_span_to_follow) :=
  fn_ok T.d_p_span_to_follow.F sc_p_span_to_follow sb_p_span_to_follow (.inl rfl) (by rintro ps Post ⟨s, x, b, i, j, k, rfl, _⟩; exact ⟨rfl, rfl⟩) (fun X c e => by obtain ⟨rfl, rfl, rfl, rfl, rfl, rm⟩ := e; exact bd_p_span_to_follow (T.d_p_meet.cal (ok_p_meet T) (by decide) rm) (T.d_p_subtract.cal (ok_p_subtract T) (by decide) rm) (T.d_p_add.cal (ok_p_add T) (by decide) rm))
theorem ok_p_middle_of (T : Wd P K mg) : FnOk P w K mg base CX0 3 T.d_p_middle_of.a T.d_p_middle_of.fd ["span"] (spOf K S_p_middle_of) :=
  fn_ok T.d_p_middle_of.F sc_p_middle_of sb_p_middle_of (.inl rfl) (by rintro ps Post ⟨a, b, j, k, rfl, _⟩; exact ⟨rfl, rfl⟩) (fun X c e => by obtain ⟨rfl, rfl, rfl, rfl, rfl, rm⟩ := e; exact bd_p_middle_of (T.d_p_multiply.cal (ok_p_multiply T) (by decide) rm) (T.d_p_add.cal (ok_p_add T) (by decide) rm))
theorem ok_p_divide (T : Wd P K mg) : FnOk P w K mg base CX0 3 T.d_p_divide.a T.d_p_divide.fd ["a", "b"] (spOf K S_p_divide) :=
  fn_ok T.d_p_divide.F sc_p_divide sb_p_divide (.inl rfl) (by rintro ps Post ⟨a, b, j, k, rfl, _⟩; exact ⟨rfl, rfl⟩) (fun X c e => by obtain ⟨rfl, rfl, rfl, rfl, rfl, rm⟩ := e; exact bd_p_divide (T.d_p_multiply.cal (ok_p_multiply T) (by decide) rm))
theorem ok_p_width_of (T : Wd P K mg) : FnOk P w K mg base CX0 4 T.d_p_width_of.a T.d_p_width_of.fd ["span"] (spOf K S_p_width_of) :=
  fn_ok T.d_p_width_of.F sc_p_width_of sb_p_width_of (.inl rfl) (by rintro ps Post ⟨a, b, j, k, rfl, _⟩; exact ⟨rfl, rfl⟩) (fun X c e => by obtain ⟨rfl, rfl, rfl, rfl, rfl, rm⟩ := e; exact bd_p_width_of (T.d_p_subtract.cal (ok_p_subtract T) (by decide) rm))
theorem ok_p_distance (T : Wd P K mg) : FnOk P w K mg base CX0 4 T.d_p_distance.a T.d_p_distance.fd ["a", "b"] (spOf K S_p_distance) :=
  fn_ok T.d_p_distance.F sc_p_distance sb_p_distance (.inl rfl) (by rintro ps Post ⟨a, b, j, k, rfl, _⟩; exact ⟨rfl, rfl⟩) (fun X c e => by obtain ⟨rfl, rfl, rfl, rfl, rfl, rm⟩ := e; exact bd_p_distance (T.d_p_subtract.cal (ok_p_subtract T) (by decide) rm))
theorem ok_p_far_end (T : Wd P K mg) : FnOk P w K mg base CX0 5 T.d_p_far_end.a T.d_p_far_end.fd ["span", "t"] (spOf K S_p_far_end) :=
  fn_ok T.d_p_far_end.F sc_p_far_end sb_p_far_end (.inl rfl) (by rintro ps Post ⟨a, b, t, j, k, rfl, _⟩; exact ⟨rfl, rfl⟩) (fun X c e => by obtain ⟨rfl, rfl, rfl, rfl, rfl, rm⟩ := e; exact bd_p_far_end (T.d_p_larger.cal (ok_p_larger T) (by decide) rm) (T.d_p_distance.cal (ok_p_distance T) (by decide) rm))
theorem ok_p_pieces_towards (T : Wd P K mg) : FnOk P w K mg base CX0 5 T.d_p_pieces_towards.a T.d_p_pieces_towards.fd ["raw", "shown", "aim", "slew"] (spOf K S_p_pieces_towards) :=
  fn_ok T.d_p_pieces_towards.F sc_p_pieces_towards sb_p_pieces_towards (.inl rfl) (by rintro ps Post ⟨raw, shown, aim, slew, rfl, _⟩; exact ⟨rfl, rfl⟩) (fun X c e => by obtain ⟨rfl, rfl, rfl, rfl, rfl, rm⟩ := e; exact bd_p_pieces_towards (T.d_p_compare.cal (ok_p_compare T) (by decide) rm) ⟨T.g_ONE⟩ (T.d_p_add.cal (ok_p_add T) (by decide) rm) (T.d_p_subtract.cal (ok_p_subtract T) (by decide) rm) (T.d_p_divide.cal (ok_p_divide T) (by decide) rm) (T.d_p_distance.cal (ok_p_distance T) (by decide) rm))
theorem ok_Steering_steer (T : Wd P K mg) : FnOk P w K mg base CX0 7 (He.ma K (He.ga K "Steering") "steer") T.d_Steering_steer.fd ["self", "raw", "span"] (spOf K S_Steering_steer) :=
  fn_ok T.d_Steering_steer.F sc_Steering_steer sb_Steering_steer (.inr rfl) (by rintro ps Post ⟨s, raw, sp, rfl, _⟩; exact ⟨rfl, rfl⟩) (fun X c e => by obtain ⟨rfl, rfl, rfl, rfl, rfl, rm⟩ := e; exact bd_Steering_steer (T.R_BeforeStart.k) (T.d_p_compare.cal (ok_p_compare T) (by decide) rm) (T.d_p_shown_at.calX (ok_p_shown_at T) (by decide) rm) ⟨T.g_ONE⟩ (T.d_p_span_to_follow.cal (ok_p_span_to_follow T) (by decide) rm) (T.d_p_middle_of.cal (ok_p_middle_of T) (by decide) rm) (T.d_p_divide.cal (ok_p_divide T) (by decide) rm) (T.d_p_width_of.cal (ok_p_width_of T) (by decide) rm) ⟨T.g_TWO⟩ (T.d_p_subtract.cal (ok_p_subtract T) (by decide) rm) (T.d_p_far_end.cal (ok_p_far_end T) (by decide) rm) (T.d_p_pieces_towards.cal (ok_p_pieces_towards T) (by decide) rm) (T.d_p_tidy.cal (ok_p_tidy T) (by decide) rm) (T.d_Steering_error_at.cal (ok_Steering_error_at T) (by decide) rm) T.no_Steering_steered_pieces T.no_Steering_steered_at T.no_Steering_steered_bound T.no_Steering_steered_half T.no_Steering_steered_aim)
theorem ok_law (T : Wd P K mg) : FnOk P w K mg base CX0 9 T.d_law.a T.d_law.fd ["_law_script"] (spOf K S_law) :=
  fn_ok T.d_law.F sc_law sb_law (.inr rfl) (by rintro ps Post ⟨ns, rfl, _⟩; exact ⟨rfl, rfl⟩) (fun X c e => by obtain ⟨rfl, rfl, rfl, rfl, rfl, rm⟩ := e; exact bd_law (T.d_l_store.cal (ok_l_store T) (by decide) rm) (T.d_l_begin.cal (ok_l_begin T) (by decide) rm) (T.d_l_plus.cal (ok_l_plus T) (by decide) rm) (T.d_l_spare.cal (ok_l_spare T) (by decide) rm) (T.d_l_span_near.cal (ok_l_span_near T) (by decide) rm) (T.d_l_now.cal (ok_l_now T) (by decide) rm) (T.d_l_bound.cal (ok_l_bound T) (by decide) rm) (T.d_l_turned.cal (ok_l_turned T) (by decide) rm) (T.d_l_take.cal (ok_l_take T) (by decide) rm) (T.d_l_below.cal (ok_l_below T) (by decide) rm) (T.d_l_minus.cal (ok_l_minus T) (by decide) rm) (T.d_l_course_due.cal (ok_l_course_due T) (by decide) rm) (T.d_l_times.cal (ok_l_times T) (by decide) rm) (T.d_l_made.cal (ok_l_made T) (by decide) rm) (T.d_l_answers_ok.cal (ok_l_answers_ok T) (by decide) rm) (T.d_Steering_steer.cal (ok_Steering_steer T) (by decide) rm) (T.d_Steering_course_of.cal (ok_Steering_course_of T) (by decide) rm))
theorem head {fa : Addr} (hm : mg "law" = some (.ref fa)) (T : Wd P K mg) : ∃ fd : FuncData, (∀ (s : Shared) (v : Value), BindsTo s fd ⟨[v], []⟩ [("_law_script", v)]) ∧ ∀ base : Heap, K.In base → base.Ns mainGlobals mg → FnOk P w K mg base CX0 9 fa fd ["_law_script"] (spOf K S_law) := law_end T.d_law hm fun base => ok_law T
end

/-! ### the head: what it looks at, the run -/
def fx0 : List Fy := [.fx (.fa (.glo "_law_store")), .fx (.fa (.glo "_law_feed")), .fx (.fa (.glo "_law_mixed")), .fx (.fa (.glo "_law_take")), .fx (.fa (.glo "_law_frac")), .fx (.fa (.glo "_law_times")), .fx (.fa (.glo "_law_slews")), .fx (.fa (.glo "_law_pick")), .fx (.fa (.glo "_law_part")), .fx (.fa (.glo "_law_plus"))]
def fx1 : List Fy := [.fx (.fa (.glo "_law_spare")), .fx (.fa (.glo "_law_above")), .fx (.fa (.glo "_law_over_step")), .fx (.fa (.glo "_law_begin")), .fx (.fa (.glo "_law_minus")), .fx (.fa (.glo "_law_span_near")), .fx (.fa (.glo "_law_below")), .fx (.fa (.glo "_law_now")), .fx (.fa (.glo "_law_bound")), .fx (.fa (.glo "_law_both"))]
def fx2 : List Fy := [.fx (.fa (.glo "_law_over")), .fx (.fa (.glo "_law_turned")), .fx (.fa (.glo "_law_course_due")), .fx (.fa (.glo "compare")), .fx (.fa (.glo "require_slew_and_drift")), .fx (.fa (.mkr "Steering")), .fx (.fa (.glo "Steering")), .fx (.fa (.glo "_law_made")), .fx (.fa (.glo "_law_is_int")), .fx (.fa (.glo "_law_same"))]
def fx3 : List Fy := [.fx (.fa (.glo "_law_shown")), .prop "Steering" "aim", .fx (.fa (.glo "common_factor")), .fx (.fa (.glo "add")), .fx (.fa (.glo "negate")), .fx (.fa (.glo "subtract")), .fx (.fa (.glo "multiply")), .fx (.fa (.glo "line_at")), .fx (.fa (.glo "jump_at")), .fx (.fa (.glo "tidy"))]
def fx4 : List Fy := [.fx (.fa (.meth "Steering" "course_of")), .fx (.fa (.glo "require_started")), .fx (.fa (.glo "place_in_force")), .fx (.fa (.glo "shown_at")), .fx (.fa (.meth "Steering" "display")), .fx (.fa (.glo "larger")), .fx (.fa (.glo "bound_behind")), .fx (.fa (.meth "Steering" "error_at")), .fx (.fa (.glo "_law_answers_ok")), .fx (.fa (.glo "smaller"))]
def fx5 : List Fy := [.fx (.fa (.glo "ends_cross")), .fx (.fa (.glo "meet")), .fx (.fa (.glo "span_to_follow")), .fx (.fa (.glo "middle_of")), .fx (.fa (.glo "divide")), .fx (.fa (.glo "width_of")), .fx (.fa (.glo "distance")), .fx (.fa (.glo "far_end")), .fx (.fa (.glo "pieces_towards")), .fx (.fa (.meth "Steering" "steer"))]
def fx6 : List Fy := [.fx (.fa (.glo "law")), .ins "Steering", .fx (.fa (.noat "Steering" "slew_told")), .fx (.fa (.noat "Steering" "drift_told")), .fx (.fa (.noat "Steering" "step_told")), .fx (.fa (.noat "Steering" "steered_at")), .fx (.fa (.noat "Steering" "steered_pieces")), .fx (.fa (.noat "Steering" "steered_bound")), .fx (.fa (.noat "Steering" "steered_half")), .fx (.fa (.noat "Steering" "steered_aim"))]
def fx7 : List Fy := [.tup (kwAt (.meth "Steering" "__init__") "drift") [.int 0, .int 1], .fx (.fa (.free "list")), .fx (.fa (.free "int")), .fx (.fa (.free "abs")), .fx (.fa (.free "max")), .fx (.fa (.free "len")), .fx (.fa (.free "isinstance")), .fx (.fa (.free "bool")), .fx (.fa (.free "str")), .fx (.fa (.free "dict"))]
def fx8 : List Fy := [.fx (.fa (.free "tuple")), .fx (.fa (.free "range")), .fx (.qd "ZERO_steering" 0 1), .fx (.qd "ONE" 1 1), .fx (.qd "ZERO_courses" 0 1), .fx (.qd "TWO" 2 1), .fx (.sub "BadRate" "BadRate" true), .fx (.sub "BeforeStart" "BeforeStart" true)]
def fx : List Fy := fx0 ++ fx1 ++ fx2 ++ fx3 ++ fx4 ++ fx5 ++ fx6 ++ fx7 ++ fx8
def fnl0 : List FnZ := [⟨.glo "_law_store", "_law_store", "_law_store", s_l_store, [], []⟩, ⟨.glo "_law_feed", "_law_feed", "_law_feed", s_l_feed, [], []⟩, ⟨.glo "_law_mixed", "_law_mixed", "_law_mixed", s_l_mixed, [], []⟩, ⟨.glo "_law_take", "_law_take", "_law_take", s_l_take, [], []⟩, ⟨.glo "_law_frac", "_law_frac", "_law_frac", s_l_frac, [], []⟩]
def fnl1 : List FnZ := [⟨.glo "_law_times", "_law_times", "_law_times", s_l_times, [], []⟩, ⟨.glo "_law_slews", "_law_slews", "_law_slews", s_l_slews, [], []⟩, ⟨.glo "_law_pick", "_law_pick", "_law_pick", s_l_pick, [], []⟩, ⟨.glo "_law_part", "_law_part", "_law_part", s_l_part, [], []⟩, ⟨.glo "_law_plus", "_law_plus", "_law_plus", s_l_plus, [], []⟩]
def fnl2 : List FnZ := [⟨.glo "_law_spare", "_law_spare", "_law_spare", s_l_spare, [], []⟩, ⟨.glo "_law_above", "_law_above", "_law_above", s_l_above, [], []⟩, ⟨.glo "_law_over_step", "_law_over_step", "_law_over_step", s_l_over_step, [], []⟩, ⟨.glo "_law_begin", "_law_begin", "_law_begin", s_l_begin, [], []⟩, ⟨.glo "_law_minus", "_law_minus", "_law_minus", s_l_minus, [], []⟩]
def fnl3 : List FnZ := [⟨.glo "_law_span_near", "_law_span_near", "_law_span_near", s_l_span_near, [], []⟩, ⟨.glo "_law_below", "_law_below", "_law_below", s_l_below, [], []⟩, ⟨.glo "_law_now", "_law_now", "_law_now", s_l_now, [], []⟩, ⟨.glo "_law_bound", "_law_bound", "_law_bound", s_l_bound, [], []⟩, ⟨.glo "_law_both", "_law_both", "_law_both", s_l_both, [], []⟩]
def fnl4 : List FnZ := [⟨.glo "_law_over", "_law_over", "_law_over", s_l_over, [], []⟩, ⟨.glo "_law_turned", "_law_turned", "_law_turned", s_l_turned, [], []⟩, ⟨.glo "_law_course_due", "_law_course_due", "_law_course_due", s_l_course_due, [], []⟩, ⟨.glo "compare", "compare", "compare", s_p_compare, [], []⟩, ⟨.glo "require_slew_and_drift", "require_slew_and_drift", "require_slew_and_drift", s_p_require_slew_and_drift, [], []⟩]
def fnl5 : List FnZ := [⟨.meth "Steering" "__init__", "__init__", "Steering.__init__", s_Steering___init__, [], [("drift", .adr (kwAt (.meth "Steering" "__init__") "drift")), ("step_over", .non)]⟩, ⟨.glo "_law_made", "_law_made", "_law_made", s_l_made, [], []⟩, ⟨.glo "_law_is_int", "_law_is_int", "_law_is_int", s_l_is_int, [], []⟩, ⟨.glo "_law_same", "_law_same", "_law_same", s_l_same, [], []⟩, ⟨.glo "_law_shown", "_law_shown", "_law_shown", s_l_shown, [], []⟩]
def fnl6 : List FnZ := [⟨.get "Steering" "aim", "aim", "Steering.aim", s_Steering_aim, [], []⟩, ⟨.glo "common_factor", "common_factor", "common_factor", s_p_common_factor, [], []⟩, ⟨.glo "add", "add", "add", s_p_add, [], []⟩, ⟨.glo "negate", "negate", "negate", s_p_negate, [], []⟩, ⟨.glo "subtract", "subtract", "subtract", s_p_subtract, [], []⟩]
def fnl7 : List FnZ := [⟨.glo "multiply", "multiply", "multiply", s_p_multiply, [], []⟩, ⟨.glo "line_at", "line_at", "line_at", s_p_line_at, [], []⟩, ⟨.glo "jump_at", "jump_at", "jump_at", s_p_jump_at, [], []⟩, ⟨.glo "tidy", "tidy", "tidy", s_p_tidy, [], []⟩, ⟨.meth "Steering" "course_of", "course_of", "Steering.course_of", s_Steering_course_of, [], []⟩]
def fnl8 : List FnZ := [⟨.glo "require_started", "require_started", "require_started", s_p_require_started, [], []⟩, ⟨.glo "place_in_force", "place_in_force", "place_in_force", s_p_place_in_force, [], []⟩, ⟨.glo "shown_at", "shown_at", "shown_at", s_p_shown_at, [], []⟩, ⟨.meth "Steering" "display", "display", "Steering.display", s_Steering_display, [], []⟩, ⟨.glo "larger", "larger", "larger", s_p_larger, [], []⟩]
def fnl9 : List FnZ := [⟨.glo "bound_behind", "bound_behind", "bound_behind", s_p_bound_behind, [], []⟩, ⟨.meth "Steering" "error_at", "error_at", "Steering.error_at", s_Steering_error_at, [], []⟩, ⟨.glo "_law_answers_ok", "_law_answers_ok", "_law_answers_ok", s_l_answers_ok, [], []⟩, ⟨.glo "smaller", "smaller", "smaller", s_p_smaller, [], []⟩, ⟨.glo "ends_cross", "ends_cross", "ends_cross", s_p_ends_cross, [], []⟩]
def fnl10 : List FnZ := [⟨.glo "meet", "meet", "meet", s_p_meet, [], []⟩, ⟨.glo "span_to_follow", "span_to_follow", "span_to_follow", s_p_span_to_follow, [], []⟩, ⟨.glo "middle_of", "middle_of", "middle_of", s_p_middle_of, [], []⟩, ⟨.glo "divide", "divide", "divide", s_p_divide, [], []⟩, ⟨.glo "width_of", "width_of", "width_of", s_p_width_of, [], []⟩]
def fnl11 : List FnZ := [⟨.glo "distance", "distance", "distance", s_p_distance, [], []⟩, ⟨.glo "far_end", "far_end", "far_end", s_p_far_end, [], []⟩, ⟨.glo "pieces_towards", "pieces_towards", "pieces_towards", s_p_pieces_towards, [], []⟩, ⟨.meth "Steering" "steer", "steer", "Steering.steer", s_Steering_steer, [], []⟩, ⟨.glo "law", "law", "law", s_law, [], []⟩]
def fnl : List FnZ := fnl0 ++ fnl1 ++ fnl2 ++ fnl3 ++ fnl4 ++ fnl5 ++ fnl6 ++ fnl7 ++ fnl8 ++ fnl9 ++ fnl10 ++ fnl11
def exl0 : List InD := [⟨"BadRate", "BadRate.__init__", i_BadRate, ["self", "value"], ["value"]⟩, ⟨"BeforeStart", "BeforeStart.__init__", i_BeforeStart, ["self", "value"], ["value"]⟩]
def exl : List InD := exl0
def nmt0 : List PySem.Str := ["_law_store", "_law_feed", "_law_mixed", "_law_take", "_law_frac", "_law_times", "_law_slews", "_law_pick", "_law_part", "_law_plus", "_law_spare", "_law_above"]
def nmt1 : List PySem.Str := ["_law_over_step", "_law_begin", "_law_minus", "_law_span_near", "_law_below", "_law_now", "_law_bound", "_law_both", "_law_over", "_law_turned", "_law_course_due", "compare"]
def nmt2 : List PySem.Str := ["require_slew_and_drift", "_law_made", "_law_is_int", "_law_same", "_law_shown", "common_factor", "add", "negate", "subtract", "multiply", "line_at", "jump_at"]
def nmt3 : List PySem.Str := ["tidy", "require_started", "place_in_force", "shown_at", "larger", "bound_behind", "_law_answers_ok", "smaller", "ends_cross", "meet", "span_to_follow", "middle_of"]
def nmt4 : List PySem.Str := ["divide", "width_of", "distance", "far_end", "pieces_towards", "law", "Steering", "ZERO_steering", "ONE", "ZERO_courses", "TWO", "BadRate"]
def nmt5 : List PySem.Str := ["BeforeStart", "VerdictError"]
def nmt : List PySem.Str := nmt0 ++ nmt1 ++ nmt2 ++ nmt3 ++ nmt4 ++ nmt5
def tp : TopE := ⟨PySem.Challenge.pw_clockverdict_k34_steer_once.main.file, nmt, ["Steering"], fx, fnl, exl⟩
def nms0 : List PySem.Str := ["VerdictError", "ZeroDivisor", "BeforeStart", "TurnsBack", "BadRate", "BadBound", "common_factor", "add", "negate", "subtract", "multiply", "divide"]
def nms1 : List PySem.Str := ["distance", "compare", "smaller", "larger", "ends_cross", "width_of", "middle_of", "far_end", "meet", "ZERO_courses", "line_at", "place_in_force"]
def nms2 : List PySem.Str := ["jump_at", "require_started", "shown_at", "tidy", "ZERO_steering", "ONE", "TWO", "require_slew_and_drift", "bound_behind", "pieces_towards", "span_to_follow", "Steering"]
def nms3 : List PySem.Str := ["_law_store", "_law_feed", "_law_mixed", "_law_take", "_law_pick", "_law_is_int", "_law_same", "_law_frac", "_law_plus", "_law_minus", "_law_times", "_law_over"]
def nms4 : List PySem.Str := ["_law_below", "_law_part", "_law_spare", "_law_above", "_law_shown", "_law_slews", "_law_over_step", "_law_begin", "_law_made", "_law_now", "_law_bound", "_law_both"]
def nms5 : List PySem.Str := ["_law_turned", "_law_span_near", "_law_course_due", "_law_answers_ok"]
def nms : List PySem.Str := nms0 ++ nms1 ++ nms2 ++ nms3 ++ nms4 ++ nms5
abbrev Rw : PySem.W.OpenRow := PySem.W.OpenLaw.row PySem.Challenge.rw_clockverdict_k34_steer_once
abbrev hk : PySem.W.Hook := hookE tp
def ob (s : PySem.W.SharedT) : AlE := obsEG tp (HandSHeadRun.getT s)
theorem ob_eq (s : PySem.W.SharedT) : ob s = hk.obs s.abs := obsEG_eq (HandSHeadRun.getT_eq s)
set_option maxHeartbeats 0 in
open PySem.W PySem.Calls PyProof.Rows in
theorem run0 (w : World) (os : PySem.OsState) : (endS Rw 20000 w os).map (lookS Rw (PySem.W.view Rw.prog [70]) nms w) = some (true, openGood (PySem.W.view Rw.prog [70]) nms) := by kernel_rfl
set_option maxHeartbeats 0 in
open PySem.W PySem.Calls PyProof.Rows in
theorem runB (w : World) (os : PySem.OsState) : (endS Rw 20000 w os).map (fun s => (obFy tp tp.fx s, obFz tp tp.fn s, obEz tp tp.ex s)) = some (true, (true, tp.fn.map FnZ.val), (true, tp.ex.map InD.val)) := by kernel_rfl
theorem run (w : World) : HandSHeadRun.RunEq Rw (PySem.W.view Rw.prog [70]) hk ob 20000 nms w := run_splitE (run0 w) (runB w)
theorem facts {K : PySem.W.Frag} {h : Heap} {mg : Str → Option Value} (X : K.In h) (G : h.Ns mainGlobals mg) (c : SaysE tp K) : Nonempty (Wd PySem.Challenge.pw_clockverdict_k34_steer_once K mg) := by
  obtain ⟨R_BadRate⟩ := raise_of (P := PySem.Challenge.pw_clockverdict_k34_steer_once) X G ⟨"BadRate", "BadRate.__init__", i_BadRate, ["self", "value"], ["value"]⟩ (c.err 0).1 (c.err 0).2 (by decide +kernel) (fun _ _ _ _ _ _ _ us hl => match us, hl with | [_, _], _ => rfl)
  have e_BadRate : R_BadRate.C = He.ga K "BadRate" := by
    have z := R_BadRate.e.m.symm.trans (PySem.W.mg_of X G (He.eqO_ok (all_at (c.err 0).2 0)))
    exact Value.ref.inj (Option.some.inj z)
  obtain ⟨R_BeforeStart⟩ := raise_of (P := PySem.Challenge.pw_clockverdict_k34_steer_once) X G ⟨"BeforeStart", "BeforeStart.__init__", i_BeforeStart, ["self", "value"], ["value"]⟩ (c.err 1).1 (c.err 1).2 (by decide +kernel) (fun _ _ _ _ _ _ _ us hl => match us, hl with | [_, _], _ => rfl)
  have e_BeforeStart : R_BeforeStart.C = He.ga K "BeforeStart" := by
    have z := R_BeforeStart.e.m.symm.trans (PySem.W.mg_of X G (He.eqO_ok (all_at (c.err 1).2 0)))
    exact Value.ref.inj (Option.some.inj z)
  have ic_Steering : InsC K "Steering" := fy_ins (c.fact 61)
  exact ⟨Wd.mk (d_l_store := defX X G (c.fn 0) (c.factX 0) (fun _ _ _ _ _ _ us hl => match us, hl with | [_], _ => rfl))
    (d_l_feed := defX X G (c.fn 1) (c.factX 1) (fun _ _ _ _ _ _ us hl => match us, hl with | [_], _ => rfl))
    (d_l_mixed := defX X G (c.fn 2) (c.factX 2) (fun _ _ _ _ _ _ us hl => match us, hl with | [_], _ => rfl))
    (d_l_take := defX X G (c.fn 3) (c.factX 3) (fun _ _ _ _ _ _ us hl => match us, hl with | [_, _], _ => rfl))
    (d_l_frac := defX X G (c.fn 4) (c.factX 4) (fun _ _ _ _ _ _ us hl => match us, hl with | [_, _], _ => rfl))
    (d_l_times := defX X G (c.fn 5) (c.factX 5) (fun _ _ _ _ _ _ us hl => match us, hl with | [_, _], _ => rfl))
    (d_l_slews := defX X G (c.fn 6) (c.factX 6) (fun _ _ _ _ _ _ us hl => match us, hl with | [_], _ => rfl))
    (d_l_pick := defX X G (c.fn 7) (c.factX 7) (fun _ _ _ _ _ _ us hl => match us, hl with | [_, _], _ => rfl))
    (d_l_part := defX X G (c.fn 8) (c.factX 8) (fun _ _ _ _ _ _ us hl => match us, hl with | [_], _ => rfl))
    (d_l_plus := defX X G (c.fn 9) (c.factX 9) (fun _ _ _ _ _ _ us hl => match us, hl with | [_, _], _ => rfl))
    (d_l_spare := defX X G (c.fn 10) (c.factX 10) (fun _ _ _ _ _ _ us hl => match us, hl with | [_], _ => rfl))
    (d_l_above := defX X G (c.fn 11) (c.factX 11) (fun _ _ _ _ _ _ us hl => match us, hl with | [_], _ => rfl))
    (d_l_over_step := defX X G (c.fn 12) (c.factX 12) (fun _ _ _ _ _ _ us hl => match us, hl with | [_], _ => rfl))
    (d_l_begin := defX X G (c.fn 13) (c.factX 13) (fun _ _ _ _ _ _ us hl => match us, hl with | [_], _ => rfl))
    (d_l_minus := defX X G (c.fn 14) (c.factX 14) (fun _ _ _ _ _ _ us hl => match us, hl with | [_, _], _ => rfl))
    (d_l_span_near := defX X G (c.fn 15) (c.factX 15) (fun _ _ _ _ _ _ us hl => match us, hl with | [_, _, _], _ => rfl))
    (d_l_below := defX X G (c.fn 16) (c.factX 16) (fun _ _ _ _ _ _ us hl => match us, hl with | [_, _], _ => rfl))
    (d_l_now := defX X G (c.fn 17) (c.factX 17) (fun _ _ _ _ _ _ us hl => match us, hl with | [_, _], _ => rfl))
    (d_l_bound := defX X G (c.fn 18) (c.factX 18) (fun _ _ _ _ _ _ us hl => match us, hl with | [_, _, _], _ => rfl))
    (d_l_both := defX X G (c.fn 19) (c.factX 19) (fun _ _ _ _ _ _ us hl => match us, hl with | [_, _], _ => rfl))
    (d_l_over := defX X G (c.fn 20) (c.factX 20) (fun _ _ _ _ _ _ us hl => match us, hl with | [_, _], _ => rfl))
    (d_l_turned := defX X G (c.fn 21) (c.factX 21) (fun _ _ _ _ _ _ us hl => match us, hl with | [_, _, _, _], _ => rfl))
    (d_l_course_due := defX X G (c.fn 22) (c.factX 22) (fun _ _ _ _ _ _ us hl => match us, hl with | [_, _, _], _ => rfl))
    (d_p_compare := defX X G (c.fn 23) (c.factX 23) (fun _ _ _ _ _ _ us hl => match us, hl with | [_, _], _ => rfl))
    (d_p_require_slew_and_drift := defX X G (c.fn 24) (c.factX 24) (fun _ _ _ _ _ _ us hl => match us, hl with | [_, _], _ => rfl))
    (d_Steering___init__ := initX X G ic_Steering (c.def_ 25) (c.factA 25) (c.factA 26))
    (d_l_made := defX X G (c.fn 26) (c.factX 27) (fun _ _ _ _ _ _ us hl => match us, hl with | [_], _ => rfl))
    (d_l_is_int := defX X G (c.fn 27) (c.factX 28) (fun _ _ _ _ _ _ us hl => match us, hl with | [_], _ => rfl))
    (d_l_same := defX X G (c.fn 28) (c.factX 29) (fun _ _ _ _ _ _ us hl => match us, hl with | [_, _], _ => rfl))
    (d_l_shown := defX X G (c.fn 29) (c.factX 30) (fun _ _ _ _ _ _ us hl => match us, hl with | [_, _], _ => rfl))
    (d_Steering_aim := getX ic_Steering (c.def_ 30) (c.fact 31) (fun _ _ _ _ _ _ us hl => match us, hl with | [_], _ => rfl))
    (d_p_common_factor := defX X G (c.fn 31) (c.factX 32) (fun _ _ _ _ _ _ us hl => match us, hl with | [_, _], _ => rfl))
    (d_p_add := defX X G (c.fn 32) (c.factX 33) (fun _ _ _ _ _ _ us hl => match us, hl with | [_, _], _ => rfl))
    (d_p_negate := defX X G (c.fn 33) (c.factX 34) (fun _ _ _ _ _ _ us hl => match us, hl with | [_], _ => rfl))
    (d_p_subtract := defX X G (c.fn 34) (c.factX 35) (fun _ _ _ _ _ _ us hl => match us, hl with | [_, _], _ => rfl))
    (d_p_multiply := defX X G (c.fn 35) (c.factX 36) (fun _ _ _ _ _ _ us hl => match us, hl with | [_, _], _ => rfl))
    (d_p_line_at := defX X G (c.fn 36) (c.factX 37) (fun _ _ _ _ _ _ us hl => match us, hl with | [_, _], _ => rfl))
    (d_p_jump_at := defX X G (c.fn 37) (c.factX 38) (fun _ _ _ _ _ _ us hl => match us, hl with | [_, _], _ => rfl))
    (d_p_tidy := defX X G (c.fn 38) (c.factX 39) (fun _ _ _ _ _ _ us hl => match us, hl with | [_], _ => rfl))
    (d_Steering_course_of := methX ic_Steering (c.def_ 39) (c.factA 40) (fun _ _ _ _ _ _ us hl => match us, hl with | [_], _ => rfl))
    (d_p_require_started := defX X G (c.fn 40) (c.factX 41) (fun _ _ _ _ _ _ us hl => match us, hl with | [_, _], _ => rfl))
    (d_p_place_in_force := defX X G (c.fn 41) (c.factX 42) (fun _ _ _ _ _ _ us hl => match us, hl with | [_, _], _ => rfl))
    (d_p_shown_at := defX X G (c.fn 42) (c.factX 43) (fun _ _ _ _ _ _ us hl => match us, hl with | [_, _], _ => rfl))
    (d_Steering_display := methX ic_Steering (c.def_ 43) (c.factA 44) (fun _ _ _ _ _ _ us hl => match us, hl with | [_, _], _ => rfl))
    (d_p_larger := defX X G (c.fn 44) (c.factX 45) (fun _ _ _ _ _ _ us hl => match us, hl with | [_, _], _ => rfl))
    (d_p_bound_behind := defX X G (c.fn 45) (c.factX 46) (fun _ _ _ _ _ _ us hl => match us, hl with | [_, _, _, _, _], _ => rfl))
    (d_Steering_error_at := methX ic_Steering (c.def_ 46) (c.factA 47) (fun _ _ _ _ _ _ us hl => match us, hl with | [_, _], _ => rfl))
    (d_l_answers_ok := defX X G (c.fn 47) (c.factX 48) (fun _ _ _ _ _ _ us hl => match us, hl with | [_, _, _, _, _, _], _ => rfl))
    (d_p_smaller := defX X G (c.fn 48) (c.factX 49) (fun _ _ _ _ _ _ us hl => match us, hl with | [_, _], _ => rfl))
    (d_p_ends_cross := defX X G (c.fn 49) (c.factX 50) (fun _ _ _ _ _ _ us hl => match us, hl with | [_, _], _ => rfl))
    (d_p_meet := defX X G (c.fn 50) (c.factX 51) (fun _ _ _ _ _ _ us hl => match us, hl with | [_, _], _ => rfl))
    (d_p_span_to_follow := defX X G (c.fn 51) (c.factX 52) (fun _ _ _ _ _ _ us hl => match us, hl with | [_, _, _], _ => rfl))
    (d_p_middle_of := defX X G (c.fn 52) (c.factX 53) (fun _ _ _ _ _ _ us hl => match us, hl with | [_], _ => rfl))
    (d_p_divide := defX X G (c.fn 53) (c.factX 54) (fun _ _ _ _ _ _ us hl => match us, hl with | [_, _], _ => rfl))
    (d_p_width_of := defX X G (c.fn 54) (c.factX 55) (fun _ _ _ _ _ _ us hl => match us, hl with | [_], _ => rfl))
    (d_p_distance := defX X G (c.fn 55) (c.factX 56) (fun _ _ _ _ _ _ us hl => match us, hl with | [_, _], _ => rfl))
    (d_p_far_end := defX X G (c.fn 56) (c.factX 57) (fun _ _ _ _ _ _ us hl => match us, hl with | [_, _], _ => rfl))
    (d_p_pieces_towards := defX X G (c.fn 57) (c.factX 58) (fun _ _ _ _ _ _ us hl => match us, hl with | [_, _, _, _], _ => rfl))
    (d_Steering_steer := methX ic_Steering (c.def_ 58) (c.factA 59) (fun _ _ _ _ _ _ us hl => match us, hl with | [_, _, _], _ => rfl))
    (d_law := defX X G (c.fn 59) (c.factX 60) (fun _ _ _ _ _ _ us hl => match us, hl with | [_], _ => rfl))
    (no_Steering_slew_told := He.noat_ok (c.factA 62))
    (no_Steering_drift_told := He.noat_ok (c.factA 63))
    (no_Steering_step_told := He.noat_ok (c.factA 64))
    (no_Steering_steered_at := He.noat_ok (c.factA 65))
    (no_Steering_steered_pieces := He.noat_ok (c.factA 66))
    (no_Steering_steered_bound := He.noat_ok (c.factA 67))
    (no_Steering_steered_half := He.noat_ok (c.factA 68))
    (no_Steering_steered_aim := He.noat_ok (c.factA 69))
    (kd_Steering_drift := fy_tup (c.fact 70))
    (b_list := fx_free X G (c.factX 71))
    (b_int := fx_free X G (c.factX 72))
    (b_abs := fx_free X G (c.factX 73))
    (b_max := fx_free X G (c.factX 74))
    (b_len := fx_free X G (c.factX 75))
    (b_isinstance := fx_free X G (c.factX 76))
    (b_bool := fx_free X G (c.factX 77))
    (b_str := fx_free X G (c.factX 78))
    (b_dict := fx_free X G (c.factX 79))
    (b_tuple := fx_free X G (c.factX 80))
    (b_range := fx_free X G (c.factX 81))
    (g_ZERO_steering := fx_qd X G (c.factX 82))
    (g_ONE := fx_qd X G (c.factX 83))
    (g_ZERO_courses := fx_qd X G (c.factX 84))
    (g_TWO := fx_qd X G (c.factX 85))
    (R_BadRate := R_BadRate)
    (R_BeforeStart := R_BeforeStart)
    (s_BadRate_BadRate := by rw [e_BadRate]; exact fx_sub (c.factX 86))
    (s_BeforeStart_BeforeStart := by rw [e_BeforeStart]; exact fx_sub (c.factX 87))⟩
end Lw
end

open PySem PySem.W PySem.Calls PyProof.Rows in
set_option maxRecDepth 100000 in
set_option maxHeartbeats 0 in
theorem PySem.Challenge.cw_clockverdict_k34_steer_once_holds : PySem.Challenge.rw_clockverdict_k34_steer_once.Holds := by
  w_on; o_law
  refine HandSHeadRun.head_any (r := OpenLaw.row PySem.Challenge.rw_clockverdict_k34_steer_once) (q := view (PySem.W.OpenLaw.row PySem.Challenge.rw_clockverdict_k34_steer_once).prog [70]) (H := Lw.hk) (ob := Lw.ob) (M := 20000) (loose := Lw.nms) (d := HandSHeadRun.topDef (PySem.W.OpenLaw.row PySem.Challenge.rw_clockverdict_k34_steer_once).prog 70) (kwd := []) Lw.ob_eq
    (by kernel_rfl) (fun s => by kernel_rfl) Lw.run (by kernel_rfl) (by kernel_rfl) (by kernel_rfl) (by rfl) (by first | assumption | decide +kernel) (by decide +kernel) ⟨rfl, rfl, rfl, rfl, rfl, by decide +kernel⟩ ?hw ?hc
  case hw => w_witness2
  case hc =>
    refine L2.walk_ofE (l := PySem.Challenge.rw_clockverdict_k34_steer_once) (n := 63) (k := 9) (x := "_law_script") (CX := L2.CX0) rfl (by decide) (by kernel_rfl) ⟨rfl, by decide, by decide⟩ ?F (fun _ _ _ _ z => z)
    intro w mg fa h Y G hmg0
    obtain ⟨K, KX, c⟩ := Y
    have hmg : mg ("law" : PySem.Str) = some (.ref fa) := by
      have e : (HandSHeadRun.topDef (PySem.W.OpenLaw.row PySem.Challenge.rw_clockverdict_k34_steer_once).prog 70).name = ("law" : PySem.Str) := by kernel_rfl
      rw [← e]
      exact hmg0
    obtain ⟨T⟩ := Lw.facts KX G c
    obtain ⟨fd, hb, hF⟩ := Lw.head (w := w) hmg T
    exact ⟨K, fd, DL.spOf K Lw.S_law, KX, hb, fun H a ns hl ho hS => DL.sp_law (fun ns h => ⟨ns, rfl, h, rfl⟩) K H a ns hl ho hS, hF⟩

