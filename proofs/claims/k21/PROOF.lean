import PyProof.Rows.All
import Wide.All
import OpenK.AllK
import Wide.FinOn
import HandS.ForMost
import HandS.Wide
import HandS.IsInst
import HandS.Flow
import HandS.More
import HandS.Style
import HandS.WordsExc
import HandS.HotCalls
import HandS.ExcField
import HandS.ExcIs
import HandS.HeadHook1
import KE.DataFind
import KE.KExcSuper
import HandS.Nested
import HandS.ExcInit
import HandS.ExcOwn
import HandS.ExcCtx
import KE.KStateDown
import HandS.Defaults
import HandS.Head0
import HandS.Head1
import HandS.Head2
import HandS.HeadEnd
import HandS.HeadHook2
import HandS.Deep
import HandS.TryMany
import HandS.TryOnly
import HandS.MakeKw
import HandS.Property
import HandS.MakeKwOnly
import HandS.ClsMeth
import HandS.HeadNt
import PyProof.P3In
import HandS.Star
import HandS.OwnIter
import HandS.IterNext
import HandS.IterVal
import PyProof.CollectIter
import HandS.Dict
import HandS.SortRule
import KE.DataMinMax
import HandS.Zip
import HandS.TupAny
import HandS.CallSlots
import HandS.Walk
import HandS.Conv
import HandS.TupMul
import PyProof.Runs
import PyProof.Wp
import HandS.GenList
import KE.SortData
import KE.DatumOrd
import PySem.Challenge.RW_clockverdict_k21_small_sets
section
set_option Elab.async false
set_option linter.all false
set_option maxRecDepth 100000
set_option maxHeartbeats 4000000
/-! data and how it lies in the heap; slots of a def; judgements over slots alone -/
namespace DL
open PySem L2

inductive D where
  | non | bl (b : Bool) | int (i : Int) | str (x : Str) | lst (xs : List D) | tup (xs : List D) | dic (kvs : List (Key × D)) | ins (nm : Str) (fs : List (Str × D))

def Ex (H H' : Hp) : Prop := ∀ a o, H a = some o → H' a = some o
theorem Ex.refl (H : Hp) : Ex H H := fun _ _ h => h
theorem Ex.trans {H H1 H2 : Hp} (a : Ex H H1) (b : Ex H1 H2) : Ex H H2 := fun x o h => b x o (a x o h)
theorem Ex.new {H : Hp} {p : Addr} {o : HO} (h : H p = none) : Ex H (upd H p o) := fun a u e => by
  rw [upd_ne (ne_of_none e h)]; exact e
theorem Ex.back {H H' : Hp} {p : Addr} (e : Ex H H') (h : H' p = none) : H p = none := by
  cases h1 : H p with
  | none => rfl
  | some o => rw [e p o h1] at h; cases h
theorem Ex.ne {H H' : Hp} {p : Addr} (e : Ex H H') (h : H p ≠ none) : H' p ≠ none := fun z => h (e.back z)
theorem ex_rd {H H' : Hp} {a : Addr} {u : HO} (e : Ex H H') (h : Rd H a u) : Rd H' a u := by
  rcases h with h | ⟨o, h⟩
  · exact .inl (e a _ h)
  · exact .inr ⟨o, e a _ h⟩
theorem ex_l {K : PySem.W.Frag} {H H' : Hp} {a : Addr} {xs : List V} (e : Ex H H') (h : SqL K H a xs) : SqL K H' a xs := h.imp (ex_rd e) id
theorem ex_t {K : PySem.W.Frag} {H H' : Hp} {a : Addr} {xs : List V} (e : Ex H H') (h : SqT K H a xs) : SqT K H' a xs := h.imp (ex_rd e) id

/-- facts of an own class: plain attributes, no built-in kind -/
structure InsC (K : PySem.W.Frag) (nm : Str) : Prop where
  cl : Cls K (He.ga K nm)
  ha : PySem.W.findIn K (.ref (He.ga K nm)) "__class__" = some (some (.builtin "object.__class__"))
  hn : PySem.W.specialIn K (.builtin "object.__class__") "__get__" = some (some (.builtin "getset_descriptor.__get__"))
  ht : PySem.W.takesIn K (.builtin "object.__class__") = some true
  hm : PySem.W.mroIn K (He.ga K nm) (.type "object") = some true
  no : ∀ T ∈ (["bool", "int", "str", "list", "tuple", "dict"] : List String), PySem.W.kitOne K (.ref (He.ga K nm)) (.type T) = some false
/-- an instance's attributes are none of its class's -/
def NoFs (K : PySem.W.Frag) (nm : Str) (fs : List (Str × D)) : Prop := ∀ f ∈ fs.map (·.1), NoAttr K (He.ga K nm) f
section
variable (K : PySem.W.Frag) (R : Hp)
mutual
def Rp : D → V → Prop
  | .non, v => v = .non
  | .bl b, v => v = .bl b
  | .int i, v => v = .int i
  | .str x, v => v = .str x
  | .lst ds, v => ∃ a vs, v = .ref a ∧ R a = some (.lst vs) ∧ RpL ds vs
  | .tup ds, v => ∃ a vs, v = .ref a ∧ SqT K R a vs ∧ RpL ds vs
  | .dic kvs, v => ∃ a ws, v = .ref a ∧ R a = some (.dK ws) ∧ RpK kvs ws
  | .ins nm fs, v => ∃ a dx ws, v = .ref a ∧ R a = some (.ins (He.ga K nm) dx ws) ∧ (InsC K nm ∧ NoFs K nm fs) ∧ FldOk fs ws
def RpL : List D → List V → Prop
  | [], vs => vs = []
  | d :: ds, vs => ∃ v ws, vs = v :: ws ∧ Rp d v ∧ RpL ds ws
def RpK : List (Key × D) → List (Key × V) → Prop
  | [], ws => ws = []
  | (k, d) :: r, ws => ∃ v ws', ws = (k, v) :: ws' ∧ Rp d v ∧ RpK r ws'
def FldOk : List (Str × D) → List (Str × V) → Prop
  | [], ws => ws = []
  | (k, d) :: r, ws => ∃ v ws', ws = (k, v) :: ws' ∧ Rp d v ∧ FldOk r ws'
end
end

section
variable {K : PySem.W.Frag} {R R' : Hp}
mutual
theorem Rp.mono (e : Ex R R') : ∀ (d : D) (v : V), Rp K R d v → Rp K R' d v
  | .non, _, h => h
  | .bl _, _, h => h
  | .int _, _, h => h
  | .str _, _, h => h
  | .lst ds, _, ⟨a, vs, h1, h2, h3⟩ => ⟨a, vs, h1, e a _ h2, RpL.mono e ds vs h3⟩
  | .tup ds, _, ⟨a, vs, h1, h2, h3⟩ => ⟨a, vs, h1, ex_t e h2, RpL.mono e ds vs h3⟩
  | .dic kvs, _, ⟨a, ws, h1, h2, h3⟩ => ⟨a, ws, h1, e a _ h2, RpK.mono e kvs ws h3⟩
  | .ins nm fs, _, ⟨a, dx, ws, h1, h2, h3, h4⟩ => ⟨a, dx, ws, h1, e a _ h2, h3, FldOk.mono e h4⟩
theorem RpL.mono (e : Ex R R') : ∀ (ds : List D) (vs : List V), RpL K R ds vs → RpL K R' ds vs
  | [], _, h => h
  | d :: ds, _, ⟨v, ws, h1, h2, h3⟩ => ⟨v, ws, h1, Rp.mono e d v h2, RpL.mono e ds ws h3⟩
theorem RpK.mono (e : Ex R R') : ∀ (ds : List (Key × D)) (vs : List (Key × V)), RpK K R ds vs → RpK K R' ds vs
  | [], _, h => h
  | (_, d) :: ds, _, ⟨v, ws, h1, h2, h3⟩ => ⟨v, ws, h1, Rp.mono e d v h2, RpK.mono e ds ws h3⟩
theorem FldOk.mono (e : Ex R R') : ∀ {fs : List (Str × D)} {ws : List (Str × V)}, FldOk K R fs ws → FldOk K R' fs ws
  | [], _, h => h
  | (_, d) :: ds, _, ⟨v, ws, h1, h2, h3⟩ => ⟨v, ws, h1, Rp.mono e d v h2, FldOk.mono e h3⟩
end
theorem RpL.length : ∀ {ds : List D} {vs : List V}, RpL K R ds vs → ds.length = vs.length
  | [], _, h => by cases (show _ = _ from h); rfl
  | d :: ds, _, ⟨v, ws, h1, h2, h3⟩ => by subst h1; simp [RpL.length h3]
theorem RpL.get : ∀ {ds : List D} {vs : List V} {i : Nat} {d : D}, RpL K R ds vs → ds[i]? = some d → ∃ v, vs[i]? = some v ∧ Rp K R d v
  | [], _, i, _, h, e => by simp at e
  | d :: ds, _, 0, x, ⟨v, ws, h1, h2, h3⟩, e => by
    subst h1; simp at e; subst e; exact ⟨v, rfl, h2⟩
  | d :: ds, _, i + 1, x, ⟨v, ws, h1, h2, h3⟩, e => by
    subst h1
    obtain ⟨u, a, b⟩ := RpL.get (i := i) h3 (by simpa using e)
    exact ⟨u, by simpa using a, b⟩
theorem RpL.get' : ∀ {ds : List D} {vs : List V} {i : Nat} {v : V}, RpL K R ds vs → vs[i]? = some v → ∃ d, ds[i]? = some d ∧ Rp K R d v
  | [], _, i, _, h, e => by cases (show _ = _ from h); simp at e
  | d :: ds, _, 0, x, ⟨v, ws, h1, h2, h3⟩, e => by
    subst h1; simp at e; subst e; exact ⟨d, rfl, h2⟩
  | d :: ds, _, i + 1, x, ⟨v, ws, h1, h2, h3⟩, e => by
    subst h1
    obtain ⟨u, a, b⟩ := RpL.get' (i := i) h3 (by simpa using e)
    exact ⟨u, by simpa using a, b⟩
theorem RpL.append : ∀ {ds es : List D} {vs ws : List V}, RpL K R ds vs → RpL K R es ws → RpL K R (ds ++ es) (vs ++ ws)
  | [], _, _, _, h, h' => by cases (show _ = _ from h); exact h'
  | d :: ds, _, _, _, ⟨v, ws, h1, h2, h3⟩, h' => by subst h1; exact ⟨v, _, rfl, h2, RpL.append h3 h'⟩
theorem RpL.take : ∀ {ds : List D} {vs : List V} (n : Nat), RpL K R ds vs → RpL K R (ds.take n) (vs.take n)
  | [], _, n, h => by cases (show _ = _ from h); simp [RpL]
  | d :: ds, _, 0, h => by simp [RpL]
  | d :: ds, _, n + 1, ⟨v, ws, h1, h2, h3⟩ => by subst h1; exact ⟨v, _, rfl, h2, RpL.take n h3⟩
theorem RpL.drop : ∀ {ds : List D} {vs : List V} (n : Nat), RpL K R ds vs → RpL K R (ds.drop n) (vs.drop n)
  | [], _, n, h => by cases (show _ = _ from h); simp [RpL]
  | d :: ds, _, 0, h => h
  | d :: ds, _, n + 1, ⟨v, ws, h1, h2, h3⟩ => by subst h1; exact RpL.drop n h3
theorem RpL.set : ∀ {ds : List D} {vs : List V} (n : Nat) {d : D} {v : V}, RpL K R ds vs → Rp K R d v → RpL K R (ds.set n d) (vs.set n v)
  | [], _, n, _, _, h, _ => by cases (show _ = _ from h); simp [RpL]
  | d :: ds, _, 0, _, _, ⟨v, ws, h1, h2, h3⟩, h' => by subst h1; exact ⟨_, _, rfl, h', h3⟩
  | d :: ds, _, n + 1, _, _, ⟨v, ws, h1, h2, h3⟩, h' => by subst h1; exact ⟨v, _, rfl, h2, RpL.set n h3 h'⟩
theorem RpL.erase : ∀ {ds : List D} {vs : List V} (n : Nat), RpL K R ds vs → RpL K R (ds.eraseIdx n) (vs.eraseIdx n)
  | [], _, n, h => by cases (show _ = _ from h); simp [RpL]
  | d :: ds, _, 0, ⟨v, ws, h1, h2, h3⟩ => by subst h1; exact h3
  | d :: ds, _, n + 1, ⟨v, ws, h1, h2, h3⟩ => by subst h1; exact ⟨v, _, rfl, h2, RpL.erase n h3⟩
theorem RpL.one {d : D} {v : V} (h : Rp K R d v) : RpL K R [d] [v] := ⟨v, [], rfl, h, rfl⟩
theorem RpL.nil : RpL K R [] [] := rfl
theorem RpL.cons {d : D} {v : V} {ds : List D} {vs : List V} (h : Rp K R d v) (t : RpL K R ds vs) : RpL K R (d :: ds) (v :: vs) := ⟨v, vs, rfl, h, t⟩
theorem RpL.dropLast {ds : List D} {vs : List V} (h : RpL K R ds vs) : RpL K R ds.dropLast vs.dropLast := by
  rw [List.dropLast_eq_take, List.dropLast_eq_take, h.length]; exact h.take _
theorem RpL.reverse : ∀ {ds : List D} {vs : List V}, RpL K R ds vs → RpL K R ds.reverse vs.reverse
  | [], _, h => by cases (show _ = _ from h); simp [RpL]
  | d :: ds, _, ⟨v, ws, h1, h2, h3⟩ => by subst h1; simp only [List.reverse_cons]; exact (RpL.reverse h3).append (.one h2)
theorem RpL.ints : ∀ {ns : List Int}, RpL K R (ns.map D.int) (ns.map V.int)
  | [] => rfl
  | n :: ns => ⟨_, _, rfl, rfl, RpL.ints⟩
end

/-! ### owned objects, slots -/
/-- a draw's store: whole and in its bounds; what it holds is left open -/
def StoreB (ns : List Int) (place great st left cnt : Int) : Prop :=
  ns.length ≤ 63 ∧ (0 ≤ place ∧ place ≤ ns.length) ∧ 0 ≤ great ∧ (0 ≤ st ∧ st < 1000000007) ∧ (0 ≤ left ∧ left ≤ 3) ∧ 0 ≤ cnt
/-- what a store holds -/
def stoD (ns : List Int) (place great st left cnt : Int) : List D := [.lst (ns.map D.int), .int place, .int great, .int st, .int left, .int cnt]
def StoreOk (K : PySem.W.Frag) (R H : Hp) (s : Addr) : Prop :=
  ∃ (ns : List Int) (place great st left cnt : Int), StoreB ns place great st left cnt ∧ ∃ vs, H s = some (.lst vs) ∧ RpL K R (stoD ns place great st left cnt) vs
inductive OB where
  | lst (xs : List D) | sto | dic (kvs : List (Key × D)) | ins (nm : Str) (fs : List (Str × D)) | lstA (b : Addr) (xs : List D) | lstV (b : Addr) (vs : List V) (xs : List D) | dicA (b : Addr) (kvs : List (Key × D))
def OBOk (K : PySem.W.Frag) (R H : Hp) (a : Addr) : OB → Prop
  | .lst ds => ∃ vs, H a = some (.lst vs) ∧ RpL K R ds vs
  | .sto => StoreOk K R H a
  | .dic kvs => ∃ ws, H a = some (.dK ws) ∧ RpK K R kvs ws
  | .ins nm fs => ∃ dx ws, H a = some (.ins (He.ga K nm) dx ws) ∧ (InsC K nm ∧ NoFs K nm fs) ∧ FldOk K R fs ws
  | .lstA b ds => a = b ∧ ∃ vs, H a = some (.lst vs) ∧ RpL K R ds vs
  | .lstV b vs ds => a = b ∧ H a = some (.lst vs) ∧ RpL K R ds vs
  | .dicA b kvs => a = b ∧ ∃ ws, H a = some (.dK ws) ∧ RpK K R kvs ws
theorem OBOk.mono {K : PySem.W.Frag} {R R' H H' : Hp} {a : Addr} (e : Ex R R') (k : ∀ o, H a = some o → H' a = some o) : ∀ {o : OB}, OBOk K R H a o → OBOk K R' H' a o
  | .lst _, ⟨vs, h1, h2⟩ => ⟨vs, k _ h1, h2.mono e⟩
  | .sto, ⟨ns, p, g, st, l, n, h1, vs, h2, h3⟩ => ⟨ns, p, g, st, l, n, h1, vs, k _ h2, h3.mono e⟩
  | .dic _, ⟨vs, h1, h2⟩ => ⟨vs, k _ h1, h2.mono e⟩
  | .ins _ _, ⟨dx, ws, h1, h2, h3⟩ => ⟨dx, ws, k _ h1, h2, h3.mono e⟩
  | .lstA _ _, ⟨h0, vs, h1, h2⟩ => ⟨h0, vs, k _ h1, h2.mono e⟩
  | .lstV _ _ _, ⟨h0, h1, h2⟩ => ⟨h0, k _ h1, h2.mono e⟩
  | .dicA _ _, ⟨h0, vs, h1, h2⟩ => ⟨h0, vs, k _ h1, h2.mono e⟩
theorem OBOk.there {K : PySem.W.Frag} {R H : Hp} {a : Addr} : ∀ {o : OB}, OBOk K R H a o → H a ≠ none
  | .lst _, ⟨vs, h1, _⟩ => by rw [h1]; simp
  | .sto, ⟨ns, p, g, st, l, n, h1, vs, h2, _⟩ => by rw [h2]; simp
  | .dic _, ⟨vs, h1, _⟩ => by rw [h1]; simp
  | .ins _ _, ⟨dx, ws, h1, _⟩ => by rw [h1]; simp
  | .lstA _ _, ⟨_, vs, h1, _⟩ => by rw [h1]; simp
  | .lstV _ _ _, ⟨_, h1, _⟩ => by rw [h1]; simp
  | .dicA _ _, ⟨_, vs, h1, _⟩ => by rw [h1]; simp

/-- read-only: data of the frozen part, or a list, a dict that stands in the heap and whose things are frozen -/
def WOk (K : PySem.W.Frag) (M : Addr → Prop) (R H : Hp) (x : D) (v : V) : Prop :=
  Rp K R x v ∨ (∃ a vs ds, v = .ref a ∧ x = .lst ds ∧ ¬ M a ∧ H a = some (.lst vs) ∧ RpL K R ds vs) ∨ (∃ a ws kvs, v = .ref a ∧ x = .dic kvs ∧ ¬ M a ∧ H a = some (.dK ws) ∧ RpK K R kvs ws) ∨ (∃ a dx ws nm fs, v = .ref a ∧ x = .ins nm fs ∧ ¬ M a ∧ H a = some (.ins (He.ga K nm) dx ws) ∧ (InsC K nm ∧ NoFs K nm fs) ∧ FldOk K R fs ws)
theorem WOk.mono {K : PySem.W.Frag} {M : Addr → Prop} {R R' H H' : Hp} {x : D} {v : V} (e : Ex R R') (k : ∀ a o, ¬ M a → H a = some o → H' a = some o) : WOk K M R H x v → WOk K M R' H' x v
  | .inl h => .inl (h.mono e)
  | .inr (.inl ⟨a, vs, ds, h1, h2, h3, h4, h5⟩) => .inr (.inl ⟨a, vs, ds, h1, h2, h3, k a _ h3 h4, h5.mono e⟩)
  | .inr (.inr (.inl ⟨a, vs, ds, h1, h2, h3, h4, h5⟩)) => .inr (.inr (.inl ⟨a, vs, ds, h1, h2, h3, k a _ h3 h4, h5.mono e⟩))
  | .inr (.inr (.inr ⟨a, dx, ws, nm, fs, h1, h2, h3, h4, h5, h6⟩)) => .inr (.inr (.inr ⟨a, dx, ws, nm, fs, h1, h2, h3, k a _ h3 h4, h5, h6.mono e⟩))
theorem WOk.noM {K : PySem.W.Frag} {M M' : Addr → Prop} {R H : Hp} {x : D} {v : V} (k : ∀ a o, H a = some o → ¬ M a → ¬ M' a) : WOk K M R H x v → WOk K M' R H x v
  | .inl h => .inl h
  | .inr (.inl ⟨a, vs, ds, h1, h2, h3, h4, h5⟩) => .inr (.inl ⟨a, vs, ds, h1, h2, k a _ h4 h3, h4, h5⟩)
  | .inr (.inr (.inl ⟨a, vs, ds, h1, h2, h3, h4, h5⟩)) => .inr (.inr (.inl ⟨a, vs, ds, h1, h2, k a _ h4 h3, h4, h5⟩))
  | .inr (.inr (.inr ⟨a, dx, ws, nm, fs, h1, h2, h3, h4, h5, h6⟩)) => .inr (.inr (.inr ⟨a, dx, ws, nm, fs, h1, h2, k a _ h4 h3, h4, h5, h6⟩))
/-- an exception's dict, frozen -/
def XfOk (K : PySem.W.Frag) (R : Hp) (d : Option Addr) (fs : List (Str × D)) : Prop := (d = none ∧ fs = []) ∨ ∃ dd vs, d = some dd ∧ R dd = some (.xd vs) ∧ FldOk K R fs vs
theorem XfOk.mono {K : PySem.W.Frag} {R R' : Hp} {d : Option Addr} {fs : List (Str × D)} (e : Ex R R') : XfOk K R d fs → XfOk K R' d fs
  | .inl h => .inl h
  | .inr ⟨dd, vs, h1, h2, h3⟩ => .inr ⟨dd, vs, h1, e _ _ h2, h3.mono e⟩
/-- a tuple that holds a reference to b, data else -/
def BxOk (K : PySem.W.Frag) (R : Hp) (pre : List D) (b : Addr) (post : List D) (v : V) : Prop := ∃ a us ws, v = .ref a ∧ SqT K R a (us ++ .ref b :: ws) ∧ RpL K R pre us ∧ RpL K R post ws
theorem BxOk.mono {K : PySem.W.Frag} {R R' : Hp} {pre post : List D} {b : Addr} {v : V} (e : Ex R R') : BxOk K R pre b post v → BxOk K R' pre b post v
  | ⟨a, us, ws, h1, h2, h3, h4⟩ => ⟨a, us, ws, h1, ex_t e h2, h3.mono e, h4.mono e⟩
theorem ex_u {R R' : Hp} {b : Addr} {u : HO} (e : Ex R R') : Ex (upd R b u) (upd R' b u) := fun a o h => by
  by_cases z : a = b
  · subst z; rw [upd_same] at h ⊢; exact h
  · rw [upd_ne z] at h ⊢; exact e a o h
/-- tn: data that may lean on the list at b as it is now -/
inductive Slot where
  | no | any | d (x : D) | w (x : D) | own (o : OB) | sc (ns : List Int) | ex (a : Addr) (d : Option Addr) (fs : List (Str × D)) | bx (pre : List D) (b : Addr) (post : List D) | lk (kvs : List (Key × D)) | tn (b : Addr) (vs : List V) (x : D)

structure Cc where
  R0 : Hp
  H0 : Hp
  M : Addr → Prop
  oi : List (Nat × Addr)
  /-- what is wanted of an exception: its class, its fields, the slots -/
  xw : Addr → List (Str × D) → List Slot → Prop

def SlotOk (K : PySem.W.Frag) (c : Cc) (R H : Hp) : Slot → Option V → Prop
  | .no, o => o = none
  | .any, _ => True
  | .d x, o => ∃ v, o = some v ∧ Rp K R x v
  | .w x, o => ∃ v, o = some v ∧ WOk K (fun a => c.H0 a = none ∨ c.M a) R H x v
  | .own ob, o => ∃ a, o = some (.ref a) ∧ OBOk K R H a ob ∧ R a = none ∧ (c.H0 a = none ∨ c.M a)
  | .sc ns, o => ∃ a, o = some (.ref a) ∧ SqL K R a (ns.map V.int)
  | .ex a d fs, o => o = some (.ref a) ∧ XfOk K R d fs
  | .bx pre b post, o => ∃ v, o = some v ∧ BxOk K R pre b post v
  | .lk kvs, o => ∃ (a : Addr) (ws : List (Key × V)) (od : Obj), o = some (.ref a) ∧ c.H0 a = some (.frz od (.dK ws)) ∧ ¬ c.M a ∧ RpK K R kvs ws
  | .tn b vs x, o => ∃ v, o = some v ∧ Rp K (upd R b (.lst vs)) x v

/-- what is true of slots and heaps between two steps of a def: R the frozen part, H all -/
structure SOk (K : PySem.W.Frag) (c : Cc) (Γ : List Slot) (σ : St) (R H : Hp) : Prop where
  rh : Ex R H
  r0 : Ex c.R0 R
  hm : ∀ a o, ¬ c.M a → c.H0 a = some o → H a = some o
  pr : ∀ a, c.H0 a ≠ none → H a ≠ none
  un : ∀ a, c.H0 a ≠ none → c.R0 a = none → R a = none
  len : Γ.length = σ.length
  sl : ∀ (i : Nat) (s : Slot), Γ[i]? = some s → ∃ o, σ[i]? = some o ∧ SlotOk K c R H s o
  dj : ∀ (i j : Nat) (a : Addr) (o o' : OB), Γ[i]? = some (.own o) → Γ[j]? = some (.own o') → σ[i]? = some (some (.ref a)) → σ[j]? = some (some (.ref a)) → i = j
  oi : ∀ p ∈ c.oi, σ[p.1]? = some (some (.ref p.2)) ∧ ∃ o, Γ[p.1]? = some (.own o)
/-- a fresh thing that no slot holds yet, or data -/
inductive Res where
  | d (x : D) | own (o : OB) | bx (pre : List D) (b : Addr) (post : List D) (o : OB)
def VOk (K : PySem.W.Frag) (c : Cc) (Γ : List Slot) (σ : St) (R H : Hp) : Res → V → Prop
  | .d x, v => Rp K R x v
  | .own ob, v => ∃ a, v = .ref a ∧ OBOk K R H a ob ∧ R a = none ∧ c.H0 a = none ∧ ∀ (i : Nat) (o : OB), Γ[i]? = some (.own o) → σ[i]? ≠ some (some (.ref a))
  | .bx pre b post ob, v => BxOk K R pre b post v ∧ OBOk K R H b ob ∧ R b = none ∧ c.H0 b = none ∧ ∀ (i : Nat) (o : OB), Γ[i]? = some (.own o) → σ[i]? ≠ some (some (.ref b))

/-- a step that only adds -/
structure Grow (R H R' H' : Hp) : Prop where
  r : Ex R R'
  h : Ex H H'
  rh : Ex R' H'
  un : ∀ a, H a ≠ none → R a = none → R' a = none
section
variable {K : PySem.W.Frag} {c : Cc} {Γ : List Slot} {σ : St} {R H R' H' : Hp}
theorem SlotOk.mono (e : Ex R R') (k : ∀ a o, H a = some o → H' a = some o) (un : ∀ a, H a ≠ none → R a = none → R' a = none) : ∀ {s : Slot} {o : Option V}, SlotOk K c R H s o → SlotOk K c R' H' s o
  | .no, _, h => h
  | .any, _, h => h
  | .d _, _, ⟨v, h1, h2⟩ => ⟨v, h1, h2.mono e⟩
  | .w _, _, ⟨v, h1, h2⟩ => ⟨v, h1, h2.mono e fun a o _ => k a o⟩
  | .own ob, _, ⟨a, h1, h2, h3, h4⟩ => ⟨a, h1, h2.mono e (k a), un a h2.there h3, h4⟩
  | .sc _, _, ⟨a, h1, h2⟩ => ⟨a, h1, ex_l e h2⟩
  | .ex _ _ _, _, ⟨h1, h2⟩ => ⟨h1, h2.mono e⟩
  | .bx _ _ _, _, ⟨v, h1, h2⟩ => ⟨v, h1, h2.mono e⟩
  | .tn _ _ _, _, ⟨v, h1, h2⟩ => ⟨v, h1, Rp.mono (ex_u e) _ _ h2⟩
  | .lk _, _, ⟨a, ws, od, h1, h2, h3, h4⟩ => ⟨a, ws, od, h1, h2, h3, h4.mono e⟩
theorem SOk.grow (s : SOk K c Γ σ R H) (g : Grow R H R' H') : SOk K c Γ σ R' H' where
  rh := g.rh
  r0 := s.r0.trans g.r
  hm := fun a o n e => g.h a o (s.hm a o n e)
  pr := fun a n => g.h.ne (s.pr a n)
  un := fun a n e => g.un a (s.pr a n) (s.un a n e)
  len := s.len
  sl := fun i x e => let ⟨o, h1, h2⟩ := s.sl i x e; ⟨o, h1, h2.mono g.r g.h g.un⟩
  dj := s.dj
  oi := s.oi
theorem Grow.refl (e : Ex R H) : Grow R H R H := ⟨Ex.refl _, Ex.refl _, e, fun _ _ h => h⟩
theorem SOk.new (s : SOk K c Γ σ R H) {p : Addr} (o : HO) (hp : H p = none) : Grow R H (upd R p o) (upd H p o) where
  r := Ex.new (s.rh.back hp)
  h := Ex.new hp
  rh := fun a u e => by
    by_cases q : a = p
    · subst q; rw [upd_same] at e ⊢; exact e
    · rw [upd_ne q] at e ⊢; exact s.rh a u e
  un := fun a n e => by
    have q : a ≠ p := fun z => n (z ▸ hp)
    rw [upd_ne q]; exact e
theorem SOk.newOwn (s : SOk K c Γ σ R H) {p : Addr} (o : HO) (hp : H p = none) : Grow R H R (upd H p o) where
  r := Ex.refl _
  h := Ex.new hp
  rh := s.rh.trans (Ex.new hp)
  un := fun _ _ e => e
theorem VOk.mono (e : Ex R R') (k : ∀ a o, H a = some o → H' a = some o) (un : ∀ a, H a ≠ none → R a = none → R' a = none) : ∀ {r : Res} {v : V}, VOk K c Γ σ R H r v → VOk K c Γ σ R' H' r v
  | .d _, _, h => Rp.mono e _ _ h
  | .own ob, _, ⟨a, h1, h2, h3, h4⟩ => ⟨a, h1, h2.mono e (k a), un a h2.there h3, h4⟩
  | .bx _ b _ _, _, ⟨h1, h2, h3, h4⟩ => ⟨h1.mono e, h2.mono e (k b), un b h2.there h3, h4⟩
end
/-! ### exceptions -/
/-- an exception's dict -/
def XdOk (K : PySem.W.Frag) (R H H0 : Hp) (d : Option Addr) (fs : List (Str × D)) : Prop := (d = none ∧ fs = []) ∨ ∃ dd vs, d = some dd ∧ H dd = some (.xd vs) ∧ R dd = none ∧ FldOk K R fs vs ∧ H0 dd = none
def wish (K : PySem.W.Frag) (c : Cc) : WX := fun cls d σ H => ∃ (C : Addr) (fs : List (Str × D)) (Γ : List Slot) (R : Hp), cls = .ref C ∧ XdOk K R H c.H0 d fs ∧ SOk K c Γ σ R H ∧ c.xw C fs Γ
theorem takes_no {X : Cx} {c : Cc} (h : c.xw = fun _ _ _ => False) : L2N.Takes X (wish X.K c) := fun _ _ x => by
  obtain ⟨_, _, _, _, _, _, _, _, _, _, _, _, _, _, _, _, C, fs, Γ, R, _, _, _, z⟩ := x
  rw [h] at z; exact z.elim
end DL

end
section
set_option Elab.async false
set_option linter.all false
set_option autoImplicit true
set_option maxRecDepth 100000
set_option maxHeartbeats 400000
namespace DL
open PySem L2
open PyProof.Rows hiding St

def isStar : Expr → Bool
  | .Starred _ _ => true
  | _ => false
theorem se_c {e : Expr} {es : List Expr} {env : Env} (h : isStar e = false) : starEach (e :: es) env = (false, eval e env) :: starEach es env := by
  cases e <;> first | rfl | cases h
theorem se_1 {a : Expr} {env : Env} (h : isStar a = false) : starEach [a] env = [(false, eval a env)] := se_c h
theorem se_any {pos : Pos} {es : List Expr} {env : Env} (h : es.all (fun e => !isStar e) = true) : (backTo pos (starEach es env)).any (·.1) = false := by
  induction es with
  | nil => rfl
  | cons e es ih =>
    simp only [List.all_cons, Bool.and_eq_true] at h
    rw [se_c (by simpa using h.1)]
    exact ih h.2
/-- names of a def by slot; V: seen here; as: may be stored here; GN: global names used; k: room; oi: slots that hold what the caller owns -/
structure Nm where
  N : List Str
  V : List Nat
  as : List Nat
  GN : List Str
  k : Nat
  oi : List Nat
  lc : List Nat := []
  sc : Option Scope := none
  hot : Bool := false

structure NOk (X : Cx) (n : Nm) (c : Cc) : Prop where
  eq : X.N = n.N
  nd : n.N.Nodup
  vis : ∀ (i : Nat) (x : Str), n.V.contains i = true → n.N[i]? = some x → Vis X.env.scope x
  loc : ∀ (i : Nat) (x : Str), n.as.contains i = true → n.N[i]? = some x → Loc X.env.scope x ∧ (X.fn x = true ∨ X.env.scope.names.lookup x = some .local)
  dbg : ∀ (i : Nat) (x : Str), n.N[i]? = some x → (x == ("__debug__" : Str)) = false ∧ (x == ("__classdict__" : Str)) = false
  gl : ∀ (i : Nat) (x : Str), n.GN[i]? = some x → Gl X x ∧ (x == ("__debug__" : Str)) = false ∧ x ≠ ("__name__" : Str)
  kind : X.env.scope.kind = .function
  scp : ∀ s, n.sc = some s → X.env.scope = s
  calm : n.hot = false → X.calm = true
  room : L2H.RoomH n.k X.A
  po : PassesOwn (model X.prog X.w) X.A X.env X.xe
  lc : ∀ (i : Nat) (x : Str), n.lc.contains i = true → n.N[i]? = some x → X.env.scope.names.lookup x = some .local
  oi : c.oi.map (·.1) = n.oi
  cm : ∀ a, c.M a → ∃ j, (j, a) ∈ c.oi
  tk : L2N.Takes X (wish X.K c)
  fr : n.lc ≠ [] → X.stack = X.env :: X.outer ∧ X.env.frame = some X.env.locals
theorem NOk.units {X : Cx} {n : Nm} {c : Cc} (h : NOk X n c) : X.A.units + 64 < cLine := by have := h.room.un; omega


abbrev SL := List Slot
def OB.data : OB → Option D
  | .lst ds => some (.lst ds)
  | .dic kvs => some (.dic kvs)
  | .ins nm fs => some (.ins nm fs)
  | .sto => none
  | .lstA _ ds => some (.lst ds)
  | .lstV _ _ ds => some (.lst ds)
  | .dicA _ kvs => some (.dic kvs)
def Res.data : Res → Option D
  | .d x => some x
  | .own o => o.data
  | .bx _ _ _ _ => none

/-- read at this moment -/
def Wk (K : PySem.W.Frag) (R H : Hp) (x : D) (v : V) : Prop := WOk K (fun _ => False) R H x v
theorem WOk.wk {K : PySem.W.Frag} {M : Addr → Prop} {R H : Hp} {x : D} {v : V} : WOk K M R H x v → Wk K R H x v
  | .inl h => .inl h
  | .inr (.inl ⟨a, vs, ds, h1, h2, h3, h4, h5⟩) => .inr (.inl ⟨a, vs, ds, h1, h2, id, h4, h5⟩)
  | .inr (.inr (.inl ⟨a, vs, ds, h1, h2, h3, h4, h5⟩)) => .inr (.inr (.inl ⟨a, vs, ds, h1, h2, id, h4, h5⟩))
  | .inr (.inr (.inr ⟨a, dx, ws, nm, fs, h1, h2, h3, h4, h5, h6⟩)) => .inr (.inr (.inr ⟨a, dx, ws, nm, fs, h1, h2, id, h4, h5, h6⟩))
theorem Rp.wk {K : PySem.W.Frag} {R H : Hp} {x : D} {v : V} (h : Rp K R x v) : Wk K R H x v := .inl h
theorem Wk.lst {K : PySem.W.Frag} {R H : Hp} {ds : List D} {v : V} (e : Ex R H) : Wk K R H (.lst ds) v → ∃ a vs, v = .ref a ∧ H a = some (.lst vs) ∧ RpL K R ds vs
  | .inl ⟨a, vs, h1, h2, h3⟩ => ⟨a, vs, h1, e a _ h2, h3⟩
  | .inr (.inl ⟨a, vs, es, h1, h2, h3, h4, h5⟩) => by cases h2; exact ⟨a, vs, h1, h4, h5⟩
  | .inr (.inr (.inl ⟨a, vs, es, h1, h2, h3, h4, h5⟩)) => by cases h2
  | .inr (.inr (.inr ⟨a, dx, ws, nm, fs, h1, h2, _⟩)) => by cases h2
theorem Wk.tup {K : PySem.W.Frag} {R H : Hp} {ds : List D} {v : V} (e : Ex R H) : Wk K R H (.tup ds) v → ∃ a vs, v = .ref a ∧ SqT K H a vs ∧ RpL K R ds vs
  | .inl ⟨a, vs, h1, h2, h3⟩ => ⟨a, vs, h1, ex_t e h2, h3⟩
  | .inr (.inl ⟨a, vs, es, h1, h2, h3, h4, h5⟩) => by cases h2
  | .inr (.inr (.inl ⟨a, vs, es, h1, h2, h3, h4, h5⟩)) => by cases h2
  | .inr (.inr (.inr ⟨a, dx, ws, nm, fs, h1, h2, _⟩)) => by cases h2
theorem Wk.dic {K : PySem.W.Frag} {R H : Hp} {ds : List (Key × D)} {v : V} (e : Ex R H) : Wk K R H (.dic ds) v → ∃ a vs, v = .ref a ∧ H a = some (.dK vs) ∧ RpK K R ds vs
  | .inl ⟨a, vs, h1, h2, h3⟩ => ⟨a, vs, h1, e a _ h2, h3⟩
  | .inr (.inl ⟨a, vs, es, h1, h2, h3, h4, h5⟩) => by cases h2
  | .inr (.inr (.inl ⟨a, vs, es, h1, h2, h3, h4, h5⟩)) => by cases h2; exact ⟨a, vs, h1, h4, h5⟩
  | .inr (.inr (.inr ⟨a, dx, ws, nm, fs, h1, h2, _⟩)) => by cases h2
theorem Wk.ins {K : PySem.W.Frag} {R H : Hp} {nm : Str} {fs : List (Str × D)} {v : V} (e : Ex R H) : Wk K R H (.ins nm fs) v → ∃ a dx ws, v = .ref a ∧ H a = some (.ins (He.ga K nm) dx ws) ∧ (InsC K nm ∧ NoFs K nm fs) ∧ FldOk K R fs ws
  | .inl ⟨a, dx, ws, h1, h2, h3⟩ => ⟨a, dx, ws, h1, e a _ h2, h3⟩
  | .inr (.inl ⟨a, vs, es, h1, h2, h3, h4, h5⟩) => by cases h2
  | .inr (.inr (.inl ⟨a, vs, es, h1, h2, h3, h4, h5⟩)) => by cases h2
  | .inr (.inr (.inr ⟨a, dx, ws, nm, fs, h1, h2, h3, h4, h5⟩)) => by cases h2; exact ⟨a, dx, ws, h1, h4, h5⟩
theorem Wk.int {K : PySem.W.Frag} {R H : Hp} {i : Int} {v : V} : Wk K R H (.int i) v → v = .int i
  | .inl h => h
  | .inr (.inl ⟨a, vs, es, h1, h2, h3, h4, h5⟩) => by cases h2
  | .inr (.inr (.inl ⟨a, vs, es, h1, h2, h3, h4, h5⟩)) => by cases h2
  | .inr (.inr (.inr ⟨a, dx, ws, nm, fs, h1, h2, _⟩)) => by cases h2
theorem Wk.bl {K : PySem.W.Frag} {R H : Hp} {i : Bool} {v : V} : Wk K R H (.bl i) v → v = .bl i
  | .inl h => h
  | .inr (.inl ⟨a, vs, es, h1, h2, h3, h4, h5⟩) => by cases h2
  | .inr (.inr (.inl ⟨a, vs, es, h1, h2, h3, h4, h5⟩)) => by cases h2
  | .inr (.inr (.inr ⟨a, dx, ws, nm, fs, h1, h2, _⟩)) => by cases h2
theorem Wk.str {K : PySem.W.Frag} {R H : Hp} {i : Str} {v : V} : Wk K R H (.str i) v → v = .str i
  | .inl h => h
  | .inr (.inl ⟨a, vs, es, h1, h2, h3, h4, h5⟩) => by cases h2
  | .inr (.inr (.inl ⟨a, vs, es, h1, h2, h3, h4, h5⟩)) => by cases h2
  | .inr (.inr (.inr ⟨a, dx, ws, nm, fs, h1, h2, _⟩)) => by cases h2
theorem Wk.non {K : PySem.W.Frag} {R H : Hp} {v : V} : Wk K R H .non v → v = .non
  | .inl h => h
  | .inr (.inl ⟨a, vs, es, h1, h2, h3, h4, h5⟩) => by cases h2
  | .inr (.inr (.inl ⟨a, vs, es, h1, h2, h3, h4, h5⟩)) => by cases h2
  | .inr (.inr (.inr ⟨a, dx, ws, nm, fs, h1, h2, _⟩)) => by cases h2

/-! ### the weakest readings -/
section
variable (X : Cx)
def tW (e : Expr) : TE := fun σ H Q => ∀ (pins : List (Addr × Obj)) (s : Shared), Inv X pins σ H s → wpAny (model X.prog X.w) X.A (eval e X.env) (EP X pins σ Q) X.xe s
def tWT (e : Expr) : TT := fun σ H Q => ∀ (pins : List (Addr × Obj)) (s : Shared), Inv X pins σ H s → wpAny (model X.prog X.w) X.A (isTrue e X.env (eval e X.env)) (TP X pins σ Q) X.xe s
def tWW (e : Expr) : TT := fun σ H Q => ∀ (whole : Sem Value) (pins : List (Addr × Obj)) (s : Shared), Inv X pins σ H s → wpAny (model X.prog X.w) X.A (isTrue e X.env whole) (TP X pins σ Q) X.xe s
def tWA (es : List Expr) : TA := fun σ H Q => ∀ (pos : Pos) (pins : List (Addr × Obj)) (s : Shared), Inv X pins σ H s → wpAny (model X.prog X.w) X.A (spliced (backTo pos (starEach es X.env))) (AP X pins σ Q) X.xe s
def tWS (st : Stmt) : TS := fun D σ H => ∀ (pins : List (Addr × Obj)) (s : Shared), Inv X pins σ H s → wpAny (model X.prog X.w) X.A (exec st X.env) (SP X pins D) X.xe s
def tWB (sts : List Stmt) : TS := fun D σ H => ∀ (pins : List (Addr × Obj)) (s : Shared), Inv X pins σ H s → wpAny (model X.prog X.w) X.A (execs sts X.env) (SP X pins D) X.xe s
end
section
variable {X : Cx}
theorem pW {e : Expr} : PE X e (tW X e) := ⟨fun pins s _ _ _ I h => h pins s I⟩
theorem pWT {e : Expr} : PT X e (tWT X e) := ⟨fun pins s _ _ _ I h => h pins s I⟩
theorem pWW {e : Expr} : PW X e (tWW X e) := ⟨fun wh pins s _ _ _ I h => h wh pins s I⟩
theorem pWA {e : List Expr} : PA X e (tWA X e) := ⟨fun pos pins s _ _ _ I h => h pos pins s I⟩
theorem pWS {e : Stmt} : PS X e (tWS X e) := ⟨fun pins s _ _ _ I h => h pins s I⟩
theorem pWB {e : List Stmt} : PSs X e (tWB X e) := ⟨fun pins s _ _ _ I h => h pins s I⟩
theorem _root_.L2.PE.w {e : Expr} {t : TE} (h : PE X e t) {σ H Q} (q : t σ H Q) : tW X e σ H Q := fun pins s I => h.run pins s σ H Q I q
theorem _root_.L2.PT.w {e : Expr} {t : TT} (h : PT X e t) {σ H Q} (q : t σ H Q) : tWT X e σ H Q := fun pins s I => h.run pins s σ H Q I q
theorem _root_.L2.PW.w {e : Expr} {t : TT} (h : PW X e t) {σ H Q} (q : t σ H Q) : tWW X e σ H Q := fun wh pins s I => h.run wh pins s σ H Q I q
theorem _root_.L2.PA.w {e : List Expr} {t : TA} (h : PA X e t) {σ H Q} (q : t σ H Q) : tWA X e σ H Q := fun pos pins s I => h.run pos pins s σ H Q I q
theorem _root_.L2.PS.w {e : Stmt} {t : TS} (h : PS X e t) {D σ H} (q : t D σ H) : tWS X e D σ H := fun pins s I => h.run pins s σ H D I q
theorem _root_.L2.PSs.w {e : List Stmt} {t : TS} (h : PSs X e t) {D σ H} (q : t D σ H) : tWB X e D σ H := fun pins s I => h.run pins s σ H D I q
end

/-! ### judgements -/
section
variable (X : Cx) (n : Nm) (c : Cc)
structure WE (Γ : SL) (e : Expr) (Post : D → SL → Prop) : Prop where
  run : NOk X n c → ∀ σ R H, SOk X.K c Γ σ R H → ∀ Q : VK,
  (∀ v R' H' x Γ', SOk X.K c Γ' σ R' H' → Ex R R' → Rp X.K R' x v → Post x Γ' → Q v H') → tW X e σ H Q
/-- a value that is read at once: data, or what a slot holds -/
structure WV (Γ : SL) (e : Expr) (Post : D → SL → Prop) : Prop where
  run : NOk X n c → ∀ σ R H, SOk X.K c Γ σ R H → ∀ Q : VK,
  (∀ v R' H' x Γ', SOk X.K c Γ' σ R' H' → Ex R R' → Wk X.K R' H' x v → Post x Γ' → Q v H') → tW X e σ H Q
structure WO (Γ : SL) (e : Expr) (Post : OB → SL → Prop) : Prop where
  run : NOk X n c → ∀ σ R H, SOk X.K c Γ σ R H → ∀ Q : VK,
  (∀ v R' H' o Γ', SOk X.K c Γ' σ R' H' → Ex R R' → VOk X.K c Γ' σ R' H' (.own o) v → Post o Γ' → Q v H') → tW X e σ H Q
structure WT (Γ : SL) (e : Expr) (Post : Bool → SL → Prop) : Prop where
  run : NOk X n c → ∀ σ R H, SOk X.K c Γ σ R H → ∀ Q : Bool → Hp → Prop,
  (∀ R' H' b Γ', SOk X.K c Γ' σ R' H' → Ex R R' → Post b Γ' → Q b H') → tWT X e σ H Q
structure WW (Γ : SL) (e : Expr) (Post : Bool → SL → Prop) : Prop where
  run : NOk X n c → ∀ σ R H, SOk X.K c Γ σ R H → ∀ Q : Bool → Hp → Prop,
  (∀ R' H' b Γ', SOk X.K c Γ' σ R' H' → Ex R R' → Post b Γ' → Q b H') → tWW X e σ H Q
/-- d: data; v: data for a read-only parameter; s: what slot i holds, read-only; o: what slot i owns, lent -/
inductive AK where
  | d (x : D) | v (x : D) | s (i : Nat) | o (i : Nat)
def AkOk (K : PySem.W.Frag) (R : Hp) (σ : St) : AK → V → Prop
  | .d x, v => Rp K R x v
  | .v x, v => Rp K R x v
  | .s i, v => σ[i]? = some (some v)
  | .o i, v => σ[i]? = some (some v)
def AksOk (K : PySem.W.Frag) (R : Hp) (σ : St) : List AK → List V → Prop
  | [], vs => vs = []
  | k :: ks, vs => ∃ v ws, vs = v :: ws ∧ AkOk K R σ k v ∧ AksOk K R σ ks ws
structure WA (Γ : SL) (es : List Expr) (Post : List AK → SL → Prop) : Prop where
  run : NOk X n c → ∀ σ R H, SOk X.K c Γ σ R H → ∀ Q : List V → Hp → Prop,
  (∀ vs R' H' ks Γ', SOk X.K c Γ' σ R' H' → Ex R R' → AksOk X.K R' σ ks vs → Post ks Γ' → Q vs H') → tWA X es σ H Q
abbrev EV (Γ : SL) (e : Expr) (x : D) : Prop := WE X n c Γ e fun y Γ' => y = x ∧ Γ' = Γ
abbrev EVV (Γ : SL) (e : Expr) (x : D) : Prop := WV X n c Γ e fun y Γ' => y = x ∧ Γ' = Γ
abbrev EO (Γ : SL) (e : Expr) (o : OB) : Prop := WO X n c Γ e fun y Γ' => y = o ∧ Γ' = Γ
abbrev ET (Γ : SL) (e : Expr) (b : Bool) : Prop := WT X n c Γ e fun y Γ' => y = b ∧ Γ' = Γ
abbrev EW (Γ : SL) (e : Expr) (b : Bool) : Prop := WW X n c Γ e fun y Γ' => y = b ∧ Γ' = Γ
abbrev EA (Γ : SL) (es : List Expr) (ks : List AK) : Prop := WA X n c Γ es fun y Γ' => y = ks ∧ Γ' = Γ
end

section
variable {X : Cx} {n : Nm} {c : Cc} {Γ : SL} {e a b : Expr} {x y z : D}
theorem WE.mono {P P' : D → SL → Prop} (h : WE X n c Γ e P) (k : ∀ x Γ, P x Γ → P' x Γ) : WE X n c Γ e P' := .mk fun hn σ R H s Q q =>
  h.run hn σ R H s Q fun v R' H' x Γ' s' e r p => q v R' H' x Γ' s' e r (k _ _ p)
theorem WV.mono {P P' : D → SL → Prop} (h : WV X n c Γ e P) (k : ∀ x Γ, P x Γ → P' x Γ) : WV X n c Γ e P' := .mk fun hn σ R H s Q q =>
  h.run hn σ R H s Q fun v R' H' x Γ' s' e r p => q v R' H' x Γ' s' e r (k _ _ p)
theorem WO.mono {P P' : OB → SL → Prop} (h : WO X n c Γ e P) (k : ∀ x Γ, P x Γ → P' x Γ) : WO X n c Γ e P' := .mk fun hn σ R H s Q q =>
  h.run hn σ R H s Q fun v R' H' x Γ' s' e r p => q v R' H' x Γ' s' e r (k _ _ p)
theorem WT.mono {P P' : Bool → SL → Prop} (h : WT X n c Γ e P) (k : ∀ x Γ, P x Γ → P' x Γ) : WT X n c Γ e P' := .mk fun hn σ R H s Q q =>
  h.run hn σ R H s Q fun R' H' x Γ' s' e p => q R' H' x Γ' s' e (k _ _ p)
theorem WW.mono {P P' : Bool → SL → Prop} (h : WW X n c Γ e P) (k : ∀ x Γ, P x Γ → P' x Γ) : WW X n c Γ e P' := .mk fun hn σ R H s Q q =>
  h.run hn σ R H s Q fun R' H' x Γ' s' e p => q R' H' x Γ' s' e (k _ _ p)
theorem WA.mono {es : List Expr} {P P' : List AK → SL → Prop} (h : WA X n c Γ es P) (k : ∀ x Γ, P x Γ → P' x Γ) : WA X n c Γ es P' := .mk fun hn σ R H s Q q =>
  h.run hn σ R H s Q fun v R' H' x Γ' s' e r p => q v R' H' x Γ' s' e r (k _ _ p)
theorem WE.v {P : D → SL → Prop} (h : WE X n c Γ e P) : WV X n c Γ e P := .mk fun hn σ R H s Q q =>
  h.run hn σ R H s Q fun v R' H' x Γ' s' e r p => q v R' H' x Γ' s' e r.wk p
theorem we_of {P : D → SL → Prop} (h : EV X n c Γ e x) (p : P x Γ) : WE X n c Γ e P := h.mono fun y Γ' ⟨h1, h2⟩ => by subst h1 h2; exact p
theorem wo_of {o : OB} {P : OB → SL → Prop} (h : EO X n c Γ e o) (p : P o Γ) : WO X n c Γ e P := h.mono fun y Γ' ⟨h1, h2⟩ => by subst h1 h2; exact p
theorem wt_of {o : Bool} {P : Bool → SL → Prop} (h : ET X n c Γ e o) (p : P o Γ) : WT X n c Γ e P := h.mono fun y Γ' ⟨h1, h2⟩ => by subst h1 h2; exact p
theorem wa_of {es : List Expr} {o : List AK} {P : List AK → SL → Prop} (h : EA X n c Γ es o) (p : P o Γ) : WA X n c Γ es P := h.mono fun y Γ' ⟨h1, h2⟩ => by subst h1 h2; exact p
theorem EV.v (h : EV X n c Γ e x) : EVV X n c Γ e x := WE.v h
theorem ev_is (h : EV X n c Γ e x) (q : x = y) : EV X n c Γ e y := q ▸ h
theorem et_is {p q : Bool} (h : ET X n c Γ e p) (r : p = q) : ET X n c Γ e q := r ▸ h

/-! ### names, constants -/
theorem ev_var (i : Nat) {nm : Str} {pos : Pos} (hg : Γ[i]? = some (.d x) := by rfl) (hi : n.N[i]? = some nm := by rfl) (hv : n.V.contains i = true := by rfl) : EV X n c Γ (.Name nm pos) x := .mk fun hn σ R H s Q q => by
  obtain ⟨h1, h2⟩ := hn.dbg i nm hi
  refine (pe_var (i := i) (by rw [hn.eq]; exact hi) (hn.vis i nm hv hi) h1 h2).w ?_
  obtain ⟨o, e1, v, e2, r⟩ := s.sl i _ hg
  subst e2
  exact ⟨v, e1, q v R H x Γ s (Ex.refl _) r ⟨rfl, rfl⟩⟩
/-- what a slot holds, as data that is read -/
def Slot.data : Slot → Option D
  | .d x => some x
  | .w x => some x
  | .own o => o.data
  | _ => none
theorem SlotOk.wk {K : PySem.W.Frag} {R H : Hp} {s : Slot} {o : Option V} {x : D} (h : SlotOk K c R H s o) (e : s.data = some x) : ∃ v, o = some v ∧ Wk K R H x v := by
  cases s with
  | d y => cases e; obtain ⟨v, h1, h2⟩ := h; exact ⟨v, h1, .inl h2⟩
  | w y => cases e; obtain ⟨v, h1, h2⟩ := h; exact ⟨v, h1, h2.wk⟩
  | own ob =>
    obtain ⟨a, h1, h2, _⟩ := h
    cases ob with
    | lst ds => cases e; obtain ⟨vs, h2, h3⟩ := h2; exact ⟨_, h1, .inr (.inl ⟨a, vs, ds, rfl, rfl, id, h2, h3⟩)⟩
    | dic ds => cases e; obtain ⟨vs, h2, h3⟩ := h2; exact ⟨_, h1, .inr (.inr (.inl ⟨a, vs, ds, rfl, rfl, id, h2, h3⟩))⟩
    | ins nm fs => cases e; obtain ⟨dx, ws, h2, h3⟩ := h2; exact ⟨_, h1, .inr (.inr (.inr ⟨a, dx, ws, nm, fs, rfl, rfl, id, h2, h3⟩))⟩
    | sto => cases e
    | lstA _ ds => cases e; obtain ⟨_, vs, h2, h3⟩ := h2; exact ⟨_, h1, .inr (.inl ⟨a, vs, ds, rfl, rfl, id, h2, h3⟩)⟩
    | lstV _ vs ds => cases e; obtain ⟨_, h2, h3⟩ := h2; exact ⟨_, h1, .inr (.inl ⟨a, vs, ds, rfl, rfl, id, h2, h3⟩)⟩
    | dicA _ ds => cases e; obtain ⟨_, vs, h2, h3⟩ := h2; exact ⟨_, h1, .inr (.inr (.inl ⟨a, vs, ds, rfl, rfl, id, h2, h3⟩))⟩
  | _ => cases e
theorem ev_c {v : V} (h : PE X e (tC v)) (r : ∀ R, Rp X.K R x v) : EV X n c Γ e x := .mk fun hn σ R H s Q q =>
  h.w (q v R H x Γ s (Ex.refl _) (r R) ⟨rfl, rfl⟩)
theorem ev_int {i : Int} {j pos} : EV X n c Γ (.Constant (.int i) j pos) (.int i) := ev_c pe_int fun _ => rfl
theorem ev_bl {i : Bool} {j pos} : EV X n c Γ (.Constant (.bool i) j pos) (.bl i) := ev_c pe_bl fun _ => rfl
theorem ev_str {i : Str} {j pos} : EV X n c Γ (.Constant (.str i) j pos) (.str i) := ev_c pe_str fun _ => rfl
theorem ev_non {j pos} : EV X n c Γ (.Constant .none j pos) .non := ev_c pe_non fun _ => rfl
/-- a module's constant -/
structure Con (X : Cx) (nm : Str) (x : D) : Prop where
  ex : ∃ v u, X.mg nm = some u ∧ RelV v u ∧ ∀ R, Rp X.K R x v
/-! ### operands: data, or what a slot holds, read when all is there -/
def AK.get (Γ : SL) : AK → Option D
  | .d x => some x
  | .v x => some x
  | .s i => (Γ[i]?).bind Slot.data
  | .o i => (Γ[i]?).bind Slot.data
theorem AkOk.mono {K : PySem.W.Frag} {R R' : Hp} {σ : St} (e : Ex R R') : ∀ {k : AK} {v : V}, AkOk K R σ k v → AkOk K R' σ k v
  | .d _, _, h => Rp.mono e _ _ h
  | .v _, _, h => Rp.mono e _ _ h
  | .s _, _, h => h
  | .o _, _, h => h
theorem AksOk.mono {K : PySem.W.Frag} {R R' : Hp} {σ : St} (e : Ex R R') : ∀ {k : List AK} {v : List V}, AksOk K R σ k v → AksOk K R' σ k v
  | [], _, h => h
  | _ :: _, _, ⟨v, ws, h1, h2, h3⟩ => ⟨v, ws, h1, h2.mono e, h3.mono e⟩
theorem AkOk.wk {K : PySem.W.Frag} {R H : Hp} {σ : St} (s : SOk K c Γ σ R H) : ∀ {k : AK} {v : V} {x : D}, AkOk K R σ k v → k.get Γ = some x → Wk K R H x v
  | .d _, _, _, h, e => by cases e; exact .inl h
  | .v _, _, _, h, e => by cases e; exact .inl h
  | .s i, v, x, h, e => by
    obtain ⟨sl, e1, e2⟩ := Option.bind_eq_some_iff.mp e
    obtain ⟨o, q1, q2⟩ := s.sl i sl e1
    rw [show σ[i]? = some (some v) from h] at q1; cases q1
    obtain ⟨w, q3, q4⟩ := q2.wk e2
    cases q3; exact q4
  | .o i, v, x, h, e => by
    obtain ⟨sl, e1, e2⟩ := Option.bind_eq_some_iff.mp e
    obtain ⟨o, q1, q2⟩ := s.sl i sl e1
    rw [show σ[i]? = some (some v) from h] at q1; cases q1
    obtain ⟨w, q3, q4⟩ := q2.wk e2
    cases q3; exact q4
def gets (Γ : SL) : List AK → Option (List D)
  | [] => some []
  | k :: ks => match k.get Γ, gets Γ ks with
    | some x, some xs => some (x :: xs)
    | _, _ => none
def Wks (K : PySem.W.Frag) (R H : Hp) : List D → List V → Prop
  | [], vs => vs = []
  | x :: xs, vs => ∃ v ws, vs = v :: ws ∧ Wk K R H x v ∧ Wks K R H xs ws
theorem AksOk.wks {K : PySem.W.Frag} {R H : Hp} {σ : St} (s : SOk K c Γ σ R H) : ∀ {k : List AK} {v : List V} {x : List D}, AksOk K R σ k v → gets Γ k = some x → Wks K R H x v
  | [], v, x, h, e => by cases e; exact h
  | k :: ks, v, x, ⟨v1, ws, h1, h2, h3⟩, e => by
    unfold gets at e
    split at e
    · rename_i y ys e1 e2
      cases e
      exact ⟨v1, ws, h1, h2.wk s e1, h3.wks s e2⟩
    · cases e
/-- an operand -/
structure WK (X : Cx) (n : Nm) (c : Cc) (Γ : SL) (e : Expr) (Post : AK → SL → Prop) : Prop where
  run : NOk X n c → ∀ σ R H, SOk X.K c Γ σ R H → ∀ Q : VK,
  (∀ v R' H' k Γ', SOk X.K c Γ' σ R' H' → Ex R R' → AkOk X.K R' σ k v → Post k Γ' → Q v H') → tW X e σ H Q
abbrev EK (X : Cx) (n : Nm) (c : Cc) (Γ : SL) (e : Expr) (k : AK) : Prop := WK X n c Γ e fun y Γ' => y = k ∧ Γ' = Γ
theorem WK.mono {P P' : AK → SL → Prop} (h : WK X n c Γ e P) (k : ∀ x Γ, P x Γ → P' x Γ) : WK X n c Γ e P' := .mk fun hn σ R H s Q q =>
  h.run hn σ R H s Q fun v R' H' x Γ' s' e r p => q v R' H' x Γ' s' e r (k _ _ p)
theorem wk_ek {k : AK} {P : AK → SL → Prop} (h : EK X n c Γ e k) (p : P k Γ) : WK X n c Γ e P := h.mono fun y Γ' ⟨h1, h2⟩ => by subst h1 h2; exact p
theorem wk_e {P : AK → SL → Prop} (h : WE X n c Γ e fun x Γ' => P (.d x) Γ') : WK X n c Γ e P := .mk fun hn σ R H s Q q =>
  h.run hn σ R H s Q fun v R' H' x Γ' s' e r p => q v R' H' (.d x) Γ' s' e r p
theorem wk_v {P : AK → SL → Prop} (h : WE X n c Γ e fun x Γ' => P (.v x) Γ') : WK X n c Γ e P := .mk fun hn σ R H s Q q =>
  h.run hn σ R H s Q fun v R' H' x Γ' s' e r p => q v R' H' (.v x) Γ' s' e r p
theorem ek_d (h : EV X n c Γ e x) : EK X n c Γ e (.d x) := wk_e (we_of h ⟨rfl, rfl⟩)
theorem ek_v (h : EV X n c Γ e x) : EK X n c Γ e (.v x) := wk_v (we_of h ⟨rfl, rfl⟩)
def Slot.set : Slot → Bool
  | .no => false
  | .any => false
  | _ => true
theorem SlotOk.val {K : PySem.W.Frag} {R H : Hp} {s : Slot} {o : Option V} (h : SlotOk K c R H s o) (e : s.set = true) : ∃ v, o = some v := by
  cases s with
  | no => cases e
  | any => cases e
  | d y => obtain ⟨v, h1, _⟩ := h; exact ⟨v, h1⟩
  | w y => obtain ⟨v, h1, _⟩ := h; exact ⟨v, h1⟩
  | own ob => obtain ⟨v, h1, _⟩ := h; exact ⟨_, h1⟩
  | sc ns => obtain ⟨v, h1, _⟩ := h; exact ⟨_, h1⟩
  | ex _ _ _ => exact ⟨_, h.1⟩
  | bx _ _ _ => obtain ⟨v, h1, _⟩ := h; exact ⟨_, h1⟩
  | tn _ _ _ => obtain ⟨v, h1, _⟩ := h; exact ⟨_, h1⟩
  | lk _ => obtain ⟨a, _, _, h1, _⟩ := h; exact ⟨_, h1⟩
theorem ek_n (k : AK) (i : Nat) (hk : ∀ R σ v, σ[i]? = some (some v) → AkOk X.K R σ k v) {s : Slot} {nm : Str} {pos : Pos} (hg : Γ[i]? = some s) (hs : s.set = true) (hi : n.N[i]? = some nm) (hv : n.V.contains i = true) : EK X n c Γ (.Name nm pos) k := .mk fun hn σ R H s Q q => by
  obtain ⟨h1, h2⟩ := hn.dbg i nm hi
  refine (pe_var (i := i) (by rw [hn.eq]; exact hi) (hn.vis i nm hv hi) h1 h2).w ?_
  obtain ⟨o, e1, h⟩ := s.sl i _ hg
  obtain ⟨v, e2⟩ := h.val hs
  subst e2
  exact ⟨v, e1, q v R H k Γ s (Ex.refl _) (hk R σ v e1) ⟨rfl, rfl⟩⟩
theorem ek_s (i : Nat) {s : Slot} {nm : Str} {pos : Pos} (hg : Γ[i]? = some s := by rfl) (hs : s.set = true := by rfl) (hi : n.N[i]? = some nm := by rfl) (hv : n.V.contains i = true := by rfl) : EK X n c Γ (.Name nm pos) (.s i) := ek_n (.s i) i (fun _ _ _ h => h) hg hs hi hv
theorem ek_o (i : Nat) {s : Slot} {nm : Str} {pos : Pos} (hg : Γ[i]? = some s := by rfl) (hs : s.set = true := by rfl) (hi : n.N[i]? = some nm := by rfl) (hv : n.V.contains i = true := by rfl) : EK X n c Γ (.Name nm pos) (.o i) := ek_n (.o i) i (fun _ _ _ h => h) hg hs hi hv

/-! ### argument lists -/
theorem wa_nil {P : List AK → SL → Prop} (p : P [] Γ) : WA X n c Γ [] P := .mk fun hn σ R H s Q q => pa_nil.w (q [] R H [] Γ s (Ex.refl _) rfl p)
theorem wa_cons {es : List Expr} {P : List AK → SL → Prop} (h : WK X n c Γ e fun k Γ1 => WA X n c Γ1 es fun ks Γ2 => P (k :: ks) Γ2) (hs : starEach (e :: es) X.env = (false, eval e X.env) :: starEach es X.env := by exact se_c rfl) : WA X n c Γ (e :: es) P := .mk fun hn σ R H s Q q =>
  (pa_cons pW pWA hs).w (h.run hn σ R H s _ fun v R1 H1 k Γ1 s1 e1 r1 p1 => p1.run hn σ R1 H1 s1 _ fun vs R2 H2 ks Γ2 s2 e2 r2 p2 =>
    q (v :: vs) R2 H2 (k :: ks) Γ2 s2 (e1.trans e2) ⟨v, vs, rfl, r1.mono e2, r2⟩ p2)
theorem ea_nil : EA X n c Γ [] [] := wa_nil ⟨rfl, rfl⟩
theorem ea_cons {es : List Expr} {k : AK} {ks : List AK} (h : EK X n c Γ e k) (t : EA X n c Γ es ks) (hs : starEach (e :: es) X.env = (false, eval e X.env) :: starEach es X.env := by exact se_c rfl) : EA X n c Γ (e :: es) (k :: ks) :=
  wa_cons (wk_ek h (wa_of t ⟨rfl, rfl⟩)) hs

/-! ### operators on data -/
/-- an operation on two things that are read: P tells what it wants and gives -/
def DOp (X : Cx) (n : Nm) (c : Cc) (f : Value → Value → Sem Value) (P : D → D → (D → Prop) → Prop) : Prop := NOk X n c → ∃ r, OpR X f r ∧
  ∀ Γ σ R H x y v w Post, SOk X.K c Γ σ R H → Wk X.K R H x v → Wk X.K R H y w → P x y Post → ∀ Q : VK,
    (∀ u R' H' z, SOk X.K c Γ σ R' H' → Ex R R' → Rp X.K R' z u → Post z → Q u H') → r v w H Q
variable {f : Value → Value → Sem Value} {P : D → D → (D → Prop) → Prop} {pos : Pos} {k l : AK}
theorem we_bin {op : Operator} {Post : D → SL → Prop} (ho : DOp X n c (binaryOp op) P) (h : WK X n c Γ a fun k Γ1 => WK X n c Γ1 b fun l Γ2 => ∃ x y, k.get Γ2 = some x ∧ l.get Γ2 = some y ∧ P x y fun z => Post z Γ2) : WE X n c Γ (.BinOp a op b pos) Post := .mk fun hn σ R H s Q q => by
  obtain ⟨r, h1, h2⟩ := ho hn
  refine (pe_op h1 pW pW).w (h.run hn σ R H s _ fun v R1 H1 k Γ1 s1 e1 r1 p1 => p1.run hn σ R1 H1 s1 _ fun w R2 H2 l Γ2 s2 e2 r2 ⟨x, y, g1, g2, p2⟩ => ?_)
  exact h2 Γ2 σ R2 H2 x y v w _ s2 ((r1.mono e2).wk s2 g1) (r2.wk s2 g2) p2 Q fun u R' H' z s' e' r' p' => q u R' H' z Γ2 s' (e1.trans (e2.trans e')) r' p'
theorem ev_bin {op : Operator} (ho : DOp X n c (binaryOp op) P) (ha : EK X n c Γ a k) (hb : EK X n c Γ b l) (ga : k.get Γ = some x) (gb : l.get Γ = some y) (h : ∀ Post : D → Prop, Post z → P x y Post) : EV X n c Γ (.BinOp a op b pos) z :=
  we_bin ho (wk_ek ha (wk_ek hb ⟨x, y, ga, gb, h _ ⟨rfl, rfl⟩⟩))
/-- two ints -/
def PI2 (C : Int → Int → Prop) (g : Int → Int → D) : D → D → (D → Prop) → Prop := fun x y Post => ∃ i j, x = .int i ∧ y = .int j ∧ C i j ∧ Post (g i j)
theorem dop_I {C : Int → Int → Prop} {g : Int → Int → V} {g' : Int → Int → D} (h : OpR X f (rI C g)) (e : ∀ i j R, Rp X.K R (g' i j) (g i j)) : DOp X n c f (PI2 C g') := fun _ => ⟨_, h, fun Γ σ R H x y v w Post s hx hy ⟨i, j, e1, e2, hc, p⟩ Q q => by
  subst e1 e2
  exact ⟨i, j, hx.int, hy.int, hc, q _ R H _ s (Ex.refl _) (e i j R) p⟩⟩
theorem dop_I0 {g : Int → Int → V} {g' : Int → Int → D} (h : OpR X f (rI0 g)) (e : ∀ i j R, Rp X.K R (g' i j) (g i j)) : DOp X n c f (PI2 (fun _ _ => True) g') := fun _ => ⟨_, h, fun Γ σ R H x y v w Post s hx hy ⟨i, j, e1, e2, hc, p⟩ Q q => by
  subst e1 e2
  exact ⟨i, j, hx.int, hy.int, q _ R H _ s (Ex.refl _) (e i j R) p⟩⟩
def CDivA (_ j : Int) : Prop := j ≠ 0 ∧ j.natAbs.log2 < 9000
theorem op_fdivA : OpR X (binaryOp .FloorDiv) (rI CDivA fun i j => .int (i.fdiv j)) := opI fun i j _ _ _ _ _ hc q => floordiv_int hc.1 q (.inl (PyProof.noPylong_of_log2 hc.2))
theorem dop_add : DOp X n c (binaryOp .Add) (PI2 (fun _ _ => True) fun i j => .int (i + j)) := dop_I0 op_add fun _ _ _ => rfl
theorem dop_sub : DOp X n c (binaryOp .Sub) (PI2 (fun _ _ => True) fun i j => .int (i - j)) := dop_I0 op_sub fun _ _ _ => rfl
theorem dop_mul : DOp X n c (binaryOp .Mult) (PI2 CMulW fun i j => .int (i * j)) := dop_I op_mulW fun _ _ _ => rfl
theorem dop_mul64 : DOp X n c (binaryOp .Mult) (PI2 CMul fun i j => .int (i * j)) := dop_I op_mul fun _ _ _ => rfl
theorem dop_fdiv : DOp X n c (binaryOp .FloorDiv) (PI2 CDivA fun i j => .int (i.fdiv j)) := dop_I op_fdivA fun _ _ _ => rfl
theorem dop_mod : DOp X n c (binaryOp .Mod) (PI2 (fun _ j => j ≠ 0) fun i j => .int (i.fmod j)) := dop_I op_modN fun _ _ _ => rfl
theorem dop_pow : DOp X n c (binaryOp .Pow) (PI2 CPow fun i j => .int (i ^ j.toNat)) := dop_I op_pow fun _ _ _ => rfl
theorem dop_lt : DOp X n c (compareOp .Lt) (PI2 (fun _ _ => True) fun i j => .bl (decide (i < j))) := dop_I0 op_lt fun _ _ _ => rfl
theorem dop_le : DOp X n c (compareOp .LtE) (PI2 (fun _ _ => True) fun i j => .bl (decide (i ≤ j))) := dop_I0 op_le fun _ _ _ => rfl
theorem dop_gt : DOp X n c (compareOp .Gt) (PI2 (fun _ _ => True) fun i j => .bl (decide (j < i))) := dop_I0 op_gt fun _ _ _ => rfl
theorem dop_ge : DOp X n c (compareOp .GtE) (PI2 (fun _ _ => True) fun i j => .bl (decide (j ≤ i))) := dop_I0 op_ge fun _ _ _ => rfl
variable {i j : Int}
theorem ev_i2 {op : Operator} {C : Int → Int → Prop} {g : Int → Int → D} (ho : DOp X n c (binaryOp op) (PI2 C g)) (ha : EV X n c Γ a (.int i)) (hb : EV X n c Γ b (.int j)) (hc : C i j) : EV X n c Γ (.BinOp a op b pos) (g i j) :=
  ev_bin ho (ek_d ha) (ek_d hb) rfl rfl fun _ p => ⟨i, j, rfl, rfl, hc, p⟩
theorem ev_add (ha : EV X n c Γ a (.int i)) (hb : EV X n c Γ b (.int j)) : EV X n c Γ (.BinOp a .Add b pos) (.int (i + j)) := ev_i2 dop_add ha hb trivial
theorem ev_sub (ha : EV X n c Γ a (.int i)) (hb : EV X n c Γ b (.int j)) : EV X n c Γ (.BinOp a .Sub b pos) (.int (i - j)) := ev_i2 dop_sub ha hb trivial
theorem ev_mul (ha : EV X n c Γ a (.int i)) (hb : EV X n c Γ b (.int j)) (hc : CMulW i j) : EV X n c Γ (.BinOp a .Mult b pos) (.int (i * j)) := ev_i2 dop_mul ha hb hc
theorem ev_mul64 (ha : EV X n c Γ a (.int i)) (hb : EV X n c Γ b (.int j)) (hc : CMul i j) : EV X n c Γ (.BinOp a .Mult b pos) (.int (i * j)) := ev_i2 dop_mul64 ha hb hc
theorem ev_fdiv (ha : EV X n c Γ a (.int i)) (hb : EV X n c Γ b (.int j)) (hc : CDivA i j) : EV X n c Γ (.BinOp a .FloorDiv b pos) (.int (i.fdiv j)) := ev_i2 dop_fdiv ha hb hc
theorem ev_mod (ha : EV X n c Γ a (.int i)) (hb : EV X n c Γ b (.int j)) (hc : j ≠ 0) : EV X n c Γ (.BinOp a .Mod b pos) (.int (i.fmod j)) := ev_i2 dop_mod ha hb hc
theorem ev_pow (ha : EV X n c Γ a (.int i)) (hb : EV X n c Γ b (.int j)) (hc : CPow i j) : EV X n c Γ (.BinOp a .Pow b pos) (.int (i ^ j.toNat)) := ev_i2 dop_pow ha hb hc
/-- one thing read -/
def DUn (X : Cx) (n : Nm) (c : Cc) (f : Value → Sem Value) (P : D → (D → Prop) → Prop) : Prop := NOk X n c → ∃ r, UnR X f r ∧
  ∀ Γ σ R H x v Post, SOk X.K c Γ σ R H → Wk X.K R H x v → P x Post → ∀ Q : VK,
    (∀ u R' H' z, SOk X.K c Γ σ R' H' → Ex R R' → Rp X.K R' z u → Post z → Q u H') → r v H Q
theorem we_un {op : UnaryOp} {f : Value → Sem Value} {P : D → (D → Prop) → Prop} {Post : D → SL → Prop} (ho : DUn X n c (unaryOp op) P) (h : WK X n c Γ a fun k Γ1 => ∃ x, k.get Γ1 = some x ∧ P x fun z => Post z Γ1) : WE X n c Γ (.UnaryOp op a pos) Post := .mk fun hn σ R H s Q q => by
  obtain ⟨r, h1, h2⟩ := ho hn
  refine (pe_un h1 pW).w (h.run hn σ R H s _ fun v R1 H1 k Γ1 s1 e1 r1 ⟨x, g1, p1⟩ => ?_)
  exact h2 Γ1 σ R1 H1 x v _ s1 (r1.wk s1 g1) p1 Q fun u R' H' z s' e' r' p' => q u R' H' z Γ1 s' (e1.trans e') r' p'
theorem ev_neg (ha : EV X n c Γ a (.int i)) : EV X n c Γ (.UnaryOp .USub a pos) (.int (-i)) :=
  we_un (f := unaryOp .USub) (P := fun x Post => ∃ i, x = .int i ∧ Post (.int (-i))) (fun _ => ⟨_, un_neg, fun Γ σ R H x v Post s hx ⟨i, e, p⟩ Q q => by subst e; exact ⟨i, hx.int, q (.int (-i)) R H (.int (-i)) s (Ex.refl _) rfl p⟩⟩)
    (wk_ek (ek_d ha) ⟨_, rfl, i, rfl, rfl, rfl⟩)

/-! ### comparisons -/
theorem we_cmp {op : CmpOp} {Post : D → SL → Prop} (ho : DOp X n c (compareOp op) P) (hm : behindInMarks op b = false) (h : WK X n c Γ a fun k Γ1 => WK X n c Γ1 b fun l Γ2 => ∃ x y, k.get Γ2 = some x ∧ l.get Γ2 = some y ∧ P x y fun z => Post z Γ2) : WE X n c Γ (.Compare a [op] [b] pos) Post := .mk fun hn σ R H s Q q => by
  obtain ⟨r, h1, h2⟩ := ho hn
  refine (pe_cmpR h1 pW pW hm).w (h.run hn σ R H s _ fun v R1 H1 k Γ1 s1 e1 r1 p1 => p1.run hn σ R1 H1 s1 _ fun w R2 H2 l Γ2 s2 e2 r2 ⟨x, y, g1, g2, p2⟩ => ?_)
  exact h2 Γ2 σ R2 H2 x y v w _ s2 ((r1.mono e2).wk s2 g1) (r2.wk s2 g2) p2 Q fun u R' H' z s' e' r' p' => q u R' H' z Γ2 s' (e1.trans (e2.trans e')) r' p'
theorem wt_cmp {op : CmpOp} {Post : Bool → SL → Prop} (ho : DOp X n c (compareOp op) P) (hm : behindInMarks op b = false) (h : WK X n c Γ a fun k Γ1 => WK X n c Γ1 b fun l Γ2 => ∃ x y, k.get Γ2 = some x ∧ l.get Γ2 = some y ∧ P x y fun z => ∃ b, z = .bl b ∧ Post b Γ2) : WT X n c Γ (.Compare a [op] [b] pos) Post := .mk fun hn σ R H s Q q => by
  obtain ⟨r, h1, h2⟩ := ho hn
  refine (pt_cmpR h1 pW pW hm).w (h.run hn σ R H s _ fun v R1 H1 k Γ1 s1 e1 r1 p1 => p1.run hn σ R1 H1 s1 _ fun w R2 H2 l Γ2 s2 e2 r2 ⟨x, y, g1, g2, p2⟩ => ?_)
  exact h2 Γ2 σ R2 H2 x y v w _ s2 ((r1.mono e2).wk s2 g1) (r2.wk s2 g2) p2 _ fun u R' H' z s' e' r' ⟨bb, e0, p'⟩ => by
    subst e0
    exact ⟨bb, r', q R' H' bb Γ2 s' (e1.trans (e2.trans e')) p'⟩
theorem ev_cmp {op : CmpOp} (ho : DOp X n c (compareOp op) P) (ha : EK X n c Γ a k) (hb : EK X n c Γ b l) (h : ∀ Post : D → Prop, Post z → P x y Post) (ga : k.get Γ = some x := by rfl) (gb : l.get Γ = some y := by rfl) (hm : behindInMarks op b = false := by first | exact nomark _ | rfl) : EV X n c Γ (.Compare a [op] [b] pos) z :=
  we_cmp ho hm (wk_ek ha (wk_ek hb ⟨x, y, ga, gb, h _ ⟨rfl, rfl⟩⟩))
theorem et_cmp {op : CmpOp} {bb : Bool} (ho : DOp X n c (compareOp op) P) (ha : EK X n c Γ a k) (hb : EK X n c Γ b l) (h : ∀ Post : D → Prop, Post (.bl bb) → P x y Post) (ga : k.get Γ = some x := by rfl) (gb : l.get Γ = some y := by rfl) (hm : behindInMarks op b = false := by first | exact nomark _ | rfl) : ET X n c Γ (.Compare a [op] [b] pos) bb :=
  wt_cmp ho hm (wk_ek ha (wk_ek hb ⟨x, y, ga, gb, h _ ⟨bb, rfl, rfl, rfl⟩⟩))
theorem et_i2 {op : CmpOp} {g : Int → Int → Bool} (ho : DOp X n c (compareOp op) (PI2 (fun _ _ => True) fun i j => .bl (g i j))) (ha : EV X n c Γ a (.int i)) (hb : EV X n c Γ b (.int j)) (hm : behindInMarks op b = false) : ET X n c Γ (.Compare a [op] [b] pos) (g i j) :=
  et_cmp ho (ek_d ha) (ek_d hb) (fun _ p => ⟨i, j, rfl, rfl, trivial, p⟩) rfl rfl hm
theorem ev_ci2 {op : CmpOp} {g : Int → Int → Bool} (ho : DOp X n c (compareOp op) (PI2 (fun _ _ => True) fun i j => .bl (g i j))) (ha : EV X n c Γ a (.int i)) (hb : EV X n c Γ b (.int j)) (hm : behindInMarks op b = false) : EV X n c Γ (.Compare a [op] [b] pos) (.bl (g i j)) :=
  ev_cmp ho (ek_d ha) (ek_d hb) (fun _ p => ⟨i, j, rfl, rfl, trivial, p⟩) rfl rfl hm
theorem et_lt (ha : EV X n c Γ a (.int i)) (hb : EV X n c Γ b (.int j)) : ET X n c Γ (.Compare a [.Lt] [b] pos) (decide (i < j)) := et_i2 dop_lt ha hb (nomark _)
theorem et_le (ha : EV X n c Γ a (.int i)) (hb : EV X n c Γ b (.int j)) : ET X n c Γ (.Compare a [.LtE] [b] pos) (decide (i ≤ j)) := et_i2 dop_le ha hb (nomark _)
theorem et_gt (ha : EV X n c Γ a (.int i)) (hb : EV X n c Γ b (.int j)) : ET X n c Γ (.Compare a [.Gt] [b] pos) (decide (j < i)) := et_i2 dop_gt ha hb (nomark _)
theorem et_ge (ha : EV X n c Γ a (.int i)) (hb : EV X n c Γ b (.int j)) : ET X n c Γ (.Compare a [.GtE] [b] pos) (decide (j ≤ i)) := et_i2 dop_ge ha hb (nomark _)
theorem ev_gt (ha : EV X n c Γ a (.int i)) (hb : EV X n c Γ b (.int j)) : EV X n c Γ (.Compare a [.Gt] [b] pos) (.bl (decide (j < i))) := ev_ci2 dop_gt ha hb (nomark _)
end
end DL

end
section
set_option Elab.async false
set_option linter.all false
set_option autoImplicit true
set_option maxRecDepth 100000
set_option maxHeartbeats 400000
namespace DL
open PySem L2
open PyProof.Rows hiding St

/-! ### data as the library's equality takes it -/
mutual
def D.pd : D → PyData
  | .non => .none
  | .bl b => .bool b
  | .int i => .int i
  | .str x => .str x
  | .lst ds => .list (pdL ds)
  | .tup ds => .tuple (pdL ds)
  | .dic _ => .dict []
  | .ins _ _ => .dict []
def pdL : List D → List PyData
  | [] => []
  | d :: ds => d.pd :: pdL ds
end
mutual
theorem Rp.dp {K : PySem.W.Frag} {R : Hp} : ∀ (d : D) (v : V), d.pd.canLay0 = true → Rp K R d v → Dp K R v d.pd
  | .non, _, _, h => by cases (show _ = _ from h); exact .non
  | .bl _, _, _, h => by cases (show _ = _ from h); exact .bl _
  | .int _, _, _, h => by cases (show _ = _ from h); exact .int _
  | .str _, _, _, h => by cases (show _ = _ from h); exact .str _
  | .lst ds, _, z, ⟨a, vs, h1, h2, h3⟩ => by subst h1; exact .lst (.inl (.inl h2)) (RpL.dp ds vs (by simpa [D.pd, PyData.canLay0] using z) h3)
  | .tup ds, _, z, ⟨a, vs, h1, h2, h3⟩ => by subst h1; exact .tup h2 (RpL.dp ds vs (by simpa [D.pd, PyData.canLay0] using z) h3)
  | .dic _, _, z, _ => by simp [D.pd, PyData.canLay0] at z
  | .ins _ _, _, z, _ => by simp [D.pd, PyData.canLay0] at z
theorem RpL.dp {K : PySem.W.Frag} {R : Hp} : ∀ (ds : List D) (vs : List V), PyData.canLayAll0 (pdL ds) = true → RpL K R ds vs → DpAll K R vs (pdL ds)
  | [], _, _, h => by cases (show _ = _ from h); exact .nil
  | d :: ds, _, z, ⟨v, ws, h1, h2, h3⟩ => by
    subst h1
    have z' : d.pd.canLay0 = true ∧ PyData.canLayAll0 (pdL ds) = true := by simpa [pdL, PyData.canLayAll0] using z
    exact .cons (Rp.dp d v z'.1 h2) (RpL.dp ds ws z'.2 h3)
end
mutual
theorem dp_mono {K : PySem.W.Frag} {R H : Hp} (e : Ex R H) : ∀ {d : PyData} {v : V}, Dp K R v d → Dp K H v d
  | _, _, .non => .non
  | _, _, .bl _ => .bl _
  | _, _, .int _ => .int _
  | _, _, .str _ => .str _
  | _, _, .lst h t => .lst (ex_l e h) (dpAll_mono e t)
  | _, _, .tup h t => .tup (ex_t e h) (dpAll_mono e t)
theorem dpAll_mono {K : PySem.W.Frag} {R H : Hp} (e : Ex R H) : ∀ {d : List PyData} {v : List V}, DpAll K R v d → DpAll K H v d
  | _, _, .nil => .nil
  | _, _, .cons h t => .cons (dp_mono e h) (dpAll_mono e t)
end
theorem Wk.dp {K : PySem.W.Frag} {R H : Hp} {x : D} {v : V} (e : Ex R H) (z : x.pd.canLay0 = true) : Wk K R H x v → Dp K H v x.pd
  | .inl h => dp_mono e (Rp.dp x v z h)
  | .inr (.inl ⟨a, vs, ds, h1, h2, h3, h4, h5⟩) => by
    subst h1 h2; exact .lst (.inl (.inl h4)) (dpAll_mono e (RpL.dp ds vs (by simpa [D.pd, PyData.canLay0] using z) h5))
  | .inr (.inr (.inl ⟨a, vs, ds, h1, h2, h3, h4, h5⟩)) => by subst h2; simp [D.pd, PyData.canLay0] at z
  | .inr (.inr (.inr ⟨a, dx, ws, nm, fs, h1, h2, _⟩)) => by subst h2; simp [D.pd, PyData.canLay0] at z

section
variable {X : Cx} {n : Nm} {c : Cc} {Γ : SL} {e a b : Expr} {x y z : D} {pos : Pos} {k l : AK} {i j : Int}
def D.eqv (x y : D) : Bool := PyData.eqv x.pd y.pd
def D.shp (x : D) : Bool := SeqAt.shaped x.pd
theorem canLay_shp {x : D} (h : x.shp = true) : x.pd.canLay0 = true := SeqAt.canLay_of_shaped h
def PEq (g : Bool → Bool) : D → D → (D → Prop) → Prop := fun x y Post => x.shp = true ∧ y.shp = true ∧ Post (.bl (g (x.eqv y)))
theorem dop_eq : DOp X n c (compareOp .Eq) (PEq id) := fun hn => ⟨_, op_eqD hn.units, fun Γ σ R H x y v w Post s hx hy ⟨h1, h2, p⟩ Q q =>
  ⟨x.pd, y.pd, hx.dp s.rh (canLay_shp h1), hy.dp s.rh (canLay_shp h2), h1, h2, q (.bl (x.eqv y)) R H (.bl (x.eqv y)) s (Ex.refl _) rfl p⟩⟩
theorem ev_eqD (ha : EK X n c Γ a k) (hb : EK X n c Γ b l) (h1 : x.shp = true) (h2 : y.shp = true) (ga : k.get Γ = some x := by rfl) (gb : l.get Γ = some y := by rfl) : EV X n c Γ (.Compare a [.Eq] [b] pos) (.bl (x.eqv y)) :=
  ev_cmp dop_eq ha hb (fun _ p => ⟨h1, h2, p⟩) ga gb (nomark _)
theorem dop_eqI : DOp X n c (compareOp .Eq) (PI2 (fun _ _ => True) fun i j => .bl (decide (i = j))) := fun _ => ⟨_, op_eq, fun Γ σ R H x y v w Post s hx hy ⟨i, j, e1, e2, _, p⟩ Q q => by
  subst e1 e2
  cases hx.int; cases hy.int
  exact ⟨rfl, q _ R H _ s (Ex.refl _) (by simp [Rp]) p⟩⟩
theorem dop_neI : DOp X n c (compareOp .NotEq) (PI2 (fun _ _ => True) fun i j => .bl (!decide (i = j))) := fun _ => ⟨_, op_ne, fun Γ σ R H x y v w Post s hx hy ⟨i, j, e1, e2, _, p⟩ Q q => by
  subst e1 e2
  cases hx.int; cases hy.int
  exact ⟨rfl, q _ R H _ s (Ex.refl _) (by simp [Rp]) p⟩⟩
theorem et_eq (ha : EV X n c Γ a (.int i)) (hb : EV X n c Γ b (.int j)) : ET X n c Γ (.Compare a [.Eq] [b] pos) (decide (i = j)) := et_i2 dop_eqI ha hb (nomark _)
theorem et_ne (ha : EV X n c Γ a (.int i)) (hb : EV X n c Γ b (.int j)) : ET X n c Γ (.Compare a [.NotEq] [b] pos) (!decide (i = j)) := et_i2 dop_neI ha hb (nomark _)
/-! ### is None -/
def D.isN : D → Bool
  | .non => true
  | _ => false
theorem Wk.isN {K : PySem.W.Frag} {R H : Hp} {x : D} {v : V} (h : Wk K R H x v) : decide (v = V.non) = x.isN := by
  rcases h with h | ⟨a, vs, ds, h1, h2, _⟩ | ⟨a, vs, ds, h1, h2, _⟩ | ⟨a, dx, ws, nm, fs, h1, h2, _⟩
  · cases x with
    | non => cases (show _ = _ from h); rfl
    | bl _ => cases (show _ = _ from h); rfl
    | int _ => cases (show _ = _ from h); rfl
    | str _ => cases (show _ = _ from h); rfl
    | lst _ => obtain ⟨a, vs, h1, _⟩ := h; subst h1; rfl
    | tup _ => obtain ⟨a, vs, h1, _⟩ := h; subst h1; rfl
    | dic _ => obtain ⟨a, vs, h1, _⟩ := h; subst h1; rfl
    | ins _ _ => obtain ⟨a, _, vs, h1, _⟩ := h; subst h1; rfl
  · subst h1 h2; rfl
  · subst h1 h2; rfl
  · subst h1 h2; rfl
theorem dop_isN : DOp X n c (compareOp .Is) (fun x y Post => y = .non ∧ Post (.bl x.isN)) := fun _ => ⟨_, op_isN, fun Γ σ R H x y v w Post s hx hy ⟨e, p⟩ Q q => by
  subst e
  exact ⟨hy.non, q _ R H _ s (Ex.refl _) (by show _ = _; rw [hx.isN]) p⟩⟩
theorem et_isN {p q} (ha : EK X n c Γ a k) (ga : k.get Γ = some x := by rfl) : ET X n c Γ (.Compare a [.Is] [.Constant .none p q] pos) x.isN := et_cmp dop_isN ha (ek_d ev_non) (fun _ p => ⟨rfl, p⟩) ga rfl (nomark _)
theorem ev_isN {p q} (ha : EK X n c Γ a k) (ga : k.get Γ = some x := by rfl) : EV X n c Γ (.Compare a [.Is] [.Constant .none p q] pos) (.bl x.isN) := ev_cmp dop_isN ha (ek_d ev_non) (fun _ p => ⟨rfl, p⟩) ga rfl (nomark _)
/-! ### and, or, not, if -/
variable {rest : List Expr} {p q : Bool}
theorem wt_val {Post : Bool → SL → Prop} (h : WE X n c Γ e fun x Γ' => ∃ b, x = .bl b ∧ Post b Γ') (he : ∀ whole, isTrue e X.env whole = (do let v ← whole; standAt e.pos; holding [v] (truthy v)) := by intro _; rfl) : WT X n c Γ e Post := .mk fun hn σ R H s Q q =>
  (pt_val pW he).w (h.run hn σ R H s _ fun v R' H' x Γ' s' e r ⟨b, e1, p⟩ => by subst e1; exact ⟨b, r, q R' H' b Γ' s' e p⟩)
theorem et_val (h : EV X n c Γ e (.bl p)) (he : ∀ whole, isTrue e X.env whole = (do let v ← whole; standAt e.pos; holding [v] (truthy v)) := by intro _; rfl) : ET X n c Γ e p := wt_val (we_of h ⟨p, rfl, rfl, rfl⟩) he
theorem WW.t {Post : Bool → SL → Prop} (h : WW X n c Γ e Post) : WT X n c Γ e Post := .mk fun hn σ R H s Q q => (PW.pt pWW).w (h.run hn σ R H s Q q)
theorem EW.t (h : EW X n c Γ e p) : ET X n c Γ e p := WW.t h
theorem ww_and1 {Post : Bool → SL → Prop} (h : WT X n c Γ a Post) : WW X n c Γ (.BoolOp .And [a] pos) Post := .mk fun hn σ R H s Q q => (pw_and1 pWT).w (h.run hn σ R H s Q q)
theorem ww_or1 {Post : Bool → SL → Prop} (h : WT X n c Γ a Post) : WW X n c Γ (.BoolOp .Or [a] pos) Post := .mk fun hn σ R H s Q q => (pw_or1 pWT).w (h.run hn σ R H s Q q)
theorem ww_and {Post : Bool → SL → Prop} (h : WT X n c Γ a fun p Γ1 => (p = true → WW X n c Γ1 (.BoolOp .And (b :: rest) pos) Post) ∧ (p = false → Post false Γ1)) : WW X n c Γ (.BoolOp .And (a :: b :: rest) pos) Post := .mk fun hn σ R H s Q q =>
  (pw_and pWT pWW).w (h.run hn σ R H s _ fun R1 H1 p Γ1 s1 e1 ⟨p1, p2⟩ => by
    cases p with
    | true => exact (p1 rfl).run hn σ R1 H1 s1 Q fun R' H' b Γ' s' e' p' => q R' H' b Γ' s' (e1.trans e') p'
    | false => exact q R1 H1 false Γ1 s1 e1 (p2 rfl))
theorem ww_or {Post : Bool → SL → Prop} (h : WT X n c Γ a fun p Γ1 => (p = false → WW X n c Γ1 (.BoolOp .Or (b :: rest) pos) Post) ∧ (p = true → Post true Γ1)) : WW X n c Γ (.BoolOp .Or (a :: b :: rest) pos) Post := .mk fun hn σ R H s Q q =>
  (pw_or pWT pWW).w (h.run hn σ R H s _ fun R1 H1 p Γ1 s1 e1 ⟨p1, p2⟩ => by
    cases p with
    | false => exact (p1 rfl).run hn σ R1 H1 s1 Q fun R' H' b Γ' s' e' p' => q R' H' b Γ' s' (e1.trans e') p'
    | true => exact q R1 H1 true Γ1 s1 e1 (p2 rfl))
theorem ew_and1 (h : ET X n c Γ a p) : EW X n c Γ (.BoolOp .And [a] pos) p := ww_and1 h
theorem ew_or1 (h : ET X n c Γ a p) : EW X n c Γ (.BoolOp .Or [a] pos) p := ww_or1 h
theorem ew_and (h : ET X n c Γ a p) (h2 : p = true → EW X n c Γ (.BoolOp .And (b :: rest) pos) q) : EW X n c Γ (.BoolOp .And (a :: b :: rest) pos) (p && q) :=
  ww_and (wt_of h ⟨fun e => (h2 e).mono fun x Γ' ⟨g1, g2⟩ => by subst g1 e; exact ⟨rfl, g2⟩, fun e => by subst e; exact ⟨rfl, rfl⟩⟩)
theorem ew_or (h : ET X n c Γ a p) (h2 : p = false → EW X n c Γ (.BoolOp .Or (b :: rest) pos) q) : EW X n c Γ (.BoolOp .Or (a :: b :: rest) pos) (p || q) :=
  ww_or (wt_of h ⟨fun e => (h2 e).mono fun x Γ' ⟨g1, g2⟩ => by subst g1 e; exact ⟨rfl, g2⟩, fun e => by subst e; exact ⟨rfl, rfl⟩⟩)
theorem wt_not {Post : Bool → SL → Prop} (h : WT X n c Γ a fun p Γ' => Post (!p) Γ') : WT X n c Γ (.UnaryOp .Not a pos) Post := .mk fun hn σ R H s Q q =>
  (pt_not pWT).w (h.run hn σ R H s _ fun R' H' b Γ' s' e' p' => q R' H' (!b) Γ' s' e' p')
theorem et_not (h : ET X n c Γ a p) : ET X n c Γ (.UnaryOp .Not a pos) (!p) := wt_not (wt_of h ⟨rfl, rfl⟩)
/-- as values -/
theorem we_and1 {op} {Post : D → SL → Prop} (h : WE X n c Γ a Post) : WE X n c Γ (.BoolOp op [a] pos) Post := .mk fun hn σ R H s Q q => (pe_one pW).w (h.run hn σ R H s Q q)
theorem we_and {Post : D → SL → Prop} (h : WE X n c Γ a fun x Γ1 => ∃ p, x = .bl p ∧ (p = true → WE X n c Γ1 (.BoolOp .And (b :: rest) pos) Post) ∧ (p = false → Post (.bl false) Γ1)) : WE X n c Γ (.BoolOp .And (a :: b :: rest) pos) Post := .mk fun hn σ R H s Q q =>
  (pe_and pW pW).w (h.run hn σ R H s _ fun v R1 H1 x Γ1 s1 e1 r ⟨p, e2, p1, p2⟩ => by
    subst e2
    refine ⟨p, r, ?_⟩
    cases p with
    | true => exact (p1 rfl).run hn σ R1 H1 s1 Q fun v R' H' b Γ' s' e' p' => q v R' H' b Γ' s' (e1.trans e') p'
    | false => exact q (.bl false) R1 H1 (.bl false) Γ1 s1 e1 rfl (p2 rfl))
theorem ev_one {op} (h : EV X n c Γ a x) : EV X n c Γ (.BoolOp op [a] pos) x := we_and1 h
theorem ev_and (h : EV X n c Γ a (.bl p)) (h2 : p = true → EV X n c Γ (.BoolOp .And (b :: rest) pos) (.bl q)) : EV X n c Γ (.BoolOp .And (a :: b :: rest) pos) (.bl (p && q)) :=
  we_and (we_of h ⟨p, rfl, fun e => (h2 e).mono fun x Γ' ⟨g1, g2⟩ => by subst g1 e; exact ⟨rfl, g2⟩, fun e => by subst e; exact ⟨rfl, rfl⟩⟩)
theorem ev_not (h : EV X n c Γ a (.bl p)) : EV X n c Γ (.UnaryOp .Not a pos) (.bl (!p)) := .mk fun hn σ R H s Q q =>
  (pe_not pW).w (h.run hn σ R H s _ fun v R' H' x Γ' s' e' r ⟨e1, e2⟩ => by subst e1 e2; exact ⟨p, r, q (.bl (!p)) R' H' (.bl (!p)) _ s' e' rfl ⟨rfl, rfl⟩⟩)
theorem we_if {t : Expr} {Post : D → SL → Prop} (h : WT X n c Γ t fun p Γ1 => (p = true → WE X n c Γ1 a Post) ∧ (p = false → WE X n c Γ1 b Post)) : WE X n c Γ (.IfExp t a b pos) Post := .mk fun hn σ R H s Q q =>
  (pe_ifExp pWT pW pW).w (h.run hn σ R H s _ fun R1 H1 p Γ1 s1 e1 ⟨p1, p2⟩ => by
    cases p with
    | true => exact (p1 rfl).run hn σ R1 H1 s1 Q fun v R' H' b Γ' s' e' p' => q v R' H' b Γ' s' (e1.trans e') p'
    | false => exact (p2 rfl).run hn σ R1 H1 s1 Q fun v R' H' b Γ' s' e' p' => q v R' H' b Γ' s' (e1.trans e') p')
end
end DL

end
section
set_option Elab.async false
set_option linter.all false
set_option autoImplicit true
set_option maxRecDepth 100000
set_option maxHeartbeats 400000
namespace DL
open PySem L2
open PyProof.Rows hiding St

/-! ### parameters, promises -/
inductive Par where
  | d (x : D) | w (x : D) | own (o : OB) | sc (ns : List Int)
abbrev Sg := List Par → (Res → List OB → Prop) → Prop
def ParOk (K : PySem.W.Frag) (M : Addr → Prop) (R H : Hp) : Par → V → Prop
  | .d x, v => Rp K R x v
  | .w x, v => WOk K M R H x v
  | .own o, v => ∃ a, v = .ref a ∧ OBOk K R H a o ∧ R a = none
  | .sc ns, v => ∃ a, v = .ref a ∧ SqL K R a (ns.map V.int)
def ParsOk (K : PySem.W.Frag) (M : Addr → Prop) (R H : Hp) : List Par → List V → Prop
  | [], vs => vs = []
  | p :: ps, vs => ∃ v ws, vs = v :: ws ∧ ParOk K M R H p v ∧ ParsOk K M R H ps ws
def adr : V → Addr
  | .ref a => a
  | _ => 0
/-- the places of what is lent -/
def ownAd : List Par → List V → List Addr
  | .own _ :: ps, v :: vs => adr v :: ownAd ps vs
  | _ :: ps, _ :: vs => ownAd ps vs
  | _, _ => []
def OwnsOk (K : PySem.W.Frag) (R H : Hp) : List Addr → List OB → Prop
  | [], os => os = []
  | a :: as, os => ∃ o os', os = o :: os' ∧ OBOk K R H a o ∧ OwnsOk K R H as os'
def RetOk (K : PySem.W.Frag) (H0 R H : Hp) : Res → V → Prop
  | .d x, v => Rp K R x v
  | .own o, v => ∃ a, v = .ref a ∧ OBOk K R H a o ∧ R a = none ∧ H0 a = none
  | .bx pre b post o, v => BxOk K R pre b post v ∧ OBOk K R H b o ∧ R b = none ∧ H0 b = none
/-- behind a call -/
structure After (K : PySem.W.Frag) (as : List Addr) (R H R' H' : Hp) : Prop where
  r : Ex R R'
  rh : Ex R' H'
  h : ∀ a o, a ∉ as → H a = some o → H' a = some o
  pr : ∀ a, H a ≠ none → H' a ≠ none
  un : ∀ a, H a ≠ none → R a = none → R' a = none
def spOf (K : PySem.W.Frag) (S : Sg) : Sp := fun vs H Q _ => ∃ (R : Hp) (ps : List Par) (Post : Res → List OB → Prop), Ex R H ∧ ParsOk K (fun a => a ∈ ownAd ps vs) R H ps vs ∧ (ownAd ps vs).Nodup ∧ S ps Post ∧
  ∀ v R' H' r os, After K (ownAd ps vs) R H R' H' → RetOk K H R' H' r v → OwnsOk K R' H' (ownAd ps vs) os → Post r os → Q v H'

/-- a promise as it is known under A0 -/
structure FnUd (A0 : Around) (P : Program) (w : World) (K : PySem.W.Frag) (mg : Str → Option Value) (base : Heap) (CX : CXT) (k : Nat) (f : Addr) (fd : FuncData) (ps : List Str) (sp : Sp) : Prop where
  len : ∀ vs H Q E, sp vs H Q E → vs.length = ps.length
  run : ∀ (outer : List Env) (s : Shared) (H : Hp) (args : Args) (us : List Value) (vs : List V) (Q : VK) (E : XK), Room k A0 → Env0 P w K mg base A0 outer s H → BindsTo s fd args (ps.zip us) → Vals vs us → sp vs H Q E →
    codeAny (model P w) A0 (.call (.ref f) args) (CR CX outer P w H s Q E) s
theorem _root_.L2.FnOk.at {P : Program} {w : World} {K : PySem.W.Frag} {mg : Str → Option Value} {base : Heap} {CX : CXT} {k : Nat} {f : Addr} {fd : FuncData} {ps : List Str} {sp : Sp} (F : FnOk P w K mg base CX k f fd ps sp) (A0 : Around) : FnUd A0 P w K mg base CX k f fd ps sp :=
  ⟨F.len, fun outer s H args us vs Q E => F.run A0 outer s H args us vs Q E⟩
theorem run_fnA {X : Cx} {CX : CXT} {k : Nat} {f : Addr} {fd : FuncData} {ps : List Str} {sp : Sp} {dvs : List V} {ds : List Value} {E : XK} {pins : List (Addr × Obj)} {σ : St} {H : Hp} {s : Shared} {Q : VK} {us : List Value} {vs : List V} (F : FnUd X.A X.prog X.w X.K X.mg X.base CX k f fd ps sp) (hr : Room k X.A) (hb : Binds X.K fd ps ds) (hd : Vals dvs ds) (hx : Passes CX X E)
    (I : Inv X pins σ H s) (r : Vals vs us) (h : sp (vs ++ dvs) H Q E) : wpAny (model X.prog X.w) X.A (call (.ref f) us) (EP X pins σ Q) X.xe s := by
  have r2 : Vals (vs ++ dvs) (us ++ ds) := r.append hd
  have hl : (us ++ ds).length = ps.length := by rw [← r2.length]; exact F.len _ _ _ _ h
  refine wpAny_call (codeAny_mono (F.run X.stack s H ⟨us, []⟩ (us ++ ds) (vs ++ dvs) Q E hr I.env0 (hb s us I.kIn hl) r2 h) fun r s' hq => ?_)
  cases r with
  | error e => exact hx pins σ H s e s' I hq
  | ok fl =>
    cases fl with
    | ret u => exact I.after hq
    | next => exact False.elim hq
    | brk => exact False.elim hq
    | cont => exact False.elim hq
theorem pe_callA {X : Cx} {CX : CXT} {k : Nat} {f : Addr} {fd : FuncData} {ps : List Str} {sp : Sp} {dvs : List V} {ds : List Value} {E : XK} {x : Str} {p pos : Pos} {e : Expr} {es : List Expr} {t : TA} (F : FnUd X.A X.prog X.w X.K X.mg X.base CX k f fd ps sp) (hr : Room k X.A) (hg : Gl X x) (hm : X.mg x = some (.ref f)) (hk : PySem.W.keepIn X.K (.ref f) = true) (hb : Binds X.K fd ps ds) (hd : Vals dvs ds) (hx : Passes CX X E)
    (ha : PA X (e :: es) t) (hdb : (x == ("__debug__" : Str)) = false := by decide) (he : starEach (e :: es) X.env = (false, eval e X.env) :: starEach es X.env := by rfl) (hpl : (backTo pos (starEach es X.env)).any (·.1) = false := by rfl) :
    PE X (.Call (.Name x p) (e :: es) [] pos) (tCall sp dvs E t) := by
  refine ⟨fun pins s σ H Q I h => ?_⟩
  refine wpAny_Call_Name_kw (ld_glob I hg hm ?_ hdb)
  refine PySem.W.callWith_K (h₀ := X.base) I.ok.mod.kin hk (thn (ha.run pos pins s σ H _ I h) fun us s1 ⟨vs, H1, I1, r, q⟩ => ⟨I1.kIn, ?_⟩) he hpl
  exact run_fnA F hr hb hd hx I1 r q
/-- a def that is known by its promise -/
structure CalF (X : Cx) (k : Nat) (nm : Str) (S : Sg) : Prop where
  rm : Room k X.A
  ex : ∃ f fd ps k0, FnUd X.A X.prog X.w X.K X.mg X.base CX0 k0 f fd ps (spOf X.K S) ∧ k0 ≤ k ∧ X.mg nm = some (.ref f) ∧ PySem.W.keepIn X.K (.ref f) = true ∧ Binds X.K fd ps []
theorem CalF.mono {X : Cx} {j k : Nat} {nm : Str} {S : Sg} (h : CalF X j nm S) (e : j ≤ k) (rm : Room k X.A) : CalF X k nm S :=
  let ⟨f, fd, ps, k0, a, b, c⟩ := h.ex; ⟨rm, f, fd, ps, k0, a, Nat.le_trans b e, c⟩

def AK.par (Γ : SL) : AK → Option Par
  | .d x => some (.d x)
  | .v x => some (.w x)
  | .s i => match Γ[i]? with
    | some (.sc ns) => some (.sc ns)
    | some sl => sl.data.map Par.w
    | none => none
  | .o i => match Γ[i]? with
    | some (.own ob) => some (.own ob)
    | _ => none
def pars (Γ : SL) : List AK → Option (List Par)
  | [] => some []
  | k :: ks => match k.par Γ, pars Γ ks with
    | some x, some xs => some (x :: xs)
    | _, _ => none
def ownIx : List AK → List Nat
  | [] => []
  | .o i :: ks => i :: ownIx ks
  | _ :: ks => ownIx ks
def readIx : List AK → List Nat
  | [] => []
  | .s i :: ks => i :: readIx ks
  | _ :: ks => readIx ks
def updOwn (Γ : SL) : List Nat → List OB → SL
  | i :: is, o :: os => updOwn (Γ.set i (.own o)) is os
  | _, _ => Γ

section
variable {K : PySem.W.Frag} {c : Cc} {Γ : SL} {σ : St} {R H R' H' : Hp}
theorem own_ad : ∀ {ks : List AK} {vs : List V} {ps : List Par}, SOk K c Γ σ R H → AksOk K R σ ks vs → pars Γ ks = some ps →
    ownAd ps vs = (ownIx ks).map (fun i => adr ((σ[i]?.bind id).getD .non)) ∧ ∀ i ∈ ownIx ks, ∃ a o, σ[i]? = some (some (.ref a)) ∧ Γ[i]? = some (.own o) ∧ OBOk K R H a o ∧ R a = none ∧ (c.H0 a = none ∨ c.M a)
  | [], vs, ps, s, h, e => by cases e; exact ⟨rfl, fun i hi => by simp [ownIx] at hi⟩
  | k :: ks, vs, ps, s, ⟨v, ws, h1, h2, h3⟩, e => by
    subst h1
    unfold pars at e
    split at e
    · rename_i p ps' e1 e2
      cases e
      obtain ⟨ih1, ih2⟩ := own_ad s h3 e2
      cases k with
      | d x => cases e1; exact ⟨ih1, ih2⟩
      | v x => cases e1; exact ⟨ih1, ih2⟩
      | s i =>
        have hp : ∀ o, p ≠ .own o := fun o z => by
          subst z
          simp only [AK.par] at e1
          split at e1
          · cases e1
          · obtain ⟨_, _, z⟩ := Option.map_eq_some_iff.mp e1; cases z
          · cases e1
        refine ⟨?_, ih2⟩
        cases p with
        | own o => exact absurd rfl (hp o)
        | _ => exact ih1
      | o i =>
        simp only [AK.par] at e1
        split at e1
        · rename_i o ho
          cases e1
          obtain ⟨q, q1, a, q2, q3, q4, q5⟩ := s.sl i _ ho
          have z : σ[i]? = some (some v) := h2
          rw [z] at q1; cases q1; cases q2
          refine ⟨?_, fun j hj => ?_⟩
          · show adr (.ref a) :: ownAd ps' ws = _
            rw [ih1]; simp [ownIx, z]
          · rcases List.mem_cons.mp hj with rfl | hj
            · exact ⟨a, o, z, ho, q3, q4, q5⟩
            · exact ih2 j hj
        · cases e1
    · cases e
theorem own_nd (s : SOk K c Γ σ R H) : ∀ {is : List Nat}, is.Nodup → (∀ i ∈ is, ∃ a o, σ[i]? = some (some (.ref a)) ∧ Γ[i]? = some (.own o) ∧ OBOk K R H a o ∧ R a = none ∧ (c.H0 a = none ∨ c.M a)) → (is.map (fun i => adr ((σ[i]?.bind id).getD .non))).Nodup
  | [], _, _ => by simp
  | i :: is, nd, h => by
    obtain ⟨n1, n2⟩ := List.nodup_cons.mp nd
    rw [List.map_cons, List.nodup_cons]
    refine ⟨fun z => ?_, own_nd s n2 fun j hj => h j (List.mem_cons_of_mem _ hj)⟩
    obtain ⟨j, hj, e⟩ := List.mem_map.mp z
    obtain ⟨a, o, q1, q2, _⟩ := h i List.mem_cons_self
    obtain ⟨b, o', r1, r2, _⟩ := h j (List.mem_cons_of_mem _ hj)
    rw [q1, r1] at e
    have e' : b = a := e
    subst e'
    have := s.dj i j b o o' q2 r2 q1 r1
    subst this
    exact n1 hj
theorem pars_ok {M : Addr → Prop} (s : SOk K c Γ σ R H) (hM : ∀ a, M a → c.H0 a = none ∨ c.M a) : ∀ {ks : List AK} {vs : List V} {ps : List Par}, AksOk K R σ ks vs → pars Γ ks = some ps → (∀ i ∈ readIx ks, ∀ a o, Γ[i]? = some (.own o) → σ[i]? = some (some (.ref a)) → ¬ M a) →
    ParsOk K M R H ps vs
  | [], vs, ps, h, e, _ => by cases e; exact h
  | k :: ks, vs, ps, ⟨v, ws, h1, h2, h3⟩, e, hr => by
    unfold pars at e
    split at e
    · rename_i p ps' e1 e2
      cases e
      refine ⟨v, ws, h1, ?_, pars_ok s hM h3 e2 fun i hi => hr i (by cases k <;> simp [readIx, hi])⟩
      cases k with
      | d x => cases e1; exact h2
      | v x => cases e1; exact .inl h2
      | o i =>
        simp only [AK.par] at e1
        split at e1
        · rename_i o ho
          cases e1
          obtain ⟨q, q1, a, q2, q3, q4, q5⟩ := s.sl i _ ho
          have z : σ[i]? = some (some v) := h2
          rw [z] at q1; cases q1; cases q2
          exact ⟨a, rfl, q3, q4⟩
        · cases e1
      | s i =>
        have z : σ[i]? = some (some v) := h2
        simp only [AK.par] at e1
        split at e1
        · rename_i ns ho
          cases e1
          obtain ⟨q, q1, a, q2, q3⟩ := s.sl i _ ho
          rw [z] at q1; cases q1; cases q2
          exact ⟨a, rfl, q3⟩
        · rename_i sl hns ho
          obtain ⟨x, ex, e3⟩ := Option.map_eq_some_iff.mp e1
          subst e3
          obtain ⟨q, q1, q2⟩ := s.sl i _ ho
          rw [z] at q1; cases q1
          show WOk K M R H x v
          cases sl with
          | no => cases ex
          | any => cases ex
          | d y => cases ex; obtain ⟨w, r1, r2⟩ := q2; cases r1; exact .inl r2
          | w y => cases ex; obtain ⟨w, r1, r2⟩ := q2; cases r1; exact r2.noM fun a o _ z h => z (hM a h)
          | sc ns => cases ex
          | ex _ _ _ => cases ex
          | bx _ _ _ => cases ex
          | tn _ _ _ => cases ex
          | lk _ => cases ex
          | own ob =>
            obtain ⟨a, r1, r2, _⟩ := q2
            cases r1
            have na := hr i (by simp [readIx]) a ob ho z
            cases ob with
            | lst ds => cases ex; obtain ⟨us, t1, t2⟩ := r2; exact .inr (.inl ⟨a, us, ds, rfl, rfl, na, t1, t2⟩)
            | dic ds => cases ex; obtain ⟨us, t1, t2⟩ := r2; exact .inr (.inr (.inl ⟨a, us, ds, rfl, rfl, na, t1, t2⟩))
            | ins nm fs => cases ex; obtain ⟨dx, us, t1, t2⟩ := r2; exact .inr (.inr (.inr ⟨a, dx, us, nm, fs, rfl, rfl, na, t1, t2⟩))
            | sto => cases ex
            | lstA _ ds => cases ex; obtain ⟨_, us, t1, t2⟩ := r2; exact .inr (.inl ⟨a, us, ds, rfl, rfl, na, t1, t2⟩)
            | lstV _ us ds => cases ex; obtain ⟨_, t1, t2⟩ := r2; exact .inr (.inl ⟨a, us, ds, rfl, rfl, na, t1, t2⟩)
            | dicA _ ds => cases ex; obtain ⟨_, us, t1, t2⟩ := r2; exact .inr (.inr (.inl ⟨a, us, ds, rfl, rfl, na, t1, t2⟩))
        · cases e1
    · cases e
theorem updOwn_len : ∀ {is : List Nat} {os : List OB} {Γ : SL}, (updOwn Γ is os).length = Γ.length
  | [], _, _ => rfl
  | _ :: _, [], _ => rfl
  | i :: is, o :: os, Γ => by show (updOwn (Γ.set i (.own o)) is os).length = _; rw [updOwn_len, List.length_set]
theorem updOwn_out : ∀ {is : List Nat} {os : List OB} {Γ : SL} {j : Nat}, j ∉ is → (updOwn Γ is os)[j]? = Γ[j]?
  | [], _, _, _, _ => rfl
  | _ :: _, [], _, _, _ => rfl
  | i :: is, o :: os, Γ, j, h => by
    show (updOwn (Γ.set i (.own o)) is os)[j]? = _
    have hj : j ≠ i := fun e => h (by simp [e])
    rw [updOwn_out fun z => h (List.mem_cons_of_mem _ z), List.getElem?_set_ne (Ne.symm hj)]
theorem updOwn_in {R' H' : Hp} : ∀ {is : List Nat} {os : List OB} {Γ : SL}, is.Nodup → (∀ i ∈ is, i < Γ.length) → OwnsOk K R' H' (is.map (fun i => adr ((σ[i]?.bind id).getD .non))) os → ∀ i ∈ is, ∃ o, (updOwn Γ is os)[i]? = some (.own o) ∧ OBOk K R' H' (adr ((σ[i]?.bind id).getD .non)) o
  | [], _, _, _, _, _, i, h => by simp at h
  | j :: is, os, Γ, nd, hl, ⟨o, os', e, h1, h2⟩, i, hi => by
    subst e
    obtain ⟨n1, n2⟩ := List.nodup_cons.mp nd
    show ∃ o', (updOwn (Γ.set j (.own o)) is os')[i]? = _ ∧ _
    rcases List.mem_cons.mp hi with rfl | hi
    · refine ⟨o, ?_, h1⟩
      rw [updOwn_out n1, List.getElem?_set_self (hl i List.mem_cons_self)]
    · exact updOwn_in n2 (fun k hk => by rw [List.length_set]; exact hl k (List.mem_cons_of_mem _ hk)) h2 i hi
/-- behind a call the slots stand, what was lent renewed -/
theorem SOk.after {ks : List AK} {vs : List V} {ps : List Par} {os : List OB} (s : SOk K c Γ σ R H) (h : AksOk K R σ ks vs) (e : pars Γ ks = some ps) (nd : (ownIx ks).Nodup) (A : After K (ownAd ps vs) R H R' H') (ow : OwnsOk K R' H' (ownAd ps vs) os) :
    SOk K c (updOwn Γ (ownIx ks) os) σ R' H' := by
  obtain ⟨e1, e2⟩ := own_ad s h e
  have inO : ∀ a, a ∈ ownAd ps vs → c.H0 a = none ∨ c.M a := fun a ha => by
    rw [e1] at ha
    obtain ⟨i, hi, q⟩ := List.mem_map.mp ha
    obtain ⟨b, o, q1, q2, q3, q4, q5⟩ := e2 i hi
    rw [q1] at q
    have q' : b = a := q
    subst q'; exact q5
  have lt : ∀ i ∈ ownIx ks, i < Γ.length := fun i hi => by
    obtain ⟨b, o, q1, q2, _⟩ := e2 i hi
    exact (List.getElem?_eq_some_iff.mp q2).1
  rw [e1] at ow
  refine ⟨A.rh, s.r0.trans A.r, fun a o n q => A.h a o (fun z => ?_) (s.hm a o n q), fun a n => A.pr a (s.pr a n), fun a n q => A.un a (s.pr a n) (s.un a n q), by rw [updOwn_len]; exact s.len, fun i sl q => ?_, fun i j a o o' q1 q2 q3 q4 => ?_, fun p hp => ?_⟩
  · rcases inO a z with z | z
    · rw [z] at q; cases q
    · exact n z
  · by_cases hi : i ∈ ownIx ks
    · obtain ⟨o, w1, w2⟩ := updOwn_in (σ := σ) nd lt ow i hi
      rw [w1] at q; cases q
      obtain ⟨a, o', q1, q2, q3, q4, q5⟩ := e2 i hi
      rw [q1] at w2
      exact ⟨_, q1, a, rfl, w2, A.un a q3.there q4, q5⟩
    · rw [updOwn_out hi] at q
      obtain ⟨o, w1, w2⟩ := s.sl i sl q
      refine ⟨o, w1, ?_⟩
      cases sl with
      | no => exact w2
      | any => exact w2
      | d x => obtain ⟨v, z1, z2⟩ := w2; exact ⟨v, z1, Rp.mono A.r _ _ z2⟩
      | sc ns => obtain ⟨v, z1, z2⟩ := w2; exact ⟨v, z1, ex_l A.r z2⟩
      | ex _ _ _ => exact ⟨w2.1, w2.2.mono A.r⟩
      | bx _ _ _ => obtain ⟨v, z1, z2⟩ := w2; exact ⟨v, z1, z2.mono A.r⟩
      | tn _ _ _ => obtain ⟨v, z1, z2⟩ := w2; exact ⟨v, z1, Rp.mono (ex_u A.r) _ _ z2⟩
      | lk _ => obtain ⟨b, ws, od, z1, z2, z3, z4⟩ := w2; exact ⟨b, ws, od, z1, z2, z3, z4.mono A.r⟩
      | w x => obtain ⟨v, z1, z2⟩ := w2; exact ⟨v, z1, z2.mono A.r fun a o na => A.h a o fun z => na (inO a z)⟩
      | own ob =>
        obtain ⟨a, z1, z2, z3, z4⟩ := w2
        refine ⟨a, z1, z2.mono A.r fun o => A.h a o fun z => ?_, A.un a z2.there z3, z4⟩
        rw [e1] at z
        obtain ⟨j, hj, q'⟩ := List.mem_map.mp z
        obtain ⟨b, o', q1, q2, _⟩ := e2 j hj
        rw [q1] at q'
        have q'' : b = a := q'
        subst q''
        subst z1
        have := s.dj i j b ob o' q q2 w1 q1
        subst this
        exact hi hj
  · have un : ∀ (i : Nat) (o : OB), (updOwn Γ (ownIx ks) os)[i]? = some (.own o) → ∃ o, Γ[i]? = some (.own o) := fun i o q => by
      by_cases hi : i ∈ ownIx ks
      · obtain ⟨a, o', _, q2, _⟩ := e2 i hi; exact ⟨o', q2⟩
      · rw [updOwn_out hi] at q; exact ⟨o, q⟩
    obtain ⟨u, z1⟩ := un i o q1
    obtain ⟨u', z2⟩ := un j o' q2
    exact s.dj i j a u u' z1 z2 q3 q4
  · obtain ⟨w1, o, w2⟩ := s.oi p hp
    refine ⟨w1, ?_⟩
    by_cases hi : p.1 ∈ ownIx ks
    · obtain ⟨o, z1, _⟩ := updOwn_in (σ := σ) nd lt ow p.1 hi; exact ⟨o, z1⟩
    · exact ⟨o, by rw [updOwn_out hi]; exact w2⟩
/-- freezing, any fresh thing -/
theorem SOk.freezeR {o : OB} {x : D} (s : SOk K c Γ σ R H) {v : V} (h : VOk K c Γ σ R H (.own o) v) (e : o.data = some x) : ∃ R', SOk K c Γ σ R' H ∧ Ex R R' ∧ Rp K R' x v := by
  obtain ⟨a, h1, h2, h4, h5, h6⟩ := h
  have main : ∀ u : HO, H a = some u → ∃ R', SOk K c Γ σ R' H ∧ Ex R R' ∧ R' a = some u := fun u hu => by
    have e : Ex R (upd R a u) := Ex.new h4
    refine ⟨upd R a u, ⟨fun b o q => ?_, s.r0.trans e, s.hm, s.pr, fun b n q => ?_, s.len, fun i x q => ?_, s.dj, s.oi⟩, e, upd_same⟩
    · by_cases z : b = a
      · subst z; rw [upd_same] at q; cases q; exact hu
      · rw [upd_ne z] at q; exact s.rh b o q
    · have z : b ≠ a := fun z => n (z ▸ h5)
      rw [upd_ne z]; exact s.un b n q
    · obtain ⟨o, q1, q2⟩ := s.sl i x q
      refine ⟨o, q1, ?_⟩
      cases x with
      | no => exact q2
      | any => exact q2
      | d x => obtain ⟨v, z1, z2⟩ := q2; exact ⟨v, z1, z2.mono e⟩
      | w x => obtain ⟨v, z1, z2⟩ := q2; exact ⟨v, z1, z2.mono e fun _ _ _ h => h⟩
      | own ob =>
        obtain ⟨b, z1, z2, z3, z4⟩ := q2
        have z : b ≠ a := fun z => h6 i ob q (by rw [q1, z1, z])
        exact ⟨b, z1, z2.mono e fun _ h => h, by rw [upd_ne z]; exact z3, z4⟩
      | sc ns => obtain ⟨b, z1, z2⟩ := q2; exact ⟨b, z1, ex_l e z2⟩
      | ex _ _ _ => exact ⟨q2.1, q2.2.mono e⟩
      | bx _ _ _ => obtain ⟨v, z1, z2⟩ := q2; exact ⟨v, z1, z2.mono e⟩
      | tn _ _ _ => obtain ⟨v, z1, z2⟩ := q2; exact ⟨v, z1, Rp.mono (ex_u e) _ _ z2⟩
      | lk _ => obtain ⟨b, ws, od, z1, z2, z3, z4⟩ := q2; exact ⟨b, ws, od, z1, z2, z3, z4.mono e⟩
  cases o with
  | lst ds =>
    obtain ⟨vs, h2, h3⟩ := h2; cases e
    obtain ⟨R', a1, a2, a3⟩ := main _ h2
    exact ⟨R', a1, a2, a, vs, h1, a3, h3.mono a2⟩
  | dic ds =>
    obtain ⟨vs, h2, h3⟩ := h2; cases e
    obtain ⟨R', a1, a2, a3⟩ := main _ h2
    exact ⟨R', a1, a2, a, vs, h1, a3, h3.mono a2⟩
  | ins nm fs =>
    obtain ⟨dx, vs, h2, h3, h3'⟩ := h2; cases e
    obtain ⟨R', a1, a2, a3⟩ := main _ h2
    exact ⟨R', a1, a2, a, dx, vs, h1, a3, h3, h3'.mono a2⟩
  | sto => cases e
  | lstA _ ds =>
    obtain ⟨_, vs, h2, h3⟩ := h2; cases e
    obtain ⟨R', a1, a2, a3⟩ := main _ h2
    exact ⟨R', a1, a2, a, vs, h1, a3, h3.mono a2⟩
  | lstV _ vs ds =>
    obtain ⟨_, h2, h3⟩ := h2; cases e
    obtain ⟨R', a1, a2, a3⟩ := main _ h2
    exact ⟨R', a1, a2, a, vs, h1, a3, h3.mono a2⟩
  | dicA _ ds =>
    obtain ⟨_, vs, h2, h3⟩ := h2; cases e
    obtain ⟨R', a1, a2, a3⟩ := main _ h2
    exact ⟨R', a1, a2, a, vs, h1, a3, h3.mono a2⟩
end

section
variable {X : Cx} {n : Nm} {c : Cc} {Γ : SL} {e a b : Expr} {x y z : D} {pos p : Pos} {nm : Str} {S : Sg} {es : List Expr}
/-- a fresh thing as data -/
theorem we_frz {Post : D → SL → Prop} (h : WO X n c Γ e fun o Γ' => ∃ x, o.data = some x ∧ Post x Γ') : WE X n c Γ e Post := .mk fun hn σ R H s Q q =>
  h.run hn σ R H s Q fun v R' H' o Γ' s' e' r ⟨x, hx, px⟩ => by
    obtain ⟨R2, s2, e2, r2⟩ := s'.freezeR r hx
    exact q v R2 H' x Γ' s2 (e'.trans e2) r2 px
theorem ev_frz {ds : List D} (h : EO X n c Γ e (.lst ds)) : EV X n c Γ e (.lst ds) := we_frz (wo_of h ⟨_, rfl, rfl, rfl⟩)

/-- f(e, ..): what is lent comes back renewed -/
theorem call_core {Post : Res → SL → Prop} (hc : CalF X n.k nm S) (j : Nat) (hj : n.GN[j]? = some nm) (hn : NOk X n c)
    (h : WA X n c Γ (e :: es) fun ks Γ1 => ∃ ps, pars Γ1 ks = some ps ∧ (ownIx ks).Nodup ∧ (∀ i ∈ readIx ks, i ∉ ownIx ks) ∧ S ps fun r os => Post r (updOwn Γ1 (ownIx ks) os))
    (he : starEach (e :: es) X.env = (false, eval e X.env) :: starEach es X.env) (hpl : (backTo pos (starEach es X.env)).any (·.1) = false)
    {σ : St} {R H : Hp} (s : SOk X.K c Γ σ R H) (Q : VK) (q : ∀ v R' H' r Γ', SOk X.K c Γ' σ R' H' → Ex R R' → VOk X.K c Γ' σ R' H' r v → Post r Γ' → Q v H') : tW X (.Call (.Name nm p) (e :: es) [] pos) σ H Q := by
  obtain ⟨f, fd, qs, k0, F, hk, hm, kp, hb⟩ := hc.ex
  obtain ⟨g1, g2, g3⟩ := hn.gl j nm hj
  refine (pe_callA F (hc.rm.mono hk) g1 hm kp hb .nil pass0 pWA g2 he hpl).w ?_
  refine h.run hn σ R H s _ fun vs R1 H1 ks Γ1 s1 e1 r1 ⟨ps, h1, h2, h3, h4⟩ => ?_
  rw [List.append_nil]
  obtain ⟨o1, o2⟩ := own_ad s1 r1 h1
  have inO : ∀ a, a ∈ ownAd ps vs → c.H0 a = none ∨ c.M a := fun a ha => by
    rw [o1] at ha
    obtain ⟨i, hi, q⟩ := List.mem_map.mp ha
    obtain ⟨b, o, q1, q2, q3, q4, q5⟩ := o2 i hi
    rw [q1] at q
    have q' : b = a := q
    subst q'; exact q5
  refine ⟨R1, ps, _, s1.rh, pars_ok s1 inO r1 h1 fun i hi a o z1 z2 z3 => ?_, by rw [o1]; exact own_nd s1 h2 o2, h4, fun v R' H' r os A ro ow po => ?_⟩
  · rw [o1] at z3
    obtain ⟨j, hj, q⟩ := List.mem_map.mp z3
    obtain ⟨b, o', q1, q2, _⟩ := o2 j hj
    rw [q1] at q
    have q' : b = a := q
    subst q'
    have := s1.dj i j b o o' z1 q2 z2 q1
    subst this
    exact h3 i hi hj
  · have s2 := s1.after r1 h1 h2 A ow
    refine q v R' H' r _ s2 (e1.trans A.r) ?_ po
    cases r with
    | d x => exact ro
    | own ob =>
      obtain ⟨a, w1, w2, w3, w4⟩ := ro
      refine ⟨a, w1, w2, w3, ?_, fun i o z1 z2 => ?_⟩
      · cases z : c.H0 a with
        | none => rfl
        | some u => exact absurd w4 (s1.pr a (by rw [z]; simp))
      · have : ∃ o, Γ1[i]? = some (.own o) := by
          by_cases hi : i ∈ ownIx ks
          · obtain ⟨_, o', _, q2, _⟩ := o2 i hi; exact ⟨o', q2⟩
          · rw [updOwn_out hi] at z1; exact ⟨o, z1⟩
        obtain ⟨o', z3⟩ := this
        obtain ⟨w, u1, b, u2, u3, _⟩ := s1.sl i _ z3
        rw [z2] at u1; cases u1; cases u2
        exact u3.there w4
    | bx _ a _ ob =>
      obtain ⟨w1, w2, w3, w4⟩ := ro
      refine ⟨w1, w2, w3, ?_, fun i o z1 z2 => ?_⟩
      · cases z : c.H0 a with
        | none => rfl
        | some u => exact absurd w4 (s1.pr a (by rw [z]; simp))
      · have : ∃ o, Γ1[i]? = some (.own o) := by
          by_cases hi : i ∈ ownIx ks
          · obtain ⟨_, o', _, q2, _⟩ := o2 i hi; exact ⟨o', q2⟩
          · rw [updOwn_out hi] at z1; exact ⟨o, z1⟩
        obtain ⟨o', z3⟩ := this
        obtain ⟨w, u1, b, u2, u3, _⟩ := s1.sl i _ z3
        rw [z2] at u1; cases u1; cases u2
        exact u3.there w4
theorem we_call {Post : D → SL → Prop} (hc : CalF X n.k nm S) (j : Nat) (h : WA X n c Γ (e :: es) fun ks Γ1 => ∃ ps, pars Γ1 ks = some ps ∧ (ownIx ks).Nodup ∧ (∀ i ∈ readIx ks, i ∉ ownIx ks) ∧ S ps fun r os => ∃ x, r.data = some x ∧ Post x (updOwn Γ1 (ownIx ks) os))
    (hj : n.GN[j]? = some nm := by rfl) (he : starEach (e :: es) X.env = (false, eval e X.env) :: starEach es X.env := by exact se_c rfl) (hpl : (backTo pos (starEach es X.env)).any (·.1) = false := by exact se_any rfl) : WE X n c Γ (.Call (.Name nm p) (e :: es) [] pos) Post := .mk fun hn σ R H s Q q =>
  call_core (Post := fun r Γ' => ∃ x, r.data = some x ∧ Post x Γ') hc j hj hn h he hpl s Q fun v R' H' r Γ' s' e' ro ⟨x, hx, px⟩ => by
    cases r with
    | d y => cases hx; exact q v R' H' x Γ' s' e' ro px
    | own o =>
      obtain ⟨R2, s2, e2, r2⟩ := s'.freezeR ro hx
      exact q v R2 H' x Γ' s2 (e'.trans e2) r2 px
    | bx _ _ _ _ => cases hx
theorem wo_call {Post : OB → SL → Prop} (hc : CalF X n.k nm S) (j : Nat) (h : WA X n c Γ (e :: es) fun ks Γ1 => ∃ ps, pars Γ1 ks = some ps ∧ (ownIx ks).Nodup ∧ (∀ i ∈ readIx ks, i ∉ ownIx ks) ∧ S ps fun r os => ∃ o, r = .own o ∧ Post o (updOwn Γ1 (ownIx ks) os))
    (hj : n.GN[j]? = some nm := by rfl) (he : starEach (e :: es) X.env = (false, eval e X.env) :: starEach es X.env := by exact se_c rfl) (hpl : (backTo pos (starEach es X.env)).any (·.1) = false := by exact se_any rfl) : WO X n c Γ (.Call (.Name nm p) (e :: es) [] pos) Post := .mk fun hn σ R H s Q q =>
  call_core (Post := fun r Γ' => ∃ o, r = .own o ∧ Post o Γ') hc j hj hn h he hpl s Q fun v R' H' r Γ' s' e' ro ⟨x, hx, px⟩ => by
    subst hx; exact q v R' H' x Γ' s' e' ro px
/-- .. by arguments that are told -/
theorem we_callE {ks : List AK} {ps : List Par} {Post : D → SL → Prop} (hc : CalF X n.k nm S) (j : Nat) (ha : EA X n c Γ (e :: es) ks) (h : S ps fun r os => ∃ x, r.data = some x ∧ Post x (updOwn Γ (ownIx ks) os)) (hp : pars Γ ks = some ps := by rfl)
    (hnd : (ownIx ks).Nodup := by decide) (hrd : ∀ i ∈ readIx ks, i ∉ ownIx ks := by decide)
    (hj : n.GN[j]? = some nm := by rfl) (he : starEach (e :: es) X.env = (false, eval e X.env) :: starEach es X.env := by exact se_c rfl) (hpl : (backTo pos (starEach es X.env)).any (·.1) = false := by exact se_any rfl) : WE X n c Γ (.Call (.Name nm p) (e :: es) [] pos) Post :=
  we_call hc j (wa_of ha ⟨ps, hp, hnd, hrd, h⟩) hj he hpl
theorem wo_callE {ks : List AK} {ps : List Par} {Post : OB → SL → Prop} (hc : CalF X n.k nm S) (j : Nat) (ha : EA X n c Γ (e :: es) ks) (h : S ps fun r os => ∃ o, r = .own o ∧ Post o (updOwn Γ (ownIx ks) os)) (hp : pars Γ ks = some ps := by rfl)
    (hnd : (ownIx ks).Nodup := by decide) (hrd : ∀ i ∈ readIx ks, i ∉ ownIx ks := by decide)
    (hj : n.GN[j]? = some nm := by rfl) (he : starEach (e :: es) X.env = (false, eval e X.env) :: starEach es X.env := by exact se_c rfl) (hpl : (backTo pos (starEach es X.env)).any (·.1) = false := by exact se_any rfl) : WO X n c Γ (.Call (.Name nm p) (e :: es) [] pos) Post :=
  wo_call hc j (wa_of ha ⟨ps, hp, hnd, hrd, h⟩) hj he hpl
end
end DL

end
section
set_option Elab.async false
set_option linter.all false
set_option autoImplicit true
set_option maxRecDepth 100000
set_option maxHeartbeats 400000
namespace DL
open PySem L2
open PyProof.Rows hiding St

theorem Wks.get1 {K : PySem.W.Frag} {R H : Hp} {x : D} {vs : List V} (h : Wks K R H [x] vs) : ∃ v, vs = [v] ∧ Wk K R H x v := by
  obtain ⟨v, ws, rfl, h1, h2⟩ := h
  cases (show ws = [] from h2)
  exact ⟨v, rfl, h1⟩
theorem Wks.get2 {K : PySem.W.Frag} {R H : Hp} {x y : D} {vs : List V} (h : Wks K R H [x, y] vs) : ∃ v w, vs = [v, w] ∧ Wk K R H x v ∧ Wk K R H y w := by
  obtain ⟨v, ws, rfl, h1, w, us, rfl, h2, h3⟩ := h
  cases (show us = [] from h3)
  exact ⟨v, w, rfl, h1, h2⟩

section
variable {X : Cx} {n : Nm} {c : Cc} {Γ : SL} {e a b : Expr} {x y z : D} {pos p : Pos} {nm : Str} {es : List Expr} {k l : AK} {ks : List AK} {i j : Int} {xs : List D}
/-! ### built-ins by name -/
structure Blt (X : Cx) (nm : Str) (f : Value) : Prop where
  mg : X.mg nm = none
  bt : bootBuiltins nm = some f
def DCall (X : Cx) (n : Nm) (c : Cc) (f : Value) (P : List D → (D → Prop) → Prop) : Prop := NOk X n c → ∃ r, CallR X f r ∧
  ∀ Γ σ R H xs vs Post, SOk X.K c Γ σ R H → Wks X.K R H xs vs → P xs Post → ∀ Q : VK,
    (∀ u R' H' z, SOk X.K c Γ σ R' H' → Ex R R' → Rp X.K R' z u → Post z → Q u H') → r vs H Q
/-- .. a fresh list or tuple -/
def DCallO (X : Cx) (n : Nm) (c : Cc) (f : Value) (P : List D → (OB → Prop) → Prop) : Prop := NOk X n c → ∃ r, CallR X f r ∧
  ∀ Γ σ R H xs vs Post, SOk X.K c Γ σ R H → Wks X.K R H xs vs → P xs Post → ∀ Q : VK,
    (∀ u R' H' z, SOk X.K c Γ σ R' H' → Ex R R' → VOk X.K c Γ σ R' H' (.own z) u → Post z → Q u H') → r vs H Q
theorem we_blt {id : String} {P : List D → (D → Prop) → Prop} {Post : D → SL → Prop} (hb : Blt X nm (.builtin id)) (ho : DCall X n c (.builtin id) P) (j : Nat) (h : WA X n c Γ (e :: es) fun ks Γ1 => ∃ xs, gets Γ1 ks = some xs ∧ P xs fun z => Post z Γ1)
    (hj : n.GN[j]? = some nm := by rfl) (he : starEach (e :: es) X.env = (false, eval e X.env) :: starEach es X.env := by exact se_c rfl) (hpl : (backTo pos (starEach es X.env)).any (·.1) = false := by exact se_any rfl) : WE X n c Γ (.Call (.Name nm p) (e :: es) [] pos) Post := .mk fun hn σ R H s Q q => by
  obtain ⟨r, h1, h2⟩ := ho hn
  obtain ⟨g1, g2, g3⟩ := hn.gl j nm hj
  refine (pe_callB h1 g1 hb.mg hb.bt pWA g3 g2 he hpl).w (h.run hn σ R H s _ fun vs R1 H1 ks Γ1 s1 e1 r1 ⟨xs, gx, px⟩ => ?_)
  exact h2 Γ1 σ R1 H1 xs vs _ s1 (r1.wks s1 gx) px Q fun u R' H' z s' e' r' p' => q u R' H' z Γ1 s' (e1.trans e') r' p'
theorem we_bty {id : String} {P : List D → (D → Prop) → Prop} {Post : D → SL → Prop} (hb : Blt X nm (.type id)) (ho : DCall X n c (.type id) P) (j : Nat) (h : WA X n c Γ (e :: es) fun ks Γ1 => ∃ xs, gets Γ1 ks = some xs ∧ P xs fun z => Post z Γ1)
    (hj : n.GN[j]? = some nm := by rfl) (he : starEach (e :: es) X.env = (false, eval e X.env) :: starEach es X.env := by exact se_c rfl) (hpl : (backTo pos (starEach es X.env)).any (·.1) = false := by exact se_any rfl) : WE X n c Γ (.Call (.Name nm p) (e :: es) [] pos) Post := .mk fun hn σ R H s Q q => by
  obtain ⟨r, h1, h2⟩ := ho hn
  obtain ⟨g1, g2, g3⟩ := hn.gl j nm hj
  refine (pe_callTy h1 g1 hb.mg hb.bt pWA g3 g2 he hpl).w (h.run hn σ R H s _ fun vs R1 H1 ks Γ1 s1 e1 r1 ⟨xs, gx, px⟩ => ?_)
  exact h2 Γ1 σ R1 H1 xs vs _ s1 (r1.wks s1 gx) px Q fun u R' H' z s' e' r' p' => q u R' H' z Γ1 s' (e1.trans e') r' p'
theorem wo_bty {id : String} {P : List D → (OB → Prop) → Prop} {Post : OB → SL → Prop} (hb : Blt X nm (.type id)) (ho : DCallO X n c (.type id) P) (j : Nat) (h : WA X n c Γ (e :: es) fun ks Γ1 => ∃ xs, gets Γ1 ks = some xs ∧ P xs fun z => Post z Γ1)
    (hj : n.GN[j]? = some nm := by rfl) (he : starEach (e :: es) X.env = (false, eval e X.env) :: starEach es X.env := by exact se_c rfl) (hpl : (backTo pos (starEach es X.env)).any (·.1) = false := by exact se_any rfl) : WO X n c Γ (.Call (.Name nm p) (e :: es) [] pos) Post := .mk fun hn σ R H s Q q => by
  obtain ⟨r, h1, h2⟩ := ho hn
  obtain ⟨g1, g2, g3⟩ := hn.gl j nm hj
  refine (pe_callTy h1 g1 hb.mg hb.bt pWA g3 g2 he hpl).w (h.run hn σ R H s _ fun vs R1 H1 ks Γ1 s1 e1 r1 ⟨xs, gx, px⟩ => ?_)
  exact h2 Γ1 σ R1 H1 xs vs _ s1 (r1.wks s1 gx) px Q fun u R' H' z s' e' r' p' => q u R' H' z Γ1 s' (e1.trans e') r' p'
theorem ev_blt {id : String} {P : List D → (D → Prop) → Prop} (hb : Blt X nm (.builtin id)) (ho : DCall X n c (.builtin id) P) (j : Nat) (ha : EA X n c Γ (e :: es) ks) (hp : ∀ Post : D → Prop, Post z → P xs Post) (hg : gets Γ ks = some xs := by rfl)
    (hj : n.GN[j]? = some nm := by rfl) (he : starEach (e :: es) X.env = (false, eval e X.env) :: starEach es X.env := by exact se_c rfl) (hpl : (backTo pos (starEach es X.env)).any (·.1) = false := by exact se_any rfl) : EV X n c Γ (.Call (.Name nm p) (e :: es) [] pos) z :=
  we_blt hb ho j (wa_of ha ⟨xs, hg, hp _ ⟨rfl, rfl⟩⟩) hj he hpl
theorem ev_bty {id : String} {P : List D → (D → Prop) → Prop} (hb : Blt X nm (.type id)) (ho : DCall X n c (.type id) P) (j : Nat) (ha : EA X n c Γ (e :: es) ks) (hp : ∀ Post : D → Prop, Post z → P xs Post) (hg : gets Γ ks = some xs := by rfl)
    (hj : n.GN[j]? = some nm := by rfl) (he : starEach (e :: es) X.env = (false, eval e X.env) :: starEach es X.env := by exact se_c rfl) (hpl : (backTo pos (starEach es X.env)).any (·.1) = false := by exact se_any rfl) : EV X n c Γ (.Call (.Name nm p) (e :: es) [] pos) z :=
  we_bty hb ho j (wa_of ha ⟨xs, hg, hp _ ⟨rfl, rfl⟩⟩) hj he hpl
theorem eo_bty {id : String} {o : OB} {P : List D → (OB → Prop) → Prop} (hb : Blt X nm (.type id)) (ho : DCallO X n c (.type id) P) (j : Nat) (ha : EA X n c Γ (e :: es) ks) (hp : ∀ Post : OB → Prop, Post o → P xs Post) (hg : gets Γ ks = some xs := by rfl)
    (hj : n.GN[j]? = some nm := by rfl) (he : starEach (e :: es) X.env = (false, eval e X.env) :: starEach es X.env := by exact se_c rfl) (hpl : (backTo pos (starEach es X.env)).any (·.1) = false := by exact se_any rfl) : EO X n c Γ (.Call (.Name nm p) (e :: es) [] pos) o :=
  wo_bty hb ho j (wa_of ha ⟨xs, hg, hp _ ⟨rfl, rfl⟩⟩) hj he hpl
/-- len -/
def D.len : D → Option Nat
  | .lst xs => some xs.length
  | .tup xs => some xs.length
  | .str x => some x.length
  | _ => none
def PLen : List D → (D → Prop) → Prop := fun xs Post => ∃ x m, xs = [x] ∧ x.len = some m ∧ (∀ z, x = .str z → z.length ≤ sizeLine) ∧ Post (.int (m : Int))
theorem dc_len : DCall X n c (.builtin "len") PLen := fun _ => ⟨_, call_len, fun Γ σ R H xs vs Post s hx ⟨x, m, e1, e2, hz, p⟩ Q q => by
  subst e1
  obtain ⟨v, rfl, h1⟩ := hx.get1
  refine ⟨v, m, rfl, ?_, q (.int (m : Int)) R H (.int (m : Int)) s (Ex.refl _) rfl p⟩
  cases x with
  | lst xs => obtain ⟨a, vs, rfl, h2, h3⟩ := h1.lst s.rh; cases e2; exact .inl ⟨vs, .inl (.inl h2), h3.length⟩
  | tup xs => obtain ⟨a, vs, rfl, h2, h3⟩ := h1.tup s.rh; cases e2; exact .inr ⟨vs, h2, h3.length⟩
  | str y => cases h1.str; cases e2; exact ⟨hz y rfl, rfl⟩
  | _ => cases e2⟩
theorem ev_len {m : Nat} (hb : Blt X "len" (.builtin "len")) (j : Nat) (ha : EK X n c Γ e k) (hm : x.len = some m := by rfl) (hz : ∀ z, x = .str z → z.length ≤ sizeLine := by intro _ h; cases h) (hg : k.get Γ = some x := by rfl) (hj : n.GN[j]? = some ("len" : Str) := by rfl)
    (he : starEach [e] X.env = (false, eval e X.env) :: starEach [] X.env := by exact se_c rfl) (hpl : (backTo pos (starEach [] X.env)).any (·.1) = false := by exact se_any rfl) : EV X n c Γ (.Call (.Name "len" p) [e] [] pos) (.int (m : Int)) :=
  ev_blt hb dc_len j (ea_cons ha ea_nil he) (xs := [x]) (fun _ p => ⟨x, m, rfl, hm, hz, p⟩) (by simp [gets, hg]) hj he hpl
/-- abs, max, min, int -/
theorem dc_abs : DCall X n c (.builtin "abs") (fun xs Post => ∃ i, xs = [.int i] ∧ Post (.int (if i < 0 then -i else i))) := fun _ => ⟨_, call_abs, fun Γ σ R H xs vs Post s hx ⟨i, e1, p⟩ Q q => by
  subst e1
  obtain ⟨v, rfl, h1⟩ := hx.get1
  cases h1.int
  exact ⟨i, rfl, q (.int (if i < 0 then -i else i)) R H (.int (if i < 0 then -i else i)) s (Ex.refl _) rfl p⟩⟩
theorem dc_max (hh : n.hot = false := by rfl) : DCall X n c (.builtin "max") (fun xs Post => ∃ i j, xs = [.int i, .int j] ∧ Post (.int (if j > i then j else i))) := fun hn => ⟨_, call_max2 (hn.calm hh), fun Γ σ R H xs vs Post s hx ⟨i, j, e1, p⟩ Q q => by
  subst e1
  obtain ⟨v, w, rfl, h1, h2⟩ := hx.get2
  cases h1.int; cases h2.int
  exact ⟨i, j, rfl, q (.int (if j > i then j else i)) R H (.int (if j > i then j else i)) s (Ex.refl _) rfl p⟩⟩
theorem dc_min (hh : n.hot = false := by rfl) : DCall X n c (.builtin "min") (fun xs Post => ∃ i j, xs = [.int i, .int j] ∧ Post (.int (if j < i then j else i))) := fun hn => ⟨_, call_min2 (hn.calm hh), fun Γ σ R H xs vs Post s hx ⟨i, j, e1, p⟩ Q q => by
  subst e1
  obtain ⟨v, w, rfl, h1, h2⟩ := hx.get2
  cases h1.int; cases h2.int
  exact ⟨i, j, rfl, q (.int (if j < i then j else i)) R H (.int (if j < i then j else i)) s (Ex.refl _) rfl p⟩⟩
theorem dc_int : DCall X n c (.type "int") (fun xs Post => (∃ i, xs = [.int i] ∧ Post (.int i)) ∨ ∃ b, xs = [.bl b] ∧ Post (.int (if b then 1 else 0))) := fun hn => ⟨_, call_int1, fun Γ σ R H xs vs Post s hx hp Q q => by
  rcases hp with ⟨i, e1, p⟩ | ⟨b, e1, p⟩
  · subst e1
    obtain ⟨v, rfl, h1⟩ := hx.get1
    cases h1.int
    exact .inl ⟨i, rfl, q (.int i) R H (.int i) s (Ex.refl _) rfl p⟩
  · subst e1
    obtain ⟨v, rfl, h1⟩ := hx.get1
    cases h1.bl
    exact .inr ⟨b, rfl, q (.int (if b then 1 else 0)) R H (.int (if b then 1 else 0)) s (Ex.refl _) rfl p⟩⟩
theorem ev_abs (hb : Blt X "abs" (.builtin "abs")) (j : Nat) (ha : EV X n c Γ e (.int i)) (hj : n.GN[j]? = some ("abs" : Str) := by rfl) (he : starEach [e] X.env = (false, eval e X.env) :: starEach [] X.env := by exact se_c rfl) (hpl : (backTo pos (starEach [] X.env)).any (·.1) = false := by exact se_any rfl) : EV X n c Γ (.Call (.Name "abs" p) [e] [] pos) (.int (if i < 0 then -i else i)) :=
  ev_blt hb dc_abs j (ea_cons (ek_d ha) ea_nil he) (fun _ p => ⟨i, rfl, p⟩) rfl hj he hpl
theorem ev_max {jj : Int} (hb : Blt X "max" (.builtin "max")) (j : Nat) (ha : EV X n c Γ a (.int i)) (hb' : EV X n c Γ b (.int jj)) (hj : n.GN[j]? = some ("max" : Str) := by rfl) (hh : n.hot = false := by rfl) (he : starEach [a, b] X.env = (false, eval a X.env) :: starEach [b] X.env := by exact se_c rfl) (he2 : starEach [b] X.env = (false, eval b X.env) :: starEach [] X.env := by exact se_c rfl) (hpl : (backTo pos (starEach [b] X.env)).any (·.1) = false := by exact se_any rfl) :
    EV X n c Γ (.Call (.Name "max" p) [a, b] [] pos) (.int (if jj > i then jj else i)) := ev_blt hb (dc_max hh) j (ea_cons (ek_d ha) (ea_cons (ek_d hb') ea_nil he2) he) (fun _ p => ⟨i, jj, rfl, p⟩) rfl hj he hpl
theorem ev_min {jj : Int} (hb : Blt X "min" (.builtin "min")) (j : Nat) (ha : EV X n c Γ a (.int i)) (hb' : EV X n c Γ b (.int jj)) (hj : n.GN[j]? = some ("min" : Str) := by rfl) (hh : n.hot = false := by rfl) (he : starEach [a, b] X.env = (false, eval a X.env) :: starEach [b] X.env := by exact se_c rfl) (he2 : starEach [b] X.env = (false, eval b X.env) :: starEach [] X.env := by exact se_c rfl) (hpl : (backTo pos (starEach [b] X.env)).any (·.1) = false := by exact se_any rfl) :
    EV X n c Γ (.Call (.Name "min" p) [a, b] [] pos) (.int (if jj < i then jj else i)) := ev_blt hb (dc_min hh) j (ea_cons (ek_d ha) (ea_cons (ek_d hb') ea_nil he2) he) (fun _ p => ⟨i, jj, rfl, p⟩) rfl hj he hpl
theorem ev_toint (hb : Blt X "int" (.type "int")) (j : Nat) (ha : EV X n c Γ e (.int i)) (hj : n.GN[j]? = some ("int" : Str) := by rfl) (he : starEach [e] X.env = (false, eval e X.env) :: starEach [] X.env := by exact se_c rfl) (hpl : (backTo pos (starEach [] X.env)).any (·.1) = false := by exact se_any rfl) : EV X n c Γ (.Call (.Name "int" p) [e] [] pos) (.int i) :=
  ev_bty hb dc_int j (ea_cons (ek_d ha) ea_nil he) (fun _ p => .inl ⟨i, rfl, p⟩) rfl hj he hpl
theorem ev_tointb {bb : Bool} (hb : Blt X "int" (.type "int")) (j : Nat) (ha : EV X n c Γ e (.bl bb)) (hj : n.GN[j]? = some ("int" : Str) := by rfl) (he : starEach [e] X.env = (false, eval e X.env) :: starEach [] X.env := by exact se_c rfl) (hpl : (backTo pos (starEach [] X.env)).any (·.1) = false := by exact se_any rfl) : EV X n c Γ (.Call (.Name "int" p) [e] [] pos) (.int (if bb then 1 else 0)) :=
  ev_bty hb dc_int j (ea_cons (ek_d ha) ea_nil he) (fun _ p => .inr ⟨bb, rfl, p⟩) rfl hj he hpl
/-- list(xs), tuple(xs) -/
def D.seq : D → Option (List D)
  | .lst xs => some xs
  | .tup xs => some xs
  | _ => none
theorem dc_list : DCallO X n c (.type "list") (fun xs Post => ∃ x ds, xs = [x] ∧ x.seq = some ds ∧ Post (.lst ds)) := fun hn => ⟨_, call_list_of, fun Γ σ R H xs vs Post s hx ⟨x, ds, e1, e2, p⟩ Q q => by
  subst e1
  obtain ⟨v, rfl, h1⟩ := hx.get1
  have fin : ∀ (us : List V), RpL X.K R ds us → ∀ l, H l = none → Q (.ref l) (upd H l (.lst us)) := fun us hu l hl => by
    have g := s.newOwn (.lst us) hl
    refine q _ R _ (.lst ds) (s.grow g) (Ex.refl _) ⟨l, rfl, ⟨us, upd_same, hu⟩, s.rh.back hl, ?_, fun i o z1 z2 => ?_⟩ p
    · cases z : c.H0 l with
      | none => rfl
      | some u => exact absurd hl (s.pr l (by rw [z]; simp))
    · obtain ⟨w, u1, b, u2, u3, _⟩ := s.sl i _ z1
      rw [z2] at u1; cases u1; cases u2
      exact u3.there hl
  cases x with
  | lst xs => obtain ⟨a, us, rfl, h2, h3⟩ := h1.lst s.rh; cases e2; exact ⟨a, us, rfl, .inl (.inl (.inl h2)), fin us h3⟩
  | tup xs => obtain ⟨a, us, rfl, h2, h3⟩ := h1.tup s.rh; cases e2; exact ⟨a, us, rfl, .inr h2, fin us h3⟩
  | _ => cases e2⟩
theorem eo_list {ds : List D} (hb : Blt X "list" (.type "list")) (j : Nat) (ha : EK X n c Γ e k) (hs : x.seq = some ds := by rfl) (hg : k.get Γ = some x := by rfl) (hj : n.GN[j]? = some ("list" : Str) := by rfl) (he : starEach [e] X.env = (false, eval e X.env) :: starEach [] X.env := by exact se_c rfl) (hpl : (backTo pos (starEach [] X.env)).any (·.1) = false := by exact se_any rfl) :
    EO X n c Γ (.Call (.Name "list" p) [e] [] pos) (.lst ds) := eo_bty hb dc_list j (ea_cons ha ea_nil he) (xs := [x]) (fun _ p => ⟨x, ds, rfl, hs, p⟩) (by simp [gets, hg]) hj he hpl
/-! ### subscripts -/
def DIx (X : Cx) (n : Nm) (c : Cc) (P : D → D → (D → Prop) → Prop) : Prop := NOk X n c → ∃ r, IxR X r ∧
  ∀ Γ σ R H x y v w Post, SOk X.K c Γ σ R H → Wk X.K R H x v → Wk X.K R H y w → P x y Post → ∀ Q : VK,
    (∀ u R' H' z, SOk X.K c Γ σ R' H' → Ex R R' → Rp X.K R' z u → Post z → Q u H') → r v w H Q
theorem we_ix {P : D → D → (D → Prop) → Prop} {Post : D → SL → Prop} (ho : DIx X n c P) (h : WK X n c Γ a fun k Γ1 => WK X n c Γ1 b fun l Γ2 => ∃ x y, k.get Γ2 = some x ∧ l.get Γ2 = some y ∧ P x y fun z => Post z Γ2) (hs : PlainIx b := by intro _ _; rfl) : WE X n c Γ (.Subscript a b pos) Post := .mk fun hn σ R H s Q q => by
  obtain ⟨r, h1, h2⟩ := ho hn
  refine (pe_ix h1 pW pW hs).w (h.run hn σ R H s _ fun v R1 H1 k Γ1 s1 e1 r1 p1 => p1.run hn σ R1 H1 s1 _ fun w R2 H2 l Γ2 s2 e2 r2 ⟨x, y, g1, g2, p2⟩ => ?_)
  exact h2 Γ2 σ R2 H2 x y v w _ s2 ((r1.mono e2).wk s2 g1) (r2.wk s2 g2) p2 Q fun u R' H' z s' e' r' p' => q u R' H' z Γ2 s' (e1.trans (e2.trans e')) r' p'
theorem atI_rp {K : PySem.W.Frag} {R : Hp} {ds : List D} {vs : List V} {i : Int} {d : D} (h : RpL K R ds vs) (e : atI ds i = some d) : ∃ v, atI vs i = some v ∧ Rp K R d v := by
  unfold atI at e ⊢
  rw [← h.length]
  obtain ⟨j, e1, e2⟩ := Option.bind_eq_some_iff.mp e
  obtain ⟨v, h1, h2⟩ := h.get e2
  exact ⟨v, by rw [e1]; exact h1, h2⟩
def D.at (x : D) (i : Int) : Option D := match x with
  | .lst ds => atI ds i
  | .tup ds => atI ds i
  | .str z => if z.length ≤ sizeLine then (atI z.cps.toList i).map fun c => .str ⟨#[c]⟩ else none
  | _ => none
def PIx : D → D → (D → Prop) → Prop := fun x y Post => ∃ i z, y = .int i ∧ x.at i = some z ∧ Post z
theorem di_seq : DIx X n c PIx := fun _ => ⟨_, ix_seq, fun Γ σ R H x y v w Post s hx hy ⟨i, z, e1, e2, p⟩ Q q => by
  subst e1
  cases hy.int
  cases x with
  | lst ds =>
    obtain ⟨a, vs, rfl, h2, h3⟩ := hx.lst s.rh
    obtain ⟨u, h4, h5⟩ := atI_rp h3 e2
    exact .inl ⟨a, vs, i, u, rfl, rfl, .inl (.inl h2), h4, q u R H z s (Ex.refl _) h5 p⟩
  | tup ds =>
    obtain ⟨a, vs, rfl, h2, h3⟩ := hx.tup s.rh
    obtain ⟨u, h4, h5⟩ := atI_rp h3 e2
    exact .inr (.inl ⟨a, vs, i, u, rfl, rfl, h2, h4, q u R H z s (Ex.refl _) h5 p⟩)
  | str y =>
    cases hx.str
    have e3 : (if y.length ≤ sizeLine then (atI y.cps.toList i).map fun c => D.str ⟨#[c]⟩ else none) = some z := e2
    split at e3
    · rename_i hz
      obtain ⟨c, e4, e5⟩ := Option.map_eq_some_iff.mp e3
      subst e5
      exact .inr (.inr ⟨y, i, c, rfl, rfl, hz, e4, q (.str ⟨#[c]⟩) R H (.str ⟨#[c]⟩) s (Ex.refl _) rfl p⟩)
    · cases e3
  | _ => cases e2⟩
theorem ev_ix (ha : EK X n c Γ a k) (hb : EV X n c Γ b (.int i)) (h : x.at i = some z) (hg : k.get Γ = some x := by rfl) (hs : PlainIx b := by intro _ _; rfl) : EV X n c Γ (.Subscript a b pos) z :=
  we_ix di_seq (wk_ek ha (wk_ek (ek_d hb) ⟨x, _, hg, rfl, i, z, rfl, h, rfl, rfl⟩)) hs
/-- t[0], t[1], .. of a written tuple -/
theorem ev_ixt (ha : EV X n c Γ a x) (hb : EV X n c Γ b (.int i)) (h : x.at i = some z := by rfl) (hs : PlainIx b := by intro _ _; rfl) : EV X n c Γ (.Subscript a b pos) z := ev_ix (ek_d ha) hb h rfl hs

/-! ### displays -/
def dats : List AK → Option (List D)
  | [] => some []
  | .d x :: ks => (dats ks).map (x :: ·)
  | _ => none
theorem dats_ok {K : PySem.W.Frag} {R : Hp} {σ : St} : ∀ {ks : List AK} {vs : List V} {xs : List D}, AksOk K R σ ks vs → dats ks = some xs → RpL K R xs vs
  | [], _, _, h, e => by cases e; exact h
  | k :: ks, _, _, ⟨v, ws, h1, h2, h3⟩, e => by
    cases k with
    | d x => obtain ⟨ys, e1, e2⟩ := Option.map_eq_some_iff.mp e; subst e2; exact ⟨v, ws, h1, h2, dats_ok h3 e1⟩
    | _ => cases e
theorem we_tup {x1} {Post : D → SL → Prop} (h : WA X n c Γ es fun ks Γ' => ∃ xs, dats ks = some xs ∧ xs.length ≤ 1000 ∧ Post (.tup xs) Γ') : WE X n c Γ (.Tuple es x1 pos) Post := .mk fun hn σ R H s Q q =>
  (pe_tup pWA).w (h.run hn σ R H s _ fun vs R1 H1 ks Γ1 s1 e1 r1 ⟨xs, hx, hz, px⟩ => by
    have hr := dats_ok r1 hx
    refine ⟨by have := hr.length; rw [sizeLine_eq]; omega, fun l hl => ?_⟩
    have g := s1.new (.tup vs) hl
    exact q _ _ _ (.tup xs) Γ1 (s1.grow g) (e1.trans g.r) ⟨l, vs, rfl, .inl (.inl upd_same), hr.mono g.r⟩ px)
theorem VOk.fresh {K : PySem.W.Frag} {σ : St} {R H : Hp} {l : Addr} {ob : OB} (s : SOk K c Γ σ R H) {o : HO} (hl : H l = none) (h : OBOk K R (upd H l o) l ob) : VOk K c Γ σ R (upd H l o) (.own ob) (.ref l) := by
  refine ⟨l, rfl, h, s.rh.back hl, ?_, fun i o z1 z2 => ?_⟩
  · cases z : c.H0 l with
    | none => rfl
    | some u => exact absurd hl (s.pr l (by rw [z]; simp))
  · obtain ⟨w, u1, b, u2, u3, _⟩ := s.sl i _ z1
    rw [z2] at u1; cases u1; cases u2
    exact u3.there hl
theorem wo_lst {Post : OB → SL → Prop} (h : WA X n c Γ es fun ks Γ' => ∃ xs, dats ks = some xs ∧ xs.length ≤ 1000 ∧ Post (.lst xs) Γ') : WO X n c Γ (.List es pos) Post := .mk fun hn σ R H s Q q =>
  (pe_lst pWA).w (h.run hn σ R H s _ fun vs R1 H1 ks Γ1 s1 e1 r1 ⟨xs, hx, hz, px⟩ => by
    have hr := dats_ok r1 hx
    refine ⟨by have := hr.length; rw [sizeLine_eq]; omega, fun l hl => ?_⟩
    have g := s1.newOwn (.lst vs) hl
    exact q _ _ _ (.lst xs) Γ1 (s1.grow g) (e1.trans g.r) (.fresh s1 hl ⟨vs, upd_same, hr⟩) px)
theorem ev_tup {x1} (h : EA X n c Γ es ks) (hx : dats ks = some xs := by rfl) (hz : Nat.ble xs.length 1000 = true := by rfl) : EV X n c Γ (.Tuple es x1 pos) (.tup xs) := we_tup (wa_of h ⟨xs, hx, Nat.le_of_ble_eq_true hz, rfl, rfl⟩)
theorem eo_lst (h : EA X n c Γ es ks) (hx : dats ks = some xs := by rfl) (hz : Nat.ble xs.length 1000 = true := by rfl) : EO X n c Γ (.List es pos) (.lst xs) := wo_lst (wa_of h ⟨xs, hx, Nat.le_of_ble_eq_true hz, rfl, rfl⟩)

/-! ### list + list, slices -/
theorem wo_cat {Post : OB → SL → Prop} (h : WK X n c Γ a fun k Γ1 => WK X n c Γ1 b fun l Γ2 => ∃ xs ys, k.get Γ2 = some (.lst xs) ∧ l.get Γ2 = some (.lst ys) ∧ xs.length + ys.length ≤ 1000000 ∧ Post (.lst (xs ++ ys)) Γ2) : WO X n c Γ (.BinOp a .Add b pos) Post := .mk fun hn σ R H s Q q =>
  (pe_op op_cat pW pW).w (h.run hn σ R H s _ fun v R1 H1 k Γ1 s1 e1 r1 p1 => p1.run hn σ R1 H1 s1 _ fun w R2 H2 l Γ2 s2 e2 r2 ⟨xs, ys, g1, g2, hz, p2⟩ => by
    obtain ⟨a1, vs, rfl, h2, h3⟩ := ((r1.mono e2).wk s2 g1).lst s2.rh
    obtain ⟨a2, ws, rfl, h4, h5⟩ := (r2.wk s2 g2).lst s2.rh
    refine ⟨a1, a2, vs, ws, rfl, rfl, h2, h4, by rw [← h3.length, ← h5.length, sizeLine_eq]; omega, fun m hm => ?_⟩
    have g := s2.newOwn (.lst (vs ++ ws)) hm
    exact q _ _ _ (.lst (xs ++ ys)) Γ2 (s2.grow g) ((e1.trans e2).trans g.r) (.fresh s2 hm ⟨_, upd_same, h3.append h5⟩) p2)
def cutD (xs : List D) (lo hi : Option Int) : List D := (xs.drop (HT.sIx xs.length 0 lo)).take (HT.sIx xs.length xs.length hi - HT.sIx xs.length 0 lo)
theorem RpL.cut {K : PySem.W.Frag} {R : Hp} {ds : List D} {vs : List V} (h : RpL K R ds vs) (lo hi : Option Int) : RpL K R (cutD ds lo hi) (cutV vs lo hi) := by
  unfold cutD cutV
  rw [h.length]
  exact (h.drop _).take _
/-- a part of a slice -/
def EP1 (X : Cx) (n : Nm) (c : Cc) (Γ : SL) (e : Option Expr) (o : Option Int) : Prop := match e, o with
  | none, none => True
  | some e, some i => EV X n c Γ e (.int i)
  | _, _ => False
def tP1 (X : Cx) : Option Expr → TO
  | none => tNoPart
  | some e => tPart (tW X e)
theorem pP1 : ∀ {e : Option Expr}, PO X e (tP1 X e)
  | none => po_none
  | some _ => po_some pW
theorem EP1.run {e : Option Expr} {o : Option Int} (h : EP1 X n c Γ e o) (hn : NOk X n c) {σ R H} (s : SOk X.K c Γ σ R H) (Q : Option Int → Hp → Prop) (q : ∀ R' H', SOk X.K c Γ σ R' H' → Ex R R' → Q o H') : tP1 X e σ H Q := by
  cases e with
  | none => cases o with
    | none => exact q R H s (Ex.refl _)
    | some _ => exact h.elim
  | some e => cases o with
    | none => exact h.elim
    | some i => exact (WE.mono (P' := fun y Γ' => y = .int i ∧ Γ' = Γ) h (fun _ _ h => h)).run hn σ R H s _ fun v R' H' x Γ' s' e' r ⟨h1, h2⟩ => by subst h1 h2; exact ⟨i, r, q R' H' s' e'⟩
theorem eo_slice {lo hi : Option Expr} {l1 h1 : Option Int} {p2 : Pos} {xs : List D} (ha : EK X n c Γ a k) (hl : EP1 X n c Γ lo l1) (hh : EP1 X n c Γ hi h1) (ga : k.get Γ = some (.lst xs) := by rfl) : EO X n c Γ (.Subscript a (.Slice lo hi none p2) pos) (.lst (cutD xs l1 h1)) := .mk fun hn σ R H s Q q =>
  (pe_slice sl_list pW pP1 pP1).w (ha.run hn σ R H s _ fun v R1 H1 k' Γ1 s1 e1 r1 ⟨g1, g2⟩ => by
    subst g1 g2
    exact hl.run hn s1 _ fun R2 H2 s2 e2 => hh.run hn s2 _ fun R3 H3 s3 e3 => by
      obtain ⟨a1, vs, rfl, h2, h3⟩ := (((r1.mono e2).mono e3).wk s3 ga).lst s3.rh
      refine ⟨a1, vs, rfl, .inl (.inl h2), fun m hm => ?_⟩
      have g := s3.newOwn (.lst (cutV vs l1 h1)) hm
      exact q _ _ _ (.lst (cutD xs l1 h1)) _ (s3.grow g) (((e1.trans e2).trans e3).trans g.r) (.fresh s3 hm ⟨_, upd_same, h3.cut _ _⟩) ⟨rfl, rfl⟩)
end
end DL

end
section
set_option Elab.async false
set_option linter.all false
set_option autoImplicit true
set_option maxRecDepth 100000
set_option maxHeartbeats 400000
namespace DL
open PySem L2
open PyProof.Rows hiding St

structure DE where
  nx : SL → Prop
  rt : Res → SL → Prop
  bk : SL → Prop := fun _ => False
  ct : SL → Prop := fun _ => False
structure EndsOk (K : PySem.W.Frag) (c : Cc) (R : Hp) (D : DE) (E : Ends) : Prop where
  nx : ∀ σ R' H Γ, SOk K c Γ σ R' H → Ex R R' → D.nx Γ → E.nx σ H
  rt : ∀ v σ R' H Γ r, SOk K c Γ σ R' H → Ex R R' → VOk K c Γ σ R' H r v → D.rt r Γ → E.rt v H
  bk : ∀ σ R' H Γ, SOk K c Γ σ R' H → Ex R R' → D.bk Γ → E.bk σ H
  ct : ∀ σ R' H Γ, SOk K c Γ σ R' H → Ex R R' → D.ct Γ → E.ct σ H
theorem EndsOk.mono {K : PySem.W.Frag} {c : Cc} {R R1 : Hp} {D : DE} {E : Ends} (h : EndsOk K c R D E) (e : Ex R R1) : EndsOk K c R1 D E :=
  ⟨fun σ R' H Γ s e' => h.nx σ R' H Γ s (e.trans e'), fun v σ R' H Γ r s e' => h.rt v σ R' H Γ r s (e.trans e'), fun σ R' H Γ s e' => h.bk σ R' H Γ s (e.trans e'), fun σ R' H Γ s e' => h.ct σ R' H Γ s (e.trans e')⟩
structure WS (X : Cx) (n : Nm) (c : Cc) (Γ : SL) (st : Stmt) (D : DE) : Prop where
  run : NOk X n c → ∀ σ R H, SOk X.K c Γ σ R H → ∀ E : Ends, EndsOk X.K c R D E → tWS X st E σ H
structure WB (X : Cx) (n : Nm) (c : Cc) (Γ : SL) (st : List Stmt) (D : DE) : Prop where
  run : NOk X n c → ∀ σ R H, SOk X.K c Γ σ R H → ∀ E : Ends, EndsOk X.K c R D E → tWB X st E σ H

section
variable {K : PySem.W.Frag} {c : Cc} {Γ : SL} {σ : St} {R H R' H' : Hp}
def OB.isL : OB → Bool
  | .dic _ => false
  | .ins _ _ => false
  | .lstA _ _ => false
  | .lstV _ _ _ => false
  | .dicA _ _ => false
  | _ => true
def Slot.isOwn : Slot → Bool
  | .own _ => true
  | _ => false
/-- a slot is stored to -/
theorem SOk.set (s : SOk K c Γ σ R H) (i : Nat) {v : Option V} {sl : Slot} (hs : sl.isOwn = false) (h : SlotOk K c R H sl v) (hi : i ∉ c.oi.map (·.1)) : SOk K c (Γ.set i sl) (σ.set i v) R H := by
  refine ⟨s.rh, s.r0, s.hm, s.pr, s.un, by simp [s.len], fun j x e => ?_, fun j k a o o' e1 e2 e3 e4 => ?_, fun p hp => ?_⟩
  · by_cases hj : i = j
    · subst hj
      have hl : i < Γ.length := by have := (List.getElem?_eq_some_iff.mp e).1; simpa using this
      rw [List.getElem?_set_self hl] at e; cases e
      exact ⟨v, List.getElem?_set_self (by rw [← s.len]; exact hl), h⟩
    · rw [List.getElem?_set_ne hj] at e ⊢
      exact s.sl j x e
  · have ne : ∀ (j : Nat) (o : OB), (Γ.set i sl)[j]? = some (.own o) → i ≠ j := fun j o e z => by
      subst z
      have hl : i < Γ.length := by have := (List.getElem?_eq_some_iff.mp e).1; simpa using this
      rw [List.getElem?_set_self hl] at e; cases e; cases hs
    have n1 := ne j o e1
    have n2 := ne k o' e2
    rw [List.getElem?_set_ne n1] at e1 e3
    rw [List.getElem?_set_ne n2] at e2 e4
    exact s.dj j k a o o' e1 e2 e3 e4
  · have hn : i ≠ p.1 := fun z => hi (by rw [z]; exact List.mem_map_of_mem hp)
    rw [List.getElem?_set_ne hn, List.getElem?_set_ne hn]
    exact s.oi p hp
theorem SOk.setD (s : SOk K c Γ σ R H) (i : Nat) {v : V} {x : D} (h : Rp K R x v) (hi : i ∉ c.oi.map (·.1)) : SOk K c (Γ.set i (.d x)) (σ.set i (some v)) R H := s.set i (sl := .d x) rfl ⟨v, rfl, h⟩ hi
theorem SOk.setO (s : SOk K c Γ σ R H) (i : Nat) {v : V} {o : OB} (h : VOk K c Γ σ R H (.own o) v) (hi : i ∉ c.oi.map (·.1)) : SOk K c (Γ.set i (.own o)) (σ.set i (some v)) R H := by
  obtain ⟨a, rfl, h2, h3, h4, h5⟩ := h
  refine ⟨s.rh, s.r0, s.hm, s.pr, s.un, by simp [s.len], fun j x e => ?_, fun j k b o1 o2 e1 e2 e3 e4 => ?_, fun p hp => ?_⟩
  · by_cases hj : i = j
    · subst hj
      have hl : i < Γ.length := by have := (List.getElem?_eq_some_iff.mp e).1; simpa using this
      rw [List.getElem?_set_self hl] at e; cases e
      exact ⟨_, List.getElem?_set_self (by rw [← s.len]; exact hl), a, rfl, h2, h3, .inl h4⟩
    · rw [List.getElem?_set_ne hj] at e ⊢
      exact s.sl j x e
  · have at_i : ∀ b, (σ.set i (some (.ref a)))[i]? = some (some (.ref b)) → b = a := fun b e => by
      have hl : i < σ.length := by have := (List.getElem?_eq_some_iff.mp e).1; simpa using this
      rw [List.getElem?_set_self hl] at e; cases e; rfl
    by_cases hj : i = j
    · by_cases hk : i = k
      · exact hj.symm.trans hk
      · subst hj
        have := at_i b e3; subst this
        rw [List.getElem?_set_ne hk] at e2 e4
        exact absurd e4 (h5 k o2 e2)
    · by_cases hk : i = k
      · subst hk
        have := at_i b e4; subst this
        rw [List.getElem?_set_ne hj] at e1 e3
        exact absurd e3 (h5 j o1 e1)
      · rw [List.getElem?_set_ne hj] at e1 e3
        rw [List.getElem?_set_ne hk] at e2 e4
        exact s.dj j k b o1 o2 e1 e2 e3 e4
  · have hn : i ≠ p.1 := fun z => hi (by rw [z]; exact List.mem_map_of_mem hp)
    rw [List.getElem?_set_ne hn, List.getElem?_set_ne hn]
    exact s.oi p hp
/-- what slot i owns is changed -/
theorem SOk.mut (s : SOk K c Γ σ R H) (i : Nat) {a : Addr} {ob ob' : OB} {o : HO} (hΓ : Γ[i]? = some (.own ob)) (hσ : σ[i]? = some (some (.ref a))) (h : OBOk K R (upd H a o) a ob') : SOk K c (Γ.set i (.own ob')) σ R (upd H a o) := by
  obtain ⟨w, w1, b, w2, w3, w4, w5⟩ := s.sl i _ hΓ
  rw [hσ] at w1; cases w1; cases w2
  have hl : i < Γ.length := (List.getElem?_eq_some_iff.mp hΓ).1
  have un : ∀ (j : Nat) (o : OB), (Γ.set i (.own ob'))[j]? = some (.own o) → ∃ o, Γ[j]? = some (.own o) := fun j o e => by
    by_cases hj : i = j
    · subst hj; exact ⟨_, hΓ⟩
    · rw [List.getElem?_set_ne hj] at e; exact ⟨o, e⟩
  refine ⟨fun b u e => ?_, s.r0, fun b u n e => ?_, fun b n => ?_, s.un, by simp [s.len], fun j x e => ?_, fun j k b o1 o2 e1 e2 e3 e4 => ?_, fun p hp => ?_⟩
  · rw [upd_ne (fun z => by rw [z, w4] at e; cases e)]; exact s.rh b u e
  · rw [upd_ne (fun z => by
      rcases w5 with w5 | w5
      · rw [z, w5] at e; cases e
      · exact n (z ▸ w5))]
    exact s.hm b u n e
  · by_cases z : b = a
    · subst z; rw [upd_same]; simp
    · rw [upd_ne z]; exact s.pr b n
  · by_cases hj : i = j
    · subst hj
      rw [List.getElem?_set_self hl] at e; cases e
      exact ⟨_, hσ, a, rfl, h, w4, w5⟩
    · rw [List.getElem?_set_ne hj] at e
      obtain ⟨u, u1, u2⟩ := s.sl j x e
      refine ⟨u, u1, ?_⟩
      cases x with
      | no => exact u2
      | any => exact u2
      | d x => exact u2
      | sc ns => exact u2
      | ex _ _ _ => exact u2
      | bx _ _ _ => exact u2
      | tn _ _ _ => exact u2
      | lk _ => exact u2
      | w x => obtain ⟨v, z1, z2⟩ := u2; exact ⟨v, z1, z2.mono (Ex.refl _) fun b o nb q => by rw [upd_ne (fun z => nb (by rw [z]; exact w5))]; exact q⟩
      | own o2 =>
        obtain ⟨b, z1, z2, z3, z4⟩ := u2
        subst z1
        refine ⟨b, rfl, z2.mono (Ex.refl _) fun o q => ?_, z3, z4⟩
        rw [upd_ne (fun z => by subst z; exact hj (s.dj i j b ob o2 hΓ e hσ u1))]; exact q
  · obtain ⟨u, z1⟩ := un j o1 e1
    obtain ⟨u', z2⟩ := un k o2 e2
    exact s.dj j k b u u' z1 z2 e3 e4
  · obtain ⟨w1, o, w2⟩ := s.oi p hp
    refine ⟨w1, ?_⟩
    by_cases hj : i = p.1
    · rw [← hj, List.getElem?_set_self hl]; exact ⟨_, rfl⟩
    · rw [List.getElem?_set_ne hj]; exact ⟨o, w2⟩
end

section
variable {X : Cx} {n : Nm} {c : Cc} {Γ : SL} {e a b : Expr} {x y z : D} {pos p : Pos} {nm : Str} {es : List Expr} {k l : AK} {ks : List AK} {xs : List D} {st : Stmt} {rest : List Stmt} {D : DE}
theorem NOk.noi (hn : NOk X n c) {i : Nat} (h : n.oi.contains i = false) : i ∉ c.oi.map (·.1) := fun z => by
  rw [hn.oi] at z
  rw [List.contains_eq_mem] at h
  simp [z] at h
theorem wb_nil (h : D.nx Γ) : WB X n c Γ [] D := .mk fun hn σ R H s E ok => pss_nil.w (ok.nx σ R H Γ s (Ex.refl _) h)
theorem wb_cons (h : WS X n c Γ st { D with nx := fun Γ' => WB X n c Γ' rest D }) : WB X n c Γ (st :: rest) D := .mk fun hn σ R H s E ok =>
  (pss_cons pWS pWB).w (h.run hn σ R H s _ ⟨fun σ' R' H' Γ' s' e w => w.run hn σ' R' H' s' E (ok.mono e), ok.rt, ok.bk, ok.ct⟩)
theorem wb_cut (Mid : SL → Prop) (h : WS X n c Γ st { D with nx := Mid }) (h2 : ∀ Γ', Mid Γ' → WB X n c Γ' rest D) : WB X n c Γ (st :: rest) D := .mk fun hn σ R H s E ok =>
  (pss_cons pWS pWB).w (h.run hn σ R H s _ ⟨fun σ' R' H' Γ' s' e w => (h2 Γ' w).run hn σ' R' H' s' E (ok.mono e), ok.rt, ok.bk, ok.ct⟩)
theorem wb_one (h : WS X n c Γ st D) : WB X n c Γ [st] D := wb_cons (by
  refine .mk fun hn σ R H s E ok => ?_
  exact h.run hn σ R H s E ⟨fun σ' R' H' Γ' s' e w => ok.nx σ' R' H' Γ' s' e (wb_nil w), ok.rt, ok.bk, ok.ct⟩)
theorem WB.mono {sts : List Stmt} {D D' : DE} (h : WB X n c Γ sts D) (h1 : ∀ Γ, D.nx Γ → D'.nx Γ) (h2 : ∀ r Γ, D.rt r Γ → D'.rt r Γ) (h3 : ∀ Γ, D.bk Γ → D'.bk Γ) (h4 : ∀ Γ, D.ct Γ → D'.ct Γ) : WB X n c Γ sts D' := .mk fun hn σ R H s E ok =>
  h.run hn σ R H s E ⟨fun σ' R' H' Γ' s' e w => ok.nx σ' R' H' Γ' s' e (h1 _ w), fun v σ' R' H' Γ' r s' e ro w => ok.rt v σ' R' H' Γ' r s' e ro (h2 _ _ w), fun σ' R' H' Γ' s' e w => ok.bk σ' R' H' Γ' s' e (h3 _ w), fun σ' R' H' Γ' s' e w => ok.ct σ' R' H' Γ' s' e (h4 _ w)⟩
/-- name = data, name = a fresh thing -/
theorem ws_set (i : Nat) {p' : Pos} (h : WE X n c Γ e fun x Γ' => D.nx (Γ'.set i (.d x))) (hi : n.N[i]? = some nm := by rfl) (ha : n.as.contains i = true := by rfl) (ho : n.oi.contains i = false := by rfl) (hs : swapsWith e (some (.Name nm p')) pos.line X.env = pure false := by rfl) :
    WS X n c Γ (.Assign [.Name nm p'] e pos) D := .mk fun hn σ R H s E ok => by
  obtain ⟨l1, l2⟩ := hn.loc i nm ha hi
  exact (ps_set (by rw [hn.eq]; exact hn.nd) (by rw [hn.eq]; exact hi) l1 pW hs l2).w (h.run hn σ R H s _ fun v R' H' x Γ' s' e' r p => ok.nx _ R' H' _ (s'.setD i r (hn.noi ho)) e' p)
theorem ws_setO (i : Nat) {p' : Pos} (h : WO X n c Γ e fun o Γ' => D.nx (Γ'.set i (.own o))) (hi : n.N[i]? = some nm := by rfl) (ha : n.as.contains i = true := by rfl) (ho : n.oi.contains i = false := by rfl) (hs : swapsWith e (some (.Name nm p')) pos.line X.env = pure false := by rfl) :
    WS X n c Γ (.Assign [.Name nm p'] e pos) D := .mk fun hn σ R H s E ok => by
  obtain ⟨l1, l2⟩ := hn.loc i nm ha hi
  exact (ps_set (by rw [hn.eq]; exact hn.nd) (by rw [hn.eq]; exact hi) l1 pW hs l2).w (h.run hn σ R H s _ fun v R' H' x Γ' s' e' r p => ok.nx _ R' H' _ (s'.setO i r (hn.noi ho)) e' p)
/-- e as a statement -/
theorem ws_expr (h : WE X n c Γ e fun _ Γ' => D.nx Γ') (hs : swapsWith e none pos.line X.env = pure false := by rfl) : WS X n c Γ (.Expr e pos) D := .mk fun hn σ R H s E ok =>
  (ps_expr pW hs).w (h.run hn σ R H s _ fun v R' H' x Γ' s' e' r p => ok.nx σ R' H' Γ' s' e' p)
theorem ws_ret (h : WE X n c Γ e fun x Γ' => D.rt (.d x) Γ') : WS X n c Γ (.Return (some e) pos) D := .mk fun hn σ R H s E ok =>
  (ps_ret pW).w (h.run hn σ R H s _ fun v R' H' x Γ' s' e' r p => ok.rt v σ R' H' Γ' (.d x) s' e' r p)
theorem ws_retO (h : WO X n c Γ e fun x Γ' => D.rt (.own x) Γ') : WS X n c Γ (.Return (some e) pos) D := .mk fun hn σ R H s E ok =>
  (ps_ret pW).w (h.run hn σ R H s _ fun v R' H' x Γ' s' e' r p => ok.rt v σ R' H' Γ' (.own x) s' e' r p)
/-- return of a name that owns: it is given away -/
theorem ws_retS (i : Nat) {o : OB} (h : D.rt (.own o) (Γ.set i .any)) (hg : Γ[i]? = some (.own o) := by rfl) (hi : n.N[i]? = some nm := by rfl) (hv : n.V.contains i = true := by rfl) (ho : n.oi.contains i = false := by rfl) : WS X n c Γ (.Return (some (.Name nm p)) pos) D := .mk fun hn σ R H s E ok => by
  obtain ⟨h1, h2⟩ := hn.dbg i nm hi
  refine (ps_ret (pe_var (i := i) (by rw [hn.eq]; exact hi) (hn.vis i nm hv hi) h1 h2)).w ?_
  obtain ⟨w, e1, a, e2, w3, w4, w5⟩ := s.sl i _ hg
  subst e2
  have hl : i < Γ.length := (List.getElem?_eq_some_iff.mp hg).1
  have s2 : SOk X.K c (Γ.set i .any) (σ.set i (some (.ref a))) R H := s.set i (v := some (.ref a)) rfl trivial (hn.noi ho)
  have es : σ.set i (some (.ref a)) = σ := by
    apply List.ext_getElem?
    intro j
    by_cases hj : i = j
    · subst hj; rw [List.getElem?_set_self (by rw [← s.len]; exact hl), e1]
    · rw [List.getElem?_set_ne hj]
  rw [es] at s2
  refine ⟨_, e1, ok.rt _ σ R H _ (.own o) s2 (Ex.refl _) ⟨a, rfl, w3, w4, ?_, fun j o' z1 z2 => ?_⟩ h⟩
  · rcases w5 with w5 | w5
    · exact w5
    · obtain ⟨j, hj⟩ := hn.cm a w5
      obtain ⟨z1, o', z2⟩ := s.oi _ hj
      have := s.dj i j a o o' hg z2 e1 z1
      exact absurd (by rw [this]; exact List.mem_map_of_mem hj) (hn.noi ho)
  · by_cases hj : i = j
    · subst hj; rw [List.getElem?_set_self hl] at z1; cases z1
    · rw [List.getElem?_set_ne hj] at z1
      exact hj (s.dj i j a o o' hg z1 e1 z2)
theorem ws_if {t : Expr} {A B : List Stmt} (h : WT X n c Γ t fun b Γ' => (b = true → WB X n c Γ' A D) ∧ (b = false → WB X n c Γ' B D)) : WS X n c Γ (.If t A B pos) D := .mk fun hn σ R H s E ok =>
  (ps_if pWT pWB pWB).w (h.run hn σ R H s _ fun R' H' b Γ' s' e' ⟨p1, p2⟩ => by
    cases b with
    | true => exact (p1 rfl).run hn σ R' H' s' E (ok.mono e')
    | false => exact (p2 rfl).run hn σ R' H' s' E (ok.mono e'))
theorem ws_ifE {t : Expr} {A B : List Stmt} {q : Bool} (h : ET X n c Γ t q) (h1 : q = true → WB X n c Γ A D) (h2 : q = false → WB X n c Γ B D) : WS X n c Γ (.If t A B pos) D := ws_if (wt_of h ⟨h1, h2⟩)
/-! ### what a slot owns is changed by a method, by an item's store -/
def DMt (X : Cx) (id : String) (P : List DL.D → List DL.D → (DL.D → List DL.D → Prop) → Prop) : Prop := ∃ r, MtR X id r ∧ ∀ R H a ds vs as ws Post, H a = some (.lst vs) → RpL X.K R ds vs → RpL X.K R as ws → P ds as Post → ∀ Q : VK,
  (∀ u us z zs, RpL X.K R zs us → Rp X.K R z u → Post z zs → Q u (upd H a (.lst us))) → r (.ref a) ws H Q
theorem dm_append : DMt X "list.append" (fun ds as Post => ∃ x, as = [x] ∧ ds.length < 1000000 ∧ Post .non (ds ++ [x])) := ⟨_, mt_append, fun R H a ds vs as ws Post h1 h2 h3 ⟨x, e, hz, p⟩ Q q => by
  subst e
  obtain ⟨v, w, rfl, h4, h5⟩ := h3
  cases (show w = [] from h5)
  exact ⟨a, vs, v, rfl, rfl, h1, by rw [← h2.length, sizeLine_eq]; omega, q _ _ .non _ (h2.append (.one h4)) rfl p⟩⟩
theorem dm_popAt : DMt X "list.pop" (fun ds as Post => ∃ (i : Nat) (x : DL.D), as = [.int (i : Int)] ∧ (i : Int) < 2 ^ 62 ∧ ds[i]? = some x ∧ Post x (ds.eraseIdx i)) := ⟨_, mt_popAt, fun R H a ds vs as ws Post h1 h2 h3 ⟨i, x, e, h62, hx, p⟩ Q q => by
  subst e
  obtain ⟨v, w, rfl, h4, h5⟩ := h3
  cases (show w = [] from h5)
  cases (show v = .int (i : Int) from h4)
  obtain ⟨u, h6, h7⟩ := h2.get hx
  have hl : i < vs.length := (List.getElem?_eq_some_iff.mp h6).1
  exact ⟨a, vs, (i : Int), i, u, rfl, rfl, h1, by omega, by omega, by rw [PySem.StrLaws.seqIndex_nonneg (by omega) (by omega)]; simp, h6, q _ _ x _ (h2.erase _) h7 p⟩⟩
variable {id : String} {P : List DL.D → List DL.D → (DL.D → List DL.D → Prop) → Prop} {meth : Str} {ap : Pos}
theorem we_meth (i : Nat) {Post : DL.D → SL → Prop} (hm : DMt X id P) (pa : PlainAttrs "list") (slot : PySem.Slot "list" meth id) (hty : typeOf (.builtin id) = pure (.type "method_descriptor"))
    (h : WA X n c Γ (e :: es) fun ks Γ' => ∃ as ds, dats ks = some as ∧ Γ'[i]? = some (.own (.lst ds)) ∧ P ds as fun z zs => Post z (Γ'.set i (.own (.lst zs)))) {o0 : OB} (hg : Γ[i]? = some (.own o0) := by rfl) (hL : o0.isL = true := by rfl) (hi : n.N[i]? = some nm := by rfl) (hv : n.V.contains i = true := by rfl)
    (hbase : attributeBase (.Name nm p) meth X.env (eval (.Name nm p) X.env) = eval (.Name nm p) X.env := by rfl)
    (hfew : ((backTo pos (starEach (e :: es) X.env)).all (fun x => !x.1) && (backToKw pos (keywordEach [] X.env)).all (fun x => x.1.isSome)
      && decide ((e :: es).length + ([] : List Keyword).length + (if ([] : List Keyword).isEmpty then 0 else 1) < 30)) = true := by rfl)
    (hline : (ap.endLine == pos.line) = true := by rfl) (hs : starEach (e :: es) X.env = (false, eval e X.env) :: starEach es X.env := by exact se_c rfl) (hplain : (backTo pos (starEach es X.env)).any (·.1) = false := by exact se_any rfl) :
    WE X n c Γ (.Call (.Attribute (.Name nm p) meth ap) (e :: es) [] pos) Post := .mk fun hn σ R H s Q q => by
  obtain ⟨h1, h2⟩ := hn.dbg i nm hi
  obtain ⟨r, m1, m2⟩ := hm
  refine (pe_bm pa slot hty m1 (pe_var (i := i) (by rw [hn.eq]; exact hi) (hn.vis i nm hv hi) h1 h2) pWA hbase hfew hline hs hplain).w ?_
  obtain ⟨w, e1, a, e2, w3, w4, w5⟩ := s.sl i _ hg
  subst e2
  have hT : tyV X.K "list" (.ref a) H := by
    cases o0 with
    | lst ds => obtain ⟨vs, q1, _⟩ := w3; exact .inl ⟨rfl, _, .inl (.inl q1)⟩
    | sto => obtain ⟨_, _, _, _, _, _, _, vs, q1, _⟩ := w3; exact .inl ⟨rfl, _, .inl (.inl q1)⟩
    | dic ds => cases hL
    | ins _ _ => cases hL
    | lstA _ _ => cases hL
    | lstV _ _ _ => cases hL
    | dicA _ _ => cases hL
  refine ⟨_, e1, hT, h.run hn σ R H s _ fun vs R' H' ks Γ' s' e' r' ⟨as, ds, hd, hg', hp⟩ => ?_⟩
  obtain ⟨w', u1, b, u2, ⟨us, u3, u6⟩, u4, u5⟩ := s'.sl i _ hg'
  rw [e1] at u1; cases u1; cases u2
  refine m2 R' H' a ds us as vs _ u3 u6 (dats_ok r' hd) hp Q fun u us' z zs hz hu hP => ?_
  exact q u R' _ z _ (s'.mut (ob' := .lst zs) i hg' e1 ⟨us', upd_same, hz⟩) e' hu hP
end
end DL

end
section
set_option Elab.async false
set_option linter.all false
set_option autoImplicit true
set_option maxRecDepth 100000
set_option maxHeartbeats 400000
namespace DL
open PySem L2
open PyProof.Rows hiding St

section
variable {X : Cx} {n : Nm} {c : Cc} {Γ : SL} {e a b : Expr} {x y z : D} {pos p : Pos} {nm : Str} {es : List Expr} {k l : AK} {ks : List AK} {xs : List D} {st : Stmt} {rest : List Stmt} {De : DE}
variable {id : String} {P : List D → List D → (D → List D → Prop) → Prop} {meth : Str} {ap : Pos}
/-- xs[i] = e -/
theorem ws_setIx (i : Nat) {tpos : Pos} (h : WE X n c Γ e fun x Γ1 => WE X n c Γ1 b fun y Γ2 => ∃ ds j m, Γ2[i]? = some (.own (.lst ds)) ∧ y = .int j ∧ ixN ds.length j = some m ∧ De.nx (Γ2.set i (.own (.lst (ds.set m x)))))
    {s0 : Slot} (hi : n.N[i]? = some nm := by rfl) (hv : n.V.contains i = true := by rfl) (hg : Γ[i]? = some s0 := by rfl) (hss : s0.isOwn = true := by rfl)
    (ha : ∀ v, assign (.Subscript (.Name nm p) b tpos) X.env v = (do
      let ov ← holding [v] (eval (.Name nm p) X.env)
      let iv ← holding [v, ov] (eval b X.env)
      standAt tpos
      holding [v, ov, iv] (setItem ov iv v)
      release [v, ov, iv] []) := by intro _; rfl) (hs : swapsWithSole [.Subscript (.Name nm p) b tpos] e pos.line X.env = pure false := by rfl) (hw : swappedStores [.Subscript (.Name nm p) b tpos] e X.env = pure none := by rfl)
    (h1 : (assignEach [.Subscript (.Name nm p) b tpos] X.env).map (·.2) = [assign (.Subscript (.Name nm p) b tpos) X.env] := by rfl) :
    WS X n c Γ (.Assign [.Subscript (.Name nm p) b tpos] e pos) De := .mk fun hn σ R H s E ok => by
  obtain ⟨d1, d2⟩ := hn.dbg i nm hi
  refine (ps_asg pW (pg_sub (pe_var (i := i) (by rw [hn.eq]; exact hi) (hn.vis i nm hv hi) d1 d2) pW set_list ha) hs hw h1).w (h.run hn σ R H s _ fun v R1 H1 x Γ1 s1 e1 r1 p1 => ?_)
  obtain ⟨w, w1, w2⟩ := s.sl i _ hg
  have ⟨a0, hw0⟩ : ∃ a, w = some (.ref a) := by
    cases s0 with
    | own o => obtain ⟨a, q, _⟩ := w2; exact ⟨a, q⟩
    | _ => cases hss
  subst hw0
  refine ⟨_, w1, p1.run hn σ R1 H1 s1 _ fun u R2 H2 y Γ2 s2 e2 r2 ⟨ds, j, m, q1, q2, q3, q4⟩ => ?_⟩
  subst q2
  obtain ⟨w', u1, a1, u2, ⟨us, u3, u6⟩, u4, u5⟩ := s2.sl i _ q1
  rw [w1] at u1; cases u1; cases u2
  refine ⟨_, us, j, m, rfl, r2, u3, by rw [← u6.length]; exact q3, ok.nx σ R2 _ _ (s2.mut (ob' := .lst (ds.set m x)) i q1 w1 ⟨_, upd_same, u6.set m (Rp.mono e2 _ _ r1)⟩) (e1.trans e2) q4⟩
/-! ### what a slot owns is kept for good -/
/-! ### loops -/
/-- what a body is to reach: the next turn, the loop's end, a return -/
def turnE (De : DE) (N : SL → Prop) : DE := { nx := N, rt := De.rt, bk := De.nx, ct := N }
theorem turnE_ok {K : PySem.W.Frag} {R R1 : Hp} {E : Ends} {Nv : SL → Prop} {Pv : St → Hp → Prop} (ok : EndsOk K c R De E) (e : Ex R R1) (hP : ∀ σ R' H Γ, SOk K c Γ σ R' H → Ex R1 R' → Nv Γ → Pv σ H) :
    EndsOk K c R1 (turnE De Nv) { E with nx := Pv, ct := Pv, bk := E.nx } :=
  ⟨fun σ R' H Γ s e' w => hP σ R' H Γ s e' w, fun v σ R' H Γ r s e' => ok.rt v σ R' H Γ r s (e.trans e'), fun σ R' H Γ s e' w => ok.nx σ R' H Γ s (e.trans e') w, fun σ R' H Γ s e' w => hP σ R' H Γ s e' w⟩
theorem ws_forR1 (j : Nat) {body : List Stmt} {tp p2 : Pos} (Inv : Nat → SL → Prop) (m : Nat) (hb : Blt X "range" (.type "range")) (jr : Nat) (h : WE X n c Γ a fun x Γ1 => ∃ i : Int, x = .int i ∧ i.toNat = m ∧ i < 2 ^ 62 ∧ -(2 ^ 62) ≤ i ∧ Inv 0 Γ1)
    (hs : ∀ i Γ', i < m → Inv i Γ' → WB X n c (Γ'.set j (.d (.int (i : Int)))) body (turnE De (Inv (i + 1)))) (hd : ∀ Γ', Inv m Γ' → De.nx Γ') (hjr : n.GN[jr]? = some ("range" : Str) := by rfl) (hh : n.hot = false := by rfl) (hj : n.N[j]? = some nm := by rfl) (ha : n.as.contains j = true := by rfl) (hoi : n.oi.contains j = false := by rfl)
    (hst : starEach [a] X.env = [(false, eval a X.env)] := by exact se_1 rfl) (hf : ∀ x, foldedSetIterable (.Call (.Name "range" p) [a] [] p2) X.env x = pure x := by intro _; rfl) : WS X n c Γ (.For (.Name nm tp) (.Call (.Name "range" p) [a] [] p2) body [] pos) De := .mk fun hn σ R H s E ok => by
  obtain ⟨l1, l2⟩ := hn.loc j nm ha hj
  obtain ⟨g1, g2, g3⟩ := hn.gl jr _ hjr
  refine (ps_for hn.po (hn.calm hh) (pi_range1 g1 hb.mg (pa_cons pW pa_nil hst) hst) (pg_name (by rw [hn.eq]; exact hn.nd) (by rw [hn.eq]; exact hj) l1 l2) pWB hf).w (h.run hn σ R H s _ fun v R1 H1 x Γ1 s1 e1 r1 ⟨i, hx, h1, h2, h3, p1⟩ => ?_)
  subst hx
  cases (show v = .int i from r1)
  refine ⟨i, rfl, h3, h2, ?_⟩
  rw [h1]
  refine for_range (lo := 0) (n := m) (fun i σ' H' => ∃ R' Γ', SOk X.K c Γ' σ' R' H' ∧ Ex R1 R' ∧ Inv i Γ') ⟨R1, Γ1, s1, Ex.refl _, p1⟩ (fun i σ' H' hi ⟨R', Γ', s', e', p'⟩ => ?_) (fun σ' H' ⟨R', Γ', s', e', p'⟩ => ok.nx σ' R' H' Γ' s' (e1.trans e') (hd Γ' p'))
  have e0 : (0 : Int) + (i : Int) = (i : Int) := Int.zero_add _
  rw [e0]
  exact (hs i Γ' hi p').run hn _ R' H' (s'.setD j (x := .int (i : Int)) rfl (hn.noi hoi)) _ (turnE_ok ok (e1.trans e') fun σ2 R2 H2 Γ2 s2 e2 w => ⟨R2, Γ2, s2, e'.trans e2, w⟩)
/-! ### the store, opened -/
theorem wb_open (i : Nat) {sts : List Stmt} (hg : Γ[i]? = some (.own .sto)) (h : ∀ ns place great st left cnt, StoreB ns place great st left cnt → WB X n c (Γ.set i (.own (.lst (stoD ns place great st left cnt)))) sts De) : WB X n c Γ sts De := .mk fun hn σ R H s E ok => by
  obtain ⟨w, e1, a, e2, ⟨ns, place, great, st, left, cnt, hB, vs, h1, h2⟩, w4, w5⟩ := s.sl i _ hg
  subst e2
  have s2 := s.mut (ob' := .lst (stoD ns place great st left cnt)) (o := .lst vs) i hg e1 ⟨vs, upd_same, h2⟩
  have e : upd H a (.lst vs) = H := by
    funext b
    by_cases hb : b = a
    · subst hb; rw [upd_same, h1]
    · rw [upd_ne hb]
  rw [e] at s2
  exact (h ns place great st left cnt hB).run hn σ R H s2 E ok
end
/-- what is lent may be told as a store again -/
def OB.le : OB → OB → Prop := fun o o' => o = o' ∨ (o' = .sto ∧ ∃ ns place great st left cnt, o = .lst (stoD ns place great st left cnt) ∧ StoreB ns place great st left cnt)
theorem OB.le.ok {K : PySem.W.Frag} {R H : Hp} {a : Addr} {o o' : OB} (h : o.le o') (k : OBOk K R H a o) : OBOk K R H a o' := by
  rcases h with rfl | ⟨rfl, ns, p, g, st, l, n, rfl, hB⟩
  · exact k
  · obtain ⟨vs, h1, h2⟩ := k
    exact ⟨ns, p, g, st, l, n, hB, vs, h1, h2⟩

/-! ### a def -/
def Par.slot : Par → Slot
  | .d x => .d x
  | .w x => .w x
  | .own o => .own o
  | .sc ns => .sc ns
def parOi : Nat → List Par → List Nat
  | _, [] => []
  | i, .own _ :: ps => i :: parOi (i + 1) ps
  | i, _ :: ps => parOi (i + 1) ps
/-- what is lent, at the end: the slots' things as they are told back -/
def Backs (Γ : SL) : List Nat → List OB → Prop
  | [], os => os = []
  | i :: is, os => ∃ o o' os', os = o' :: os' ∧ Γ[i]? = some (.own o) ∧ o.le o' ∧ Backs Γ is os'
/-- a return value may be told as a store, too -/
def Res.le : Res → Res → Prop
  | .own o, .own o' => o.le o'
  | r, r' => r = r'
def fnD (oi : List Nat) (Post : Res → List OB → Prop) : DE where
  nx := fun Γ => ∃ os, Backs Γ oi os ∧ Post (.d .non) os
  rt := fun r Γ => ∃ r' os, r.le r' ∧ Backs Γ oi os ∧ Post r' os

theorem OwnsOk.of {K : PySem.W.Frag} {c : Cc} {Γ : SL} {σ : St} {R H : Hp} (s : SOk K c Γ σ R H) : ∀ {oi : List (Nat × Addr)} {os : List OB}, (∀ p ∈ oi, p ∈ c.oi) → Backs Γ (oi.map (·.1)) os → OwnsOk K R H (oi.map (·.2)) os
  | [], _, _, h => h
  | p :: oi, _, hs, ⟨o, o', os', e, h1, h2, h3⟩ => by
    subst e
    obtain ⟨w1, _⟩ := s.oi p (hs p List.mem_cons_self)
    obtain ⟨w, u1, a, u2, u3, _⟩ := s.sl p.1 _ h1
    rw [w1] at u1; cases u1; cases u2
    exact ⟨o', os', rfl, h2.ok u3, OwnsOk.of s (fun q hq => hs q (List.mem_cons_of_mem _ hq)) h3⟩
def oiOf : Nat → List Par → List V → List (Nat × Addr)
  | i, .own _ :: ps, v :: vs => (i, adr v) :: oiOf (i + 1) ps vs
  | i, _ :: ps, _ :: vs => oiOf (i + 1) ps vs
  | _, _, _ => []
theorem oiOf_ad : ∀ {ps : List Par} {vs : List V} {i : Nat}, (oiOf i ps vs).map (·.2) = ownAd ps vs
  | [], _, _ => by simp [oiOf, ownAd]
  | p :: ps, [], _ => by cases p <;> simp [oiOf, ownAd]
  | p :: ps, v :: vs, i => by cases p <;> simp [oiOf, ownAd, oiOf_ad]
theorem oiOf_ix {K : PySem.W.Frag} {M : Addr → Prop} {R H : Hp} : ∀ {ps : List Par} {vs : List V} {i : Nat}, ParsOk K M R H ps vs → (oiOf i ps vs).map (·.1) = parOi i ps
  | [], _, _, h => by simp [oiOf, parOi]
  | p :: ps, _, i, ⟨v, ws, e, h1, h2⟩ => by subst e; cases p <;> simp [oiOf, parOi, oiOf_ix h2]
theorem parsOk_len {K : PySem.W.Frag} {M : Addr → Prop} {R H : Hp} : ∀ {ps : List Par} {vs : List V}, ParsOk K M R H ps vs → ps.length = vs.length
  | [], _, h => by cases (show _ = _ from h); rfl
  | p :: ps, _, ⟨v, ws, e, h1, h2⟩ => by subst e; simp [parsOk_len h2]
theorem oiOf_mem {K : PySem.W.Frag} {M : Addr → Prop} {R H : Hp} : ∀ {ps : List Par} {vs : List V} {i : Nat}, ParsOk K M R H ps vs → ∀ p ∈ oiOf i ps vs, ∃ j o, p.1 = i + j ∧ ps[j]? = some (.own o) ∧ vs[j]? = some (.ref p.2) ∧ OBOk K R H p.2 o ∧ R p.2 = none
  | [], _, _, h, q, hq => by simp [oiOf] at hq
  | p :: ps, _, i, ⟨v, ws, e, h1, h2⟩, q, hq => by
    subst e
    have tl : q ∈ oiOf (i + 1) ps ws → ∃ j o, q.1 = i + j ∧ (p :: ps)[j]? = some (.own o) ∧ (v :: ws)[j]? = some (.ref q.2) ∧ OBOk K R H q.2 o ∧ R q.2 = none := fun hq => by
      obtain ⟨j, o, a, b, d, e⟩ := oiOf_mem h2 q hq
      exact ⟨j + 1, o, by omega, by simpa using b, by simpa using d, e⟩
    cases p with
    | own o =>
      rcases List.mem_cons.mp hq with rfl | hq
      · obtain ⟨a, rfl, h3, h4⟩ := h1
        exact ⟨0, o, rfl, rfl, rfl, h3, h4⟩
      · exact tl hq
    | _ => exact tl hq
theorem ownAd_mem {K : PySem.W.Frag} {M : Addr → Prop} {R H : Hp} : ∀ {ps : List Par} {vs : List V} {j : Nat} {o : OB}, ParsOk K M R H ps vs → ps[j]? = some (.own o) → ∃ a, vs[j]? = some (.ref a) ∧ a ∈ ownAd ps vs ∧ OBOk K R H a o ∧ R a = none
  | [], _, j, o, h, e => by simp at e
  | p :: ps, _, 0, o, ⟨v, ws, e, h1, h2⟩, q => by
    subst e
    have q' : p = .own o := by simpa using q
    subst q'
    obtain ⟨a, rfl, h3, h4⟩ := h1
    exact ⟨a, rfl, by simp [ownAd, adr], h3, h4⟩
  | p :: ps, _, j + 1, o, ⟨v, ws, e, h1, h2⟩, q => by
    subst e
    obtain ⟨a, h3, h4, h5⟩ := ownAd_mem (j := j) h2 (by simpa using q)
    exact ⟨a, by simpa using h3, by cases p <;> simp [ownAd, h4], h5⟩
theorem parOk_at {K : PySem.W.Frag} {M : Addr → Prop} {R H : Hp} : ∀ {ps : List Par} {vs : List V} {j : Nat} {p : Par}, ParsOk K M R H ps vs → ps[j]? = some p → ∃ v, vs[j]? = some v ∧ ParOk K M R H p v
  | [], _, j, o, h, e => by simp at e
  | p :: ps, _, 0, o, ⟨v, ws, e, h1, h2⟩, q => by
    subst e
    have q' : p = o := by simpa using q
    subst q'
    exact ⟨v, rfl, h1⟩
  | p :: ps, _, j + 1, o, ⟨v, ws, e, h1, h2⟩, q => by
    subst e
    obtain ⟨a, h3, h4⟩ := parOk_at (j := j) h2 (by simpa using q)
    exact ⟨a, by simpa using h3, h4⟩
theorem ad_inj : ∀ {ps : List Par} {vs : List V} {i j : Nat} {a : Addr} {o o' : OB}, (ownAd ps vs).Nodup → ps[i]? = some (.own o) → ps[j]? = some (.own o') → vs[i]? = some (.ref a) → vs[j]? = some (.ref a) → i = j
  | [], _, i, j, a, o, o', _, e, _, _, _ => by simp at e
  | p :: ps, [], i, j, a, o, o', _, _, _, e, _ => by simp at e
  | p :: ps, v :: vs, 0, 0, a, o, o', _, _, _, _, _ => rfl
  | p :: ps, v :: vs, 0, j + 1, a, o, o', nd, e1, e2, e3, e4 => by
    have q : p = .own o := by simpa using e1
    have q2 : v = .ref a := by simpa using e3
    subst q q2
    have : a ∈ ownAd ps vs := by
      have : ∀ {ps : List Par} {vs : List V} {j : Nat}, ps[j]? = some (.own o') → vs[j]? = some (.ref a) → a ∈ ownAd ps vs := by
        intro ps
        induction ps with
        | nil => intro vs j h; simp at h
        | cons p ps ih =>
          intro vs j h1 h2
          cases vs with
          | nil => simp at h2
          | cons v vs =>
            cases j with
            | zero =>
              have q : p = .own o' := by simpa using h1
              have q2 : v = .ref a := by simpa using h2
              subst q q2
              simp [ownAd, adr]
            | succ j =>
              have := ih (vs := vs) (j := j) (by simpa using h1) (by simpa using h2)
              cases p <;> simp [ownAd, this]
      exact this (by simpa using e2) (by simpa using e4)
    simp [ownAd, adr] at nd
    exact absurd this nd.1
  | p :: ps, v :: vs, i + 1, 0, a, o, o', nd, e1, e2, e3, e4 => by
    exact (ad_inj (ps := p :: ps) (vs := v :: vs) (i := 0) (j := i + 1) nd e2 e1 e4 e3).symm
  | p :: ps, v :: vs, i + 1, j + 1, a, o, o', nd, e1, e2, e3, e4 => by
    have nd' : (ownAd ps vs).Nodup := by
      cases p with
      | own o => exact (List.nodup_cons.mp nd).2
      | _ => exact nd
    have ij : i = j := ad_inj (ps := ps) (vs := vs) (a := a) (o := o) (o' := o') nd' (by simpa using e1) (by simpa using e2) (by simpa using e3) (by simpa using e4)
    rw [ij]
termination_by ps vs i j => (i + j, if i = 0 then 0 else 1)
/-- the slots at a def's entry -/
def entry (N : List Str) (ps : List Par) : SL := ps.map Par.slot ++ List.replicate (N.length - ps.length) .no
theorem entry_ok {K : PySem.W.Frag} {R H : Hp} {N : List Str} {ps : List Par} {vs : List V} (e : Ex R H) (h : ParsOk K (fun a => a ∈ ownAd ps vs) R H ps vs) (nd : (ownAd ps vs).Nodup) :
    SOk K ⟨R, H, fun a => a ∈ ownAd ps vs, oiOf 0 ps vs, xw⟩ (entry N ps) (L2.start N vs) R H := by
  have hl := parsOk_len h
  have at_ : ∀ (i : Nat) (s : Slot), (entry N ps)[i]? = some s → (∃ p, ps[i]? = some p ∧ s = p.slot) ∨ (ps.length ≤ i ∧ s = .no ∧ (L2.start N vs)[i]? = some none) := fun i s q => by
    unfold entry at q
    by_cases hi : i < ps.length
    · rw [List.getElem?_append_left (by simpa using hi), List.getElem?_map] at q
      obtain ⟨p, q1, q2⟩ := Option.map_eq_some_iff.mp q
      exact .inl ⟨p, q1, q2.symm⟩
    · rw [List.getElem?_append_right (by simpa using hi), List.getElem?_replicate] at q
      split at q
      · rename_i hlt
        refine .inr ⟨by omega, (Option.some.inj q).symm, ?_⟩
        unfold L2.start
        rw [List.getElem?_append_right (by simp; omega), List.getElem?_replicate, if_pos (by simp at hlt ⊢; omega)]
      · cases q
  have st : ∀ i v, vs[i]? = some v → (L2.start N vs)[i]? = some (some v) := fun i v q => by
    unfold L2.start
    rw [List.getElem?_append_left (by have := (List.getElem?_eq_some_iff.mp q).1; simpa using this), List.getElem?_map, q]; rfl
  have own_ : ∀ (i : Nat) (o : OB), (entry N ps)[i]? = some (.own o) → ps[i]? = some (.own o) := fun i o q => by
    rcases at_ i _ q with ⟨p, q1, q2⟩ | ⟨_, q2, _⟩
    · cases p <;> cases q2; exact q1
    · cases q2
  refine ⟨e, Ex.refl _, fun _ _ _ h => h, fun _ h => h, fun _ _ h => h, by simp [entry, L2.start, hl], fun i s q => ?_, fun i j a o o' q1 q2 q3 q4 => ?_, fun p hp => ?_⟩
  · rcases at_ i s q with ⟨p, q1, q2⟩ | ⟨_, q2, q3⟩
    · obtain ⟨v, w1, w2⟩ := parOk_at h q1
      refine ⟨_, st i v w1, ?_⟩
      subst q2
      cases p with
      | d x => exact ⟨v, rfl, w2⟩
      | w x => exact ⟨v, rfl, w2.noM fun a o h1 h2 h3 => by
          rcases h3 with h3 | h3
          · have h3' : H a = none := h3; rw [h1] at h3'; cases h3'
          · exact h2 h3⟩
      | sc ns => obtain ⟨a, rfl, w3⟩ := w2; exact ⟨a, rfl, w3⟩
      | own o =>
        obtain ⟨a, z1, z2, z3, z4⟩ := ownAd_mem h q1
        rw [w1] at z1; cases z1
        exact ⟨a, rfl, z3, z4, .inr z2⟩
    · subst q2; exact ⟨none, q3, rfl⟩
  · have p1 := own_ i o q1
    have p2 := own_ j o' q2
    obtain ⟨b, z1, _⟩ := ownAd_mem h p1
    obtain ⟨b', z2, _⟩ := ownAd_mem h p2
    rw [st i _ z1] at q3; cases q3
    rw [st j _ z2] at q4; cases q4
    exact ad_inj nd p1 p2 z1 z2
  · obtain ⟨j, o, h1, h2, h3, h4, h5⟩ := oiOf_mem h p hp
    have hj : p.1 = j := by omega
    rw [hj]
    refine ⟨st j _ h3, o, ?_⟩
    unfold entry
    rw [List.getElem?_append_left (by have := (List.getElem?_eq_some_iff.mp h2).1; simpa using this), List.getElem?_map, h2]; rfl
/-- the scope of a def, as NOk wants it -/
structure ScOk (sc : Scope) (n : Nm) : Prop where
  nd : n.N.Nodup
  vis : ∀ (i : Nat) (x : Str), n.V.contains i = true → n.N[i]? = some x → sc.names.lookup x = some .local ∨ sc.names.lookup x = some .cell
  dbg : ∀ (i : Nat) (x : Str), n.N[i]? = some x → (x == ("__debug__" : Str)) = false ∧ (x == ("__classdict__" : Str)) = false
  gl : ∀ (i : Nat) (x : Str), n.GN[i]? = some x → sc.names.lookup x = some .globalImplicit ∧ (x == ("__debug__" : Str)) = false ∧ x ≠ ("__name__" : Str)
  lc : ∀ (i : Nat) (x : Str), n.lc.contains i = true → n.N[i]? = some x → sc.names.lookup x = some .local
  as : ∀ (i : Nat), n.as.contains i = true → n.V.contains i = true
def scB (sc : Scope) (n : Nm) : Bool :=
  decide n.N.Nodup && (List.range n.N.length).all (fun i => match n.N[i]? with
    | some x => (!n.V.contains i || (sc.names.lookup x == some .local || sc.names.lookup x == some .cell)) && !(x == ("__debug__" : Str)) && !(x == ("__classdict__" : Str)) && (!n.lc.contains i || sc.names.lookup x == some .local)
    | none => true) && n.GN.all (fun x => sc.names.lookup x == some .globalImplicit && !(x == ("__debug__" : Str)) && !(x == ("__name__" : Str))) && n.as.all (fun i => n.V.contains i)
theorem scOk_of {sc : Scope} {n : Nm} (h : scB sc n = true) : ScOk sc n := by
  unfold scB at h
  simp only [Bool.and_eq_true, decide_eq_true_eq, List.all_eq_true, List.mem_range] at h
  obtain ⟨⟨⟨h1, h2⟩, h3⟩, h4⟩ := h
  have at_ : ∀ (i : Nat) (x : Str), n.N[i]? = some x → ((!n.V.contains i || (sc.names.lookup x == some .local || sc.names.lookup x == some .cell)) && !(x == ("__debug__" : Str)) && !(x == ("__classdict__" : Str)) && (!n.lc.contains i || sc.names.lookup x == some .local)) = true := fun i x e => by
    have := h2 i (List.getElem?_eq_some_iff.mp e).1
    rw [e] at this; exact this
  refine ⟨h1, fun i x hv e => ?_, fun i x e => ?_, fun i x e => ?_, fun i x hv e => ?_, fun i hi => ?_⟩
  · have := at_ i x e
    simp only [Bool.and_eq_true, hv, Bool.not_true, Bool.false_or, Bool.or_eq_true, beq_iff_eq] at this
    exact this.1.1.1
  · have := at_ i x e
    simp only [Bool.and_eq_true, Bool.not_eq_true'] at this
    exact ⟨this.1.1.2, this.1.2⟩
  · have := h3 x (List.mem_of_getElem? e)
    simp only [Bool.and_eq_true, beq_iff_eq, Bool.not_eq_true'] at this
    exact ⟨this.1.1, this.1.2, by intro z; subst z; simp at this⟩
  · have := at_ i x e
    simp only [Bool.and_eq_true, hv, Bool.not_true, Bool.false_or, beq_iff_eq] at this
    exact this.2
  · rw [List.contains_iff_mem] at hi
    exact h4 i hi
/-- THE RULE: a def keeps its promise -/
theorem fn_body {P : Program} {w : World} {K : PySem.W.Frag} {mg : Str → Option Value} {base : Heap} {qual : Str} {st : Stmt} {f : Addr} {qs : List Str} {n : Nm} {S : Sg} {G : Cx → Prop} (sc : FnScope n.N qs (defScope st)) (sb : ScOk (defScope st) n) (hsc : n.sc = none ∨ n.sc = some (defScope st))
    (hS : ∀ ps Post, S ps Post → ps.length = qs.length ∧ parOi 0 ps = n.oi)
    (body : ∀ (X : Cx) (c : Cc), X.prog = P ∧ X.w = w ∧ X.K = K ∧ X.mg = mg ∧ X.base = base ∧ Room n.k X.A → G X → ∀ ps Post, S ps Post → WB X n c (entry n.N ps) (defBody st) (fnD n.oi Post))
    (cdv : Value) (A : Around) (outer : List Env) (s : Shared) (H : Hp) (vs : List V) (Q : VK) (E : XK) (hr : Room n.k (A.deeper (envOfC qual (defScope st) s.heap.objs.size f cdv))) (hG : G (cxOf CX0 P w K mg base n.N qual (defScope st) f cdv A outer s H E).nox) (h : spOf K S vs H Q E) :
    ∃ t, PSs (cxOf CX0 P w K mg base n.N qual (defScope st) f cdv A outer s H E).nox (defBody st) t ∧ t { nx := fun _ H' => Q .non H', rt := Q } (start n.N vs) H := by
  obtain ⟨R, ps, Post, e, hp, nd, hs, q⟩ := h
  obtain ⟨hq1, hq2⟩ := hS ps Post hs
  refine ⟨_, pWB, ?_⟩
  refine (body _ ⟨R, H, fun a => a ∈ ownAd ps vs, oiOf 0 ps vs, fun _ _ _ => False⟩ ⟨rfl, rfl, rfl, rfl, rfl, hr⟩ hG ps Post hs).run ?_ _ R H (entry_ok e hp nd) _ ?_
  · refine ⟨rfl, sc.nd, fun i x hv hi => ?_, fun i x ha hi => ?_, sb.dbg, sb.gl, sc.kind, fun s0 e0 => ?_, fun _ => rfl, L2H.roomH_of hr, PassesOwn.never, sb.lc, ?_, fun a ha => ?_, takes_no rfl, fun _ => ⟨rfl, rfl⟩⟩
    · rcases sb.vis i x hv hi with h | h
      · exact .inl h
      · exact .inr (.inl h)
    · refine ⟨?_, .inl rfl⟩
      rcases sb.vis i x (sb.as i ha) hi with h | h
      · exact .inl h
      · exact .inr h
    · rcases hsc with h | h
      · rw [h] at e0; cases e0
      · rw [h] at e0; cases e0; rfl
    · rw [← hq2]; exact oiOf_ix hp
    · have ha' : a ∈ (oiOf 0 ps vs).map (·.2) := by rw [oiOf_ad]; exact ha
      obtain ⟨p, hp1, hp2⟩ := List.mem_map.mp ha'
      exact ⟨p.1, by rw [← hp2]; exact hp1⟩
  · have fin : ∀ {σ : St} {R' H' : Hp} {Γ : SL} {v : V} {r r' : Res} {os : List OB}, SOk K ⟨R, H, fun a => a ∈ ownAd ps vs, oiOf 0 ps vs, fun _ _ _ => False⟩ Γ σ R' H' → VOk K ⟨R, H, fun a => a ∈ ownAd ps vs, oiOf 0 ps vs, fun _ _ _ => False⟩ Γ σ R' H' r v → r.le r' → Backs Γ n.oi os → Post r' os → Q v H' :=
      fun {σ R' H' Γ v r r' os} s ro le bk po => by
        refine q v R' H' r' os ⟨s.r0, s.rh, fun a o na h => s.hm a o na h, s.pr, s.un⟩ ?_ ?_ po
        · cases r with
          | d x =>
            cases r' with
            | d y => cases (show Res.d x = Res.d y from le); exact ro
            | own o => exact absurd (show Res.d x = Res.own o from le) (by intro z; cases z)
            | bx _ _ _ _ => exact absurd (show Res.d x = Res.bx _ _ _ _ from le) (by intro z; cases z)
          | own o =>
            cases r' with
            | d y => exact absurd (show Res.own o = Res.d y from le) (by intro z; cases z)
            | own o' => obtain ⟨a, h1, h2, h3, h4, _⟩ := ro; exact ⟨a, h1, OB.le.ok le h2, h3, h4⟩
            | bx _ _ _ _ => exact absurd (show Res.own o = Res.bx _ _ _ _ from le) (by intro z; cases z)
          | bx x b xs o =>
            cases r' with
            | d y => exact absurd (show Res.bx x b xs o = Res.d y from le) (by intro z; cases z)
            | own o' => exact absurd (show Res.bx x b xs o = Res.own o' from le) (by intro z; cases z)
            | bx x' b' xs' o' => cases (show Res.bx x b xs o = Res.bx x' b' xs' o' from le); obtain ⟨h1, h2, h3, h4, _⟩ := ro; exact ⟨h1, h2, h3, h4⟩
        · rw [← oiOf_ad (i := 0)]
          exact OwnsOk.of s (fun _ h => h) (by rw [oiOf_ix hp, hq2]; exact bk)
    exact ⟨fun σ R' H' Γ s e' ⟨os, h1, h2⟩ => fin (v := .non) (r := .d .non) (r' := .d .non) s rfl rfl h1 h2, fun v σ R' H' Γ r s e' ro ⟨r', os, h1, h2, h3⟩ => fin s ro h1 h2 h3, fun σ R' H' Γ s e' h => h.elim, fun σ R' H' Γ s e' h => h.elim⟩
theorem fn_ok {P : Program} {w : World} {K : PySem.W.Frag} {mg : Str → Option Value} {base : Heap} {x qual : Str} {st : Stmt} {f : Addr} {fd : FuncData} {qs : List Str} {n : Nm} {S : Sg} (F : Fun K x qual st f fd) (sc : FnScope n.N qs (defScope st)) (sb : ScOk (defScope st) n) (hsc : n.sc = none ∨ n.sc = some (defScope st))
    (hS : ∀ ps Post, S ps Post → ps.length = qs.length ∧ parOi 0 ps = n.oi)
    (body : ∀ (X : Cx) (c : Cc), X.prog = P ∧ X.w = w ∧ X.K = K ∧ X.mg = mg ∧ X.base = base ∧ Room n.k X.A → ∀ ps Post, S ps Post → WB X n c (entry n.N ps) (defBody st) (fnD n.oi Post)) : FnOk P w K mg base CX0 (n.k + 1) f fd qs (spOf K S) := by
  refine F.ok sc (fun vs H Q E h => ?_) (fun cdv A outer s H vs Q E hr h => fn_body (G := fun _ => True) sc sb hsc hS (fun X c e _ => body X c e) cdv A outer s H vs Q E hr trivial h)
  obtain ⟨R, ps, Post, e, hp, nd, hs, _⟩ := h
  rw [← parsOk_len hp]; exact (hS ps Post hs).1
end DL

end
section
set_option Elab.async false
set_option linter.all false
set_option autoImplicit true
set_option maxRecDepth 100000
set_option maxHeartbeats 400000
namespace DL
open PySem L2
open PyProof.Rows hiding St

/-! ### comprehensions: within, lists and dicts that slots own are only read; a store may be drawn from -/
def Slot.inn : Slot → Slot
  | .own .sto => .own .sto
  | .own (.lst ds) => .w (.lst ds)
  | .own (.dic ds) => .w (.dic ds)
  | .own (.ins nm fs) => .w (.ins nm fs)
  | .own (.lstA _ ds) => .w (.lst ds)
  | .own (.lstV _ _ ds) => .w (.lst ds)
  | .own (.dicA _ ds) => .w (.dic ds)
  | s => s
def stoAd (Γ : SL) (σ : St) (a : Addr) : Prop := ∃ i : Nat, Γ[i]? = some (.own .sto) ∧ σ[i]? = some (some (.ref a))
def Slot.isSto : Slot → Bool
  | .own .sto => true
  | _ => false
theorem isSto_eq {s : Slot} (h : s.isSto = true) : s = .own .sto := by
  cases s with
  | own o => cases o with
    | sto => rfl
    | _ => cases h
  | _ => cases h
def stoIx (Γ : SL) : List Nat := (List.range Γ.length).filter fun i => match Γ[i]? with
  | some s => s.isSto
  | none => false
def inn (Γ : SL) (σ : St) (R H : Hp) : Cc := ⟨R, H, stoAd Γ σ, (stoIx Γ).map fun i => (i, adr ((σ[i]?.bind id).getD .non)), fun _ _ _ => False⟩
section
variable {K : PySem.W.Frag} {c : Cc} {Γ : SL} {σ : St} {R H R' H' : Hp}
theorem mem_stoIx {i : Nat} : i ∈ stoIx Γ ↔ Γ[i]? = some (.own .sto) := by
  unfold stoIx
  rw [List.mem_filter, List.mem_range]
  constructor
  · rintro ⟨h1, h2⟩
    split at h2
    · rename_i s e
      rw [e, isSto_eq h2]
    · cases h2
  · intro h
    refine ⟨(List.getElem?_eq_some_iff.mp h).1, ?_⟩
    rw [h]; rfl
theorem inn_at {i : Nat} {s : Slot} (h : (Γ.map Slot.inn)[i]? = some s) : ∃ s0, Γ[i]? = some s0 ∧ s = s0.inn := by
  rw [List.getElem?_map] at h
  obtain ⟨s0, h1, h2⟩ := Option.map_eq_some_iff.mp h
  exact ⟨s0, h1, h2.symm⟩
theorem inn_own {s0 : Slot} {o : OB} (h : s0.inn = .own o) : s0 = .own .sto ∧ o = .sto := by
  cases s0 with
  | own ob => cases ob with
    | sto => cases h; exact ⟨rfl, rfl⟩
    | lst _ => cases h
    | dic _ => cases h
    | ins _ _ => cases h
    | lstA _ _ => cases h
    | lstV _ _ _ => cases h
    | dicA _ _ => cases h
  | _ => cases h
theorem SOk.enter (s : SOk K c Γ σ R H) (j : Nat) {x : D} {v : V} (hr : Rp K R x v) (hj : ∀ o, Γ[j]? ≠ some (.own o)) : SOk K (inn Γ σ R H) ((Γ.map Slot.inn).set j (.d x)) (σ.set j (some v)) R H := by
  have s1 : SOk K (inn Γ σ R H) (Γ.map Slot.inn) σ R H := by
    refine ⟨s.rh, Ex.refl _, fun _ _ _ h => h, fun _ h => h, fun _ _ h => h, by simp [s.len], fun i sl e => ?_, fun i k a o o' e1 e2 e3 e4 => ?_, fun p hp => ?_⟩
    · obtain ⟨s0, e1, e2⟩ := inn_at e
      obtain ⟨o, q1, q2⟩ := s.sl i s0 e1
      refine ⟨o, q1, ?_⟩
      subst e2
      have nsto : ∀ a, (∃ ds, s0 = .own ds ∧ ds ≠ .sto) → o = some (.ref a) → ¬ (inn Γ σ R H).M a := fun a ⟨ds, z1, z2⟩ z3 ⟨k, w1, w2⟩ => by
        subst z1 z3
        have := s.dj i k a ds .sto e1 w1 q1 w2
        subst this
        rw [e1] at w1; cases w1; exact z2 rfl
      cases s0 with
      | no => exact q2
      | any => exact q2
      | d y => exact q2
      | sc ns => exact q2
      | ex _ _ _ => exact q2
      | bx _ _ _ => exact q2
      | tn _ _ _ => exact q2
      | lk kvs =>
        obtain ⟨a, ws, od, z1, z2, z3, z4⟩ := q2
        refine ⟨a, ws, od, z1, s.hm a _ z3 z2, fun ⟨k, w1, w2⟩ => ?_, z4⟩
        obtain ⟨u', t1, b, t2, t3, t4, t5⟩ := s.sl k _ w1
        rw [w2] at t1; cases t1; cases t2
        rcases t5 with t5 | t5
        · rw [z2] at t5; cases t5
        · exact z3 t5
      | w y =>
        obtain ⟨u, z1, z2⟩ := q2
        refine ⟨u, z1, z2.noM fun a o' w1 w2 w3 => ?_⟩
        rcases w3 with w3 | ⟨k, w4, w5⟩
        · have w3' : H a = none := w3; rw [w3'] at w1; cases w1
        · obtain ⟨u', t1, b, t2, t3, t4, t5⟩ := s.sl k _ w4
          rw [w5] at t1; cases t1; cases t2
          exact w2 t5
      | own ob =>
        obtain ⟨a, z1, z2, z3, z4⟩ := q2
        cases ob with
        | sto => exact ⟨a, z1, z2, z3, .inr ⟨i, e1, by rw [q1, z1]⟩⟩
        | lst ds =>
          obtain ⟨vs, w1, w2⟩ := z2
          refine ⟨_, z1, .inr (.inl ⟨a, vs, ds, rfl, rfl, fun m => ?_, w1, w2⟩)⟩
          rcases m with m | m
          · have m' : H a = none := m; rw [m'] at w1; cases w1
          · exact nsto a ⟨_, rfl, by simp⟩ z1 m
        | dic ds =>
          obtain ⟨vs, w1, w2⟩ := z2
          refine ⟨_, z1, .inr (.inr (.inl ⟨a, vs, ds, rfl, rfl, fun m => ?_, w1, w2⟩))⟩
          rcases m with m | m
          · have m' : H a = none := m; rw [m'] at w1; cases w1
          · exact nsto a ⟨_, rfl, by simp⟩ z1 m
        | lstA _ ds =>
          obtain ⟨_, vs, w1, w2⟩ := z2
          refine ⟨_, z1, .inr (.inl ⟨a, vs, ds, rfl, rfl, fun m => ?_, w1, w2⟩)⟩
          rcases m with m | m
          · have m' : H a = none := m; rw [m'] at w1; cases w1
          · exact nsto a ⟨_, rfl, by simp⟩ z1 m
        | lstV _ vs ds =>
          obtain ⟨_, w1, w2⟩ := z2
          refine ⟨_, z1, .inr (.inl ⟨a, vs, ds, rfl, rfl, fun m => ?_, w1, w2⟩)⟩
          rcases m with m | m
          · have m' : H a = none := m; rw [m'] at w1; cases w1
          · exact nsto a ⟨_, rfl, by simp⟩ z1 m
        | dicA _ ds =>
          obtain ⟨_, vs, w1, w2⟩ := z2
          refine ⟨_, z1, .inr (.inr (.inl ⟨a, vs, ds, rfl, rfl, fun m => ?_, w1, w2⟩))⟩
          rcases m with m | m
          · have m' : H a = none := m; rw [m'] at w1; cases w1
          · exact nsto a ⟨_, rfl, by simp⟩ z1 m
        | ins nm fs =>
          obtain ⟨dx, vs, w1, w2⟩ := z2
          refine ⟨_, z1, .inr (.inr (.inr ⟨a, dx, vs, nm, fs, rfl, rfl, fun m => ?_, w1, w2⟩))⟩
          rcases m with m | m
          · have m' : H a = none := m; rw [m'] at w1; cases w1
          · exact nsto a ⟨_, rfl, by simp⟩ z1 m
    · obtain ⟨s0, f1, f2⟩ := inn_at e1
      obtain ⟨s1, g1, g2⟩ := inn_at e2
      obtain ⟨r1, _⟩ := inn_own f2.symm
      obtain ⟨r2, _⟩ := inn_own g2.symm
      subst r1 r2
      exact s.dj i k a .sto .sto f1 g1 e3 e4
    · obtain ⟨i, hi, e⟩ := List.mem_map.mp hp
      subst e
      have h1 := mem_stoIx.mp hi
      obtain ⟨u', t1, b, t2, t3, t4, t5⟩ := s.sl i _ h1
      subst t2
      refine ⟨?_, .sto, ?_⟩
      · show σ[i]? = some (some (.ref (adr ((σ[i]?.bind id).getD .non))))
        rw [t1]; rfl
      · show (Γ.map Slot.inn)[i]? = _
        rw [List.getElem?_map, h1]; rfl
  refine s1.setD j hr fun z => ?_
  obtain ⟨p, hp, e⟩ := List.mem_map.mp z
  obtain ⟨i, hi, e'⟩ := List.mem_map.mp hp
  subst e'
  have h1 := mem_stoIx.mp hi
  have e : i = j := e
  subst e
  exact hj _ h1
theorem SOk.leave (s : SOk K c Γ σ R H) (j : Nat) {x : D} {v : Option V} (hj : ∀ o, Γ[j]? ≠ some (.own o)) (s' : SOk K (inn Γ σ R H) ((Γ.map Slot.inn).set j (.d x)) (σ.set j v) R' H') : SOk K c Γ σ R' H' := by
  have noM : ∀ a, ¬ (c.H0 a = none ∨ c.M a) → ¬ (inn Γ σ R H).M a := fun a h ⟨k, w4, w5⟩ => by
    obtain ⟨u', t1, b, t2, t3, t4, t5⟩ := s.sl k _ w4
    rw [w5] at t1; cases t1; cases t2
    exact h t5
  have un : ∀ a, H a ≠ none → R a = none → R' a = none := s'.un
  refine ⟨s'.rh, s.r0.trans s'.r0, fun a o n h => ?_, fun a h => s'.pr a (s.pr a h), fun a h1 h2 => un a (s.pr a h1) (s.un a h1 h2), s.len, fun i sl e => ?_, s.dj, s.oi⟩
  · refine s'.hm a o (noM a fun z => ?_) (s.hm a o n h)
    rcases z with z | z
    · rw [z] at h; cases h
    · exact n z
  · obtain ⟨o, q1, q2⟩ := s.sl i sl e
    refine ⟨o, q1, ?_⟩
    cases sl with
    | no => exact q2
    | any => exact q2
    | d y => obtain ⟨u, z1, z2⟩ := q2; exact ⟨u, z1, Rp.mono s'.r0 _ _ z2⟩
    | sc ns => obtain ⟨u, z1, z2⟩ := q2; exact ⟨u, z1, ex_l s'.r0 z2⟩
    | ex _ _ _ => exact ⟨q2.1, q2.2.mono s'.r0⟩
    | bx _ _ _ => obtain ⟨v, z1, z2⟩ := q2; exact ⟨v, z1, z2.mono s'.r0⟩
    | tn _ _ _ => obtain ⟨v, z1, z2⟩ := q2; exact ⟨v, z1, Rp.mono (ex_u s'.r0) _ _ z2⟩
    | lk _ => obtain ⟨b, ws, od, z1, z2, z3, z4⟩ := q2; exact ⟨b, ws, od, z1, z2, z3, z4.mono s'.r0⟩
    | w y => obtain ⟨u, z1, z2⟩ := q2; exact ⟨u, z1, z2.mono s'.r0 fun a o h1 h2 => s'.hm a o (noM a h1) h2⟩
    | own ob =>
      obtain ⟨a, z1, z2, z3, z4⟩ := q2
      refine ⟨a, z1, ?_, un a z2.there z3, z4⟩
      have keep : ob ≠ .sto → ∀ o, H a = some o → H' a = some o := fun hne o ho => s'.hm a o (fun ⟨k, w4, w5⟩ => by
        subst z1
        have := s.dj i k a ob .sto e w4 q1 w5
        subst this
        rw [e] at w4; cases w4; exact hne rfl) ho
      cases ob with
      | lst ds => exact z2.mono s'.r0 (keep (by simp))
      | dic ds => exact z2.mono s'.r0 (keep (by simp))
      | ins nm fs => exact z2.mono s'.r0 (keep (by simp))
      | lstA _ _ => exact z2.mono s'.r0 (keep (by simp))
      | lstV _ _ _ => exact z2.mono s'.r0 (keep (by simp))
      | dicA _ _ => exact z2.mono s'.r0 (keep (by simp))
      | sto =>
        have hij : j ≠ i := fun z => hj _ (z ▸ e)
        obtain ⟨u, t1, b, t2, t3, t4, t5⟩ := s'.sl i (.own .sto) (by rw [List.getElem?_set_ne hij, List.getElem?_map, e]; rfl)
        rw [List.getElem?_set_ne hij, q1] at t1
        cases t1; subst z1; cases t2
        exact t3
/-- a pending list grows -/
theorem SOk.pend (s : SOk K c Γ σ R H) {a : Addr} {ob ob' : OB} {o : HO} (h : VOk K c Γ σ R H (.own ob) (.ref a)) (h' : OBOk K R (upd H a o) a ob') : SOk K c Γ σ R (upd H a o) ∧ VOk K c Γ σ R (upd H a o) (.own ob') (.ref a) := by
  obtain ⟨b, e, h2, h3, h4, h5⟩ := h
  cases e
  refine ⟨⟨fun b u e => ?_, s.r0, fun b u n e => ?_, fun b n => ?_, s.un, s.len, fun i x e => ?_, s.dj, s.oi⟩, a, rfl, h', h3, h4, h5⟩
  · rw [upd_ne (fun z => by rw [z, h3] at e; cases e)]; exact s.rh b u e
  · rw [upd_ne (fun z => by rw [z, h4] at e; cases e)]; exact s.hm b u n e
  · by_cases z : b = a
    · subst z; rw [upd_same]; simp
    · rw [upd_ne z]; exact s.pr b n
  · obtain ⟨u, u1, u2⟩ := s.sl i x e
    refine ⟨u, u1, ?_⟩
    cases x with
    | no => exact u2
    | any => exact u2
    | d x => exact u2
    | sc ns => exact u2
    | ex _ _ _ => exact u2
    | bx _ _ _ => exact u2
    | tn _ _ _ => exact u2
    | lk _ => exact u2
    | w x => obtain ⟨v, z1, z2⟩ := u2; exact ⟨v, z1, z2.mono (Ex.refl _) fun b o nb q => by rw [upd_ne (fun z => nb (by rw [z]; exact .inl h4))]; exact q⟩
    | own o2 =>
      obtain ⟨b, z1, z2, z3, z4⟩ := u2
      refine ⟨b, z1, z2.mono (Ex.refl _) fun o q => ?_, z3, z4⟩
      rw [upd_ne (fun z => by subst z; exact h5 i o2 e (by rw [u1, z1]))]; exact q
end

/-- X' runs a comprehension's block of X -/
def BlkX (X X' : Cx) (scope : Scope) : Prop := ∃ s H C cl fp, X' = X.blk s H scope (compEnvC scope cl C X.env) fp
theorem CalF.blk {X X' : Cx} {sc : Scope} {k : Nat} {nm : Str} {S : Sg} (b : BlkX X X' sc) (h : CalF X k nm S) : CalF X' k nm S := by
  obtain ⟨s, H, C, cl, fp, rfl⟩ := b
  exact ⟨h.rm, h.ex⟩
theorem Blt.blk {X X' : Cx} {sc : Scope} {nm : Str} {f : Value} (b : BlkX X X' sc) (h : Blt X nm f) : Blt X' nm f := by
  obtain ⟨s, H, C, cl, fp, rfl⟩ := b
  exact ⟨h.mg, h.bt⟩
theorem Con.blk {X X' : Cx} {sc : Scope} {nm : Str} {x : D} (b : BlkX X X' sc) (h : Con X nm x) : Con X' nm x := by
  obtain ⟨s, H, C, cl, fp, rfl⟩ := b
  exact ⟨h.ex⟩
theorem lookup_mapV {g : Str → NameKind → NameKind} : ∀ {names : List (Str × NameKind)} {x : Str}, ((names.map fun p => (p.1, g p.1 p.2)).lookup x) = (names.lookup x).map (g x)
  | [], x => rfl
  | (m, k) :: r, x => by
    have ih := @lookup_mapV g r x
    rw [List.map_cons]
    by_cases e : x = m
    · subst e; simp [List.lookup]
    · have e' : (x == m) = false := by simpa using e
      simp only [List.lookup, e']; exact ih
theorem lookup_rel {env : Env} {names : List (Str × NameKind)} {x : Str} : ((names.map fun (n, k) => if (k == NameKind.free && env.scope.kind == .function && env.kindOf n == some .cell) then (n, NameKind.cell) else (n, k)).lookup x) = (names.lookup x).map fun k => if (k == NameKind.free && env.scope.kind == .function && env.kindOf x == some .cell) then NameKind.cell else k := by
  rw [← lookup_mapV (g := fun n k => if (k == NameKind.free && env.scope.kind == .function && env.kindOf n == some .cell) then NameKind.cell else k)]
  congr 2
  funext ⟨m, k⟩
  dsimp only
  split <;> rfl
def scC (scope : Scope) (n : Nm) : Bool :=
  ((List.range n.N.length).all (fun i => match n.N[i]? with
    | some x => (!n.V.contains i || (scope.names.lookup x == some .local || scope.names.lookup x == some .cell || scope.names.lookup x == some .free)) && (!n.as.contains i || (scope.names.lookup x == some .local || scope.names.lookup x == some .cell))
    | none => true)) && n.GN.all (fun x => scope.names.lookup x == some .globalImplicit && !(x == ("__debug__" : Str)) && !(x == ("__name__" : Str)))
theorem nok_blk {X X' : Cx} {n n' : Nm} {c c' : Cc} {scope : Scope} (xw : c'.xw = fun _ _ _ => False) (b : BlkX X X' scope) (hk : scope.kind = .function) (hn : NOk X n c) (h : scC scope n' = true) (e1 : n'.N = n.N) (e2 : n'.k = n.k) (e3 : n'.lc = []) (e4 : n'.sc = none) (h0 : n.hot = false) (oi : c'.oi.map (·.1) = n'.oi) (cm : ∀ a, c'.M a → ∃ j, (j, a) ∈ c'.oi) : NOk X' n' c' := by
  obtain ⟨s, H, C, cl, fp, rfl⟩ := b
  unfold scC at h
  simp only [Bool.and_eq_true, List.all_eq_true, List.mem_range] at h
  obtain ⟨h2, h3⟩ := h
  have at_ : ∀ (i : Nat) (x : Str), n'.N[i]? = some x → ((!n'.V.contains i || (scope.names.lookup x == some .local || scope.names.lookup x == some .cell || scope.names.lookup x == some .free)) && (!n'.as.contains i || (scope.names.lookup x == some .local || scope.names.lookup x == some .cell))) = true := fun i x e => by
    have := h2 i (List.getElem?_eq_some_iff.mp e).1
    rw [e] at this; exact this
  have lk : ∀ x, (compEnvC scope cl C X.env).scope.names.lookup x = (scope.names.lookup x).map fun k => if (k == NameKind.free && X.env.scope.kind == .function && X.env.kindOf x == some .cell) then NameKind.cell else k := fun x => lookup_rel
  refine ⟨hn.eq.trans e1.symm, by rw [e1]; exact hn.nd, fun i x hv e => ?_, fun i x ha e => ?_, fun i x e => hn.dbg i x (e1 ▸ e), fun i x e => ?_, hk, fun s0 z => ?_, fun _ => hn.calm h0, by rw [e2]; exact hn.room, PassesOwn.never, fun i x hl => ?_, oi, cm, takes_no xw, fun z => absurd e3 z⟩
  · have := at_ i x e
    simp only [Bool.and_eq_true, hv, Bool.not_true, Bool.false_or, Bool.or_eq_true, beq_iff_eq] at this
    unfold Vis
    show (compEnvC scope cl C X.env).scope.names.lookup x = _ ∨ (compEnvC scope cl C X.env).scope.names.lookup x = _ ∨ (compEnvC scope cl C X.env).scope.names.lookup x = _
    rw [lk x]
    rcases this.1 with (q | q) | q
    · rw [q]; exact .inl rfl
    · rw [q]; exact .inr (.inl rfl)
    · rw [q]
      by_cases cc : ((NameKind.free == NameKind.free) && X.env.scope.kind == .function && X.env.kindOf x == some .cell) = true
      · exact .inr (.inl (by simp only [Option.map_some, cc, if_true]))
      · exact .inr (.inr (by simp only [Option.map_some, cc]; rfl))
  · have := at_ i x e
    simp only [Bool.and_eq_true, ha, Bool.not_true, Bool.false_or, Bool.or_eq_true, beq_iff_eq] at this
    rcases this.2 with t | t
    · have q : (compEnvC scope cl C X.env).scope.names.lookup x = some .local := by rw [lk x, t]; rfl
      exact ⟨.inl q, .inr q⟩
    · have q : (compEnvC scope cl C X.env).scope.names.lookup x = some .cell := by rw [lk x, t]; rfl
      exact ⟨.inr q, .inl (by show (scope.names.lookup x == some .cell) = true; rw [t]; rfl)⟩
  · have := h3 x (List.mem_of_getElem? e)
    simp only [Bool.and_eq_true, beq_iff_eq, Bool.not_eq_true'] at this
    refine ⟨?_, this.1.2, by intro z; subst z; simp at this⟩
    show (compEnvC scope cl C X.env).scope.names.lookup x = _
    rw [lk x, this.1.1]; rfl
  · rw [e4] at z; cases z
  · rw [e3] at hl; cases hl

section
variable {X : Cx} {n : Nm} {c : Cc} {Γ : SL} {e a b : Expr} {x y z : D} {pos p p2 : Pos} {nm : Str} {k : AK} {iter elt : Expr} {scope : Scope} {n' : Nm} {ds : List D}
/-- a comprehension's tests -/
def WTs (X : Cx) (n : Nm) (c : Cc) (Γ : SL) (ifs : List Expr) (Post : Bool → SL → Prop) : Prop := match ifs with
  | [] => Post true Γ
  | [t] => WT X n c Γ t Post
  | _ => False
def tTs (X : Cx) : List Expr → TT
  | [] => tYes
  | [t] => tWT X t
  | _ => tYes
theorem pts_of {X : Cx} : ∀ {ifs : List Expr}, ifs.length ≤ 1 → PTs X ifs (tTs X ifs)
  | [], _ => pts_nil
  | [t], _ => pts_one pWT
  | _ :: _ :: _, h => by simp at h
theorem sto_cm {σ : St} {R H : Hp} : (∀ a, (inn Γ σ R H).M a → ∃ j, (j, a) ∈ (inn Γ σ R H).oi) ∧ (inn Γ σ R H).oi.map (·.1) = stoIx Γ := by
  refine ⟨fun a ⟨i, h1, h2⟩ => ⟨i, List.mem_map.mpr ⟨i, mem_stoIx.mpr h1, by rw [h2]; rfl⟩⟩, ?_⟩
  show ((stoIx Γ).map _).map _ = _
  rw [List.map_map]
  exact List.map_id _
theorem lc_bk {X : Cx} {n : Nm} {c : Cc} {s0 scope : Scope} {own : List (Str × Nat)} (hn : NOk X n c) (e0 : n.sc = some s0) (hb : blkC n.N s0 scope own = true) : BlkOk X.N X.env.scope scope own := by rw [hn.eq, hn.scp s0 e0]; exact blkOk_by hb
/-- what a comprehension's block is: its scope, its names -/
structure LcOk (X : Cx) (n n' : Nm) (Γ : SL) (scope : Scope) (nm : Str) (j : Nat) : Prop where
  sc : ∀ c, NOk X n c → BlkOk X.N X.env.scope scope [(nm, j)]
  in_ : scC scope n' = true
  eN : n'.N = n.N
  ek : n'.k = n.k
  el : n'.lc = []
  es : n'.sc = none
  eo : n'.oi = stoIx Γ
  as : n'.as.contains j = true
  hj : n.N[j]? = some nm
  no : ∀ o, Γ[j]? ≠ some (.own o)
  hot : n.hot = false
def lcT (X : Cx) (scope : Scope) (ifs : List Expr) : TT := fun σ H Q => ∀ s H0 C cl fp, tTs (X.blk s H0 scope (compEnvC scope cl C X.env) fp) ifs σ H Q
def lcE (X : Cx) (scope : Scope) (elt : Expr) : TE := fun σ H Q => ∀ s H0 C cl fp, tW (X.blk s H0 scope (compEnvC scope cl C X.env) fp) elt σ H Q
/-- the rule's parts that hang on the block alone -/
theorem lc_pe (j : Nat) {ifs : List Expr} {tp : Pos} {wi : TI} (L : LcOk X n n' Γ scope nm j) (hn : NOk X n c) (hi : PI X (.Name nm tp) iter wi) (hifs : ifs.length ≤ 1) (hs : ∀ x, foldedSetIterable iter X.env x = pure x) :
    PE X (.ListComp elt [⟨.Name nm tp, iter, ifs, 0⟩] scope pos) (tLc wi (gName j) (lcT X scope ifs) (lcE X scope elt) [j]) := by
  have bk : BlkOk X.N X.env.scope scope [(nm, j)] := L.sc _ hn
  have hN : X.N.Nodup := by rw [hn.eq]; exact hn.nd
  refine pe_lc (own := [(nm, j)]) (hn.calm L.hot) hN hi bk ?_ ?_ ?_ hs
  · intro s1 H1 C cl fp
    have := nok_blk (c' := ⟨H1, H1, fun _ => False, n'.oi.map fun i => (i, 0), fun _ _ _ => False⟩) rfl ⟨s1, H1, C, cl, fp, rfl⟩ bk.kind hn L.in_ L.eN L.ek L.el L.es L.hot (by simp [List.map_map, Function.comp_def]) (fun _ h => h.elim)
    obtain ⟨l1, l2⟩ := this.loc j nm L.as (by rw [L.eN]; exact L.hj)
    exact pg_name hN (by rw [hn.eq]; exact L.hj) l1 l2
  · intro s1 H1 C cl fp
    exact ⟨fun pins s2 σ2 H2 Q2 I h => (pts_of hifs).run pins s2 σ2 H2 Q2 I (h s1 H1 C cl fp)⟩
  · intro s1 H1 C cl fp
    exact ⟨fun pins s2 σ2 H2 Q2 I h => pW.run pins s2 σ2 H2 Q2 I (h s1 H1 C cl fp)⟩
/-- .. stored to a name at once -/
theorem lc_ps (j iy : Nat) {ifs : List Expr} {tp py spos : Pos} {ny : Str} {wi : TI} (L : LcOk X n n' Γ scope nm j) (hn : NOk X n c) (hi : PI X (.Name nm tp) iter wi) (hifs : ifs.length ≤ 1) (hs : ∀ x, foldedSetIterable iter X.env x = pure x)
    (hy : n.N[iy]? = some ny) (hyl : n.lc.contains iy = true) (hln : (py.line == pos.line) = true) (hany : (scope.names.any fun (m, k) => m == ny && (k == .local || k == .cell)) = false) :
    PS X (.Assign [.Name ny py] (.ListComp elt [⟨.Name nm tp, iter, ifs, 0⟩] scope pos) spos) (tAsg (tLc wi (gName j) (lcT X scope ifs) (lcE X scope elt) [j]) (gName iy)) := by
  have bk : BlkOk X.N X.env.scope scope [(nm, j)] := L.sc _ hn
  have hN : X.N.Nodup := by rw [hn.eq]; exact hn.nd
  have hl := hn.lc iy ny hyl hy
  refine ps_setLc (own := [(nm, j)]) (hn.calm L.hot) hN (by rw [hn.eq]; exact hy) hl (sw_true hn.kind hl hln hany) hi bk ?_ ?_ ?_ hs
  · intro s1 H1 C cl fp
    have := nok_blk (c' := ⟨H1, H1, fun _ => False, n'.oi.map fun i => (i, 0), fun _ _ _ => False⟩) rfl ⟨s1, H1, C, cl, fp, rfl⟩ bk.kind hn L.in_ L.eN L.ek L.el L.es L.hot (by simp [List.map_map, Function.comp_def]) (fun _ h => h.elim)
    obtain ⟨l1, l2⟩ := this.loc j nm L.as (by rw [L.eN]; exact L.hj)
    exact pg_name hN (by rw [hn.eq]; exact L.hj) l1 l2
  · intro s1 H1 C cl fp
    exact ⟨fun pins s2 σ2 H2 Q2 I h => (pts_of hifs).run pins s2 σ2 H2 Q2 I (h s1 H1 C cl fp)⟩
  · intro s1 H1 C cl fp
    exact ⟨fun pins s2 σ2 H2 Q2 I h => pW.run pins s2 σ2 H2 Q2 I (h s1 H1 C cl fp)⟩
/-- what stands between two turns -/
def LcInv (K : PySem.W.Frag) (c : Cc) (Γ : SL) (σ : St) (R1 : Hp) (Dl : Addr) (Keep : Hp → Prop) (Acc : Nat → List D → Prop) (i : Nat) (H : Hp) : Prop :=
  ∃ R acc, SOk K c Γ σ R H ∧ Ex R1 R ∧ Keep H ∧ VOk K c Γ σ R H (.own (.lst acc)) (.ref Dl) ∧ acc.length ≤ i ∧ Acc i acc
theorem lc_step (j : Nat) {ifs : List Expr} {Acc : Nat → List D → Prop} {Tst : Bool → Prop} {i : Nat} {d : D} {v : V} {σ : St} {R1 H : Hp} {Dl : Addr} {Keep : Hp → Prop} (L : LcOk X n n' Γ scope nm j) (hn : NOk X n c) (hi : i < 1000000) (hkeep : ∀ H H', (∀ b o, b ≠ Dl → ¬ stoAd Γ σ b → H b = some o → H' b = some o) → Keep H → Keep H')
    (hd : Rp X.K R1 d v) (h : LcInv X.K c Γ σ R1 Dl Keep Acc i H) (ht : ∀ X' c', BlkX X X' scope → WTs X' n' c' ((Γ.map Slot.inn).set j (.d d)) ifs fun q Γ2 => Γ2 = (Γ.map Slot.inn).set j (.d d) ∧ Tst q)
    (he : ∀ X' c', BlkX X X' scope → Tst true → ∀ acc, Acc i acc → acc.length ≤ i → WE X' n' c' ((Γ.map Slot.inn).set j (.d d)) elt fun y Γ3 => Γ3 = (Γ.map Slot.inn).set j (.d d) ∧ Acc (i + 1) (acc ++ [y]))
    (hf : Tst false → ∀ acc, Acc i acc → Acc (i + 1) acc) (hifs : ifs.length ≤ 1) :
    gName j v (wipe σ [j]) H fun σ2 H2 => wipe σ2 [j] = wipe σ [j] ∧ (lcT X scope ifs σ2 H2 fun b H3 =>
      if b = true then (lcE X scope elt σ2 H3 fun y H4 => ∃ acc, H4 Dl = some (.lst acc) ∧ acc.length < sizeLine ∧ LcInv X.K c Γ σ R1 Dl Keep Acc (i + 1) (upd H4 Dl (.lst (acc ++ [y])))) else LcInv X.K c Γ σ R1 Dl Keep Acc (i + 1) H3) := by
  have bk : BlkOk X.N X.env.scope scope [(nm, j)] := L.sc _ hn
  have w0 : wipe σ [j] = σ.set j none := rfl
  have w1 : (wipe σ [j]).set j (some v) = σ.set j (some v) := by rw [w0, List.set_set]
  have w2 : wipe (σ.set j (some v)) [j] = wipe σ [j] := by show (σ.set j (some v)).set j none = σ.set j none; rw [List.set_set]
  obtain ⟨R, acc, s, e1, kp, ⟨aa, ea, ⟨accV, hA1, hA2⟩, hA3, hA4, hA5⟩, hl, ha⟩ := h
  cases ea
  have nsto : ¬ stoAd Γ σ Dl := fun ⟨i, w1, w2⟩ => hA5 i _ w1 w2
  have sin := s.enter j (Rp.mono e1 _ _ hd) L.no
  obtain ⟨o1, o2⟩ := sto_cm (Γ := Γ) (σ := σ) (R := R) (H := H)
  have nk : ∀ X', BlkX X X' scope → NOk X' n' (inn Γ σ R H) := fun X' b => nok_blk rfl b bk.kind hn L.in_ L.eN L.ek L.el L.es L.hot (o2.trans L.eo.symm) o1
  have at4 : ∀ R4 H4, SOk X.K (inn Γ σ R H) ((Γ.map Slot.inn).set j (.d d)) (σ.set j (some v)) R4 H4 → SOk X.K c Γ σ R4 H4 ∧ VOk X.K c Γ σ R4 H4 (.own (.lst acc)) (.ref Dl) ∧ H4 Dl = some (.lst accV) ∧ RpL X.K R4 acc accV ∧ Keep H4 := fun R4 H4 s4 => by
    have hD : H4 Dl = some (.lst accV) := s4.hm Dl _ nsto hA1
    have hR : RpL X.K R4 acc accV := hA2.mono s4.r0
    exact ⟨s.leave j L.no s4, ⟨Dl, rfl, ⟨accV, hD, hR⟩, s4.un Dl (by show H Dl ≠ none; rw [hA1]; simp) hA3, hA4, hA5⟩, hD, hR, hkeep H H4 (fun b o _ nb hb => s4.hm b o nb hb) kp⟩
  unfold gName
  rw [w1]
  refine ⟨w2, fun s1 H1 C cl fp => ?_⟩
  have go : ∀ (b : Bool) (R3 H3 : Hp), SOk X.K (inn Γ σ R H) ((Γ.map Slot.inn).set j (.d d)) (σ.set j (some v)) R3 H3 → Tst b →
      if b = true then (∀ s H0 C cl fp, tW (X.blk s H0 scope (compEnvC scope cl C X.env) fp) elt (σ.set j (some v)) H3 fun y H4 => ∃ acc, H4 Dl = some (.lst acc) ∧ acc.length < sizeLine ∧ LcInv X.K c Γ σ R1 Dl Keep Acc (i + 1) (upd H4 Dl (.lst (acc ++ [y])))) else LcInv X.K c Γ σ R1 Dl Keep Acc (i + 1) H3 := by
    intro b R3 H3 s3 tb
    cases b with
    | true =>
      rw [if_pos rfl]
      intro s2 H2 C2 cl2 fp2
      refine (he _ (inn Γ σ R H) ⟨s2, H2, C2, cl2, fp2, rfl⟩ tb acc ha hl).run (nk _ ⟨s2, H2, C2, cl2, fp2, rfl⟩) _ R3 H3 s3 _ fun u R4 H4 y Γ4 s4 e4 r4 ⟨g1, g2⟩ => ?_
      subst g1
      obtain ⟨v1, v2, v3, v4, v5⟩ := at4 R4 H4 s4
      refine ⟨accV, v3, by have := v4.length; rw [sizeLine_eq]; omega, ?_⟩
      obtain ⟨t1, t2⟩ := v1.pend (ob' := .lst (acc ++ [y])) (o := .lst (accV ++ [u])) v2 ⟨_, upd_same, v4.append (.one r4)⟩
      exact ⟨R4, acc ++ [y], t1, e1.trans s4.r0, hkeep H4 _ (fun b o nb _ hb => by rw [upd_ne nb]; exact hb) v5, t2, by simp; omega, g2⟩
    | false =>
      rw [if_neg Bool.false_ne_true]
      obtain ⟨v1, v2, v3, v4, v5⟩ := at4 R3 H3 s3
      exact ⟨R3, acc, v1, e1.trans s3.r0, v5, v2, by omega, hf tb acc ha⟩
  have hT := ht _ (inn Γ σ R H) ⟨s1, H1, C, cl, fp, rfl⟩
  match ifs, hifs, hT with
  | [], _, hT => exact go true R H sin hT.2
  | [t], _, hT =>
    exact (WT.run (show WT _ _ _ _ t _ from hT)) (nk _ ⟨s1, H1, C, cl, fp, rfl⟩) _ R H sin _ fun R3 H3 b Γ3 s3 e3 ⟨g1, g2⟩ => by
      subst g1
      exact go b R3 H3 s3 g2
theorem lc_fin {Acc : Nat → List D → Prop} {σ : St} {R1 H : Hp} {Dl : Addr} {Keep : Hp → Prop} {m : Nat} {Q : VK} (h : LcInv X.K c Γ σ R1 Dl Keep Acc m H) (q : ∀ v R' H' o Γ', SOk X.K c Γ' σ R' H' → Ex R1 R' → VOk X.K c Γ' σ R' H' (.own o) v → (Γ' = Γ ∧ ∃ out, o = .lst out ∧ Acc m out) → Q v H') : Q (.ref Dl) H := by
  obtain ⟨R, acc, s, e1, kp, vo, hl, ha⟩ := h
  exact q _ R H _ Γ s e1 vo ⟨rfl, acc, rfl, ha⟩
theorem lc_start {Acc : Nat → List D → Prop} {σ : St} {R H : Hp} {Dl : Addr} {Keep : Hp → Prop} (s : SOk X.K c Γ σ R H) (hD : H Dl = none) (kp : Keep (upd H Dl (.lst []))) (h0 : Acc 0 []) : LcInv X.K c Γ σ R Dl Keep Acc 0 (upd H Dl (.lst [])) :=
  ⟨R, [], s.grow (s.newOwn (.lst []) hD), Ex.refl _, kp, .fresh s hD ⟨[], upd_same, .nil⟩, Nat.le_refl _, h0⟩
/-- what is read is no store -/
theorem no_sto {K : PySem.W.Frag} {σ : St} {R H : Hp} {a : Addr} (s : SOk K c Γ σ R H) (r : AkOk K R σ k (.ref a)) (hg : k.get Γ = some (.lst ds)) : ¬ stoAd Γ σ a := fun ⟨i, w1, w2⟩ => by
  obtain ⟨u', t1, b, t2, ⟨ns, pl, gr, st, lf, ct, hB, us, t3, t4⟩, t5, t6⟩ := s.sl i _ w1
  rw [w2] at t1; cases t1; cases t2
  have frz : Rp K R (.lst ds) (.ref a) → False := fun h => by
    obtain ⟨b, ws, q1, q2, q3⟩ := h; cases q1; rw [t5] at q2; cases q2
  have slot : ∀ (i' : Nat) (sl : Slot), Γ[i']? = some sl → sl.data = some (.lst ds) → σ[i']? = some (some (.ref a)) → False := fun i' sl e1 e2 e3 => by
    obtain ⟨o, q1, q2⟩ := s.sl i' sl e1
    rw [e3] at q1; cases q1
    cases sl with
    | d y => cases e2; obtain ⟨v, z1, z2⟩ := q2; cases z1; exact frz z2
    | w y =>
      cases e2
      obtain ⟨v, z1, z2⟩ := q2; cases z1
      rcases z2 with z2 | ⟨b, vs, ds, z3, z4, z5, _⟩ | ⟨b, vs, ds, z3, z4, z5, _⟩ | ⟨b, dx, vs, nm, ds, z3, z4, z5, _⟩
      · exact frz z2
      · cases z3; exact z5 t6
      · cases z3; exact z5 t6
      · cases z3; exact z5 t6
    | own ob =>
      have := s.dj i i' a .sto ob w1 e1 w2 e3
      subst this
      rw [w1] at e1; cases e1; cases e2
    | _ => cases e2
  cases k with
  | d y => cases hg; exact frz r
  | v y => cases hg; exact frz r
  | s i' => obtain ⟨sl, e1, e2⟩ := Option.bind_eq_some_iff.mp hg; exact slot i' sl e1 e2 r
  | o i' => obtain ⟨sl, e1, e2⟩ := Option.bind_eq_some_iff.mp hg; exact slot i' sl e1 e2 r
/-- [elt for name in a list (if ..)]: Acc tells what is made so far, Tst what a test's answer tells -/
theorem rd_lcL (j : Nat) {ifs : List Expr} {Post : OB → SL → Prop} (Acc : Nat → List D → Prop) (Tst : Nat → D → Bool → Prop) (L : LcOk X n n' Γ scope nm j) (hk : EK X n c Γ iter k) (hg : k.get Γ = some (.lst ds)) (hz : ds.length ≤ 100000) (h0 : Acc 0 [])
    (ht : ∀ X' c', BlkX X X' scope → ∀ i d, ds[i]? = some d → WTs X' n' c' ((Γ.map Slot.inn).set j (.d d)) ifs fun q Γ2 => Γ2 = (Γ.map Slot.inn).set j (.d d) ∧ Tst i d q)
    (he : ∀ X' c', BlkX X X' scope → ∀ i d acc, ds[i]? = some d → Tst i d true → Acc i acc → acc.length ≤ i → WE X' n' c' ((Γ.map Slot.inn).set j (.d d)) elt fun y Γ3 => Γ3 = (Γ.map Slot.inn).set j (.d d) ∧ Acc (i + 1) (acc ++ [y]))
    (hf : ∀ i d acc, ds[i]? = some d → Tst i d false → Acc i acc → Acc (i + 1) acc) (hd : ∀ out, Acc ds.length out → Post (.lst out) Γ)
    (hifs : ifs.length ≤ 1) (hn : NOk X n c) {σ : St} {R H : Hp} (s : SOk X.K c Γ σ R H) (Q : VK)
    (q : ∀ v R' H' o Γ', SOk X.K c Γ' σ R' H' → Ex R R' → VOk X.K c Γ' σ R' H' (.own o) v → Post o Γ' → Q v H') : tLc (iList X.K (tW X iter)) (gName j) (lcT X scope ifs) (lcE X scope elt) [j] σ H Q := by
  refine hk.run hn σ R H s _ fun v R1 H1 k1 Γ1 s1 e1 r1 ⟨g1, g2⟩ => ?_
  subst g1
  rw [g2] at s1
  obtain ⟨a, vs, rfl, hA, hr⟩ := (r1.wk s1 hg).lst s1.rh
  have nst : ¬ stoAd Γ σ a := no_sto s1 r1 hg
  refine ⟨a, rfl, ⟨vs, .inl (.inl hA)⟩, fun Dl hD => ?_⟩
  have nDa : a ≠ Dl := fun z => by rw [z, hD] at hA; cases hA
  refine lc_list (K := X.K) (a := a) (xs := vs) (g := gName j) (tt := lcT X scope ifs) (te := lcE X scope elt) (vs := [j]) (σ := σ) (Qd := fun H => Q (.ref Dl) H) (LcInv X.K c Γ σ R1 Dl (fun H' => H' a = some (.lst vs)) Acc) (lc_start s1 hD (by rw [upd_ne nDa]; exact hA) h0) (fun i H' _ ⟨_, _, _, _, kp, _⟩ => .inl (.inl kp)) (fun i x H' hi h => ?_) (fun H' h => ?_)
  · obtain ⟨d, hd1, hd2⟩ := hr.get' hi
    have hlt := (List.getElem?_eq_some_iff.mp hd1).1
    exact lc_step j (Tst := Tst i d) L hn (by omega) (fun H H' k kp => k a _ nDa nst kp) hd2 h (fun X' c' b => ht X' c' b i d hd1) (fun X' c' b tb acc ha hl => he X' c' b i d acc hd1 tb ha hl) (fun tb acc ha => hf i d acc hd1 tb ha) hifs
  · rw [← hr.length] at h
    exact lc_fin h fun v R' H' o Γ' s' e' vo ⟨g1, out, g3, g4⟩ => by
      subst g1 g3
      exact q v R' H' _ _ s' (e1.trans e') vo (hd out g4)
theorem wo_lcL (j : Nat) {ifs : List Expr} {tp : Pos} {Post : OB → SL → Prop} (Acc : Nat → List D → Prop) (Tst : Nat → D → Bool → Prop) (L : LcOk X n n' Γ scope nm j) (hk : EK X n c Γ iter k) (hg : k.get Γ = some (.lst ds)) (hz : ds.length ≤ 100000) (h0 : Acc 0 [])
    (ht : ∀ X' c', BlkX X X' scope → ∀ i d, ds[i]? = some d → WTs X' n' c' ((Γ.map Slot.inn).set j (.d d)) ifs fun q Γ2 => Γ2 = (Γ.map Slot.inn).set j (.d d) ∧ Tst i d q)
    (he : ∀ X' c', BlkX X X' scope → ∀ i d acc, ds[i]? = some d → Tst i d true → Acc i acc → acc.length ≤ i → WE X' n' c' ((Γ.map Slot.inn).set j (.d d)) elt fun y Γ3 => Γ3 = (Γ.map Slot.inn).set j (.d d) ∧ Acc (i + 1) (acc ++ [y]))
    (hf : ∀ i d acc, ds[i]? = some d → Tst i d false → Acc i acc → Acc (i + 1) acc) (hd : ∀ out, Acc ds.length out → Post (.lst out) Γ)
    (hifs : ifs.length ≤ 1 := by decide) (hs : ∀ x, foldedSetIterable iter X.env x = pure x := by intro _; rfl) : WO X n c Γ (.ListComp elt [⟨.Name nm tp, iter, ifs, 0⟩] scope pos) Post := .mk fun hn σ R H s Q q => by
  exact (lc_pe j L hn (pi_list pW) hifs hs).w (rd_lcL j Acc Tst L hk hg hz h0 ht he hf hd hifs hn s Q q)
theorem ws_lcL (j : Nat) {ifs : List Expr} {tp : Pos} {De : DE} {py spos : Pos} {ny : Str} (iy : Nat) (Acc : Nat → List D → Prop) (Tst : Nat → D → Bool → Prop) (L : LcOk X n n' Γ scope nm j) (hk : EK X n c Γ iter k) (hg : k.get Γ = some (.lst ds)) (hz : ds.length ≤ 100000) (h0 : Acc 0 [])
    (ht : ∀ X' c', BlkX X X' scope → ∀ i d, ds[i]? = some d → WTs X' n' c' ((Γ.map Slot.inn).set j (.d d)) ifs fun q Γ2 => Γ2 = (Γ.map Slot.inn).set j (.d d) ∧ Tst i d q)
    (he : ∀ X' c', BlkX X X' scope → ∀ i d acc, ds[i]? = some d → Tst i d true → Acc i acc → acc.length ≤ i → WE X' n' c' ((Γ.map Slot.inn).set j (.d d)) elt fun y Γ3 => Γ3 = (Γ.map Slot.inn).set j (.d d) ∧ Acc (i + 1) (acc ++ [y]))
    (hf : ∀ i d acc, ds[i]? = some d → Tst i d false → Acc i acc → Acc (i + 1) acc) (hd : ∀ out, Acc ds.length out → De.nx (Γ.set iy (.own (.lst out))))
    (hifs : ifs.length ≤ 1 := by decide) (hs : ∀ x, foldedSetIterable iter X.env x = pure x := by intro _; rfl) 
    (hy : n.N[iy]? = some ny := by rfl) (hyl : n.lc.contains iy = true := by rfl) (hyo : n.oi.contains iy = false := by rfl) (hln : (py.line == pos.line) = true := by rfl) (hany : (scope.names.any fun (m, k) => m == ny && (k == .local || k == .cell)) = false := by decide +kernel) : WS X n c Γ (.Assign [.Name ny py] (.ListComp elt [⟨.Name nm tp, iter, ifs, 0⟩] scope pos) spos) De := .mk fun hn σ R H s E ok => by
  refine (lc_ps j iy L hn (pi_list pW) hifs hs hy hyl hln hany).w ?_
  show tLc _ _ _ _ _ σ H fun x H1 => gName iy x σ H1 E.nx
  exact rd_lcL (Post := fun o Γ' => De.nx (Γ'.set iy (.own o))) j Acc Tst L hk hg hz h0 ht he hf (fun out ho => hd out ho) hifs hn s _ fun v R' H' o Γ' s' e' vo p' => ok.nx _ R' H' _ (s'.setO iy vo (hn.noi hyo)) e' p'

/-- .. in range(m) -/
theorem rd_lcR1 (j : Nat) {ifs : List Expr} {Post : OB → SL → Prop} (Acc : Nat → List D → Prop) (Tst : Nat → Bool → Prop) (m : Nat) (L : LcOk X n n' Γ scope nm j) (hb : Blt X "range" (.type "range")) (jr : Nat) (hk : WE X n c Γ a fun x Γ1 => ∃ i : Int, x = .int i ∧ i.toNat = m ∧ i < 2 ^ 62 ∧ -(2 ^ 62) ≤ i ∧ Γ1 = Γ) (hz : m ≤ 100000) (h0 : Acc 0 [])
    (ht : ∀ X' c', BlkX X X' scope → ∀ i, i < m → WTs X' n' c' ((Γ.map Slot.inn).set j (.d (.int (i : Int)))) ifs fun q Γ2 => Γ2 = (Γ.map Slot.inn).set j (.d (.int (i : Int))) ∧ Tst i q)
    (he : ∀ X' c', BlkX X X' scope → ∀ i acc, i < m → Tst i true → Acc i acc → acc.length ≤ i → WE X' n' c' ((Γ.map Slot.inn).set j (.d (.int (i : Int)))) elt fun y Γ3 => Γ3 = (Γ.map Slot.inn).set j (.d (.int (i : Int))) ∧ Acc (i + 1) (acc ++ [y]))
    (hf : ∀ i acc, i < m → Tst i false → Acc i acc → Acc (i + 1) acc) (hd : ∀ out, Acc m out → Post (.lst out) Γ)
    (hjr : n.GN[jr]? = some ("range" : Str)) (hst : starEach [a] X.env = [(false, eval a X.env)])
    (hifs : ifs.length ≤ 1) (hn : NOk X n c) {σ : St} {R H : Hp} (s : SOk X.K c Γ σ R H) (Q : VK)
    (q : ∀ v R' H' o Γ', SOk X.K c Γ' σ R' H' → Ex R R' → VOk X.K c Γ' σ R' H' (.own o) v → Post o Γ' → Q v H') : tLc (iRng1 (tCons (tW X a) tNil)) (gName j) (lcT X scope ifs) (lcE X scope elt) [j] σ H Q := by
  obtain ⟨g1, g2, g3⟩ := hn.gl jr _ hjr
  refine hk.run hn σ R H s _ fun v R1 H1 x Γ1 s1 e1 r1 ⟨i, hx, h1, h2, h3, g4⟩ => ?_
  subst hx
  rw [g4] at s1
  cases (show v = .int i from r1)
  refine ⟨i, rfl, h3, h2, fun Dl hD => ?_⟩
  rw [h1]
  refine lc_range (lo := 0) (n := m) (g := gName j) (tt := lcT X scope ifs) (te := lcE X scope elt) (vs := [j]) (σ := σ) (Qd := fun H => Q (.ref Dl) H) (LcInv X.K c Γ σ R1 Dl (fun H' => True) Acc) (lc_start s1 hD trivial h0) (fun i H' hi h => ?_) (fun H' h => ?_)
  · have e0 : (0 : Int) + (i : Int) = (i : Int) := Int.zero_add _
    rw [e0]
    exact lc_step j (Tst := Tst i) (d := .int (i : Int)) L hn (by omega) (fun H H' k kp => trivial) rfl h (fun X' c' b => ht X' c' b i hi) (fun X' c' b tb acc ha hl => he X' c' b i acc hi tb ha hl) (fun tb acc ha => hf i acc hi tb ha) hifs
  · exact lc_fin h fun v R' H' o Γ' s' e' vo ⟨q1, out, q3, q4⟩ => by
      rw [q1] at s' vo; subst q3
      exact q v R' H' _ _ s' (e1.trans e') vo (hd out q4)
theorem wo_lcR1 (j : Nat) {ifs : List Expr} {tp p2 : Pos} {Post : OB → SL → Prop} (Acc : Nat → List D → Prop) (Tst : Nat → Bool → Prop) (m : Nat) (L : LcOk X n n' Γ scope nm j) (hb : Blt X "range" (.type "range")) (jr : Nat) (hk : WE X n c Γ a fun x Γ1 => ∃ i : Int, x = .int i ∧ i.toNat = m ∧ i < 2 ^ 62 ∧ -(2 ^ 62) ≤ i ∧ Γ1 = Γ) (hz : m ≤ 100000) (h0 : Acc 0 [])
    (ht : ∀ X' c', BlkX X X' scope → ∀ i, i < m → WTs X' n' c' ((Γ.map Slot.inn).set j (.d (.int (i : Int)))) ifs fun q Γ2 => Γ2 = (Γ.map Slot.inn).set j (.d (.int (i : Int))) ∧ Tst i q)
    (he : ∀ X' c', BlkX X X' scope → ∀ i acc, i < m → Tst i true → Acc i acc → acc.length ≤ i → WE X' n' c' ((Γ.map Slot.inn).set j (.d (.int (i : Int)))) elt fun y Γ3 => Γ3 = (Γ.map Slot.inn).set j (.d (.int (i : Int))) ∧ Acc (i + 1) (acc ++ [y]))
    (hf : ∀ i acc, i < m → Tst i false → Acc i acc → Acc (i + 1) acc) (hd : ∀ out, Acc m out → Post (.lst out) Γ)
    (hjr : n.GN[jr]? = some ("range" : Str) := by rfl) (hst : starEach [a] X.env = [(false, eval a X.env)] := by exact se_1 rfl)
    (hifs : ifs.length ≤ 1 := by decide) (hs : ∀ x, foldedSetIterable (.Call (.Name "range" p) [a] [] p2) X.env x = pure x := by intro _; rfl) : WO X n c Γ (.ListComp elt [⟨.Name nm tp, .Call (.Name "range" p) [a] [] p2, ifs, 0⟩] scope pos) Post := .mk fun hn σ R H s Q q => by
  obtain ⟨g1, g2, g3⟩ := hn.gl jr _ hjr
  exact (lc_pe j L hn (pi_range1 g1 hb.mg (pa_cons pW pa_nil hst) hst) hifs hs).w (rd_lcR1 j Acc Tst m L hb jr hk hz h0 ht he hf hd hjr hst hifs hn s Q q)
end
end DL

end
section
set_option Elab.async false
set_option linter.all false
set_option autoImplicit true
set_option maxRecDepth 100000
set_option maxHeartbeats 400000
namespace DL
open PySem L2
open PyProof.Rows hiding St

/-! ### isinstance against the built-in kinds -/
def D.ty : D → String
  | .non => "NoneType"
  | .bl _ => "bool"
  | .int _ => "int"
  | .str _ => "str"
  | .lst _ => "list"
  | .tup _ => "tuple"
  | .dic _ => "dict"
  | .ins _ _ => "object"
def tyB (a b : String) : Bool := a == b || (a == "bool" && b == "int")
def tys : List String := ["bool", "int", "str", "list", "tuple", "dict"]
def rowB (a : String) : Option (List Bool) := (PySem.fastBuiltinMro a).map fun l => tys.map fun b => l.contains (Value.type b)
theorem kit_meta : (tys.all fun b => PySem.W.kitMeta b) = true := by decide +kernel
theorem row_non : rowB "NoneType" = some (tys.map (tyB "NoneType")) := by decide +kernel
theorem row_bool : rowB "bool" = some (tys.map (tyB "bool")) := by decide +kernel
theorem row_int : rowB "int" = some (tys.map (tyB "int")) := by decide +kernel
theorem row_str : rowB "str" = some (tys.map (tyB "str")) := by decide +kernel
theorem row_list : rowB "list" = some (tys.map (tyB "list")) := by decide +kernel
theorem row_tuple : rowB "tuple" = some (tys.map (tyB "tuple")) := by decide +kernel
theorem row_dict : rowB "dict" = some (tys.map (tyB "dict")) := by decide +kernel
theorem row_object : rowB "object" = some (tys.map (tyB "object")) := by decide +kernel
theorem D.row (x : D) : rowB x.ty = some (tys.map (tyB x.ty)) := by
  cases x
  · exact row_non
  · exact row_bool
  · exact row_int
  · exact row_str
  · exact row_list
  · exact row_tuple
  · exact row_dict
  · exact row_object
theorem kitB_of (x : D) {T : String} (h : T ∈ ["bool", "int", "str", "list", "tuple", "dict"]) : kitB x.ty T = some (tyB x.ty T) := by
  have hm : PySem.W.kitMeta T = true := List.all_eq_true.mp kit_meta T h
  unfold kitB
  by_cases e : (Value.type x.ty == Value.type T) = true
  · rw [if_pos e]
    have e' : x.ty = T := by simpa using e
    rw [e']; simp [tyB]
  · rw [if_neg e, if_pos hm]
    obtain ⟨l, h1, h2⟩ := Option.map_eq_some_iff.mp x.row
    rw [h1, Option.map_some]
    exact congrArg some (List.map_inj_left.mp h2 T h)
theorem Wk.tyX {K : PySem.W.Frag} {R H : Hp} {x : D} {v : V} (e : Ex R H) (h : Wk K R H x v) : ∃ t, TyX K H v t ∧ ∀ T ∈ (["bool", "int", "str", "list", "tuple", "dict"] : List String), PySem.W.kitOne K t (.type T) = some (tyB x.ty T) := by
  have kt : ∀ T ∈ (["bool", "int", "str", "list", "tuple", "dict"] : List String), PySem.W.kitOne K (.type x.ty) (.type T) = some (tyB x.ty T) := fun T hT => kit_ty (kitB_of x hT)
  cases x with
  | non => cases h.non; exact ⟨_, .base .non, kt⟩
  | bl b => cases h.bl; exact ⟨_, .base (.bl b), kt⟩
  | int i => cases h.int; exact ⟨_, .base (.int i), kt⟩
  | str z => cases h.str; exact ⟨_, .base (.str z), kt⟩
  | lst ds => obtain ⟨a, vs, rfl, h2, _⟩ := h.lst e; exact ⟨_, .base (.lst h2), kt⟩
  | dic ds => obtain ⟨a, vs, rfl, h2, _⟩ := h.dic e; exact ⟨_, .base (.dK h2), kt⟩
  | ins nm fs =>
    obtain ⟨a, dx, ws, rfl, h2, ⟨h3, _⟩, _⟩ := h.ins e
    refine ⟨_, .base (.ins h2 h3.cl h3.ha h3.hn h3.ht h3.hm), fun T hT => (h3.no T hT).trans (congrArg some ?_)⟩
    simp only [List.mem_cons, List.not_mem_nil, or_false] at hT
    rcases hT with rfl | rfl | rfl | rfl | rfl | rfl <;> rfl
  | tup ds =>
    obtain ⟨a, vs, rfl, h2, _⟩ := h.tup e
    rcases h2 with (h2 | ⟨o, h2⟩) | ⟨o, its, m, h2, h3, _⟩
    · exact ⟨_, .base (.tup h2), kt⟩
    · exact ⟨_, .fTuple h2, kt⟩
    · exact ⟨_, .kTuple h2 h3, kt⟩
section
variable {X : Cx} {n : Nm} {c : Cc} {Γ : SL} {e a b : Expr} {x y z : D} {pos p p2 : Pos} {nm tn : Str} {k : AK}
theorem we_isi {T : String} {Post : D → SL → Prop} (hb : Blt X "isinstance" (.builtin "isinstance")) (ht : Blt X tn (.type T)) (j j2 : Nat) (h : WK X n c Γ e fun k Γ1 => ∃ x, k.get Γ1 = some x ∧ Post (.bl (tyB x.ty T)) Γ1) (hT : T ∈ ["bool", "int", "str", "list", "tuple", "dict"] := by decide)
    (hj : n.GN[j]? = some ("isinstance" : Str) := by rfl) (hj2 : n.GN[j2]? = some tn := by rfl) (he : starEach [e, .Name tn p2] X.env = (false, eval e X.env) :: starEach [.Name tn p2] X.env := by exact se_c rfl) (he2 : starEach [.Name tn p2] X.env = (false, eval (.Name tn p2) X.env) :: starEach [] X.env := by exact se_c rfl) (hpl : (backTo pos (starEach [.Name tn p2] X.env)).any (·.1) = false := by exact se_any rfl) :
    WE X n c Γ (.Call (.Name "isinstance" p) [e, .Name tn p2] [] pos) Post := .mk fun hn σ R H s Q q => by
  obtain ⟨g1, g2, g3⟩ := hn.gl j _ hj
  obtain ⟨g4, g5, g6⟩ := hn.gl j2 _ hj2
  refine (pe_callB call_isi g1 hb.mg hb.bt (pa_cons pW (pa_cons (pe_bltn (v := .ty T) g4 ht.mg ht.bt rfl g6 g5) pa_nil he2) he) g3 g2 he hpl).w (h.run hn σ R H s _ fun v R1 H1 k Γ1 s1 e1 r1 ⟨x, gx, px⟩ => ?_)
  obtain ⟨t, ty, kt⟩ := (r1.wk s1 gx).tyX s1.rh
  exact ⟨v, .ty T, t, .type T, _, rfl, .ty T, ty, kt T hT, q (.bl (tyB x.ty T)) R1 H1 (.bl (tyB x.ty T)) Γ1 s1 e1 rfl px⟩
theorem ev_isi {T : String} (hb : Blt X "isinstance" (.builtin "isinstance")) (ht : Blt X tn (.type T)) (j j2 : Nat) (ha : EK X n c Γ e k) (hg : k.get Γ = some x := by rfl) (hT : T ∈ ["bool", "int", "str", "list", "tuple", "dict"] := by decide)
    (hj : n.GN[j]? = some ("isinstance" : Str) := by rfl) (hj2 : n.GN[j2]? = some tn := by rfl) (he : starEach [e, .Name tn p2] X.env = (false, eval e X.env) :: starEach [.Name tn p2] X.env := by exact se_c rfl) (he2 : starEach [.Name tn p2] X.env = (false, eval (.Name tn p2) X.env) :: starEach [] X.env := by exact se_c rfl) (hpl : (backTo pos (starEach [.Name tn p2] X.env)).any (·.1) = false := by exact se_any rfl) :
    EV X n c Γ (.Call (.Name "isinstance" p) [e, .Name tn p2] [] pos) (.bl (tyB x.ty T)) := we_isi hb ht j j2 (wk_ek ha ⟨x, hg, rfl, rfl⟩) hT hj hj2 he he2 hpl
theorem et_isi {T : String} (hb : Blt X "isinstance" (.builtin "isinstance")) (ht : Blt X tn (.type T)) (j j2 : Nat) (ha : EK X n c Γ e k) (hg : k.get Γ = some x := by rfl) (hT : T ∈ ["bool", "int", "str", "list", "tuple", "dict"] := by decide)
    (hj : n.GN[j]? = some ("isinstance" : Str) := by rfl) (hj2 : n.GN[j2]? = some tn := by rfl) (he : starEach [e, .Name tn p2] X.env = (false, eval e X.env) :: starEach [.Name tn p2] X.env := by exact se_c rfl) (he2 : starEach [.Name tn p2] X.env = (false, eval (.Name tn p2) X.env) :: starEach [] X.env := by exact se_c rfl) (hpl : (backTo pos (starEach [.Name tn p2] X.env)).any (·.1) = false := by exact se_any rfl) :
    ET X n c Γ (.Call (.Name "isinstance" p) [e, .Name tn p2] [] pos) (tyB x.ty T) := et_val (ev_isi hb ht j j2 ha hg hT hj hj2 he he2 hpl)
/-! ### numbers in lists and tuples: x in xs -/
end
end DL

end
section
set_option Elab.async false
set_option linter.all false
set_option autoImplicit true
set_option maxRecDepth 10000
set_option maxHeartbeats 400000
namespace DL
open PySem L2
/-! ### rationals: plain laws -/
abbrev qD (q : Rat) : D := .tup [.int q.num, .int (q.den : Int)]
/-- a fraction of so many bits below the line, of eight times so many above -/
def Sz (k : Nat) (q : Rat) : Prop := q.num.natAbs < 2 ^ (8 * k) ∧ q.den < 2 ^ k
theorem Sz.mono {j k : Nat} {q : Rat} (h : Sz j q) (e : j ≤ k) : Sz k q :=
  ⟨Nat.lt_of_lt_of_le h.1 (Nat.pow_le_pow_right (by decide) (by omega)), Nat.lt_of_lt_of_le h.2 (Nat.pow_le_pow_right (by decide) e)⟩
theorem den_pos' (q : Rat) : (0 : Int) < (q.den : Int) := by have := q.den_pos; omega
/-- a number of so many bits -/
def Bt (k : Nat) (i : Int) : Prop := i.natAbs < 2 ^ k
theorem Sz.n {k : Nat} {q : Rat} (h : Sz k q) : Bt (8 * k) q.num := h.1
theorem Sz.d {k : Nat} {q : Rat} (h : Sz k q) : Bt k (q.den : Int) := by show ((q.den : Int)).natAbs < _; simpa using h.2
theorem Bt.mono {j k : Nat} {i : Int} (h : Bt j i) (e : j ≤ k) : Bt k i := Nat.lt_of_lt_of_le h (Nat.pow_le_pow_right (by decide) e)
theorem Bt.mul {j k : Nat} {a b : Int} (h : Bt j a) (h' : Bt k b) : Bt (j + k) (a * b) := wide_lt h h'
theorem Bt.add {k : Nat} {a b : Int} (h : Bt k a) (h' : Bt k b) : Bt (k + 1) (a + b) := by
  unfold Bt at *
  have := Int.natAbs_add_le a b
  rw [Nat.pow_succ]; omega
theorem Bt.sub {k : Nat} {a b : Int} (h : Bt k a) (h' : Bt k b) : Bt (k + 1) (a - b) := by
  unfold Bt at *
  have := Int.natAbs_sub_le a b
  rw [Nat.pow_succ]; omega
theorem Bt.neg {k : Nat} {a : Int} (h : Bt k a) : Bt k (-a) := by unfold Bt at *; rwa [Int.natAbs_neg]
theorem Bt.le {k : Nat} {a b : Int} (h : Bt k a) (e : b.natAbs ≤ a.natAbs) : Bt k b := Nat.lt_of_le_of_lt e h
theorem log2_le_of {a : Int} {k : Nat} (h : Bt k a) : a.natAbs.log2 ≤ k := by
  by_cases z : a.natAbs = 0
  · rw [z]; simp
  · have := (Nat.log2_lt z).mpr (show a.natAbs < 2 ^ k from h); omega
theorem Bt.cm {j k : Nat} {a b : Int} (h : Bt j a) (h' : Bt k b) (e : j + k < 1000000) : CMulW a b := by
  have h1 := log2_le_of h; have h2 := log2_le_of h'
  unfold CMulW; omega
theorem Bt.cd {k : Nat} {a b : Int} (h : Bt k b) (h0 : b ≠ 0) (e : k < 9000) : CDivA a b := ⟨h0, by have := log2_le_of h; omega⟩
/-! the parts of sums and products -/
theorem Sz.add {j k : Nat} {a b : Rat} (h : Sz j a) (h' : Sz k b) : Sz (j + k + 1) (a + b) := by
  have hn : Bt (8 * (j + k + 1)) (a.num * (b.den : Int) + b.num * (a.den : Int)) := (((h.n.mul h'.d).mono (show 8 * j + k ≤ 8 * (j + k) by omega)).add ((h'.n.mul h.d).mono (by omega))).mono (by omega)
  have hd : Bt (j + k) ((a.den * b.den : Nat) : Int) := by rw [Int.natCast_mul]; exact h.d.mul h'.d
  constructor
  · rw [Rat.num_add]
    refine Nat.lt_of_le_of_lt ?_ hn
    rw [Int.natAbs_ediv_of_dvd (Int.ofNat_dvd_left.2 (Nat.gcd_dvd_left ..))]
    exact Nat.div_le_self _ _
  · rw [Rat.den_add]
    refine Nat.lt_of_le_of_lt (Nat.div_le_self _ _) ?_
    have : a.den * b.den < 2 ^ (j + k) := by unfold Bt at hd; rwa [Int.natAbs_natCast] at hd
    exact Nat.lt_of_lt_of_le this (Nat.pow_le_pow_right (by decide) (by omega))
theorem Sz.neg {k : Nat} {a : Rat} (h : Sz k a) : Sz k (-a) := ⟨by rw [Rat.neg_num, Int.natAbs_neg]; exact h.1, h.2⟩
theorem Sz.sub {j k : Nat} {a b : Rat} (h : Sz j a) (h' : Sz k b) : Sz (j + k + 1) (a - b) := by rw [Rat.sub_eq_add_neg]; exact h.add h'.neg
theorem Sz.mul {j k : Nat} {a b : Rat} (h : Sz j a) (h' : Sz k b) : Sz (j + k) (a * b) := by
  constructor
  · rw [Rat.num_mul]
    rw [show 8 * (j + k) = 8 * j + 8 * k by omega]
    refine Nat.lt_of_le_of_lt ?_ (h.n.mul h'.n)
    rw [Int.natAbs_ediv_of_dvd (Int.ofNat_dvd_left.2 (Nat.gcd_dvd_left ..))]
    exact Nat.div_le_self _ _
  · rw [Rat.den_mul]
    refine Nat.lt_of_le_of_lt (Nat.div_le_self _ _) ?_
    have : Bt (j + k) ((a.den * b.den : Nat) : Int) := by rw [Int.natCast_mul]; exact h.d.mul h'.d
    unfold Bt at this; rwa [Int.natAbs_natCast] at this
theorem fdiv_ediv {a : Int} {b : Nat} (h : b ≠ 0) : Int.fdiv a (b : Int) = a / (b : Int) := Int.fdiv_eq_ediv_of_nonneg _ (by omega)
/-- n over d in lowest terms, d of either sign -/
def fr (n d : Int) : Rat := Rat.divInt n d
theorem fr_sz {n d : Int} {k : Nat} (hn : Bt (8 * k) n) (hd : Bt k d) (h0 : d ≠ 0) : Sz k (fr n d) := by
  have hg : (Int.gcd d n) ≠ 0 := by
    intro z
    exact h0 (Int.gcd_eq_zero_iff.mp z).1
  constructor
  · unfold fr
    rw [Rat.num_divInt]
    refine Nat.lt_of_le_of_lt ?_ hn
    have : (d.sign * n).natAbs = n.natAbs := by rw [Int.natAbs_mul, Int.natAbs_sign_of_ne_zero h0, Nat.one_mul]
    have h2 : (d.sign * n / ((Int.gcd d n : Nat) : Int)).natAbs ≤ (d.sign * n).natAbs := by
      rw [Int.natAbs_ediv_of_dvd (Int.dvd_mul_of_dvd_right (Int.gcd_dvd_right ..))]
      exact Nat.div_le_self _ _
    omega
  · unfold fr
    rw [Rat.den_divInt, if_neg h0]
    exact Nat.lt_of_le_of_lt (Nat.div_le_self _ _) hd
theorem lt_num {a b : Rat} : a < b ↔ a.num * (b.den : Int) < b.num * (a.den : Int) := Rat.lt_iff a b
/-! ### calls of pure defs -/
section
variable {X : Cx} {n : Nm} {c : Cc} {Γ : SL} {e a b d : Expr} {x y z : D} {pos p : Pos} {nm : Str} {S : Sg} {k l m : AK} {ps : List Par}
theorem ev_call1 (hc : CalF X n.k nm S) (j : Nat) (ha : EK X n c Γ a k) (h : ∀ Post : Res → List OB → Prop, Post (.d z) [] → S ps Post) (hp : pars Γ [k] = some ps := by rfl) (ho : ownIx [k] = [] := by rfl) (hj : n.GN[j]? = some nm := by rfl)
    (he : starEach [a] X.env = (false, eval a X.env) :: starEach [] X.env := by exact se_c rfl) (hpl : (backTo pos (starEach [] X.env)).any (·.1) = false := by exact se_any rfl) : EV X n c Γ (.Call (.Name nm p) [a] [] pos) z :=
  we_call hc j (wa_of (ea_cons ha ea_nil he) ⟨ps, hp, by rw [ho]; exact List.nodup_nil, by rw [ho]; simp, h _ ⟨z, rfl, rfl, by rw [ho]; rfl⟩⟩) hj he hpl
theorem ev_call2 (hc : CalF X n.k nm S) (j : Nat) (ha : EK X n c Γ a k) (hb : EK X n c Γ b l) (h : ∀ Post : Res → List OB → Prop, Post (.d z) [] → S ps Post) (hp : pars Γ [k, l] = some ps := by rfl) (ho : ownIx [k, l] = [] := by rfl) (hj : n.GN[j]? = some nm := by rfl)
    (he : starEach [a, b] X.env = (false, eval a X.env) :: starEach [b] X.env := by exact se_c rfl) (he2 : starEach [b] X.env = (false, eval b X.env) :: starEach [] X.env := by exact se_c rfl) (hpl : (backTo pos (starEach [b] X.env)).any (·.1) = false := by exact se_any rfl) : EV X n c Γ (.Call (.Name nm p) [a, b] [] pos) z :=
  we_call hc j (wa_of (ea_cons ha (ea_cons hb ea_nil he2) he) ⟨ps, hp, by rw [ho]; exact List.nodup_nil, by rw [ho]; simp, h _ ⟨z, rfl, rfl, by rw [ho]; rfl⟩⟩) hj he hpl
end
/-! ### defs that draw from a store: it comes back as a store -/
section
variable {X : Cx} {n : Nm} {c : Cc} {Γ : SL} {e a b d : Expr} {x y z : D} {pos p p1 : Pos} {nm sn : Str} {S : Sg} {es : List Expr}
theorem set_same {i : Nat} {s : Slot} (h : Γ[i]? = some s) : Γ.set i s = Γ := by
  apply List.ext_getElem?
  intro j
  by_cases hj : i = j
  · subst hj; rw [List.getElem?_set_self (List.getElem?_eq_some_iff.mp h).1, h]
  · rw [List.getElem?_set_ne hj]
/-- every promise of a def that gives its store back whole -/
def StoS (S : Sg) (ps : List Par) (P : Res → Prop) : Prop := ∀ Post : Res → List OB → Prop, (∀ r, P r → Post r [.sto]) → S (.own .sto :: ps) Post
theorem sto_args {Post : Res → SL → Prop} (i : Nat) (hg : Γ[i]? = some (.own .sto)) (hi : n.N[i]? = some sn) (hv : n.V.contains i = true)
    (h : WA X n c Γ es fun ks Γ1 => Γ1 = Γ ∧ ∃ ps, pars Γ ks = some ps ∧ ownIx ks = [] ∧ i ∉ readIx ks ∧ StoS S ps fun r => Post r Γ)
    (he : starEach (.Name sn p1 :: es) X.env = (false, eval (.Name sn p1) X.env) :: starEach es X.env) :
    WA X n c Γ (.Name sn p1 :: es) fun ks Γ1 => ∃ ps, pars Γ1 ks = some ps ∧ (ownIx ks).Nodup ∧ (∀ i ∈ readIx ks, i ∉ ownIx ks) ∧ S ps fun r os => Post r (updOwn Γ1 (ownIx ks) os) := by
  refine wa_cons (wk_ek (ek_o i hg rfl hi hv) (h.mono ?_)) he
  rintro ks Γ1 ⟨rfl, ps, h1, h2, h3, h4⟩
  refine ⟨.own .sto :: ps, ?_, ?_, ?_, ?_⟩
  · show (match AK.par Γ1 (.o i), pars Γ1 ks with | some x, some xs => some (x :: xs) | _, _ => none) = _
    rw [h1]
    simp only [AK.par, hg]
  · show (i :: ownIx ks).Nodup; rw [h2]; simp
  · intro j hj
    show j ∉ i :: ownIx ks
    rw [h2]
    have hj' : j ∈ readIx ks := hj
    intro z
    have : j = i := by simpa using z
    subst this; exact h3 hj'
  · refine h4 _ fun r pr => ?_
    show Post r (updOwn Γ1 (i :: ownIx ks) [.sto])
    rw [h2]
    show Post r (Γ1.set i (.own .sto))
    rw [set_same hg]; exact pr
theorem we_sto (hc : CalF X n.k nm S) (j i : Nat) {Post : D → SL → Prop} (h : WA X n c Γ es fun ks Γ1 => Γ1 = Γ ∧ ∃ ps, pars Γ ks = some ps ∧ ownIx ks = [] ∧ i ∉ readIx ks ∧ StoS S ps fun r => ∃ x, r.data = some x ∧ Post x Γ)
    (hg : Γ[i]? = some (.own .sto) := by rfl) (hi : n.N[i]? = some sn := by rfl) (hv : n.V.contains i = true := by rfl)
    (hj : n.GN[j]? = some nm := by rfl) (he : starEach (.Name sn p1 :: es) X.env = (false, eval (.Name sn p1) X.env) :: starEach es X.env := by exact se_c rfl) (hpl : (backTo pos (starEach es X.env)).any (·.1) = false := by exact se_any rfl) : WE X n c Γ (.Call (.Name nm p) (.Name sn p1 :: es) [] pos) Post :=
  we_call hc j (sto_args (Post := fun r Γ' => ∃ x, r.data = some x ∧ Post x Γ') i hg hi hv h he) hj he hpl
theorem wo_sto (hc : CalF X n.k nm S) (j i : Nat) {Post : OB → SL → Prop} (h : WA X n c Γ es fun ks Γ1 => Γ1 = Γ ∧ ∃ ps, pars Γ ks = some ps ∧ ownIx ks = [] ∧ i ∉ readIx ks ∧ StoS S ps fun r => ∃ o, r = .own o ∧ Post o Γ)
    (hg : Γ[i]? = some (.own .sto) := by rfl) (hi : n.N[i]? = some sn := by rfl) (hv : n.V.contains i = true := by rfl)
    (hj : n.GN[j]? = some nm := by rfl) (he : starEach (.Name sn p1 :: es) X.env = (false, eval (.Name sn p1) X.env) :: starEach es X.env := by exact se_c rfl) (hpl : (backTo pos (starEach es X.env)).any (·.1) = false := by exact se_any rfl) : WO X n c Γ (.Call (.Name nm p) (.Name sn p1 :: es) [] pos) Post :=
  wo_call hc j (sto_args (Post := fun r Γ' => ∃ o, r = .own o ∧ Post o Γ') i hg hi hv h he) hj he hpl
/-- f(.., x, ..) by told arguments behind the store -/
theorem sto_ea {ks : List AK} {ps : List Par} {Q : Res → Prop} {i : Nat} (h : EA X n c Γ es ks) (hq : StoS S ps Q) (hp : pars Γ ks = some ps := by rfl) (ho : ownIx ks = [] := by rfl) (hr : i ∉ readIx ks := by decide) :
    WA X n c Γ es fun ks Γ1 => Γ1 = Γ ∧ ∃ ps, pars Γ ks = some ps ∧ ownIx ks = [] ∧ i ∉ readIx ks ∧ StoS S ps Q := wa_of h ⟨rfl, ps, hp, ho, hr, hq⟩
end
/-- a def as the top has left it -/
structure DefAt (K : PySem.W.Frag) (mg : Str → Option Value) (nm : Str) (st : Stmt) (ps : List Str) where
  a : Addr
  fd : FuncData
  F : Fun K nm nm st a fd
  m : mg nm = some (.ref a)
  bb : ∀ us : List Value, us.length = ps.length → bindArgs fd ⟨us, []⟩ = pure (ps.zip us)
theorem DefAt.b {K : PySem.W.Frag} {mg : Str → Option Value} {nm : Str} {st : Stmt} {ps : List Str} (d : DefAt K mg nm st ps) : Binds K d.fd ps [] := .all d.bb
theorem DefAt.cal {X : Cx} {nm : Str} {st : Stmt} {ps : List Str} {k k0 : Nat} {S : Sg} (d : DefAt X.K X.mg nm st ps) (F : FnOk X.prog X.w X.K X.mg X.base CX0 k0 d.a d.fd ps (spOf X.K S)) (h : k0 ≤ k) (rm : Room k X.A) : CalF X k nm S :=
  ⟨rm, d.a, d.fd, ps, k0, F.at X.A, h, d.m, d.F.kp, d.b⟩
end DL

end
section
set_option Elab.async false
set_option linter.all false
set_option autoImplicit true
set_option maxRecDepth 10000
set_option maxHeartbeats 400000
namespace DL
open PySem L2
/-! ### what every law shares: the script's store and the draws -/
theorem atI_nat {α : Type} {xs : List α} {i : Nat} {z : α} (h : xs[i]? = some z) : atI xs (i : Int) = some z := by
  have hi := (List.getElem?_eq_some_iff.mp h).1
  unfold atI ixN
  have e1 : ¬ ((i : Int) < 0) := by omega
  have e2 : (i : Int) < (xs.length : Int) := by omega
  simp [e1, e2, h]
theorem at_lst {xs : List D} {i : Nat} {z : D} (h : xs[i]? = some z) : (D.lst xs).at (i : Int) = some z := atI_nat h
theorem at_tup {xs : List D} {i : Nat} {z : D} (h : xs[i]? = some z) : (D.tup xs).at (i : Int) = some z := atI_nat h
section
variable {X : Cx} {n : Nm} {c : Cc} {Γ : SL} {e a b d : Expr} {x y z : D} {pos p p1 : Pos} {nm sn : Str} {S : Sg} {es : List Expr}
/-- list(script) -/
theorem eo_listSc {ns : List Int} (hb : Blt X "list" (.type "list")) (j : Nat) (i : Nat) (hg : Γ[i]? = some (.sc ns) := by rfl) (hi : n.N[i]? = some nm := by rfl) (hv : n.V.contains i = true := by rfl) (hj : n.GN[j]? = some ("list" : Str) := by rfl)
    (he : starEach [.Name nm p1] X.env = (false, eval (.Name nm p1) X.env) :: starEach [] X.env := by exact se_c rfl) (hpl : (backTo pos (starEach [] X.env)).any (·.1) = false := by exact se_any rfl) :
    EO X n c Γ (.Call (.Name "list" p) [.Name nm p1] [] pos) (.lst (ns.map .int)) := by
  have ho : NOk X n c → ∃ r, CallR X (.type "list") r ∧ ∀ Γ σ R H vs (Post : OB → Prop), SOk X.K c Γ σ R H → (∃ a, vs = [.ref a] ∧ SqL X.K R a (ns.map V.int)) → Post (.lst (ns.map .int)) → ∀ Q : VK, (∀ v R' H' o, SOk X.K c Γ σ R' H' → Ex R R' → VOk X.K c Γ σ R' H' (.own o) v → Post o → Q v H') → r vs H Q := fun hn => ⟨_, call_list_of, fun Γ σ R H vs Post s hx p Q q => by
    obtain ⟨a, rfl, h1⟩ := hx
    refine ⟨a, ns.map V.int, rfl, .inl (ex_l s.rh h1), fun l hl => ?_⟩
    have g := s.newOwn (.lst (ns.map V.int)) hl
    refine q _ R _ (.lst (ns.map .int)) (s.grow g) (Ex.refl _) ⟨l, rfl, ⟨_, upd_same, .ints⟩, s.rh.back hl, ?_, fun i o z1 z2 => ?_⟩ p
    · cases z : c.H0 l with
      | none => rfl
      | some u => exact absurd hl (s.pr l (by rw [z]; simp))
    · obtain ⟨w, u1, b, u2, u3, _⟩ := s.sl i _ z1
      rw [z2] at u1; cases u1; cases u2
      exact u3.there hl⟩
  exact .mk fun hn σ R H s Q q => by
    obtain ⟨r, h1, h2⟩ := ho hn
    obtain ⟨g1, g2, g3⟩ := hn.gl j _ hj
    refine (pe_callTy h1 g1 hb.mg hb.bt pWA g3 g2 he hpl).w ((ea_cons (ek_s i hg rfl hi hv) ea_nil he).run hn σ R H s _ fun vs R1 H1 ks Γ1 s1 e1 r1 ⟨xs, gx⟩ => ?_)
    subst xs gx
    obtain ⟨v, ws, rfl, r2, r3⟩ := r1
    cases (show ws = [] from r3)
    obtain ⟨o, w1, a, w2, w3⟩ := s1.sl i _ hg
    have r2' : σ[i]? = some (some v) := r2
    rw [r2'] at w1; cases w1; cases w2
    exact h2 Γ1 σ R1 H1 _ _ s1 ⟨a, rfl, w3⟩ ⟨rfl, rfl⟩ Q fun u R' H' z s' e' r' p' => q u R' H' z Γ1 s' (e1.trans e') r' p'
/-! the promises of the draws -/
def ST_store : Sg := fun ps Post => ∃ ns : List Int, ps = [.sc ns] ∧ ns.length ≤ 63 ∧ Post (.own .sto) []
def ST_feed : Sg := fun ps Post => ∃ (ns : List Int) (pl : Nat) (great st left cnt : Int), ps = [.own (.lst (stoD ns pl great st left cnt))] ∧ StoreB ns pl great st left cnt ∧ pl < ns.length ∧ Post (.d .non) [.sto]
def ST_mixed : Sg := fun ps Post => ∃ (ns : List Int) (place great st left cnt : Int), ps = [.own (.lst (stoD ns place great st left cnt))] ∧ StoreB ns place great st left cnt ∧ ∀ m : Int, 0 ≤ m → m < 1000000009 → Post (.d (.int m)) [.sto]
def ST_take : Sg := fun ps Post => ∃ many : Int, ps = [.own .sto, .d (.int many)] ∧ Bt 8000 many ∧ ∀ k : Int, 0 ≤ k → k < (if many > 1 then many else 1) → Post (.d (.int k)) [.sto]
def ST_pick : Sg := fun ps Post => ∃ (x : D) (m : Nat), ps = [.own .sto, .w x] ∧ x.len = some m ∧ (∀ z, x = .str z → z.length ≤ sizeLine) ∧ 0 < m ∧ m < 2 ^ 64 ∧ (∀ k : Nat, k < m → ∃ y, x.at k = some y) ∧ ∀ (k : Nat) y, k < m → x.at k = some y → Post (.d y) [.sto]
def ST_size : Sg := fun ps Post => ∃ lo hi : Int, ps = [.own .sto, .d (.int lo), .d (.int hi)] ∧ lo ≤ hi ∧ Bt 7000 lo ∧ Bt 7000 hi ∧ ∀ k : Int, lo ≤ k → k ≤ hi → Post (.d (.int k)) [.sto]
theorem we_st1 {Post : D → SL → Prop} (hc : CalF X n.k nm S) (j i : Nat) (h : WE X n c Γ e fun x Γ1 => Γ1 = Γ ∧ StoS S [.d x] fun r => ∃ y, r.data = some y ∧ Post y Γ)
    (hg : Γ[i]? = some (.own .sto) := by rfl) (hi : n.N[i]? = some sn := by rfl) (hv : n.V.contains i = true := by rfl) (hj : n.GN[j]? = some nm := by rfl)
    (he : starEach (.Name sn p1 :: [e]) X.env = (false, eval (.Name sn p1) X.env) :: starEach [e] X.env := by exact se_c rfl) (he2 : starEach [e] X.env = (false, eval e X.env) :: starEach [] X.env := by exact se_c rfl) (hpl : (backTo pos (starEach [e] X.env)).any (·.1) = false := by exact se_any rfl) : WE X n c Γ (.Call (.Name nm p) [.Name sn p1, e] [] pos) Post :=
  we_sto hc j i (wa_cons (wk_e (h.mono fun x Γ1 ⟨e1, h1⟩ => by
    subst e1
    exact wa_nil ⟨rfl, [.d x], rfl, rfl, by simp [readIx], h1⟩)) he2) hg hi hv hj he hpl
/-- a draw below m -/
theorem we_take {Post : D → SL → Prop} (hc : CalF X n.k nm ST_take) (j i : Nat) (h : WE X n c Γ e fun x Γ1 => Γ1 = Γ ∧ ∃ m : Nat, x = .int (m : Int) ∧ 0 < m ∧ Bt 8000 (m : Int) ∧ ∀ k : Nat, k < m → Post (.int (k : Int)) Γ)
    (hg : Γ[i]? = some (.own .sto) := by rfl) (hi : n.N[i]? = some sn := by rfl) (hv : n.V.contains i = true := by rfl) (hj : n.GN[j]? = some nm := by rfl)
    (he : starEach (.Name sn p1 :: [e]) X.env = (false, eval (.Name sn p1) X.env) :: starEach [e] X.env := by exact se_c rfl) (he2 : starEach [e] X.env = (false, eval e X.env) :: starEach [] X.env := by exact se_c rfl) (hpl : (backTo pos (starEach [e] X.env)).any (·.1) = false := by exact se_any rfl) : WE X n c Γ (.Call (.Name nm p) [.Name sn p1, e] [] pos) Post :=
  we_st1 hc j i (h.mono fun x Γ1 ⟨e1, m, e2, h0, hB, hP⟩ => ⟨e1, fun Q q => by
    subst e2
    refine ⟨m, rfl, hB, fun k k0 k1 => q _ ⟨_, rfl, ?_⟩⟩
    have hk : k < (m : Int) := by split at k1 <;> omega
    have := hP k.toNat (by omega)
    rwa [show ((k.toNat : Nat) : Int) = k by omega] at this⟩) hg hi hv hj he he2 hpl
/-- .. of a written number -/
theorem we_takeI {Post : D → SL → Prop} {m : Nat} {jj q1} (hc : CalF X n.k nm ST_take) (j i : Nat) (h : ∀ k : Nat, k < m → Post (.int (k : Int)) Γ) (h0 : 0 < m := by decide) (hB : m < 2 ^ 64 := by decide)
    (hg : Γ[i]? = some (.own .sto) := by rfl) (hi : n.N[i]? = some sn := by rfl) (hv : n.V.contains i = true := by rfl) (hj : n.GN[j]? = some nm := by rfl)
    (he : starEach (.Name sn p1 :: [.Constant (.int (m : Int)) jj q1]) X.env = (false, eval (.Name sn p1) X.env) :: starEach [.Constant (.int (m : Int)) jj q1] X.env := by exact se_c rfl) (he2 : starEach [.Constant (.int (m : Int)) jj q1] X.env = (false, eval (.Constant (.int (m : Int)) jj q1) X.env) :: starEach [] X.env := by exact se_c rfl) (hpl : (backTo pos (starEach [.Constant (.int (m : Int)) jj q1] X.env)).any (·.1) = false := by rfl) : WE X n c Γ (.Call (.Name nm p) [.Name sn p1, .Constant (.int (m : Int)) jj q1] [] pos) Post :=
  we_take hc j i (we_of ev_int ⟨rfl, m, rfl, h0, (show Bt 64 (m : Int) by unfold Bt; omega).mono (by decide), h⟩) hg hi hv hj he he2 hpl
theorem bt64 {m : Nat} (h : m < 2 ^ 64) : Bt 8000 (m : Int) := (show Bt 64 (m : Int) by unfold Bt; omega).mono (by decide)
/-- a draw out of a list or tuple -/
theorem we_pickK {Post : D → SL → Prop} (hc : CalF X n.k nm ST_pick) (j i : Nat) (h : WK X n c Γ e fun k Γ1 => Γ1 = Γ ∧ i ∉ readIx [k] ∧ ∃ x m, pars Γ [k] = some [.w x] ∧ ownIx [k] = [] ∧ x.len = some m ∧ (∀ z, x = .str z → z.length ≤ sizeLine) ∧ 0 < m ∧ m < 2 ^ 64 ∧ (∀ k : Nat, k < m → ∃ y, x.at k = some y) ∧ ∀ (k : Nat) y, k < m → x.at k = some y → Post y Γ)
    (hg : Γ[i]? = some (.own .sto) := by rfl) (hi : n.N[i]? = some sn := by rfl) (hv : n.V.contains i = true := by rfl) (hj : n.GN[j]? = some nm := by rfl)
    (he : starEach (.Name sn p1 :: [e]) X.env = (false, eval (.Name sn p1) X.env) :: starEach [e] X.env := by exact se_c rfl) (he2 : starEach [e] X.env = (false, eval e X.env) :: starEach [] X.env := by exact se_c rfl) (hpl : (backTo pos (starEach [e] X.env)).any (·.1) = false := by exact se_any rfl) : WE X n c Γ (.Call (.Name nm p) [.Name sn p1, e] [] pos) Post :=
  we_sto hc j i (wa_cons (h.mono fun k Γ1 ⟨e1, hr, x, m, h1, h2, h3, h4, h5, h6, h7, h8⟩ => by
    subst e1
    exact wa_nil ⟨rfl, [.w x], h1, h2, hr, fun Q q => ⟨x, m, rfl, h3, h4, h5, h6, h7, fun k y hk hy => q _ ⟨_, rfl, h8 k y hk hy⟩⟩⟩) he2) hg hi hv hj he hpl
/-- .. a written list -/
theorem we_pick {Post : D → SL → Prop} (hc : CalF X n.k nm ST_pick) (j i : Nat) (h : WE X n c Γ e fun x Γ1 => Γ1 = Γ ∧ ∃ ds, x = .lst ds ∧ ds ≠ [] ∧ ds.length < 2 ^ 64 ∧ ∀ y ∈ ds, Post y Γ)
    (hg : Γ[i]? = some (.own .sto) := by rfl) (hi : n.N[i]? = some sn := by rfl) (hv : n.V.contains i = true := by rfl) (hj : n.GN[j]? = some nm := by rfl)
    (he : starEach (.Name sn p1 :: [e]) X.env = (false, eval (.Name sn p1) X.env) :: starEach [e] X.env := by exact se_c rfl) (he2 : starEach [e] X.env = (false, eval e X.env) :: starEach [] X.env := by exact se_c rfl) (hpl : (backTo pos (starEach [e] X.env)).any (·.1) = false := by exact se_any rfl) : WE X n c Γ (.Call (.Name nm p) [.Name sn p1, e] [] pos) Post :=
  we_pickK hc j i (wk_v (h.mono fun x Γ1 ⟨e1, ds, e2, h1, h2, h3⟩ => by
    subst e2
    refine ⟨e1, by simp [readIx], .lst ds, ds.length, rfl, rfl, rfl, fun z e => (by cases e), List.length_pos_iff.mpr h1, h2, fun k hk => ⟨_, at_lst (List.getElem?_eq_getElem hk)⟩, fun k y hk hy => ?_⟩
    rw [at_lst (List.getElem?_eq_getElem hk)] at hy
    cases hy
    exact h3 _ (List.getElem_mem hk))) hg hi hv hj he he2 hpl
end
end DL

end
section
set_option Elab.async false
set_option linter.all false
set_option autoImplicit true
set_option maxRecDepth 10000
set_option maxHeartbeats 400000
namespace DL
open PySem L2
/-! ### plain things: free of dicts, of so much depth -/
def D.pl : Nat → D → Prop
  | _, .non => True
  | _, .bl _ => True
  | _, .int _ => True
  | _, .str _ => True
  | k + 1, .lst ds => ds.length ≤ 100000 ∧ ∀ d ∈ ds, D.pl k d
  | k + 1, .tup ds => ds.length ≤ 100000 ∧ ∀ d ∈ ds, D.pl k d
  | _, _ => False
theorem D.pl.mono : ∀ {j k : Nat} {d : D}, j ≤ k → D.pl j d → D.pl k d
  | j, k, .non, _, _ => by cases k <;> trivial
  | j, k, .bl _, _, _ => by cases k <;> trivial
  | j, k, .int _, _, _ => by cases k <;> trivial
  | j, k, .str _, _, _ => by cases k <;> trivial
  | 0, k, .lst _, _, h => h.elim
  | 0, k, .tup _, _, h => h.elim
  | j, k, .dic _, _, h => by cases j <;> exact h.elim
  | j, k, .ins _ _, _, h => by cases j <;> exact h.elim
  | j + 1, 0, .lst ds, e, h => by omega
  | j + 1, 0, .tup ds, e, h => by omega
  | j + 1, k + 1, .lst ds, e, h => ⟨h.1, fun d hd => D.pl.mono (Nat.le_of_succ_le_succ e) (h.2 d hd)⟩
  | j + 1, k + 1, .tup ds, e, h => ⟨h.1, fun d hd => D.pl.mono (Nat.le_of_succ_le_succ e) (h.2 d hd)⟩
/-! ### texts, compared -/
theorem Wk.strV {K : PySem.W.Frag} {R H : Hp} {x : Str} {v : V} : Wk K R H (.str x) v → v = .str x
  | .inl h => h
  | .inr (.inl ⟨a, vs, es, h1, h2, h3, h4, h5⟩) => by cases h2
  | .inr (.inr (.inl ⟨a, vs, es, h1, h2, h3, h4, h5⟩)) => by cases h2
  | .inr (.inr (.inr ⟨a, dx, ws, nm, fs, h1, h2, _⟩)) => by cases h2
section
variable {X : Cx} {n : Nm} {c : Cc} {Γ : SL} {a b : Expr} {pos : Pos} {k l : AK} {u w : Str}
theorem dop_eqS : DOp X n c (compareOp .Eq) (fun x y Post => ∃ u b : Str, x = .str u ∧ y = .str b ∧ Post (.bl (decide (u = b)))) := fun _ => ⟨_, op_eq, fun Γ σ R H x y v w Post s hx hy ⟨u, b, e1, e2, p⟩ Q q => by
  subst e1 e2
  cases hx.strV; cases hy.strV
  exact ⟨rfl, q _ R H _ s (Ex.refl _) (by simp [Rp]) p⟩⟩
theorem ev_eqS (ha : EK X n c Γ a k) (hb : EK X n c Γ b l) (ga : k.get Γ = some (.str u) := by rfl) (gb : l.get Γ = some (.str w) := by rfl) : EV X n c Γ (.Compare a [.Eq] [b] pos) (.bl (decide (u = w))) := ev_cmp dop_eqS ha hb (fun _ p => ⟨u, w, rfl, rfl, p⟩) ga gb (nomark _)
end
def D.isI : D → Bool
  | .int _ => true
  | _ => false
theorem isI_ty (x : D) : (tyB x.ty "int" && !tyB x.ty "bool") = x.isI := by cases x <;> simp [tyB, D.ty, D.isI]
def ST_isint : Sg := fun ps Post => ∃ x, ps = [.w x] ∧ Post (.d (.bl x.isI)) []
def ST_same (k : Nat) : Sg := fun ps Post => ∃ v d, ps = [.w v, .w d] ∧ d.pl k ∧ ∀ b : Bool, (b = true ↔ v = d) → Post (.d (.bl b)) []
theorem atB {α : Type} {xs : List α} {i : Nat} (h : i < xs.length) : xs[i]? = some xs[i] := List.getElem?_eq_getElem h
theorem take_succ {α : Type} {xs ys : List α} {i : Nat} (h : xs.take i = ys.take i) (e : xs[i]? = ys[i]?) : xs.take (i + 1) = ys.take (i + 1) := by
  rw [List.take_succ, List.take_succ, h, e]
theorem ty_non {x : D} (h : x.isN = true) : x = .non := by cases x <;> first | rfl | cases h
theorem ty_bool {x : D} (h : tyB x.ty "bool" = true) : ∃ b, x = .bl b := by cases x <;> simp [tyB, D.ty] at h ⊢
theorem ty_int {x : D} (h : tyB x.ty "int" = true) (h2 : tyB x.ty "bool" = false) : ∃ b, x = .int b := by cases x <;> simp [tyB, D.ty] at h h2 ⊢
theorem ty_str {x : D} (h : tyB x.ty "str" = true) : ∃ b, x = .str b := by cases x <;> simp [tyB, D.ty] at h ⊢
theorem ty_dict {x : D} (h : tyB x.ty "dict" = true) : ∃ b, x = .dic b := by cases x <;> simp [tyB, D.ty] at h ⊢
theorem ty_list {x : D} (h : tyB x.ty "list" = true) : ∃ b, x = .lst b := by cases x <;> simp [tyB, D.ty] at h ⊢
theorem ty_tuple {x : D} (h : tyB x.ty "tuple" = true) : ∃ b, x = .tup b := by cases x <;> simp [tyB, D.ty] at h ⊢
theorem isI_of {x : D} (h : x.isI = true) : ∃ b, x = .int b := by cases x <;> simp [D.isI] at h ⊢
theorem ScOk.k {sc : Scope} {n : Nm} (h : ScOk sc n) (k : Nat) : ScOk sc { n with k := k } := ⟨h.1, h.2, h.3, h.4, h.5, h.6⟩
/-- two lists or two tuples side by side -/
theorem same_seq {v d : D} (h1 : d.isN = false) (h2 : tyB d.ty "bool" = false) (h3 : tyB d.ty "int" = false) (h4 : tyB d.ty "str" = false) (h5 : tyB d.ty "dict" = false) (h6 : (tyB d.ty "list" && !tyB v.ty "list") = false) (h7 : (tyB d.ty "tuple" && !tyB v.ty "tuple") = false) {jp : Nat} (h8 : D.pl jp d) :
    ∃ vs ds : List D, (v = d ↔ vs = ds) ∧ v.len = some vs.length ∧ d.len = some ds.length ∧ (∀ z, v ≠ .str z) ∧ (∀ z, d ≠ .str z) ∧ (∀ (k : Nat) y, vs[k]? = some y → v.at (k : Int) = some y) ∧ (∀ (k : Nat) y, ds[k]? = some y → d.at (k : Int) = some y) ∧ (∀ k, d.pl (k + 1) → ds.length ≤ 100000 ∧ ∀ y ∈ ds, y.pl k) ∧ (¬ d.pl 0) := by
  cases d with
  | lst ds =>
    have : tyB v.ty "list" = true := by simpa [tyB, D.ty] using h6
    obtain ⟨vs, rfl⟩ := ty_list this
    exact ⟨vs, ds, by simp, rfl, rfl, (fun z e => by cases e), (fun z e => by cases e), fun k y h => at_lst h, fun k y h => at_lst h, fun k h => h, fun h => h⟩
  | tup ds =>
    have : tyB v.ty "tuple" = true := by simpa [tyB, D.ty] using h7
    obtain ⟨vs, rfl⟩ := ty_tuple this
    exact ⟨vs, ds, by simp, rfl, rfl, (fun z e => by cases e), (fun z e => by cases e), fun k y h => at_tup h, fun k y h => at_tup h, fun k h => h, fun h => h⟩
  | ins _ _ => cases jp <;> exact absurd h8 id
  | _ => simp [tyB, D.ty, D.isN] at h1 h2 h3 h4 h5
/-! numbers: a fraction's parts, its signs -/
theorem fr_eq {n d : Int} (h : d ≠ 0) : (fr n d).num = d.sign * n / (Int.gcd d n : Nat) ∧ (fr n d).den = d.natAbs / Int.gcd d n := by
  unfold fr
  rw [Rat.num_divInt, Rat.den_divInt, if_neg h]
  exact ⟨rfl, rfl⟩
theorem qD_fr {n d : Int} (hd : 0 < d) (h : Int.gcd d n = 1) : D.tup [.int n, .int d] = qD (fr n d) := by
  obtain ⟨e1, e2⟩ := fr_eq (n := n) (d := d) (by omega)
  rw [h] at e1 e2
  rw [Int.sign_eq_one_of_pos hd, Int.one_mul] at e1
  have e1' : (fr n d).num = n := by rw [e1]; simp
  have e2' : ((fr n d).den : Int) = d := by rw [e2]; simp; omega
  rw [qD, e1', e2']
theorem fr_one (n : Int) : fr n 1 = (n : Rat) := by
  have := Rat.num_divInt_den (n : Rat)
  simpa [fr] using this
section
variable {X : Cx} {n : Nm} {c : Cc} {Γ : SL} {e a b d : Expr} {x y z : D} {pos p p1 : Pos} {nm sn : Str} {S : Sg} {es : List Expr}
theorem we_call2v {Post : D → SL → Prop} (hc : CalF X n.k nm S) (j : Nat) (h : WE X n c Γ a fun x Γ1 => WE X n c Γ1 b fun y Γ2 => S [.w x, .w y] fun r os => ∃ z, r.data = some z ∧ Post z Γ2) (hj : n.GN[j]? = some nm := by rfl)
    (he : starEach [a, b] X.env = (false, eval a X.env) :: starEach [b] X.env := by exact se_c rfl) (he2 : starEach [b] X.env = (false, eval b X.env) :: starEach [] X.env := by exact se_c rfl) (hpl : (backTo pos (starEach [b] X.env)).any (·.1) = false := by exact se_any rfl) : WE X n c Γ (.Call (.Name nm p) [a, b] [] pos) Post :=
  we_call hc j (wa_cons (wk_v (h.mono fun x Γ1 h1 => wa_cons (wk_v (h1.mono fun y Γ2 h2 => wa_nil ⟨[.w x, .w y], rfl, List.nodup_nil, by simp [readIx], h2⟩)) he2)) he) hj he hpl
end
theorem bt_of {k : Nat} {i : Int} (h1 : -(2 ^ k : Int) < i) (h2 : i < (2 ^ k : Int)) : Bt k i := by
  unfold Bt
  have e : ((2 ^ k : Nat) : Int) = (2 : Int) ^ k := by simp
  omega
section
variable {X : Cx} {n : Nm} {c : Cc} {Γ : SL} {e a b d : Expr} {pos p p1 : Pos} {nm sn : Str} {S : Sg}
end
section
variable {X : Cx} {n : Nm} {c : Cc} {Γ : SL} {e a b d : Expr} {pos p p1 : Pos} {nm sn : Str} {S : Sg} {x : D}
end
/-! ### courses -/
abbrev Pc := Rat × Rat × Rat
abbrev pD (p : Pc) : D := .tup [qD p.1, qD p.2.1, qD p.2.2]
abbrev cD (c : List Pc) : D := .lst (c.map pD)
def pline (p : Pc) (t : Rat) : Rat := p.2.1 + p.2.2 * (t - p.1)
/-- sizes of a course: starts, readings, paces -/
def Cz (s t r : Nat) (c : List Pc) : Prop := ∀ p ∈ c, Sz s p.1 ∧ Sz t p.2.1 ∧ Sz r p.2.2
end DL

end
section
set_option Elab.async false
set_option linter.all false
set_option autoImplicit true
set_option maxRecDepth 10000
set_option maxHeartbeats 400000
namespace DL
open PySem L2
section
variable {X : Cx} {n : Nm} {c : Cc} {Γ : SL} {e a b d : Expr} {pos p p1 ap pos2 : Pos} {nm sn : Str} {S : Sg} {x : D} {De : DE}
theorem ws_append (i : Nat) {ob : OB} (h : WE X n c Γ e fun x Γ' => ∃ ds, Γ'[i]? = some (.own (.lst ds)) ∧ ds.length < 1000000 ∧ De.nx (Γ'.set i (.own (.lst (ds ++ [x]))))) (hg : Γ[i]? = some (.own ob) := by rfl) (hL : ob.isL = true := by rfl) (hi : n.N[i]? = some nm := by rfl) (hv : n.V.contains i = true := by rfl)
    (hbase : attributeBase (.Name nm p) "append" X.env (eval (.Name nm p) X.env) = eval (.Name nm p) X.env := by rfl)
    (hline : (ap.endLine == pos.line) = true := by rfl) (hst : isStar e = false := by rfl)
    (hs : swapsWith (.Call (.Attribute (.Name nm p) "append" ap) [e] [] pos) none pos2.line X.env = pure false := by rfl) : WS X n c Γ (.Expr (.Call (.Attribute (.Name nm p) "append" ap) [e] [] pos) pos2) De :=
  ws_expr (we_meth i dm_append PySem.F.plainAttrs_list PySem.F.slot_list_append PySem.F.type_list_append (wa_cons (wk_e (h.mono fun x Γ' ⟨ds, h1, h2, h3⟩ => wa_nil ⟨[x], ds, rfl, h1, x, rfl, h2, h3⟩)) (se_c hst)) hg hL hi hv hbase (by rw [se_c hst]; rfl) hline (se_c hst) rfl) hs
end
/-! ### pieces side by side -/
def prs : List Pc → List (Pc × Pc)
  | p :: q :: r => (p, q) :: prs (q :: r)
  | _ => []
theorem prs_len : ∀ c : List Pc, (prs c).length = c.length - 1
  | [] => rfl
  | [_] => rfl
  | p :: q :: r => by simp [prs, prs_len (q :: r)]
theorem prs_at : ∀ {c : List Pc} {i : Nat} {p q : Pc}, c[i]? = some p → c[i + 1]? = some q → (prs c)[i]? = some (p, q)
  | [], i, p, q, h, _ => by simp at h
  | [_], i, p, q, _, h => by simp at h
  | u :: v :: r, 0, p, q, h, h' => by simp at h h'; subst h h'; rfl
  | u :: v :: r, i + 1, p, q, h, h' => by
    simp only [prs, List.getElem?_cons_succ]
    exact prs_at (by simpa using h) (by simpa using h')
def jmp (p q : Pc) : Rat := q.2.1 - pline p q.1
def jF (x : Pc × Pc) : Option (Rat × Rat) := if jmp x.1 x.2 = 0 then none else some (x.2.1, jmp x.1 x.2)
def tF (x : Pc × Pc) : Option Pc := if x.2.2.2 = x.1.2.2 ∧ jmp x.1 x.2 = 0 then none else some x.2
def jumpsQ (c : List Pc) : List (Rat × Rat) := (prs c).filterMap jF
def tidyQ (c : List Pc) : List Pc := c.take 1 ++ (prs c).filterMap tF
/-- a def of the program over a course -/
def Cw (s t r : Nat) (c : List Pc) : Prop := Cz s t r c ∧ 8 * s + 3 * t + 3 * r + 60 ≤ 7900 ∧ c.length ≤ 100000
theorem Cz.at {s t r : Nat} {c : List Pc} {i : Nat} {p : Pc} (h : Cz s t r c) (e : c[i]? = some p) : Sz s p.1 ∧ Sz t p.2.1 ∧ Sz r p.2.2 := h p (List.mem_of_getElem? e)
theorem pline_sz {s t r w : Nat} {p : Pc} {x : Rat} (h : Sz s p.1 ∧ Sz t p.2.1 ∧ Sz r p.2.2) (hx : Sz w x) : Sz (t + (r + (w + s + 1)) + 1) (pline p x) := h.2.1.add (h.2.2.mul (hx.sub h.1))
/-! what a course shows at a time -/
def oD : Option Rat → D
  | none => .non
  | some q => qD q
def past (t : Rat) (p : Pc) : Bool := !decide (t < p.1)
def nowQ (c : List Pc) (t : Rat) : Option Rat := ((c.filter (past t)).getLast?).map fun p => pline p t
def Asc (c : List Pc) : Prop := c.Pairwise fun p q => p.1 < q.1
theorem asc_past {c : List Pc} (ha : Asc c) {i : Nat} {p : Pc} {t : Rat} (hp : c[i]? = some p) (h1 : p.1 ≤ t) (h2 : ∀ q, c[i + 1]? = some q → t < q.1) : c.filter (past t) = c.take (i + 1) := by
  have e : c = c.take (i + 1) ++ c.drop (i + 1) := (List.take_append_drop _ _).symm
  have hi := (List.getElem?_eq_some_iff.mp hp).1
  have hpw := ha
  unfold Asc at hpw
  rw [List.pairwise_iff_getElem] at hpw
  have ep : c[i] = p := (List.getElem?_eq_some_iff.mp hp).2
  conv => lhs; rw [e]
  rw [List.filter_append, List.filter_eq_self.mpr, List.filter_eq_nil_iff.mpr, List.append_nil]
  · intro q hq
    obtain ⟨k, hk, e2⟩ := List.mem_iff_getElem.mp hq
    rw [List.getElem_drop] at e2
    have hk' : i + 1 + k < c.length := by rw [List.length_drop] at hk; omega
    have h3 : t < q.1 := by
      have h4 := h2 _ (atB (xs := c) (i := i + 1) (by omega))
      rcases Nat.eq_zero_or_pos k with z | z
      · subst z; rw [← e2]; exact h4
      · have := hpw (i + 1) (i + 1 + k) (by omega) hk' (by omega)
        rw [e2] at this
        grind
    simp [past, h3]
  · intro q hq
    obtain ⟨k, hk, e2⟩ := List.mem_iff_getElem.mp hq
    rw [List.getElem_take] at e2
    have hk' : k < i + 1 := by rw [List.length_take] at hk; omega
    have h3 : q.1 ≤ p.1 := by
      rcases Nat.lt_or_ge k i with z | z
      · have := hpw k i (by omega) hi z
        rw [e2, ep] at this
        grind
      · have : k = i := by omega
        subst this
        rw [← e2, ep]; grind
    have : ¬ t < q.1 := by grind
    simp [past, this]
theorem now_at {c : List Pc} (ha : Asc c) {i : Nat} {p : Pc} {t : Rat} (hp : c[i]? = some p) (h1 : p.1 ≤ t) (h2 : ∀ q, c[i + 1]? = some q → t < q.1) : nowQ c t = some (pline p t) := by
  have hi := (List.getElem?_eq_some_iff.mp hp).1
  unfold nowQ
  rw [asc_past ha hp h1 h2, List.take_succ, hp]
  simp
theorem asc_lt {c : List Pc} (ha : Asc c) {i j : Nat} {p q : Pc} (hp : c[i]? = some p) (hq : c[j]? = some q) (h : i < j) : p.1 < q.1 := by
  have hpw := ha
  unfold Asc at hpw
  rw [List.pairwise_iff_getElem] at hpw
  obtain ⟨a1, a2⟩ := List.getElem?_eq_some_iff.mp hp
  obtain ⟨b1, b2⟩ := List.getElem?_eq_some_iff.mp hq
  have := hpw i j a1 b1 h
  rwa [a2, b2] at this
/-! the law's own readings of a course -/
/-- does piece i + 1 go on where piece i leads? -/
def cf (c : List Pc) (i : Nat) : Bool := match (prs c)[i]? with
  | some x => (tF x).isNone
  | none => false
def contI (c : List Pc) : List Int := ((List.range (c.length - 1)).filter (cf c)).map fun (i : Nat) => (i : Int) + 1
theorem cont_mem {c : List Pc} {i : Nat} : ((i : Int) + 1) ∈ contI c ↔ cf c i = true ∧ i < c.length - 1 := by
  unfold contI
  simp only [List.mem_map, List.mem_filter, List.mem_range]
  constructor
  · rintro ⟨j, ⟨h1, h2⟩, h3⟩
    have : j = i := by omega
    subst this; exact ⟨h2, h1⟩
  · rintro ⟨h1, h2⟩; exact ⟨i, ⟨h2, h1⟩, rfl⟩
end DL

end
section
set_option Elab.async false
set_option linter.all false
set_option autoImplicit true
set_option maxRecDepth 10000
set_option maxHeartbeats 400000
namespace DL
open PySem L2
def Up (qs : List Rat) : Prop := qs.Pairwise (· < ·)
theorem up_lt {out : List Rat} (h : Up out) {i j : Nat} {p q : Rat} (hp : out[i]? = some p) (hq : out[j]? = some q) (hij : i < j) : p < q := by
  unfold Up at h
  rw [List.pairwise_iff_getElem] at h
  obtain ⟨a1, a2⟩ := List.getElem?_eq_some_iff.mp hp
  obtain ⟨b1, b2⟩ := List.getElem?_eq_some_iff.mp hq
  have := h i j a1 b1 hij
  rwa [a2, b2] at this
/-- so many are below x -/
def Spot (out : List Rat) (x : Rat) (k s : Nat) : Prop := s ≤ k ∧ ∀ j q, j < k → out[j]? = some q → (q < x ↔ j < s)
theorem Spot.zero {out : List Rat} {x : Rat} : Spot out x 0 0 := ⟨Nat.le_refl _, fun j q h => absurd h (by omega)⟩
theorem Spot.yes {out : List Rat} {x y : Rat} {k s : Nat} (hu : Up out) (h : Spot out x k s) (hy : out[k]? = some y) (hl : y < x) : Spot out x (k + 1) (k + 1) := by
  refine ⟨Nat.le_refl _, fun j q hj hq => ⟨fun _ => hj, fun _ => ?_⟩⟩
  rcases Nat.lt_or_ge j k with z | z
  · have := up_lt hu hq hy z; grind
  · have : j = k := by omega
    subst this; rw [hy] at hq; cases hq; exact hl
theorem Spot.no {out : List Rat} {x y : Rat} {k s : Nat} (h : Spot out x k s) (hy : out[k]? = some y) (hl : ¬ y < x) : Spot out x (k + 1) s := by
  refine ⟨by have := h.1; omega, fun j q hj hq => ?_⟩
  rcases Nat.lt_or_ge j k with z | z
  · exact h.2 j q z hq
  · have : j = k := by omega
    subst this; rw [hy] at hq; cases hq
    exact ⟨fun z => absurd z hl, fun z => absurd z (by have := h.1; omega)⟩
theorem Spot.ins {out : List Rat} {x : Rat} {s : Nat} (hu : Up out) (h : Spot out x out.length s) (hx : ∀ y, out[s]? = some y → y ≠ x) : Up (out.take s ++ [x] ++ out.drop s) := by
  unfold Up
  have e : out = out.take s ++ out.drop s := (List.take_append_drop _ _).symm
  have h1 : ∀ y ∈ out.take s, y < x := fun y hy => by
    obtain ⟨j, hj, e2⟩ := List.mem_iff_getElem.mp hy
    rw [List.length_take] at hj
    rw [List.getElem_take] at e2
    have hj2 : out[j]? = some y := by rw [← e2]; exact atB (by omega)
    exact (h.2 j y (by omega) hj2).mpr (by omega)
  have h2 : ∀ y ∈ out.drop s, x < y := fun y hy => by
    obtain ⟨j, hj, e2⟩ := List.mem_iff_getElem.mp hy
    rw [List.length_drop] at hj
    rw [List.getElem_drop] at e2
    have hj2 : out[s + j]? = some y := by rw [← e2]; exact atB (by omega)
    have h0 := atB (xs := out) (i := s) (by omega)
    have a1 : ¬ out[s] < x := fun z => absurd ((h.2 s _ (by omega) h0).mp z) (by omega)
    have a2 := hx _ h0
    have a3 : x < out[s] := by grind
    rcases Nat.eq_zero_or_pos j with z | z
    · subst z; rw [Nat.add_zero, h0] at hj2; cases hj2; exact a3
    · have := up_lt hu h0 hj2 (by omega); grind
  have hp := hu
  unfold Up at hp
  rw [e, List.pairwise_append] at hp
  rw [List.append_assoc, List.pairwise_append]
  refine ⟨hp.1, ?_, fun a ha b hb => ?_⟩
  · show List.Pairwise (· < ·) (x :: out.drop s)
    rw [List.pairwise_cons]
    exact ⟨h2, hp.2.1⟩
  · have hb' : b = x ∨ b ∈ out.drop s := by simpa using hb
    rcases hb' with rfl | hb'
    · exact h1 a ha
    · have := h1 a ha; have := h2 b hb'; grind
theorem up_last {out : List Rat} (hu : Up out) {z q : Rat} (hz : out[out.length - 1]? = some z) (hq : q ∈ out) : q ≤ z := by
  obtain ⟨j, hj, e⟩ := List.mem_iff_getElem.mp hq
  have h1 : out[j]? = some q := by rw [← e]; exact atB hj
  rcases Nat.lt_or_ge j (out.length - 1) with h | h
  · have := up_lt hu h1 hz h; grind
  · have : j = out.length - 1 := by omega
    rw [← this, h1] at hz; cases hz; grind
end DL

end
section
set_option Elab.async false
set_option linter.all false
set_option autoImplicit true
set_option maxRecDepth 10000
set_option maxHeartbeats 400000
namespace DL
open PySem L2
/-! ### fractions over a common line -/
def Sd (N n : Nat) (q : Rat) : Prop := q.den ∣ N ∧ Bt n q.num
theorem fr_dvd {n d : Int} {N : Nat} (h : d ≠ 0) (hd : d.natAbs ∣ N) : (fr n d).den ∣ N := by
  rw [(fr_eq (n := n) h).2]
  exact Nat.dvd_trans (Nat.div_dvd_of_dvd (Nat.gcd_dvd_left _ _)) hd
theorem over_N {q : Rat} {N : Nat} (h : q.den ∣ N) (h0 : N ≠ 0) : ∃ x : Int, q = fr x (N : Int) := by
  obtain ⟨m, rfl⟩ := h
  refine ⟨q.num * m, ?_⟩
  have hm : (m : Int) ≠ 0 := by
    intro z
    have : m = 0 := by omega
    subst this; simp at h0
  unfold fr
  have := Rat.divInt_mul_right (n := q.num) (d := (q.den : Int)) hm
  rw [Int.natCast_mul, this, Rat.num_divInt_den]
theorem add_den {a b : Rat} {N : Nat} (ha : a.den ∣ N) (hb : b.den ∣ N) (h0 : N ≠ 0) : (a + b).den ∣ N := by
  obtain ⟨x, rfl⟩ := over_N ha h0
  obtain ⟨y, rfl⟩ := over_N hb h0
  have hN : (N : Int) ≠ 0 := by omega
  have e : fr x (N : Int) + fr y (N : Int) = fr (x + y) (N : Int) := by
    unfold fr
    rw [Rat.divInt_add_divInt _ _ hN hN, ← Int.add_mul, Rat.divInt_mul_right hN]
  rw [e]
  exact fr_dvd hN (by simp)
theorem Sd.add {N n m k L : Nat} {a b : Rat} (ha : Sd N n a) (hb : Sd N m b) (h0 : N ≠ 0) (hL : N < 2 ^ L) (hn : n ≤ k) (hm : m ≤ k) : Sd N (k + L + 1) (a + b) := by
  refine ⟨add_den ha.1 hb.1 h0, ?_⟩
  have bd : ∀ {q : Rat}, q.den ∣ N → Bt L (q.den : Int) := fun h => by
    have := Nat.le_of_dvd (by omega) h
    show ((_ : Nat) : Int).natAbs < _
    rw [Int.natAbs_natCast]; omega
  have hn : Bt (k + L + 1) (a.num * (b.den : Int) + b.num * (a.den : Int)) := ((ha.2.mono hn).mul (bd hb.1)).add ((hb.2.mono hm).mul (bd ha.1))
  refine Nat.lt_of_le_of_lt ?_ hn
  rw [Rat.num_add, Int.natAbs_ediv_of_dvd (Int.ofNat_dvd_left.2 (Nat.gcd_dvd_left ..))]
  exact Nat.div_le_self _ _
theorem Sd.neg {N n : Nat} {a : Rat} (h : Sd N n a) : Sd N n (-a) := ⟨h.1, by rw [Rat.neg_num]; exact h.2.neg⟩
theorem Sd.sub {N n m k L : Nat} {a b : Rat} (ha : Sd N n a) (hb : Sd N m b) (h0 : N ≠ 0) (hL : N < 2 ^ L) (hn : n ≤ k) (hm : m ≤ k) : Sd N (k + L + 1) (a - b) := by
  rw [Rat.sub_eq_add_neg]; exact ha.add hb.neg h0 hL hn hm
theorem Sd.mul {N M n m : Nat} {a b : Rat} (ha : Sd N n a) (hb : Sd M m b) : Sd (N * M) (n + m) (a * b) := by
  refine ⟨?_, ?_⟩
  · rw [Rat.den_mul]
    exact Nat.dvd_trans (Nat.div_dvd_of_dvd (Nat.gcd_dvd_right ..)) (Nat.mul_dvd_mul ha.1 hb.1)
  · refine Nat.lt_of_le_of_lt ?_ (ha.2.mul hb.2)
    rw [Rat.num_mul, Int.natAbs_ediv_of_dvd (Int.ofNat_dvd_left.2 (Nat.gcd_dvd_left ..))]
    exact Nat.div_le_self _ _
theorem Sd.mono {N M n m : Nat} {a : Rat} (h : Sd N n a) (hN : N ∣ M) (hn : n ≤ m) : Sd M m a := ⟨Nat.dvd_trans h.1 hN, h.2.mono hn⟩
theorem Sd.sz {N n k : Nat} {a : Rat} (h : Sd N n a) (h0 : N ≠ 0) (hN : N < 2 ^ k) (hn : n ≤ 8 * k) : Sz k a := ⟨h.2.mono hn, by have := Nat.le_of_dvd (by omega) h.1; omega⟩
/-- drawn times, steps, paces -/
def PPart (q : Rat) : Prop := Sd 60 24 q
def PStep (q : Rat) : Prop := Sd 60 24 q ∧ 0 < q
def PPace (q : Rat) : Prop := Sd 27720 32 q ∧ 0 < q
abbrev N2 : Nat := 26611200
theorem Asc.snoc {c : List Pc} {p : Pc} (h : Asc c) (hp : ∀ x ∈ c, x.1 < p.1) : Asc (c ++ [p]) := by
  unfold Asc
  rw [List.pairwise_append]
  exact ⟨h, List.pairwise_singleton _ _, fun a ha b hb => by
    have : b = p := by simpa using hb
    rw [this]; exact hp a ha⟩
/-- a piece is put behind piece i, on its line -/
def CutS (c d : List Pc) : Prop := ∃ (i : Nat) (p : Pc) (w : Rat), c[i]? = some p ∧ p.1 < w ∧ (∀ q, c[i + 1]? = some q → w < q.1) ∧ d = c.take (i + 1) ++ [(w, pline p w, p.2.2)] ++ c.drop (i + 1)
theorem CutS.len {c d : List Pc} (h : CutS c d) : d.length = c.length + 1 := by
  obtain ⟨i, p, w, h1, _, _, rfl⟩ := h
  have := (List.getElem?_eq_some_iff.mp h1).1
  simp only [List.length_append, List.length_take, List.length_drop, List.length_singleton]; omega
theorem CutS.asc {c d : List Pc} (ha : Asc c) (h : CutS c d) : Asc d := by
  obtain ⟨i, p, w, h1, h2, h3, rfl⟩ := h
  have hp := ha
  unfold Asc at hp ⊢
  rw [← List.take_append_drop (i + 1) c, List.pairwise_append] at hp
  rw [List.append_assoc, List.pairwise_append]
  have a1 : ∀ y ∈ c.take (i + 1), y.1 < w := fun y hy => by
    obtain ⟨j, hj, e2⟩ := List.mem_iff_getElem.mp hy
    rw [List.length_take] at hj
    rw [List.getElem_take] at e2
    have hj2 : c[j]? = some y := by rw [← e2]; exact atB (by omega)
    rcases Nat.lt_or_ge j i with z | z
    · have := asc_lt ha hj2 h1 z; grind
    · have : j = i := by omega
      rw [this, h1] at hj2; cases hj2; exact h2
  have a2 : ∀ y ∈ c.drop (i + 1), w < y.1 := fun y hy => by
    obtain ⟨j, hj, e2⟩ := List.mem_iff_getElem.mp hy
    rw [List.length_drop] at hj
    rw [List.getElem_drop] at e2
    have hj2 : c[i + 1 + j]? = some y := by rw [← e2]; exact atB (by omega)
    have h0 := atB (xs := c) (i := i + 1) (by omega)
    have h4 := h3 _ h0
    rcases Nat.eq_zero_or_pos j with z | z
    · rw [z, Nat.add_zero, h0] at hj2; cases hj2; exact h4
    · have := asc_lt ha h0 hj2 (by omega); grind
  refine ⟨hp.1, ?_, fun a hx b hb => ?_⟩
  · show List.Pairwise _ (_ :: c.drop (i + 1))
    exact List.pairwise_cons.mpr ⟨a2, hp.2.1⟩
  · have hb' : b = (w, pline p w, p.2.2) ∨ b ∈ c.drop (i + 1) := by simpa using hb
    rcases hb' with rfl | hb'
    · exact a1 a hx
    · have := a1 a hx; have := a2 b hb'; grind
theorem CutS.mem {c d : List Pc} (h : CutS c d) : ∃ (p : Pc) (w : Rat), p ∈ c ∧ d.Perm ((w, pline p w, p.2.2) :: c) := by
  obtain ⟨i, p, w, h1, h2, h3, rfl⟩ := h
  refine ⟨p, w, List.mem_of_getElem? h1, ?_⟩
  rw [List.append_assoc]
  refine List.perm_middle.trans ?_
  show (_ :: (c.take (i + 1) ++ c.drop (i + 1))).Perm _
  rw [List.take_append_drop]
end DL

end
section
set_option Elab.async false
set_option linter.all false
set_option autoImplicit true
set_option maxRecDepth 10000
set_option maxHeartbeats 400000
namespace DL
open PySem L2
/-! ### plain law: tidied courses -/
/-- on one line -/
def SLn (p q : Pc) : Prop := q.2.2 = p.2.2 ∧ ∀ t, pline p t = pline q t
theorem SLn.symm {p q : Pc} (h : SLn p q) : SLn q p := ⟨h.1.symm, fun t => (h.2 t).symm⟩
theorem sln_of {p q : Pc} (h1 : q.2.2 = p.2.2) (h2 : jmp p q = 0) : SLn p q := ⟨h1, fun t => by
  unfold jmp at h2
  unfold pline at h2 ⊢
  rw [h1]; grind⟩
theorem SLn.jmp {p q : Pc} (h : SLn p q) : jmp p q = 0 := by
  unfold DL.jmp
  rw [h.2 q.1]
  unfold pline
  grind
theorem SLn.j {p p' q : Pc} (h : SLn p p') : DL.jmp p q = DL.jmp p' q := by unfold DL.jmp; rw [h.2]
theorem SLn.tF {p p' q : Pc} (h : SLn p p') : tF (p, q) = DL.tF (p', q) := by unfold DL.tF; rw [h.j, h.1]
theorem SLn.jF {p p' q : Pc} (h : SLn p p') : jF (p, q) = DL.jF (p', q) := by unfold DL.jF; rw [h.j]
theorem SLn.t0 {p q : Pc} (h : SLn p q) : DL.tF (p, q) = none := by unfold DL.tF; simp [h.1, h.jmp]
theorem SLn.j0 {p q : Pc} (h : SLn p q) : DL.jF (p, q) = none := by unfold DL.jF; simp [h.jmp]
theorem t0_sln {p q : Pc} (h : DL.tF (p, q) = none) : SLn p q := by
  unfold DL.tF at h
  split at h
  · rename_i h'; exact sln_of h'.1 h'.2
  · cases h
theorem tF_some {p q x : Pc} (h : DL.tF (p, q) = some x) : x = q := by
  unfold DL.tF at h
  split at h
  · cases h
  · cases h; rfl
def tq (p : Pc) (r : List Pc) : List Pc := (prs (p :: r)).filterMap tF
theorem tq_cons (p q : Pc) (r : List Pc) : tq p (q :: r) = (tF (p, q)).toList ++ tq q r := by
  unfold tq
  simp only [prs, List.filterMap_cons]
  cases tF (p, q) <;> rfl
theorem tq_sln {p p' : Pc} (h : SLn p p') : ∀ r, tq p r = tq p' r
  | [] => rfl
  | q :: r => by rw [tq_cons, tq_cons, h.tF]
theorem tq_idem : ∀ (r : List Pc) (p : Pc), tq p (tq p r) = tq p r
  | [], p => rfl
  | q :: r, p => by
    rw [tq_cons]
    cases e : tF (p, q) with
    | none =>
      show tq p (tq q r) = tq q r
      rw [tq_sln (t0_sln e).symm, tq_idem r p]
    | some x =>
      have := tF_some e
      subst this
      show tq p (x :: tq x r) = x :: tq x r
      rw [tq_cons, e, tq_idem r x]; rfl
theorem tq_sub : ∀ (r : List Pc) (p : Pc), (tq p r).Sublist r
  | [], p => List.Sublist.refl _
  | q :: r, p => by
    rw [tq_cons]
    cases e : tF (p, q) with
    | none => exact (tq_sub r q).cons _
    | some x =>
      have := tF_some e
      subst this
      exact (tq_sub r x).cons_cons _
theorem now_app (a b : List Pc) (t : Rat) : nowQ (a ++ b) t = (nowQ b t).or (nowQ a t) := by
  unfold nowQ
  rw [List.filter_append, List.getLast?_append]
  cases (b.filter (past t)).getLast? <;> rfl
theorem now_two {p q : Pc} (h : SLn p q) (hl : p.1 < q.1) (t : Rat) : nowQ [p, q] t = nowQ [p] t := by
  unfold nowQ
  by_cases h1 : t < p.1
  · have h2 : t < q.1 := by grind
    simp [past, h1, h2]
  · by_cases h2 : t < q.1
    · simp [past, h1, h2]
    · simp [past, h1, h2, h.2]
theorem now_tq : ∀ (r : List Pc) (p : Pc) (t : Rat), Asc (p :: r) → nowQ (p :: tq p r) t = nowQ (p :: r) t
  | [], p, t, _ => rfl
  | q :: r, p, t, ha => by
    obtain ⟨h1, h2⟩ := List.pairwise_cons.mp ha
    rw [tq_cons]
    have e2 : nowQ (p :: q :: r) t = (nowQ (q :: r) t).or (nowQ [p] t) := now_app [p] (q :: r) t
    cases e : tF (p, q) with
    | none =>
      show nowQ (p :: tq q r) t = _
      have hs := t0_sln e
      obtain ⟨h3, h4⟩ := List.pairwise_cons.mp h2
      have ha' : Asc (p :: r) := List.pairwise_cons.mpr ⟨fun x hx => h1 x (List.mem_cons_of_mem _ hx), h4⟩
      rw [tq_sln hs.symm, now_tq r p t ha']
      have e3 : nowQ (p :: q :: r) t = (nowQ r t).or (nowQ [p, q] t) := now_app [p, q] r t
      have e4 : nowQ (p :: r) t = (nowQ r t).or (nowQ [p] t) := now_app [p] r t
      rw [e3, e4, now_two hs (h1 q List.mem_cons_self)]
    | some x =>
      have := tF_some e
      subst this
      show nowQ (p :: x :: tq x r) t = _
      have e5 : nowQ (p :: x :: tq x r) t = (nowQ (x :: tq x r) t).or (nowQ [p] t) := now_app [p] (x :: tq x r) t
      rw [e5, e2, now_tq r x t h2]
theorem tidy_cons (p : Pc) (r : List Pc) : tidyQ (p :: r) = p :: tq p r := rfl
theorem tidy_idem {c : List Pc} : tidyQ (tidyQ c) = tidyQ c := by
  cases c with
  | nil => rfl
  | cons p r => rw [tidy_cons, tidy_cons, tq_idem]
theorem now_tidy {c : List Pc} (ha : Asc c) (t : Rat) : nowQ (tidyQ c) t = nowQ c t := by
  cases c with
  | nil => rfl
  | cons p r => rw [tidy_cons]; exact now_tq r p t ha
theorem tidy_sub (c : List Pc) : (tidyQ c).Sublist c := by
  cases c with
  | nil => exact List.Sublist.refl _
  | cons p r => rw [tidy_cons]; exact (tq_sub r p).cons_cons _
theorem fm_all {α β : Type} {f : α → Option β} : ∀ {xs : List α}, (xs.filterMap f).length = xs.length → ∀ x ∈ xs, (f x).isNone = false
  | [], _, x, hx => by cases hx
  | y :: xs, h, x, hx => by
    have hl := List.length_filterMap_le f xs
    cases e : f y with
    | none =>
      rw [List.filterMap_cons, e] at h
      simp only [List.length_cons] at h; omega
    | some z =>
      rw [List.filterMap_cons, e] at h
      simp only [List.length_cons] at h
      rcases List.mem_cons.mp hx with rfl | hx
      · rw [e]; rfl
      · exact fm_all (by omega) x hx
theorem cont_tidy {c : List Pc} : contI (tidyQ c) = [] := by
  cases c with
  | nil => rfl
  | cons p r =>
    rw [tidy_cons]
    have hl : ((prs (p :: tq p r)).filterMap tF).length = (prs (p :: tq p r)).length := by
      show (tq p (tq p r)).length = _
      rw [tq_idem, prs_len]; rfl
    have ha := fm_all hl
    unfold contI
    rw [List.map_eq_nil_iff, List.filter_eq_nil_iff]
    intro i _
    unfold cf
    cases e : (prs (p :: tq p r))[i]? with
    | none => simp
    | some x =>
      have := ha x (List.mem_of_getElem? e)
      simp [this]
/-! from one place on, every reading moved by so much -/
def turn (c : List Pc) (k : Nat) (by_ : Rat) : List Pc := c.take k ++ (c.drop k).map fun p => (p.1, p.2.1 + by_, p.2.2)
end DL

end
section
set_option Elab.async false
set_option linter.all false
set_option autoImplicit true
set_option maxRecDepth 10000
set_option maxHeartbeats 400000
namespace DL
open PySem L2
/-! ### courses as data -/
/-! ### from one place on moved -/
end DL

end
section
set_option Elab.async false
set_option linter.all false
set_option autoImplicit true
set_option maxRecDepth 100000
set_option maxHeartbeats 400000
namespace DL
open PySem L2
/-! ### what the top has written -/
theorem law_end {P : Program} {w : World} {K : PySem.W.Frag} {mg : Str → Option Value} {fa : Addr} {nm x : Str} {st : Stmt} {lev : Nat} {S : Sg} (d : DefAt K mg nm st [x]) (hm : mg nm = some (.ref fa)) (ok : ∀ base : Heap, FnOk P w K mg base CX0 lev d.a d.fd [x] (spOf K S)) :
    ∃ fd : FuncData, (∀ (s : Shared) (v : Value), BindsTo s fd ⟨[v], []⟩ [(x, v)]) ∧ ∀ base : Heap, K.In base → base.Ns mainGlobals mg → FnOk P w K mg base CX0 lev fa fd [x] (spOf K S) := by
  have e : some (Value.ref d.a) = some (Value.ref fa) := d.m.symm.trans hm
  have e2 : d.a = fa := by cases e; rfl
  exact ⟨d.fd, fun s v => .of_eq (d.bb [v] rfl), fun base _ _ => e2 ▸ ok base⟩
theorem sp_law {S : Sg} {m : Nat} (hS : ∀ ns : List Int, ns.length ≤ m → S [.sc ns] fun r _ => r = .d (.bl true)) (K : PySem.W.Frag) (H : Hp) (a : Addr) (ns : List Int) (hl : ns.length ≤ m) (_ : Only H) (hq : SqL K H a (ns.map V.int)) : spOf K S [.ref a] H (fun v _ => v = .bl true) fun _ _ _ => False :=
  ⟨H, [.sc ns], _, Ex.refl _, ⟨.ref a, [], rfl, ⟨a, rfl, hq⟩, rfl⟩, List.nodup_nil, hS ns hl, fun v R' H' r os _ hr _ e => by subst e; exact hr⟩
end DL

end
section
set_option Elab.async false
set_option linter.all false
set_option autoImplicit true
set_option maxRecDepth 10000
set_option maxHeartbeats 400000
namespace DL
open PySem L2
/-! ### the times at which a course shows a reading -/
theorem fr_inv {b : Rat} : fr (b.den : Int) b.num = b⁻¹ := (Rat.inv_def b).symm
theorem div_eq {a b : Rat} : a * b⁻¹ = a / b := (Rat.div_def a b).symm
theorem gcd_nd (b : Rat) : Int.gcd b.num (b.den : Int) = 1 := by
  have := b.reduced
  simpa [Int.gcd, Nat.Coprime] using this
theorem inv_pos {b : Rat} (h : 0 < b.num) : D.tup [.int (b.den : Int), .int b.num] = qD b⁻¹ := by
  rw [qD_fr h (gcd_nd b), fr_inv]
def tmP (p : Pc) (r : Rat) : Rat := p.1 + (r - p.2.1) / p.2.2
theorem tmP_sz {s t r v w : Nat} {p : Pc} {x : Rat} (h : Sz s p.1 ∧ Sz t p.2.1 ∧ Sz r p.2.2) (hv : Sz v p.2.2⁻¹) (hx : Sz w x) : Sz (s + (w + t + 1 + v) + 1) (tmP p x) := by
  unfold tmP
  rw [← div_eq]
  exact h.1.add ((hx.sub h.2.1).mul hv)
section
open PyProof.Rows hiding St
variable {X : Cx} {n : Nm} {c : Cc} {Γ : SL} {e a b : Expr} {x y z : DL.D} {pos p : Pos} {nm : Str} {D : DE}
/-- what a slot holds is forgotten -/
theorem wb_any (i : Nat) {sts : List Stmt} {s0 : Slot} (h : WB X n c (Γ.set i .any) sts D) (hg : Γ[i]? = some s0 := by rfl) (hoi : n.oi.contains i = false := by rfl) : WB X n c Γ sts D := .mk fun hn σ R H s E ok => by
  obtain ⟨w, e1, -⟩ := s.sl i _ hg
  have hl : i < Γ.length := (List.getElem?_eq_some_iff.mp hg).1
  have es : σ.set i w = σ := by
    apply List.ext_getElem?
    intro j
    by_cases hj : i = j
    · subst hj; rw [List.getElem?_set_self (by rw [← s.len]; exact hl), e1]
    · rw [List.getElem?_set_ne hj]
  have s2 : SOk X.K c (Γ.set i .any) (σ.set i w) R H := s.set i (v := w) rfl trivial (hn.noi hoi)
  rw [es] at s2
  exact h.run hn σ R H s2 E ok
end
end DL

end
section
set_option Elab.async false
set_option linter.all false
set_option autoImplicit true
set_option maxRecDepth 10000
set_option maxHeartbeats 400000
namespace DL
open PySem L2
open PyProof.Rows hiding St
/-! ### xs.count(x) of fractions -/
section
variable {X : Cx} {n : Nm} {c : Cc} {Γ : SL} {e a b : Expr} {pos ap : Pos}
end
end DL

end
section
set_option Elab.async false
set_option linter.all false
set_option autoImplicit true
set_option maxRecDepth 10000
set_option maxHeartbeats 400000
namespace DL
open PySem L2
section
open PyProof.Rows hiding St
variable {X : Cx} {n : Nm} {c : Cc} {Γ : SL} {e a b : Expr} {x y z : DL.D} {pos p : Pos} {nm : Str} {D : DE} {k : AK}
end
/-! ### spans -/
abbrev Spn := Option Rat × Option Rat
abbrev sD (s : Spn) : D := .tup [oD s.1, oD s.2]
def SzO (k : Nat) (o : Option Rat) : Prop := ∀ q, o = some q → Sz k q
def SzS (k : Nat) (s : Spn) : Prop := SzO k s.1 ∧ SzO k s.2
theorem SzO.mono {j k : Nat} {o : Option Rat} (h : SzO j o) (e : j ≤ k) : SzO k o := fun q hq => (h q hq).mono e
theorem SzS.mono {j k : Nat} {s : Spn} (h : SzS j s) (e : j ≤ k) : SzS k s := ⟨h.1.mono e, h.2.mono e⟩
def OrdS (s : Spn) : Prop := ∀ a b, s.1 = some a → s.2 = some b → ¬ b < a
def loIn (o : Option Rat) (t : Rat) : Bool := match o with
  | none => true
  | some a => !decide (t < a)
def hiIn (o : Option Rat) (t : Rat) : Bool := match o with
  | none => true
  | some a => !decide (a < t)
def inS (s : Spn) (t : Rat) : Bool := loIn s.1 t && hiIn s.2 t
def maxQ (a b : Rat) : Rat := if a < b then b else a
def minQ (a b : Rat) : Rat := if b < a then b else a
def oS : Option Spn → D
  | none => .non
  | some s => sD s
def inO (o : Option Spn) (t : Rat) : Bool := match o with
  | none => false
  | some s => inS s t
/-- all ends -/
def endsQ (ss : List Spn) : List Rat := ss.flatMap fun s => s.1.toList ++ s.2.toList
def PSpare (q : Rat) : Prop := Sd 60 24 q ∧ ¬ q < 0
end DL

end
section
set_option Elab.async false
set_option linter.all false
set_option autoImplicit true
set_option maxRecDepth 100000
set_option maxHeartbeats 1000000
/-! own exceptions whose __init__ begins with super().__init__(text) -/
namespace DL
open PySem L2 NdefX
open PyProof.Rows hiding St
/-- what the written part says of such a class and its __init__ -/
structure SupC (P : Program) (K : PySem.W.Frag) (mg : Str → Option Value) (C fI cc cda : Addr) : Prop where
  T : OexC K C
  cell : ∃ cl cld csl, K.lookup cc = some ⟨cl, cld, .cell (some (.ref C)), csl⟩
  code : ∃ ccl cdd vs ccs file tf, K.lookup cda = some ⟨ccl, cdd, .fields vs, ccs⟩ ∧ vs[2]? = some (.str file tf) ∧ ((P.main.file : Str) == file) = true
  cls : (PySem.W.clsIn K C).isSome = true
  sub : PySem.W.mroIn K C (.ref C) = some true
  sup : mg "super" = none
  tp : PySem.W.nsIn K cStatics "thirdparty.any" = some none
  ini : PySem.W.ks_superIn K C C "__init__" = some (some (.builtin "ValueError.__init__"))
  ve : PySem.W.subIn K (.ref C) (.type "ValueError") = some true
  top : (P.main.scope.names.lookup ("super" : Str)).isSome = false
section
variable {X : Cx} {σ : L2.St} {H : Hp} {s : Shared} {a C fI cc cda : Addr}
end
section
variable {P : Program} {w : World} {K : PySem.W.Frag} {mg : Str → Option Value} {base : Heap} {CX : CXT}
end
end DL

end
section
set_option Elab.async false
set_option linter.all false
set_option autoImplicit true
set_option maxRecDepth 100000
set_option maxHeartbeats 400000
/-! defs that raise own exceptions -/
namespace DL
open PySem L2
open PyProof.Rows hiding St
abbrev SgX := List Par → (Res → Prop) → (Addr → List (Str × D) → Prop) → Prop
def spOfX (K : PySem.W.Frag) (S : SgX) : Sp := fun vs H Q E => ∃ (R : Hp) (ps : List Par) (Post : Res → Prop) (Xp : Addr → List (Str × D) → Prop), Ex R H ∧ ParsOk K (fun a => a ∈ ownAd ps vs) R H ps vs ∧ parOi 0 ps = [] ∧ S ps Post Xp ∧
  (∀ v R' H' r, After K [] R H R' H' → RetOk K H R' H' r v → Post r → Q v H') ∧ ∀ C d fs R' H', After K [] R H R' H' → XdOk K R' H' H d fs → Xp C fs → E (.ref C) d H'
structure CalX (X : Cx) (k : Nat) (nm : Str) (S : SgX) : Prop where
  rm : Room k X.A
  ex : ∃ f fd ps k0, FnOk X.prog X.w X.K X.mg X.base (L2N.CX X.prog X.w) k0 f fd ps (spOfX X.K S) ∧ k0 ≤ k ∧ X.mg nm = some (.ref f) ∧ PySem.W.keepIn X.K (.ref f) = true ∧ Binds X.K fd ps []
theorem CalX.mono {X : Cx} {j k : Nat} {nm : Str} {S : SgX} (h : CalX X j nm S) (e : j ≤ k) (rm : Room k X.A) : CalX X k nm S :=
  let ⟨f, fd, ps, k0, a, b, c⟩ := h.ex; ⟨rm, f, fd, ps, k0, a, Nat.le_trans b e, c⟩
section
variable {X : Cx} {n : Nm} {c : Cc} {Γ : SL} {e a b : Expr} {x y z : D} {pos p : Pos} {nm : Str} {S : SgX} {es : List Expr}
end
end DL

end
section
set_option Elab.async false
set_option linter.all false
set_option autoImplicit true
set_option maxRecDepth 100000
set_option maxHeartbeats 1000000
/-! except suites: isinstance, fields, calls there; try .. except X as n -/
namespace DL
open PySem L2
open PyProof.Rows hiding St
end DL
namespace PySem.W
open PySem PySem.Spec PySem.Calls PyProof.Rows
section
variable {prog : Program} {w : World} {A : Around} {E : Value → Shared → Prop} {s : Shared} {K : Frag} {x D : Addr} {ox : Obj} {od : Option Obj}
end
end PySem.W
namespace DL
open PySem L2
open PyProof.Rows hiding St
/-- a class by its name: an own one or a built-in one -/
structure KCls (X : Cx) (nm : Str) (cv : Value) : Prop where
  nm : (∃ C, X.mg nm = some (.ref C) ∧ cv = .ref C) ∨ (X.mg nm = none ∧ ∃ T, bootBuiltins nm = some (.type T) ∧ cv = .type T)
section
variable {X : Cx} {n : Nm} {c : Cc} {Γ : SL} {e : Expr} {es : List Expr} {x : D} {pos p p1 p2 : Pos} {nm en cn : Str} {a C : Addr} {d : Option Addr} {fs : List (Str × D)} {cv : Value} {b : Bool} {De : DE}
end
/-! ### defs called in a suite with the exception -/
section
variable {X : Cx} {n : Nm} {c : Cc} {Γ : SL} {e : Expr} {es : List Expr} {x : D} {pos p p1 p2 : Pos} {nm en cn : Str} {a C : Addr} {d : Option Addr} {fs : List (Str × D)} {cv : Value} {b : Bool} {De : DE} {S : Addr → Bool → Prop}
end
/-! ### try .. except X as n -/
abbrev Nm.ht (n : Nm) : Nm := { n with hot := true }
abbrev Cc.xws (c : Cc) (f : Addr → List (Str × D) → List Slot → Prop) : Cc := { c with xw := f }
abbrev Cc.tr (c : Cc) (R : Hp) (f : Addr → List (Str × D) → List Slot → Prop) : Cc := { c with R0 := R, xw := f }
abbrev Cc.nox (c : Cc) : Cc := c.xws fun _ _ _ => False
def DE.at (De : DE) (i : Nat) : DE where
  nx := fun Γ => De.nx (Γ.set i .no)
  rt := De.rt
  bk := fun Γ => De.bk (Γ.set i .no)
  ct := fun Γ => De.ct (Γ.set i .no)
section
variable {K : PySem.W.Frag} {c : Cc} {Γ : SL} {σ : L2.St} {R H : Hp} {f : Addr → List (Str × D) → List Slot → Prop}
theorem SOk.xws (s : SOk K c Γ σ R H) : SOk K (c.xws f) Γ σ R H := ⟨s.rh, s.r0, s.hm, s.pr, s.un, s.len, fun i x e => by
  obtain ⟨o, h1, h2⟩ := s.sl i x e
  refine ⟨o, h1, ?_⟩
  cases x <;> exact h2, s.dj, s.oi⟩
theorem SOk.unxws (s : SOk K (c.xws f) Γ σ R H) : SOk K c Γ σ R H := ⟨s.rh, s.r0, s.hm, s.pr, s.un, s.len, fun i x e => by
  obtain ⟨o, h1, h2⟩ := s.sl i x e
  refine ⟨o, h1, ?_⟩
  cases x <;> exact h2, s.dj, s.oi⟩
theorem VOk.unxws {r : Res} {v : V} (s : VOk K (c.xws f) Γ σ R H r v) : VOk K c Γ σ R H r v := by cases r <;> exact s
theorem SOk.tr (s : SOk K c Γ σ R H) : SOk K (c.tr R f) Γ σ R H := ⟨s.rh, Ex.refl _, s.hm, s.pr, fun _ _ h => h, s.len, fun i x e => by
  obtain ⟨o, h1, h2⟩ := s.sl i x e
  refine ⟨o, h1, ?_⟩
  cases x <;> exact h2, s.dj, s.oi⟩
theorem SOk.untr {Γ0 : SL} {σ0 : L2.St} {R0 H0 : Hp} (s : SOk K (c.tr R0 f) Γ σ R H) (s0 : SOk K c Γ0 σ0 R0 H0) : SOk K c Γ σ R H := ⟨s.rh, s0.r0.trans s.r0, s.hm, s.pr, fun a h1 h2 => s.un a h1 (s0.un a h1 h2), s.len, fun i x e => by
  obtain ⟨o, h1, h2⟩ := s.sl i x e
  refine ⟨o, h1, ?_⟩
  cases x <;> exact h2, s.dj, s.oi⟩
theorem VOk.untr {R0 : Hp} {r : Res} {v : V} (s : VOk K (c.tr R0 f) Γ σ R H r v) : VOk K c Γ σ R H r v := by cases r <;> exact s
theorem EndsOk.tr {De : DE} {E : Ends} (h : EndsOk K c R De E) (s0 : SOk K c Γ σ R H) : EndsOk K (c.tr R f) R De E :=
  ⟨fun σ R' H Γ s => h.nx σ R' H Γ (s.untr s0), fun v σ R' H Γ r s e ro => h.rt v σ R' H Γ r (s.untr s0) e ro.untr, fun σ R' H Γ s => h.bk σ R' H Γ (s.untr s0), fun σ R' H Γ s => h.ct σ R' H Γ (s.untr s0)⟩
theorem EndsOk.xws {De : DE} {E : Ends} (h : EndsOk K c R De E) : EndsOk K (c.xws f) R De E :=
  ⟨fun σ R' H Γ s => h.nx σ R' H Γ s.unxws, fun v σ R' H Γ r s e ro => h.rt v σ R' H Γ r s.unxws e ro.unxws, fun σ R' H Γ s => h.bk σ R' H Γ s.unxws, fun σ R' H Γ s => h.ct σ R' H Γ s.unxws⟩
end
section
variable {X : Cx} {n : Nm} {c : Cc} {Γ : SL} {nm en cn : Str} {cv : Value} {De : DE} {body suite : List Stmt} {b₀ : Stmt} {np pos pos' : Pos}
end
end DL

end
section
set_option Elab.async false
set_option linter.all false
set_option autoImplicit true
set_option maxRecDepth 100000
set_option maxHeartbeats 1000000
/-! own __init__s with one field, with two; class facts -/
namespace DL
open PySem L2 NdefX
open PyProof.Rows hiding St
section
variable {P : Program} {w : World} {K : PySem.W.Frag} {mg : Str → Option Value} {base : Heap}
end
/-! ### in a try's body, in its suite -/
section
variable {X : Cx} {pn : List (Addr × Obj)} {xe : Value → Shared → Prop} {k : Nat} {nm : Str} {a : Addr}
theorem CalF.tr {S : Sg} (h : CalF X k nm S) : CalF (X.tr pn xe) k nm S := ⟨h.rm, h.ex⟩
theorem CalX.tr {S : SgX} (h : CalX X k nm S) : CalX (X.tr pn xe) k nm S := ⟨h.rm, h.ex⟩
theorem Blt.tr {f : Value} (h : Blt X nm f) : Blt (X.tr pn xe) nm f := ⟨h.mg, h.bt⟩
theorem Con.tr {x : D} (h : Con X nm x) : Con (X.tr pn xe) nm x := ⟨h.ex⟩
end
/-! ### class facts -/
/-- an own class that a name stands for -/
structure ClsAt (K : PySem.W.Frag) (mg : Str → Option Value) (nm : Str) (C : Addr) : Prop where
  m : mg nm = some (.ref C)
  hd : PySem.W.hasDictIn K C = true
  ty : PySem.W.typeIn K (.ref C) = some (.type "type")
theorem ClsAt.k {X : Cx} {nm : Str} {C : Addr} (h : ClsAt X.K X.mg nm C) : KCls X nm (.ref C) := ⟨.inl ⟨C, h.m, rfl⟩⟩
/-- a class of errors: its instances may be asked for their class and fields -/
structure ErrC (K : PySem.W.Frag) (mg : Str → Option Value) (nm : Str) (fns : List Str) (C : Addr) : Prop where
  m : mg nm = some (.ref C)
  e : ExcC K C
  ve : PySem.W.kitOne K (.ref C) (.type "ValueError") = some true
  no : ∀ f ∈ fns, PySem.W.findIn K (.ref C) f = some none
/-- what the top has written of a class of errors with its own __init__ -/
structure RaiseAt (P : Program) (K : PySem.W.Frag) (mg : Str → Option Value) (nm qual : Str) (st : Stmt) (ps fns : List Str) where
  C : Addr
  fI : Addr
  cc : Addr
  cda : Addr
  fd : FuncData
  e : ErrC K mg nm fns C
  S : SupC P K mg C fI cc cda
  iC : PySem.W.findIn K (.ref C) "__init__" = some (some (.ref fI))
  tI : PySem.W.typeIn K (.ref fI) = some (.type "function")
  lk : ∃ (oc kV doc pm ctv : Value) (od an : Option Addr) (osl : Array (Option Value)), fd = PySem.W.fnX "__init__" qual (defArgs st) (defBody st) (defScope st) [(("__class__" : Str), cc)] .none kV doc pm an (.ref cda) ctv ∧ K.lookup fI = some ⟨oc, od, .func fd, osl⟩
  cd : PySem.W.codeIn K (.ref cda) qual = true
  b : Binds K fd ps []
theorem RaiseAt.k {P : Program} {K : PySem.W.Frag} {mg : Str → Option Value} {nm qual : Str} {st : Stmt} {ps fns : List Str} (R : RaiseAt P K mg nm qual st ps fns) : ClsAt K mg nm R.C := ⟨R.e.m, R.e.e.hd, R.S.T.tyC⟩
section
variable {X : Cx} {n : Nm} {c : Cc} {Γ : SL} {e b : Expr} {pos ap : Pos}
end
end DL

end
section
set_option Elab.async false
set_option linter.all false
set_option autoImplicit true
set_option maxRecDepth 100000
set_option maxHeartbeats 1000000
/-! the head by one kernel run, its facts by names -/
namespace DL
open PySem L2 NdefX He
open PyProof.Rows hiding St
theorem all_at {l : List Bool} (h : l.all id = true) (i : Nat) {b : Bool} (e : l[i]? = some b := by rfl) : b = true := List.all_eq_true.mp h b (List.mem_of_getElem? e)
/-! ### a class of errors -/
structure InD where
  nm : Str
  qual : Str
  st : Stmt
  ps : List Str
  fns : List Str
abbrev InV : Type := Option (Str × Str × Arguments × FuncBody × Scope × Addr × Value × Addr × List Str)
def inObs (K : PySem.W.Frag) (nm : Str) : InV := match K.lookup (ma K (ga K nm) "__init__") with
  | some ⟨_, _, .func fd, _⟩ => some (fd.name, fd.qualname, fd.params, fd.body, fd.scope, fd.globals, fd.defaults, fd.builtins, fd.closure.map (·.1))
  | _ => none
def InD.val (e : InD) : InV := some (("__init__" : Str), e.qual, defArgs e.st, .stmts (defBody e.st), defScope e.st, mainGlobals, .none, builtinsNs, [("__class__" : Str)])
def clsB (K : PySem.W.Frag) (C : Addr) : Bool := match K.lookup C with
  | some ⟨.type "type", _, .cls cd, sl⟩ => (match cd.mro, sl.toList with
    | .ref C' :: bm, [_, _, _, _, some (.builtin n), _] => C' == C && (n == "ValueError.__new__" && (!cd.hasDel && (cd.hasDict && PySem.HandSPX.refsVE bm)))
    | _, _ => false)
  | _ => false
def ccAd (K : PySem.W.Frag) (f : Addr) : Addr := match K.lookup f with
  | some ⟨_, _, .func fd, _⟩ => (match fd.closure with
    | [(_, c)] => c
    | _ => 0)
  | _ => 0
def cdAd (K : PySem.W.Frag) (f : Addr) : Value := match K.lookup f with
  | some ⟨_, _, .func fd, _⟩ => fd.code
  | _ => .none
def cellB (K : PySem.W.Frag) (c C : Addr) : Bool := match K.lookup c with
  | some ⟨_, _, .cell (some (.ref D)), _⟩ => decide (D = C)
  | _ => false
def codeB (mf : Str) (K : PySem.W.Frag) (v : Value) : Bool := match v with
  | .ref c => (match K.lookup c with
    | some ⟨_, _, .fields vs, _⟩ => (match (vs[2]? : Option Value) with
      | some (.str f _) => mf == f
      | _ => false)
    | _ => false)
  | _ => false
def exL (mf : Str) (K : PySem.W.Frag) (e : InD) : List Bool :=
  [eqO (PySem.W.nsIn K mainGlobals e.nm) (some (some (.ref (ga K e.nm)))), clsB K (ga K e.nm), eqO (PySem.W.findIn K (.ref (ga K e.nm)) "__init__") (some (some (.ref (ma K (ga K e.nm) "__init__")))),
    eqO (PySem.W.findIn K (.ref (ga K e.nm)) "__getattribute__") (some (some (.builtin "BaseException.__getattribute__"))), eqO (PySem.W.findIn K (.ref (ga K e.nm)) "__getattr__") (some none), decide (PySem.W.subIn K (.ref (ga K e.nm)) (.type "BaseException") = some true),
    PySem.W.hasDictIn K (ga K e.nm), eqO (PySem.W.findIn K (.ref (ga K e.nm)) "__class__") (some (some (.builtin "object.__class__"))), eqO (PySem.W.specialIn K (.builtin "object.__class__") "__get__") (some (some (.builtin "getset_descriptor.__get__"))),
    decide (PySem.W.takesIn K (.builtin "object.__class__") = some true), decide (PySem.W.mroIn K (ga K e.nm) (.type "object") = some true), decide (PySem.W.subIn K (.ref (ga K e.nm)) (.type "ValueError") = some true),
    eqO (PySem.W.findIn K (.ref (ga K e.nm)) "__setattr__") (some (some (.builtin "object.__setattr__"))), decide (PySem.W.typeIn K (.ref (ga K e.nm)) = some (.type "type")), PySem.W.keepIn K (.ref (ga K e.nm)),
    cellB K (ccAd K (ma K (ga K e.nm) "__init__")) (ga K e.nm), codeB mf K (cdAd K (ma K (ga K e.nm) "__init__")), decide (PySem.W.mroIn K (ga K e.nm) (.ref (ga K e.nm)) = some true), eqO (PySem.W.nsIn K mainGlobals "super") (some none), eqO (PySem.W.nsIn K cStatics "thirdparty.any") (some none),
    eqO (PySem.W.ks_superIn K (ga K e.nm) (ga K e.nm) "__init__") (some (some (.builtin "ValueError.__init__"))), decide (PySem.W.typeIn K (.ref (ma K (ga K e.nm) "__init__")) = some (.type "function")), PySem.W.codeIn K (cdAd K (ma K (ga K e.nm) "__init__")) e.qual,
    e.fns.all fun f => eqO (PySem.W.findIn K (.ref (ga K e.nm)) f) (some none)]
/-! ### facts by names -/
inductive Fx where
  | fa (f : Fa)
  | cls (x : Str)
  | sub (x y : Str) (b : Bool)
  | bex (x : Str)
  | qd (x : Str) (i j : Int)
  | ci (x : Str) (i : Int)
  | ct (x t : Str)
def numB (K : PySem.W.Frag) (x : Str) (i : Int) : Bool := match PySem.W.nsIn K mainGlobals x with
  | some (some (.int j _)) => decide (j = i)
  | _ => false
def txtB (K : PySem.W.Frag) (x t : Str) : Bool := match PySem.W.nsIn K mainGlobals x with
  | some (some (.str s _)) => decide (s = t)
  | _ => false
def Fx.ok (K : PySem.W.Frag) : Fx → Bool
  | .fa f => f.ok K
  | .cls x => [eqO (PySem.W.nsIn K mainGlobals x) (some (some (.ref (ga K x)))), PySem.W.hasDictIn K (ga K x), decide (PySem.W.typeIn K (.ref (ga K x)) = some (.type "type"))].all id
  | .sub x y b => decide (PySem.W.subIn K (.ref (ga K x)) (.ref (ga K y)) = some b)
  | .bex x => decide (PySem.W.subIn K (.ref (ga K x)) (.type "BaseException") = some true)
  | .qd x i j => [eqO (PySem.W.nsIn K mainGlobals x) (some (some (.ref (ga K x)))), tupB K x [.int i, .int j]].all id
  | .ci x i => numB K x i
  | .ct x t => txtB K x t
theorem fx_free {K : PySem.W.Frag} {h : Heap} {mg : Str → Option Value} (X : K.In h) (G : h.Ns mainGlobals mg) {x : Str} (c : (Fx.fa (.free x)).ok K = true) : mg x = none := He.free_ok X G (x := x) c
/-! ### the Hook -/
structure TopD where
  mf : Str
  nm : List Str
  fx : List Fx
  fn : List FnD
  ex : List InD
abbrev AlX : Type := Bool × List FnV × List InV
def obsX (T : TopD) (K : PySem.W.Frag) : AlX := ([T.fx.all fun f => f.ok K, T.fn.all fun d => (Fa.code d.at_ d.qual).ok K && PySem.W.keepIn K (.ref (fAd K d.at_)), T.ex.all fun e => (exL T.mf K e).all id].all id, T.fn.map fun d => fnObs K d.at_, T.ex.map fun e => inObs K e.nm)
def valX (T : TopD) : AlX := (true, T.fn.map FnD.val, T.ex.map InD.val)
def SaysX (T : TopD) (K : PySem.W.Frag) : Prop := obsX T K = valX T
/-- what an object at a names -/
def refsAt (g : Addr → Option Obj) (a : Addr) : List Addr := match g a with
  | some o => refsD o
  | none => []
/-- the addresses of the names, what they name; of the classes of errors what their __init__ names -/
def asX (g : Addr → Option Obj) (nms exs : List Str) : List Addr :=
  cStatics :: mainGlobals :: ((nms.map (ga (frG g [mainGlobals]))) ++ ((nms.map (ga (frG g [mainGlobals]))).flatMap (refsAt g) ++ (((exs.map (ga (frG g [mainGlobals]))).flatMap (refsAt g)).flatMap (refsAt g) ++ (((exs.map (ga (frG g [mainGlobals]))).flatMap (refsAt g)).flatMap (refsAt g)).flatMap (refsAt g))))
def KX (T : TopD) (g : Addr → Option Obj) : PySem.W.Frag := frG g (asX g T.nm (T.ex.map (·.nm)))
def obsXG (T : TopD) (g : Addr → Option Obj) : AlX := obsX T (KX T g)
def hookX (T : TopD) : PySem.W.Hook where
  α := AlX
  obs := fun s => obsXG T s.heap.get?
  val := fun _ => valX T
  says := fun _ h => ∃ K : PySem.W.Frag, K.In h ∧ SaysX T K
  of := fun _ _ e => ⟨_, frG_in, e⟩
  keeps := fun _ _ _ ⟨K, hK, c⟩ k => ⟨K, PySem.W.Frag.In.keeps hK k, c⟩
theorem obsXG_eq {T : TopD} {g : Addr → Option Obj} {s : Shared} (h : ∀ a, g a = s.heap.get? a) : obsXG T g = (hookX T).obs s := by
  have e : g = s.heap.get? := funext h
  rw [e] <;> rfl
/-! ### the run in pieces: each piece runs anew -/
def obFx (T : TopD) (l : List Fx) (s : PySem.W.SharedT) : Bool := l.all fun f => f.ok (KX T (HandSHeadRun.getT s))
def obFn (T : TopD) (l : List FnD) (s : PySem.W.SharedT) : Bool × List FnV := (l.all fun d => (Fa.code d.at_ d.qual).ok (KX T (HandSHeadRun.getT s)) && PySem.W.keepIn (KX T (HandSHeadRun.getT s)) (.ref (fAd (KX T (HandSHeadRun.getT s)) d.at_)), l.map fun d => fnObs (KX T (HandSHeadRun.getT s)) d.at_)
def obEx (T : TopD) (l : List InD) (s : PySem.W.SharedT) : Bool × List InV := (l.all fun e => (exL T.mf (KX T (HandSHeadRun.getT s)) e).all id, l.map fun e => inObs (KX T (HandSHeadRun.getT s)) e.nm)
open PySem.W PySem.Calls in
noncomputable abbrev endS (r : OpenRow) (M : Nat) (w : World) (os : OsState) : Option SharedT := HandSHeadRun.endF (HandSHeadRun.stepQ (HandSHeadRun.denQ HandSHeadRun.tabQ) r.prog w) M r.prog w os
open PySem.W PySem.Calls in
noncomputable abbrev lookS (r : OpenRow) (q : Program) (loose : List PySem.Str) (w : World) (s : SharedT) := (HandSHeadRun.looksF r.prog (boot_heap w.params) s.abs, HandSHeadRun.seenQ q loose (importedModules r.prog.main.body) (fun s => xlAt q [] s && recOk r.toRowW.records s) s.abs)
theorem ob3 {a : Bool} {α β : Type} {x : α} {y : β} {b c : Bool} (h1 : a = true) (h2 : b = true) (h3 : c = true) : ([a, b, c].all id, x, y) = (true, x, y) := by subst h1 h2 h3; rfl
open PySem.W PySem.Calls in
theorem run_split {r : OpenRow} {q : Program} {T : TopD} {M : Nat} {loose : List PySem.Str} {w : World} {fA fB : List Fx} (hf : T.fx = fA ++ fB)
    (h0 : ∀ os : OsState, (endS r M w os).map (lookS r q loose w) = some (true, openGood q loose)) (hA : ∀ os : OsState, (endS r M w os).map (obFx T fA) = some true) (hB : ∀ os : OsState, (endS r M w os).map (fun s => (obFx T fB s, obFn T T.fn s, obEx T T.ex s)) = some (true, (true, T.fn.map FnD.val), (true, T.ex.map InD.val))) :
    HandSHeadRun.RunEq r q (hookX T) (fun s => obsXG T (HandSHeadRun.getT s)) M loose w := fun os => by
  obtain ⟨s, hs, p0⟩ := Option.map_eq_some_iff.mp (h0 os)
  have e1 := hA os
  have e2 := hB os
  rw [hs] at e1 e2
  have e1 : obFx T fA s = true := Option.some.inj e1
  have e2 : (obFx T fB s, obFn T T.fn s, obEx T T.ex s) = (true, (true, T.fn.map FnD.val), (true, T.ex.map InD.val)) := Option.some.inj e2
  have a1 : obFx T fB s = true := congrArg (fun z => z.1) e2
  have a2 : obFn T T.fn s = (true, T.fn.map FnD.val) := congrArg (fun z => z.2.1) e2
  have a3 : obEx T T.ex s = (true, T.ex.map InD.val) := congrArg (fun z => z.2.2) e2
  have b0 : (T.fx.all fun f => f.ok (KX T (HandSHeadRun.getT s))) = true := by
    rw [hf, List.all_append]
    exact Bool.and_eq_true_iff.mpr ⟨e1, a1⟩
  have b1 := congrArg (fun z => z.1) a2
  have b2 := congrArg (fun z => z.2) a2
  have b3 := congrArg (fun z => z.1) a3
  have b4 := congrArg (fun z => z.2) a3
  have eo : obsXG T (HandSHeadRun.getT s) = valX T := by
    refine (ob3 b0 b1 b3).trans ?_
    exact congrArg (Prod.mk true) (Prod.ext b2 b4)
  have hp1 := congrArg (fun z => z.1) p0
  have hp2 := congrArg (fun z => z.2) p0
  show (endS r M w os).map _ = _
  rw [hs]
  exact congrArg some (Prod.ext hp1 (Prod.ext hp2 eo))
open PySem.W PySem.Calls in
theorem run_nil {r : OpenRow} {q : Program} {T : TopD} {M : Nat} {loose : List PySem.Str} {w : World} (h0 : ∀ os : OsState, (endS r M w os).map (lookS r q loose w) = some (true, openGood q loose)) : ∀ os : OsState, (endS r M w os).map (obFx T []) = some true := fun os => by
  obtain ⟨s, hs, _⟩ := Option.map_eq_some_iff.mp (h0 os)
  rw [hs]; rfl
section
variable {T : TopD} {K : PySem.W.Frag}
theorem SaysX.fact (c : SaysX T K) (i : Nat) {f : Fx} (h : T.fx[i]? = some f := by rfl) : f.ok K = true := by
  have c1 := all_at (show [T.fx.all fun f => f.ok K, T.fn.all fun d => (Fa.code d.at_ d.qual).ok K && PySem.W.keepIn K (.ref (fAd K d.at_)), T.ex.all fun e => (exL T.mf K e).all id].all id = true from congrArg (fun z : AlX => z.1) c) 0
  exact List.all_eq_true.mp c1 f (List.mem_of_getElem? h)
theorem SaysX.def_ (c : SaysX T K) (i : Nat) {x : Str} {st : Stmt} (h : T.fn[i]? = some ⟨(x, none), x, x, defArgs st, defBody st, defScope st⟩ := by rfl) : ∃ fd, Fun K x x st (ga K x) fd := by
  have c1 := all_at (show [T.fx.all fun f => f.ok K, T.fn.all fun d => (Fa.code d.at_ d.qual).ok K && PySem.W.keepIn K (.ref (fAd K d.at_)), T.ex.all fun e => (exL T.mf K e).all id].all id = true from congrArg (fun z : AlX => z.1) c) 1
  have c2 := Bool.and_eq_true_iff.mp (List.all_eq_true.mp c1 _ (List.mem_of_getElem? h))
  have e : T.fn.map (fun d => fnObs K d.at_) = T.fn.map FnD.val := congrArg (fun z : AlX => z.2.1) c
  have e2 : (T.fn.map fun d => fnObs K d.at_)[i]? = (T.fn.map FnD.val)[i]? := by rw [e]
  rw [List.getElem?_map, List.getElem?_map, h] at e2
  obtain ⟨oc, od, osl, kV, doc, pm, an, cdv, ct, lk, hcd⟩ := He.fn_ok (Option.some.inj e2) c2.1
  exact ⟨_, ⟨oc, od, kV, doc, pm, an, cdv, ct, osl, rfl, lk, hcd⟩, c2.2⟩
theorem SaysX.err (c : SaysX T K) (i : Nat) {e : InD} (h : T.ex[i]? = some e := by rfl) : inObs K e.nm = e.val ∧ (exL T.mf K e).all id = true := by
  have c1 := all_at (show [T.fx.all fun f => f.ok K, T.fn.all fun d => (Fa.code d.at_ d.qual).ok K && PySem.W.keepIn K (.ref (fAd K d.at_)), T.ex.all fun e => (exL T.mf K e).all id].all id = true from congrArg (fun z : AlX => z.1) c) 2
  have e0 : T.ex.map (fun e => inObs K e.nm) = T.ex.map InD.val := congrArg (fun z : AlX => z.2.2) c
  have e2 : (T.ex.map fun e => inObs K e.nm)[i]? = (T.ex.map InD.val)[i]? := by rw [e0]
  rw [List.getElem?_map, List.getElem?_map, h] at e2
  exact ⟨Option.some.inj e2, List.all_eq_true.mp c1 _ (List.mem_of_getElem? h)⟩
/-- a def as the top has left it -/
noncomputable def defX {h : Heap} {mg : Str → Option Value} (X : K.In h) (G : h.Ns mainGlobals mg) {nm : Str} {st : Stmt} {ps : List Str} (F : ∃ fd, Fun K nm nm st (ga K nm) fd) (g : (Fx.fa (.glo nm)).ok K = true)
    (hb : ∀ (kV doc pm : Value) (an : Option Addr) (cdv ct : Value) (us : List Value), us.length = ps.length → bindArgs (PySem.W.fnOf nm nm (defArgs st) (defBody st) (defScope st) .none kV doc pm an cdv ct) ⟨us, []⟩ = pure (ps.zip us)) : DefAt K mg nm st ps :=
  ⟨ga K nm, Classical.choose F, Classical.choose_spec F, glo_ok X G g, fun us hl => by
    obtain ⟨oc, od, kV, doc, pm, an, cdv, ct, osl, e, _⟩ := (Classical.choose_spec F).ex
    rw [e]; exact hb kV doc pm an cdv ct us hl⟩
end
end DL

end
section
set_option Elab.async false
set_option linter.all false
set_option autoImplicit true
set_option maxRecDepth 10000
set_option maxHeartbeats 400000
/-! the piece in force, the worst error -/
namespace DL
open PySem L2
open PyProof.Rows hiding St
def absQ (q : Rat) : Rat := if q < 0 then -q else q
theorem absQ_nn (q : Rat) : 0 ≤ absQ q := by unfold absQ; grind
theorem neg_num {q : Rat} : q.num < 0 ↔ q < 0 := by
  have := lt_num (a := q) (b := 0)
  simp at this; exact this.symm
/-! ### the piece in force -/
def placeN (c : List Pc) (t : Rat) : Nat := ((c.drop 1).takeWhile fun p => decide (p.1 ≤ t)).length
theorem tw_len {α : Type} {f : α → Bool} : ∀ {l : List α} {i : Nat}, (∀ j x, j < i → l[j]? = some x → f x = true) → i ≤ l.length → (∀ x, l[i]? = some x → f x = false) → (l.takeWhile f).length = i
  | [], i, _, h, _ => by simp at h; subst h; rfl
  | x :: l, 0, _, _, h => by
    rw [List.takeWhile_cons, h x rfl]; rfl
  | x :: l, i + 1, h1, h2, h3 => by
    rw [List.takeWhile_cons, h1 0 x (by omega) rfl]
    simp only [if_true, List.length_cons]
    rw [tw_len (i := i) (fun j y hj hy => h1 (j + 1) y (by omega) (by simpa using hy)) (by simpa using h2) fun y hy => h3 y (by simpa using hy)]
theorem tw_all {α : Type} {f : α → Bool} : ∀ {l : List α} {j : Nat} {x : α}, j < (l.takeWhile f).length → l[j]? = some x → f x = true
  | [], _, _, _, h => by simp at h
  | y :: l, j, x, h1, h2 => by
    rw [List.takeWhile_cons] at h1
    split at h1
    · rename_i hy
      cases j with
      | zero => cases h2; exact hy
      | succ j => exact tw_all (l := l) (by simpa using h1) (by simpa using h2)
    · simp at h1
theorem tw_stop {α : Type} {f : α → Bool} : ∀ {l : List α} {x : α}, l[(l.takeWhile f).length]? = some x → f x = false
  | [], _, h => by simp at h
  | y :: l, x, h => by
    rw [List.takeWhile_cons] at h
    split at h
    · exact tw_stop (l := l) (by simpa using h)
    · rename_i hy; simp at h; subst h; simpa using hy
theorem tw_le {α : Type} {f : α → Bool} (l : List α) : (l.takeWhile f).length ≤ l.length := (List.takeWhile_prefix f).length_le
theorem place_eq {c : List Pc} {t : Rat} {i : Nat} (h1 : ∀ j p, 0 < j → j ≤ i → c[j]? = some p → p.1 ≤ t) (h2 : i + 1 ≤ c.length) (h3 : ∀ p, c[i + 1]? = some p → t < p.1) : placeN c t = i := by
  unfold placeN
  refine tw_len (fun j x hj hx => ?_) (by rw [List.length_drop]; omega) fun x hx => ?_
  · rw [List.getElem?_drop] at hx
    exact decide_eq_true (h1 (1 + j) x (by omega) (by omega) hx)
  · rw [List.getElem?_drop, Nat.add_comm] at hx
    exact decide_eq_false (fun z => absurd (h3 x hx) (by grind))
/-- what it says, of a course that has begun -/
theorem place_at {c : List Pc} {t : Rat} {p0 : Pc} (ha : Asc c) (h0 : c[0]? = some p0) (hs : p0.1 ≤ t) : ∃ p, c[placeN c t]? = some p ∧ p.1 ≤ t ∧ ∀ q, c[placeN c t + 1]? = some q → t < q.1 := by
  have hl : placeN c t ≤ (c.drop 1).length := tw_le _
  have hlen : 0 < c.length := (List.getElem?_eq_some_iff.mp h0).1
  rw [List.length_drop] at hl
  have e := atB (xs := c) (i := placeN c t) (by omega)
  generalize c[placeN c t] = p at e
  refine ⟨p, e, ?_, fun q hq => ?_⟩
  · cases hp : placeN c t with
    | zero => rw [hp] at e; rw [h0] at e; cases e; exact hs
    | succ j =>
      have e2 : (c.drop 1)[j]? = some p := by rw [List.getElem?_drop, Nat.add_comm, ← hp]; exact e
      have := tw_all (f := fun p : Pc => decide (p.1 ≤ t)) (l := c.drop 1) (j := j) (by show j < placeN c t; omega) e2
      exact of_decide_eq_true this
  · have e2 : (c.drop 1)[((c.drop 1).takeWhile fun p : Pc => decide (p.1 ≤ t)).length]? = some q := by
      rw [List.getElem?_drop, Nat.add_comm]; exact hq
    have := of_decide_eq_false (tw_stop (f := fun p : Pc => decide (p.1 ≤ t)) e2)
    grind
/-! ### the worst error -/
theorem sz_zero {k : Nat} : Sz (k + 1) 0 := ⟨Nat.pow_pos (by decide), Nat.one_lt_two_pow (by omega)⟩
/-! ### the law's distances -/
section
variable {c : List Pc} {s e vs ve : Rat} {p0 : Pc}
end
/-! ### q not in qs -/
section
variable {X : Cx} {n : Nm} {c : Cc} {Γ : SL} {a b : Expr} {pos : Pos} {k l : AK} {q : Rat} {qs : List Rat}
end
theorem same_of {Q : Res → List OB → Prop} {v d : DL.D} {b : Bool} (e : v = d) (hb : b = true ↔ v = d) (z : Q (.d (.bl true)) []) : Q (.d (.bl b)) [] := by
  have := hb.mpr e
  subst this; exact z
section
variable {X : Cx} {n : Nm} {c : Cc} {Γ : SL} {a b d : Expr} {k l m : AK} {ps : List Par} {S : Sg} {nm : Str} {p pos : Pos}
end
end DL

end
section
set_option Elab.async false
set_option linter.all false
set_option autoImplicit true
set_option maxRecDepth 10000
set_option maxHeartbeats 400000
namespace DL
open PySem L2
/-! ### is True, is not True -/
section
variable {X : Cx} {n : Nm} {c : Cc} {Γ : SL} {a b : Expr} {pos : Pos} {k l : AK} {p q : Bool}
end
/-! ### sizes -/
theorem Sz.inv {k : Nat} {q : Rat} (h : Sz k q) (h0 : q ≠ 0) : Sz (8 * k) q⁻¹ := by
  have e : q⁻¹ = fr (q.den : Int) q.num := fr_inv.symm
  rw [e]
  exact fr_sz ((show Bt (8 * k) (q.den : Int) from h.d.mono (by omega)).mono (by omega)) h.n (fun z => h0 (Rat.num_eq_zero.mp z))
theorem szPart {q : Rat} (h : PPart q) : Sz 6 q := Sd.sz h (by decide) (show 60 < 2 ^ 6 by decide) (by decide)
theorem szSpare {q : Rat} (h : PSpare q) : Sz 6 q := Sd.sz h.1 (by decide) (show 60 < 2 ^ 6 by decide) (by decide)
theorem szPace {q : Rat} (h : PPace q) : Sz 15 q := Sd.sz h.1 (by decide) (show 27720 < 2 ^ 15 by decide) (by decide)
/-! ### the elapsed time -/
def Betw (lo top g d : Rat) : Prop := (0 ≤ g → lo * g ≤ d ∧ d ≤ top * g) ∧ (g ≤ 0 → top * g ≤ d ∧ d ≤ lo * g)
theorem Betw.neg {lo top g d : Rat} (h : Betw lo top g d) : Betw lo top (-g) (-d) := ⟨fun z => by
  have := h.2 (by grind); grind, fun z => by
  have := h.1 (by grind); grind⟩
/-! ### a course of steady rates -/
def Stdy (c : List Pc) : Prop := ∀ (i : Nat) (p q : Pc), c[i]? = some p → c[i + 1]? = some q → q.2.1 = pline p q.1
def Rates (lo top : Rat) (c : List Pc) : Prop := ∀ p ∈ c, ¬ p.2.2 < lo ∧ ¬ top < p.2.2
theorem Asc.first {c : List Pc} (ha : Asc c) {p0 p : Pc} {i : Nat} (h0 : c[0]? = some p0) (h : c[i]? = some p) : p0.1 ≤ p.1 := by
  cases i with
  | zero => rw [h0] at h; cases h; exact Rat.le_refl
  | succ i => exact Rat.le_of_lt (asc_lt ha h0 h (by omega))
theorem Stdy.snoc {c : List Pc} {p : Pc} (h : Stdy c) (hp : ∀ q, c[c.length - 1]? = some q → c ≠ [] → p.2.1 = pline q p.1) : Stdy (c ++ [p]) := by
  intro i a b h1 h2
  have hl := (List.getElem?_eq_some_iff.mp h2).1
  rw [List.length_append] at hl
  have hl : i + 1 < c.length + 1 := hl
  rw [List.getElem?_append_left (by omega)] at h1
  by_cases z : i + 1 < c.length
  · rw [List.getElem?_append_left z] at h2
    exact h i a b h1 h2
  · have e : i + 1 = c.length := by omega
    rw [e, List.getElem?_append_right (Nat.le_refl _), Nat.sub_self] at h2
    cases h2
    exact hp a (by rw [show c.length - 1 = i by omega]; exact h1) (fun z => by rw [z] at e; simp at e)
theorem Rates.snoc {lo top : Rat} {c : List Pc} {p : Pc} (h : Rates lo top c) (hp : ¬ p.2.2 < lo ∧ ¬ top < p.2.2) : Rates lo top (c ++ [p]) := fun q hq => by
  rcases List.mem_append.mp hq with hq | hq
  · exact h q hq
  · have : q = p := by simpa using hq
    subst this; exact hp
theorem Cz.snoc {s t r : Nat} {c : List Pc} {p : Pc} (h : Cz s t r c) (hp : Sz s p.1 ∧ Sz t p.2.1 ∧ Sz r p.2.2) : Cz s t r (c ++ [p]) := fun q hq => by
  rcases List.mem_append.mp hq with hq | hq
  · exact h q hq
  · have : q = p := by simpa using hq
    subst this; exact hp
theorem fr_div {n d : Int} : fr n d = (n : Rat) / (d : Rat) := Rat.divInt_eq_div n d
end DL

end
section
set_option Elab.async false
set_option linter.all false
set_option autoImplicit true
set_option maxRecDepth 100000
set_option maxHeartbeats 4000000
/-! several except clauses with names; calls with keywords -/
namespace L2
open PySem PySem.Spec PyProof.Rows
section
variable {X : Cx} {n : Str} {i : Nat} {body : List Stmt} {h₀ : ExceptHandler} {hds : List ExceptHandler} {l : List (Value × (Addr → Value → Option Addr → TS))} {pos : Pos} {tb : WX → TS} {Wout : WX}
end
section
variable {X : Cx} {CX : CXT} {k n : Nat} {f : Addr} {fd : FuncData} {ps ks : List Str} {sp : Sp} {E : St → XK} {x : Str} {p pos : Pos} {e : Expr} {es : List Expr} {kws : List Keyword} {t tk : TA} {g : List Value → List Value → List Value} {gV : List V → List V → List V}
end
end L2
namespace DL
open PySem L2
variable {X : Cx} {n : Nm} {c : Cc} {Γ : SL} {nm en cn cn2 : Str} {cv cv2 : Value} {De : DE} {body suite suite2 : List Stmt} {b₀ b₁ : Stmt} {np np2 pos pos' pos2 : Pos}
theorem KCls.names {X : Cx} {cn : Str} {cv : Value} (kc : KCls X cn cv) {n : Nm} {c : Cc} (hn : NOk X n c) (j : Nat) (hj : n.GN[j]? = some cn) : Names X cn cv := by
  obtain ⟨g1, g2, g3⟩ := hn.gl j cn hj
  rcases kc.nm with ⟨C, m1, rfl⟩ | ⟨m1, T, m2, rfl⟩
  · exact ⟨g1, g2, .inl m1⟩
  · exact ⟨g1, g2, .inr ⟨m1, m2, g3⟩⟩
/-! ### calls with keywords -/
structure CalK (X : Cx) (k : Nat) (nm : Str) (m : Nat) (ks : List Str) (S : SgX) : Prop where
  rm : Room k X.A
  ex : ∃ f fd ps k0, FnOk X.prog X.w X.K X.mg X.base (L2N.CX X.prog X.w) k0 f fd ps (spOfX X.K S) ∧ k0 ≤ k ∧ X.mg nm = some (.ref f) ∧ PySem.W.keepIn X.K (.ref f) = true ∧ KBn X.K fd ps m ks (fun us ws => us ++ ws) (fun vs zs => vs ++ zs)
theorem CalK.tr {X : Cx} {k : Nat} {nm : Str} {m : Nat} {ks : List Str} {S : SgX} {pn : List (Addr × Obj)} {xe : Value → Shared → Prop} (h : CalK X k nm m ks S) : CalK (X.tr pn xe) k nm m ks S := ⟨h.rm, h.ex⟩
/-- keywords whose values are data -/
def EKws (X : Cx) (n : Nm) (c : Cc) (Γ : SL) : List Keyword → List D → Prop
  | [], [] => True
  | kw :: r, x :: xs => EV X n c Γ kw.value x ∧ EKws X n c Γ r xs
  | _, _ => False
def tKw (X : Cx) : List Keyword → TA
  | [] => tNil
  | kw :: r => tCons (tW X kw.value) (tKw X r)
theorem EKws.run {X : Cx} {n : Nm} {c : Cc} {Γ : SL} (hn : NOk X n c) {σ : L2.St} : ∀ {kws : List Keyword} {xs : List D} {R H : Hp}, EKws X n c Γ kws xs → SOk X.K c Γ σ R H → ∀ Q : List V → Hp → Prop, (∀ zs R' H', SOk X.K c Γ σ R' H' → Ex R R' → AksOk X.K R' σ (xs.map AK.d) zs → Q zs H') → tKw X kws σ H Q
  | [], [], R, H, _, s, Q, q => q [] R H s (Ex.refl _) rfl
  | kw :: r, x :: xs, R, H, ⟨h1, h2⟩, s, Q, q => h1.run hn σ R H s _ fun v R1 H1 y Γ1 s1 e1 r1 ⟨ey, eg⟩ => by
    subst ey eg
    exact EKws.run hn h2 s1 _ fun zs R2 H2 s2 e2 r2 => q (v :: zs) R2 H2 s2 (e1.trans e2) ⟨v, zs, rfl, Rp.mono e2 _ _ r1, r2⟩
section
variable {X : Cx} {n : Nm} {c : Cc} {Γ : SL} {e : Expr} {es : List Expr} {kws : List Keyword} {nm : Str} {m : Nat} {kns : List Str} {S : SgX} {p pos : Pos}
end
end DL

end
section
set_option Elab.async false
set_option linter.all false
set_option autoImplicit true
set_option maxRecDepth 10000
set_option maxHeartbeats 400000
namespace DL
open PySem L2
/-! ### a steered display's bound, lap by lap -/
def PStep6 (q : Rat) : Prop := PStep q ∧ fr 1 6 ≤ q
def SlewP (s d : Rat) : Prop := 0 < s ∧ s < 1 ∧ 0 ≤ d ∧ d < s ∧ fr 1 160 ≤ s - d ∧ Sz 6 s ∧ Sz 12 d
def GoodB (b h l : Rat) : Prop := ¬ b < 0 ∧ ¬ h < 0 ∧ 0 < l
def BadB (b h l e : Rat) : Prop := (b < 0 ∧ e = b) ∨ (¬ b < 0 ∧ h < 0 ∧ e = h) ∨ (¬ b < 0 ∧ ¬ h < 0 ∧ ¬ 0 < l ∧ e = l)
def GoodS (s d : Rat) : Prop := 0 < s ∧ s < 1 ∧ ¬ d < 0 ∧ d < s
def BadS (s d e : Rat) : Prop := ((¬ 0 < s ∨ ¬ s < 1) ∧ e = s) ∨ (0 < s ∧ s < 1 ∧ (d < 0 ∨ ¬ d < s) ∧ e = d)
structure LA where
  b : Rat
  h : Rat
  l : Rat
  s : Rat
  d : Rat
  g : Rat
def LA.D (a : LA) : DL.D := .lst [qD a.b, qD a.h, qD a.l, qD a.s, qD a.d, qD a.g]
def LA.sz (a : LA) : Prop := Sz 600 a.b ∧ Sz 60 a.h ∧ Sz 60 a.l ∧ Sz 60 a.s ∧ Sz 60 a.d ∧ Sz 250 a.g
def LA.good (a : LA) : Prop := GoodB a.b a.h a.l ∧ GoodS a.s a.d
def behQ (b h l s d : Rat) : Rat := d * l + maxQ (b - s * l) h
def flQ (q : Rat) : Int := q.num.fdiv (q.den : Int)
theorem fl_le (q : Rat) : ((flQ q : Int) : Rat) ≤ q ∧ q < ((flQ q : Int) : Rat) + 1 := by
  have hd := den_pos' q
  have h : flQ q = q.num / (q.den : Int) := fdiv_ediv (by have := q.den_nz; omega)
  have h1 := Int.ediv_mul_le q.num (show (q.den : Int) ≠ 0 by omega)
  have h2 := Int.lt_ediv_add_one_mul_self q.num hd
  rw [← h] at h1 h2
  have le : ∀ m : Int, (m : Rat) ≤ q ↔ m * (q.den : Int) ≤ q.num := fun m => by
    rw [Rat.le_iff, Rat.num_intCast, Rat.den_intCast]; simp
  refine ⟨(le _).mpr h1, ?_⟩
  by_cases z : q < ((flQ q : Int) : Rat) + 1
  · exact z
  · have : (((flQ q + 1 : Int)) : Rat) ≤ q := by
      rw [Rat.intCast_add]
      have e : ((1 : Int) : Rat) = 1 := rfl
      rw [e]; grind
    have := (le _).mp this
    omega
theorem natI (n : Nat) : (((n : Nat) : Int) : Rat) = (n : Rat) := Rat.intCast_natCast n
theorem SlewP.good {s d : Rat} (h : SlewP s d) : GoodS s d := ⟨h.1, h.2.1, by have := h.2.2.1; grind, h.2.2.2.1⟩
def BadL (b h l s d : Rat) (nm : Str) (e : Rat) : Prop := Sz 60 b ∧ Sz 60 h ∧ Sz 60 l ∧ Sz 60 s ∧ Sz 60 d ∧ ((nm = "BadBound" ∧ BadB b h l e) ∨ (nm = "BadRate" ∧ GoodB b h l ∧ BadS s d e))
theorem ep0 {X : Cx} {n : Nm} {c : Cc} {Γ : SL} : EP1 X n c Γ none none := trivial
theorem ep1 {X : Cx} {n : Nm} {c : Cc} {Γ : SL} {e : Expr} {i : Int} (h : EV X n c Γ e (.int i)) : EP1 X n c Γ (some e) (some i) := h
section
variable {X : Cx} {n : Nm} {c : Cc} {Γ : SL} {a b d f h : Expr} {k l m q r : AK} {ps : List Par} {S : Sg} {nm : Str} {p pos : Pos} {z : DL.D}
end
theorem list5 {α : Type} {us : List α} (h : us.length = 5) : ∃ a b c d e, us = [a, b, c, d, e] := by
  match us, h with
  | [a, b, c, d, e], _ => exact ⟨a, b, c, d, e, rfl⟩
def kindOf (i : Nat) : Str := if i < 3 then "BadBound" else "BadRate"
/-- the first wrong argument -/
structure LapInv (m : Nat) (os ws as : List Rat) (due : D) (i : Nat) : Prop where
  len : as.length = 5
  rest : ∀ j, i ≤ j → as[j]? = os[j]?
  due : (due = .tup [] ∧ as = os ∧ ∀ j, j < i → m / 2 ^ j % 2 = 0) ∨ ∃ k w, k < i ∧ k < 5 ∧ ws[k]? = some w ∧ as[k]? = some w ∧ due = .tup [.str (kindOf k), qD w] ∧ ∀ j, j < k → as[j]? = os[j]?
  sz : ∀ q ∈ as, Sz 20 q
theorem LapInv.first {m : Nat} {os ws as : List Rat} {i : Nat} {w : Rat} (h : LapInv m os ws as (.tup []) i) (hi : i < 5) (hw : ws[i]? = some w) (zw : Sz 20 w) : LapInv m os ws (as.set i w) (.tup [.str (kindOf i), qD w]) (i + 1) := by
  have hos : as = os := by
    rcases h.due with ⟨_, h2, _⟩ | ⟨k, w, _, _, _, _, z, _⟩
    · exact h2
    · cases z
  refine ⟨by rw [List.length_set]; exact h.len, fun j hj => ?_, .inr ⟨i, w, by omega, hi, hw, ?_, rfl, fun j hj => ?_⟩, fun q hq => ?_⟩
  · rw [List.getElem?_set_ne (by omega)]; exact h.rest j (by omega)
  · rw [List.getElem?_set_self (by rw [h.len]; exact hi)]
  · rw [List.getElem?_set_ne (by omega), hos]
  · rcases List.mem_or_eq_of_mem_set hq with z | rfl
    · exact h.sz q z
    · exact zw
theorem LapInv.later {m : Nat} {os ws as : List Rat} {due : D} {i : Nat} {w : Rat} (h : LapInv m os ws as due i) (hd : due ≠ .tup []) (zw : Sz 20 w) : LapInv m os ws (as.set i w) due (i + 1) := by
  refine ⟨by rw [List.length_set]; exact h.len, fun j hj => ?_, ?_, fun q hq => ?_⟩
  · rw [List.getElem?_set_ne (by omega)]; exact h.rest j (by omega)
  · rcases h.due with ⟨z, _, _⟩ | ⟨k, v, h1, h2, h3, h4, h5, h6⟩
    · exact absurd z hd
    · refine .inr ⟨k, v, by omega, h2, h3, ?_, h5, fun j hj => ?_⟩
      · rw [List.getElem?_set_ne (by omega)]; exact h4
      · rw [List.getElem?_set_ne (by omega)]; exact h6 j hj
  · rcases List.mem_or_eq_of_mem_set hq with z | rfl
    · exact h.sz q z
    · exact zw
/-- what is told of it -/
theorem LapInv.end {m : Nat} {b h l s d b' h' l' s' d' : Rat} {as : List Rat} {due : D} (I : LapInv m [b, h, l, s, d] [b', h', l', s', d'] as due 5) (m1 : 1 ≤ m) (m2 : m ≤ 31) (gb : GoodB b h l) (gs : GoodS s d) (hb : b' < 0) (hh : h' < 0) (hl : ¬ 0 < l') (hs : ¬ 0 < s' ∨ ¬ s' < 1) (hd : d' < 0 ∨ ¬ d' < s) :
    ∃ a0 a1 a2 a3 a4 nm e, as = [a0, a1, a2, a3, a4] ∧ due = .tup [.str nm, qD e] ∧ BadL a0 a1 a2 a3 a4 nm e := by
  obtain ⟨a0, a1, a2, a3, a4, rfl⟩ := list5 I.len
  have z : ∀ q ∈ [a0, a1, a2, a3, a4], Sz 60 q := fun q hq => (I.sz q hq).mono (by decide)
  have z0 := z a0 (by simp)
  have z1 := z a1 (by simp)
  have z2 := z a2 (by simp)
  have z3 := z a3 (by simp)
  have z4 := z a4 (by simp)
  rcases I.due with ⟨_, _, h3⟩ | ⟨k, w, h1, h2, h3, h4, h5, h6⟩
  · exfalso
    have e0 := h3 0 (by omega)
    have e1 := h3 1 (by omega)
    have e2 := h3 2 (by omega)
    have e3 := h3 3 (by omega)
    have e4 := h3 4 (by omega)
    simp at e0 e1 e2 e3 e4
    omega
  · refine ⟨a0, a1, a2, a3, a4, kindOf k, w, rfl, h5, z0, z1, z2, z3, z4, ?_⟩
    have hk : k = 0 ∨ k = 1 ∨ k = 2 ∨ k = 3 ∨ k = 4 := by omega
    obtain ⟨g1, g2, g3⟩ := gb
    obtain ⟨t1, t2, t3, t4⟩ := gs
    rcases hk with rfl | rfl | rfl | rfl | rfl
    · cases h3; cases h4
      exact .inl ⟨rfl, .inl ⟨hb, rfl⟩⟩
    · have f0 := h6 0 (by omega)
      cases h3; cases h4; cases f0
      exact .inl ⟨rfl, .inr (.inl ⟨g1, hh, rfl⟩)⟩
    · have f0 := h6 0 (by omega)
      have f1 := h6 1 (by omega)
      cases h3; cases h4; cases f0; cases f1
      exact .inl ⟨rfl, .inr (.inr ⟨g1, g2, hl, rfl⟩)⟩
    · have f0 := h6 0 (by omega)
      have f1 := h6 1 (by omega)
      have f2 := h6 2 (by omega)
      cases h3; cases h4; cases f0; cases f1; cases f2
      exact .inr ⟨rfl, ⟨g1, g2, g3⟩, .inl ⟨hs, rfl⟩⟩
    · have f0 := h6 0 (by omega)
      have f1 := h6 1 (by omega)
      have f2 := h6 2 (by omega)
      have f3 := h6 3 (by omega)
      cases h3; cases h4; cases f0; cases f1; cases f2; cases f3
      exact .inr ⟨rfl, ⟨g1, g2, g3⟩, .inr ⟨t1, t2, hd, rfl⟩⟩
end DL

end
section
set_option Elab.async false
set_option linter.all false
set_option autoImplicit true
set_option maxRecDepth 100000
set_option maxHeartbeats 4000000
/-! defs called in a suite with the exception, that give a fresh list -/
namespace DL
open PySem L2 PySem.Spec PyProof.Rows
section
variable {X : Cx} {n : Nm} {c : Cc} {Γ : SL} {pos p p1 : Pos} {nm en : Str} {a C : Addr} {d : Option Addr} {fs : List (Str × D)} {xs : List D} {S : Addr → List D → Prop}
end
/-! ### a, b, c, d, e = a list's five things -/
section
variable {X : Cx} {n : Nm} {c : Cc} {Γ : SL} {e : Expr} {pos : Pos} {De : DE}
end
/-! ### bounds lap by lap, drifts -/
structure L5 where
  b : Rat
  h : Rat
  l : Rat
  s : Rat
  d : Rat
def L5.D (a : L5) : DL.D := .lst [qD a.b, qD a.h, qD a.l, qD a.s, qD a.d]
def L5.la (a : L5) : LA := ⟨a.b, a.h, a.l, a.s, a.d, 0⟩
def L5.sz (a : L5) : Prop := Sz 60 a.b ∧ Sz 60 a.h ∧ Sz 60 a.l ∧ Sz 60 a.s ∧ Sz 60 a.d
def L5.good (a : L5) : Prop := GoodB a.b a.h a.l ∧ GoodS a.s a.d
theorem ones_sz : Sz 1 (1 : Rat) := ⟨by decide, by decide⟩
end DL

end
section
set_option Elab.async false
set_option linter.all false
set_option autoImplicit true
set_option maxRecDepth 100000
set_option maxHeartbeats 400000
/-! instances of own classes: attributes, methods, properties, making -/
namespace DL
open PySem L2
open PyProof.Rows hiding St

section
variable {X : Cx} {n : Nm} {c : Cc} {Γ : SL} {e o : Expr} {es : List Expr} {x : D} {pos p p1 p2 apos : Pos} {nm cls f m : Str} {k : AK} {fs : List (Str × D)} {De : DE} {S : Sg}
/-- a method known by its promise -/
structure CalM (X : Cx) (k : Nat) (cls m : Str) (S : Sg) : Prop where
  rm : Room k X.A
  ic : InsC X.K cls
  ex : ∃ f fd ps k0, FnOk X.prog X.w X.K X.mg X.base CX0 k0 f fd ps (spOf X.K S) ∧ k0 ≤ k ∧ Meth X.K (He.ga X.K cls) m f ∧ Binds X.K fd ps []
theorem CalM.blk {X X' : Cx} {sc : Scope} {k : Nat} {cls m : Str} {S : Sg} (b : BlkX X X' sc) (h : CalM X k cls m S) : CalM X' k cls m S := by
  obtain ⟨s, H, C, cl, fp, rfl⟩ := b
  exact ⟨h.rm, h.ic, h.ex⟩
/-- a property known by its getter's promise -/
structure CalP (X : Cx) (k : Nat) (cls f : Str) (S : Sg) : Prop where
  rm : Room k X.A
  ic : InsC X.K cls
  ex : ∃ p g fd ps k0, FnOk X.prog X.w X.K X.mg X.base CX0 k0 g fd ps (spOf X.K S) ∧ k0 + 1 ≤ k ∧ PropOf X.K (He.ga X.K cls) f p g ∧ Binds X.K fd ps []
end
/-- an own class called: np positional values, keywords ks; G puts them and the defaults in order -/
structure CalN (X : Cx) (k : Nat) (cls : Str) (np : Nat) (kns : List Str) (G : List Par → List Par → List Par) (S : Sg) : Prop where
  rm : Room k X.A
  ic : InsC X.K cls
  mg : X.mg cls = some (.ref (He.ga X.K cls))
  ex : ∃ f fd ps k0 g gV, Mk X.K (He.ga X.K cls) f ∧ FnOk X.prog X.w X.K X.mg X.base CX0 k0 f fd ps (spOf X.K S) ∧ k0 + 1 ≤ k ∧ KBn X.K fd ps (np + 1) kns g gV ∧
    ∀ M R H vs zs pv pz v, ParsOk X.K M R H pv vs → ParsOk X.K M R H pz zs → pv.length = np → pz.length = kns.length → parOi 0 pv = [] → parOi 0 pz = [] → ∃ us, gV (v :: vs) zs = v :: us ∧ ParsOk X.K M R H (G pv pz) us ∧ parOi 0 (G pv pz) = []
section
variable {X : Cx} {n : Nm} {c : Cc} {Γ : SL} {e : Expr} {es : List Expr} {kws : List Keyword} {pos p : Pos} {cls : Str} {np : Nat} {kns : List Str} {G : List Par → List Par → List Par} {S : Sg}
end
end DL

end
section
set_option Elab.async false
set_option linter.all false
set_option autoImplicit true
set_option maxRecDepth 100000
set_option maxHeartbeats 1000000
/-! the head by one kernel run, with own classes: methods, getters, defaults -/
namespace DL
open PySem L2 NdefX He
open PyProof.Rows hiding St
/-- where a def stands -/
inductive At where
  | glo (x : Str) | meth (x m : Str) | get (x f : Str) | sta (x m : Str)
def propG (K : PySem.W.Frag) (C : Addr) (f : Str) : Addr := match PySem.W.recIn K (ma K C f) "property" with
  | some (.ref g :: _) => g
  | _ => 0
def At.ad (K : PySem.W.Frag) : At → Addr
  | .glo x => ga K x
  | .meth x m => ma K (ga K x) m
  | .get x f => propG K (ga K x) f
  | .sta x m => He5.wf K (ga K x) "staticmethod" m
structure FnZ where
  at_ : At
  name : Str
  qual : Str
  st : Stmt
  dfl : List Dv := []
  kwd : List (Str × Dv) := []
def fnZ (K : PySem.W.Frag) (p : At) : FnW := match K.lookup (p.ad K) with
  | some ⟨_, _, .func fd, _⟩ => some (fd.name, fd.qualname, fd.params, fd.body, fd.scope, fd.globals, fd.closure, fd.builtins)
  | _ => none
def FnZ.val (d : FnZ) : FnW := some (d.name, d.qual, defArgs d.st, .stmts (defBody d.st), defScope d.st, mainGlobals, [], builtinsNs)
def FnZ.dvs (K : PySem.W.Frag) (d : FnZ) : List V := d.dfl.map (Dv.v K)
def FnZ.kws (K : PySem.W.Frag) (d : FnZ) : List (Str × V) := d.kwd.map fun q => (q.1, q.2.v K)
def FnZ.ok (K : PySem.W.Frag) (d : FnZ) : Bool := PySem.W.keepIn K (.ref (d.at_.ad K)) && (match K.lookup (d.at_.ad K) with
  | some ⟨_, _, .func fd, _⟩ => PySem.W.codeIn K fd.code d.qual && (dflB K fd.defaults (d.dvs K) && kwdB K fd.kwdefaults (d.kws K))
  | _ => false)
theorem FnZ.funD {K : PySem.W.Frag} {d : FnZ} (e : fnZ K d.at_ = d.val) (c : d.ok K = true) : ∃ fd, FunD K d.name d.qual (defArgs d.st) (defBody d.st) (defScope d.st) (d.dvs K) (d.kws K) (d.at_.ad K) fd := by
  obtain ⟨kp, c2⟩ := ba c
  unfold fnZ at e
  cases q : K.lookup (d.at_.ad K) with
  | none => rw [q] at c2; cases c2
  | some o =>
    obtain ⟨oc, od, dt, osl⟩ := o
    rw [q] at c2 e
    cases dt with
    | func fd =>
      obtain ⟨n1, n2, n3, n4, n5, n6, n7, n8, n9, n10, n11, n12, n13, n14, n15⟩ := fd
      have e2 : (some (n1, n2, n3, n4, n5, n6, n7, n15) : FnW) = some (d.name, d.qual, defArgs d.st, .stmts (defBody d.st), defScope d.st, mainGlobals, [], builtinsNs) := e
      simp only [Option.some.injEq, Prod.mk.injEq] at e2
      obtain ⟨h1, h2, h3, h4, h5, h6, h7, h8⟩ := e2
      subst h1 h2 h3 h4 h5 h6 h7 h8
      have c3 : (PySem.W.codeIn K n13 d.qual && (dflB K n8 (d.dvs K) && kwdB K n9 (d.kws K))) = true := c2
      obtain ⟨k1, k2⟩ := ba c3
      obtain ⟨k3, k4⟩ := ba k2
      exact ⟨_, ⟨oc, od, n8, n9, n10, n11, n12, n13, n14, osl, rfl, q, k1, dflB_ok k3, kwdB_ok k4⟩, kp⟩
    | _ => cases c2
theorem funD_fun {K : PySem.W.Frag} {x qual : Str} {st : Stmt} {kws : List (Str × V)} {f : Addr} {fd : FuncData} (F : FunD K x qual (defArgs st) (defBody st) (defScope st) [] kws f fd) : Fun K x qual st f fd := by
  obtain ⟨oc, od, dV, kV, doc, pm, an, cdv, ct, osl, e, lk, hcd, hD, _⟩ := F.ex
  rcases hD with ⟨_, rfl⟩ | ⟨h, _⟩
  · exact ⟨⟨oc, od, kV, doc, pm, an, cdv, ct, osl, e, lk, hcd⟩, F.kp⟩
  · exact absurd rfl h
def tupA (K : PySem.W.Frag) (a : Addr) (vs : List Dv) : Bool := match K.lookup a with
  | some ⟨.type c, _, .seq its _, _⟩ => decide (c = "tuple") && (decide (its.size ≤ sizeLine) && relAll (vs.map (Dv.v K)) its.toList)
  | _ => false
inductive Fy where
  | fx (f : Fx)
  | ins (x : Str)
  | prop (x f : Str)
  | tup (p : PySem.W.Frag → Addr) (vs : List Dv)
  | con (x f : Str) (i : Int)
  | cval (x f : Str) (i : Int)
  | first (x : Str)
  | sta (x m : Str)
def conB (K : PySem.W.Frag) (x f : Str) (i : Int) : Bool := match PySem.W.findIn K (.ref (ga K x)) f with
  | some (some (.int j u)) => decide (j = i) && eqO (PySem.W.specialIn K (.int j u) "__get__") (some none)
  | _ => false
def cvalB (K : PySem.W.Frag) (x f : Str) (i : Int) : Bool := match PySem.W.findCls K (.ref (ga K x)) (.type "type") f with
  | some (.val (.int j _)) => decide (j = i)
  | _ => false
def Fy.ok (K : PySem.W.Frag) : Fy → Bool
  | .fx f => f.ok K
  | .ins x => [(Fa.cls x).ok K, eqO (PySem.W.findIn K (.ref (ga K x)) "__class__") (some (some (.builtin "object.__class__"))), eqO (PySem.W.specialIn K (.builtin "object.__class__") "__get__") (some (some (.builtin "getset_descriptor.__get__"))),
    decide (PySem.W.takesIn K (.builtin "object.__class__") = some true), decide (PySem.W.mroIn K (ga K x) (.type "object") = some true), (["bool", "int", "str", "list", "tuple", "dict"] : List String).all fun T => decide (PySem.W.kitOne K (.ref (ga K x)) (.type T) = some false)].all id
  | .prop x f => [eqO (PySem.W.findIn K (.ref (ga K x)) f) (some (some (.ref (ma K (ga K x) f)))), eqO (PySem.W.specialIn K (.ref (ma K (ga K x) f)) "__get__") (some (some (.builtin "property.__get__"))), decide (PySem.W.takesIn K (.ref (ma K (ga K x) f)) = some true),
    (match PySem.W.recIn K (ma K (ga K x) f) "property" with
      | some (.ref _ :: _) => true
      | _ => false)].all id
  | .tup p vs => tupA K (p K) vs
  | .con x f i => conB K x f i
  | .cval x f i => [PySem.W.readsIn K (ga K x) (.type "type"), eqO (PySem.W.specialIn K (.ref (ga K x)) "__getattribute__") (some (some (.builtin "type.__getattribute__"))),
    cvalB K x f i].all id
  | .first x => PySem.W.selfFirst K (ga K x)
  | .sta x m => [PySem.W.readsIn K (ga K x) (.type "type"), eqO (PySem.W.specialIn K (.ref (ga K x)) "__getattribute__") (some (some (.builtin "type.__getattribute__"))), He5.wrapB K (ga K x) "staticmethod" "staticmethod.__get__" m].all id
/-! ### the Hook -/
structure TopE where
  mf : Str
  nm : List Str
  cl : List Str
  fx : List Fy
  fn : List FnZ
  ex : List InD
abbrev AlE : Type := Bool × List FnW × List InV
def obsE (T : TopE) (K : PySem.W.Frag) : AlE := ([T.fx.all fun f => f.ok K, T.fn.all fun d => d.ok K, T.ex.all fun e => (exL T.mf K e).all id].all id, T.fn.map fun d => fnZ K d.at_, T.ex.map fun e => inObs K e.nm)
def valE (T : TopE) : AlE := (true, T.fn.map FnZ.val, T.ex.map InD.val)
def SaysE (T : TopE) (K : PySem.W.Frag) : Prop := obsE T K = valE T
/-- what they name, n steps deep -/
def reach (g : Addr → Option Obj) : Nat → List Addr → List Addr
  | 0, as => as
  | n + 1, as => as ++ reach g n (as.flatMap (refsAt g))
section
variable {T : TopE} {K : PySem.W.Frag}
theorem SaysE.fact (c : SaysE T K) (i : Nat) {f : Fy} (h : T.fx[i]? = some f := by rfl) : f.ok K = true := by
  have c1 := all_at (show [T.fx.all fun f => f.ok K, T.fn.all fun d => d.ok K, T.ex.all fun e => (exL T.mf K e).all id].all id = true from congrArg (fun z : AlE => z.1) c) 0
  exact List.all_eq_true.mp c1 f (List.mem_of_getElem? h)
theorem SaysE.def_ (c : SaysE T K) (i : Nat) {d : FnZ} (h : T.fn[i]? = some d := by rfl) : ∃ fd, FunD K d.name d.qual (defArgs d.st) (defBody d.st) (defScope d.st) (d.dvs K) (d.kws K) (d.at_.ad K) fd := by
  have c1 := all_at (show [T.fx.all fun f => f.ok K, T.fn.all fun d => d.ok K, T.ex.all fun e => (exL T.mf K e).all id].all id = true from congrArg (fun z : AlE => z.1) c) 1
  have c2 := List.all_eq_true.mp c1 _ (List.mem_of_getElem? h)
  have e : T.fn.map (fun d => fnZ K d.at_) = T.fn.map FnZ.val := congrArg (fun z : AlE => z.2.1) c
  have e2 : (T.fn.map fun d => fnZ K d.at_)[i]? = (T.fn.map FnZ.val)[i]? := by rw [e]
  rw [List.getElem?_map, List.getElem?_map, h] at e2
  exact FnZ.funD (Option.some.inj e2) c2
theorem SaysE.err (c : SaysE T K) (i : Nat) {e : InD} (h : T.ex[i]? = some e := by rfl) : inObs K e.nm = e.val ∧ (exL T.mf K e).all id = true := by
  have c1 := all_at (show [T.fx.all fun f => f.ok K, T.fn.all fun d => d.ok K, T.ex.all fun e => (exL T.mf K e).all id].all id = true from congrArg (fun z : AlE => z.1) c) 2
  have e0 : T.ex.map (fun e => inObs K e.nm) = T.ex.map InD.val := congrArg (fun z : AlE => z.2.2) c
  have e2 : (T.ex.map fun e => inObs K e.nm)[i]? = (T.ex.map InD.val)[i]? := by rw [e0]
  rw [List.getElem?_map, List.getElem?_map, h] at e2
  exact ⟨Option.some.inj e2, List.all_eq_true.mp c1 _ (List.mem_of_getElem? h)⟩
/-- a def of the module's, as Fun -/
theorem SaysE.fn (c : SaysE T K) (i : Nat) {x : Str} {st : Stmt} (h : T.fn[i]? = some ⟨.glo x, x, x, st, [], []⟩ := by rfl) : ∃ fd, Fun K x x st (ga K x) fd := (c.def_ i h).imp fun _ F => funD_fun F
end
/-! ### methods, getters, classes as the top has left them -/
/-- a method without defaults -/
structure MethAt (K : PySem.W.Frag) (cls m : Str) (qual : Str) (st : Stmt) (ps : List Str) where
  fd : FuncData
  F : Fun K m qual st (ma K (ga K cls) m) fd
  m : Meth K (ga K cls) m (ma K (ga K cls) m)
  b : Binds K fd ps []
  ic : InsC K cls
structure GetAt (K : PySem.W.Frag) (cls f : Str) (qual : Str) (st : Stmt) (ps : List Str) where
  fd : FuncData
  F : Fun K f qual st (propG K (ga K cls) f) fd
  p : PropOf K (ga K cls) f (ma K (ga K cls) f) (propG K (ga K cls) f)
  b : Binds K fd ps []
  ic : InsC K cls
theorem MethAt.cal {X : Cx} {cls m qual : Str} {st : Stmt} {ps : List Str} {k k0 : Nat} {S : Sg} (d : MethAt X.K cls m qual st ps) (F : FnOk X.prog X.w X.K X.mg X.base CX0 k0 (ma X.K (ga X.K cls) m) d.fd ps (spOf X.K S)) (h : k0 ≤ k) (rm : Room k X.A) : CalM X k cls m S :=
  ⟨rm, d.ic, _, d.fd, ps, k0, F, h, d.m, d.b⟩
theorem GetAt.cal {X : Cx} {cls f qual : Str} {st : Stmt} {ps : List Str} {k k0 : Nat} {S : Sg} (d : GetAt X.K cls f qual st ps) (F : FnOk X.prog X.w X.K X.mg X.base CX0 k0 (propG X.K (ga X.K cls) f) d.fd ps (spOf X.K S)) (h : k0 + 1 ≤ k) (rm : Room k X.A) : CalP X k cls f S :=
  ⟨rm, d.ic, _, _, d.fd, ps, k0, F, h, d.p, d.b⟩
/-- an own class that is called: its __init__, keyword defaults kws that are the data kwD -/
structure InitAt (K : PySem.W.Frag) (mg : Str → Option Value) (cls qual : Str) (st : Stmt) (ps : List Str) (kws : List (Str × V)) where
  fd : FuncData
  F : FunD K "__init__" qual (defArgs st) (defBody st) (defScope st) [] kws (ma K (ga K cls) "__init__") fd
  mak : Mk K (ga K cls) (ma K (ga K cls) "__init__")
  mg : mg cls = some (.ref (ga K cls))
  ic : InsC K cls
theorem parsOk_app {K : PySem.W.Frag} {M : Addr → Prop} {R H : Hp} : ∀ {ps qs : List Par} {vs ws : List V}, ParsOk K M R H ps vs → ParsOk K M R H qs ws → ParsOk K M R H (ps ++ qs) (vs ++ ws)
  | [], _, _, _, h, h2 => by cases (show _ = _ from h); exact h2
  | p :: ps, _, _, _, ⟨v, us, e, h1, h2⟩, h3 => by subst e; exact ⟨v, _, rfl, h1, parsOk_app h2 h3⟩
theorem parOi_sh : ∀ {ps : List Par} {i j : Nat}, parOi i ps = [] → parOi j ps = []
  | [], _, _, _ => rfl
  | p :: ps, i, j, h => by
    cases p with
    | own o => cases h
    | d x => exact parOi_sh (ps := ps) (i := i + 1) (j := j + 1) h
    | w x => exact parOi_sh (ps := ps) (i := i + 1) (j := j + 1) h
    | sc x => exact parOi_sh (ps := ps) (i := i + 1) (j := j + 1) h
theorem parOi_app : ∀ {ps qs : List Par} {i : Nat}, parOi i ps = [] → parOi i qs = [] → parOi i (ps ++ qs) = []
  | [], _, _, _, h => h
  | p :: ps, qs, i, h, h2 => by
    cases p with
    | own o => cases h
    | d x => exact parOi_app (ps := ps) (i := i + 1) h (parOi_sh h2)
    | w x => exact parOi_app (ps := ps) (i := i + 1) h (parOi_sh h2)
    | sc x => exact parOi_app (ps := ps) (i := i + 1) h (parOi_sh h2)
theorem parOi_d : ∀ {xs : List D} {i : Nat}, parOi i (xs.map Par.d) = []
  | [], _ => rfl
  | x :: xs, i => parOi_d (xs := xs) (i := i + 1)
theorem parsOk_d {K : PySem.W.Frag} {M : Addr → Prop} {R H : Hp} : ∀ {xs : List D} {vs : List V}, RpL K R xs vs → ParsOk K M R H (xs.map Par.d) vs
  | [], _, h => by cases (show _ = _ from h); rfl
  | x :: xs, _, ⟨v, ws, e, h1, h2⟩ => by subst e; exact ⟨v, ws, rfl, h1, parsOk_d h2⟩
theorem ParsOk.take {K : PySem.W.Frag} {M : Addr → Prop} {R H : Hp} : ∀ {ps : List Par} {vs : List V} (i : Nat), ParsOk K M R H ps vs → ParsOk K M R H (ps.take i) (vs.take i)
  | [], _, i, h => by cases (show _ = _ from h); simp [ParsOk]
  | p :: ps, _, 0, h => by simp [ParsOk]
  | p :: ps, _, i + 1, ⟨v, ws, e, h1, h2⟩ => by subst e; exact ⟨v, _, rfl, h1, h2.take i⟩
theorem ParsOk.drop {K : PySem.W.Frag} {M : Addr → Prop} {R H : Hp} : ∀ {ps : List Par} {vs : List V} (i : Nat), ParsOk K M R H ps vs → ParsOk K M R H (ps.drop i) (vs.drop i)
  | [], _, i, h => by cases (show _ = _ from h); simp [ParsOk]
  | p :: ps, _, 0, h => h
  | p :: ps, _, i + 1, ⟨v, ws, e, h1, h2⟩ => by subst e; exact h2.drop i
theorem parOi_take : ∀ {ps : List Par} {i j k : Nat}, parOi i ps = [] → parOi k (ps.take j) = []
  | [], _, j, _, _ => by simp [parOi]
  | p :: ps, _, 0, _, _ => by simp [parOi]
  | p :: ps, i, j + 1, k, h => by
    cases p with
    | own o => cases h
    | d x => exact parOi_take (ps := ps) (i := i + 1) (k := k + 1) h
    | w x => exact parOi_take (ps := ps) (i := i + 1) (k := k + 1) h
    | sc x => exact parOi_take (ps := ps) (i := i + 1) (k := k + 1) h
theorem parOi_drop : ∀ {ps : List Par} {i j k : Nat}, parOi i ps = [] → parOi k (ps.drop j) = []
  | [], _, j, _, _ => by simp [parOi]
  | p :: ps, i, 0, k, h => parOi_sh h
  | p :: ps, i, j + 1, k, h => by
    cases p with
    | own o => cases h
    | d x => exact parOi_drop (ps := ps) (i := i + 1) h
    | w x => exact parOi_drop (ps := ps) (i := i + 1) h
    | sc x => exact parOi_drop (ps := ps) (i := i + 1) h
/-- the keywords that lack stand behind the first i of those that are written -/
theorem InitAt.cal {X : Cx} {cls qual : Str} {st : Stmt} {ps kns : List Str} {kws ms : List (Str × V)} {k k0 np : Nat} {S : Sg} (d : InitAt X.K X.mg cls qual st ps kws) (i : Nat) (F : FnOk X.prog X.w X.K X.mg X.base CX0 k0 (ma X.K (ga X.K cls) "__init__") d.fd ps (spOf X.K S)) (h : k0 + 1 ≤ k) (rm : Room k X.A)
    (kb : ∃ mv : List Value, KBn X.K d.fd ps (np + 1) kns (fun us ws => us ++ (ws.take i ++ (mv ++ ws.drop i))) (fun vs zs => vs ++ (zs.take i ++ (ms.map (·.2) ++ zs.drop i)))) (msD : List D) (hms : ∀ R, RpL X.K R msD (ms.map (·.2))) : CalN X k cls np kns (fun pv pz => pv ++ (pz.take i ++ (msD.map Par.d ++ pz.drop i))) S := by
  obtain ⟨mv, kb⟩ := kb
  refine ⟨rm, d.ic, d.mg, _, d.fd, ps, k0, _, _, d.mak, F, h, kb, fun M R H vs zs pv pz v h1 h2 _ _ h5 h6 => ⟨vs ++ (zs.take i ++ (ms.map (·.2) ++ zs.drop i)), rfl, parsOk_app h1 (parsOk_app (h2.take i) (parsOk_app (parsOk_d (hms R)) (h2.drop i))), parOi_app h5 (parOi_app (parOi_take h6) (parOi_app parOi_d (parOi_drop h6)))⟩⟩
end DL

end
section
set_option Elab.async false
set_option linter.all false
set_option autoImplicit true
set_option maxRecDepth 100000
set_option maxHeartbeats 400000
/-! steering: what a display holds, its answers -/
namespace DL
open PySem L2
open PyProof.Rows hiding St
structure StQ where
  slew : Rat
  drift : Rat
  step : Option Rat
  at_ : Rat
  ps : List Pc
  bound : Rat
  half : Rat
  aim : Option Rat
def StQ.fs (s : StQ) : List (Str × D) := [("slew_told", qD s.slew), ("drift_told", qD s.drift), ("step_told", oD s.step), ("steered_at", qD s.at_), ("steered_pieces", cD s.ps), ("steered_bound", qD s.bound), ("steered_half", qD s.half), ("steered_aim", oD s.aim)]
abbrev StQ.D (s : StQ) : DL.D := .ins "Steering" s.fs
abbrev StQ.O (s : StQ) : OB := .ins "Steering" s.fs
/-- what a course shows at t -/
def atQ (c : List Pc) (t : Rat) : Rat := match c[placeN c t]? with
  | some p => pline p t
  | none => 0
def farQ (lo hi t : Rat) : Rat := maxQ (absQ (t - lo)) (absQ (t - hi))
def rateQ (shown aim slew : Rat) : Rat := if shown < aim then 1 + slew else 1 - slew
def lenQ (shown aim slew : Rat) : Rat := absQ (aim - shown) / slew
def towardsQ (raw shown aim slew : Rat) : List Pc := if aim = shown then [(raw, shown, 1)] else [(raw, shown, rateQ shown aim slew), (raw + lenQ shown aim slew, aim + lenQ shown aim slew, 1)]
def StQ.err (s : StQ) (r : Rat) : Rat := behQ s.bound s.half (r - s.at_) s.slew s.drift
/-- behind a call of steer with no closed span; with one that is followed from lo to hi -/
def StQ.idle (s : StQ) (raw : Rat) : StQ := { s with at_ := raw, ps := tidyQ (s.ps.filter (fun p => decide (p.1 < raw)) ++ [(raw, atQ s.ps raw, 1)]), bound := s.err raw, half := s.err raw, aim := none }
def StQ.jumps (s : StQ) (shown aim : Rat) : Bool := match s.step with
  | some d => decide (d < aim - shown)
  | none => false
def StQ.plan (s : StQ) (raw lo hi : Rat) : List Pc := if s.jumps (atQ s.ps raw) ((lo + hi) * fr 1 2) then [(raw, (lo + hi) * fr 1 2, 1)] else towardsQ raw (atQ s.ps raw) ((lo + hi) * fr 1 2) s.slew
def StQ.goto (s : StQ) (raw lo hi : Rat) : StQ := { s with at_ := raw, ps := tidyQ (s.ps.filter (fun p => decide (p.1 < raw)) ++ s.plan raw lo hi), bound := if s.jumps (atQ s.ps raw) ((lo + hi) * fr 1 2) then (hi - lo) / fr 2 1 else farQ lo hi (atQ s.ps raw), half := (hi - lo) / fr 2 1, aim := some ((lo + hi) * fr 1 2) }
/-- sizes of a steering -/
structure StQ.sz (s : StQ) : Prop where
  za : Sz 300 s.at_
  zp : Cz 300 300 70 s.ps
  np : s.ps.length ≤ 1000
  zb : Sz 700 s.bound
  zh : Sz 700 s.half
  zs : Sz 60 s.slew
  zd : Sz 60 s.drift
  zo : SzO 300 s.step
def stQ0 (raw shown err slew drift : Rat) (step : Option Rat) : StQ := ⟨slew, drift, step, raw, [(raw, shown, 1)], err, err, none⟩
def GoodO (o : Option Rat) : Prop := ∀ d, o = some d → ¬ d < 0
def closeQ (lo hi shown bound : Rat) : Rat × Rat := if minQ hi (shown + bound) < maxQ lo (shown - bound) then (lo, hi) else (maxQ lo (shown - bound), minQ hi (shown + bound))
def StQ.after (s : StQ) (raw : Rat) (sp : Option Spn) : StQ := match sp with
  | some (some lo, some hi) => s.goto raw (closeQ lo hi (atQ s.ps raw) (s.err raw)).1 (closeQ lo hi (atQ s.ps raw) (s.err raw)).2
  | _ => s.idle raw
def StQ.planO (s : StQ) (raw : Rat) (sp : Option Spn) : List Pc := match sp with
  | some (some lo, some hi) => s.plan raw (closeQ lo hi (atQ s.ps raw) (s.err raw)).1 (closeQ lo hi (atQ s.ps raw) (s.err raw)).2
  | _ => [(raw, atQ s.ps raw, 1)]
def opnB : Option Spn → Bool
  | some (some _, some _) => false
  | _ => true
theorem opn_after {s : StQ} {raw : Rat} {sp : Option Spn} (h : opnB sp = true) : s.after raw sp = s.idle raw ∧ s.planO raw sp = [(raw, atQ s.ps raw, 1)] := by
  unfold StQ.after StQ.planO
  split
  · cases h
  · exact ⟨rfl, rfl⟩
theorem opn_no {sp : Option Spn} (h : opnB sp = false) : ∃ lo hi, sp = some (some lo, some hi) := by
  unfold opnB at h
  split at h
  · exact ⟨_, _, rfl⟩
  · cases h
end DL

end
section
set_option Elab.async false
set_option linter.all false
set_option autoImplicit true
set_option maxRecDepth 100000
set_option maxHeartbeats 400000
/-! k34: the law's own reading of a steering -/
namespace DL
open PySem L2
open PyProof.Rows hiding St
/-- the state of a display: steered at, shown, its rate, how long, the bound, half -/
structure KS where
  at_ : Rat
  y : Rat
  r : Rat
  len : Rat
  b : Rat
  h : Option Rat
abbrev KS.D (k : KS) : DL.D := .tup [qD k.at_, qD k.y, qD k.r, qD k.len, qD k.b, oD k.h]
def KS.now (k : KS) (raw : Rat) : Rat := (k.y + k.r * (if raw - k.at_ < k.len then raw - k.at_ else k.len)) + ((raw - k.at_) - (if raw - k.at_ < k.len then raw - k.at_ else k.len))
structure KS.sz (k : KS) : Prop where
  za : Sz 300 k.at_
  zy : Sz 300 k.y
  zr : Sz 70 k.r
  zl : Sz 300 k.len
  zb : Sz 700 k.b
  zh : SzO 700 k.h
/-- what a steering begins with -/
structure KA where
  first : Rat
  y : Rat
  err : Rat
  slew : Rat
  drift : Rat
  step : Option Rat
abbrev KA.D (a : KA) : DL.D := .lst [qD a.first, qD a.y, qD a.err, qD a.slew, qD a.drift, oD a.step]
structure KA.sz (a : KA) : Prop where
  zf : Sz 300 a.first
  zy : Sz 300 a.y
  ze : Sz 300 a.err
  zs : Sz 60 a.slew
  zd : Sz 60 a.drift
  zo : SzO 300 a.step
def KS.bnd (k : KS) (slew drift raw : Rat) : Rat := match k.h with
  | none => k.b + drift * (raw - k.at_)
  | some h => drift * (raw - k.at_) + (if k.b - slew * (raw - k.at_) < h then h else k.b - slew * (raw - k.at_))
/-- a drawn step_over -/
def OverP (o : Option Rat) : Prop := ∀ q, o = some q → Sd 60 24 q ∧ ¬ q < 0
def KA.good (a : KA) : Prop := ¬ a.err < 0 ∧ GoodS a.slew a.drift ∧ GoodO a.step
def KA.st (a : KA) : StQ := stQ0 a.first a.y a.err a.slew a.drift a.step
end DL

end
section
set_option Elab.async false
set_option linter.all false
set_option autoImplicit true
set_option maxRecDepth 100000
set_option maxHeartbeats 400000
/-! None in a span; a method of a list that no name holds; k34: what the law finds behind a call -/
namespace DL
open PySem L2
open PyProof.Rows hiding St
section
variable {X : Cx} {n : Nm} {c : Cc} {Γ : SL} {e a b o : Expr} {x y z : DL.D} {pos p ap pos2 : Pos} {nm meth : Str} {es : List Expr} {k l : AK} {De : DE}
variable {mid : String} {P : List DL.D → List DL.D → (DL.D → List DL.D → Prop) → Prop}
theorem NOk.units65 {X : Cx} {n : Nm} {c : Cc} (h : NOk X n c) : X.A.units + 65 < cLine := by have := h.room.un; omega
end
/-! ### what the law finds -/
def KA.k0 (a : KA) : KS := ⟨a.first, a.y, 1, 0, a.err, none⟩
def KA.over (a : KA) (gap : Rat) : Bool := match a.step with
  | some d => decide (d < gap)
  | none => false
def KA.pace (a : KA) (gap : Rat) : Rat := if gap = 0 then 1 else 1 + (if 0 < gap then a.slew else 0 - a.slew)
structure Turn where
  k : KS
  aim : Option Rat
  j : Bool
abbrev Turn.D (t : Turn) : DL.D := .tup [t.k.D, oD t.aim, .bl t.j]
def KA.go (a : KA) (raw now lo hi : Rat) : Turn :=
  if a.over ((lo + hi) * fr 1 2 - now) = true then ⟨⟨raw, (lo + hi) * fr 1 2, 1, 0, (lo + hi) * fr 1 2 - lo, some ((lo + hi) * fr 1 2 - lo)⟩, some ((lo + hi) * fr 1 2), true⟩
  else ⟨⟨raw, now, a.pace ((lo + hi) * fr 1 2 - now), absQ ((lo + hi) * fr 1 2 - now) / a.slew, absQ ((lo + hi) * fr 1 2 - now) + ((lo + hi) * fr 1 2 - lo), some ((lo + hi) * fr 1 2 - lo)⟩, some ((lo + hi) * fr 1 2), false⟩
def turnQ (a : KA) (k : KS) (raw : Rat) (sp : Option Spn) : Turn := match sp with
  | some (some lo, some hi) => a.go raw (k.now raw) (closeQ lo hi (k.now raw) (k.bnd a.slew a.drift raw)).1 (closeQ lo hi (k.now raw) (k.bnd a.slew a.drift raw)).2
  | _ => ⟨⟨raw, k.now raw, 1, 0, k.bnd a.slew a.drift raw, none⟩, none, false⟩
theorem turn_opn {a : KA} {k : KS} {raw : Rat} {sp : Option Spn} (h : opnB sp = true) : turnQ a k raw sp = ⟨⟨raw, k.now raw, 1, 0, k.bnd a.slew a.drift raw, none⟩, none, false⟩ := by
  unfold turnQ
  split
  · cases h
  · rfl
structure TurnZ (a : KA) (k : KS) (raw : Rat) (sp : Option Spn) : Prop where
  za : a.sz
  zk : k.sz
  zr : Sz 60 raw
  zn : Sz 40 (k.now raw)
  zb : Sz 40 (k.bnd a.slew a.drift raw)
  b0 : 0 ≤ k.bnd a.slew a.drift raw
  s0 : 0 < a.slew
  zc : ∀ lo hi, sp = some (some lo, some hi) → lo ≤ hi ∧ Sz 80 lo ∧ Sz 80 hi
def dueQ (a : KA) (k : KS) (j : Bool) : List Pc :=
  if j = false ∧ k.len = 0 then [(a.first, a.y, 1)]
  else (if k.at_ = a.first then [] else [(a.first, a.y, 1)]) ++ [(k.at_, k.y, k.r)] ++ (if j = true then [] else [(k.at_ + k.len, k.now (k.at_ + k.len), 1)])
/-! ### the plain law -/
theorem num_pos_iff {q : Rat} : 0 < q.num ↔ 0 < q := by
  have h := neg_num (q := -q)
  rw [Rat.neg_num] at h
  constructor
  · intro z
    have := h.mp (by omega)
    grind
  · intro z
    have := h.mpr (by grind)
    omega
theorem now_atQ {cs : List Pc} {p0 : Pc} {t : Rat} (ha : Asc cs) (h0 : cs[0]? = some p0) (h : ¬ t < p0.1) : nowQ cs t = some (atQ cs t) := by
  obtain ⟨p, hp, h1, h2⟩ := place_at ha h0 (by grind : p0.1 ≤ t)
  rw [now_at ha hp h1 h2]
  unfold atQ
  rw [hp]
theorem k0_now {a : KA} {raw : Rat} (h : ¬ raw < a.first) : a.k0.now raw = a.y + (raw - a.first) := by
  unfold KS.now KA.k0
  have : ¬ raw - a.first < 0 := by grind
  simp only
  rw [if_neg this]
  grind
theorem st_at {a : KA} {raw : Rat} : atQ a.st.ps raw = a.y + (raw - a.first) := by
  show pline (a.first, a.y, 1) raw = _
  unfold pline
  grind
theorem beh_same {b l s d : Rat} (h : 0 ≤ l) (hs : 0 < s) : behQ b b l s d = d * l + b := by
  unfold behQ maxQ
  have := Rat.mul_nonneg (Rat.le_of_lt hs) h
  by_cases e : b - s * l < b
  · rw [if_pos e]
  · rw [if_neg e]; grind
theorem st_err {a : KA} {raw : Rat} (h : ¬ raw < a.first) (hs : 0 < a.slew) : a.st.err raw = a.k0.bnd a.slew a.drift raw := by
  show behQ a.err a.err (raw - a.first) a.slew a.drift = _
  rw [beh_same (by grind) hs]
  unfold KS.bnd KA.k0
  grind
theorem k0_bnd {a : KA} {raw : Rat} : a.k0.bnd a.slew a.drift raw = a.err + a.drift * (raw - a.first) := rfl
theorem close_le {lo hi x b : Rat} (h : lo ≤ hi) : (closeQ lo hi x b).1 ≤ (closeQ lo hi x b).2 := by
  unfold closeQ
  split
  · exact h
  · simp only; grind
theorem half_eq (lo hi : Rat) : (hi - lo) / fr 2 1 = (lo + hi) * fr 1 2 - lo := by
  have e1 : fr 2 1 = 2 := by decide +kernel
  have e2 : fr 1 2 = 1 / 2 := by decide +kernel
  rw [e1, e2]; grind
theorem far_eq {lo hi x : Rat} (h : lo ≤ hi) : farQ lo hi x = absQ ((lo + hi) * fr 1 2 - x) + ((lo + hi) * fr 1 2 - lo) := by
  have e2 : fr 1 2 = 1 / 2 := by decide +kernel
  rw [e2]
  unfold farQ maxQ absQ
  grind
theorem len_zero {g s : Rat} (hs : 0 < s) : absQ g / s = 0 ↔ g = 0 := by
  constructor
  · intro h
    have : absQ g = 0 := by
      have e : absQ g = absQ g / s * s := by grind
      rw [e, h]; grind
    unfold absQ at this
    grind
  · intro h
    rw [h]
    have : absQ 0 = 0 := by decide +kernel
    rw [this]; grind
theorem tidy_1 (p : Pc) : tidyQ [p] = [p] := rfl
theorem tidy_2 (p q : Pc) : tidyQ [p, q] = p :: (tF (p, q)).toList := by
  show [p] ++ [(p, q)].filterMap tF = _
  cases h : tF (p, q) <;> simp [h]
theorem tidy_3 (p q r : Pc) : tidyQ [p, q, r] = p :: ((tF (p, q)).toList ++ (tF (q, r)).toList) := by
  show [p] ++ [(p, q), (q, r)].filterMap tF = _
  cases h : tF (p, q) <;> cases h2 : tF (q, r) <;> simp [h, h2]
theorem tF_rate {p q : Pc} (h : q.2.2 ≠ p.2.2) : tF (p, q) = some q := by
  unfold tF; rw [if_neg (fun z => h z.1)]
theorem tF_jmp {p q : Pc} (h : jmp p q ≠ 0) : tF (p, q) = some q := by
  unfold tF; rw [if_neg (fun z => h z.2)]
theorem tF_no {p q : Pc} (h : q.2.2 = p.2.2) (h2 : jmp p q = 0) : tF (p, q) = none := by
  unfold tF; rw [if_pos ⟨h, h2⟩]
theorem flt_st (a : KA) (raw : Rat) : a.st.ps.filter (fun p => decide (p.1 < raw)) = if a.first < raw then [(a.first, a.y, 1)] else [] := by
  show [(a.first, a.y, (1 : Rat))].filter _ = _
  by_cases h : a.first < raw <;> simp [h]
/-- what the plan leads to, tidied behind the beginning -/
theorem tidy_still {a : KA} {raw : Rat} (h : ¬ raw < a.first) : tidyQ (a.st.ps.filter (fun p => decide (p.1 < raw)) ++ [(raw, a.y + (raw - a.first), 1)]) = [(a.first, a.y, 1)] := by
  rw [flt_st]
  by_cases e : a.first < raw
  · rw [if_pos e]
    show tidyQ [_, _] = _
    rw [tidy_2, tF_no (p := (a.first, a.y, 1)) (q := (raw, a.y + (raw - a.first), 1)) rfl (by unfold jmp pline; grind)]
    rfl
  · rw [if_neg e]
    have : raw = a.first := by grind
    subst this
    show tidyQ [_] = _
    rw [tidy_1]
    have : a.y + (a.first - a.first) = a.y := by grind
    rw [this]
theorem tidy_jump {a : KA} {raw y : Rat} (h : ¬ raw < a.first) (hy : y ≠ a.y + (raw - a.first)) : tidyQ (a.st.ps.filter (fun p => decide (p.1 < raw)) ++ [(raw, y, 1)]) = (if raw = a.first then [] else [(a.first, a.y, 1)]) ++ [(raw, y, 1)] := by
  rw [flt_st]
  by_cases e : a.first < raw
  · rw [if_pos e, if_neg (by grind)]
    show tidyQ [_, _] = _
    rw [tidy_2, tF_jmp (by unfold jmp pline; grind)]
    rfl
  · rw [if_neg e, if_pos (by grind)]
    rfl
theorem tidy_turn {a : KA} {raw r w z : Rat} (h : ¬ raw < a.first) (hr : r ≠ 1) : tidyQ (a.st.ps.filter (fun p => decide (p.1 < raw)) ++ [(raw, a.y + (raw - a.first), r), (w, z, 1)]) = (if raw = a.first then [] else [(a.first, a.y, 1)]) ++ [(raw, a.y + (raw - a.first), r)] ++ [(w, z, 1)] := by
  rw [flt_st]
  by_cases e : a.first < raw
  · rw [if_pos e, if_neg (by grind)]
    show tidyQ [_, _, _] = _
    rw [tidy_3, tF_rate (by simpa using hr), tF_rate (by simpa using Ne.symm hr)]
    rfl
  · rw [if_neg e, if_pos (by grind)]
    show tidyQ [_, _] = _
    rw [tidy_2, tF_rate (by simpa using Ne.symm hr)]
    rfl
theorem turn_end {w aim slew : Rat} (s0 : 0 < slew) : w + rateQ w aim slew * (absQ (aim - w) / slew) = aim + absQ (aim - w) / slew := by
  have e1 : slew * (absQ (aim - w) / slew) = absQ (aim - w) := by grind
  generalize absQ (aim - w) / slew = L at *
  unfold rateQ
  unfold absQ at e1
  split <;> grind
/-- what is asked of a call of steer behind the beginning -/
structure Go (a : KA) (raw : Rat) (sp : Option Spn) : Prop where
  r0 : ¬ raw < a.first
  s0 : 0 < a.slew
  d0 : ¬ a.drift < 0
  o0 : ∀ d, a.step = some d → ¬ d < 0
  c0 : ∀ lo hi, sp = some (some lo, some hi) → lo ≤ hi
structure Steered (a : KA) (raw : Rat) (s : StQ) (t : Turn) : Prop where
  ps : s.ps = dueQ a t.k t.j
  at1 : s.at_ = raw
  at2 : t.k.at_ = raw
  aim : s.aim = t.aim
  er : ∀ x, ¬ x < raw → s.err x = t.k.bnd a.slew a.drift x
  sl : s.slew = a.slew
  dr : s.drift = a.drift
  st : s.step = a.step
  le : 0 ≤ t.k.len
  bd : s.bound = t.k.b
  hf : s.half = t.k.h.getD t.k.b
theorem steered_idle {a : KA} {raw : Rat} {sp : Option Spn} (g : Go a raw sp) (h : opnB sp = true) : Steered a raw (a.st.after raw sp) (turnQ a a.k0 raw sp) := by
  rw [(opn_after h).1, turn_opn h]
  refine ⟨?_, rfl, rfl, rfl, fun x hx => ?_, rfl, rfl, rfl, Rat.le_refl, st_err g.r0 g.s0, st_err g.r0 g.s0⟩
  · show tidyQ (a.st.ps.filter (fun p => decide (p.1 < raw)) ++ [(raw, atQ a.st.ps raw, 1)]) = _
    rw [st_at, tidy_still g.r0]
    unfold dueQ
    rw [if_pos ⟨rfl, rfl⟩]
  · show behQ (a.st.err raw) (a.st.err raw) (x - raw) a.slew a.drift = a.k0.bnd a.slew a.drift raw + a.drift * (x - raw)
    rw [beh_same (by grind) g.s0, st_err g.r0 g.s0]
    grind
theorem steered {a : KA} {raw : Rat} {sp : Option Spn} (g : Go a raw sp) : Steered a raw (a.st.after raw sp) (turnQ a a.k0 raw sp) := by
  by_cases ho : opnB sp = true
  · exact steered_idle g ho
  obtain ⟨lo, hi, rfl⟩ := opn_no (by simpa using ho)
  have hle := g.c0 lo hi rfl
  have en := k0_now g.r0
  have eb := st_err g.r0 g.s0
  have ea : a.st.after raw (some (some lo, some hi)) = a.st.goto raw (closeQ lo hi (atQ a.st.ps raw) (a.st.err raw)).1 (closeQ lo hi (atQ a.st.ps raw) (a.st.err raw)).2 := rfl
  have et : turnQ a a.k0 raw (some (some lo, some hi)) = a.go raw (a.k0.now raw) (closeQ lo hi (a.k0.now raw) (a.k0.bnd a.slew a.drift raw)).1 (closeQ lo hi (a.k0.now raw) (a.k0.bnd a.slew a.drift raw)).2 := rfl
  rw [ea, et, st_at, en, eb]
  have cl := close_le (x := a.y + (raw - a.first)) (b := a.k0.bnd a.slew a.drift raw) hle
  generalize (closeQ lo hi (a.y + (raw - a.first)) (a.k0.bnd a.slew a.drift raw)).1 = f1 at *
  generalize (closeQ lo hi (a.y + (raw - a.first)) (a.k0.bnd a.slew a.drift raw)).2 = f2 at *
  have hh := half_eq f1 f2
  have hf := far_eq (x := a.y + (raw - a.first)) cl
  have ej : ∀ x y, a.st.jumps x y = a.over (y - x) := fun x y => rfl
  unfold StQ.goto StQ.plan KA.go
  rw [st_at, ej, hh, hf]
  generalize (f1 + f2) * fr 1 2 = aim at *
  by_cases hj : a.over (aim - (a.y + (raw - a.first))) = true
  · rw [if_pos hj, if_pos hj, if_pos hj]
    have hne : aim ≠ a.y + (raw - a.first) := by
      unfold KA.over at hj
      split at hj
      · rename_i d hd
        have := g.o0 d hd
        have := of_decide_eq_true hj
        grind
      · cases hj
    refine ⟨?_, rfl, rfl, rfl, fun x hx => ?_, rfl, rfl, rfl, Rat.le_refl, rfl, rfl⟩
    · show tidyQ (a.st.ps.filter (fun p => decide (p.1 < raw)) ++ [(raw, aim, 1)]) = _
      rw [tidy_jump g.r0 hne]
      show _ = dueQ a ⟨raw, aim, 1, 0, aim - f1, some (aim - f1)⟩ true
      unfold dueQ
      rw [if_neg (show ¬ ((true = false) ∧ (0 : Rat) = 0) from fun z => by cases z.1), if_pos (rfl : true = true), List.append_nil]
    · show behQ (aim - f1) (aim - f1) (x - raw) a.slew a.drift = _
      rfl
  · rw [if_neg hj, if_neg hj, if_neg hj]
    have hlen : 0 ≤ absQ (aim - (a.y + (raw - a.first))) / a.slew := by
      rw [Rat.div_def]
      exact Rat.mul_nonneg (absQ_nn _) (Rat.le_of_lt (Rat.inv_pos.mpr g.s0))
    refine ⟨?_, rfl, rfl, rfl, fun x hx => rfl, rfl, rfl, rfl, hlen, rfl, rfl⟩
    show tidyQ (a.st.ps.filter (fun p => decide (p.1 < raw)) ++ towardsQ raw (a.y + (raw - a.first)) aim a.slew) = _
    unfold towardsQ dueQ
    by_cases h0 : aim = a.y + (raw - a.first)
    · rw [if_pos h0, tidy_still g.r0, if_pos ⟨rfl, (len_zero g.s0).mpr (by grind)⟩]
    · have hl0 : ¬ (false = false ∧ absQ (aim - (a.y + (raw - a.first))) / a.slew = 0) := fun z => h0 (by have := (len_zero g.s0).mp z.2; grind)
      rw [if_neg h0, if_neg hl0, if_neg (by decide : ¬ (false = true))]
      have er : a.pace (aim - (a.y + (raw - a.first))) = rateQ (a.y + (raw - a.first)) aim a.slew := by
        unfold KA.pace rateQ
        rw [if_neg (by grind)]
        by_cases q : a.y + (raw - a.first) < aim
        · rw [if_pos q, if_pos (by grind)]
        · rw [if_neg q, if_neg (by grind)]; grind
      have hr : rateQ (a.y + (raw - a.first)) aim a.slew ≠ 1 := by
        have := g.s0
        unfold rateQ; split <;> grind
      rw [tidy_turn g.r0 hr, er]
      unfold lenQ
      have ex := turn_end (w := a.y + (raw - a.first)) (aim := aim) g.s0
      have ey : KS.now ⟨raw, a.y + (raw - a.first), rateQ (a.y + (raw - a.first)) aim a.slew, absQ (aim - (a.y + (raw - a.first))) / a.slew, absQ (aim - (a.y + (raw - a.first))) + (aim - f1), some (aim - f1)⟩ (raw + absQ (aim - (a.y + (raw - a.first))) / a.slew) = aim + absQ (aim - (a.y + (raw - a.first))) / a.slew := by
        rw [← ex]
        unfold KS.now
        simp only
        generalize absQ (aim - (a.y + (raw - a.first))) / a.slew = L at *
        have eL : raw + L - raw = L := by grind
        rw [eL, if_neg (by grind)]
        grind
      rw [ey]
/-! ### sizes -/
/-- a span that is drawn -/
def SpanP (sp : Option Spn) : Prop := ∀ s, sp = some s → SzS 80 s ∧ ∀ lo hi, s = (some lo, some hi) → lo ≤ hi
structure BegZ (a : KA) : Prop where
  zf : Sz 7 a.first
  zy : Sz 14 a.y
  ze : Sz 6 a.err
  e0 : ¬ a.err < 0
  zs : Sz 6 a.slew
  zi : Sz 48 a.slew⁻¹
  zd : Sz 12 a.drift
  gs : GoodS a.slew a.drift
  zo : SzO 300 a.step
  o0 : GoodO a.step
theorem BegZ.sz {a : KA} (h : BegZ a) : a.sz := ⟨h.zf.mono (by decide), h.zy.mono (by decide), h.ze.mono (by decide), h.zs.mono (by decide), h.zd.mono (by decide), h.zo⟩
theorem BegZ.good {a : KA} (h : BegZ a) : a.good := ⟨h.e0, h.gs, h.o0⟩
theorem BegZ.s0 {a : KA} (h : BegZ a) : 0 < a.slew := h.gs.1
/-- .. steered at raw -/
structure RawZ (a : KA) (raw : Rat) : Prop where
  b : BegZ a
  p : ∃ p, PSpare p ∧ raw = a.first + p
theorem RawZ.ge {a : KA} {raw : Rat} (h : RawZ a raw) : ¬ raw < a.first := by
  obtain ⟨p, hp, e⟩ := h.p
  have := hp.2
  grind
theorem RawZ.zr {a : KA} {raw : Rat} (h : RawZ a raw) : Sz 14 raw := by
  obtain ⟨p, hp, e⟩ := h.p
  rw [e]; exact (h.b.zf.add (szSpare hp)).mono (by decide)
theorem RawZ.zn {a : KA} {raw : Rat} (h : RawZ a raw) : Sz 21 (a.k0.now raw) := by
  rw [k0_now h.ge]
  obtain ⟨p, hp, e⟩ := h.p
  have : raw - a.first = p := by grind
  rw [this]
  exact (h.b.zy.add (szSpare hp)).mono (by decide)
theorem RawZ.zb {a : KA} {raw : Rat} (h : RawZ a raw) : Sz 25 (a.k0.bnd a.slew a.drift raw) := by
  rw [k0_bnd]
  obtain ⟨p, hp, e⟩ := h.p
  have : raw - a.first = p := by grind
  rw [this]
  exact (h.b.ze.add (h.b.zd.mul (szSpare hp))).mono (by decide)
theorem RawZ.b0 {a : KA} {raw : Rat} (h : RawZ a raw) : 0 ≤ a.k0.bnd a.slew a.drift raw := by
  rw [k0_bnd]
  have h1 := h.ge
  have h2 := h.b.e0
  have h3 := h.b.gs.2.2.1
  have := Rat.mul_nonneg (show 0 ≤ a.drift by grind) (show 0 ≤ raw - a.first by grind)
  grind
theorem k0_sz {a : KA} (h : BegZ a) : a.k0.sz := ⟨h.zf.mono (by decide), h.zy.mono (by decide), ones_sz.mono (by decide), (sz_zero (k := 0)).mono (by decide), h.ze.mono (by decide), fun q z => by cases z⟩
theorem RawZ.turn {a : KA} {raw : Rat} (h : RawZ a raw) {sp : Option Spn} (hs : SpanP sp) : TurnZ a a.k0 raw sp :=
  ⟨h.b.sz, k0_sz h.b, h.zr.mono (by decide), h.zn.mono (by decide), h.zb.mono (by decide), h.b0, h.b.s0, fun lo hi e => by
    obtain ⟨h1, h2⟩ := hs _ e
    exact ⟨h2 lo hi rfl, h1.1 lo rfl, h1.2 hi rfl⟩⟩
theorem RawZ.go {a : KA} {raw : Rat} (h : RawZ a raw) {sp : Option Spn} (hs : SpanP sp) : Go a raw sp :=
  ⟨h.ge, h.b.s0, h.b.gs.2.2.1, h.b.o0, fun lo hi e => (hs _ e).2 lo hi rfl⟩
end DL

end
section
set_option Elab.async false
set_option linter.all false
set_option autoImplicit true
set_option maxRecDepth 100000
set_option maxHeartbeats 400000
/-! steering, call after call: fractions on a grid, the law's state and the program's -/
namespace DL
open PySem L2
open PyProof.Rows hiding St
/-! ### fractions on a grid, within a bound -/
structure La (N : Nat) (m q : Rat) : Prop where
  n0 : N ≠ 0
  d : q.den ∣ N
  lo : -m ≤ q
  hi : q ≤ m
theorem La.m0 {N : Nat} {m q : Rat} (h : La N m q) : 0 ≤ m := by have := h.lo; have := h.hi; grind
theorem La.mono {N M : Nat} {m m' q : Rat} (h : La N m q) (e : N ∣ M) (n : M ≠ 0) (k : m ≤ m') : La M m' q := ⟨n, Nat.dvd_trans h.d e, by have := h.lo; grind, by have := h.hi; grind⟩
theorem La.up {N : Nat} {m m' q : Rat} (h : La N m q) (k : m ≤ m') : La N m' q := h.mono (Nat.dvd_refl _) h.n0 k
theorem La.add {N : Nat} {m m' a b : Rat} (h : La N m a) (h' : La N m' b) : La N (m + m') (a + b) :=
  ⟨h.n0, add_den h.d h'.d h.n0, by have := h.lo; have := h'.lo; grind, by have := h.hi; have := h'.hi; grind⟩
theorem La.neg {N : Nat} {m a : Rat} (h : La N m a) : La N m (-a) := ⟨h.n0, by simpa using h.d, by have := h.hi; grind, by have := h.lo; grind⟩
theorem La.sub {N : Nat} {m m' a b : Rat} (h : La N m a) (h' : La N m' b) : La N (m + m') (a - b) := by
  rw [Rat.sub_eq_add_neg]; exact h.add h'.neg
theorem La.abs {N : Nat} {m a : Rat} (h : La N m a) : La N m (absQ a) := by
  unfold absQ; split; exact h.neg; exact h
theorem La.max {N : Nat} {m a b : Rat} (h : La N m a) (h' : La N m b) : La N m (maxQ a b) := by unfold maxQ; split <;> assumption
theorem La.min {N : Nat} {m a b : Rat} (h : La N m a) (h' : La N m b) : La N m (minQ a b) := by unfold minQ; split <;> assumption
theorem La.mul {N M : Nat} {m m' a b : Rat} (h : La N m a) (h' : La M m' b) : La (N * M) (m * m') (a * b) := by
  have h1 := h.lo
  have h2 := h.hi
  have h3 := h'.lo
  have h4 := h'.hi
  refine ⟨Nat.mul_ne_zero h.n0 h'.n0, ?_, ?_, ?_⟩
  · rw [Rat.den_mul]
    exact Nat.dvd_trans (Nat.div_dvd_of_dvd (Nat.gcd_dvd_right ..)) (Nat.mul_dvd_mul h.d h'.d)
  · have x1 := Rat.mul_nonneg (show 0 ≤ m + a by grind) (show 0 ≤ m' + b by grind)
    have x2 := Rat.mul_nonneg (show 0 ≤ m - a by grind) (show 0 ≤ m' - b by grind)
    grind
  · have x1 := Rat.mul_nonneg (show 0 ≤ m + a by grind) (show 0 ≤ m' - b by grind)
    have x2 := Rat.mul_nonneg (show 0 ≤ m - a by grind) (show 0 ≤ m' + b by grind)
    grind
theorem La.half {N : Nat} {m a : Rat} (h : La N m a) : La (2 * N) m (a * fr 1 2) := by
  have e : La 2 1 (fr 1 2) := ⟨by decide, by decide +kernel, by decide +kernel, by decide +kernel⟩
  have := h.mul e
  rw [Nat.mul_comm N 2] at this
  exact this.up (by grind)
theorem num_le {q : Rat} {m : Rat} {k : Nat} (h1 : -m ≤ q) (h2 : q ≤ m) (hk : m * (q.den : Rat) < ((2 ^ k : Nat) : Rat)) : q.num.natAbs < 2 ^ k := by
  have d0 : 0 ≤ (q.den : Rat) := by exact_mod_cast Nat.zero_le q.den
  have e : q * (q.den : Rat) = (q.num : Rat) := by
    have hd : ((q.den : Int)) ≠ 0 := by have := q.den_nz; omega
    have h1 := Rat.divInt_mul_divInt q.num (q.den : Int) (d₁ := (q.den : Int)) (d₂ := 1)
    have h2 : fr (q.den : Int) 1 = ((q.den : Int) : Rat) := fr_one _
    have h3 : fr q.num 1 = ((q.num : Int) : Rat) := fr_one _
    rw [← natI, ← h2, ← h3]
    have h4 := Rat.divInt_mul_right (n := q.num) (d := 1) hd
    rw [Int.mul_comm 1] at h4
    unfold fr
    rw [← h4, ← h1, Rat.num_divInt_den]
  have u1 := Rat.mul_nonneg (show 0 ≤ m - q by grind) d0
  have u2 := Rat.mul_nonneg (show 0 ≤ m + q by grind) d0
  have v1 : (q.num : Rat) < (((2 ^ k : Nat) : Int) : Rat) := by rw [natI]; grind
  have v2 : ((-q.num : Int) : Rat) < (((2 ^ k : Nat) : Int) : Rat) := by rw [natI, Rat.intCast_neg]; grind
  have w1 := Rat.intCast_lt_intCast.mp v1
  have w2 := Rat.intCast_lt_intCast.mp v2
  omega
theorem La.sz {N j : Nat} {m q : Rat} (h : La N m q) (hN : N < 2 ^ j) (hm : m ≤ ((2 ^ (7 * j) : Nat) : Rat)) : Sz j q := by
  have dl : q.den ≤ N := Nat.le_of_dvd (Nat.pos_of_ne_zero h.n0) h.d
  refine ⟨?_, by omega⟩
  show q.num.natAbs < 2 ^ (8 * j)
  refine num_le h.lo h.hi ?_
  have e : (2 ^ (8 * j) : Nat) = 2 ^ (7 * j) * 2 ^ j := by rw [← Nat.pow_add]; congr 1; omega
  have e2 : ((2 ^ (8 * j) : Nat) : Rat) = ((2 ^ (7 * j) : Nat) : Rat) * ((2 ^ j : Nat) : Rat) := by rw [e, Rat.natCast_mul]
  have a1 : (q.den : Rat) < ((2 ^ j : Nat) : Rat) := by
    rw [← natI, ← natI]
    exact Rat.intCast_lt_intCast.mpr (by omega)
  have a2 : (0 : Rat) < ((2 ^ (7 * j) : Nat) : Rat) := by
    rw [← natI]
    exact Rat.intCast_lt_intCast.mpr (by have := Nat.pow_pos (n := 7 * j) (show 0 < 2 by decide); show (0 : Int) < ((2 ^ (7 * j) : Nat) : Int); omega)
  have d0 : 0 ≤ (q.den : Rat) := by rw [← natI]; exact Rat.intCast_nonneg.mpr (by omega)
  have x1 := Rat.mul_nonneg (show 0 ≤ ((2 ^ (7 * j) : Nat) : Rat) - m by grind) d0
  have x2 := Rat.mul_pos a2 (show 0 < ((2 ^ j : Nat) : Rat) - (q.den : Rat) by grind)
  rw [e2]
  grind
/-! ### the program's steering and the law's state -/
structure Ag (a : KA) (s : StQ) (k : KS) : Prop where
  asc : Asc s.ps
  p0 : ∃ p, s.ps[0]? = some p ∧ p.1 = a.first
  ff : ¬ s.at_ < a.first
  at_ : k.at_ = s.at_
  sh : ∀ t, ¬ t < s.at_ → nowQ s.ps t = some (k.now t)
  er : ∀ t, ¬ t < s.at_ → s.err t = k.bnd a.slew a.drift t
  sl : s.slew = a.slew
  dr : s.drift = a.drift
  st : s.step = a.step
  ti : tidyQ s.ps = s.ps
  le : 0 ≤ k.len
structure GoG (a : KA) (sp : Option Spn) : Prop where
  s0 : 0 < a.slew
  o0 : ∀ d, a.step = some d → ¬ d < 0
  c0 : ∀ lo hi, sp = some (some lo, some hi) → lo ≤ hi
theorem Ag.ne {a : KA} {s : StQ} {k : KS} (A : Ag a s k) : s.ps ≠ [] := by
  obtain ⟨p, hp, _⟩ := A.p0
  intro z; rw [z] at hp; cases hp
theorem Ag.p1 {a : KA} {s : StQ} {k : KS} (A : Ag a s k) {t : Rat} (h : ¬ t < a.first) : ∃ p, s.ps[0]? = some p ∧ ¬ t < p.1 := by
  obtain ⟨p, hp, e⟩ := A.p0
  exact ⟨p, hp, by rw [e]; exact h⟩
theorem Ag.at1 {a : KA} {s : StQ} {k : KS} (A : Ag a s k) {t : Rat} (h : ¬ t < a.first) : nowQ s.ps t = some (atQ s.ps t) := by
  obtain ⟨p, hp, q⟩ := A.p1 h
  exact now_atQ A.asc hp q
theorem Ag.atK {a : KA} {s : StQ} {k : KS} (A : Ag a s k) {t : Rat} (h : ¬ t < s.at_) : atQ s.ps t = k.now t := by
  have h1 := A.at1 (t := t) (by have := A.ff; grind)
  rw [A.sh t h] at h1
  exact (Option.some.inj h1).symm
theorem now_app1 {kp pl : List Pc} {t : Rat} (h : pl.filter (past t) ≠ []) : nowQ (kp ++ pl) t = nowQ pl t := by
  unfold nowQ
  rw [List.filter_append, List.getLast?_append]
  cases e : (pl.filter (past t)).getLast? with
  | none => exact absurd (List.getLast?_eq_none_iff.mp e) h
  | some p => rfl
theorem now_app0 {kp pl : List Pc} {t : Rat} (h : pl.filter (past t) = []) : nowQ (kp ++ pl) t = nowQ kp t := by
  unfold nowQ
  rw [List.filter_append, h, List.append_nil]
theorem now_kept {c : List Pc} {raw t : Rat} (h : t < raw) : nowQ (c.filter (fun p => decide (p.1 < raw))) t = nowQ c t := by
  unfold nowQ
  rw [List.filter_filter]
  congr 3
  funext p
  unfold past
  by_cases q : t < p.1
  · simp [q]
  · have : p.1 < raw := by grind
    simp [q, this]
/-- what is planned from raw on -/
structure PlanOk (P : List Pc) (raw : Rat) (k : KS) : Prop where
  hd : ∃ p, P[0]? = some p ∧ p.1 = raw
  ge : ∀ p ∈ P, ¬ p.1 < raw
  asc : Asc P
  now : ∀ x, ¬ x < raw → nowQ P x = some (k.now x)
theorem PlanOk.past {P : List Pc} {raw x : Rat} {k : KS} (h : PlanOk P raw k) (q : ¬ x < raw) : P.filter (DL.past x) ≠ [] := by
  intro z
  have := h.now x q
  unfold nowQ at this
  rw [z] at this
  cases this
theorem asc_flt {c : List Pc} {f : Pc → Bool} (h : Asc c) : Asc (c.filter f) := List.Pairwise.sublist List.filter_sublist h
/-! ### on the grid -/
/-- behind a call of steer -/
structure TL (a : KA) (N : Nat) (m : Rat) (u : Nat) (raw : Rat) (t : Turn) : Prop where
  y : La (2 * N) (2 * m) t.k.y
  aim : ∀ q, t.aim = some q → La (2 * N) (2 * m) q
  b : La (2 * N) (7 * m) t.k.b
  h : ∀ q, t.k.h = some q → La (2 * N) (4 * m) q
  len : La (2 * N * u) (192 * m) t.k.len
  z : ∃ z, La (2 * N) (2 * m) z ∧ ∀ x, 0 ≤ x → t.k.now (raw + x) = if x < t.k.len then t.k.y + t.k.r * x else z + x
  r : t.k.r = 1 ∨ t.k.r = 1 + a.slew ∨ t.k.r = 1 - a.slew
/-! ### what the defs ask of sizes -/
structure BigZ (N u : Nat) (m : Rat) : Prop where
  n : 2 * N * u < 2 ^ 280
  m : 200 * m ≤ ((2 ^ (7 * 280) : Nat) : Rat)
theorem BigZ.sz {N u : Nat} {m : Rat} (h : BigZ N u m) (m0 : 0 ≤ m) (u0 : u ≠ 0) {q : Rat} (hq : La (2 * N * u) (200 * m) q) : Sz 300 q := (hq.sz h.n h.m).mono (by decide)
theorem BigZ.s2 {N u : Nat} {m c : Rat} (h : BigZ N u m) (m0 : 0 ≤ m) (u0 : u ≠ 0) {q : Rat} (hq : La (2 * N) (c * m) q) (hc : c ≤ 200 := by decide +kernel) : Sz 300 q :=
  h.sz m0 u0 (hq.mono (Nat.dvd_mul_right _ _) (Nat.mul_ne_zero hq.n0 u0) (by have := Rat.mul_nonneg (show 0 ≤ 200 - c by grind) m0; grind))
theorem BigZ.s1 {N u : Nat} {m : Rat} (h : BigZ N u m) (m0 : 0 ≤ m) (u0 : u ≠ 0) {q : Rat} (hq : La N m q) : Sz 300 q :=
  h.s2 (c := 1) m0 u0 (hq.mono (Nat.dvd_mul_left _ _) (by have := hq.n0; omega) (by grind))
/-- sizes of slew, drift, step -/
structure SdZ (a : KA) : Prop where
  zs : Sz 6 a.slew
  zi : Sz 60 a.slew⁻¹
  zd : Sz 60 a.drift
  zo : SzO 300 a.step
end DL

end
section
set_option Elab.async false
set_option linter.all false
set_option autoImplicit true
set_option maxRecDepth 100000
set_option maxHeartbeats 400000
/-! k79: steering comes in -/
namespace DL
open PySem L2
open PyProof.Rows hiding St
/-- a pair of numbers, not in lowest terms -/
def IsP (j : Nat) (x : DL.D) (q : Rat) : Prop := ∃ n d : Int, x = .tup [.int n, .int d] ∧ fr n d = q ∧ Bt (8 * j) n ∧ Bt j d
theorem Sz.q {j : Nat} {q : Rat} (h : Sz j q) : IsP j (qD q) q := ⟨q.num, (q.den : Int), rfl, Rat.num_divInt_den q, h.n, h.d⟩
/-! ### one lap -/
/-! ### the drawn case -/
theorem den_mulQ (q : Rat) : q * (q.den : Rat) = (q.num : Rat) := by
  have hd : ((q.den : Int)) ≠ 0 := by have := q.den_nz; omega
  have h1 := Rat.divInt_mul_divInt q.num (q.den : Int) (d₁ := (q.den : Int)) (d₂ := 1)
  have h2 : fr (q.den : Int) 1 = ((q.den : Int) : Rat) := fr_one _
  have h3 : fr q.num 1 = ((q.num : Int) : Rat) := fr_one _
  rw [← natI, ← h2, ← h3]
  have h4 := Rat.divInt_mul_right (n := q.num) (d := 1) hd
  rw [Int.mul_comm 1] at h4
  unfold fr
  rw [← h4, ← h1, Rat.num_divInt_den]
theorem den_ge1 (q : Rat) : (1 : Rat) ≤ (q.den : Rat) := by
  have h : (1 : Int) ≤ ((q.den : Nat) : Int) := by have := q.den_nz; omega
  have := Rat.intCast_le_intCast.mpr h
  rw [natI] at this
  exact this
theorem sd_la {N n : Nat} {q : Rat} (h : Sd N n q) (h0 : N ≠ 0) : La N ((2 ^ n : Nat) : Rat) q := by
  have e := den_mulQ q
  have d1 := den_ge1 q
  have b : q.num.natAbs < 2 ^ n := h.2
  have u1 : (q.num : Rat) ≤ ((2 ^ n : Nat) : Rat) := by
    rw [← natI]
    exact Rat.intCast_le_intCast.mpr (by omega)
  have u2 : -((2 ^ n : Nat) : Rat) ≤ (q.num : Rat) := by
    rw [← natI, ← Rat.intCast_neg]
    exact Rat.intCast_le_intCast.mpr (by omega)
  have z : (0 : Rat) ≤ ((2 ^ n : Nat) : Rat) := by rw [← natI]; exact Rat.intCast_nonneg.mpr (Int.natCast_nonneg _)
  refine ⟨h0, h.1, ?_, ?_⟩
  · by_cases q0 : 0 ≤ q
    · grind
    · have := Rat.mul_nonneg (show 0 ≤ -q by grind) (show 0 ≤ (q.den : Rat) - 1 by grind)
      grind
  · by_cases q0 : q ≤ 0
    · grind
    · have := Rat.mul_nonneg (show 0 ≤ q by grind) (show 0 ≤ (q.den : Rat) - 1 by grind)
      grind
theorem inv_la {s : Rat} (h : Sz 6 s) (s0 : 0 < s) : La s⁻¹.den 64 s⁻¹ := by
  have i0 : 0 < s⁻¹ := Rat.inv_pos.mpr s0
  refine ⟨s⁻¹.den_nz, Nat.dvd_refl _, by grind, ?_⟩
  have e := den_mulQ s
  have n1 : (1 : Rat) ≤ (s.num : Rat) := by
    have : (1 : Int) ≤ s.num := by have := num_pos_iff.mpr s0; omega
    exact Rat.intCast_le_intCast.mpr this
  have d64 : (s.den : Rat) ≤ 64 := by
    have h2 := h.2
    have : ((s.den : Nat) : Int) ≤ 64 := by omega
    have := Rat.intCast_le_intCast.mpr this
    rw [natI] at this
    exact this
  have m1 := Rat.mul_nonneg (Rat.le_of_lt s0) (show 0 ≤ 64 - (s.den : Rat) by grind)
  have m2 := Rat.mul_nonneg (Rat.le_of_lt i0) (show 0 ≤ s * 64 - 1 by grind)
  have m3 : s⁻¹ * s = 1 := Rat.inv_mul_cancel s (by grind)
  grind
def LA.N (c : LA) : Nat := 240 * (c.s.den * c.d.den)
structure K79 (c : LA) : Prop where
  sp : SlewP c.s c.d
  hl : PStep6 c.l
  hh : PSpare c.h
  b0 : ¬ c.b < 0
  lb : La c.N 268435456 c.b
  zb : Sz 60 c.b
abbrev m24 : Rat := 16777216
section
variable {c : LA} (h : K79 c)
include h
theorem K79.s0 : 0 < c.s := h.sp.1
theorem K79.s1 : c.s < 1 := h.sp.2.1
theorem K79.d0 : 0 ≤ c.d := h.sp.2.2.1
theorem K79.d1 : c.d < c.s := h.sp.2.2.2.1
theorem K79.N0 : c.N ≠ 0 := by unfold LA.N; exact Nat.mul_ne_zero (by decide) (Nat.mul_ne_zero c.s.den_nz c.d.den_nz)
theorem K79.l0 : 0 < c.l := h.hl.1.2
theorem K79.h0 : 0 ≤ c.h := by have := h.hh.2; grind
theorem K79.ls : La c.s.den 1 c.s := ⟨c.s.den_nz, Nat.dvd_refl _, by have := h.s0; grind, by have := h.s1; grind⟩
theorem K79.ld : La c.d.den 1 c.d := ⟨c.d.den_nz, Nat.dvd_refl _, by have := h.d0; grind, by have := h.d1; have := h.s1; grind⟩
theorem K79.ll : La 60 m24 c.l := sd_la h.hl.1.1 (by decide)
theorem K79.lh : La 60 m24 c.h := sd_la h.hh.1 (by decide)
theorem K79.up {M : Nat} {m q : Rat} (hq : La M m q) (k : Nat) (e : c.N = M * k) : La c.N m q := hq.mono ⟨k, e⟩ h.N0 Rat.le_refl
theorem K79.lhN : La c.N m24 c.h := h.up h.lh (4 * (c.s.den * c.d.den)) (by unfold LA.N; omega)
theorem K79.lsl : La c.N m24 (c.s * c.l) := (h.up (h.ls.mul h.ll) (4 * c.d.den) (by unfold LA.N; grind)).up (by grind)
theorem K79.ldl : La c.N m24 (c.d * c.l) := (h.up (h.ld.mul h.ll) (4 * c.s.den) (by unfold LA.N; grind)).up (by grind)
theorem K79.good : c.good := ⟨⟨h.b0, h.hh.2, h.l0⟩, h.sp.good⟩
theorem K79.lu : La c.s⁻¹.den 64 c.s⁻¹ := inv_la h.sp.2.2.2.2.2.1 h.s0
end
def bQ (c : LA) : Nat → Rat
  | 0 => c.b
  | n + 1 => behQ (bQ c n) c.h c.l c.s c.d
def mQ (n : Nat) : Rat := ((8 ^ n * 2 ^ 30 : Nat) : Rat)
theorem mQ_succ (n : Nat) : mQ (n + 1) = 8 * mQ n := by
  unfold mQ
  have : 8 ^ (n + 1) * 2 ^ 30 = 8 * (8 ^ n * 2 ^ 30) := by rw [Nat.pow_succ]; omega
  rw [this, Rat.natCast_mul]
  rfl
theorem mQ_ge : ∀ n, 1073741824 ≤ mQ n
  | 0 => by decide +kernel
  | n + 1 => by have := mQ_ge n; rw [mQ_succ]; grind
theorem mQ_le {n : Nat} (h : n ≤ 7) : mQ n ≤ mQ 7 := by
  have : ∀ k, mQ (7 - k) ≤ mQ 7 := fun k => by
    induction k with
    | zero => exact Rat.le_refl
    | succ k ih =>
      by_cases q : 7 ≤ k
      · have e : 7 - (k + 1) = 7 - k := by omega
        rw [e]; exact ih
      · have e : 7 - k = 7 - (k + 1) + 1 := by omega
        rw [e, mQ_succ] at ih
        have := mQ_ge (7 - (k + 1))
        grind
  have := this (7 - n)
  have e : 7 - (7 - n) = n := by omega
  rw [e] at this
  exact this
theorem bq_la {c : LA} (h : K79 c) : ∀ n, La c.N (mQ n) (bQ c n)
  | 0 => h.lb.up (by decide +kernel)
  | n + 1 => by
    have ih := bq_la h n
    have g := mQ_ge n
    have e := mQ_succ n
    show La c.N _ (c.d * c.l + maxQ (bQ c n - c.s * c.l) c.h)
    have h1 : La c.N (mQ n + m24) (bQ c n - c.s * c.l) := ih.sub h.lsl
    have h2 : La c.N (mQ n + m24) c.h := h.lhN.up (by grind)
    exact (h.ldl.add (h1.max h2)).up (by grind)
theorem N_lt {c : LA} (h : K79 c) : c.N < 2 ^ 26 := by
  have h1 : c.s.den < 2 ^ 6 := h.sp.2.2.2.2.2.1.2
  have h2 : c.d.den < 2 ^ 12 := h.sp.2.2.2.2.2.2.2
  have h3 : c.s.den * c.d.den ≤ 2 ^ 6 * 2 ^ 12 := Nat.mul_le_mul (by omega) (by omega)
  unfold LA.N
  omega
theorem la_300 {c : LA} (h : K79 c) {n : Nat} (hn : n ≤ 7) {q : Rat} (hq : La (2 ^ n * c.N) (mQ 7) q) : Sz 300 q := by
  have h1 := N_lt h
  have h3 : 2 ^ n ≤ 2 ^ 7 := Nat.pow_le_pow_right (by decide) hn
  have h4 : 2 ^ n * c.N ≤ 2 ^ 7 * 2 ^ 26 := Nat.mul_le_mul h3 (by omega)
  exact (hq.sz (j := 280) (Nat.lt_of_le_of_lt h4 (by decide)) (by decide +kernel)).mono (by decide)
/-- what the law makes a steering of -/
structure A79 (c : LA) (a : KA) : Prop where
  es : a.slew = c.s
  ed : a.drift = c.d
  ee : a.err = c.b
  pf : PPart a.first
  py : PPart a.y
  ov : OverP a.step
section
variable {c : LA} {a : KA} (h : K79 c) (g : A79 c a)
include h g
theorem A79.sdz : SdZ a := ⟨by rw [g.es]; exact h.sp.2.2.2.2.2.1, by rw [g.es]; have s0 := h.s0; exact (Sz.inv h.sp.2.2.2.2.2.1 (by grind)).mono (by decide), by rw [g.ed]; exact h.sp.2.2.2.2.2.2.mono (by decide), fun q e => (show Sz 6 q from Sd.sz (g.ov q e).1 (by decide) (show 60 < 2 ^ 6 by decide) (by decide)).mono (by decide)⟩
theorem A79.go {lo hi : Rat} (hl : lo ≤ hi) : GoG a (some (some lo, some hi)) := ⟨by rw [g.es]; exact h.s0, fun d e => (g.ov d e).2, fun a b e => by cases e; exact hl⟩
theorem A79.sz : a.sz := ⟨(szPart g.pf).mono (by decide), (szPart g.py).mono (by decide), by rw [g.ee]; exact h.zb.mono (by decide), (A79.sdz h g).zs.mono (by decide), (A79.sdz h g).zd, (A79.sdz h g).zo⟩
theorem A79.good : a.good := ⟨by rw [g.ee]; exact h.b0, by rw [g.es, g.ed]; exact h.sp.good, fun d e => (g.ov d e).2⟩
end
structure Lap (c : LA) (a : KA) (n : Nat) (raw T : Rat) (s : StQ) (k : KS) : Prop where
  ag : Ag a s k
  z : s.sz
  ln : s.ps.length ≤ 2 * n + 1
  ge : ¬ raw < s.at_
  tr : absQ (k.now raw - T) ≤ k.bnd a.slew a.drift raw
  bd : k.bnd a.slew a.drift raw ≤ bQ c n
  lr : La (2 ^ n * c.N) (mQ n) raw
  lt : La (2 ^ n * c.N) (mQ n - 268435456) T
  lw : La (2 ^ n * c.N) (mQ n) (k.now raw)
  lb : La (2 ^ n * c.N) (mQ n) (k.bnd a.slew a.drift raw)
/-- what _law_within asks of its values -/
structure WithinZ (s : StQ) (r T b : Rat) : Prop where
  z : s.sz
  zr : Sz 300 r
  zt : Sz 300 T
  zb : Sz 300 b
  ge : ¬ r < s.at_
  p0 : ∃ p, s.ps[0]? = some p ∧ ¬ r < p.1
  ze : Sz 300 (s.err r)
  zw : Sz 300 (atQ s.ps r)
  eb : s.err r ≤ b
  wt : absQ (atQ s.ps r - T) ≤ s.err r
theorem within_of {c : LA} {a : KA} {n : Nat} {r T b : Rat} {s : StQ} {k : KS} (h : K79 c) (hn : n ≤ 7) (A : Ag a s k) (z : s.sz) (ge : ¬ r < s.at_) (tr : absQ (k.now r - T) ≤ k.bnd a.slew a.drift r) (bd : k.bnd a.slew a.drift r ≤ b)
    (lr : La (2 ^ n * c.N) (mQ 7) r) (lt : La (2 ^ n * c.N) (mQ 7) T) (lw : La (2 ^ n * c.N) (mQ 7) (k.now r)) (lb : La (2 ^ n * c.N) (mQ 7) (k.bnd a.slew a.drift r)) (lm : La (2 ^ n * c.N) (mQ 7) b) : WithinZ s r T b := by
  have e1 := A.atK ge
  have e2 := A.er r ge
  exact ⟨z, la_300 h hn lr, la_300 h hn lt, la_300 h hn lm, ge, A.p1 (by have := A.ff; grind), by rw [e2]; exact la_300 h hn lb, by rw [e1]; exact la_300 h hn lw, by rw [e2]; exact bd, by rw [e1, e2]; exact tr⟩
theorem n_up {c : LA} (h : K79 c) {n : Nat} {m m' q : Rat} (hq : La c.N m q) (hm : m ≤ m') : La (2 ^ n * c.N) m' q := hq.mono (Nat.dvd_mul_left _ _) (Nat.mul_ne_zero (by have := Nat.pow_pos (n := n) (show 0 < 2 by decide); omega) h.N0) hm
theorem Lap.within {c : LA} {a : KA} {n : Nat} {raw T : Rat} {s : StQ} {k : KS} (h : K79 c) (hn : n ≤ 7) (L : Lap c a n raw T s k) : WithinZ s raw T (bQ c n) := by
  have e := mQ_le hn
  exact within_of h hn L.ag L.z L.ge L.tr L.bd (L.lr.up e) (L.lt.up (by grind)) (L.lw.up e) (L.lb.up e) (n_up h (bq_la h n) e)
/-! ### promises -/
theorem fr4_la {k : Nat} (h : k ≤ 8) : La 4 2 (fr (k : Int) 4) := by
  have : k = 0 ∨ k = 1 ∨ k = 2 ∨ k = 3 ∨ k = 4 ∨ k = 5 ∨ k = 6 ∨ k = 7 ∨ k = 8 := by omega
  rcases this with rfl | rfl | rfl | rfl | rfl | rfl | rfl | rfl | rfl <;> exact ⟨by decide, by decide +kernel, by decide +kernel, by decide +kernel⟩
theorem K79.round {c : LA} (h : K79 c) {k : Nat} (hk : k ≤ 8) : La c.N 33554432 (c.h * fr (k : Int) 4) := (h.up (h.lh.mul (fr4_la hk)) (c.s.den * c.d.den) (by unfold LA.N; omega)).up (by decide +kernel)
end DL

end
section
set_option Elab.async false
set_option linter.all false
set_option autoImplicit true
set_option maxRecDepth 100000
set_option maxHeartbeats 400000
/-! k35: never back -/
namespace DL
open PySem L2
open PyProof.Rows hiding St
section
variable {X : Cx} {n : Nm} {c : Cc} {Γ : SL} {a b : Expr} {x y : DL.D} {pos : Pos} {k l : AK}
theorem dop_notInL' : DOp X n c (compareOp .NotIn) (fun x y Post => ∃ ds, y = .lst ds ∧ x.shp = true ∧ y.shp = true ∧ Post (.bl (!(pdL ds).any fun z => PyData.eqv z x.pd))) := fun hn => ⟨_, op_notInD hn.units65, fun Γ σ R H x y v w Post s hx hy ⟨ds, e, h1, h2, p⟩ Q q => by
  subst e
  exact ⟨x.pd, pdL ds, hx.dp s.rh (canLay_shp h1), hy.dp s.rh (canLay_shp h2), h1, h2, q (.bl (!(pdL ds).any fun z => PyData.eqv z x.pd)) R H (.bl (!(pdL ds).any fun z => PyData.eqv z x.pd)) s (Ex.refl _) rfl p⟩⟩
end
/-! ### jumps -/
def RateOk (a : KA) (r : Rat) : Prop := r = 1 ∨ r = 1 + a.slew ∨ r = 1 - a.slew
structure Jm (a : KA) (ps : List Pc) (at_ : Rat) (J : List Rat) : Prop where
  rates : ∀ p ∈ ps, RateOk a p.2.2
  js : (jumpsQ ps).map (·.1) = J
  big : ∀ x ∈ jumpsQ ps, ∃ d, a.step = some d ∧ d < x.2
  le : ∀ x ∈ jumpsQ ps, x.1 ≤ at_
/-! ### on the grid -/
structure C35 (a : KA) (u D : Nat) : Prop where
  sd : SdZ a
  gs : GoodS a.slew a.drift
  o0 : GoodO a.step
  lu : La u 64 a.slew⁻¹
  ls : La D 1 a.slew
  ld : La D 1 a.drift
  u6 : u < 2 ^ 6
  d9 : D < 2 ^ 9
  sz : a.sz
  lf : La (120 * D) 4398046511104 a.first
  ly : La (120 * D) 4398046511104 a.y
  le : La (120 * D) 4398046511104 a.err
  e0 : ¬ a.err < 0
def mC (n : Nat) : Rat := ((2048 ^ n * 2 ^ 42 : Nat) : Rat)
def NC (c D n : Nat) : Nat := c ^ n * (120 * D)
/-- what stands between two calls -/
structure NB (a : KA) (u D c n : Nat) (s : StQ) (k : KS) (aim : Option Rat) (J : List Rat) : Prop where
  ag : Ag a s k
  z : s.sz
  ln : s.ps.length ≤ 2 * n + 1
  tl : TL a (NC c D n) (mC n) u k.at_ ⟨k, aim, false⟩
  aim : s.aim = aim
  la : La (NC c D n) (mC n) k.at_
  nb : 0 ≤ k.b
  nh : ∀ h, k.h = some h → 0 ≤ h
  jm : Jm a s.ps s.at_ J
  lj : J.length ≤ n
def SpanL (N : Nat) (m : Rat) (sp : Option Spn) : Prop := ∀ s, sp = some s → (∀ q, s.1 = some q → La N m q) ∧ (∀ q, s.2 = some q → La N m q) ∧ ∀ lo hi, s = (some lo, some hi) → lo ≤ hi
/-! ### promises -/
structure CourseZ (a : KA) (cs : List Pc) (J : List Rat) : Prop where
  za : a.sz
  zc : Cz 300 300 70 cs
  asc : Asc cs
  p0 : ∃ p, cs[0]? = some p ∧ p.1 = a.first
  ti : tidyQ cs = cs
  rates : ∀ p ∈ cs, RateOk a p.2.2
  js : (jumpsQ cs).map (·.1) = J
  big : ∀ x ∈ jumpsQ cs, ∃ d, a.step = some d ∧ d < x.2
  o0 : GoodO a.step
  lc : cs.length ≤ 1000
  lj : J.length ≤ 1000
theorem NB.course {a : KA} {u D c n : Nat} {s : StQ} {k : KS} {aim : Option Rat} {J : List Rat} (C : C35 a u D) (hn : n ≤ 100) (B : NB a u D c n s k aim J) : CourseZ a s.ps J :=
  ⟨C.sz, B.z.zp, B.ag.asc, B.ag.p0, B.ag.ti, B.jm.rates, B.jm.js, B.jm.big, C.o0, B.z.np, by have := B.lj; omega⟩
theorem CourseZ.next {a : KA} {cs : List Pc} {J : List Rat} (h : CourseZ a cs J) {i : Nat} {p q : Pc} (hp : cs[i]? = some p) (hq : cs[i + 1]? = some q) : p.1 < q.1 ∧ (jmp p q = 0 ∨ ∃ d, a.step = some d ∧ d < jmp p q ∧ 0 < jmp p q) ∧ ¬ (q.2.2 = p.2.2 ∧ jmp p q = 0) := by
  have hx := prs_at hp hq
  refine ⟨asc_lt h.asc hp hq (by omega), ?_, fun z => ?_⟩
  · by_cases z : jmp p q = 0
    · exact .inl z
    · have : (q.1, jmp p q) ∈ jumpsQ cs := by
        unfold jumpsQ
        exact List.mem_filterMap.mpr ⟨(p, q), List.mem_of_getElem? hx, by unfold jF; simp [z]⟩
      obtain ⟨d, h1, h2⟩ := h.big _ this
      exact .inr ⟨d, h1, h2, by have := h.o0 d h1; grind⟩
  · have e : tF (p, q) = none := tF_no z.1 z.2
    have c0 : contI cs = [] := by rw [← h.ti]; exact cont_tidy
    have : ((i : Int) + 1) ∈ contI cs := cont_mem.mpr ⟨by unfold cf; rw [hx]; simp [e], by have := (List.getElem?_eq_some_iff.mp hq).1; omega⟩
    rw [c0] at this
    cases this
/-! ### the law's own readings -/
theorem SpanL.mono {N : Nat} {m m' : Rat} {sp : Option Spn} (h : SpanL N m sp) (e : m ≤ m') : SpanL N m' sp := fun s q => by
  obtain ⟨h1, h2, h3⟩ := h s q
  exact ⟨fun x z => (h1 x z).up e, fun x z => (h2 x z).up e, h3⟩
theorem at_sz {s : StQ} {t : Rat} (h : s.sz) (ht : Sz 300 t) : Sz 1000 (atQ s.ps t) := by
  unfold atQ
  cases e : s.ps[placeN s.ps t]? with
  | none => exact (sz_zero (k := 0)).mono (by decide)
  | some p => exact (pline_sz (h.zp.at e) ht).mono (by decide)
end DL

end
section
set_option Elab.async false
set_option linter.all false
set_option autoImplicit true
set_option maxRecDepth 100000
set_option maxHeartbeats 400000
/-! methods that raise -/
namespace DL
open PySem L2
open PyProof.Rows hiding St
/-- a method that may raise, by its promise -/
structure CalMX (X : Cx) (k : Nat) (cls m : Str) (S : SgX) : Prop where
  rm : Room k X.A
  ic : InsC X.K cls
  ex : ∃ f fd ps k0, FnOk X.prog X.w X.K X.mg X.base (L2N.CX X.prog X.w) k0 f fd ps (spOfX X.K S) ∧ k0 ≤ k ∧ Meth X.K (He.ga X.K cls) m f ∧ Binds X.K fd ps []
theorem CalMX.tr {X : Cx} {k : Nat} {cls m : Str} {S : SgX} {pn : List (Addr × Obj)} {xe : Value → Shared → Prop} (h : CalMX X k cls m S) : CalMX (X.tr pn xe) k cls m S := ⟨h.rm, h.ic, h.ex⟩
section
variable {X : Cx} {n : Nm} {c : Cc} {Γ : SL} {e o : Expr} {es : List Expr} {pos p apos : Pos} {cls m : Str} {k : AK} {fs : List (Str × DL.D)} {S : SgX}
end
/-! steer and display, where they raise -/
end DL

end
section
set_option Elab.async false
set_option linter.all false
set_option autoImplicit true
set_option maxRecDepth 100000
set_option maxHeartbeats 400000
/-! k78: the display is a course -/
namespace DL
open PySem L2
open PyProof.Rows hiding St
section
variable {X : Cx} {n : Nm} {c : Cc} {Γ : SL} {e : Expr} {pos : Pos} {nm : Str} {De : DE}
end
def stepQ (g s : Rat) : Rat := if absQ g < s then absQ g else s
/-! ### the calls -/
/-! ### promises -/
structure TidyZ (cs : List Pc) (f : Rat) : Prop where
  zc : Cz 300 300 70 cs
  zf : Sz 300 f
  asc : Asc cs
  p0 : ∃ p, cs[0]? = some p ∧ p.1 = f
  ti : tidyQ cs = cs
  rates : ∀ p ∈ cs, 0 < p.2.2
  lc : cs.length ≤ 1000
theorem TidyZ.next {cs : List Pc} {f : Rat} (h : TidyZ cs f) {i : Nat} {p q : Pc} (hp : cs[i]? = some p) (hq : cs[i + 1]? = some q) : p.1 < q.1 ∧ ¬ (pline p q.1 = q.2.1 ∧ p.2.2 = q.2.2) := by
  have hx := prs_at hp hq
  refine ⟨asc_lt h.asc hp hq (by omega), fun z => ?_⟩
  have e : tF (p, q) = none := tF_no z.2.symm (by unfold jmp; grind)
  have c0 : contI cs = [] := by rw [← h.ti]; exact cont_tidy
  have : ((i : Int) + 1) ∈ contI cs := cont_mem.mpr ⟨by unfold cf; rw [hx]; simp [e], by have := (List.getElem?_eq_some_iff.mp hq).1; omega⟩
  rw [c0] at this
  cases this
/-- starts that are small -/
def Sta (cs : List Pc) : Prop := ∀ p ∈ cs, Sz 100 p.1
end DL

end
section
set_option Elab.async false
set_option linter.all false
set_option autoImplicit true
set_option maxRecDepth 100000
set_option maxHeartbeats 400000
/-! defs called in an except suite -/
namespace DL
open PySem L2
open PyProof.Rows hiding St
section
variable {X : Cx} {n : Nm} {c : Cc} {Γ : SL} {e a b : Expr} {es : List Expr} {pos p : Pos} {nm : Str} {k l : AK} {S : Sg} {z : DL.D} {ps : List Par}
variable {De : DE}
end
end DL

end
section
set_option Elab.async false
set_option linter.all false
set_option autoImplicit true
set_option maxRecDepth 100000
set_option maxHeartbeats 400000
/-! k78: calls, one after another -/
namespace DL
open PySem L2
open PyProof.Rows hiding St
end DL

end
section
set_option Elab.async false
set_option linter.all false
set_option autoImplicit true
set_option maxRecDepth 100000
set_option maxHeartbeats 400000
/-! an own class called, whose __init__ raises -/
namespace L2
open PySem PySem.Spec PyProof.Rows
section
variable {X : Cx} {CX : CXT} {k n : Nat} {f C : Addr} {fd : FuncData} {ps ks : List Str} {sp : Sp} {E : L2.St → XK} {x : Str} {p pos : Pos} {e : Expr} {es : List Expr} {kws : List Keyword} {t tk : TA} {g : List Value → List Value → List Value} {gV : List V → List V → List V}
end
end L2
namespace DL
open PySem L2
open PyProof.Rows hiding St
/-- an own class called, that may raise -/
structure CalNX (X : Cx) (k : Nat) (cls : Str) (np : Nat) (kns : List Str) (G : List Par → List Par → List Par) (S : SgX) : Prop where
  rm : Room k X.A
  ic : InsC X.K cls
  mg : X.mg cls = some (.ref (He.ga X.K cls))
  ex : ∃ f fd ps k0 g gV, Mk X.K (He.ga X.K cls) f ∧ FnOk X.prog X.w X.K X.mg X.base (L2N.CX X.prog X.w) k0 f fd ps (spOfX X.K S) ∧ k0 + 1 ≤ k ∧ KBn X.K fd ps (np + 1) kns g gV ∧
    ∀ M R H vs zs pv pz v, ParsOk X.K M R H pv vs → ParsOk X.K M R H pz zs → pv.length = np → pz.length = kns.length → parOi 0 pv = [] → parOi 0 pz = [] → ∃ us, gV (v :: vs) zs = v :: us ∧ ParsOk X.K M R H (G pv pz) us ∧ parOi 0 (G pv pz) = []
theorem CalNX.tr {X : Cx} {k : Nat} {cls : Str} {np : Nat} {kns : List Str} {G : List Par → List Par → List Par} {S : SgX} {pn : List (Addr × Obj)} {xe : Value → Shared → Prop} (h : CalNX X k cls np kns G S) : CalNX (X.tr pn xe) k cls np kns G S := ⟨h.rm, h.ic, h.mg, h.ex⟩
section
variable {X : Cx} {n : Nm} {c : Cc} {Γ : SL} {e : Expr} {es : List Expr} {kws : List Keyword} {pos p : Pos} {cls : Str} {np : Nat} {kns : List Str} {G : List Par → List Par → List Par} {S : SgX}
end
/-! the classes of an error, told -/
end DL

end
section
set_option Elab.async false
set_option linter.all false
set_option autoImplicit true
set_option maxRecDepth 100000
set_option maxHeartbeats 400000
/-! k36: what is refused -/
namespace DL
open PySem L2
open PyProof.Rows hiding St
section
variable {X : Cx} {n : Nm} {c : Cc} {Γ : SL} {e : Expr} {pos p ap : Pos} {nm : Str}
/-- xs.pop(i) -/
theorem we_popAt (i : Nat) {ob : OB} {Post : DL.D → SL → Prop} (h : WE X n c Γ e fun y Γ' => ∃ (k : Nat) (x : DL.D) (ds : List DL.D), y = .int (k : Int) ∧ k < 2 ^ 62 ∧ Γ'[i]? = some (.own (.lst ds)) ∧ ds[k]? = some x ∧ Post x (Γ'.set i (.own (.lst (ds.eraseIdx k))))) (hg : Γ[i]? = some (.own ob) := by rfl) (hL : ob.isL = true := by rfl) (hi : n.N[i]? = some nm := by rfl) (hv : n.V.contains i = true := by rfl)
    (hbase : attributeBase (.Name nm p) "pop" X.env (eval (.Name nm p) X.env) = eval (.Name nm p) X.env := by rfl)
    (hline : (ap.endLine == pos.line) = true := by rfl) (hst : isStar e = false := by rfl) : WE X n c Γ (.Call (.Attribute (.Name nm p) "pop" ap) [e] [] pos) Post :=
  we_meth i dm_popAt PySem.F.plainAttrs_list PySem.F.slot_list_pop PySem.F.type_list_pop (wa_cons (wk_e (h.mono fun y Γ' ⟨k, x, ds, e1, h0, h1, h2, h3⟩ => wa_nil ⟨[y], ds, rfl, h1, k, x, by rw [e1], by omega, h2, h3⟩)) (se_c hst)) hg hL hi hv hbase (by rw [se_c hst]; rfl) hline (se_c hst) rfl
end
end DL

end
section
set_option Elab.async false
set_option linter.all false
set_option autoImplicit true
set_option maxRecDepth 100000
set_option maxHeartbeats 2000000
/-! own error classes without a field -/
namespace L2
open PySem PySem.Spec PyProof.Rows
end L2
namespace DL
open PySem L2 NdefX
open PyProof.Rows hiding St
section
variable {X : Cx} {n : Nm} {c : Cc} {Γ : SL} {p pos pos2 : Pos} {nm : Str} {De : DE} {C : Addr}
end
section
variable {P : Program} {w : World} {K : PySem.W.Frag} {mg : Str → Option Value} {base : Heap}
end
end DL

end
section
set_option Elab.async false
set_option linter.all false
set_option autoImplicit true
set_option maxRecDepth 100000
set_option maxHeartbeats 400000
/-! def f(*xs) -/
namespace DL
open PySem L2
open PyProof.Rows hiding St
abbrev SgV := List DL.D → (Res → Prop) → Prop
def spV (K : PySem.W.Frag) (S : SgV) : Sp := fun vs H Q _ => ∃ (R : Hp) (xs : List DL.D) (Post : Res → Prop), Ex R H ∧ RpL K R xs vs ∧ xs.length ≤ 1000 ∧ S xs Post ∧ ∀ v R' H' r, After K [] R H R' H' → RetOk K H R' H' r v → Post r → Q v H'
structure CalV (X : Cx) (k : Nat) (nm : Str) (S : SgV) : Prop where
  rm : Room k X.A
  ex : ∃ f k0, FnR X.prog X.w X.K X.mg X.base CX0 k0 f (spV X.K S) ∧ k0 ≤ k ∧ X.mg nm = some (.ref f) ∧ PySem.W.keepIn X.K (.ref f) = true
/-- a def with one *parameter as the top has left it -/
structure DefAtV (K : PySem.W.Frag) (mg : Str → Option Value) (nm : Str) (st : Stmt) (pv : Str) where
  a : Addr
  fd : FuncData
  F : Fun K nm nm st a fd
  m : mg nm = some (.ref a)
  bb : ∀ rest : List Value, bindArgs fd ⟨rest, []⟩ = (newTuple rest >>= fun t => pure [(pv, t)])
theorem DefAtV.cal {X : Cx} {nm : Str} {st : Stmt} {pv : Str} {k k0 : Nat} {S : SgV} (d : DefAtV X.K X.mg nm st pv) (F : FnR X.prog X.w X.K X.mg X.base CX0 k0 d.a (spV X.K S)) (h : k0 ≤ k) (rm : Room k X.A) : CalV X k nm S :=
  ⟨rm, d.a, k0, F, h, d.m, d.F.kp⟩
section
variable {X : Cx} {CX : CXT} {k : Nat} {f : Addr} {sp : Sp} {E : XK} {x : Str} {p pos : Pos} {e : Expr} {es : List Expr} {t : TA}
end
section
variable {X : Cx} {n : Nm} {c : Cc} {Γ : SL} {e : Expr} {es : List Expr} {pos p : Pos} {nm : Str} {S : SgV} {z : DL.D} {ks : List AK} {xs : List DL.D}
end
end DL

end
section
set_option Elab.async false
set_option linter.all false
set_option autoImplicit true
set_option maxRecDepth 100000
set_option maxHeartbeats 400000
/-! k01: exact arithmetic -/
namespace DL
open PySem L2
open PyProof.Rows hiding St
end DL

end
section
set_option Elab.async false
set_option linter.all false
set_option autoImplicit true
set_option maxRecDepth 100000
set_option maxHeartbeats 400000
/-! list.index among integers -/
namespace DL
open PySem L2
open PyProof.Rows hiding St
theorem rpl_ints {K : PySem.W.Frag} {R : Hp} : ∀ {ks : List Int} {vs : List V}, RpL K R (ks.map DL.D.int) vs → vs = ks.map V.int
  | [], vs, h => h
  | k :: ks, vs, h => by
    obtain ⟨v, w, rfl, h4, h5⟩ := h
    cases (show v = .int k from h4)
    rw [rpl_ints h5]; rfl
section
variable {X : Cx} {n : Nm} {c : Cc} {Γ : SL} {e : Expr} {pos p ap : Pos} {nm : Str}
end
end DL

end
section
set_option Elab.async false
set_option linter.all false
set_option autoImplicit true
set_option maxRecDepth 100000
set_option maxHeartbeats 400000
/-! k01: totals, a drawn order -/
namespace DL
open PySem L2
open PyProof.Rows hiding St
/-- all the things in some order -/
def ST_shuf : Sg := fun ps Post => ∃ xs : List DL.D, ps = [.own .sto, .w (.lst xs)] ∧ xs.length ≤ 1000 ∧ ∀ ys : List DL.D, ys.Perm xs → Post (.own (.lst ys)) [.sto]
theorem erase_perm {α : Type} {xs : List α} {k : Nat} {x : α} (h : xs[k]? = some x) : (x :: xs.eraseIdx k).Perm xs := by
  induction xs generalizing k with
  | nil => cases h
  | cons y ys ih =>
    cases k with
    | zero => cases h; exact List.Perm.refl _
    | succ k =>
      have h2 : ys[k]? = some x := h
      exact (List.Perm.swap y x _).trans ((ih h2).cons y)
theorem shuf_step {rest row xs : List DL.D} {k : Nat} {x : DL.D} (h : rest[k]? = some x) (p : (row ++ rest).Perm xs) : ((row ++ [x]) ++ rest.eraseIdx k).Perm xs := by
  rw [List.append_assoc]
  exact ((List.Perm.append_left row (erase_perm h))).trans p
end DL

end
section
set_option Elab.async false
set_option linter.all false
set_option autoImplicit true
set_option maxRecDepth 100000
set_option maxHeartbeats 1000000
/-! iteration over own instances whose __iter__ gives an iterator over a list or a tuple of theirs -/
namespace DL
open PySem PySem.Spec L2
open PyProof.Rows hiding St
/-- an iterator over the tuple (b) or list at l, its next place is i -/
def itrT : Bool → String
  | true => "tuple_iterator"
  | false => "list_iterator"
def itrObj (b : Bool) (l : Addr) (i : Nat) : Obj := { cls := .type (itrT b), data := .fields #[.ref l, .int i 0] }
def ItB (b : Bool) (l it : Addr) (i : Nat) : HO := .ext fun h => h.get? it = some (itrObj b l i)
def SqB (K : PySem.W.Frag) (b : Bool) (H : Hp) (l : Addr) (xs : List V) : Prop := if b = true then SqT K H l xs else SqL K H l xs
section
variable {X : Cx} {pins : List (Addr × Obj)} {σ : L2.St} {H : Hp} {s : Shared} {l it m : Addr} {i : Nat} {b : Bool}
end
/-- what __iter__ promises when it is entered at s: a fresh iterator over its field f -/
def spItr (K : PySem.W.Frag) (C : Addr) (f : Str) (b : Bool) (s : Shared) : Sp := fun vs H Q _ => ∃ (a dx : Addr) (fs : List (Str × V)) (l : Addr) (xs : List V), vs = [.ref a] ∧ H a = some (.ins C dx fs) ∧ fs.lookup f = some (.ref l) ∧ SqB K b H l xs ∧
  ∀ it, H it = Option.none → s.heap.objs.size ≤ it → Q (.ref it) (upd H it (ItB b l it 0))
/-- a def that is known by a promise for each state of entry -/
structure FnAt (P : Program) (w : World) (K : PySem.W.Frag) (mg : Str → Option Value) (base : Heap) (k : Nat) (f : Addr) (fd : FuncData) (ps : List Str) (sp : Shared → Sp) : Prop where
  run : ∀ (A : Around) (outer : List Env) (s : Shared) (H : Hp) (args : Args) (us : List Value) (vs : List V) (Q : VK) (E : XK), Room k A → Env0 P w K mg base A outer s H → BindsTo s fd args (ps.zip us) → Vals vs us → vs.length = ps.length → sp s vs H Q E →
    codeAny (model P w) A (.call (.ref f) args) (CR CX0 outer P w H s Q E) s
/-- an own class whose instances are walked by an iterator over their field f -/
structure CalIt (X : Cx) (k : Nat) (cls f : Str) (b : Bool) : Prop where
  rm : Room k X.A
  ic : InsC X.K cls
  ex : ∃ fi fd k0, FnAt X.prog X.w X.K X.mg X.base k0 fi fd ["self"] (spItr X.K (He.ga X.K cls) f b) ∧ k0 + 2 ≤ k ∧ Meth X.K (He.ga X.K cls) "__iter__" fi ∧ Binds X.K fd ["self"] []
  nl : NoAttr X.K (He.ga X.K cls) "__len__"
  nh : NoAttr X.K (He.ga X.K cls) "__length_hint__"
theorem CalIt.blk {X X' : Cx} {sc : Scope} {k : Nat} {cls m : Str} {b : Bool} (bb : BlkX X X' sc) (h : CalIt X k cls m b) : CalIt X' k cls m b := by
  obtain ⟨s, H, C, cl, fp, rfl⟩ := bb
  exact ⟨h.rm, h.ic, h.ex, h.nl, h.nh⟩
section
variable {X : Cx} {pins : List (Addr × Obj)} {σ : L2.St} {H : Hp} {s : Shared} {C fi a l : Addr} {fd : FuncData} {fl : Str} {b : Bool} {k0 : Nat} {A1 : Around} {dx : Addr} {fs : List (Str × V)} {xs : List V}
end
/-! ### list(o) -/
section
variable {X : Cx} {pins : List (Addr × Obj)} {σ : L2.St} {H : Hp} {l it q : Addr} {b : Bool} {xs : List V} {A1 : Around} {Rs : Result → Shared → Prop}
end
section
variable {X : Cx} {pins : List (Addr × Obj)} {σ : L2.St} {H : Hp} {s : Shared} {C fi a l q : Addr} {fd : FuncData} {fl : Str} {b : Bool} {k0 : Nat} {A1 : Around} {dx : Addr} {fs : List (Str × V)} {xs : List V}
end
def sqD : Bool → List D → D
  | true, ds => .tup ds
  | false, ds => .lst ds
section
variable {X : Cx} {n : Nm} {c : Cc} {Γ : SL} {e : Expr} {pos p : Pos} {cls fl nm : Str} {k : AK} {fs : List (Str × D)} {De : DE} {b : Bool} {ds : List D}
end
end DL

end
section
set_option Elab.async false
set_option linter.all false
set_option autoImplicit true
set_option maxRecDepth 100000
set_option maxHeartbeats 1000000
/-! defs with defaults, classes with defaults, class constants, dicts, for over pairs -/
namespace DL
open PySem L2
open PyProof.Rows hiding St
/-- an own class that is called: its __init__, positional defaults dvs -/
structure InitAtD (K : PySem.W.Frag) (mg : Str → Option Value) (cls qual : Str) (st : Stmt) (ps : List Str) (dvs : List V) where
  fd : FuncData
  F : FunD K "__init__" qual (defArgs st) (defBody st) (defScope st) dvs [] (He.ma K (He.ga K cls) "__init__") fd
  mak : Mk K (He.ga K cls) (He.ma K (He.ga K cls) "__init__")
  mg : mg cls = some (.ref (He.ga K cls))
  ic : InsC K cls
theorem kbn_of {K : PySem.W.Frag} {fd : FuncData} {ps : List Str} {ds : List Value} {dvs : List V} {n : Nat} (b : Binds K fd ps ds) (d : Vals dvs ds) (hl : n + ds.length = ps.length) : KBn K fd ps n [] (fun us _ => us ++ ds) (fun vs _ => vs ++ dvs) :=
  ⟨fun s us ws X h1 h2 => by
    have : ws = [] := List.eq_nil_of_length_eq_zero h2
    subst this
    exact b s us X (by rw [List.length_append]; omega), fun r1 r2 => r1.append d⟩
theorem InitAtD.cal {X : Cx} {cls qual : Str} {st : Stmt} {ps : List Str} {dvs : List V} {k k0 np : Nat} {S : Sg} (d : InitAtD X.K X.mg cls qual st ps dvs) (F : FnOk X.prog X.w X.K X.mg X.base CX0 k0 (He.ma X.K (He.ga X.K cls) "__init__") d.fd ps (spOf X.K S)) (h : k0 + 1 ≤ k) (rm : Room k X.A)
    (j : Nat) (b : ∃ ds, Vals (dvs.drop j) ds ∧ Binds X.K d.fd ps ds) (hl : (np + 1) + (dvs.drop j).length = ps.length) (dD : List DL.D) (hd : ∀ R, RpL X.K R dD (dvs.drop j)) : CalN X k cls np [] (fun pv _ => pv ++ dD.map Par.d) S := by
  obtain ⟨ds, d1, d2⟩ := b
  refine ⟨rm, d.ic, d.mg, _, d.fd, ps, k0, _, _, d.mak, F, h, kbn_of d2 d1 (by rw [← d1.length]; exact hl), fun M R H vs zs pv pz v h1 h2 _ _ h5 h6 => ⟨vs ++ dvs.drop j, rfl, parsOk_app h1 (parsOk_d (hd R)), parOi_app h5 parOi_d⟩⟩
section
variable {X : Cx} {n : Nm} {c : Cc} {Γ : SL} {e a b o : Expr} {es : List Expr} {x y z : DL.D} {pos p p1 p2 apos : Pos} {nm cls f m : Str} {k l : AK} {fs : List (Str × DL.D)} {De : DE} {S : Sg} {G : List Par → List Par → List Par}
end
end DL

end
section
set_option Elab.async false
set_option linter.all false
set_option autoImplicit true
set_option maxRecDepth 100000
set_option maxHeartbeats 1000000
/-! for over pairs, dicts, sorted -/
namespace DL
open PySem L2
open PyProof.Rows hiding St
section
variable {X : Cx} {n : Nm} {c : Cc} {Γ : SL} {e a b o : Expr} {es : List Expr} {x y z : DL.D} {pos p p1 p2 apos ap : Pos} {nm nx ny cls f m : Str} {k l : AK} {fs : List (Str × DL.D)} {De : DE}
end
/-! ### dicts -/
section
variable {X : Cx} {n : Nm} {c : Cc} {Γ : SL} {e a b d o : Expr} {es : List Expr} {x y z : DL.D} {pos p p1 p2 apos ap : Pos} {nm cls f m : Str} {k l : AK} {fs : List (Str × DL.D)} {De : DE} {kvs : List (Key × DL.D)} {ky : Key}
end
/-! ### sorted -/
section
variable {X : Cx} {n : Nm} {c : Cc} {Γ : SL}
end
/-! ### sorted of pairs of integers -/
section
variable {X : Cx} {n : Nm} {c : Cc}
end
end DL

end
section
set_option Elab.async false
set_option linter.all false
set_option autoImplicit true
set_option maxRecDepth 100000
set_option maxHeartbeats 1000000
/-! sorted, one result; leap tables (k46) -/
namespace DL
open PySem L2
open PyProof.Rows hiding St
abbrev LeP (p q : Int × Int) : Prop := SrtO.lexB q p = false
theorem leP_iff {p q : Int × Int} : LeP p q ↔ p.1 < q.1 ∨ (p.1 = q.1 ∧ p.2 ≤ q.2) := by
  show SrtO.lexB q p = false ↔ _
  rw [SrtO.lexB_no]; omega
def srtP (ps : List (Int × Int)) : List (Int × Int) := ps.mergeSort fun p q => !SrtO.lexB q p
theorem srtP_perm (ps : List (Int × Int)) : (srtP ps).Perm ps := List.mergeSort_perm ps _
theorem srtP_le (ps : List (Int × Int)) : (srtP ps).Pairwise LeP := by
  have h0 : ∀ p q : Int × Int, (!SrtO.lexB q p) = true ↔ LeP p q := fun p q => by
    show (!SrtO.lexB q p) = true ↔ SrtO.lexB q p = false
    cases SrtO.lexB q p <;> simp
  have := List.pairwise_mergeSort (le := fun p q : Int × Int => !SrtO.lexB q p) (fun a b c h1 h2 => by rw [h0, leP_iff] at *; omega) (fun a b => by
    rw [Bool.or_eq_true, h0, h0, leP_iff, leP_iff]; omega) ps
  exact this.imp fun h => (h0 _ _).mp h
section
variable {X : Cx} {n : Nm} {c : Cc} {Γ : SL} {e a b : Expr} {es : List Expr} {pos p : Pos} {nm : Str} {k : AK}
theorem wo_blt {id : String} {P : List DL.D → (OB → Prop) → Prop} {Post : OB → SL → Prop} (hb : Blt X nm (.builtin id)) (ho : DCallO X n c (.builtin id) P) (j : Nat) (h : WA X n c Γ (e :: es) fun ks Γ1 => ∃ xs, gets Γ1 ks = some xs ∧ P xs fun z => Post z Γ1)
    (hj : n.GN[j]? = some nm := by rfl) (he : starEach (e :: es) X.env = (false, eval e X.env) :: starEach es X.env := by exact se_c rfl) (hpl : (backTo pos (starEach es X.env)).any (·.1) = false := by exact se_any rfl) : WO X n c Γ (.Call (.Name nm p) (e :: es) [] pos) Post := .mk fun hn σ R H s Q q => by
  obtain ⟨r, h1, h2⟩ := ho hn
  obtain ⟨g1, g2, g3⟩ := hn.gl j _ hj
  refine (pe_callB h1 g1 hb.mg hb.bt pWA g3 g2 he hpl).w (h.run hn σ R H s _ fun vs R1 H1 ks Γ1 s1 e1 r1 ⟨xs, gx, p1⟩ => ?_)
  exact h2 Γ1 σ R1 H1 xs vs _ s1 (r1.wks s1 gx) p1 Q fun u R' H' z s' e' r' p' => q u R' H' z Γ1 s' (e1.trans e') r' p'
end
/-! ### leap tables -/
def lkp (ps : List (Int × Int)) (d : Int) : Option Int := (ps.find? fun p => decide (p.1 = d)).map (·.2)
/-- no bad leap -/
structure GoodK (ps : List (Int × Int)) : Prop where
  nd : (ps.map (·.1)).Nodup
  k1 : ∀ p ∈ ps, p.2 = 1 ∨ p.2 = -1
def badK (k : Int) : Prop := ¬ (k = 1 ∨ k = -1)
theorem GoodK.snoc {ps : List (Int × Int)} {p : Int × Int} (h : GoodK ps) (h1 : ¬ badK p.2) (h2 : p.1 ∉ ps.map (·.1)) : GoodK (ps ++ [p]) := by
  refine ⟨?_, fun q hq => ?_⟩
  · rw [List.map_append, List.nodup_append]
    refine ⟨h.nd, by simp, fun a ha b hb z => ?_⟩
    have : b = p.1 := by simpa using hb
    subst z this; exact h2 ha
  · rcases List.mem_append.mp hq with z | z
    · exact h.k1 q z
    · have : q = p := by simpa using z
      rw [this]; exact Decidable.not_not.mp h1
theorem GoodK.take {ps : List (Int × Int)} (h : GoodK ps) (i : Nat) : GoodK (ps.take i) := ⟨by rw [List.map_take]; exact h.nd.sublist (List.take_sublist _ _), fun p hp => h.k1 p (List.mem_of_mem_take hp)⟩
theorem GoodK.sub {ps qs : List (Int × Int)} (h : GoodK ps) (s : qs.Sublist ps) : GoodK qs := ⟨h.nd.sublist (s.map _), fun p hp => h.k1 p (s.subset hp)⟩
theorem lkp_mem {ps : List (Int × Int)} (nd : (ps.map (·.1)).Nodup) {p : Int × Int} (h : p ∈ ps) : lkp ps p.1 = some p.2 := by
  induction ps with
  | nil => cases h
  | cons q qs ih =>
    unfold lkp
    rw [List.find?_cons]
    have nd' := List.nodup_cons.mp (show (q.1 :: qs.map (·.1)).Nodup from nd)
    by_cases e : q.1 = p.1
    · rw [decide_eq_true e]
      rcases List.mem_cons.mp h with z | z
      · rw [z]; rfl
      · exact absurd (List.mem_map.mpr ⟨p, z, e.symm⟩) nd'.1
    · rw [decide_eq_false e]
      rcases List.mem_cons.mp h with z | z
      · rw [z] at e; exact absurd rfl e
      · exact ih nd'.2 z
theorem lkp_none {ps : List (Int × Int)} {d : Int} (h : d ∉ ps.map (·.1)) : lkp ps d = none := by
  unfold lkp
  rw [List.find?_eq_none.mpr fun p hp => by
    simp only [decide_eq_true_eq]
    exact fun z => h (List.mem_map.mpr ⟨p, hp, z⟩)]
  rfl
def dayL (ps : List (Int × Int)) (d : Int) : Int := 86400 + (lkp ps d).getD 0
theorem CalN.tr {X : Cx} {k : Nat} {cls : Str} {np : Nat} {kns : List Str} {G : List Par → List Par → List Par} {S : Sg} {pn : List (Addr × Obj)} {xe : Value → Shared → Prop} (h : CalN X k cls np kns G S) : CalN (X.tr pn xe) k cls np kns G S := ⟨h.rm, h.ic, h.mg, h.ex⟩
theorem cut_toM {xs : List DL.D} {k : Nat} : cutD xs none (some (k : Int)) = xs.take k := by
  unfold cutD
  rw [HT.sIx_nat]
  show (xs.drop 0).take (min k xs.length - 0) = xs.take k
  rw [List.drop_zero, Nat.sub_zero]
  by_cases h : k ≤ xs.length
  · rw [Nat.min_eq_left h]
  · rw [Nat.min_eq_right (by omega), List.take_of_length_le (Nat.le_refl _), List.take_of_length_le (by omega)]
theorem len_srtP (qs : List (Int × Int)) : (srtP qs).length = qs.length := (srtP_perm qs).length_eq
end DL

end
section
set_option Elab.async false
set_option linter.all false
set_option autoImplicit true
set_option maxRecDepth 100000
set_option maxHeartbeats 1000000
/-! methods with defaults and keywords, that may raise -/
namespace L2
open PySem PySem.Spec PyProof.Rows
end L2
namespace DL
open PySem L2
open PyProof.Rows hiding St
/-- a method called with np positional values and keywords kns, by its promise; it may raise -/
structure CalMK (X : Cx) (k : Nat) (cls m : Str) (np : Nat) (kns : List Str) (G : List Par → List Par → List Par) (S : SgX) : Prop where
  rm : Room k X.A
  ic : InsC X.K cls
  ex : ∃ f fd ps k0 g gV, FnOk X.prog X.w X.K X.mg X.base (L2N.CX X.prog X.w) k0 f fd ps (spOfX X.K S) ∧ k0 ≤ k ∧ Meth X.K (He.ga X.K cls) m f ∧ KBn X.K fd ps (np + 1) kns g gV ∧
    ∀ M R H vs zs pv pz v, ParsOk X.K M R H pv vs → ParsOk X.K M R H pz zs → pv.length = np → pz.length = kns.length → parOi 0 pv = [] → parOi 0 pz = [] → ∃ us, gV (v :: vs) zs = v :: us ∧ ParsOk X.K M R H (G pv pz) us ∧ parOi 0 (G pv pz) = []
theorem CalMK.tr {X : Cx} {k : Nat} {cls m : Str} {np : Nat} {kns : List Str} {G : List Par → List Par → List Par} {S : SgX} {pn : List (Addr × Obj)} {xe : Value → Shared → Prop} (h : CalMK X k cls m np kns G S) : CalMK (X.tr pn xe) k cls m np kns G S := ⟨h.rm, h.ic, h.ex⟩
section
variable {X : Cx} {n : Nm} {c : Cc} {Γ : SL} {e o : Expr} {es : List Expr} {kws : List Keyword} {pos p apos : Pos} {cls m : Str} {k : AK} {fs : List (Str × DL.D)} {np : Nat} {kns : List Str} {G : List Par → List Par → List Par} {S : SgX}
end
end DL

end
section
set_option Elab.async false
set_option linter.all false
set_option autoImplicit true
set_option maxRecDepth 100000
set_option maxHeartbeats 1000000
/-! labels (k43) -/
namespace DL
open PySem L2
open PyProof.Rows hiding St
section
variable {X : Cx} {n : Nm} {c : Cc} {Γ : SL} {e o a b : Expr} {pos apos : Pos} {cls m : Str} {k l : AK} {fs : List (Str × DL.D)} {S : Sg} {z : DL.D}
end
/-! ### the start of a day -/
def ctb (p : Int × Int) (d : Int) : Int := if 0 ≤ p.1 ∧ p.1 < d then p.2 else if d ≤ p.1 ∧ p.1 < 0 then -p.2 else 0
def ctbs : List (Int × Int) → Int → Int
  | [], _ => 0
  | p :: ps, d => ctb p d + ctbs ps d
def opn (qs : List (Int × Int)) (d : Int) : Int := 86400 * d + ctbs qs d
theorem ctbs_bd {d : Int} : ∀ {qs : List (Int × Int)}, (∀ p ∈ qs, p.2 = 1 ∨ p.2 = -1) → -(qs.length : Int) ≤ ctbs qs d ∧ ctbs qs d ≤ (qs.length : Int)
  | [], _ => by simp [ctbs]
  | p :: ps, h => by
    have h1 := ctbs_bd (d := d) (qs := ps) fun q hq => h q (List.mem_cons_of_mem _ hq)
    have h2 := h p (List.mem_cons_self ..)
    have h3 : -1 ≤ ctb p d ∧ ctb p d ≤ 1 := by unfold ctb; split <;> (try split) <;> omega
    have h4 : ctbs (p :: ps) d = ctb p d + ctbs ps d := rfl
    rw [h4, List.length_cons]; omega
theorem ctb_succ (p : Int × Int) (d : Int) : ctb p (d + 1) = ctb p d + if p.1 = d then p.2 else 0 := by
  unfold ctb
  split <;> split <;> (try split) <;> (try split) <;> (try split) <;> omega
theorem lkp_cons {p : Int × Int} {ps : List (Int × Int)} {d : Int} : lkp (p :: ps) d = if p.1 = d then some p.2 else lkp ps d := by
  unfold lkp
  rw [List.find?_cons]
  by_cases e : p.1 = d
  · rw [decide_eq_true e, if_pos e]; rfl
  · rw [decide_eq_false e, if_neg e]
theorem ctbs_succ {d : Int} : ∀ {qs : List (Int × Int)}, (qs.map (·.1)).Nodup → ctbs qs (d + 1) = ctbs qs d + (lkp qs d).getD 0
  | [], _ => rfl
  | p :: ps, h => by
    have nd := List.nodup_cons.mp (show (p.1 :: ps.map (·.1)).Nodup from h)
    have ih := ctbs_succ (d := d) nd.2
    show ctb p (d + 1) + ctbs ps (d + 1) = ctb p d + ctbs ps d + _
    rw [ih, ctb_succ, lkp_cons]
    by_cases e : p.1 = d
    · rw [if_pos e, if_pos e, lkp_none (by rw [← e]; exact nd.1)]
      simp; omega
    · rw [if_neg e, if_neg e]; omega
theorem opn_succ {qs : List (Int × Int)} (h : GoodK qs) (d : Int) : opn qs (d + 1) = opn qs d + dayL qs d := by
  unfold opn dayL
  rw [ctbs_succ h.nd]; omega
theorem dayL_bd {qs : List (Int × Int)} (h : GoodK qs) (d : Int) : 86399 ≤ dayL qs d ∧ dayL qs d ≤ 86401 := by
  unfold dayL
  cases e : lkp qs d with
  | none => simp
  | some k =>
    have : k = 1 ∨ k = -1 := by
      unfold lkp at e
      obtain ⟨p, hp, rfl⟩ := Option.map_eq_some_iff.mp e
      exact h.k1 p (List.mem_of_find?_eq_some hp)
    show 86399 ≤ 86400 + k ∧ 86400 + k ≤ 86401
    omega
theorem opn_add {qs : List (Int × Int)} (h : GoodK qs) (d : Int) : ∀ n : Nat, opn qs d + 86399 * (n : Int) ≤ opn qs (d + (n : Int))
  | 0 => by simp
  | n + 1 => by
    have ih := opn_add h d n
    have e := opn_succ h (d + (n : Int))
    have b := dayL_bd h (d + (n : Int))
    have e2 : d + ((n + 1 : Nat) : Int) = d + (n : Int) + 1 := by omega
    rw [e2, e]; omega
theorem opn_le {qs : List (Int × Int)} (h : GoodK qs) {d e : Int} (le : d ≤ e) : opn qs d + 86399 * (e - d) ≤ opn qs e := by
  have := opn_add h d (e - d).toNat
  have e1 : ((e - d).toNat : Int) = e - d := by omega
  rw [e1, show d + (e - d) = e by omega] at this
  exact this
def DyB (d : Int) : Prop := -7000000 ≤ d ∧ d ≤ 7000000
def DyC (d : Int) : Prop := -6000000 ≤ d ∧ d ≤ 6000000
theorem opn_bd {qs : List (Int × Int)} (h : GoodK qs) (hl : qs.length ≤ 60) (d : Int) : 86400 * d - 60 ≤ opn qs d ∧ opn qs d ≤ 86400 * d + 60 := by
  have := ctbs_bd (d := d) h.k1
  unfold opn; omega
theorem DyB.bt {d : Int} (h : DyB d) : Bt 60 d := by have := h.1; have := h.2; exact bt_of (by omega) (by omega)
theorem sz_int {i : Int} (h : Bt 48 i) : Sz 6 ((i : Int) : Rat) := ⟨by rw [Rat.num_intCast]; exact h, by rw [Rat.den_intCast]; decide⟩
theorem sz_opn {qs : List (Int × Int)} (h : GoodK qs) (hl : qs.length ≤ 60) {d w : Int} (hd : DyC d) (h1 : opn qs d ≤ w) (h2 : w < opn qs (d + 1)) : Sz 6 ((w : Int) : Rat) := by
  have b1 := opn_bd h hl d
  have b2 := opn_bd h hl (d + 1)
  have := hd.1; have := hd.2
  exact sz_int (bt_of (by omega) (by omega))
def HasS (qs : List (Int × Int)) (d s : Int) : Prop := 0 ≤ s ∧ s < dayL qs d
def HasP (p : Rat) : Prop := ¬ p < 0 ∧ p < 1
instance (qs : List (Int × Int)) (d s : Int) : Decidable (HasS qs d s) := inferInstanceAs (Decidable (_ ∧ _))
instance (p : Rat) : Decidable (HasP p) := inferInstanceAs (Decidable (_ ∧ _))
theorem DyC.b {d : Int} (h : DyC d) : DyB d := ⟨by have := h.1; omega, by have := h.2; omega⟩
theorem DyC.b1 {d : Int} (h : DyC d) : DyB (d + 1) := ⟨by have := h.1; omega, by have := h.2; omega⟩
end DL

end
section
set_option Elab.async false
set_option linter.all false
set_option autoImplicit true
set_option maxRecDepth 100000
set_option maxHeartbeats 1000000
/-! defs with defaults that are all given; smeared readings (k45) -/
namespace DL
open PySem L2
open PyProof.Rows hiding St
structure DefAtD (K : PySem.W.Frag) (mg : Str → Option Value) (nm : Str) (st : Stmt) (ps : List Str) (dvs : List V) where
  a : Addr
  fd : FuncData
  F : FunD K nm nm (defArgs st) (defBody st) (defScope st) dvs [] a fd
  m : mg nm = some (.ref a)
  b : Binds K fd ps []
theorem DefAtD.cal {X : Cx} {nm : Str} {st : Stmt} {ps : List Str} {dvs : List V} {k k0 : Nat} {S : Sg} (d : DefAtD X.K X.mg nm st ps dvs) (F : FnOk X.prog X.w X.K X.mg X.base CX0 k0 d.a d.fd ps (spOf X.K S)) (h : k0 ≤ k) (rm : Room k X.A) : CalF X k nm S :=
  ⟨rm, d.a, d.fd, ps, k0, F.at X.A, h, d.m, d.F.kp, d.b⟩
/-! ### bends -/
/-! ### smeared readings -/
def WinOk (w : Int) : Prop := 2 ≤ w ∧ w ≤ 43200
instance (w : Int) : Decidable (WinOk w) := inferInstanceAs (Decidable (_ ∧ _))
def kdD (qs : List (Int × Int)) (d : Int) : Int := (lkp qs d).getD 0
theorem dayL_kd (qs : List (Int × Int)) (d : Int) : dayL qs d = 86400 + kdD qs d := rfl
def edQ (qs : List (Int × Int)) (w d : Int) : Rat := ((dayL qs d - w : Int) : Rat)
def rtQ (qs : List (Int × Int)) (w d : Int) : Rat := fr (w - kdD qs d) w
theorem kd_bd {qs : List (Int × Int)} (h : GoodK qs) (d : Int) : -1 ≤ kdD qs d ∧ kdD qs d ≤ 1 := by
  have := dayL_bd h d
  rw [dayL_kd] at this; omega
theorem rt_mul {qs : List (Int × Int)} {w d : Int} (hw : WinOk w) : rtQ qs w d * ((w : Int) : Rat) = ((w - kdD qs d : Int) : Rat) := by
  unfold rtQ fr
  rw [Rat.divInt_eq_div]
  exact Rat.div_mul_cancel (by
    have := hw.1
    intro z
    have : w = 0 := Rat.intCast_inj.mp (by rw [z]; rfl)
    omega)
theorem rt_pos {qs : List (Int × Int)} (h : GoodK qs) {w d : Int} (hw : WinOk w) : 0 < rtQ qs w d := by
  have k := kd_bd h d
  have w1 := hw.1
  unfold rtQ fr
  rw [Rat.divInt_eq_div, Rat.div_def]
  refine Rat.mul_pos ?_ (Rat.inv_pos.mpr ?_)
  · exact Rat.intCast_pos.mpr (by omega)
  · exact Rat.intCast_pos.mpr (by omega)
theorem w_pos {w : Int} (hw : WinOk w) : (0 : Rat) < ((w : Int) : Rat) := Rat.intCast_pos.mpr (by have := hw.1; omega)
theorem ed_top {qs : List (Int × Int)} {w d : Int} (hw : WinOk w) : edQ qs w d + ((w : Int) : Rat) * rtQ qs w d = ((86400 : Int) : Rat) := by
  rw [Rat.mul_comm, rt_mul hw]
  unfold edQ
  rw [← Rat.intCast_add, dayL_kd]
  congr 1; omega
theorem ed_len (qs : List (Int × Int)) (w d : Int) : edQ qs w d + ((w : Int) : Rat) = ((dayL qs d : Int) : Rat) := by
  unfold edQ
  rw [← Rat.intCast_add]
  congr 1; omega
theorem rt_sz {qs : List (Int × Int)} (h : GoodK qs) {w : Int} (hw : WinOk w) (d : Int) : Sz 17 (rtQ qs w d) := by
  have := kd_bd h d
  have w1 := hw.1; have w2 := hw.2
  exact fr_sz ((show Bt 17 _ from bt_of (by omega) (by omega)).mono (by decide)) (bt_of (by omega) (by omega)) (by omega)
theorem sz_d {d : Int} (h : DyC d) : Sz 6 ((86400 * d : Int) : Rat) := by
  have := h.1; have := h.2
  exact sz_int (bt_of (by omega) (by omega))
theorem sz_o {qs : List (Int × Int)} (h : GoodK qs) (hl : qs.length ≤ 60) {d : Int} (hd : DyC d) : Sz 6 ((opn qs d : Int) : Rat) := by
  have := opn_succ h d
  have := dayL_bd h d
  exact sz_opn h hl hd (by omega) (by omega)
theorem i864 (d : Int) : ((86400 * d : Int) : Rat) + ((86400 : Int) : Rat) = ((86400 * (d + 1) : Int) : Rat) := by
  rw [← Rat.intCast_add]; congr 1; omega
/-- within the day -/
def InDay (qs : List (Int × Int)) (d : Int) (u : Rat) : Prop := 0 ≤ u ∧ u < ((dayL qs d : Int) : Rat)
def InRd (g : Rat) : Prop := 0 ≤ g ∧ g < ((86400 : Int) : Rat)
theorem fl_ge {q : Rat} {i : Int} (h : ((i : Int) : Rat) ≤ q) : i ≤ flQ q := by
  obtain ⟨h1, h2⟩ := fl_le q
  have : ((i : Int) : Rat) < ((flQ q + 1 : Int) : Rat) := by
    rw [Rat.intCast_add]
    have o : ((1 : Int) : Rat) = 1 := rfl
    rw [o]; grind
  have := Rat.intCast_lt_intCast.mp this
  omega
theorem fl_lt {q : Rat} {i : Int} (h : q < ((i : Int) : Rat)) : flQ q < i := by
  obtain ⟨h1, h2⟩ := fl_le q
  have : ((flQ q : Int) : Rat) < ((i : Int) : Rat) := by grind
  exact Rat.intCast_lt_intCast.mp this
/-- the day of a time -/
def OnDay (qs : List (Int × Int)) (d : Int) (t : Rat) : Prop := InDay qs d (t - ((opn qs d : Int) : Rat))
theorem OnDay.fl {qs : List (Int × Int)} (h : GoodK qs) {d : Int} {t : Rat} (o : OnDay qs d t) : opn qs d ≤ flQ t ∧ flQ t < opn qs (d + 1) := by
  have o1 := o.1; have o2 := o.2
  refine ⟨fl_ge (by grind), ?_⟩
  rw [opn_succ h]
  refine fl_lt ?_
  rw [Rat.intCast_add]
  grind
/-- the day of a reading -/
def RdDay (d : Int) (v : Rat) : Prop := InRd (v - ((86400 * d : Int) : Rat))
theorem RdDay.fl {d : Int} {v : Rat} (o : RdDay d v) : (flQ v).fdiv 86400 = d := by
  have o1 := o.1; have o2 := o.2
  have h1 : 86400 * d ≤ flQ v := fl_ge (by grind)
  have h2 : flQ v < 86400 * d + 86400 := fl_lt (by rw [Rat.intCast_add]; grind)
  rw [Int.fdiv_eq_ediv_of_nonneg _ (by decide)]
  omega
/-! ### promises -/
end DL

end
section
set_option Elab.async false
set_option linter.all false
set_option autoImplicit true
set_option maxRecDepth 100000
set_option maxHeartbeats 1000000
/-! methods that may raise and give a fresh thing; the smear course (k80) -/
namespace DL
open PySem L2
open PyProof.Rows hiding St
section
variable {X : Cx} {n : Nm} {c : Cc} {Γ : SL} {e o : Expr} {es : List Expr} {kws : List Keyword} {pos p apos : Pos} {cls m : Str} {k : AK} {fs : List (Str × DL.D)} {np : Nat} {kns : List Str} {G : List Par → List Par → List Par} {S : SgX}
end
/-! ### the smear course -/
def pcA (qs : List (Int × Int)) (w : Int) (p : Int × Int) : Pc := (((opn qs p.1 + (dayL qs p.1 - w) : Int) : Rat), ((86400 * p.1 + (dayL qs p.1 - w) : Int) : Rat), fr (w - p.2) w)
def pcL (qs : List (Int × Int)) (d : Int) : Pc := (((opn qs d : Int) : Rat), ((86400 * d : Int) : Rat), ((1 : Int) : Rat))
def inFL (f l : Int) (p : Int × Int) : Bool := decide (f ≤ p.1) && decide (p.1 ≤ l)
def scR (qs : List (Int × Int)) (w : Int) : List (Int × Int) → List Pc
  | [] => []
  | p :: ps => pcA qs w p :: pcL qs (p.1 + 1) :: scR qs w ps
def smC (qs : List (Int × Int)) (w f l : Int) : List Pc := pcL qs f :: scR qs w ((srtP qs).filter (inFL f l))
theorem scR_len (qs : List (Int × Int)) (w : Int) : ∀ ps, (scR qs w ps).length = 2 * ps.length
  | [] => rfl
  | q :: ps => by
    show (scR qs w ps).length + 1 + 1 = _
    rw [scR_len qs w ps, List.length_cons]; omega
theorem pcL_opn {qs : List (Int × Int)} {d : Int} : (pcL qs d).1 = ((opn qs d : Int) : Rat) := rfl
/-- the rows of a part of the table, ascending -/
structure Rws (qs : List (Int × Int)) (D l : Int) (rs : List (Int × Int)) : Prop where
  asc : rs.Pairwise fun p q => p.1 < q.1
  lo : ∀ p ∈ rs, D ≤ p.1 ∧ p.1 ≤ l
  mem : ∀ p ∈ rs, kdD qs p.1 = p.2 ∧ p.2 ≠ 0
  all : ∀ x, D ≤ x → x ≤ l → kdD qs x ≠ 0 → ∃ p ∈ rs, p.1 = x
theorem Rws.tl {qs : List (Int × Int)} {D l : Int} {p : Int × Int} {rs : List (Int × Int)} (h : Rws qs D l (p :: rs)) : Rws qs (p.1 + 1) l rs := by
  have a := List.pairwise_cons.mp h.asc
  refine ⟨a.2, fun q hq => ⟨by have := a.1 q hq; omega, (h.lo q (List.mem_cons_of_mem _ hq)).2⟩, fun q hq => h.mem q (List.mem_cons_of_mem _ hq), fun x h1 h2 h3 => ?_⟩
  obtain ⟨q, hq, e⟩ := h.all x (by have := (h.lo p (List.mem_cons_self ..)).1; omega) h2 h3
  rcases List.mem_cons.mp hq with z | z
  · subst z; omega
  · exact ⟨q, z, e⟩
theorem kd_mem {qs : List (Int × Int)} (h : GoodK qs) {p : Int × Int} (hp : p ∈ qs) : kdD qs p.1 = p.2 := by
  unfold kdD; rw [lkp_mem h.nd hp]; rfl
theorem kd_some {qs : List (Int × Int)} {d : Int} (h : kdD qs d ≠ 0) : ∃ p ∈ qs, p.1 = d := by
  unfold kdD lkp at h
  cases e : qs.find? (fun p => decide (p.1 = d)) with
  | none => rw [e] at h; exact absurd rfl h
  | some p => exact ⟨p, List.mem_of_find?_eq_some e, by have := List.find?_some e; simpa using this⟩
theorem rws_of {qs : List (Int × Int)} (h : GoodK qs) (f l : Int) : Rws qs f l ((srtP qs).filter (inFL f l)) := by
  have hp := srtP_perm qs
  refine ⟨?_, fun p hp1 => ?_, fun p hp1 => ?_, fun x h1 h2 h3 => ?_⟩
  · refine List.Pairwise.filter _ ?_
    have nd : ((srtP qs).map (·.1)).Nodup := ((hp.map (·.1)).nodup_iff).mpr h.nd
    have nd' : (srtP qs).Pairwise fun p q => p.1 ≠ q.1 := List.pairwise_map.mp nd
    refine ((srtP_le qs).and nd').imp fun {a b} ⟨h1, h2⟩ => ?_
    rw [leP_iff] at h1
    omega
  · have := (List.mem_filter.mp hp1).2
    unfold inFL at this
    simpa using this
  · have hm := hp.mem_iff.mp (List.mem_filter.mp hp1).1
    exact ⟨kd_mem h hm, by rcases h.k1 p hm with z | z <;> omega⟩
  · obtain ⟨p, hm, e⟩ := kd_some h3
    exact ⟨p, List.mem_filter.mpr ⟨hp.mem_iff.mpr hm, by unfold inFL; simp; omega⟩, e⟩
theorem gap_opn {qs : List (Int × Int)} (h : GoodK qs) (D : Int) : ∀ n : Nat, (∀ x, D ≤ x → x < D + (n : Int) → kdD qs x = 0) → opn qs (D + (n : Int)) = opn qs D + 86400 * (n : Int)
  | 0, _ => by simp
  | n + 1, hz => by
    have ih := gap_opn h D n fun x h1 h2 => hz x h1 (by omega)
    have e := opn_succ h (D + (n : Int))
    have k := hz (D + (n : Int)) (by omega) (by omega)
    rw [dayL_kd, k] at e
    have e2 : D + ((n + 1 : Nat) : Int) = D + (n : Int) + 1 := by omega
    rw [e2, e]; omega
theorem gap_to {qs : List (Int × Int)} (h : GoodK qs) {D d : Int} (le : D ≤ d) (hz : ∀ x, D ≤ x → x < d → kdD qs x = 0) : opn qs d = opn qs D + 86400 * (d - D) := by
  have := gap_opn h D (d - D).toNat fun x h1 h2 => hz x h1 (by omega)
  have e : ((d - D).toNat : Int) = d - D := by omega
  rw [e, show D + (d - D) = d by omega] at this
  exact this
/-- the line from day D shows day d, without a leap between -/
theorem line_day {qs : List (Int × Int)} (h : GoodK qs) {D d : Int} (le : D ≤ d) (hz : ∀ x, D ≤ x → x < d → kdD qs x = 0) (u : Rat) : pline (pcL qs D) (((opn qs d : Int) : Rat) + u) = ((86400 * d : Int) : Rat) + u := by
  have e := gap_to h le hz
  unfold pline pcL
  have c1 : ((opn qs d : Int) : Rat) = ((opn qs D : Int) : Rat) + ((86400 * (d - D) : Int) : Rat) := by rw [← Rat.intCast_add, e]
  have c2 : ((86400 * d : Int) : Rat) = ((86400 * D : Int) : Rat) + ((86400 * (d - D) : Int) : Rat) := by
    rw [← Rat.intCast_add]; congr 1; omega
  have o : ((1 : Int) : Rat) = 1 := rfl
  show ((86400 * D : Int) : Rat) + ((1 : Int) : Rat) * (((opn qs d : Int) : Rat) + u - ((opn qs D : Int) : Rat)) = _
  rw [c1, c2, o]; grind
theorem rt_row {qs : List (Int × Int)} {w : Int} {p : Int × Int} (h : kdD qs p.1 = p.2) : fr (w - p.2) w = rtQ qs w p.1 := by unfold rtQ; rw [h]
theorem line_A {qs : List (Int × Int)} {w : Int} {p : Int × Int} (hk : kdD qs p.1 = p.2) (u : Rat) : pline (pcA qs w p) (((opn qs p.1 : Int) : Rat) + u) = ((86400 * p.1 : Int) : Rat) + (edQ qs w p.1 + (u - edQ qs w p.1) * rtQ qs w p.1) := by
  unfold pline pcA
  rw [rt_row hk]
  show ((86400 * p.1 + (dayL qs p.1 - w) : Int) : Rat) + rtQ qs w p.1 * (((opn qs p.1 : Int) : Rat) + u - ((opn qs p.1 + (dayL qs p.1 - w) : Int) : Rat)) = _
  rw [Rat.intCast_add (86400 * p.1), Rat.intCast_add (opn qs p.1)]
  unfold edQ
  grind
theorem pcA_1 {qs : List (Int × Int)} {w : Int} {p : Int × Int} : (pcA qs w p).1 = ((opn qs p.1 : Int) : Rat) + edQ qs w p.1 := by
  unfold pcA edQ
  exact Rat.intCast_add ..
theorem ed_pos {qs : List (Int × Int)} (h : GoodK qs) {w d : Int} (hw : WinOk w) : 0 < edQ qs w d := by
  have := dayL_bd h d
  have w1 := hw.2
  exact Rat.intCast_pos.mpr (by omega)
theorem opn_le_q {qs : List (Int × Int)} (h : GoodK qs) {a b : Int} (le : a ≤ b) : ((opn qs a : Int) : Rat) ≤ ((opn qs b : Int) : Rat) := Rat.intCast_le_intCast.mpr (by have := opn_le h le; omega)
theorem opn_next {qs : List (Int × Int)} (h : GoodK qs) (a : Int) : ((opn qs (a + 1) : Int) : Rat) = ((opn qs a : Int) : Rat) + ((dayL qs a : Int) : Rat) := by rw [opn_succ h, Rat.intCast_add]
theorem ed_lt {qs : List (Int × Int)} {w d : Int} (hw : WinOk w) : edQ qs w d < ((dayL qs d : Int) : Rat) := by
  have := ed_len qs w d
  have := w_pos hw
  grind
theorem scR_gt {qs : List (Int × Int)} (h : GoodK qs) {w : Int} (hw : WinOk w) : ∀ {rs : List (Int × Int)} {D : Int}, (∀ p ∈ rs, D ≤ p.1) → ∀ x ∈ scR qs w rs, ((opn qs D : Int) : Rat) < x.1
  | [], _, _, x, hx => by cases hx
  | p :: rs, D, hl, x, hx => by
    have h1 := opn_le_q h (hl p (List.mem_cons_self ..))
    have h2 := ed_pos h hw (d := p.1)
    have h3 := ed_lt (qs := qs) (d := p.1) hw
    have h4 := opn_next h p.1
    rcases List.mem_cons.mp hx with e | hx
    · rw [e, pcA_1]; grind
    · rcases List.mem_cons.mp hx with e | hx
      · rw [e, pcL_opn]; grind
      · exact scR_gt h hw (fun q hq => hl q (List.mem_cons_of_mem _ hq)) x hx
theorem scR_asc {qs : List (Int × Int)} (h : GoodK qs) {w l : Int} (hw : WinOk w) : ∀ {rs : List (Int × Int)} {D : Int}, Rws qs D l rs → Asc (pcL qs D :: scR qs w rs)
  | [], D, _ => List.pairwise_cons.mpr ⟨fun x hx => (by cases hx), List.Pairwise.nil⟩
  | p :: rs, D, hr => by
    have ih := scR_asc h hw hr.tl
    have g := scR_gt h hw (D := p.1 + 1) (fun q hq => (hr.tl.lo q hq).1)
    have h3 := ed_lt (qs := qs) (d := p.1) hw
    have h4 := opn_next h p.1
    refine List.pairwise_cons.mpr ⟨fun x hx => ?_, List.pairwise_cons.mpr ⟨fun x hx => ?_, ih⟩⟩
    · exact scR_gt h hw (fun q hq => (hr.lo q hq).1) x hx
    · rw [pcA_1]
      rcases List.mem_cons.mp hx with e | hx
      · rw [e, pcL_opn]; grind
      · have := g x hx; grind
theorem smC_len {qs : List (Int × Int)} (hl : qs.length ≤ 60) (w f l : Int) : (smC qs w f l).length ≤ 121 := by
  unfold smC
  rw [List.length_cons, scR_len]
  have := List.length_filter_le (inFL f l) (srtP qs)
  rw [len_srtP] at this
  omega
theorem scR_sz {qs : List (Int × Int)} (h : GoodK qs) (hl : qs.length ≤ 60) {w l : Int} (hw : WinOk w) : ∀ {rs : List (Int × Int)} {D : Int}, DyC D → l ≤ 5999998 → Rws qs D l rs → Cz 6 6 17 (pcL qs D :: scR qs w rs)
  | rs, D, hD, hl', hr => fun x hx => by
    have one : Sz 17 ((1 : Int) : Rat) := (sz_int (bt_of (by decide) (by decide))).mono (by decide)
    rcases List.mem_cons.mp hx with e | hx
    · rw [e]; exact ⟨sz_o h hl hD, sz_d hD, one⟩
    · match rs, hr, hx with
      | p :: rs, hr, hx =>
        have pl := hr.lo p (List.mem_cons_self ..)
        have pk := hr.mem p (List.mem_cons_self ..)
        have dp : DyC p.1 := ⟨by have := hD.1; omega, by omega⟩
        have dn : DyC (p.1 + 1) := ⟨by have := hD.1; omega, by omega⟩
        have d1 := dp.1; have d2 := dp.2
        have b := opn_bd h hl p.1
        have L := dayL_bd h p.1
        have w1 := hw.1; have w2 := hw.2
        rcases List.mem_cons.mp hx with e | hx
        · rw [e]
          refine ⟨sz_int (bt_of (by omega) (by omega)), sz_int (bt_of (by omega) (by omega)), ?_⟩
          show Sz 17 (fr (w - p.2) w)
          rw [rt_row pk.1]; exact rt_sz h hw p.1
        · exact scR_sz h hl hw dn hl' hr.tl x hx
theorem smC_cw {qs : List (Int × Int)} (h : GoodK qs) (hl : qs.length ≤ 60) {w f l : Int} (hw : WinOk w) (hf : DyC f) (hl' : l ≤ 5999998) : Cz 6 6 17 (smC qs w f l) ∧ Cw 6 6 17 (smC qs w f l) := by
  have z := scR_sz h hl hw hf hl' (rws_of h f l)
  exact ⟨z, z, by decide, by have := smC_len hl w f l; omega⟩
/-! promises -/
def FLok (f l : Int) : Prop := -730119 ≤ f ∧ l ≤ 2921939
end DL

end
section
set_option Elab.async false
set_option linter.all false
set_option autoImplicit true
set_option maxRecDepth 100000
set_option maxHeartbeats 1000000
/-! covers: lists of spans in normal form -/
namespace DL
open PySem L2
open PyProof.Rows hiding St
def gapS (a b : Spn) : Prop := ∃ h l, a.2 = some h ∧ b.1 = some l ∧ h < l
structure Nrm (r : List Spn) : Prop where
  ord : ∀ s ∈ r, OrdS s
  gap : r.Pairwise gapS
def memS (r : List Spn) (t : Rat) : Bool := r.any (inS · t)
theorem Nrm.tl {a : Spn} {r : List Spn} (h : Nrm (a :: r)) : Nrm r := ⟨fun s hs => h.ord s (List.mem_cons_of_mem _ hs), (List.pairwise_cons.mp h.gap).2⟩
theorem Nrm.nil : Nrm [] := ⟨fun s hs => (by cases hs), List.Pairwise.nil⟩
/-! ### the walk of union_rows -/
def bgB (a b : Spn) : Bool := match a.1, b.1 with
  | none, _ => true
  | some _, none => false
  | some x, some y => decide (x ≤ y)
def SzR (k : Nat) (r : List Spn) : Prop := ∀ s ∈ r, SzS k s
theorem Nrm.drop {a : List Spn} (h : Nrm a) (i : Nat) : Nrm (a.drop i) := ⟨fun s hs => h.ord s (List.mem_of_mem_drop hs), h.gap.sublist (List.drop_sublist i a)⟩
structure UInv (a b rows : List Spn) (i j : Nat) : Prop where
  n : Nrm rows
  m : ∀ t, (memS rows t || (memS (a.drop i) t || memS (b.drop j) t)) = (memS a t || memS b t)
  bg : ∀ r, rows.getLast? = some r → ∀ x, (x ∈ a.drop i ∨ x ∈ b.drop j) → bgB r x = true
theorem UInv.swap {a b rows : List Spn} {i j : Nat} (h : UInv a b rows i j) : UInv b a rows j i := ⟨h.n, fun t => by rw [Bool.or_comm (memS (b.drop j) t), h.m, Bool.or_comm], fun r hr x hx => h.bg r hr x hx.symm⟩
theorem UInv.zero (a b : List Spn) : UInv a b [] 0 0 := ⟨Nrm.nil, fun t => rfl, fun r hr => by cases hr⟩
/-! promises -/
/-! any, the last item -/
theorem at_neg {α : Type} (rs : List α) (r : α) : atI (rs ++ [r]) (-1) = some r := by
  unfold atI ixN
  rw [if_neg (by decide), List.length_append, if_pos (by simp; omega)]
  have e : (-1 + ((rs.length + [r].length : Nat) : Int)).toNat = rs.length := by simp; omega
  show (rs ++ [r])[(-1 + ((rs.length + [r].length : Nat) : Int)).toNat]? = some r
  rw [e]; simp
section
variable {X : Cx} {n : Nm} {c : Cc} {Γ : SL} {e : Expr} {pos p : Pos} {k : AK}
end
end DL

end
section
set_option Elab.async false
set_option linter.all false
set_option autoImplicit true
set_option maxRecDepth 100000
set_option maxHeartbeats 1000000
/-! comprehensions over a range with a step -/
namespace DL
open PySem L2
open PyProof.Rows hiding St
section
variable {X : Cx} {n n' : Nm} {c : Cc} {Γ : SL} {a b d elt : Expr} {nm : Str} {scope : Scope} {pos p : Pos} {lo hi cc : Int}
end
/-! ### runs that are merged two by two -/
end DL

end
section
set_option Elab.async false
set_option linter.all false
set_option autoImplicit true
set_option maxRecDepth 100000
set_option maxHeartbeats 1000000
/-! covers: the law's side -/
namespace DL
open PySem L2
open PyProof.Rows hiding St
theorem SzR.mono {j k : Nat} {r : List Spn} (h : SzR j r) (e : j ≤ k) : SzR k r := fun s hs => (h s hs).mono e
theorem SzR.ends {k : Nat} {r : List Spn} (h : SzR k r) : ∀ q ∈ endsQ r, Sz k q := fun q hq => by
  obtain ⟨s, hs, hm⟩ := List.mem_flatMap.mp hq
  have := h s hs
  rcases List.mem_append.mp hm with hm | hm
  · exact this.1 q (by simpa using hm)
  · exact this.2 q (by simpa using hm)
theorem SzR.app {k : Nat} {a b : List Spn} (ha : SzR k a) (hb : SzR k b) : SzR k (a ++ b) := fun s hs => (List.mem_append.mp hs).elim (ha s) (hb s)
section
variable {X : Cx} {n : Nm} {c : Cc} {Γ : SL} {e a : Expr} {es : List Expr} {pos p : Pos} {cls : Str} {np : Nat} {G : List Par → List Par → List Par} {S : Sg}
end
end DL

end
section
set_option Elab.async false
set_option linter.all false
set_option autoImplicit true
set_option maxRecDepth 100000
set_option maxHeartbeats 1000000
/-! texts; drawn loops; operators and static methods of own classes -/
namespace DL
open PySem L2
open PyProof.Rows hiding St
section
variable {X : Cx} {n : Nm} {c : Cc} {Γ : SL} {a b e : Expr} {pos p p2 : Pos} {nm : Str} {De : DE} {k l : AK}
/-- for x in range(a number that is drawn) -/
theorem ws_forR1d (j : Nat) {body : List Stmt} {tp : Pos} (Inv : Nat → SL → Prop) (M : Nat → Prop) (hb : Blt X "range" (.type "range")) (jr : Nat) (h : WE X n c Γ a fun x Γ1 => ∃ m : Nat, x = .int (m : Int) ∧ m < 2 ^ 62 ∧ M m ∧ Inv 0 Γ1)
    (hs : ∀ m, M m → ∀ i Γ', i < m → Inv i Γ' → WB X n c (Γ'.set j (.d (.int (i : Int)))) body (turnE De (Inv (i + 1)))) (hd : ∀ m Γ', M m → Inv m Γ' → De.nx Γ') (hjr : n.GN[jr]? = some ("range" : Str) := by rfl) (hh : n.hot = false := by rfl) (hj : n.N[j]? = some nm := by rfl) (ha : n.as.contains j = true := by rfl) (hoi : n.oi.contains j = false := by rfl)
    (hst : starEach [a] X.env = [(false, eval a X.env)] := by exact se_1 rfl) (hf : ∀ x, foldedSetIterable (.Call (.Name "range" p) [a] [] p2) X.env x = pure x := by intro _; rfl) : WS X n c Γ (.For (.Name nm tp) (.Call (.Name "range" p) [a] [] p2) body [] pos) De := .mk fun hn σ R H s E ok => by
  obtain ⟨l1, l2⟩ := hn.loc j nm ha hj
  obtain ⟨g1, g2, g3⟩ := hn.gl jr _ hjr
  refine (ps_for hn.po (hn.calm hh) (pi_range1 g1 hb.mg (pa_cons pW pa_nil hst) hst) (pg_name (by rw [hn.eq]; exact hn.nd) (by rw [hn.eq]; exact hj) l1 l2) pWB hf).w (h.run hn σ R H s _ fun v R1 H1 x Γ1 s1 e1 r1 ⟨m, hx, h1, hM, p1⟩ => ?_)
  subst hx
  cases (show v = .int (m : Int) from r1)
  refine ⟨(m : Int), rfl, by omega, by omega, ?_⟩
  rw [show ((m : Nat) : Int).toNat = m from Int.toNat_natCast m]
  refine for_range (lo := 0) (n := m) (fun i σ' H' => ∃ R' Γ', SOk X.K c Γ' σ' R' H' ∧ Ex R1 R' ∧ Inv i Γ') ⟨R1, Γ1, s1, Ex.refl _, p1⟩ (fun i σ' H' hi ⟨R', Γ', s', e', p'⟩ => ?_) (fun σ' H' ⟨R', Γ', s', e', p'⟩ => ok.nx σ' R' H' Γ' s' (e1.trans e') (hd m Γ' hM p'))
  have e0 : (0 : Int) + (i : Int) = (i : Int) := Int.zero_add _
  rw [e0]
  exact (hs m hM i Γ' hi p').run hn _ R' H' (s'.setD j (x := .int (i : Int)) rfl (hn.noi hoi)) _ (turnE_ok ok (e1.trans e') fun σ2 R2 H2 Γ2 s2 e2 w => ⟨R2, Γ2, s2, e'.trans e2, w⟩)
/-! ### texts -/
theorem dop_addS : DOp X n c (binaryOp .Add) (fun x y Post => ∃ u w : Str, x = .str u ∧ y = .str w ∧ u.length + w.length ≤ sizeLine ∧ Post (.str (u ++ w))) := fun _ => ⟨_, op_add_str, fun Γ σ R H x y v w Post s hx hy ⟨i, j, e1, e2, hc, p⟩ Q q => by
  subst e1 e2
  exact ⟨i, j, hx.strV, hy.strV, hc, q _ R H (.str (i ++ j)) s (Ex.refl _) rfl p⟩⟩
theorem ev_addS {u w : Str} (ha : EV X n c Γ a (.str u)) (hb : EV X n c Γ b (.str w)) (hz : u.length + w.length ≤ sizeLine) : EV X n c Γ (.BinOp a .Add b pos) (.str (u ++ w)) :=
  ev_bin dop_addS (ek_d ha) (ek_d hb) rfl rfl fun _ z => ⟨u, w, rfl, rfl, hz, z⟩
theorem dc_strI : DCall X n c (.type "str") (fun xs Post => ∃ i : Int, xs = [.int i] ∧ i.natAbs.log2 < 1920 ∧ Post (.str (toString i))) := fun _ => ⟨_, call_str_int, fun Γ σ R H xs vs Post s hx ⟨i, e1, hc, p⟩ Q q => by
  subst e1
  obtain ⟨v, rfl, h1⟩ := hx.get1
  exact ⟨i, by rw [h1.int], hc, q _ R H (.str (Str.ofString (toString i))) s (Ex.refl _) rfl p⟩⟩
theorem ev_strI {i : Int} (hb : Blt X "str" (.type "str")) (j : Nat) (ha : EV X n c Γ e (.int i)) (hc : i.natAbs.log2 < 1920) (hj : n.GN[j]? = some ("str" : Str) := by rfl) (he : starEach [e] X.env = (false, eval e X.env) :: starEach [] X.env := by exact se_c rfl) (hpl : (backTo pos (starEach [] X.env)).any (·.1) = false := by exact se_any rfl) : EV X n c Γ (.Call (.Name "str" p) [e] [] pos) (.str (toString i)) :=
  ev_bty hb dc_strI j (ea_cons (ek_d ha) ea_nil he) (xs := [.int i]) (fun _ z => ⟨i, rfl, hc, z⟩) rfl hj he hpl
theorem we_sliceS {lo hi : Option Expr} {l1 h1 : Option Int} {Post : DL.D → SL → Prop} (ha : WK X n c Γ a fun k Γ1 => ∃ u, k.get Γ1 = some (.str u) ∧ u.length ≤ sizeLine ∧ EP1 X n c Γ1 lo l1 ∧ EP1 X n c Γ1 hi h1 ∧ Post (.str (cutS u l1 h1)) Γ1) : WE X n c Γ (.Subscript a (.Slice lo hi none p2) pos) Post := .mk fun hn σ R H s Q q =>
  (pe_slice sl_str pW pP1 pP1).w (ha.run hn σ R H s _ fun v R1 H1 k' Γ1 s1 e1 r1 ⟨u, ga, hz, hl, hh, hp⟩ => by
    exact hl.run hn s1 _ fun R2 H2 s2 e2 => hh.run hn s2 _ fun R3 H3 s3 e3 => by
      have := (((r1.mono e2).mono e3).wk s3 ga).strV
      subst this
      exact ⟨u, rfl, hz, q _ R3 H3 (.str (cutS u l1 h1)) _ s3 ((e1.trans e2).trans e3) rfl hp⟩)
theorem ev_sliceS {lo hi : Option Expr} {l1 h1 : Option Int} {u : Str} (ha : EV X n c Γ a (.str u)) (hz : u.length ≤ sizeLine) (hl : EP1 X n c Γ lo l1) (hh : EP1 X n c Γ hi h1) : EV X n c Γ (.Subscript a (.Slice lo hi none p2) pos) (.str (cutS u l1 h1)) :=
  we_sliceS (wk_ek (ek_d ha) ⟨u, rfl, hz, hl, hh, rfl, rfl⟩)
end
theorem cutS_len (z : Str) (lo hi : Option Int) : (cutS z lo hi).length ≤ z.length := by
  show (Array.size _) ≤ Array.size _
  unfold cutS
  rw [List.size_toArray, List.length_take, List.length_drop, Array.length_toList]
  exact Nat.le_trans (Nat.min_le_right _ _) (Nat.sub_le _ _)
theorem app_len (u w : Str) : (u ++ w).length = u.length + w.length := by
  show Array.size (u.cps ++ w.cps) = _
  rw [Array.size_append]; rfl
/-! ### a op b by an own class's method -/
/-! ### [e for a, b in xs if t] -/
section
variable {K : PySem.W.Frag} {c : Cc} {Γ Γ2 : SL} {σ σ2 : L2.St} {R H R' H' : Hp}
theorem SOk.leaveG (s : SOk K c Γ σ R H) (hk : ∀ i : Nat, Γ[i]? = some (.own .sto) → Γ2[i]? = some (.own .sto) ∧ σ2[i]? = σ[i]?) (s' : SOk K (inn Γ σ R H) Γ2 σ2 R' H') : SOk K c Γ σ R' H' := by
  have noM : ∀ a, ¬ (c.H0 a = none ∨ c.M a) → ¬ (inn Γ σ R H).M a := fun a h ⟨k, w4, w5⟩ => by
    obtain ⟨u', t1, b, t2, t3, t4, t5⟩ := s.sl k _ w4
    rw [w5] at t1; cases t1; cases t2
    exact h t5
  have un : ∀ a, H a ≠ none → R a = none → R' a = none := s'.un
  refine ⟨s'.rh, s.r0.trans s'.r0, fun a o n h => ?_, fun a h => s'.pr a (s.pr a h), fun a h1 h2 => un a (s.pr a h1) (s.un a h1 h2), s.len, fun i sl e => ?_, s.dj, s.oi⟩
  · refine s'.hm a o (noM a fun z => ?_) (s.hm a o n h)
    rcases z with z | z
    · rw [z] at h; cases h
    · exact n z
  · obtain ⟨o, q1, q2⟩ := s.sl i sl e
    refine ⟨o, q1, ?_⟩
    cases sl with
    | no => exact q2
    | any => exact q2
    | d y => obtain ⟨u, z1, z2⟩ := q2; exact ⟨u, z1, Rp.mono s'.r0 _ _ z2⟩
    | sc ns => obtain ⟨u, z1, z2⟩ := q2; exact ⟨u, z1, ex_l s'.r0 z2⟩
    | ex _ _ _ => exact ⟨q2.1, q2.2.mono s'.r0⟩
    | bx _ _ _ => obtain ⟨v, z1, z2⟩ := q2; exact ⟨v, z1, z2.mono s'.r0⟩
    | tn _ _ _ => obtain ⟨v, z1, z2⟩ := q2; exact ⟨v, z1, Rp.mono (ex_u s'.r0) _ _ z2⟩
    | lk _ => obtain ⟨b, ws, od, z1, z2, z3, z4⟩ := q2; exact ⟨b, ws, od, z1, z2, z3, z4.mono s'.r0⟩
    | w y => obtain ⟨u, z1, z2⟩ := q2; exact ⟨u, z1, z2.mono s'.r0 fun a o h1 h2 => s'.hm a o (noM a h1) h2⟩
    | own ob =>
      obtain ⟨a, z1, z2, z3, z4⟩ := q2
      refine ⟨a, z1, ?_, un a z2.there z3, z4⟩
      have keep : ob ≠ .sto → ∀ o, H a = some o → H' a = some o := fun hne o ho => s'.hm a o (fun ⟨k, w4, w5⟩ => by
        subst z1
        have := s.dj i k a ob .sto e w4 q1 w5
        subst this
        rw [e] at w4; cases w4; exact hne rfl) ho
      cases ob with
      | lst ds => exact z2.mono s'.r0 (keep (by simp))
      | dic ds => exact z2.mono s'.r0 (keep (by simp))
      | ins nm fs => exact z2.mono s'.r0 (keep (by simp))
      | lstA _ _ => exact z2.mono s'.r0 (keep (by simp))
      | lstV _ _ _ => exact z2.mono s'.r0 (keep (by simp))
      | dicA _ _ => exact z2.mono s'.r0 (keep (by simp))
      | sto =>
        obtain ⟨k1, k2⟩ := hk i e
        obtain ⟨u, t1, b, t2, t3, t4, t5⟩ := s'.sl i (.own .sto) k1
        rw [k2, q1] at t1
        cases t1; subst z1; cases t2
        exact t3
end
section
variable {X : Cx} {n n' : Nm} {c : Cc} {Γ : SL} {iter elt : Expr} {nx ny : Str} {scope : Scope} {pos px py tp : Pos} {kt : Nat} {k : AK} {ds : List DL.D}
structure LcOk2 (X : Cx) (n n' : Nm) (Γ : SL) (scope : Scope) (nx ny : Str) (i j : Nat) : Prop where
  sc : ∀ c, NOk X n c → BlkOk X.N X.env.scope scope [(nx, i), (ny, j)]
  in_ : scC scope n' = true
  eN : n'.N = n.N
  ek : n'.k = n.k
  el : n'.lc = []
  es : n'.sc = none
  eo : n'.oi = stoIx Γ
  as1 : n'.as.contains i = true
  as2 : n'.as.contains j = true
  hi : n.N[i]? = some nx
  hj : n.N[j]? = some ny
  no1 : ∀ o, Γ[i]? ≠ some (.own o)
  no2 : ∀ o, Γ[j]? ≠ some (.own o)
  ne : i ≠ j
  hot : n.hot = false
  hot' : n'.hot = false
abbrev in2 (Γ : SL) (i j : Nat) (d1 d2 : DL.D) : SL := ((Γ.map Slot.inn).set i (.d d1)).set j (.d d2)
abbrev g2 (K : PySem.W.Frag) (i j : Nat) : TG := gTup K 2 (gCons (gName i) (gCons (gName j) gNil))
end
end DL

end
section
set_option Elab.async false
set_option linter.all false
set_option autoImplicit true
set_option maxRecDepth 100000
set_option maxHeartbeats 1000000
/-! static methods, operators; votes -/
namespace DL
open PySem L2
open PyProof.Rows hiding St
/-- a static method without parameters, by its promise -/
structure CalS (X : Cx) (k : Nat) (cls m : Str) (S : Sg) : Prop where
  rm : Room k X.A
  mg : X.mg cls = some (.ref (He.ga X.K cls))
  rd : ClX.CRead X.K (He.ga X.K cls) (.type "type")
  ex : ∃ p g fd ps k0, FnOk X.prog X.w X.K X.mg X.base CX0 k0 g fd ps (spOf X.K S) ∧ k0 ≤ k ∧ PySem.W.findCls X.K (.ref (He.ga X.K cls)) (.type "type") m = some (.get (.builtin "staticmethod.__get__") (.ref p) .none (.ref (He.ga X.K cls))) ∧ (∃ rest, PySem.W.recIn X.K p "staticmethod" = some (.ref g :: rest)) ∧ PySem.W.keepIn X.K (.ref g) = true ∧ Binds X.K fd ps []
structure StatAt (K : PySem.W.Frag) (mg : Str → Option Value) (cls m : Str) (qual : Str) (st : Stmt) (ps : List Str) where
  fd : FuncData
  F : Fun K m qual st (He5.wf K (He.ga K cls) "staticmethod" m) fd
  fc : PySem.W.findCls K (.ref (He.ga K cls)) (.type "type") m = some (.get (.builtin "staticmethod.__get__") (.ref (He.ma K (He.ga K cls) m)) .none (.ref (He.ga K cls)))
  rc : ∃ rest, PySem.W.recIn K (He.ma K (He.ga K cls) m) "staticmethod" = some (.ref (He5.wf K (He.ga K cls) "staticmethod" m) :: rest)
  rd : ClX.CRead K (He.ga K cls) (.type "type")
  mg : mg cls = some (.ref (He.ga K cls))
  b : Binds K fd ps []
theorem StatAt.cal {X : Cx} {cls m qual : Str} {st : Stmt} {ps : List Str} {k k0 : Nat} {S : Sg} (d : StatAt X.K X.mg cls m qual st ps) (F : FnOk X.prog X.w X.K X.mg X.base CX0 k0 (He5.wf X.K (He.ga X.K cls) "staticmethod" m) d.fd ps (spOf X.K S)) (h : k0 ≤ k) (rm : Room k X.A) : CalS X k cls m S :=
  ⟨rm, d.mg, d.rd, _, _, d.fd, ps, k0, F, h, d.fc, d.rc, d.F.kp, d.b⟩
section
variable {X : Cx} {n : Nm} {c : Cc} {Γ : SL} {a b e : Expr} {pos p apos : Pos} {cls m : Str} {S : Sg} {k l : AK} {fs gs : List (Str × DL.D)}
/-- xs[::-1] -/
theorem eo_rev {xs : List DL.D} {k1 : Nat} {p1 p2 p3 : Pos} (ha : EK X n c Γ e k) (ga : k.get Γ = some (.lst xs) := by rfl) : EO X n c Γ (.Subscript e (.Slice none none (some (.UnaryOp .USub (.Constant (.int 1) k1 p1) p2)) p3) pos) (.lst xs.reverse) := .mk fun hn σ R H s Q q =>
  (pe_revL pW).w (ha.run hn σ R H s _ fun v R1 H1 k' Γ1 s1 e1 r1 ⟨g1, g2⟩ => by
    subst g1 g2
    obtain ⟨a1, vs, rfl, h2, h3⟩ := (r1.wk s1 ga).lst s1.rh
    refine ⟨a1, vs, rfl, .inl (.inl h2), fun m hm => ?_⟩
    have g := s1.newOwn (.lst vs.reverse) hm
    exact q _ _ _ (.lst xs.reverse) _ (s1.grow g) (e1.trans g.r) (.fresh s1 hm ⟨_, upd_same, h3.reverse⟩) ⟨rfl, rfl⟩)
end
/-! ### votes -/
abbrev Vt := Str × Spn
def dep (vs : List Vt) (t : Rat) : Nat := (vs.filter fun v => inS v.2 t).length
def VtOk (k : Nat) (vs : List Vt) : Prop := ∀ v ∈ vs, OrdS v.2 ∧ SzS k v.2 ∧ v.1.length ≤ 100
def cnt (E : List (Bool × Rat)) (t : Rat) : Int := match E with
  | [] => 0
  | (true, x) :: E => (if x ≤ t then 1 else 0) + cnt E t
  | (false, y) :: E => (if y < t then -1 else 0) + cnt E t
def Asn (qs : List Rat) : Prop := qs.Pairwise fun a b => a ≤ b
theorem Asn.ge {a : Rat} {qs : List Rat} (h : Asn (a :: qs)) : ∀ x ∈ a :: qs, a ≤ x := fun x hx => by
  rcases List.mem_cons.mp hx with e | hx
  · rw [e]; exact Rat.le_refl
  · exact (List.pairwise_cons.mp h).1 x hx
/-! promises -/
structure NamesOk (m : Nat) (ns : List Str) : Prop where
  len : ns.length = m
  sz : ∀ s ∈ ns, s.length ≤ 40
/-! helpers -/
theorem VtOk.mono {j k : Nat} {vs : List Vt} (h : VtOk j vs) (e : j ≤ k) : VtOk k vs := fun v hv => ⟨(h v hv).1, (h v hv).2.1.mono e, (h v hv).2.2⟩
theorem str_at {w : Str} {k : Nat} (h : k < w.length) (hz : w.length ≤ sizeLine) : ∃ ch : Str, (DL.D.str w).at (k : Int) = some (.str ch) ∧ ch.length = 1 := by
  obtain ⟨z, hz2⟩ : ∃ z, w.cps.toList[k]? = some z := ⟨_, List.getElem?_eq_getElem (by rw [Array.length_toList]; exact h)⟩
  refine ⟨⟨#[z]⟩, ?_, rfl⟩
  show (if w.length ≤ sizeLine then (atI w.cps.toList (k : Int)).map fun c => DL.D.str ⟨#[c]⟩ else none) = _
  rw [if_pos hz, atI_nat hz2]; rfl
section
variable {X : Cx} {n : Nm} {c : Cc} {Γ : SL} {e : Expr} {pos p p1 : Pos} {nm sn : Str}
end
def unStr : DL.D → Str
  | .str u => u
  | _ => ""
theorem perm_str {ys : List DL.D} {qs : List Str} (h : ys.Perm (qs.map DL.D.str)) : ∃ rs : List Str, ys = rs.map DL.D.str ∧ rs.Perm qs := by
  refine ⟨ys.map unStr, ?_, ?_⟩
  · rw [List.map_map]
    have : ∀ y ∈ ys, (DL.D.str ∘ unStr) y = y := fun y hy => by
      obtain ⟨q, _, rfl⟩ := List.mem_map.mp (h.mem_iff.mp hy)
      rfl
    rw [List.map_congr_left this, List.map_id']
  · have h2 := h.map unStr
    rw [List.map_map] at h2
    have : ∀ q ∈ qs, (unStr ∘ DL.D.str) q = q := fun q _ => rfl
    rwa [List.map_congr_left this, List.map_id'] at h2
end DL

end
section
set_option Elab.async false
set_option linter.all false
set_option autoImplicit true
set_option maxRecDepth 100000
set_option maxHeartbeats 1000000
/-! probes that tell all; the greatest depth -/
namespace DL
open PySem L2
open PyProof.Rows hiding St
/-! ### probes -/
def Tells (qs ts : List Rat) : Prop := ∀ x : Rat, ∃ t ∈ ts, ∀ q ∈ qs, (q < x ↔ q < t) ∧ (x < q ↔ t < q)
theorem fr12_eq : fr 1 2 = (1 / 2 : Rat) := by rw [fr_div]; rfl
structure PrOk (out ts : List Rat) (j : Nat) : Prop where
  e : ∀ i z, i < j → out[i]? = some z → z ∈ ts
  m : ∀ i a b, i < j → out[i]? = some a → out[i + 1]? = some b → (a + b) * fr 1 2 ∈ ts
  lo : ∀ a, out[0]? = some a → a - fr 1 1 ∈ ts
theorem PrOk.nil {out : List Rat} {y : Rat} (h : out[0]? = some y) : PrOk out [y - fr 1 1] 0 := ⟨fun i z hi => absurd hi (Nat.not_lt_zero _), fun i a b hi => absurd hi (Nat.not_lt_zero _), fun a ha => by
  rw [h] at ha
  rw [← Option.some.inj ha]; exact List.mem_cons_self ..⟩
theorem Tells.sub {a b ts : List Rat} (h : Tells b ts) (e : ∀ q ∈ a, q ∈ b) : Tells a ts := fun x => by
  obtain ⟨t, ht, hq⟩ := h x
  exact ⟨t, ht, fun q hq' => hq q (e q hq')⟩
/-! ### spans in lists -/
section
variable {X : Cx} {n : Nm} {c : Cc} {Γ : SL} {a b : Expr} {pos : Pos} {k l : AK}
end
section
variable {X : Cx} {n n' : Nm} {c : Cc} {Γ : SL} {iter elt : Expr} {nx ny : Str} {scope : Scope} {pos px py tp : Pos} {kt : Nat} {k : AK} {ds : List DL.D}
end
/-! ### the greatest depth -/
def Gr (vs : List Vt) (N : Nat) : Prop := (∀ t, dep vs t ≤ N) ∧ ∃ t, dep vs t = N
theorem Gr.mem {vs : List Vt} {N : Nat} (h : Gr vs N) (t : Rat) : decide ((N : Int) ≤ (dep vs t : Int)) = decide ((dep vs t : Int) = (N : Int)) := by
  have := h.1 t
  exact decide_eq_decide.mpr (by omega)
theorem Gr.ne {vs : List Vt} {N : Nat} {r : List Spn} (h : Gr vs N) (m : ∀ t, memS r t = decide ((N : Int) ≤ (dep vs t : Int))) : r ≠ [] := fun z => by
  obtain ⟨t, ht⟩ := h.2
  have := m t
  rw [z, ht, decide_eq_true (Int.le_refl _)] at this
  cases this
end DL

end
section
set_option Elab.async false
set_option linter.all false
set_option autoImplicit true
set_option maxRecDepth 100000
set_option maxHeartbeats 1000000
/-! names that differ; sorted names; a comprehension over an own instance; outliers -/
namespace DL
open PySem L2
open PyProof.Rows hiding St
/-! ### texts by their code points -/
def cL (s : Str) : List Nat := s.cps.toList
theorem app_cL (a b : Str) : cL (a ++ b) = cL a ++ cL b := Array.toList_append
theorem cL_inj {a b : Str} (h : cL a = cL b) : a = b := by
  obtain ⟨a⟩ := a
  obtain ⟨b⟩ := b
  exact congrArg Str.mk (Array.toList_inj.mp h)
theorem cL_len (s : Str) : (cL s).length = s.length := Array.length_toList
theorem str_at' {w : Str} {k : Nat} (h : k < w.length) (hz : w.length ≤ sizeLine) : ∃ z : Nat, (cL w)[k]? = some z ∧ (DL.D.str w).at (k : Int) = some (.str ⟨#[z]⟩) := by
  obtain ⟨z, hz2⟩ : ∃ z, w.cps.toList[k]? = some z := ⟨_, List.getElem?_eq_getElem (by rw [Array.length_toList]; exact h)⟩
  refine ⟨z, hz2, ?_⟩
  show (if w.length ≤ sizeLine then (atI w.cps.toList (k : Int)).map fun c => DL.D.str ⟨#[c]⟩ else none) = _
  rw [if_pos hz, atI_nat hz2]; rfl
theorem dig_cL : ∀ q : Nat, q < 10 → cL (Str.ofString (toString ((q : Nat) : Int))) = [48 + q] := by decide +kernel
/-! ### names -/
def sgN (big : Bool) (mu : Str) (fi sp i : Nat) : List Nat := ((cL mu)[(fi + i * sp) % mu.length]?).toList ++ (if big then [48 + i / mu.length] else [])
def NmAt (P : Str) (big : Bool) (mu : Str) (fi sp : Nat) (i : Nat) (s : Str) : Prop := (∃ T, cL s = cL P ++ sgN big mu fi sp i ++ T) ∨ (i = 0 ∧ s = P)
def StepOk (sp : Nat) : Prop := sp = 1 ∨ sp = 5 ∨ sp = 7 ∨ sp = 11 ∨ sp = 17 ∨ sp = 19 ∨ sp = 23 ∨ sp = 25
structure MenuOk (mu : Str) : Prop where
  len : mu.length = 26 ∨ mu.length = 36
  nd : (cL mu).Nodup
structure NmsOk (P : Str) (big : Bool) (mu : Str) (fi sp m : Nat) (ns : List Str) : Prop where
  len : ns.length = m
  sz : ∀ s ∈ ns, s.length ≤ 40
  at_ : ∀ i s, ns[i]? = some s → NmAt P big mu fi sp i s
theorem NmsOk.nil {P : Str} {big : Bool} {mu : Str} {fi sp : Nat} : NmsOk P big mu fi sp 0 [] := ⟨rfl, fun s h => (by cases h), fun i s h => by cases h⟩
theorem NmsOk.snoc {P : Str} {big : Bool} {mu : Str} {fi sp m : Nat} {ns : List Str} {s : Str} (h : NmsOk P big mu fi sp m ns) (hs : s.length ≤ 40) (ha : NmAt P big mu fi sp m s) : NmsOk P big mu fi sp (m + 1) (ns ++ [s]) := by
  refine ⟨by rw [List.length_append, h.len]; rfl, fun x hx => ?_, fun i x hx => ?_⟩
  · rcases List.mem_append.mp hx with z | z
    · exact h.sz x z
    · rw [List.mem_singleton.mp z]; exact hs
  · rcases Nat.lt_or_ge i ns.length with c | c
    · rw [List.getElem?_append_left c] at hx; exact h.at_ i x hx
    · rw [List.getElem?_append_right c] at hx
      have hi : i - ns.length = 0 := by
        have := (List.getElem?_eq_some_iff.mp hx).1
        rw [List.length_singleton] at this; omega
      rw [hi] at hx
      cases hx
      have : i = m := by rw [← h.len]; omega
      rw [this]; exact ha
theorem step_mod {sp fi i j L : Nat} (hs : StepOk sp) (hL : L = 26 ∨ L = 36) (h : (fi + i * sp) % L = (fi + j * sp) % L) : i % L = j % L := by
  rcases hL with rfl | rfl <;> rcases hs with rfl | rfl | rfl | rfl | rfl | rfl | rfl | rfl <;> omega
theorem sg_some {big : Bool} {mu : Str} {fi sp i : Nat} (hm : MenuOk mu) : ∃ z, (cL mu)[(fi + i * sp) % mu.length]? = some z ∧ sgN big mu fi sp i = z :: (if big then [48 + i / mu.length] else []) := by
  have h0 : 0 < mu.length := by rcases hm.len with h | h <;> omega
  have h1 : (fi + i * sp) % mu.length < (cL mu).length := by rw [cL_len]; exact Nat.mod_lt _ h0
  exact ⟨_, List.getElem?_eq_getElem h1, by unfold sgN; rw [List.getElem?_eq_getElem h1]; rfl⟩
theorem NmsOk.nodup {P : Str} {big : Bool} {mu : Str} {fi sp m : Nat} {ns : List Str} (h : NmsOk P big mu fi sp m ns) (hm : MenuOk mu) (hs : StepOk sp) (hb : big = decide (26 < m)) : ns.Nodup := by
  refine List.pairwise_iff_getElem.mpr fun i j hi hj hij e => ?_
  have hjm : j < m := by rw [← h.len]; exact hj
  have h0 : 0 < mu.length := by rcases hm.len with h | h <;> omega
  have h1 := h.at_ i _ (List.getElem?_eq_getElem hi)
  have h2 := h.at_ j _ (List.getElem?_eq_getElem hj)
  rw [← e] at h2
  generalize ns[i] = s at h1 h2
  obtain ⟨z1, a1, b1⟩ := sg_some (big := big) (fi := fi) (sp := sp) (i := i) hm
  obtain ⟨z2, a2, b2⟩ := sg_some (big := big) (fi := fi) (sp := sp) (i := j) hm
  rcases h2 with ⟨T2, h2⟩ | ⟨h2, _⟩
  · rcases h1 with ⟨T1, h1⟩ | ⟨_, rfl⟩
    · rw [h1, List.append_assoc, List.append_assoc] at h2
      have h3 := List.append_cancel_left h2
      rw [b1, b2, List.cons_append, List.cons_append] at h3
      obtain ⟨z12, h4⟩ := List.cons.inj h3
      subst z12
      have hk : (fi + i * sp) % mu.length = (fi + j * sp) % mu.length := by
        obtain ⟨d1, d2⟩ := List.getElem?_eq_some_iff.mp a1
        exact (List.getElem?_inj d1 hm.nd).mp (a1.trans a2.symm)
      have hk := step_mod hs hm.len hk
      cases big with
      | true =>
        have h5 : 48 + i / mu.length = 48 + j / mu.length := (List.cons.inj h4).1
        have e1 := Nat.div_add_mod i mu.length
        have e2 := Nat.div_add_mod j mu.length
        have e3 : i / mu.length = j / mu.length := by omega
        rw [e3, hk] at e1
        omega
      | false =>
        have : ¬ 26 < m := by simpa using hb.symm
        rcases hm.len with h | h <;> rw [h] at hk <;> omega
    · have := congrArg List.length h2
      rw [b2, List.length_append, List.length_append, List.length_cons] at this
      omega
  · omega
/-! ### sorted -/
theorem lt_asym : ∀ {a b : List Nat}, Spec.ltCps a b = false → Spec.ltCps b a = false → a = b
  | [], [], _, _ => rfl
  | [], _ :: _, h, _ => by cases h
  | _ :: _, [], _, h => by cases h
  | x :: a, y :: b, h, g => by
    simp only [Spec.ltCps, Bool.or_eq_false_iff, Bool.and_eq_false_iff, decide_eq_false_iff_not, beq_eq_false_iff_ne] at h g
    have e : x = y := by omega
    subst e
    rw [lt_asym (h.2.resolve_left (by simp)) (g.2.resolve_left (by simp))]
theorem lt_asym' : ∀ {a b : List Nat}, Spec.ltCps a b = true → Spec.ltCps b a = false
  | [], [], h => by cases h
  | [], _ :: _, _ => rfl
  | _ :: _, [], h => by cases h
  | x :: a, y :: b, h => by
    simp only [Spec.ltCps, Bool.or_eq_true, Bool.and_eq_true, decide_eq_true_eq, beq_iff_eq] at h
    simp only [Spec.ltCps, Bool.or_eq_false_iff, Bool.and_eq_false_iff, decide_eq_false_iff_not, beq_eq_false_iff_ne]
    rcases h with h | ⟨h1, h2⟩
    · exact ⟨by omega, .inl (by omega)⟩
    · exact ⟨by omega, .inr (lt_asym' h2)⟩
theorem lt_trans : ∀ {a b c : List Nat}, Spec.ltCps b a = false → Spec.ltCps c b = false → Spec.ltCps c a = false
  | [], _, [], _, _ => rfl
  | [], _, _ :: _, _, _ => rfl
  | _ :: _, [], _, h, _ => by cases h
  | _ :: _, _ :: _, [], _, h => by cases h
  | x :: a, y :: b, z :: c, h, g => by
    simp only [Spec.ltCps, Bool.or_eq_false_iff, Bool.and_eq_false_iff, decide_eq_false_iff_not, beq_eq_false_iff_ne] at h g ⊢
    refine ⟨by omega, ?_⟩
    by_cases e : z = x
    · right
      exact lt_trans (h.2.resolve_left (by omega)) (g.2.resolve_left (by omega))
    · exact .inl e
theorem rising_pw : ∀ {x : Str} {r : List Str}, risingS x r = true → (x :: r).Pairwise fun a b => Spec.ltCps (cL b) (cL a) = false
  | x, [], _ => List.pairwise_singleton ..
  | x, y :: r, h => by
    have h' : (!Spec.ltCps (cL y) (cL x) && risingS y r) = true := h
    rw [Bool.and_eq_true, Bool.not_eq_true'] at h'
    have ih := rising_pw h'.2
    refine List.pairwise_cons.mpr ⟨fun z hz => ?_, ih⟩
    rcases List.mem_cons.mp hz with rfl | hz
    · exact h'.1
    · exact lt_trans h'.1 ((List.pairwise_cons.mp ih).1 z hz)
theorem sorted_pw {l : List Str} (h : sortedS l = true) : l.Pairwise fun a b => Spec.ltCps (cL b) (cL a) = false := by
  cases l with
  | nil => exact List.Pairwise.nil
  | cons x r => exact rising_pw h
theorem srt_uniq {a b : List Str} (p : a.Perm b) (ha : sortedS a = true) (hb : sortedS b = true) : a = b :=
  p.eq_of_pairwise (fun x y _ _ h1 h2 => cL_inj (lt_asym h2 h1)) (sorted_pw ha) (sorted_pw hb)
open Classical in
noncomputable def srtS (l : List Str) : List Str := if h : ∃ y : List Str, y.Perm l ∧ sortedS y = true then Classical.choose h else l
theorem srt_eq {y l : List Str} (p : y.Perm l) (h : sortedS y = true) : y = srtS l := by
  have e : ∃ y : List Str, y.Perm l ∧ sortedS y = true := ⟨y, p, h⟩
  unfold srtS
  rw [dif_pos e]
  exact srt_uniq (p.trans (Classical.choose_spec e).1.symm) h (Classical.choose_spec e).2
theorem ex_srt (l : List Str) : ∃ y : List Str, y.Perm l ∧ sortedS y = true := by
  refine ⟨l.mergeSort fun a b => !Spec.ltCps (cL b) (cL a), List.mergeSort_perm _ _, sortedS_of_pairwise _ ?_⟩
  have h := List.pairwise_mergeSort (le := fun a b : Str => !Spec.ltCps (cL b) (cL a)) (fun a b c h1 h2 => ?_) (fun a b => ?_) l
  · exact h.imp fun {a b} e => by
      have e' : (!Spec.ltCps (cL b) (cL a)) = true := e
      rw [Bool.not_eq_true'] at e'
      exact e'
  · have h1' : Spec.ltCps (cL b) (cL a) = false := by simpa using h1
    have h2' : Spec.ltCps (cL c) (cL b) = false := by simpa using h2
    show (!Spec.ltCps (cL c) (cL a)) = true
    rw [lt_trans h1' h2']; rfl
  · show ((!Spec.ltCps (cL b) (cL a)) || (!Spec.ltCps (cL a) (cL b))) = true
    cases e : Spec.ltCps (cL b) (cL a) with
    | false => rfl
    | true => rw [lt_asym' e]; rfl
theorem srt_mem {a : List Str} {x : Str} : x ∈ srtS a ↔ x ∈ a := by
  obtain ⟨y, h1, h2⟩ := ex_srt a
  rw [← srt_eq h1 h2]; exact h1.mem_iff
theorem srt_len (a : List Str) : (srtS a).length = a.length := by
  obtain ⟨y, h1, h2⟩ := ex_srt a
  rw [← srt_eq h1 h2]; exact h1.length_eq
theorem rpl_strs {K : PySem.W.Frag} {R : Hp} : ∀ {ks : List Str} {vs : List V}, RpL K R (ks.map DL.D.str) vs → vs = ks.map V.str
  | [], _, h => by cases (show _ = _ from h); rfl
  | k :: ks, _, ⟨v, ws, e, r1, r2⟩ => by
    subst e
    cases (show v = _ from r1)
    rw [rpl_strs r2]; rfl
theorem RpL_strs {K : PySem.W.Frag} {R : Hp} : ∀ {ks : List Str}, RpL K R (ks.map DL.D.str) (ks.map V.str)
  | [] => rfl
  | k :: ks => ⟨_, _, rfl, rfl, RpL_strs⟩
section
variable {X : Cx} {n : Nm} {c : Cc} {Γ : SL}
/-- sorted of a list of texts, fewer than 64 -/
theorem dc_sortedS : DCallO X n c (.builtin "sorted") (fun xs Post => ∃ ss : List Str, xs = [.lst (ss.map DL.D.str)] ∧ ss.length < 64 ∧ ∀ ys : List Str, ys.Perm ss → sortedS ys = true → Post (.lst (ys.map DL.D.str))) := fun hn => by
  refine ⟨_, cr_sortedS, fun Γ σ R H xs vs Post s hw ⟨ss, e1, h2, po⟩ Q q => ?_⟩
  subst e1
  obtain ⟨v, rfl, w⟩ := hw.get1
  obtain ⟨a, ws, rfl, h4, h5⟩ := w.lst s.rh
  rw [rpl_strs h5] at h4
  exact ⟨a, ss, rfl, .inl (.inl h4), h2, fun ys p' q1 q2 q3 => q _ R _ (.lst (ys.map DL.D.str)) (s.grow (s.newOwn _ q3)) (Ex.refl _) (.fresh s q3 ⟨_, upd_same, RpL_strs⟩) (po ys q1 q2)⟩
end
/-! ### a comprehension over an own instance -/
section
variable {X : Cx} {n n' : Nm} {c : Cc} {Γ : SL} {iter elt : Expr} {nm : Str} {scope : Scope} {pos : Pos} {k : AK} {ds : List DL.D} {cls fl : Str} {fs : List (Str × DL.D)}
end
theorem pl_strs {ss : List Str} (h : ss.length ≤ 100000) (k : Nat) : (DL.D.lst (ss.map DL.D.str)).pl (k + 2) := ⟨by rw [List.length_map]; exact h, fun d hd => by
  obtain ⟨s, _, rfl⟩ := List.mem_map.mp hd
  cases k <;> trivial⟩
/-! ### outliers -/
end DL

end
section
set_option Elab.async false
set_option linter.all false
set_option autoImplicit true
set_option maxRecDepth 100000
set_option maxHeartbeats 1000000
/-! operators of covers: meeting rows, the nearest time, sizes -/
namespace DL
open PySem L2
open PyProof.Rows hiding St
theorem Nrm.snoc {rows : List Spn} {m : Spn} (h : Nrm rows) (om : OrdS m) (g : ∀ r, rows.getLast? = some r → gapS r m) : Nrm (rows ++ [m]) := by
  rcases List.eq_nil_or_concat rows with e | ⟨rs, r, e⟩
  · subst e
    exact ⟨fun s hs => by rw [List.mem_singleton.mp hs]; exact om, List.pairwise_singleton ..⟩
  · rw [List.concat_eq_append] at e
    subst e
    have gr := g r (by simp)
    have pw := List.pairwise_append.mp h.gap
    refine ⟨fun s hs => ?_, List.pairwise_append.mpr ⟨h.gap, List.pairwise_singleton .., fun s hs x hx => ?_⟩⟩
    · rcases List.mem_append.mp hs with z | z
      · exact h.ord s z
      · rw [List.mem_singleton.mp z]; exact om
    · rw [List.mem_singleton.mp hx]
      rcases List.mem_append.mp hs with z | z
      · obtain ⟨h1, l1, e1, e2, lt1⟩ := pw.2.2 s z r (by simp)
        obtain ⟨h2, l2, e3, e4, lt2⟩ := gr
        have := h.ord r (by simp) l1 h2 e2 e3
        exact ⟨h1, l2, e1, e4, by grind⟩
      · rw [List.mem_singleton.mp z]; exact gr
structure MInv (a b rows : List Spn) (i j : Nat) : Prop where
  n : Nrm rows
  m : ∀ t, (memS rows t || (memS (a.drop i) t && memS (b.drop j) t)) = (memS a t && memS b t)
  bg : ∀ r, rows.getLast? = some r → ∀ x ∈ a.drop i, ∀ y ∈ b.drop j, gapS r x ∨ gapS r y
theorem MInv.swap {a b rows : List Spn} {i j : Nat} (h : MInv a b rows i j) : MInv b a rows j i :=
  ⟨h.n, fun t => by rw [Bool.and_comm (memS (b.drop j) t), Bool.and_comm (memS b t)]; exact h.m t, fun r hr x hx y hy => (h.bg r hr y hy x hx).symm⟩
theorem MInv.zero (a b : List Spn) : MInv a b [] 0 0 := ⟨Nrm.nil, fun t => rfl, fun r h => by cases h⟩
/-! the normal form of both, of one -/
/-! moved rows -/
/-! sizes -/
/-! the nearest time -/
end DL

end
section
set_option Elab.async false
set_option linter.all false
set_option autoImplicit true
set_option maxRecDepth 100000
set_option maxHeartbeats 1000000
/-! operators of own classes as values; promises of k05 -/
namespace DL
open PySem L2
open PyProof.Rows hiding St
section
variable {X : Cx} {n : Nm} {c : Cc} {Γ : SL} {a b e o : Expr} {pos p apos : Pos} {cls m : Str} {S : Sg} {k l : AK} {fs gs : List (Str × DL.D)} {z : DL.D}
end
theorem Nrm.take {r : List Spn} (h : Nrm r) (i : Nat) : Nrm (r.take i) := ⟨fun s hs => h.ord s (List.mem_of_mem_take hs), h.gap.sublist (List.take_sublist i r)⟩
end DL

end
section
set_option Elab.async false
set_option linter.all false
set_option autoImplicit true
set_option maxRecDepth 100000
set_option maxHeartbeats 1000000
/-! pairs (number, text) in order; sum; del xs[i] -/
namespace DL
open PySem L2
open PyProof.Rows hiding St
section
variable {X : Cx} {n : Nm} {c : Cc} {Γ : SL} {a b e : Expr} {pos p : Pos} {k l : AK}
/-- sum of a list of integers -/
theorem dc_sum (hh : n.hot = false := by rfl) : DCall X n c (.builtin "sum") (fun xs Post => ∃ ns : List Int, xs = [.lst (ns.map DL.D.int)] ∧ Post (.int ns.sum)) := fun hn => ⟨_, cr_sum (hn.calm hh), fun Γ σ R H xs vs Post s hx ⟨ns, e1, p⟩ Q q => by
  subst e1
  obtain ⟨v, rfl, h1⟩ := hx.get1
  obtain ⟨a, vs, rfl, h2, h3⟩ := h1.lst s.rh
  rw [rpl_ints h3] at h2
  exact ⟨a, ns, rfl, .inl (.inl h2), q (.int ns.sum) R H (.int ns.sum) s (Ex.refl _) rfl p⟩⟩
theorem ev_sum {ns : List Int} (hb : Blt X "sum" (.builtin "sum")) (j : Nat) (ha : EK X n c Γ e k) (hg : k.get Γ = some (.lst (ns.map DL.D.int))) (hh : n.hot = false := by rfl) (hj : n.GN[j]? = some ("sum" : Str) := by rfl)
    (he : starEach [e] X.env = (false, eval e X.env) :: starEach [] X.env := by exact se_c rfl) (hpl : (backTo pos (starEach [] X.env)).any (·.1) = false := by exact se_any rfl) : EV X n c Γ (.Call (.Name "sum" p) [e] [] pos) (.int ns.sum) :=
  ev_blt hb (dc_sum hh) j (ea_cons ha ea_nil he) (fun Post h => ⟨ns, rfl, h⟩) (by simp [gets, hg]) hj he hpl
/-! max of a list of such pairs -/
end
section
variable {X : Cx} {n n' : Nm} {c : Cc} {Γ : SL} {iter elt : Expr} {nx ny : Str} {scope : Scope} {pos px py tp : Pos} {kt : Nat} {k : AK} {ds : List DL.D}
variable {e1' e2' : Expr} {k1 k2 : AK} {p pos2 : Pos} {d1s d2s : List DL.D}
end
section
variable {X : Cx} {n : Nm} {c : Cc} {Γ : SL} {b : Expr} {nm : Str} {p pos : Pos} {De : DE}
end
/-! ### global defs with keyword-only defaults -/
structure CalG (X : Cx) (k : Nat) (nm : Str) (np : Nat) (kns : List Str) (G : List Par → List Par → List Par) (S : SgX) : Prop where
  rm : Room k X.A
  ex : ∃ f fd ps k0 g gV, FnOk X.prog X.w X.K X.mg X.base (L2N.CX X.prog X.w) k0 f fd ps (spOfX X.K S) ∧ k0 ≤ k ∧ X.mg nm = some (.ref f) ∧ PySem.W.keepIn X.K (.ref f) = true ∧ KBn X.K fd ps np kns g gV ∧
    ∀ M R H vs zs pv pz, ParsOk X.K M R H pv vs → ParsOk X.K M R H pz zs → pv.length = np → pz.length = kns.length → parOi 0 pv = [] → parOi 0 pz = [] → ∃ us, gV vs zs = us ∧ ParsOk X.K M R H (G pv pz) us ∧ parOi 0 (G pv pz) = []
theorem CalG.tr {X : Cx} {k : Nat} {nm : Str} {np : Nat} {kns : List Str} {G : List Par → List Par → List Par} {S : SgX} {pn : List (Addr × Obj)} {xe : Value → Shared → Prop} (h : CalG X k nm np kns G S) : CalG (X.tr pn xe) k nm np kns G S := ⟨h.rm, h.ex⟩
section
variable {X : Cx} {n : Nm} {c : Cc} {Γ : SL} {e : Expr} {es : List Expr} {kws : List Keyword} {pos p : Pos} {nm : Str} {np : Nat} {kns : List Str} {G : List Par → List Par → List Par} {S : SgX}
end
end DL

end
section
set_option Elab.async false
set_option linter.all false
set_option autoImplicit true
set_option maxRecDepth 100000
set_option maxHeartbeats 1000000
/-! votes with two ends: thinned, weighed -/
namespace DL
open PySem L2
open PyProof.Rows hiding St
abbrev FV := Str × Rat × Rat
def midF (f : FV) : Rat := (f.2.1 + f.2.2) * fr 1 2
/-! ### whole numbers over a common line -/
/-! ### the middle that balances -/
end DL

end
section
set_option Elab.async false
set_option linter.all false
set_option autoImplicit true
set_option maxRecDepth 100000
set_option maxHeartbeats 1000000
/-! k30: sizes, promises -/
namespace DL
open PySem L2
open PyProof.Rows hiding St
section
variable {X : Cx} {n : Nm} {c : Cc} {Γ : SL} {e : Expr} {k : AK} {ds : List DL.D}
end
abbrev BB : Rat := 8589934592
def EndG (b : Rat) (s : Spn) : Prop := (∀ x, s.1 = some x → La 120 b x) ∧ ∀ x, s.2 = some x → La 120 b x
def VtG (b : Rat) (vs : List Vt) : Prop := ∀ v ∈ vs, OrdS v.2 ∧ EndG b v.2 ∧ v.1.length ≤ 100
def HalfQ (b : Nat) (q : Rat) : Prop := ∃ i : Int, q = fr i 2 ∧ -(b : Int) ≤ i ∧ i ≤ (b : Int)
def HalfS (b : Nat) (s : Spn) : Prop := (∀ x, s.1 = some x → HalfQ b x) ∧ ∀ x, s.2 = some x → HalfQ b x
def FG (fs : List FV) : Prop := ∀ f ∈ fs, f.2.1 ≤ f.2.2 ∧ La 120 BB f.2.1 ∧ La 120 BB f.2.2
theorem La.s7 {q : Rat} (h : La 120 BB q) : Sz 7 q := h.sz (by decide) (by
  show (8589934592 : Rat) ≤ ((2 ^ 49 : Nat) : Rat)
  decide +kernel)
theorem VtG.sz {vs : List Vt} (h : VtG BB vs) {v : Vt} (hv : v ∈ vs) : SzS 7 v.2 := ⟨fun x hx => ((h v hv).2.1.1 x hx).s7, fun x hx => ((h v hv).2.1.2 x hx).s7⟩
theorem FG.sub {a b : List FV} (h : FG b) (s : ∀ f ∈ a, f ∈ b) : FG a := fun f hf => h f (s f hf)
theorem half_la : La 2 1 (fr 1 2) := ⟨by decide, by decide +kernel, by decide +kernel, by decide +kernel⟩
theorem FG.mid {fs : List FV} (h : FG fs) {f : FV} (hf : f ∈ fs) : La 240 BB (midF f) := by
  obtain ⟨h1, h2, h3⟩ := h f hf
  have e := (h2.add h3).mul half_la
  exact ⟨by decide, e.d, by have := h2.lo; have := h3.lo; unfold midF; rw [fr12_eq]; grind, by have := h2.hi; have := h3.hi; unfold midF; rw [fr12_eq]; grind⟩
/-- the whole numbers of the middles -/
structure MidI (c : Rat) (fs : List FV) (ns : List Int) : Prop where
  c0 : 0 < c
  e : ns.map (fun n => ((n : Int) : Rat)) = fs.map fun f => c * midF f
theorem MidI.len {c : Rat} {fs : List FV} {ns : List Int} (h : MidI c fs ns) : ns.length = fs.length := by
  have := congrArg List.length h.e
  rwa [List.length_map, List.length_map] at this
theorem MidI.at {c : Rat} {fs : List FV} {ns : List Int} (h : MidI c fs ns) {i : Nat} {f : FV} (hi : fs[i]? = some f) : ∃ n, ns[i]? = some n ∧ ((n : Int) : Rat) = c * midF f := by
  have h1 : (ns.map (fun n => ((n : Int) : Rat)))[i]? = some (c * midF f) := by rw [h.e, List.getElem?_map, hi]; rfl
  rw [List.getElem?_map] at h1
  obtain ⟨n, e1, e2⟩ := Option.map_eq_some_iff.mp h1
  exact ⟨n, e1, e2⟩
theorem map_eraseI {α β : Type} (g : α → β) (l : List α) (i : Nat) : (l.eraseIdx i).map g = (l.map g).eraseIdx i := by
  rw [List.eraseIdx_eq_take_drop_succ, List.eraseIdx_eq_take_drop_succ, List.map_append, List.map_take, List.map_drop]
theorem MidI.erase {c : Rat} {fs : List FV} {ns : List Int} (h : MidI c fs ns) (i : Nat) : MidI c (fs.eraseIdx i) (ns.eraseIdx i) := by
  refine ⟨h.c0, ?_⟩
  have := congrArg (fun l => List.eraseIdx l i) h.e
  rw [map_eraseI, map_eraseI]; exact this
/-! sizes of the middle that balances -/
end DL

end
section
set_option Elab.async false
set_option linter.all false
set_option autoImplicit true
set_option maxRecDepth 100000
set_option maxHeartbeats 1000000
/-! k30: promises -/
namespace DL
open PySem L2
open PyProof.Rows hiding St
def HalfO (b : Nat) (o : Option Rat) : Prop := ∀ q, o = some q → HalfQ b q
def HalfR (b : Nat) (ss : List Spn) : Prop := ∀ s ∈ ss, HalfS b s
theorem HalfQ.mono {b c : Nat} {q : Rat} (h : HalfQ b q) (e : b ≤ c) : HalfQ c q := by
  obtain ⟨i, h1, h2, h3⟩ := h
  exact ⟨i, h1, by omega, by omega⟩
theorem HalfO.mono {b c : Nat} {o : Option Rat} (h : HalfO b o) (e : b ≤ c) : HalfO c o := fun q hq => (h q hq).mono e
theorem HalfS.mono {b c : Nat} {s : Spn} (h : HalfS b s) (e : b ≤ c) : HalfS c s := ⟨fun q hq => (h.1 q hq).mono e, fun q hq => (h.2 q hq).mono e⟩
theorem HalfR.mono {b c : Nat} {s : List Spn} (h : HalfR b s) (e : b ≤ c) : HalfR c s := fun x hx => (h x hx).mono e
theorem HalfQ.sz {b : Nat} {q : Rat} (h : HalfQ b q) (e : b ≤ 5000000) : Sz 24 q := by
  obtain ⟨i, rfl, h2, h3⟩ := h
  exact fr_sz ((show Bt 24 i from bt_of (by omega) (by omega)).mono (by decide)) (bt_of (by decide) (by decide)) (by decide)
theorem HalfQ.add {b : Nat} {q : Rat} {t : Nat} (h : HalfQ b q) (ht : t ≤ 4) : HalfQ (b + 4) (q + fr (t : Int) 2) := by
  obtain ⟨i, rfl, h2, h3⟩ := h
  refine ⟨i + t, ?_, by omega, by omega⟩
  unfold fr
  rw [Rat.divInt_add_divInt _ _ (by decide) (by decide), ← Int.add_mul, Rat.divInt_mul_right (by decide)]
/-! the law's own thinning -/
/-! the law -/
end DL

end
section
set_option Elab.async false
set_option linter.all false
set_option autoImplicit true
set_option maxRecDepth 100000
set_option maxHeartbeats 1000000
/-! k31: the met cover walked along the probes -/
namespace DL
open PySem L2
open PyProof.Rows hiding St
/-- two probes that follow each other -/
def WkI (qs : List Rat) (x y : Rat) : Prop := x < y ∧ (∀ q ∈ qs, ¬ (x < q ∧ q < y)) ∧ (x ∉ qs ∨ y ∉ qs)
theorem WkI.sub {qs us : List Rat} {x y : Rat} (h : WkI qs x y) (e : ∀ q, q ∈ us ↔ q ∈ qs) : WkI us x y :=
  ⟨h.1, fun q hq => h.2.1 q ((e q).mp hq), h.2.2.elim (fun z => .inl fun q => z ((e x).mp q)) fun z => .inr fun q => z ((e y).mp q)⟩
structure PrbOk (qs ts : List Rat) : Prop where
  ne : ts ≠ []
  ch : ∀ i x y, ts[i]? = some x → ts[i + 1]? = some y → WkI qs x y
  lo : ∀ x, ts[0]? = some x → ∀ q ∈ qs, x < q
  hi : ∀ x, ts[ts.length - 1]? = some x → ∀ q ∈ qs, q < x
theorem PrbOk.sub {qs us ts : List Rat} (h : PrbOk qs ts) (e : ∀ q, q ∈ us ↔ q ∈ qs) : PrbOk us ts :=
  ⟨h.ne, fun i x y h1 h2 => (h.ch i x y h1 h2).sub e, fun x hx q hq => h.lo x hx q ((e q).mp hq), fun x hx q hq => h.hi x hx q ((e q).mp hq)⟩
theorem PrbOk.one {x : Rat} {qs : List Rat} (h : qs = []) : PrbOk qs [x] := by
  subst h
  exact ⟨by simp, fun i a b h1 h2 => (by simp at h2), fun a _ q hq => (by cases hq), fun a _ q hq => (by cases hq)⟩
structure PrC (out ts : List Rat) (j : Nat) : Prop where
  ne : ts ≠ []
  ch : ∀ i x y, ts[i]? = some x → ts[i + 1]? = some y → WkI out x y
  lo : ∀ x, ts[0]? = some x → ∀ q ∈ out, x < q
  la : ∀ z, ts[ts.length - 1]? = some z → (∀ y, out[j]? = some y → WkI out z y ∧ z ∉ out) ∧ (out[j]? = none → out[out.length - 1]? = some z)
theorem at_last {ts : List Rat} (h : ts ≠ []) : ∃ z, ts[ts.length - 1]? = some z := by
  have := List.length_pos_iff.mpr h
  exact ⟨_, List.getElem?_eq_getElem (by omega)⟩
theorem ch_snoc {P : Rat → Rat → Prop} {ts : List Rat} {x : Rat} (h : ∀ i a b, ts[i]? = some a → ts[i + 1]? = some b → P a b) (hl : ∀ z, ts[ts.length - 1]? = some z → P z x) : ∀ i a b, (ts ++ [x])[i]? = some a → (ts ++ [x])[i + 1]? = some b → P a b := by
  intro i a b h1 h2
  by_cases c : i + 1 < ts.length
  · rw [List.getElem?_append_left (by omega)] at h1
    rw [List.getElem?_append_left c] at h2
    exact h i a b h1 h2
  · by_cases c2 : i + 1 = ts.length
    · rw [List.getElem?_append_left (by omega)] at h1
      rw [List.getElem?_append_right (by omega), c2, Nat.sub_self] at h2
      cases h2
      exact hl a (by rw [← c2]; exact h1)
    · rw [List.getElem?_eq_none (by rw [List.length_append, List.length_singleton]; omega)] at h2
      cases h2
theorem app0 {ts us : List Rat} (h : ts ≠ []) : (ts ++ us)[0]? = ts[0]? := List.getElem?_append_left (List.length_pos_iff.mpr h)
theorem snoc_last (ts : List Rat) (x : Rat) : (ts ++ [x])[(ts ++ [x]).length - 1]? = some x := by
  rw [List.length_append, List.length_singleton, Nat.add_sub_cancel, List.getElem?_append_right (Nat.le_refl _), Nat.sub_self]; rfl
theorem PrC.nil {out : List Rat} {y : Rat} (hu : Up out) (h : out[0]? = some y) : PrC out [y - fr 1 1] 0 := by
  have h1 : fr 1 1 = (1 : Rat) := by decide +kernel
  have ge : ∀ q ∈ out, y ≤ q := fun q hq => by
    obtain ⟨i, hi⟩ := List.getElem?_of_mem hq
    by_cases c : i = 0
    · subst c; rw [h] at hi; cases hi; grind
    · have := up_lt hu h hi (by omega); grind
  refine ⟨by simp, fun i a b h1 h2 => (by simp at h2), fun x hx q hq => ?_, fun z hz => ⟨fun y' hy => ?_, fun z => (by rw [h] at z; cases z)⟩⟩
  · cases hx
    have := ge q hq
    grind
  · rw [h] at hy; cases hy
    cases hz
    have n : y - fr 1 1 ∉ out := fun q => by have := ge _ q; grind
    exact ⟨⟨by grind, fun q hq c => by have := ge q hq; grind, .inl n⟩, n⟩
theorem PrC.fin {out ts : List Rat} {y : Rat} (hu : Up out) (h : PrC out ts out.length) (e1 : out[out.length - 1]? = some y) : PrbOk out (ts ++ [y + fr 1 1]) := by
  have h1 : fr 1 1 = (1 : Rat) := by decide +kernel
  have le : ∀ q ∈ out, q ≤ y := fun q hq => up_last hu e1 hq
  refine ⟨by simp, ch_snoc h.ch fun z hz => ?_, fun x hx => ?_, fun x hx q hq => ?_⟩
  · have := (h.la z hz).2 (List.getElem?_eq_none (Nat.le_refl _))
    rw [e1] at this; cases this
    exact ⟨by grind, fun q hq c => by have := le q hq; grind, .inr fun q => by have := le _ q; grind⟩
  · rw [app0 h.ne] at hx; exact h.lo x hx
  · rw [snoc_last] at hx; cases hx
    have := le q hq; grind
/-! how many hold a time, between probes -/
/-- a cover told by tests along the probes -/
structure GW (g : Rat → Bool) (ts : List Rat) : Prop where
  ne : ts ≠ []
  ch : ∀ i x y, ts[i]? = some x → ts[i + 1]? = some y → x < y ∧ ∀ t, x < t → t < y → g t = (g x && g y)
  lo : ∀ x, ts[0]? = some x → ∀ t, t ≤ x → g t = g x
  hi : ∀ x, ts[ts.length - 1]? = some x → ∀ t, x ≤ t → g t = g x
/-! the rows that the walk writes -/
structure RowI (g : Rat → Bool) (ts : List Rat) (k : Nat) (R : List Spn) : Prop where
  n : Nrm R
  m0 : k = 0 → R = []
  m : ∀ i z, i + 1 = k → ts[i]? = some z → ∀ t, memS R t = if t ≤ z then g t else g z
  on : ∀ i z, i + 1 = k → ts[i]? = some z → g z = true → ∃ P a, R = P ++ [(a, none)] ∧ ∀ b, a = some b → b ≤ z
  off : ∀ i z, i + 1 = k → ts[i]? = some z → g z = false → ∀ s ∈ R, ∃ h, s.2 = some h ∧ h ≤ z
theorem RowI.zero {g : Rat → Bool} {ts : List Rat} : RowI g ts 0 [] := ⟨Nrm.nil, fun _ => rfl, fun i z h => (by omega), fun i z h => (by omega), fun i z h => (by omega)⟩
theorem nrm_one {a b : Option Rat} (h : OrdS (a, b)) : Nrm [(a, b)] := ⟨fun s hs => by rw [List.mem_singleton.mp hs]; exact h, List.pairwise_singleton ..⟩
theorem RowI.on0 {g : Rat → Bool} {ts : List Rat} (w : GW g ts) {z : Rat} (hz : ts[0]? = some z) (hg : g z = true) : RowI g ts 1 [(none, none)] := by
  refine ⟨nrm_one fun a b h => (by cases h), fun h => (by cases h), fun i x hi hx t => ?_, fun i x hi hx _ => ⟨[], none, rfl, fun b h => (by cases h)⟩, fun i x hi hx hf => ?_⟩
  · have : i = 0 := by omega
    subst this
    rw [hz] at hx; cases hx
    have e : memS [(none, none)] t = true := rfl
    rw [e]
    split
    · rename_i c; rw [w.lo z hz t c, hg]
    · exact hg.symm
  · have : i = 0 := by omega
    subst this
    rw [hz] at hx; cases hx
    rw [hg] at hf; cases hf
section
variable {g : Rat → Bool} {ts : List Rat} {k : Nat} {R : List Spn} {x z : Rat}
theorem RowI.onon (w : GW g ts) (h : RowI g ts (k + 1) R) (hx : ts[k]? = some x) (hz : ts[k + 1]? = some z) (gx : g x = true) (gz : g z = true) : RowI g ts (k + 2) R := by
  obtain ⟨lt, bt⟩ := w.ch k x z hx hz
  have at1 : ∀ i y, i + 1 = k + 2 → ts[i]? = some y → y = z := fun i y hi hy => by
    have : i = k + 1 := by omega
    subst this
    rw [hz] at hy; cases hy; rfl
  refine ⟨h.n, fun c => (by cases c), fun i y hi hy t => ?_, fun i y hi hy _ => ?_, fun i y hi hy hf => ?_⟩
  · rw [at1 i y hi hy, h.m k x rfl hx t, gx, gz]
    by_cases c1 : t ≤ x
    · rw [if_pos c1, if_pos (by grind)]
    · rw [if_neg c1]
      by_cases c2 : t ≤ z
      · rw [if_pos c2]
        by_cases c3 : t = z
        · rw [c3, gz]
        · rw [bt t (by grind) (by grind), gx, gz]; rfl
      · rw [if_neg c2]
  · obtain ⟨P, a, e, hb⟩ := h.on k x rfl hx gx
    exact ⟨P, a, e, fun b e2 => by rw [at1 i y hi hy]; have := hb b e2; grind⟩
  · rw [at1 i y hi hy, gz] at hf; cases hf
theorem RowI.fin (w : GW g ts) (h : RowI g ts ts.length R) : ∀ t, memS R t = g t := fun t => by
  obtain ⟨z, hz⟩ := at_last w.ne
  have := List.length_pos_iff.mpr w.ne
  rw [h.m (ts.length - 1) z (by omega) hz t]
  by_cases c : t ≤ z
  · rw [if_pos c]
  · rw [if_neg c, w.hi z hz t (by grind)]
end
end DL

end
section
set_option Elab.async false
set_option linter.all false
set_option autoImplicit true
set_option maxRecDepth 100000
set_option maxHeartbeats 1000000
/-! k31: the choice, its reach; promises -/
namespace DL
open PySem L2
open PyProof.Rows hiding St
/-! ends, one after another -/
theorem VtG.ok {vs : List Vt} (h : VtG BB vs) : VtOk 7 vs := fun v hv => ⟨(h v hv).1, h.sz hv, (h v hv).2.2⟩
/-! promises -/
theorem GW.all {g : Rat → Bool} {ts : List Rat} (w : GW g ts) (h : ∀ z ∈ ts, g z = true) (t : Rat) : g t = true := by
  have key : ∀ k, k < ts.length → RowI g ts (k + 1) [(none, none)] := by
    intro k
    induction k with
    | zero => exact fun hk => RowI.on0 w (List.getElem?_eq_getElem hk) (h _ (List.getElem_mem hk))
    | succ k ih => exact fun hk => (ih (by omega)).onon w (List.getElem?_eq_getElem (show k < ts.length by omega)) (List.getElem?_eq_getElem hk) (h _ (List.getElem_mem _)) (h _ (List.getElem_mem hk))
  have l := List.length_pos_iff.mpr w.ne
  have k := key (ts.length - 1) (by omega)
  rw [show ts.length - 1 + 1 = ts.length by omega] at k
  exact (k.fin w t).symm
end DL

end
section
set_option Elab.async false
set_option linter.all false
set_option autoImplicit true
set_option maxRecDepth 100000
set_option maxHeartbeats 400000
/-! courses one behind the other: plain law of chained -/
namespace DL
open PySem L2
open PyProof.Rows hiding St
/-! ### a course that tells a function -/
/-- f runs straight from t on, up to e -/
def LinOn (f : Rat → Rat) (r t : Rat) (e : Option Rat) : Prop := ∀ x, t ≤ x → (∀ s, e = some s → x < s) → f x = f t + r * (x - t)
def nxE (c : List Pc) (e : Option Rat) : Option Rat := match c with
  | [] => e
  | q :: _ => some q.1
/-- the pieces tell f, the last one up to e -/
def Tel (f : Rat → Rat) : List Pc → Option Rat → Prop
  | [], _ => True
  | p :: c, e => (p.2.1 = f p.1 ∧ 0 < p.2.2 ∧ LinOn f p.2.2 p.1 (nxE c e) ∧ ∀ s, nxE c e = some s → p.1 < s) ∧ Tel f c e
theorem Tel.snoc {f : Rat → Rat} {s y r : Rat} {e : Option Rat} (hy : y = f s) (hr : 0 < r) (hl : LinOn f r s e) (he : ∀ s', e = some s' → s < s') : ∀ {c : List Pc}, Tel f c (some s) → Tel f (c ++ [(s, y, r)]) e
  | [], _ => ⟨⟨hy, hr, hl, he⟩, trivial⟩
  | [p], ⟨h, _⟩ => ⟨h, ⟨hy, hr, hl, he⟩, trivial⟩
  | p :: q :: c, ⟨h, h'⟩ => ⟨h, Tel.snoc hy hr hl he (c := q :: c) h'⟩
theorem Tel.asc {f : Rat → Rat} : ∀ {c : List Pc} {e : Option Rat}, Tel f c e → Asc c
  | [], _, _ => List.Pairwise.nil
  | [p], _, _ => List.pairwise_singleton _ _
  | p :: q :: c, e, ⟨⟨_, _, _, h4⟩, h'⟩ => by
    have ih := Tel.asc (c := q :: c) h'
    have h5 : p.1 < q.1 := h4 q.1 rfl
    unfold Asc at ih ⊢
    rw [List.pairwise_cons]
    refine ⟨fun x hx => ?_, ih⟩
    rcases List.mem_cons.mp hx with rfl | hx
    · exact h5
    · have := (List.pairwise_cons.mp ih).1 x hx
      grind
theorem Tel.pos {f : Rat → Rat} : ∀ {c : List Pc} {e : Option Rat}, Tel f c e → ∀ p ∈ c, 0 < p.2.2
  | [], _, _, p, hp => by cases hp
  | q :: c, e, ⟨⟨_, h2, _, _⟩, h'⟩, p, hp => by
    rcases List.mem_cons.mp hp with rfl | hp
    · exact h2
    · exact Tel.pos h' p hp
theorem now_hd' {h : Pc} {r : List Pc} {t : Rat} (h1 : h.1 ≤ t) (h2 : ∀ x ∈ r, t < x.1) : nowQ (h :: r) t = some (pline h t) := by
  unfold nowQ
  have e : r.filter (past t) = [] := by
    rw [List.filter_eq_nil_iff]
    intro x hx
    simp [past, h2 x hx]
  have : past t h = true := by
    have : ¬ t < h.1 := by grind
    simp [past, this]
  rw [List.filter_cons, if_pos this, e]; rfl
theorem now_tl' {h q : Pc} {r : List Pc} {t : Rat} (h1 : q.1 ≤ t) : nowQ (h :: q :: r) t = nowQ (q :: r) t := by
  have hq : past t q = true := by
    have : ¬ t < q.1 := by grind
    simp [past, this]
  have e : nowQ ([h] ++ (q :: r)) t = nowQ (q :: r) t := by
    rw [now_app]
    unfold nowQ
    rw [List.filter_cons, if_pos hq]
    cases z : (q :: r.filter (past t)).getLast? with
    | none => simp at z
    | some x => rfl
  exact e
theorem Tel.now {f : Rat → Rat} : ∀ {c : List Pc} {p : Pc} {t : Rat}, Tel f (p :: c) none → p.1 ≤ t → nowQ (p :: c) t = some (f t)
  | [], p, t, ⟨⟨h1, h2, h3, h4⟩, _⟩, h => by
    rw [now_hd' h (fun x hx => by cases hx), h3 t h (fun s z => by cases z)]
    unfold pline; rw [h1]
  | q :: c, p, t, H, h => by
    by_cases hq : q.1 ≤ t
    · rw [now_tl' hq]
      exact Tel.now H.2 hq
    · have ha := Tel.asc H.2
      obtain ⟨⟨h1, h2, h3, h4⟩, _⟩ := H
      rw [now_hd' h (fun x hx => ?_), h3 t h (fun s z => ?_)]
      · unfold pline; rw [h1]
      · have : q.1 = s := by simpa [nxE] using z
        grind
      · rcases List.mem_cons.mp hx with rfl | hx
        · grind
        · have := (List.pairwise_cons.mp ha).1 x hx
          grind
/-- a course that shows what never falls has no fall -/
theorem no_fall {c : List Pc} {f : Rat → Rat} {t0 : Rat} (ha : Asc c) (hn : ∀ t, t0 ≤ t → nowQ c t = some (f t)) (hm : ∀ x y, t0 ≤ x → x ≤ y → f x ≤ f y) {i : Nat} {p q : Pc} (hp : c[i]? = some p) (hq : c[i + 1]? = some q) (h0 : t0 ≤ p.1) (hr : 0 < p.2.2) : pline p q.1 ≤ q.2.1 := by
  have hpq := asc_lt ha hp hq (by omega)
  have f1 : ∀ x, p.1 ≤ x → x < q.1 → f x = pline p x := fun x h1 h2 => by
    have := now_at ha hp h1 (fun q' e => by rw [hq] at e; cases e; exact h2)
    rw [hn x (by grind)] at this
    exact Option.some.inj this
  have f2 : f q.1 = q.2.1 := by
    have := now_at ha hq (t := q.1) Rat.le_refl (fun q' e => asc_lt ha hq e (by omega))
    rw [hn q.1 (by grind)] at this
    have := Option.some.inj this
    rw [this]; unfold pline; grind
  apply Classical.byContradiction
  intro hc
  have hc' : q.2.1 < pline p q.1 := by grind
  have hL : pline p q.1 = p.2.1 + p.2.2 * (q.1 - p.1) := rfl
  have e0 : f p.1 = p.2.1 := by rw [f1 p.1 Rat.le_refl hpq]; unfold pline; grind
  have m1 : p.2.1 ≤ q.2.1 := by rw [← e0, ← f2]; exact hm _ _ h0 (by grind)
  -- a reading in between
  have hd : 0 < pline p q.1 - q.2.1 := by grind
  have n2 : p.2.2 * 2 ≠ 0 := by grind
  have hx : ∃ x, p.1 ≤ x ∧ x < q.1 ∧ q.2.1 < pline p x := by
    refine ⟨q.1 - (pline p q.1 - q.2.1) / (p.2.2 * 2), ?_, ?_, ?_⟩
    · have h2 : (pline p q.1 - q.2.1) / (p.2.2 * 2) * (p.2.2 * 2) = pline p q.1 - q.2.1 := Rat.div_mul_cancel n2
      generalize (pline p q.1 - q.2.1) / (p.2.2 * 2) = z at h2 ⊢
      apply Classical.byContradiction
      intro hz
      have hz' : 0 < z - (q.1 - p.1) := by grind
      have h3 := Rat.mul_pos hz' hr
      have h4 := Rat.mul_pos (show 0 < q.1 - p.1 by grind) hr
      grind
    · have h2 : (pline p q.1 - q.2.1) / (p.2.2 * 2) * (p.2.2 * 2) = pline p q.1 - q.2.1 := Rat.div_mul_cancel n2
      generalize (pline p q.1 - q.2.1) / (p.2.2 * 2) = z at h2 ⊢
      apply Classical.byContradiction
      intro hz
      have hz' : 0 ≤ -z := by grind
      have h3 := Rat.mul_nonneg hz' (Rat.le_of_lt hr)
      grind
    · have h2 : (pline p q.1 - q.2.1) / (p.2.2 * 2) * (p.2.2 * 2) = pline p q.1 - q.2.1 := Rat.div_mul_cancel n2
      have e3 : pline p (q.1 - (pline p q.1 - q.2.1) / (p.2.2 * 2)) = pline p q.1 - p.2.2 * ((pline p q.1 - q.2.1) / (p.2.2 * 2)) := by
        unfold pline; grind
      rw [e3]
      generalize (pline p q.1 - q.2.1) / (p.2.2 * 2) = z at h2 ⊢
      grind
  obtain ⟨x, x1, x2, x3⟩ := hx
  have := hm x q.1 (by grind) (by grind)
  rw [f1 x x1 x2, f2] at this
  grind
/-! ### one behind the other -/
def chQ (is os : List Pc) (t : Rat) : Rat := atQ os (atQ is t)
theorem at_of {c : List Pc} (ha : Asc c) {i : Nat} {p : Pc} {t : Rat} (hp : c[i]? = some p) (h1 : p.1 ≤ t) (h2 : ∀ q, c[i + 1]? = some q → t < q.1) : atQ c t = pline p t := by
  have hi := (List.getElem?_eq_some_iff.mp hp).1
  have e : placeN c t = i := place_eq (fun j q hj hji hq => ?_) (by omega) h2
  · unfold atQ; rw [e, hp]
  · by_cases z : j = i
    · subst z; rw [hp] at hq; cases hq; exact h1
    · have := asc_lt ha hq hp (by omega); grind
theorem ch_at {is os : List Pc} (ai : Asc is) (ao : Asc os) {i k : Nat} {p o : Pc} {x : Rat} (hp : is[i]? = some p) (ho : os[k]? = some o) (h1 : p.1 ≤ x) (h2 : ∀ q, is[i + 1]? = some q → x < q.1) (h3 : o.1 ≤ pline p x) (h4 : ∀ q, os[k + 1]? = some q → pline p x < q.1) : chQ is os x = pline o (pline p x) := by
  unfold chQ
  rw [at_of ai hp h1 h2, at_of ao ho h3 h4]
/-- where the piece ends, or reaches the next start of the outer course -/
def endE (p : Pc) (stop : Option Rat) (nx : Option Pc) : Option Rat := match nx with
  | none => stop
  | some o => match stop with
    | none => some (tmP p o.1)
    | some s => if tmP p o.1 < s then some (tmP p o.1) else some s
theorem tm_line {p : Pc} {v : Rat} (h : 0 < p.2.2) : pline p (tmP p v) = v := by
  have n : p.2.2 ≠ 0 := by grind
  have : (v - p.2.1) / p.2.2 * p.2.2 = v - p.2.1 := Rat.div_mul_cancel n
  unfold pline tmP
  generalize (v - p.2.1) / p.2.2 = z at *
  grind
theorem line_lt {p : Pc} {x y : Rat} (h : 0 < p.2.2) : pline p x < pline p y ↔ x < y := by
  unfold pline
  constructor
  · intro z
    apply Classical.byContradiction
    intro hc
    have := Rat.mul_nonneg (show 0 ≤ x - y by grind) (Rat.le_of_lt h)
    grind
  · intro z
    have := Rat.mul_pos (show 0 < y - x by grind) h
    grind
theorem line_le {p : Pc} {x y : Rat} (h : 0 < p.2.2) : pline p x ≤ pline p y ↔ x ≤ y := by
  have := line_lt (p := p) (x := y) (y := x) h
  constructor
  · intro z; apply Classical.byContradiction; intro hc; have := this.mpr (by grind); grind
  · intro z; apply Classical.byContradiction; intro hc; have := this.mp (by grind); grind
theorem end_stop {p : Pc} {stop : Option Rat} {nx : Option Pc} {x : Rat} (h : ∀ s, endE p stop nx = some s → x < s) : ∀ s, stop = some s → x < s := fun s e => by
  subst e
  unfold endE at h
  cases nx with
  | none => exact h s rfl
  | some o =>
    simp only at h
    by_cases q : tmP p o.1 < s
    · rw [if_pos q] at h; have := h _ rfl; grind
    · rw [if_neg q] at h; exact h s rfl
theorem end_nx {p : Pc} (hr : 0 < p.2.2) {stop : Option Rat} {nx : Option Pc} {x : Rat} (h : ∀ s, endE p stop nx = some s → x < s) : ∀ o, nx = some o → pline p x < o.1 := fun o e => by
  subst e
  have : x < tmP p o.1 := by
    unfold endE at h
    cases stop with
    | none => exact h _ rfl
    | some s =>
      simp only at h
      by_cases q : tmP p o.1 < s
      · rw [if_pos q] at h; exact h _ rfl
      · rw [if_neg q] at h; have := h s rfl; grind
  have := (line_lt (p := p) hr).mpr this
  rwa [tm_line hr] at this
theorem end_gt {p : Pc} (hr : 0 < p.2.2) {stop : Option Rat} {nx : Option Pc} {x : Rat} (h1 : ∀ s, stop = some s → x < s) (h2 : ∀ o, nx = some o → pline p x < o.1) : ∀ s, endE p stop nx = some s → x < s := fun s e => by
  unfold endE at e
  cases nx with
  | none => exact h1 s e
  | some o =>
    have h3 : x < tmP p o.1 := by
      have := h2 o rfl
      rw [← tm_line (p := p) (v := o.1) hr] at this
      exact (line_lt hr).mp this
    cases stop with
    | none => cases e; exact h3
    | some s' =>
      simp only at e
      by_cases q : tmP p o.1 < s'
      · rw [if_pos q] at e; cases e; exact h3
      · rw [if_neg q] at e; cases e; exact h1 _ rfl
/-- a row that is written: from x on the course shows o behind p -/
theorem ch_row {is os : List Pc} (ai : Asc is) (ao : Asc os) {i k : Nat} {p o : Pc} {x : Rat} (hp : is[i]? = some p) (ho : os[k]? = some o) (pp : 0 < p.2.2) (h1 : p.1 ≤ x) (h2 : ∀ s, (is[i + 1]?).map (·.1) = some s → x < s) (h3 : o.1 ≤ pline p x) (h4 : ∀ q, os[k + 1]? = some q → pline p x < q.1) :
    pline o (pline p x) = chQ is os x ∧ LinOn (chQ is os) (p.2.2 * o.2.2) x (endE p ((is[i + 1]?).map (·.1)) os[k + 1]?) ∧ ∀ s, endE p ((is[i + 1]?).map (·.1)) os[k + 1]? = some s → x < s := by
  have e1 := ch_at ai ao hp ho h1 (fun q e => h2 q.1 (by rw [e]; rfl)) h3 h4
  refine ⟨e1.symm, fun y hy he => ?_, end_gt pp h2 h4⟩
  have a1 := end_stop he
  have a2 := end_nx pp he
  have e2 := ch_at (x := y) ai ao hp ho (by grind) (fun q e => a1 q.1 (by rw [e]; rfl)) (by have := (line_le (p := p) pp).mpr hy; grind) a2
  rw [e2, e1]
  unfold pline
  grind
/-! ### falls -/
def fallQ (c : List Pc) : Option Rat := ((jumpsQ c).find? fun x => decide (x.2 < 0)).map (·.1)
theorem fall_none {c : List Pc} (h : fallQ c = none) {i : Nat} {p q : Pc} (hp : c[i]? = some p) (hq : c[i + 1]? = some q) : pline p q.1 ≤ q.2.1 := by
  unfold fallQ at h
  have h' := List.find?_eq_none.mp (Option.map_eq_none_iff.mp h)
  apply Classical.byContradiction
  intro hc
  have hj : jmp p q < 0 := by unfold jmp; grind
  have hm : (q.1, jmp p q) ∈ jumpsQ c := by
    unfold jumpsQ
    rw [List.mem_filterMap]
    refine ⟨(p, q), List.mem_of_getElem? (prs_at hp hq), ?_⟩
    unfold jF
    simp only
    rw [if_neg (by grind)]
  have := h' _ hm
  simp only [decide_eq_true_eq] at this
  exact this hj
theorem fall_nn {c : List Pc} (h : ∀ x ∈ jumpsQ c, ¬ x.2 < 0) : fallQ c = none := by
  unfold fallQ
  rw [Option.map_eq_none_iff, List.find?_eq_none]
  intro x hx
  simpa using h x hx
/-- a course that never falls shows what never falls -/
theorem at_mono {c : List Pc} {p0 : Pc} (ha : Asc c) (h0 : c[0]? = some p0) (hr : ∀ p ∈ c, 0 < p.2.2) (hf : fallQ c = none) : ∀ x y, p0.1 ≤ x → x ≤ y → atQ c x ≤ atQ c y := by
  have step : ∀ (n i : Nat) (p : Pc) (x y : Rat), c.length - i ≤ n → c[i]? = some p → p.1 ≤ x → (∀ q, c[i + 1]? = some q → x < q.1) → x ≤ y → pline p x ≤ atQ c y := by
    intro n
    induction n with
    | zero =>
      intro i p x y hn hp _ _ _
      have := (List.getElem?_eq_some_iff.mp hp).1
      omega
    | succ n ih =>
      intro i p x y hn hp h1 h2 hxy
      have pp := hr p (List.mem_of_getElem? hp)
      cases e : c[i + 1]? with
      | none =>
        rw [at_of ha hp (t := y) (by grind) (fun q z => by rw [e] at z; cases z)]
        exact (line_le pp).mpr hxy
      | some q =>
        by_cases hy : y < q.1
        · rw [at_of ha hp (t := y) (by grind) (fun q' z => by rw [e] at z; cases z; exact hy)]
          exact (line_le pp).mpr hxy
        · have f1 := fall_none hf hp e
          have hx := h2 q e
          have f2 : pline p x ≤ pline p q.1 := (line_le pp).mpr (by grind)
          have f3 : q.2.1 = pline q q.1 := by unfold pline; grind
          have f4 := ih (i + 1) q q.1 y (by omega) e Rat.le_refl (fun q' z => asc_lt ha e z (by omega)) (by grind)
          grind
  intro x y hx hxy
  obtain ⟨p, hp, h1, h2⟩ := place_at ha h0 hx
  rw [at_of ha hp h1 h2]
  exact step c.length _ p x y (by omega) hp h1 h2 hxy
/-! ### promises -/
/-- what chained wants of its courses -/
structure ChZ (is os : List Pc) (s t r v s' t' r' : Nat) : Prop where
  ni : ∃ p, is[0]? = some p
  no : ∃ p, os[0]? = some p
  ai : Asc is
  ao : Asc os
  ri : ∀ p ∈ is, 0 < p.2.2
  ro : ∀ p ∈ os, 0 < p.2.2
  zi : Cz s t r is
  zo : Cz s' t' r' os
  zv : ∀ p ∈ is, Sz v (p.2.2)⁻¹
  zz : 8 * (s + s' + t + v + 2) + 3 * (t' + r' + t + s' + 2) + 3 * (r + r') + 60 ≤ 7900
  zw : 8 * s + 3 * t + 3 * r + 60 ≤ 7900
  ln : is.length + os.length ≤ 50000
/-- what it tells -/
structure ChR (is os : List Pc) (s t r v s' t' r' : Nat) (rs : List Pc) : Prop where
  hd : rs.head?.map (·.1) = is.head?.map (·.1)
  tel : Tel (chQ is os) rs none
  zr : Cz (s + s' + t + v + 2) (t' + r' + t + s' + 2) (r + r') rs
  ln : rs.length ≤ is.length + os.length
/-- the rows behind i pieces -/
structure ChI (is os : List Pc) (s t r v s' t' r' : Nat) (i k : Nat) (rs : List Pc) : Prop where
  hk : k < os.length
  hd : rs.head?.map (·.1) = if i = 0 then none else is.head?.map (·.1)
  lo : ∀ o p, os[k]? = some o → is[i]? = some p → o.1 ≤ p.2.1
  tel : Tel (chQ is os) rs ((is[i]?).map (·.1))
  zr : Cz (s + s' + t + v + 2) (t' + r' + t + s' + 2) (r + r') rs
  ln : rs.length ≤ i + k
/-- the rows within a piece: the last one begins at x -/
structure ChJ (is os : List Pc) (s t r v s' t' r' : Nat) (i k : Nat) (p : Pc) (rs : List Pc) : Prop where
  hk : k < os.length
  hd : rs.head?.map (·.1) = is.head?.map (·.1)
  at_ : ∃ x, p.1 ≤ x ∧ (∀ q, (is[i + 1]?).map (·.1) = some q → x < q) ∧ (∀ o, os[k]? = some o → o.1 ≤ pline p x) ∧ ∀ q, os[k + 1]? = some q → pline p x < q.1
  tel : Tel (chQ is os) rs (endE p ((is[i + 1]?).map (·.1)) os[k + 1]?)
  zr : Cz (s + s' + t + v + 2) (t' + r' + t + s' + 2) (r + r') rs
  ln : rs.length ≤ i + 1 + k
theorem cz_snoc {s t r : Nat} {c : List Pc} {p : Pc} (h : Cz s t r c) (h1 : Sz s p.1) (h2 : Sz t p.2.1) (h3 : Sz r p.2.2) : Cz s t r (c ++ [p]) := fun q hq => by
  rcases List.mem_append.mp hq with hq | hq
  · exact h q hq
  · rw [List.mem_singleton] at hq; subst hq; exact ⟨h1, h2, h3⟩
section
variable {is os : List Pc} {s t r v s' t' r' : Nat}
theorem hd_snoc {c : List Pc} {p : Pc} {h : Option Rat} (e : c.head?.map (·.1) = h) (hn : h ≠ none) : (c ++ [p]).head?.map (·.1) = h := by
  cases c with
  | nil => exact absurd e.symm hn
  | cons a b => exact e
/-- the first row of a piece -/
theorem ChI.row (Z : ChZ is os s t r v s' t' r') {i k k' : Nat} {rs : List Pc} {p o : Pc} (I : ChI is os s t r v s' t' r' i k rs) (hp : is[i]? = some p) (hkk : k ≤ k') (ho : os[k']? = some o) (h1 : o.1 ≤ p.2.1) (h2 : ∀ q, os[k' + 1]? = some q → p.2.1 < q.1) :
    ChJ is os s t r v s' t' r' i k' p (rs ++ [(p.1, pline o p.2.1, p.2.2 * o.2.2)]) := by
  have hi := (List.getElem?_eq_some_iff.mp hp).1
  have hk' := (List.getElem?_eq_some_iff.mp ho).1
  have pp := Z.ri p (List.mem_of_getElem? hp)
  have po := Z.ro o (List.mem_of_getElem? ho)
  have zp := Z.zi p (List.mem_of_getElem? hp)
  have zo := Z.zo o (List.mem_of_getElem? ho)
  have e0 : pline p p.1 = p.2.1 := by unfold pline; grind
  have g2 : ∀ q, (is[i + 1]?).map (·.1) = some q → p.1 < q := fun q e => by
    obtain ⟨q', e1, rfl⟩ := Option.map_eq_some_iff.mp e
    exact asc_lt Z.ai hp e1 (by omega)
  obtain ⟨c1, c2, c3⟩ := ch_row (x := p.1) Z.ai Z.ao hp ho pp Rat.le_refl g2 (by rw [e0]; exact h1) (by rw [e0]; exact h2)
  rw [e0] at c1
  have tl := I.tel
  rw [hp] at tl
  refine ⟨hk', ?_, ⟨p.1, Rat.le_refl, g2, fun o' e => ?_, fun q e => ?_⟩, Tel.snoc c1 (Rat.mul_pos pp po) c2 c3 tl, cz_snoc I.zr (zp.1.mono (by omega)) ?_ (zp.2.2.mul zo.2.2), ?_⟩
  · have hd := I.hd
    cases i with
    | zero =>
      rw [if_pos rfl] at hd
      cases rs with
      | nil => show some p.1 = _; rw [List.head?_eq_getElem?, hp]; rfl
      | cons a b => cases hd
    | succ j =>
      rw [if_neg (by omega)] at hd
      obtain ⟨p0, hp0⟩ := Z.ni
      exact hd_snoc hd (by rw [List.head?_eq_getElem?, hp0]; simp)
  · rw [ho] at e; cases e; rw [e0]; exact h1
  · rw [e0]; exact h2 q e
  · exact (zo.2.1.add (zo.2.2.mul (zp.2.1.sub zo.1))).mono (by omega)
  · have := I.ln
    rw [List.length_append]; show rs.length + 1 ≤ _; omega
/-- a further one, where the piece reaches the next start -/
theorem ChJ.row (Z : ChZ is os s t r v s' t' r') {i k : Nat} {rs : List Pc} {p o : Pc} (J : ChJ is os s t r v s' t' r' i k p rs) (hp : is[i]? = some p) (ho : os[k + 1]? = some o) (h : ∀ q, (is[i + 1]?).map (·.1) = some q → tmP p o.1 < q) :
    ChJ is os s t r v s' t' r' i (k + 1) p (rs ++ [(tmP p o.1, o.2.1, p.2.2 * o.2.2)]) := by
  have hk' := (List.getElem?_eq_some_iff.mp ho).1
  have pp := Z.ri p (List.mem_of_getElem? hp)
  have po := Z.ro o (List.mem_of_getElem? ho)
  have zp := Z.zi p (List.mem_of_getElem? hp)
  have zo := Z.zo o (List.mem_of_getElem? ho)
  have zv := Z.zv p (List.mem_of_getElem? hp)
  obtain ⟨x, x1, x2, x3, x4⟩ := J.at_
  have e0 := tm_line (p := p) (v := o.1) pp
  have hx : x < tmP p o.1 := by
    have := x4 o ho
    rw [← e0] at this
    exact (line_lt pp).mp this
  have g4 : ∀ q, os[k + 1 + 1]? = some q → pline p (tmP p o.1) < q.1 := fun q e => by rw [e0]; exact asc_lt Z.ao ho e (by omega)
  obtain ⟨c1, c2, c3⟩ := ch_row (x := tmP p o.1) Z.ai Z.ao hp ho pp (by grind) h (by rw [e0]; exact Rat.le_refl) g4
  have e1 : pline o (pline p (tmP p o.1)) = o.2.1 := by rw [e0]; unfold pline; grind
  rw [e1] at c1
  have tl := J.tel
  have ee : endE p ((is[i + 1]?).map (·.1)) os[k + 1]? = some (tmP p o.1) := by
    rw [ho]
    unfold endE
    cases z : (is[i + 1]?).map (·.1) with
    | none => rfl
    | some q => simp only; rw [if_pos (h q z)]
  rw [ee] at tl
  obtain ⟨p0, hp0⟩ := Z.ni
  refine ⟨hk', hd_snoc J.hd (by rw [List.head?_eq_getElem?, hp0]; simp), ⟨tmP p o.1, by grind, h, fun o' e => ?_, g4⟩, Tel.snoc c1 (Rat.mul_pos pp po) c2 c3 tl, cz_snoc J.zr ?_ (zo.2.1.mono (by omega)) (zp.2.2.mul zo.2.2), ?_⟩
  · rw [ho] at e; cases e; rw [e0]; exact Rat.le_refl
  · exact (tmP_sz zp zv zo.1).mono (by omega)
  · have := J.ln
    rw [List.length_append]; show rs.length + 1 ≤ _; omega
/-- the piece is told -/
theorem ChJ.done (Z : ChZ is os s t r v s' t' r') (hf : fallQ is = none) {i k : Nat} {rs : List Pc} {p : Pc} (J : ChJ is os s t r v s' t' r' i k p rs) (hp : is[i]? = some p) (h : ∀ o, os[k + 1]? = some o → ∃ q, (is[i + 1]?).map (·.1) = some q ∧ ¬ tmP p o.1 < q) :
    ChI is os s t r v s' t' r' (i + 1) k rs := by
  have pp := Z.ri p (List.mem_of_getElem? hp)
  obtain ⟨x, x1, x2, x3, x4⟩ := J.at_
  refine ⟨J.hk, by rw [if_neg (by omega)]; exact J.hd, fun o q ho hq => ?_, ?_, J.zr, J.ln⟩
  · have h1 := x3 o ho
    have h2 := x2 q.1 (by rw [hq]; rfl)
    have h3 := (line_lt (p := p) pp).mpr h2
    have h4 := fall_none hf hp hq
    grind
  · have tl := J.tel
    have : endE p ((is[i + 1]?).map (·.1)) os[k + 1]? = (is[i + 1]?).map (·.1) := by
      cases e : os[k + 1]? with
      | none => rfl
      | some o =>
        obtain ⟨q, e1, e2⟩ := h o e
        unfold endE
        rw [e1]
        simp only
        rw [if_neg e2]
    rwa [this] at tl
theorem ChI.first (Z : ChZ is os s t r v s' t' r') {p o : Pc} (hp : is[0]? = some p) (ho : os[0]? = some o) (h : ¬ p.2.1 < o.1) : ChI is os s t r v s' t' r' 0 0 [] := by
  refine ⟨(List.getElem?_eq_some_iff.mp ho).1, rfl, fun o' p' e1 e2 => ?_, trivial, (fun q hq => by cases hq), Nat.zero_le _⟩
  rw [ho] at e1; rw [hp] at e2; cases e1; cases e2; grind
end
end DL

end
section
set_option Elab.async false
set_option linter.all false
set_option autoImplicit true
set_option maxRecDepth 100000
set_option maxHeartbeats 400000
/-! civil displays: the smear course behind a steering's course -/
namespace DL
open PySem L2
open PyProof.Rows hiding St
/-! ### the smear course never falls, goes on at rate 1 -/
theorem jmp_run {qs : List (Int × Int)} (h : GoodK qs) {w l : Int} (hw : WinOk w) : ∀ {rs : List (Int × Int)} {D : Int}, Rws qs D l rs → ∀ x ∈ prs (pcL qs D :: scR qs w rs), jmp x.1 x.2 = 0
  | [], _, _, x, hx => by cases hx
  | p :: rs, D, hr, x, hx => by
    have pl := hr.lo p (List.mem_cons_self ..)
    have pk := hr.mem p (List.mem_cons_self ..)
    have gapz : ∀ x, D ≤ x → x < p.1 → kdD qs x = 0 := fun x h1 h2 => by
      by_cases q : kdD qs x = 0
      · exact q
      · obtain ⟨y, hy, e⟩ := hr.all x h1 (by omega) q
        rcases List.mem_cons.mp hy with z | z
        · subst z; omega
        · have := (List.pairwise_cons.mp hr.asc).1 y z; omega
    rcases List.mem_cons.mp (show x ∈ (pcL qs D, pcA qs w p) :: prs (pcA qs w p :: pcL qs (p.1 + 1) :: scR qs w rs) from hx) with e | hx
    · subst e
      unfold jmp
      simp only
      rw [pcA_1, line_day h pl.1 gapz]
      show ((86400 * p.1 + (dayL qs p.1 - w) : Int) : Rat) - _ = 0
      rw [Rat.intCast_add]
      unfold edQ
      grind
    · rcases List.mem_cons.mp (show x ∈ (pcA qs w p, pcL qs (p.1 + 1)) :: prs (pcL qs (p.1 + 1) :: scR qs w rs) from hx) with e | hx
      · subst e
        unfold jmp
        simp only
        rw [pcL_opn, opn_next h, line_A pk.1]
        show ((86400 * (p.1 + 1) : Int) : Rat) - _ = 0
        have e1 := ed_top (qs := qs) (d := p.1) hw
        have e2 := ed_len qs w p.1
        have e3 := i864 p.1
        grind
      · exact jmp_run h hw hr.tl x hx
theorem fall_sm {qs : List (Int × Int)} (h : GoodK qs) {w f l : Int} (hw : WinOk w) : fallQ (smC qs w f l) = none := fall_nn fun x hx => by
  obtain ⟨y, h1, h2⟩ := List.mem_filterMap.mp hx
  have := jmp_run h hw (rws_of h f l) y h1
  unfold jF at h2
  rw [if_pos this] at h2
  cases h2
theorem sm_pos {qs : List (Int × Int)} (h : GoodK qs) {w : Int} (hw : WinOk w) : ∀ {rs : List (Int × Int)} {D l : Int}, Rws qs D l rs → ∀ p ∈ pcL qs D :: scR qs w rs, 0 < p.2.2
  | [], D, l, hr, p, hp => by
    rw [List.mem_cons] at hp
    rcases hp with rfl | hp
    · show (0 : Rat) < ((1 : Int) : Rat); decide
    · cases hp
  | q :: rs, D, l, hr, p, hp => by
    have pk := hr.mem q (List.mem_cons_self ..)
    rcases List.mem_cons.mp hp with rfl | hp
    · show (0 : Rat) < ((1 : Int) : Rat); decide
    · rcases List.mem_cons.mp (show p ∈ pcA qs w q :: (pcL qs (q.1 + 1) :: scR qs w rs) from hp) with rfl | hp
      · show 0 < fr (w - q.2) w
        rw [rt_row pk.1]
        exact rt_pos h hw
      · exact sm_pos h hw hr.tl p hp
/-! ### a steering's course is small -/
def StaV (cs : List Pc) : Prop := ∀ p ∈ cs, Sz 100 p.1 ∧ Sz 100 p.2.1
theorem StaV.sta {cs : List Pc} (h : StaV cs) : Sta cs := fun p hp => (h p hp).1
/-! ### the chain -/
/-- the course of a display, a smear course that starts ahead of what it shows first -/
structure CvZ (is : List Pc) (qs : List (Int × Int)) (w f l : Int) (raw : Rat) : Prop where
  hg : GoodK qs
  hl : qs.length ≤ 60
  hw : WinOk w
  fl : FLok f l
  le : f ≤ l
  p0 : ∃ p, is[0]? = some p ∧ p.1 = raw ∧ ((opn qs f : Int) : Rat) ≤ p.2.1
  ai : Asc is
  ri : ∀ p ∈ is, 0 < p.2.2
  zi : Cz 100 100 8 is
  zv : ∀ p ∈ is, Sz 64 (p.2.2)⁻¹
  nf : fallQ is = none
  ln : is.length ≤ 300
theorem CvZ.asm {is : List Pc} {qs : List (Int × Int)} {w f l : Int} {raw : Rat} (h : CvZ is qs w f l raw) : Asc (smC qs w f l) := scR_asc h.hg h.hw (rws_of h.hg f l)
theorem CvZ.ge {is : List Pc} {qs : List (Int × Int)} {w f l : Int} {raw : Rat} (h : CvZ is qs w f l raw) : ∀ p ∈ is, raw ≤ p.1 := fun q hq => by
  obtain ⟨p, hp, e1, _⟩ := h.p0
  obtain ⟨i, hi⟩ := List.getElem?_of_mem hq
  cases i with
  | zero => rw [hp] at hi; cases hi; grind
  | succ i => have := asc_lt h.ai hp hi (by omega); grind
theorem CvZ.shown {is : List Pc} {qs : List (Int × Int)} {w f l : Int} {raw t : Rat} (h : CvZ is qs w f l raw) (ht : raw ≤ t) (zt : Sz 620 t) : nowQ is t = some (atQ is t) ∧ Sz 850 (atQ is t) ∧ ((opn qs f : Int) : Rat) ≤ atQ is t := by
  obtain ⟨p, hp, e1, e2⟩ := h.p0
  have m1 := at_mono h.ai hp h.ri h.nf
  refine ⟨now_atQ h.ai hp (by rw [e1]; grind), ?_, ?_⟩
  · obtain ⟨q, hq, h1, h2⟩ := place_at h.ai hp (t := t) (by rw [e1]; exact ht)
    rw [at_of h.ai hq h1 h2]
    exact (pline_sz (h.zi.at hq) zt).mono (by decide)
  · have e3 : atQ is p.1 = p.2.1 := by
      rw [at_of h.ai hp Rat.le_refl (fun q hq => asc_lt h.ai hp hq (by omega))]
      unfold pline; grind
    have := m1 p.1 t Rat.le_refl (by rw [e1]; exact ht)
    rw [e3] at this
    grind
theorem ch_z {is : List Pc} {qs : List (Int × Int)} {w f l : Int} (hg : GoodK qs) (hl : qs.length ≤ 60) (hw : WinOk w) (fl : FLok f l) (le : f ≤ l) (p0 : ∃ p, is[0]? = some p) (ai : Asc is) (ri : ∀ p ∈ is, 0 < p.2.2) (zi : Cz 100 100 8 is) (zv : ∀ p ∈ is, Sz 64 (p.2.2)⁻¹) (ln : is.length ≤ 1000) : ChZ is (smC qs w f l) 100 100 8 64 6 6 17 where
  ni := p0
  no := ⟨pcL qs f, rfl⟩
  ai := ai
  ao := scR_asc hg hw (rws_of hg f l)
  ri := ri
  ro := sm_pos hg hw (rws_of hg f l)
  zi := zi
  zo := (smC_cw hg hl hw ⟨by have := fl.1; omega, by have := fl.2; omega⟩ (by have := fl.2; omega)).1
  zv := zv
  zz := by decide
  zw := by decide
  ln := by have := smC_len hl w f l; omega
theorem CvZ.ch {is : List Pc} {qs : List (Int × Int)} {w f l : Int} {raw : Rat} (h : CvZ is qs w f l raw) : ChZ is (smC qs w f l) 100 100 8 64 6 6 17 :=
  ch_z h.hg h.hl h.hw h.fl h.le (let ⟨p, hp, _⟩ := h.p0; ⟨p, hp⟩) h.ai h.ri h.zi h.zv (by have := h.ln; omega)
/-- what is shown, and how -/
structure CvT (is : List Pc) (qs : List (Int × Int)) (w f l : Int) (raw : Rat) (cs : List Pc) : Prop where
  td : TidyZ cs raw
  nf : ∀ {i : Nat} {p q : Pc}, cs[i]? = some p → cs[i + 1]? = some q → pline p q.1 ≤ q.2.1
  sh : ∀ t, raw ≤ t → nowQ cs t = some (chQ is (smC qs w f l) t)
theorem CvT.ge {is : List Pc} {qs : List (Int × Int)} {w f l : Int} {raw : Rat} {cs : List Pc} (h : CvT is qs w f l raw cs) : ∀ p ∈ cs, raw ≤ p.1 := fun q hq => by
  obtain ⟨p, hp, e1⟩ := h.td.p0
  obtain ⟨i, hi⟩ := List.getElem?_of_mem hq
  cases i with
  | zero => rw [hp] at hi; cases hi; grind
  | succ i => have := asc_lt h.td.asc hp hi (by omega); grind
theorem CvZ.told {is : List Pc} {qs : List (Int × Int)} {w f l : Int} {raw : Rat} (h : CvZ is qs w f l raw) {rs : List Pc} (R : ChR is (smC qs w f l) 100 100 8 64 6 6 17 rs) : CvT is qs w f l raw (tidyQ rs) := by
  obtain ⟨p, hp, e1, e2⟩ := h.p0
  have hd := R.hd
  rw [List.head?_eq_getElem? (l := is), hp] at hd
  cases rs with
  | nil => cases hd
  | cons r0 rs =>
  have hr0 : r0.1 = raw := by
    have : r0.1 = p.1 := by simpa using hd
    rw [this, e1]
  have ar := R.tel.asc
  have sub := tidy_sub (r0 :: rs)
  have at2 : Asc (tidyQ (r0 :: rs)) := List.Pairwise.sublist sub ar
  have sh : ∀ t, raw ≤ t → nowQ (tidyQ (r0 :: rs)) t = some (chQ is (smC qs w f l) t) := fun t ht => by
    rw [now_tidy ar]
    exact R.tel.now (by rw [hr0]; exact ht)
  have h0 : (tidyQ (r0 :: rs))[0]? = some r0 := by rw [tidy_cons]; rfl
  have lo : ∀ q ∈ tidyQ (r0 :: rs), raw ≤ q.1 := fun q hq => by
    rw [tidy_cons] at hq at2
    rcases List.mem_cons.mp hq with z | z
    · rw [z, hr0]; exact Rat.le_refl
    · have := (List.pairwise_cons.mp at2).1 q z
      grind
  have rp : ∀ q ∈ tidyQ (r0 :: rs), 0 < q.2.2 := fun q hq => R.tel.pos q (sub.mem hq)
  refine ⟨⟨fun q hq => ?_, ?_, at2, ⟨r0, h0, hr0⟩, tidy_idem, rp, ?_⟩, fun {i p' q'} hp' hq' => ?_, sh⟩
  · obtain ⟨z1, z2, z3⟩ := R.zr q (sub.mem hq)
    exact ⟨z1.mono (by decide), z2.mono (by decide), z3.mono (by decide)⟩
  · rw [← e1]; exact (h.zi.at hp).1.mono (by decide)
  · have := sub.length_le
    have := R.ln
    have := smC_len h.hl w f l
    have := h.ln
    omega
  · refine no_fall (t0 := raw) at2 sh (fun x y hx hxy => ?_) hp' hq' (lo _ (List.mem_of_getElem? hp')) (rp _ (List.mem_of_getElem? hp'))
    have m1 := at_mono h.ai hp h.ri h.nf
    have m2 := at_mono h.asm (p0 := pcL qs f) rfl (sm_pos h.hg h.hw (rws_of h.hg f l)) (fall_sm h.hg h.hw)
    unfold chQ
    refine m2 _ _ ?_ (m1 _ _ (by rw [e1]; exact hx) hxy)
    have e3 : atQ is p.1 = p.2.1 := by
      rw [at_of h.ai hp Rat.le_refl (fun q hq => asc_lt h.ai hp hq (by omega))]
      unfold pline; grind
    have := m1 p.1 x Rat.le_refl (by rw [e1]; exact hx)
    rw [e3] at this
    rw [pcL_opn]; grind
/-! ### promises -/
end DL

end
section
set_option Elab.async false
set_option linter.all false
set_option autoImplicit true
set_option maxRecDepth 100000
set_option maxHeartbeats 400000
/-! a tuple that holds a fresh list: its list is owned by a slot of its own, that no name of the def sees (a ghost) -/
namespace DL
open PySem L2
open PyProof.Rows hiding St
section
variable {X : Cx} {n : Nm} {c : Cc} {Γ : SL} {e a b o : Expr} {x y z : DL.D} {pos p ap pos2 : Pos} {nm meth : Str} {es : List Expr} {k l : AK} {De : DE} {S : Sg} {SX : SgX}
/-- an expression that gives a tuple with a fresh thing in it -/
structure WX (X : Cx) (n : Nm) (c : Cc) (Γ : SL) (e : Expr) (Post : List DL.D → Addr → List DL.D → OB → SL → Prop) : Prop where
  run : NOk X n c → ∀ σ R H, SOk X.K c Γ σ R H → ∀ Q : VK,
  (∀ v R' H' pre b post o Γ', SOk X.K c Γ' σ R' H' → Ex R R' → VOk X.K c Γ' σ R' H' (.bx pre b post o) v → Post pre b post o Γ' → Q v H') → tW X e σ H Q
theorem SOk.same {K : PySem.W.Frag} {σ : L2.St} {R H : Hp} (s : SOk K c Γ σ R H) {i : Nat} {v : Option V} (e : σ[i]? = some v) (hi : i ∉ c.oi.map (·.1)) {sl : DL.Slot} (hs : sl.isOwn = false) (h : SlotOk K c R H sl v) : SOk K c (Γ.set i sl) σ R H := by
  have s2 := s.set i (v := v) hs h hi
  have es : σ.set i v = σ := by
    apply List.ext_getElem?
    intro j
    by_cases hj : i = j
    · subst hj; rw [List.getElem?_set_self (List.getElem?_eq_some_iff.mp e).1, e]
    · rw [List.getElem?_set_ne hj]
  rw [es] at s2
  exact s2
/-! ### its things -/
variable {mid : String} {P : List DL.D → List DL.D → (DL.D → List DL.D → Prop) → Prop}
end
end DL

end
section
set_option Elab.async false
set_option linter.all false
set_option autoImplicit true
set_option maxRecDepth 100000
set_option maxHeartbeats 400000
/-! chained courses: the law's own looks -/
namespace DL
open PySem L2
open PyProof.Rows hiding St
/-- sizes: s t r v of the inner one, s' t' r' of the outer one -/
structure C62 (is os : List Pc) : Prop where
  z : ChZ is os 18 188 15 120 264 188 15
  li : is.length ≤ 12
  lo : os.length ≤ 12
/-- no refusal is due -/
def Fit (is os : List Pc) : Prop := fallQ is = none ∧ ∀ p o, is[0]? = some p → os[0]? = some o → ¬ p.2.1 < o.1
/-- what is told -/
structure T62 (is os cs : List Pc) : Prop where
  zc : Cz 592 657 30 cs
  asc : Asc cs
  hd : ∃ p q, cs[0]? = some q ∧ is[0]? = some p ∧ q.1 = p.1
  ti : tidyQ cs = cs
  rates : ∀ p ∈ cs, 0 < p.2.2
  lc : cs.length ≤ 24
  sh : ∀ p t, is[0]? = some p → p.1 ≤ t → nowQ cs t = some (chQ is os t)
theorem C62.told {is os : List Pc} (h : C62 is os) {rs : List Pc} (R : ChR is os 18 188 15 120 264 188 15 rs) : T62 is os (tidyQ rs) := by
  obtain ⟨p, hp⟩ := h.z.ni
  have hd := R.hd
  rw [List.head?_eq_getElem? (l := is), hp] at hd
  cases rs with
  | nil => cases hd
  | cons r0 rs =>
  have hr0 : r0.1 = p.1 := by simpa using hd
  have ar := R.tel.asc
  have sub := tidy_sub (r0 :: rs)
  refine ⟨fun q hq => ?_, List.Pairwise.sublist sub ar, ⟨p, r0, by rw [tidy_cons]; rfl, hp, hr0⟩, tidy_idem, fun q hq => R.tel.pos q (sub.mem hq), ?_, fun p' t hp' ht => ?_⟩
  · exact R.zr q (sub.mem hq)
  · have := sub.length_le
    have := R.ln
    have := h.li
    have := h.lo
    omega
  · rw [hp] at hp'; cases hp'
    rw [now_tidy ar]
    exact R.tel.now (by rw [hr0]; exact ht)
/-- the place of the piece in force -/
def PlcI (c : List Pc) (t : Rat) (i : Int) : Prop := (i = -1 ∧ ∀ p ∈ c, t < p.1) ∨ ∃ (k : Nat) (p : Pc), i = (k : Int) ∧ c[k]? = some p ∧ p.1 ≤ t ∧ ∀ q, c[k + 1]? = some q → t < q.1
theorem plc_u {c : List Pc} {t : Rat} {i : Int} (ha : Asc c) (h : PlcI c t i) {k : Nat} {p : Pc} (hp : c[k]? = some p) (h1 : p.1 ≤ t) (h2 : ∀ q, c[k + 1]? = some q → t < q.1) : i = (k : Int) := by
  rcases h with ⟨_, h⟩ | ⟨m, q, rfl, hq, h3, h4⟩
  · have := h p (List.mem_of_getElem? hp); grind
  · rcases Nat.lt_trichotomy m k with a | a | a
    · have hk := (List.getElem?_eq_some_iff.mp hp).1
      obtain ⟨r, hr⟩ : ∃ r, c[m + 1]? = some r := ⟨_, atB (by omega)⟩
      have h5 := h4 r hr
      by_cases z : m + 1 = k
      · subst z; rw [hp] at hr; cases hr; grind
      · have := asc_lt ha hr hp (by omega); grind
    · rw [a]
    · have hk := (List.getElem?_eq_some_iff.mp hq).1
      obtain ⟨r, hr⟩ : ∃ r, c[k + 1]? = some r := ⟨_, atB (by omega)⟩
      have h5 := h2 r hr
      by_cases z : k + 1 = m
      · subst z; rw [hq] at hr; cases hr; grind
      · have := asc_lt ha hr hq (by omega); grind
theorem at_pl {c : List Pc} {p0 : Pc} {t : Rat} (ha : Asc c) (h0 : c[0]? = some p0) (h : p0.1 ≤ t) : ∃ (k : Nat) (p : Pc), c[k]? = some p ∧ p.1 ≤ t ∧ atQ c t = pline p t ∧ ∀ i, PlcI c t i → i = (k : Int) := by
  obtain ⟨p, hp, h1, h2⟩ := place_at ha h0 h
  exact ⟨_, p, hp, h1, at_of ha hp h1 h2, fun i hi => plc_u ha hi hp h1 h2⟩
theorem at_0 {c : List Pc} {i : Nat} {p : Pc} (ha : Asc c) (hp : c[i]? = some p) : atQ c p.1 = p.2.1 := by
  rw [at_of ha hp Rat.le_refl fun q hq => asc_lt ha hp hq (by omega)]
  unfold pline; grind
/-- the inner one is at or past the outer one's start -/
theorem C62.go {is os : List Pc} (C : C62 is os) (F : Fit is os) {p0 o0 : Pc} (hp : is[0]? = some p0) (ho : os[0]? = some o0) {t : Rat} (h : p0.1 ≤ t) : o0.1 ≤ atQ is t := by
  have h1 := at_mono C.z.ai hp C.z.ri F.1 p0.1 t Rat.le_refl h
  rw [at_0 C.z.ai hp] at h1
  have h2 := F.2 p0 o0 hp ho
  grind
structure V62 (is os cs : List Pc) (t : Rat) (i k m : Nat) (p o q : Pc) : Prop where
  hp : is[i]? = some p
  ho : os[k]? = some o
  hq : cs[m]? = some q
  ip : ∀ j, PlcI is t j → j = (i : Int)
  io : ∀ j, PlcI os (pline p t) j → j = (k : Int)
  iq : ∀ j, PlcI cs t j → j = (m : Int)
  e : pline q t = pline o (pline p t)
theorem C62.val {is os cs : List Pc} (C : C62 is os) (F : Fit is os) (T : T62 is os cs) {p0 : Pc} {t : Rat} (hp0 : is[0]? = some p0) (h : p0.1 ≤ t) : ∃ i k m p o q, V62 is os cs t i k m p o q := by
  obtain ⟨p', q0, hq0, hp', e0⟩ := T.hd
  rw [hp0] at hp'; cases hp'
  obtain ⟨o0, ho0⟩ := C.z.no
  obtain ⟨i, p, hp, h1, h2, h3⟩ := at_pl C.z.ai hp0 h
  obtain ⟨m, q, hq, g1, g2, g3⟩ := at_pl T.asc hq0 (t := t) (by rw [e0]; exact h)
  have hg := C.go F hp0 ho0 h
  rw [h2] at hg
  obtain ⟨k, o, ho, f1, f2, f3⟩ := at_pl C.z.ao ho0 hg
  refine ⟨i, k, m, p, o, q, hp, ho, hq, h3, f3, g3, ?_⟩
  have e := T.sh p0 t hp0 h
  rw [now_atQ T.asc hq0 (by rw [e0]; grind), g2] at e
  have e' := Option.some.inj e
  unfold chQ at e'
  rw [h2, f2] at e'
  exact e'
theorem C62.shown {is os cs : List Pc} (C : C62 is os) (F : Fit is os) (T : T62 is os cs) {p0 : Pc} {t : Rat} (hp0 : is[0]? = some p0) (h : p0.1 ≤ t) : atQ cs t = atQ os (atQ is t) := by
  obtain ⟨p', q0, hq0, hp', e0⟩ := T.hd
  rw [hp0] at hp'; cases hp'
  have e := T.sh p0 t hp0 h
  rw [now_atQ T.asc hq0 (by rw [e0]; grind)] at e
  exact Option.some.inj e
theorem C62.ge {is os : List Pc} (C : C62 is os) {p0 q : Pc} (hp : is[0]? = some p0) (hq : q ∈ is) : p0.1 ≤ q.1 := by
  obtain ⟨i, hi⟩ := List.getElem?_of_mem hq
  cases i with
  | zero => rw [hp] at hi; cases hi; exact Rat.le_refl
  | succ i => have := asc_lt C.z.ai hp hi (by omega); grind
theorem T62.ge {is os cs : List Pc} (T : T62 is os cs) {p0 q : Pc} (hp : is[0]? = some p0) (hq : q ∈ cs) : p0.1 ≤ q.1 := by
  obtain ⟨p', q0, hq0, hp', e0⟩ := T.hd
  rw [hp] at hp'; cases hp'
  obtain ⟨i, hi⟩ := List.getElem?_of_mem hq
  rw [← e0]
  cases i with
  | zero => rw [hq0] at hi; cases hi; exact Rat.le_refl
  | succ i => have := asc_lt T.asc hq0 hi (by omega); grind
end DL

end
section
set_option Elab.async false
set_option linter.all false
set_option autoImplicit true
set_option maxRecDepth 100000
set_option maxHeartbeats 400000
/-! a tuple with a fresh list in it, read as data: for good, or for the time of one call; slewed and stepped courses -/
namespace DL
open PySem L2
open PyProof.Rows hiding St
section
variable {X : Cx} {n : Nm} {c : Cc} {Γ : SL} {e a b o : Expr} {x y z : DL.D} {pos p ap pos2 : Pos} {nm meth : Str} {es : List Expr} {k l : AK} {De : DE} {S : Sg} {SX : SgX}
end
/-! ### the courses -/
def befQ9 (c : List Pc) (t : Rat) : List Pc := c.filter (fun p => decide (p.1 < t))
def slewQ9 (c : List Pc) (t r : Rat) : List Pc := tidyQ (befQ9 c t ++ [(t, atQ c t, r)])
def shQ9 (j : Rat) (p : Pc) : Pc := (p.1, p.2.1 + j, p.2.2)
def stepP9 (c : List Pc) (t j : Rat) (p : Pc) : List Pc := (t, atQ c t + j, p.2.2) :: (c.drop (placeN c t + 1)).map (shQ9 j)
def stepQ9 (c : List Pc) (t j : Rat) (p : Pc) : List Pc := tidyQ (befQ9 c t ++ stepP9 c t j p)
/-- what begins at t -/
structure Cut9 (P : List Pc) (t : Rat) (f : Rat → Rat) : Prop where
  hd : ∃ p, P[0]? = some p ∧ p.1 = t
  ge : ∀ p ∈ P, ¬ p.1 < t
  asc : Asc P
  now : ∀ x, ¬ x < t → nowQ P x = some (f x)
  pos : ∀ p ∈ P, 0 < p.2.2
theorem cut_now {c P : List Pc} {t : Rat} {f : Rat → Rat} (h : Cut9 P t f) (x : Rat) : nowQ (befQ9 c t ++ P) x = if x < t then nowQ c x else some (f x) := by
  by_cases q : x < t
  · rw [if_pos q, now_app0, befQ9, now_kept q]
    rw [List.filter_eq_nil_iff]
    intro p hp
    have := h.ge p hp
    unfold past
    have : x < p.1 := by grind
    simp [this]
  · rw [if_neg q, now_app1, h.now x q]
    intro z
    have := h.now x q
    unfold nowQ at this
    rw [z] at this; cases this
theorem cut_asc {c P : List Pc} {t : Rat} {f : Rat → Rat} (ha : Asc c) (h : Cut9 P t f) : Asc (befQ9 c t ++ P) := by
  refine List.pairwise_append.mpr ⟨asc_flt ha, h.asc, fun p hp q hq => ?_⟩
  have h1 : p.1 < t := by have := (List.mem_filter.mp hp).2; simpa using this
  have h2 := h.ge q hq
  grind
theorem cut_hd {c P : List Pc} {t : Rat} {f : Rat → Rat} {p0 : Pc} (ha : Asc c) (h0 : c[0]? = some p0) (hle : ¬ t < p0.1) (h : Cut9 P t f) : ∃ q, (befQ9 c t ++ P)[0]? = some q ∧ q.1 = p0.1 := by
  cases c with
  | nil => cases h0
  | cons a r =>
    have e0 : a = p0 := Option.some.inj h0
    rw [e0] at ha ⊢
    by_cases q : p0.1 < t
    · refine ⟨p0, ?_, rfl⟩
      unfold befQ9
      rw [List.filter_cons_of_pos (by simpa using q)]; rfl
    · have e : befQ9 (p0 :: r) t = [] := by
        unfold befQ9
        rw [List.filter_eq_nil_iff]
        intro p hp
        have : p0.1 ≤ p.1 := by
          rcases List.mem_cons.mp hp with rfl | hp
          · exact Rat.le_refl
          · have := (List.pairwise_cons.mp ha).1 p hp; grind
        have : ¬ p.1 < t := by grind
        simpa using this
      obtain ⟨p, hp, e1⟩ := h.hd
      exact ⟨p, by rw [e]; exact hp, by rw [e1]; grind⟩
theorem now_one {p : Pc} {x : Rat} (h : ¬ x < p.1) : nowQ [p] x = some (pline p x) := by
  unfold nowQ past; simp [h]
theorem cut_slew {t y r : Rat} (hr : 0 < r) : Cut9 [(t, y, r)] t (fun x => y + r * (x - t)) where
  hd := ⟨_, rfl, rfl⟩
  ge := fun p hp => by rw [List.mem_singleton] at hp; subst hp; exact Rat.lt_irrefl
  asc := List.pairwise_singleton _ _
  now := fun x hx => now_one hx
  pos := fun p hp => by rw [List.mem_singleton] at hp; subst hp; exact hr
theorem pline_sh {j x : Rat} {p : Pc} : pline (shQ9 j p) x = pline p x + j := by unfold pline shQ9; grind
theorem past_sh {j x : Rat} : (past x) ∘ (shQ9 j) = past x := rfl
theorem now_sh {c : List Pc} {j x : Rat} : nowQ (c.map (shQ9 j)) x = (nowQ c x).map (· + j) := by
  unfold nowQ
  rw [List.filter_map, past_sh, List.getLast?_map]
  cases (c.filter (past x)).getLast? with
  | none => rfl
  | some p => exact congrArg some pline_sh
theorem cut_step {c : List Pc} {t j : Rat} {p p0 : Pc} (ha : Asc c) (h0 : c[0]? = some p0) (hp : c[placeN c t]? = some p) (h1 : p.1 ≤ t) (h2 : ∀ q, c[placeN c t + 1]? = some q → t < q.1) (hpos : ∀ p ∈ c, 0 < p.2.2) : Cut9 (stepP9 c t j p) t (fun x => atQ c x + j) := by
  have ea : atQ c t = pline p t := at_of ha hp h1 h2
  have hlt := (List.getElem?_eq_some_iff.mp hp).1
  have ec : c = c.take (placeN c t) ++ ([p] ++ c.drop (placeN c t + 1)) := by
    conv => lhs; rw [← List.take_append_drop (placeN c t) c]
    rw [List.drop_eq_getElem_cons hlt, (List.getElem?_eq_some_iff.mp hp).2]; rfl
  have gr : ∀ q ∈ c.drop (placeN c t + 1), t < q.1 := fun q hq => by
    obtain ⟨i, hi⟩ := List.getElem?_of_mem hq
    rw [List.getElem?_drop] at hi
    cases i with
    | zero => exact h2 q hi
    | succ i =>
      obtain ⟨r, hr⟩ : ∃ r, c[placeN c t + 1]? = some r := ⟨_, atB (by have := (List.getElem?_eq_some_iff.mp hi).1; omega)⟩
      have := h2 r hr
      have := asc_lt ha hr hi (by omega)
      grind
  have ge0 : p0.1 ≤ p.1 := by
    cases hk : placeN c t with
    | zero => rw [hk, h0] at hp; cases hp; exact Rat.le_refl
    | succ i => have := asc_lt ha h0 hp (by omega); grind
  refine ⟨⟨_, rfl, rfl⟩, fun q hq => ?_, ?_, fun x hx => ?_, fun q hq => ?_⟩
  · rcases List.mem_cons.mp hq with rfl | hq
    · exact Rat.lt_irrefl
    · obtain ⟨r, hr, rfl⟩ := List.mem_map.mp hq
      have := gr r hr
      show ¬ r.1 < t
      grind
  · unfold Asc stepP9
    rw [List.pairwise_cons]
    refine ⟨fun q hq => ?_, ?_⟩
    · obtain ⟨r, hr, rfl⟩ := List.mem_map.mp hq
      exact gr r hr
    · rw [List.pairwise_map]
      exact List.Pairwise.sublist (List.drop_sublist _ _) ha
  · have key : nowQ (stepP9 c t j p) x = (nowQ c x).map (· + j) := by
      have pp : [p].filter (past x) ≠ [] := by
        have : ¬ x < p.1 := by grind
        unfold past; simp [this]
      have e1 : nowQ c x = nowQ ([p] ++ c.drop (placeN c t + 1)) x := by
        conv => lhs; rw [ec]
        exact now_app1 (by rw [List.filter_append]; intro z; exact pp (List.append_eq_nil_iff.mp z).1)
      rw [e1]
      show nowQ ([(t, atQ c t + j, p.2.2)] ++ (c.drop (placeN c t + 1)).map (shQ9 j)) x = _
      by_cases q : (c.drop (placeN c t + 1)).filter (past x) = []
      · rw [now_app0 q, now_app0 (by rw [List.filter_map, past_sh, q]; rfl), now_one hx, now_one (by grind)]
        refine congrArg some ?_
        rw [ea]; unfold pline; grind
      · rw [now_app1 q, now_app1 (by rw [List.filter_map, past_sh]; intro z; exact q (List.map_eq_nil_iff.mp z)), now_sh]
    rw [key, now_atQ ha h0 (by grind)]; rfl
  · rcases List.mem_cons.mp hq with rfl | hq
    · exact hpos p (List.mem_of_getElem? hp)
    · obtain ⟨r, hr, rfl⟩ := List.mem_map.mp hq
      exact hpos r (List.mem_of_mem_drop hr)
/-- what is asked of a course -/
structure C9 (V : Nat) (c : List Pc) (p0 : Pc) : Prop where
  h0 : c[0]? = some p0
  z : Cz 41 V 41 c
  asc : Asc c
  pos : ∀ p ∈ c, 0 < p.2.2
  ln : c.length ≤ 200
/-- what is told -/
structure G9 (V T : Nat) (c cs : List Pc) (p0 : Pc) (t : Rat) (f : Rat → Rat) : Prop where
  z : Cz T V T cs
  asc : Asc cs
  hd : ∃ q, cs[0]? = some q ∧ q.1 = p0.1
  ti : tidyQ cs = cs
  pos : ∀ p ∈ cs, 0 < p.2.2
  ln : cs.length ≤ 2 * c.length + 1
  now : ∀ x, nowQ cs x = if x < t then nowQ c x else some (f x)
theorem C9.cz {V T W : Nat} {c P : List Pc} {p0 : Pc} {t : Rat} (C : C9 V c p0) (hT : 41 ≤ T) (hz : Cz T (V + T + W + 90) T P) : Cz T (V + T + W + 90) T (befQ9 c t ++ P) := fun q hq => by
  rcases List.mem_append.mp hq with hq | hq
  · obtain ⟨z1, z2, z3⟩ := C.z q (List.mem_filter.mp hq).1
    exact ⟨z1.mono hT, z2.mono (by omega), z3.mono hT⟩
  · exact hz q hq
theorem C9.told {V T W : Nat} {c P : List Pc} {p0 : Pc} {t : Rat} {f : Rat → Rat} (C : C9 V c p0) (hT : 41 ≤ T) (hle : ¬ t < p0.1) (h : Cut9 P t f) (hz : Cz T (V + T + W + 90) T P) (hl : P.length ≤ c.length + 1) : G9 (V + T + W + 90) T c (tidyQ (befQ9 c t ++ P)) p0 t f := by
  have ha := cut_asc C.asc h
  have sub := tidy_sub (befQ9 c t ++ P)
  have hb : ∀ p ∈ befQ9 c t, p ∈ c := fun p hp => (List.mem_filter.mp hp).1
  refine ⟨fun q hq => C.cz hT hz q (sub.mem hq), List.Pairwise.sublist sub ha, ?_, tidy_idem, fun q hq => ?_, ?_, fun x => by rw [now_tidy ha, cut_now h]⟩
  · obtain ⟨q, hq, e⟩ := cut_hd C.asc C.h0 hle h
    cases hc : befQ9 c t ++ P with
    | nil => rw [hc] at hq; cases hq
    | cons a r => rw [hc] at hq; cases hq; exact ⟨_, by rw [tidy_cons]; rfl, e⟩
  · rcases List.mem_append.mp (sub.mem hq) with hq | hq
    · exact C.pos q (hb q hq)
    · exact h.pos q hq
  · have h1 := sub.length_le
    rw [List.length_append] at h1
    have h2 : (befQ9 c t).length ≤ c.length := List.length_filter_le _ _
    omega
theorem C9.at_sz {V T : Nat} {c : List Pc} {p0 : Pc} {t : Rat} (C : C9 V c p0) (hle : ¬ t < p0.1) (zt : Sz T t) : Sz (V + T + 85) (atQ c t) := by
  obtain ⟨p, hp, h1, h2⟩ := place_at C.asc C.h0 (t := t) (by grind)
  rw [at_of C.asc hp h1 h2]
  exact (pline_sz (C.z.at hp) zt).mono (by omega)
theorem C9.szl {V T : Nat} (W : Nat) {c : List Pc} {p0 : Pc} {t r : Rat} (C : C9 V c p0) (hle : ¬ t < p0.1) (zt : Sz T t) (zr : Sz T r) : Cz T (V + T + W + 90) T [(t, atQ c t, r)] := fun p hp => by
  rw [List.mem_singleton] at hp; subst hp; exact ⟨zt, (C.at_sz hle zt).mono (by omega), zr⟩
theorem C9.szs {V T W : Nat} {c : List Pc} {p p0 : Pc} {t j : Rat} (C : C9 V c p0) (hT : 41 ≤ T) (hle : ¬ t < p0.1) (zt : Sz T t) (zj : Sz W j) (hp : c[placeN c t]? = some p) : Cz T (V + T + W + 90) T (stepP9 c t j p) := fun q hq => by
  rcases List.mem_cons.mp hq with rfl | hq
  · exact ⟨zt, ((C.at_sz hle zt).add zj).mono (by omega), (C.z.at hp).2.2.mono hT⟩
  · obtain ⟨r, hr, rfl⟩ := List.mem_map.mp hq
    obtain ⟨z1, z2, z3⟩ := C.z r (List.mem_of_mem_drop hr)
    exact ⟨z1.mono hT, (z2.add zj).mono (by omega), z3.mono hT⟩
theorem C9.slew {V T : Nat} (W : Nat) {c : List Pc} {p0 : Pc} {t r : Rat} (C : C9 V c p0) (hT : 41 ≤ T) (hle : ¬ t < p0.1) (zt : Sz T t) (zr : Sz T r) (hr : 0 < r) : G9 (V + T + W + 90) T c (slewQ9 c t r) p0 t (fun x => atQ c t + r * (x - t)) :=
  C.told hT hle (cut_slew hr) (C.szl W hle zt zr) (by simp)
theorem slew_last {c : List Pc} {t r : Rat} : ∀ p ∈ slewQ9 c t r, ¬ t < p.1 := fun p hp => by
  rcases List.mem_append.mp ((tidy_sub _).mem hp) with hp | hp
  · have : p.1 < t := by have := (List.mem_filter.mp hp).2; simpa using this
    grind
  · rw [List.mem_singleton] at hp; subst hp; exact Rat.lt_irrefl
theorem C9.step {V T W : Nat} {c : List Pc} {p p0 : Pc} {t j : Rat} (C : C9 V c p0) (hT : 41 ≤ T) (hle : ¬ t < p0.1) (zt : Sz T t) (zj : Sz W j) (hp : c[placeN c t]? = some p) : G9 (V + T + W + 90) T c (stepQ9 c t j p) p0 t (fun x => atQ c x + j) := by
  obtain ⟨p', hp', h1, h2⟩ := place_at C.asc C.h0 (t := t) (by grind)
  rw [hp] at hp'; cases hp'
  refine C.told hT hle (cut_step C.asc C.h0 hp h1 h2 C.pos) (C.szs hT hle zt zj hp) ?_
  unfold stepP9
  rw [List.length_cons, List.length_map, List.length_drop]
  omega
/-! ### promises -/
/-- the change that is asked for: the course, and how it runs from t on -/
def ChgQ (c : List Pc) (t w : Rat) (sl : Bool) (cs : List Pc) : Prop := if sl = true then cs = slewQ9 c t w else ∃ p, c[placeN c t]? = some p ∧ cs = stepQ9 c t w p
def chgF (c : List Pc) (t w : Rat) (sl : Bool) (x : Rat) : Rat := if sl = true then atQ c t + w * (x - t) else atQ c x + w
/-- what a change is asked with -/
structure A9 (V T W : Nat) (c : List Pc) (p0 : Pc) (t w : Rat) (sl : Bool) : Prop where
  c : C9 V c p0
  hT : 41 ≤ T
  hT2 : T ≤ 60
  hV : V + W ≤ 1500
  zt : Sz T t
  zw : Sz W w
  zs : sl = true → Sz T w
def dueD9 (p0 : Pc) (t w : Rat) (sl : Bool) : Option DL.D := if t < p0.1 then some (.tup [.str "BeforeStart", qD t]) else if sl = true ∧ ¬ 0 < w then some (.tup [.str "BadRate", qD w]) else none
theorem due9_none {p0 : Pc} {t w : Rat} {sl : Bool} (h : dueD9 p0 t w sl = none) : ¬ t < p0.1 ∧ (sl = true → 0 < w) := by
  unfold dueD9 at h
  by_cases h1 : t < p0.1
  · rw [if_pos h1] at h; cases h
  · rw [if_neg h1] at h
    by_cases h2 : sl = true ∧ ¬ 0 < w
    · rw [if_pos h2] at h; cases h
    · refine ⟨h1, fun z => ?_⟩
      by_cases h3 : 0 < w
      · exact h3
      · exact absurd ⟨z, h3⟩ h2
theorem A9.told {V T W : Nat} {c cs : List Pc} {p0 : Pc} {t w : Rat} {sl : Bool} (A : A9 V T W c p0 t w sl) (hd : dueD9 p0 t w sl = none) (h : ChgQ c t w sl cs) : G9 (V + T + W + 90) T c cs p0 t (chgF c t w sl) ∧ (sl = true → ∀ p ∈ cs, ¬ t < p.1) := by
  obtain ⟨hle, hw⟩ := due9_none hd
  unfold ChgQ at h
  cases sl with
  | true =>
    rw [if_pos rfl] at h; subst h
    exact ⟨A.c.slew W A.hT hle A.zt (A.zs rfl) (hw rfl), fun _ => slew_last⟩
  | false =>
    rw [if_neg (by decide)] at h
    obtain ⟨p, hp, rfl⟩ := h
    exact ⟨A.c.step A.hT hle A.zt A.zw hp, fun z => by cases z⟩
end DL

end
section
set_option Elab.async false
set_option linter.all false
set_option autoImplicit true
set_option maxRecDepth 100000
set_option maxHeartbeats 1000000
/-! a law that asks repr: the guards around its call are known to be none -/
namespace DL
open PySem L2 PySem.Spec PyProof.Rows
/-- a promise for calls that stand under no repr -/
structure FnOkG (P : Program) (w : World) (K : PySem.W.Frag) (mg : Str → Option Value) (base : Heap) (k : Nat) (f : Addr) (fd : FuncData) (ps : List Str) (sp : Sp) : Prop where
  len : ∀ vs H Q E, sp vs H Q E → vs.length = ps.length
  run : ∀ (A : Around) (outer : List Env) (s : Shared) (H : Hp) (args : Args) (us : List Value) (vs : List V) (Q : VK) (E : XK), A.guards = some [] → Room k A → Env0 P w K mg base A outer s H → BindsTo s fd args (ps.zip us) → Vals vs us → sp vs H Q E →
    codeAny (model P w) A (.call (.ref f) args) (CR CX0 outer P w H s Q E) s
theorem FnOkG.at {P : Program} {w : World} {K : PySem.W.Frag} {mg : Str → Option Value} {base : Heap} {k : Nat} {f : Addr} {fd : FuncData} {ps : List Str} {sp : Sp} (F : FnOkG P w K mg base k f fd ps sp) {A0 : Around} (hG : A0.guards = some []) : FnUd A0 P w K mg base CX0 k f fd ps sp :=
  ⟨F.len, fun outer s H args us vs Q E => F.run A0 outer s H args us vs Q E hG⟩
/-! ### repr of data -/
section
variable {X : Cx} {n : Nm} {c : Cc} {Γ : SL} {e : Expr} {x : DL.D} {pos p : Pos} {k : AK}
end
end DL

end
section
set_option Elab.async false
set_option linter.all false
set_option autoImplicit true
set_option maxRecDepth 100000
set_option maxHeartbeats 400000
/-! is_course of any value -/
namespace DL
open PySem L2
open PyProof.Rows hiding St
/-! ### what is told at a time -/
/-! ### sizes that grow by sums alone -/
theorem nat_le_rat {a b : Nat} (h : a ≤ b) : ((a : Nat) : Rat) ≤ ((b : Nat) : Rat) := Rat.natCast_le_natCast.mpr h
def Ld (N k : Nat) (q : Rat) : Prop := La N (((k * 2 ^ 60 : Nat)) : Rat) q
theorem Ld.up {N j k : Nat} {a : Rat} (h : Ld N j a) (e : j ≤ k) : Ld N k a := La.up h (nat_le_rat (Nat.mul_le_mul_right _ e))
theorem Ld.add {N j k : Nat} {a b : Rat} (h : Ld N j a) (h' : Ld N k b) : Ld N (j + k) (a + b) := by
  have := La.add h h'
  unfold Ld
  rw [Nat.add_mul, Rat.natCast_add]
  exact this
theorem Ld.sub {N j k : Nat} {a b : Rat} (h : Ld N j a) (h' : Ld N k b) : Ld N (j + k) (a - b) := by
  have := La.sub h h'
  unfold Ld
  rw [Nat.add_mul, Rat.natCast_add]
  exact this
theorem Sd.ld {N n : Nat} {q : Rat} (h : Sd N n q) (hN : N ≠ 0) (hn : n ≤ 60) : Ld N 1 q := by
  have hb : q.num.natAbs < 2 ^ 60 := Nat.lt_of_lt_of_le h.2 (Nat.pow_le_pow_right (by decide) hn)
  have hd := q.den_pos
  have e60 : ((1 * 2 ^ 60 : Nat) : Rat) = ((1152921504606846976 : Int) : Rat) := by decide +kernel
  have hb' : q.num.natAbs < 1152921504606846976 := hb
  refine ⟨hN, h.1, ?_, ?_⟩
  · rw [e60, Rat.le_iff]
    have e1 : (-((1152921504606846976 : Int) : Rat)).num = -1152921504606846976 := by decide +kernel
    have e2 : (-((1152921504606846976 : Int) : Rat)).den = 1 := by decide +kernel
    rw [e1, e2]
    have : (1 : Int) ≤ (q.den : Int) := by omega
    have h2 : (-1152921504606846976 : Int) * (q.den : Int) ≤ -1152921504606846976 * 1 := by omega
    omega
  · rw [e60, Rat.le_iff]
    have e1 : ((1152921504606846976 : Int) : Rat).num = 1152921504606846976 := by decide +kernel
    have e2 : ((1152921504606846976 : Int) : Rat).den = 1 := by decide +kernel
    rw [e1, e2]
    have : (1 : Int) ≤ (q.den : Int) := by omega
    omega
theorem Ld.sz {N k : Nat} {q : Rat} (h : Ld N k q) (hN : N < 2 ^ 25) (hk : k ≤ 1000) : Sz 25 q := La.sz h hN (nat_le_rat (Nat.le_trans (Nat.mul_le_mul_right _ hk) (by decide)))
def GP6 (k : Nat) (p : Pc) : Prop := Ld 60 k p.1 ∧ Ld N2 k p.2.1 ∧ PPace p.2.2
theorem GP6.cz {c : List Pc} (h : ∀ p ∈ c, GP6 200 p) : Cz 25 25 15 c := fun p hp => ⟨(h p hp).1.sz (by decide) (by decide), (h p hp).2.1.sz (by decide) (by decide), szPace (h p hp).2.2⟩
/-! ### what may be shown -/
/-- depth k, weight w -/
structure It (B k w : Nat) (x : DL.D) : Prop where
  lay : x.pd.canLay0 = true
  sh : x.pd.showable = true
  st : x.pd.intsShort B = true
  dp : x.pd.depth ≤ k
  wt : x.pd.weight ≤ w
theorem It.mono {B j k v w : Nat} {x : DL.D} (h : It B j v x) (e : j ≤ k) (f : v ≤ w) : It B k w x := ⟨h.lay, h.sh, h.st, Nat.le_trans h.dp e, Nat.le_trans h.wt f⟩
theorem its : ∀ {B : Nat} {ds : List DL.D} {k w : Nat}, (∀ x ∈ ds, It B k w x) → PyData.canLayAll0 (pdL ds) = true ∧ PyData.showableAll (pdL ds) = true ∧ PyData.intsShortAll B (pdL ds) = true ∧ PyData.depthAll (pdL ds) ≤ k ∧ PyData.weightAll (pdL ds) ≤ ds.length * (w + 1)
  | B, [], k, w, _ => ⟨by simp [pdL, PyData.canLayAll0], by simp [pdL, PyData.showableAll], by simp [pdL, PyData.intsShortAll], by simp [pdL, PyData.depthAll], by simp [pdL, PyData.weightAll]⟩
  | B, x :: ds, k, w, h => by
    obtain ⟨h1, h2, h5, h3, h4⟩ := its (ds := ds) fun y hy => h y (List.mem_cons_of_mem _ hy)
    have hx := h x List.mem_cons_self
    refine ⟨by simp [pdL, PyData.canLayAll0, hx.lay, h1], by simp [pdL, PyData.showableAll, hx.sh, h2], by simp [pdL, PyData.intsShortAll, hx.st, h5], ?_, ?_⟩
    · simp only [pdL, PyData.depthAll]
      have := hx.dp
      omega
    · simp only [pdL, PyData.weightAll, List.length_cons, Nat.add_mul]
      have := hx.wt
      omega
theorem It.lst {B : Nat} {ds : List DL.D} {k w n : Nat} (h : ∀ x ∈ ds, It B k w x) (hn : ds.length ≤ n) : It B (k + 1) (n * (w + 1)) (.lst ds) := by
  obtain ⟨h1, h2, h5, h3, h4⟩ := its h
  refine ⟨by simpa [DL.D.pd, PyData.canLay0] using h1, by simpa [DL.D.pd, PyData.showable] using h2, by simpa [DL.D.pd, PyData.intsShort] using h5, by simpa [DL.D.pd, PyData.depth] using h3, ?_⟩
  have : (DL.D.lst ds).pd.weight = PyData.weightAll (pdL ds) := by simp [DL.D.pd, PyData.weight]
  rw [this]
  exact Nat.le_trans h4 (Nat.mul_le_mul_right _ hn)
theorem It.tup {B : Nat} {ds : List DL.D} {k w n : Nat} (h : ∀ x ∈ ds, It B k w x) (hn : ds.length ≤ n) : It B (k + 1) (n * (w + 1)) (.tup ds) := by
  obtain ⟨h1, h2, h5, h3, h4⟩ := its h
  refine ⟨by simpa [DL.D.pd, PyData.canLay0] using h1, by simpa [DL.D.pd, PyData.showable] using h2, by simpa [DL.D.pd, PyData.intsShort] using h5, by simpa [DL.D.pd, PyData.depth] using h3, ?_⟩
  have : (DL.D.tup ds).pd.weight = PyData.weightAll (pdL ds) := by simp [DL.D.pd, PyData.weight]
  rw [this]
  exact Nat.le_trans h4 (Nat.mul_le_mul_right _ hn)
theorem It.int {i : Int} {m : Nat} (h : i.natAbs < 2 ^ m) (hm : 0 < m) (h2 : m < 1920) : It (m + 8) 0 (m + 1) (.int i) := by
  have hl : i.natAbs.log2 < m := by
    by_cases z : i.natAbs = 0
    · rw [z]; simpa using hm
    · exact (Nat.log2_lt z).mpr h
  refine ⟨by simp [DL.D.pd, PyData.canLay0], by simp [DL.D.pd, PyData.showable]; omega, ?_, by simp [DL.D.pd, PyData.depth], ?_⟩
  · simp only [DL.D.pd, PyData.intsShort, decide_eq_true_eq, PyData.shown]
    have := int_text_length_le (a := i) (k := m) hm hl
    have h2 : (Str.ofString (toString i)).length = (toString i).length := PySem.ofString_length _
    exact decide_eq_true (Nat.le_trans (Nat.le_of_eq h2) (by omega))
  · simp only [DL.D.pd, PyData.weight]
    split <;> omega
theorem It.q {q : Rat} {k : Nat} (h : Sz k q) (hk : 0 < k) (h2 : k ≤ 200) : It (8 * k + 8) 1 (2 * (8 * k + 1 + 1)) (qD q) :=
  It.tup (ds := [.int q.num, .int q.den]) (n := 2) (fun x hx => by
    simp only [List.mem_cons, List.not_mem_nil, or_false] at hx
    rcases hx with rfl | rfl
    · exact It.int h.1 (by omega) (by omega)
    · exact It.int (by simpa using Nat.lt_of_lt_of_le h.2 (Nat.pow_le_pow_right (by decide) (by omega))) (by omega) (by omega)) (by simp)
theorem It.p {p : Pc} {k : Nat} (h : Sz k p.1 ∧ Sz k p.2.1 ∧ Sz k p.2.2) (hk : 0 < k) (h2 : k ≤ 200) : It (8 * k + 8) 2 (3 * (2 * (8 * k + 1 + 1) + 1)) (pD p) :=
  It.tup (ds := [qD p.1, qD p.2.1, qD p.2.2]) (n := 3) (fun x hx => by
    simp only [List.mem_cons, List.not_mem_nil, or_false] at hx
    rcases hx with rfl | rfl | rfl
    · exact It.q h.1 hk h2
    · exact It.q h.2.1 hk h2
    · exact It.q h.2.2 hk h2) (by simp)
section
variable {X : Cx} {n : Nm} {c : Cc} {Γ : SL} {a b e : Expr} {x : DL.D} {pos p : Pos} {k l : AK}
end
/-! ### repr of an empty dict -/
section
variable {X : Cx} {n : Nm} {c : Cc} {Γ : SL} {e : Expr} {x : DL.D} {pos p : Pos} {k : AK}
end
end DL

end
section
set_option Elab.async false
set_option linter.all false
set_option autoImplicit true
set_option maxRecDepth 100000
set_option maxHeartbeats 400000
/-! is_span of any value -/
namespace DL
open PySem L2
open PyProof.Rows hiding St
end DL

end
section
set_option Elab.async false
set_option linter.all false
set_option autoImplicit true
set_option maxRecDepth 100000
set_option maxHeartbeats 1000000
/-! global defs whose parameters default to None; max of four; k03 -/
namespace DL
open PySem L2
open PyProof.Rows hiding St
/-! ### a def by positional values, some of them left out -/
structure CalXN (X : Cx) (k : Nat) (nm : Str) (n : Nat) (S : SgX) : Prop where
  rm : Room k X.A
  ex : ∃ f fd ps k0, FnOk X.prog X.w X.K X.mg X.base (L2N.CX X.prog X.w) k0 f fd ps (spOfX X.K S) ∧ k0 ≤ k ∧ X.mg nm = some (.ref f) ∧ PySem.W.keepIn X.K (.ref f) = true ∧ ∀ j, j ≤ n → ∃ ds, Vals (List.replicate (n - j) V.non) ds ∧ Binds X.K fd ps ds
theorem CalXN.tr {X : Cx} {k : Nat} {nm : Str} {n : Nat} {S : SgX} {pn : List (Addr × Obj)} {xe : Value → Shared → Prop} (h : CalXN X k nm n S) : CalXN (X.tr pn xe) k nm n S := ⟨h.rm, h.ex⟩
section
variable {X : Cx} {n : Nm} {c : Cc} {Γ : SL} {e : Expr} {es : List Expr} {pos p : Pos} {nm : Str} {S : SgX} {ks : List AK} {ps : List Par}
end

/-! ### max of four -/
section
open PySem.P
end
/-! ### k03 -/
end DL

end
section
set_option Elab.async false
set_option linter.all false
set_option autoImplicit true
set_option maxRecDepth 100000
set_option maxHeartbeats 1000000
/-! nested targets, enumerate; boxes taken apart; k19 -/
namespace DL
open PySem L2
open PyProof.Rows hiding St
/-! ### targets -/
def tG (X : Cx) (e : Expr) : TG := fun v σ H Q => ∀ (pins : List (Addr × Obj)) (s : Shared) (u : Value), Inv X pins σ H s → RelV v u → wpAny (model X.prog X.w) X.A (assign e X.env u) (fun _ s' => ∃ σ' H', Inv X pins σ' H' s' ∧ Q σ' H') X.xe s
def tGs (X : Cx) (es : List Expr) : TGs := fun vs σ H Q => ∀ (pins : List (Addr × Obj)) (s : Shared) (us : List Value), Inv X pins σ H s → Vals vs us → wpAny (model X.prog X.w) X.A (assignInOrder ((assignEach es X.env).map (·.2)) us) (fun _ s' => ∃ σ' H', Inv X pins σ' H' s' ∧ Q σ' H') X.xe s
section
variable {X : Cx} {n : Nm} {c : Cc} {Γ : SL} {e a b o : Expr} {es : List Expr} {x y z : DL.D} {xs : List DL.D} {pos p p1 p2 apos ap : Pos} {nm nx ny cls f m : Str} {k l : AK} {fs : List (Str × DL.D)} {De : DE} {v : V} {vs : List V} {σ : L2.St} {H R : Hp} {Q : L2.St → Hp → Prop}
theorem _root_.L2.PG.w {t : TG} (h : PG X e t) (q : t v σ H Q) : tG X e v σ H Q := fun pins s u I r => h.run pins s σ H v u Q I r q
theorem _root_.L2.PGs.w {t : TGs} (h : PGs X es t) (q : t vs σ H Q) : tGs X es vs σ H Q := fun pins s us I r => h.run pins s σ H vs us Q I r q
/-! ### boxes taken apart; a list that leaves its name -/
end
end DL

end
section
set_option Elab.async false
set_option linter.all false
set_option autoImplicit true
set_option maxRecDepth 100000
set_option maxHeartbeats 1000000
/-! k19: difference claims, relaxing, rings: the plain law -/
namespace DL
open PySem L2
open PyProof.Rows hiding St
/-! ### common denominators -/
def denL (qs : List Rat) : Nat := qs.foldl (fun c q => Nat.lcm c q.den) 1
theorem denL_go {N : Nat} : ∀ (qs : List Rat) (c : Nat), c ∣ N → (∀ q ∈ qs, q.den ∣ N) → qs.foldl (fun c q => Nat.lcm c q.den) c ∣ N
  | [], c, h, _ => h
  | q :: qs, c, h, hq => denL_go qs _ (Nat.lcm_dvd h (hq q List.mem_cons_self)) fun p hp => hq p (List.mem_cons_of_mem _ hp)
theorem denL_dvd {N : Nat} {qs : List Rat} (h : ∀ q ∈ qs, q.den ∣ N) : denL qs ∣ N := denL_go qs 1 (Nat.one_dvd _) h
theorem denL_up : ∀ (qs : List Rat) (c : Nat), c ∣ qs.foldl (fun c q => Nat.lcm c q.den) c ∧ ∀ q ∈ qs, q.den ∣ qs.foldl (fun c q => Nat.lcm c q.den) c
  | [], c => ⟨Nat.dvd_refl _, fun q h => by cases h⟩
  | q :: qs, c => by
    obtain ⟨h1, h2⟩ := denL_up qs (Nat.lcm c q.den)
    refine ⟨Nat.dvd_trans (Nat.dvd_lcm_left _ _) h1, fun p hp => ?_⟩
    rcases List.mem_cons.mp hp with rfl | hp
    · exact Nat.dvd_trans (Nat.dvd_lcm_right _ _) h1
    · exact h2 p hp
theorem mul_den_int {q : Rat} {C : Nat} (h : q.den ∣ C) : ((q.num * ((C / q.den : Nat) : Int) : Int) : Rat) = q * ((C : Nat) : Rat) := by
  obtain ⟨k, rfl⟩ := h
  have d0 : q.den ≠ 0 := q.den_nz
  rw [Nat.mul_div_cancel_left _ (Nat.pos_of_ne_zero d0), Rat.intCast_mul, Rat.natCast_mul]
  have e : (q.num : Rat) = q * (q.den : Rat) := (den_mulQ q).symm
  have e2 : (((k : Nat) : Int) : Rat) = ((k : Nat) : Rat) := by exact_mod_cast rfl
  rw [e, e2]; grind
/-! ### claims and edges -/
abbrev Cl := Nat × Nat × Rat × Str
abbrev Ed := Nat × Nat × Int × Nat
def liveB (gone : List Str) (c : Cl) : Bool := !gone.contains c.2.2.2
def edL (C : Nat) (gone : List Str) : Nat → List Cl → List Ed
  | _, [] => []
  | k, c :: cs => (if liveB gone c then [(c.1, c.2.1, c.2.2.1.num * ((C / c.2.2.1.den : Nat) : Int), k)] else []) ++ edL C gone (k + 1) cs
theorem edL_mem {C : Nat} {gone : List Str} {e : Ed} : ∀ (cs : List Cl) (k : Nat), e ∈ edL C gone k cs → ∃ j c, cs[j]? = some c ∧ e = (c.1, c.2.1, c.2.2.1.num * ((C / c.2.2.1.den : Nat) : Int), k + j) ∧ liveB gone c = true
  | [], k, h => by cases h
  | d :: cs, k, h => by
    rcases List.mem_append.mp h with h | h
    · split at h
      · rename_i hl
        exact ⟨0, d, rfl, by simpa using h, hl⟩
      · cases h
    · obtain ⟨j, c, h1, h2, h3⟩ := edL_mem cs (k + 1) h
      exact ⟨j + 1, c, h1, by rw [h2]; congr 3; omega, h3⟩
theorem edL_has {C : Nat} {gone : List Str} {c : Cl} : ∀ (cs : List Cl) (k : Nat), c ∈ cs → liveB gone c = true → ∃ j, (c.1, c.2.1, c.2.2.1.num * ((C / c.2.2.1.den : Nat) : Int), j) ∈ edL C gone k cs
  | d :: cs, k, h, hl => by
    rcases List.mem_cons.mp h with rfl | h
    · exact ⟨k, List.mem_append_left _ (by rw [if_pos hl]; exact List.mem_singleton.mpr rfl)⟩
    · obtain ⟨j, hj⟩ := edL_has cs (k + 1) h hl
      exact ⟨j, List.mem_append_right _ hj⟩
theorem edL_len {C : Nat} {gone : List Str} : ∀ (cs : List Cl) (k : Nat), (edL C gone k cs).length ≤ cs.length
  | [], _ => Nat.le_refl _
  | c :: cs, k => by
    have := edL_len (C := C) (gone := gone) cs (k + 1)
    simp only [edL, List.length_append, List.length_cons]
    split <;> simp <;> omega
/-! ### relaxing -/
def gO {α : Type} (l : List (Option α)) (i : Nat) : Option α := (l[i]?).join
theorem gO_some {α : Type} {l : List (Option α)} {i : Nat} {o : Option α} (h : l[i]? = some o) : gO l i = o := by unfold gO; rw [h]; rfl
theorem gO_of {α : Type} {l : List (Option α)} {i : Nat} {a : α} (h : gO l i = some a) : l[i]? = some (some a) := by
  unfold gO at h
  match e : l[i]?, h with
  | some (some b), h => simpa using h
  | some none, h => simp at h
  | none, h => simp at h
theorem gO_set {α : Type} {l : List (Option α)} {i j : Nat} {o : Option α} (h : i < l.length) : gO (l.set i o) j = if j = i then o else gO l j := by
  unfold gO
  by_cases e : j = i
  · subst e; rw [if_pos rfl, List.getElem?_set_self h]; rfl
  · rw [if_neg e, List.getElem?_set_ne (by omega)]
structure StR where
  s : List (Option Int)
  p : List (Option Ed)
  c : Option Nat
def lowB (r : Int) : Option Int → Bool
  | none => true
  | some y => decide (r < y)
def rlxE (t : StR) (e : Ed) : StR := match gO t.s e.1 with
  | none => t
  | some x => if lowB (x + e.2.2.1) (gO t.s e.2.1) then ⟨t.s.set e.2.1 (some (x + e.2.2.1)), t.p.set e.2.1 (some e), some e.2.1⟩ else t
def rnd (es : List Ed) (t : StR) : StR := es.foldl rlxE { t with c := none }
def Kept (s : List (Option Int)) (e : Ed) : Prop := ∀ x, gO s e.1 = some x → ∃ y, gO s e.2.1 = some y ∧ y ≤ x + e.2.2.1
theorem kept_of {s : List (Option Int)} {e : Ed} {x : Int} (h : gO s e.1 = some x) (hl : ¬ lowB (x + e.2.2.1) (gO s e.2.1) = true) : Kept s e := fun x' hx => by
  rw [h] at hx; cases hx
  match e2 : gO s e.2.1, hl with
  | none, hl => exact absurd rfl hl
  | some y, hl => exact ⟨y, rfl, by have := of_decide_eq_false (Bool.eq_false_iff.mpr hl); omega⟩
structure RInv (n : Nat) (es : List Ed) (r : Nat) (done : List Ed) (t : StR) (T R : Nat → Nat) (k : Nat) : Prop where
  ls : t.s.length = n
  lp : t.p.length = n
  Tk : ∀ b, T b < k
  Rr : ∀ b, R b ≤ r
  pin : ∀ b e, gO t.p b = some e → e ∈ es ∧ e.2.1 = b ∧ ∃ x y, gO t.s e.1 = some x ∧ gO t.s b = some y ∧ x + e.2.2.1 ≤ y ∧ (x + e.2.2.1 < y ∨ T e.1 < T b)
  pre : ∀ b e, gO t.p b = some e → R b ≤ R e.1 + 1
  has : ∀ b, 0 < R b → ∃ e, gO t.p b = some e
  chg : ∀ b, t.c = some b → R b = r ∧ b < n
  kd : ∀ e ∈ done, R e.1 < r → Kept t.s e
  ko : ∀ e ∈ es, R e.1 + 1 < r → Kept t.s e
theorem kept_set {s : List (Option Int)} {e : Ed} {b : Nat} {z : Int} (hb : b < s.length) (h : Kept s e) (hne : e.1 ≠ b) (hl : lowB z (gO s b) = true) : Kept (s.set b (some z)) e := fun x hx => by
  rw [gO_set hb, if_neg hne] at hx
  obtain ⟨y, h1, h2⟩ := h x hx
  rw [gO_set hb]
  by_cases e2 : e.2.1 = b
  · rw [if_pos e2]
    rw [e2] at h1
    rw [h1] at hl
    have : z < y := of_decide_eq_true hl
    exact ⟨z, rfl, by omega⟩
  · rw [if_neg e2]; exact ⟨y, h1, h2⟩
theorem RInv.step {n : Nat} {es : List Ed} {r : Nat} {done : List Ed} {t : StR} {T R : Nat → Nat} {k : Nat} (I : RInv n es r done t T R k) {e : Ed} (he : e ∈ es) (ha : e.1 < n) (hb : e.2.1 < n) : ∃ T' R' k', RInv n es r (done ++ [e]) (rlxE t e) T' R' k' := by
  unfold rlxE
  have same : Kept t.s e → RInv n es r (done ++ [e]) t T R k := fun hk => ⟨I.ls, I.lp, I.Tk, I.Rr, I.pin, I.pre, I.has, I.chg, fun d hd hr => by
    rcases List.mem_append.mp hd with hd | hd
    · exact I.kd d hd hr
    · rw [List.mem_singleton.mp hd]; exact hk, I.ko⟩
  match hx : gO t.s e.1 with
  | none => exact ⟨T, R, k, same fun x h => by rw [hx] at h; cases h⟩
  | some x =>
    by_cases hl : lowB (x + e.2.2.1) (gO t.s e.2.1) = true
    · simp only [hl, if_true]
      have lb : e.2.1 < t.s.length := by rw [I.ls]; exact hb
      have lpb : e.2.1 < t.p.length := by rw [I.lp]; exact hb
      have hR : r ≤ R e.1 + 1 := by
        refine Nat.le_of_not_lt fun h => ?_
        obtain ⟨y, h1, h2⟩ := I.ko e he h x hx
        rw [h1] at hl
        have := of_decide_eq_true hl
        omega
      refine ⟨fun v => if v = e.2.1 then k else T v, fun v => if v = e.2.1 then r else R v, k + 1, by rw [List.length_set]; exact I.ls, by rw [List.length_set]; exact I.lp, fun b => ?_, fun b => ?_, fun b d hd => ?_, fun b d hd => ?_, fun b hb2 => ?_, fun b hb2 => ?_, fun d hd hr => ?_, fun d hd hr => ?_⟩
      · show (if b = e.2.1 then k else T b) < k + 1
        have := I.Tk b
        split <;> omega
      · show (if b = e.2.1 then r else R b) ≤ r
        have := I.Rr b
        split <;> omega
      · simp only [gO_set lpb] at hd
        simp only [gO_set lb]
        by_cases eb : b = e.2.1
        · rw [if_pos eb] at hd
          cases hd
          refine ⟨he, eb.symm, ?_⟩
          rw [if_pos eb]
          by_cases ea : e.1 = e.2.1
          · rw [if_pos ea]
            rw [ea] at hx
            rw [hx] at hl
            have := of_decide_eq_true hl
            exact ⟨_, _, rfl, rfl, by omega, .inl (by omega)⟩
          · rw [if_neg ea]
            refine ⟨x, _, hx, rfl, by omega, .inr ?_⟩
            rw [if_neg ea, if_pos eb]
            exact I.Tk _
        · rw [if_neg eb] at hd
          obtain ⟨d1, d2, x', y', d3, d4, d5, d6⟩ := I.pin b d hd
          refine ⟨d1, d2, ?_⟩
          rw [if_neg eb]
          by_cases ed : d.1 = e.2.1
          · rw [if_pos ed]
            rw [ed] at d3
            rw [d3] at hl
            have := of_decide_eq_true hl
            exact ⟨_, y', rfl, d4, by omega, .inl (by omega)⟩
          · rw [if_neg ed]
            refine ⟨x', y', d3, d4, d5, ?_⟩
            rw [if_neg ed, if_neg eb]
            exact d6
      · simp only [gO_set lpb] at hd
        show (if b = e.2.1 then r else R b) ≤ (if d.1 = e.2.1 then r else R d.1) + 1
        by_cases eb : b = e.2.1
        · rw [if_pos eb] at hd ⊢
          cases hd
          split
          · omega
          · exact hR
        · rw [if_neg eb] at hd ⊢
          have h1 := I.pre b d hd
          have h2 := I.Rr d.1
          split <;> omega
      · simp only [gO_set lpb]
        have hb3 : 0 < (if b = e.2.1 then r else R b) := hb2
        by_cases eb : b = e.2.1
        · rw [if_pos eb]; exact ⟨_, rfl⟩
        · rw [if_neg eb]; rw [if_neg eb] at hb3; exact I.has b hb3
      · cases hb2
        exact ⟨if_pos rfl, hb⟩
      · have hr3 : (if d.1 = e.2.1 then r else R d.1) < r := hr
        by_cases ed : d.1 = e.2.1
        · rw [if_pos ed] at hr3; omega
        rw [if_neg ed] at hr3
        rcases List.mem_append.mp hd with hd | hd
        · exact kept_set lb (I.kd d hd hr3) ed hl
        · rw [List.mem_singleton.mp hd] at ed ⊢
          intro x' hx'
          simp only [gO_set lb] at hx' ⊢
          rw [if_neg ed, hx] at hx'
          cases hx'
          simp only [if_true]
          exact ⟨_, rfl, by omega⟩
      · have hr3 : (if d.1 = e.2.1 then r else R d.1) + 1 < r := hr
        by_cases ed : d.1 = e.2.1
        · rw [if_pos ed] at hr3; omega
        rw [if_neg ed] at hr3
        exact kept_set lb (I.ko d hd hr3) ed hl
    · exact ⟨T, R, k, by simp only [hl]; exact same (kept_of hx hl)⟩
theorem RInv.steps {n : Nat} {es : List Ed} {r : Nat} (hn : ∀ e ∈ es, e.1 < n ∧ e.2.1 < n) : ∀ (rest done : List Ed) {t : StR} {T R : Nat → Nat} {k : Nat}, RInv n es r done t T R k → (∀ e ∈ rest, e ∈ es) → ∃ T' R' k', RInv n es r (done ++ rest) (rest.foldl rlxE t) T' R' k'
  | [], done, t, T, R, k, I, _ => ⟨T, R, k, by rw [List.append_nil]; exact I⟩
  | e :: rest, done, t, T, R, k, I, h => by
    have he := h e List.mem_cons_self
    obtain ⟨T', R', k', I'⟩ := I.step he (hn e he).1 (hn e he).2
    obtain ⟨T2, R2, k2, I2⟩ := RInv.steps hn rest (done ++ [e]) I' fun d hd => h d (List.mem_cons_of_mem _ hd)
    rw [List.append_assoc] at I2
    exact ⟨T2, R2, k2, I2⟩
def RI (n : Nat) (es : List Ed) (r : Nat) (t : StR) : Prop := ∃ T R k, RInv n es r es t T R k
theorem RI.round {n : Nat} {es : List Ed} {r : Nat} {t : StR} (hn : ∀ e ∈ es, e.1 < n ∧ e.2.1 < n) (h : RI n es r t) : RI n es (r + 1) (rnd es t) := by
  obtain ⟨T, R, k, I⟩ := h
  have I0 : RInv n es (r + 1) [] { t with c := none } T R k := ⟨I.ls, I.lp, I.Tk, fun b => Nat.le_succ_of_le (I.Rr b), I.pin, I.pre, I.has, fun b hb => (by cases hb), fun e he => (by cases he), fun e he hr => I.kd e he (by omega)⟩
  obtain ⟨T', R', k', I'⟩ := RInv.steps hn es [] I0 fun e he => he
  exact ⟨T', R', k', I'⟩
def st0 (n : Nat) : StR := ⟨List.replicate n (some 0), List.replicate n none, some 0⟩
theorem gO_rep {α : Type} {n i : Nat} : gO (List.replicate n (none : Option α)) i = none := by
  unfold gO
  by_cases h : i < n
  · rw [List.getElem?_replicate, if_pos h]; rfl
  · rw [List.getElem?_replicate, if_neg h]; rfl
theorem RI.init {n : Nat} {es : List Ed} (n0 : 0 < n) : RI n es 0 (st0 n) :=
  ⟨fun _ => 0, fun _ => 0, 1, List.length_replicate, List.length_replicate, fun b => Nat.lt_succ_self 0, fun b => Nat.le_refl 0, fun b e h => (by rw [show gO (st0 n).p b = none from gO_rep] at h; cases h), fun b e h => (by rw [show gO (st0 n).p b = none from gO_rep] at h; cases h), fun b h => absurd h (Nat.lt_irrefl 0), fun b h => (by cases h; exact ⟨rfl, n0⟩), fun e he h => absurd h (Nat.not_lt_zero _), fun e he h => absurd h (Nat.not_lt_zero _)⟩
/-! ### a round without a change -/
theorem rlx1_none {t : StR} {e : Ed} (h : (rlxE t e).c = none) : rlxE t e = t ∧ Kept t.s e := by
  unfold rlxE at h ⊢
  match hx : gO t.s e.1 with
  | none => exact ⟨rfl, fun x h => by rw [hx] at h; cases h⟩
  | some x =>
    rw [hx] at h
    by_cases hl : lowB (x + e.2.2.1) (gO t.s e.2.1) = true
    · simp only [hl, if_true] at h; cases h
    · simp only [hl]; exact ⟨rfl, kept_of hx hl⟩
theorem rlx_none : ∀ (es : List Ed) {t : StR}, (es.foldl rlxE t).c = none → es.foldl rlxE t = t ∧ ∀ e ∈ es, Kept t.s e
  | [], t, _ => ⟨rfl, fun e h => by cases h⟩
  | e :: es, t, h => by
    obtain ⟨h1, h2⟩ := rlx_none es (t := rlxE t e) h
    have h3 : (rlxE t e).c = none := by rw [← h1]; exact h
    obtain ⟨h4, h5⟩ := rlx1_none h3
    refine ⟨by rw [List.foldl_cons, h1, h4], fun d hd => ?_⟩
    rcases List.mem_cons.mp hd with rfl | hd
    · exact h5
    · have := h2 d hd
      rw [h4] at this
      exact this
theorem rnd_none {es : List Ed} {t : StR} (h : (rnd es t).c = none) : ∀ e ∈ es, Kept (rnd es t).s e := by
  obtain ⟨h1, h2⟩ := rlx_none es (t := { t with c := none }) h
  intro e he
  have := h2 e he
  unfold rnd
  rw [h1]
  exact this
/-! ### sums that are all there -/
def Full (n : Nat) (M : Nat) (t : StR) : Prop := ∃ is : List Int, t.s = is.map some ∧ is.length = n ∧ ∀ x ∈ is, x.natAbs ≤ M
theorem Full.step {n M W : Nat} {t : StR} {e : Ed} (h : Full n M t) (hw : e.2.2.1.natAbs ≤ W) : Full n (M + W) (rlxE t e) := by
  obtain ⟨is, h1, h2, h3⟩ := h
  have keep : Full n (M + W) t := ⟨is, h1, h2, fun x hx => by have := h3 x hx; omega⟩
  unfold rlxE
  match hx : gO t.s e.1 with
  | none => exact keep
  | some x =>
    by_cases hl : lowB (x + e.2.2.1) (gO t.s e.2.1) = true
    · simp only [hl, if_true]
      refine ⟨is.set e.2.1 (x + e.2.2.1), by rw [h1, List.map_set], by rw [List.length_set]; exact h2, fun y hy => ?_⟩
      rcases List.mem_or_eq_of_mem_set hy with hy | rfl
      · have := h3 y hy; omega
      · have hxm := gO_of hx
        rw [h1, List.getElem?_map] at hxm
        obtain ⟨z, hz, hz2⟩ := Option.map_eq_some_iff.mp hxm
        cases hz2
        have := h3 _ (List.mem_of_getElem? hz)
        omega
    · simp only [hl]; exact keep
theorem Full.steps {n W : Nat} : ∀ (es : List Ed) {M : Nat} {t : StR}, Full n M t → (∀ e ∈ es, e.2.2.1.natAbs ≤ W) → Full n (M + es.length * W) (es.foldl rlxE t)
  | [], M, t, h, _ => by simpa using h
  | e :: es, M, t, h, hw => by
    have := Full.steps es (h.step (hw e List.mem_cons_self)) fun d hd => hw d (List.mem_cons_of_mem _ hd)
    rw [List.length_cons, Nat.add_mul, Nat.one_mul, Nat.add_comm (es.length * W) W, ← Nat.add_assoc]
    exact this
theorem Full.round {n W M : Nat} {es : List Ed} {t : StR} (h : Full n M t) (hw : ∀ e ∈ es, e.2.2.1.natAbs ≤ W) : Full n (M + es.length * W) (rnd es t) := Full.steps es (t := { t with c := none }) h hw
theorem Full.init {n : Nat} : Full n 0 (st0 n) := ⟨List.replicate n 0, by simp [st0], List.length_replicate, fun x hx => by rw [(List.mem_replicate.mp hx).2]; exact Nat.le_refl 0⟩
/-! ### rounds -/
def rnds (es : List Ed) : Nat → StR → StR
  | 0, t => t
  | k + 1, t => if (rnd es t).c = none then rnd es t else rnds es k (rnd es t)
structure RndOk (n W : Nat) (es : List Ed) (m : Nat) (t : StR) : Prop where
  full : Full n (m * (es.length * W)) t
  ls : t.s.length = n
  lp : t.p.length = n
  rest : t.c = none → ∀ e ∈ es, Kept t.s e
  ri : RI n es m t
theorem rnds_ok {n W : Nat} {es : List Ed} (hn : ∀ e ∈ es, e.1 < n ∧ e.2.1 < n) (hw : ∀ e ∈ es, e.2.2.1.natAbs ≤ W) : ∀ (k r : Nat) {t : StR}, Full n (r * (es.length * W)) t → RI n es r t → (t.c = none → ∀ e ∈ es, Kept t.s e) → ∃ m, m ≤ r + k ∧ RndOk n W es m (rnds es k t) ∧ ((rnds es k t).c ≠ none → m = r + k)
  | 0, r, t, hf, hr, hk => ⟨r, Nat.le_refl _, ⟨hf, by obtain ⟨_, _, _, I⟩ := hr; exact I.ls, by obtain ⟨_, _, _, I⟩ := hr; exact I.lp, hk, hr⟩, fun _ => rfl⟩
  | k + 1, r, t, hf, hr, _ => by
    have f1 := hf.round hw
    have r1 := hr.round hn
    rw [show r * (es.length * W) + es.length * W = (r + 1) * (es.length * W) by rw [Nat.add_mul, Nat.one_mul]] at f1
    have k1 : (rnd es t).c = none → ∀ e ∈ es, Kept (rnd es t).s e := rnd_none
    unfold rnds
    by_cases h : (rnd es t).c = none
    · rw [if_pos h]
      exact ⟨r + 1, by omega, ⟨f1, by obtain ⟨_, _, _, I⟩ := r1; exact I.ls, by obtain ⟨_, _, _, I⟩ := r1; exact I.lp, k1, r1⟩, fun z => absurd h z⟩
    · rw [if_neg h]
      obtain ⟨m, m1, m2, m3⟩ := rnds_ok hn hw k (r + 1) f1 r1 k1
      exact ⟨m, by omega, m2, fun z => by rw [m3 z]; omega⟩
/-! ### steps back along the pointers -/
def nx (p : List (Option Ed)) (v : Nat) : Nat := match gO p v with
  | some e => e.1
  | none => v
def ix (p : List (Option Ed)) (v : Nat) : Nat := match gO p v with
  | some e => e.2.2.2
  | none => 0
def itN (p : List (Option Ed)) : Nat → Nat → Nat
  | 0, v => v
  | k + 1, v => nx p (itN p k v)
theorem itN_add {p : List (Option Ed)} (v : Nat) : ∀ (i j : Nat), itN p (i + j) v = itN p i (itN p j v)
  | 0, j => by rw [Nat.zero_add]; rfl
  | i + 1, j => by rw [Nat.add_right_comm]; show nx p (itN p (i + j) v) = _; rw [itN_add v i j]; rfl
theorem pigeon : ∀ (n : Nat) (f : Nat → Nat), (∀ k, k ≤ n → f k < n) → ∃ i j, i < j ∧ j ≤ n ∧ f i = f j
  | 0, f, h => absurd (h 0 (Nat.le_refl 0)) (Nat.not_lt_zero _)
  | n + 1, f, h => by
    by_cases c : ∃ i, i ≤ n ∧ f i = f (n + 1)
    · obtain ⟨i, h1, h2⟩ := c
      exact ⟨i, n + 1, by omega, Nat.le_refl _, h2⟩
    · have hne : ∀ k, k ≤ n → f k ≠ f (n + 1) := fun k hk e => c ⟨k, hk, e⟩
      have hl := h (n + 1) (Nat.le_refl _)
      obtain ⟨i, j, h1, h2, h3⟩ := pigeon n (fun k => if f k = n then f (n + 1) else f k) fun k hk => by
        have h1 := h k (by omega)
        have h2 := hne k hk
        show (if f k = n then f (n + 1) else f k) < n
        split <;> omega
      have h3 : (if f i = n then f (n + 1) else f i) = (if f j = n then f (n + 1) else f j) := h3
      have hi := hne i (by omega)
      have hj := hne j (by omega)
      refine ⟨i, j, h1, by omega, ?_⟩
      split at h3 <;> split at h3 <;> omega
theorem back_ok {n : Nat} {es : List Ed} {r : Nat} {t : StR} {T R : Nat → Nat} {k : Nat} (hn : ∀ e ∈ es, e.1 < n ∧ e.2.1 < n) (I : RInv n es r es t T R k) {v : Nat} (hv : v < n) (hR : R v = r) : ∀ j, j ≤ r → r ≤ R (itN t.p j v) + j ∧ itN t.p j v < n
  | 0, _ => ⟨Nat.le_of_eq hR.symm, hv⟩
  | j + 1, h => by
    obtain ⟨h1, h2⟩ := back_ok hn I hv hR j (by omega)
    obtain ⟨e, he⟩ := I.has (itN t.p j v) (by omega)
    have h3 := I.pre _ _ he
    have e1 : itN t.p (j + 1) v = e.1 := by show nx t.p (itN t.p j v) = _; unfold nx; rw [he]
    rw [e1]
    exact ⟨by omega, (hn e (I.pin _ _ he).1).1⟩
/-- a ring of d steps through m -/
structure Cyc (p : List (Option Ed)) (n m d : Nat) : Prop where
  d0 : 0 < d
  dn : d ≤ n
  back : itN p d m = m
  all : ∀ j, ∃ e, gO p (itN p j m) = some e
  lt : ∀ j, itN p j m < n
theorem cyc_of {n : Nat} {es : List Ed} {t : StR} {T R : Nat → Nat} {k : Nat} (hn : ∀ e ∈ es, e.1 < n ∧ e.2.1 < n) (I : RInv n es n es t T R k) {v : Nat} (hv : v < n) (hR : R v = n) : ∃ d, Cyc t.p n (itN t.p n v) d := by
  obtain ⟨i, j, h1, h2, h3⟩ := pigeon n (fun k => itN t.p k v) fun k hk => (back_ok hn I hv hR k hk).2
  have h3 : itN t.p i v = itN t.p j v := h3
  have sh : ∀ x, itN t.p (x + i) v = itN t.p (x + j) v := fun x => by rw [itN_add, itN_add, h3]
  have e1 : itN t.p n v = itN t.p (n - (j - i)) v := by
    have := sh (n - j)
    rw [show n - j + i = n - (j - i) by omega, show n - j + j = n by omega] at this
    exact this.symm
  have bk : itN t.p (j - i) (itN t.p n v) = itN t.p n v := by
    rw [← itN_add]
    have := sh (n - i)
    rw [show n - i + i = n by omega, show n - i + j = j - i + n by omega] at this
    exact this.symm
  have per : ∀ q x, itN t.p (x + q * (j - i)) (itN t.p n v) = itN t.p x (itN t.p n v) := fun q x => by
    induction q with
    | zero => simp
    | succ q ih => rw [Nat.add_mul, Nat.one_mul, ← Nat.add_assoc, itN_add, bk]; exact ih
  have red : ∀ x, ∃ y, y < n ∧ itN t.p x (itN t.p n v) = itN t.p y v := fun x => by
    refine ⟨x % (j - i) + (n - (j - i)), ?_, ?_⟩
    · have := Nat.mod_lt x (show 0 < j - i by omega); omega
    · rw [itN_add (j := n - (j - i)), ← e1, ← per (x / (j - i)) (x % (j - i)), Nat.mod_add_div' x (j - i)]
  refine ⟨j - i, by omega, by omega, bk, fun x => ?_, fun x => ?_⟩
  · obtain ⟨y, y1, y2⟩ := red x
    rw [y2]
    have := (back_ok hn I hv hR y (by omega)).1
    exact I.has _ (by omega)
  · obtain ⟨y, y1, y2⟩ := red x
    rw [y2]
    exact (back_ok hn I hv hR y (by omega)).2
/-- what ring_behind collects, after its first index -/
def ringL (p : List (Option Ed)) (m : Nat) : Nat → Nat → List Nat
  | 0, _ => []
  | f + 1, v => if v = m then [] else ix p v :: ringL p m f (nx p v)
def ringF (p : List (Option Ed)) (m n : Nat) : List Nat := (ix p m :: ringL p m n (nx p m)).reverse
def walkL (p : List (Option Ed)) (m : Nat) (d : Nat) : List Nat := (List.range d).map fun j => ix p (itN p j m)
theorem walkL_succ {p : List (Option Ed)} {m d : Nat} : walkL p m (d + 1) = walkL p m d ++ [ix p (itN p d m)] := by unfold walkL; rw [List.range_succ, List.map_append]; rfl
theorem ringL_eq {p : List (Option Ed)} {n m d : Nat} (C : Cyc p n m d) : ∀ (f j : Nat), d - j ≤ f → j ≤ d → 0 < j → ∃ d', 0 < d' ∧ d' ≤ d ∧ itN p d' m = m ∧ walkL p m j ++ ringL p m f (itN p j m) = walkL p m d'
  | 0, j, hf, hj, j0 => by
    have : j = d := by omega
    subst this
    exact ⟨j, j0, Nat.le_refl _, C.back, by simp [ringL]⟩
  | f + 1, j, hf, hj, j0 => by
    unfold ringL
    by_cases h : itN p j m = m
    · rw [if_pos h]; exact ⟨j, j0, hj, h, by rw [List.append_nil]⟩
    · rw [if_neg h]
      have hne : j ≠ d := fun e => h (by rw [e]; exact C.back)
      obtain ⟨d', h1, h2, h3, h4⟩ := ringL_eq C f (j + 1) (by omega) (by omega) (by omega)
      exact ⟨d', h1, h2, h3, by rw [← h4, walkL_succ, List.append_assoc]; rfl⟩
theorem ringF_eq {p : List (Option Ed)} {n m d : Nat} (C : Cyc p n m d) : ∃ d', 0 < d' ∧ d' ≤ n ∧ itN p d' m = m ∧ ringF p m n = (walkL p m d').reverse := by
  obtain ⟨d', h1, h2, h3, h4⟩ := ringL_eq C n 1 (by have := C.dn; omega) C.d0 (by omega)
  exact ⟨d', h1, Nat.le_trans h2 C.dn, h3, by unfold ringF; rw [← h4]; rfl⟩
/-! ### walks over claims -/
def wlk (cls : List Cl) (gone : List Str) : Nat → Rat → List Nat → Option (Nat × Rat)
  | x, z, [] => some (x, z)
  | x, z, k :: ks => match cls[k]? with
    | some c => if liveB gone c = true ∧ c.1 = x then wlk cls gone c.2.1 (z + c.2.2.1) ks else none
    | none => none
theorem ring_walk {n : Nat} {cls : List Cl} {gone : List Str} {C : Nat} {r : Nat} {t : StR} {T R : Nat → Nat} {k : Nat} {es : List Ed} (hes : es = edL C gone 0 cls) (hC : ∀ c ∈ cls, liveB gone c = true → c.2.2.1.den ∣ C) (I : RInv n es r es t T R k) {m d : Nat} (Y : Cyc t.p n m d) : ∀ j z, ∃ (q : Rat) (W : Int) (x y : Int), wlk cls gone (itN t.p j m) z (walkL t.p m j).reverse = some (m, z + q) ∧ ((W : Int) : Rat) = q * ((C : Nat) : Rat) ∧ gO t.s (itN t.p j m) = some x ∧ gO t.s m = some y ∧ x + W ≤ y ∧ (0 < j → x + W < y ∨ T (itN t.p j m) < T m)
  | 0, z => by
    obtain ⟨e, he⟩ := Y.all 0
    obtain ⟨_, _, x, y, h1, h2, _, _⟩ := I.pin _ _ he
    exact ⟨0, 0, y, y, by show some _ = some _; rw [Rat.add_zero]; rfl, by rw [Rat.zero_mul]; rfl, h2, h2, by omega, fun h => absurd h (Nat.lt_irrefl 0)⟩
  | j + 1, z => by
    obtain ⟨e, he⟩ := Y.all j
    obtain ⟨h0, h1, x, y, h2, h3, h4, h5⟩ := I.pin _ _ he
    have e1 : itN t.p (j + 1) m = e.1 := by show nx t.p (itN t.p j m) = _; unfold nx; rw [he]
    have e2 : ix t.p (itN t.p j m) = e.2.2.2 := by unfold ix; rw [he]
    rw [hes] at h0
    obtain ⟨i, c, c1, c2, c3⟩ := edL_mem cls 0 h0
    obtain ⟨q, W, x', y', g1, g2, g3, g4, g5, g6⟩ := ring_walk hes hC I Y j (z + c.2.2.1)
    rw [h3] at g3
    cases g3
    have w1 : e.2.2.1 = c.2.2.1.num * ((C / c.2.2.1.den : Nat) : Int) := by rw [c2]
    refine ⟨c.2.2.1 + q, e.2.2.1 + W, x, y', ?_, ?_, by rw [e1]; exact h2, g4, by omega, fun _ => ?_⟩
    · rw [walkL_succ, List.reverse_append, e1, e2]
      show wlk cls gone e.1 z (e.2.2.2 :: (walkL t.p m j).reverse) = _
      have i1 : e.2.2.2 = i := by rw [c2]; exact Nat.zero_add i
      have i2 : c.1 = e.1 := by rw [c2]
      have i3 : c.2.1 = itN t.p j m := by rw [← h1, c2]
      unfold wlk
      rw [i1, c1]
      simp only [c3, i2, and_self, if_true]
      rw [i3, g1, Rat.add_assoc]
    · rw [Rat.intCast_add, g2, w1, mul_den_int (hC c (List.mem_of_getElem? c1) c3)]; grind
    · rw [e1]
      by_cases j0 : 0 < j
      · rcases h5 with h5 | h5
        · exact .inl (by omega)
        · rcases g6 j0 with g6 | g6
          · exact .inl (by omega)
          · exact .inr (Nat.lt_trans h5 g6)
      · have : j = 0 := by omega
        subst this
        have hm : itN t.p 0 m = m := rfl
        rw [hm] at h3 h5
        rw [g4] at h3
        cases h3
        rcases h5 with h5 | h5
        · exact .inl (by omega)
        · exact .inr h5
/-! ### what settle finds -/
inductive Ans where
  | world (w : List Rat)
  | ring (l : List Nat)
def comC (gone : List Str) (cls : List Cl) : Nat := denL ((cls.filter (liveB gone)).map fun c => c.2.2.1)
def stN (gone : List Str) (cls : List Cl) (n : Nat) : StR := rnds (edL (comC gone cls) gone 0 cls) n (st0 n)
def sumI (t : StR) : List Int := t.s.map fun o => o.getD 0
def setF (n : Nat) (cls : List Cl) (gone : List Str) : Ans := match (stN gone cls n).c with
  | none => .world ((sumI (stN gone cls n)).map fun x => fr (x - ((sumI (stN gone cls n))[0]?).getD 0) (comC gone cls : Nat))
  | some v => .ring (ringF (stN gone cls n).p (itN (stN gone cls n).p n v) n)
def NmZ (s : Str) : Prop := s.length ≤ 40 ∧ PyData.strOk s = true
structure ClOk (N : Nat) (m : Rat) (n : Nat) (c : Cl) : Prop where
  a : c.1 < n
  b : c.2.1 < n
  q : La N m c.2.2.1
  o : NmZ c.2.2.2
def IsWd (n : Nat) (cls : List Cl) (gone : List Str) (w : List Rat) : Prop := w.length = n ∧ w[0]? = some 0 ∧ ∀ c ∈ cls, liveB gone c = true → ∀ x y, w[c.1]? = some x → w[c.2.1]? = some y → y - x ≤ c.2.2.1
def IsRg (n : Nat) (cls : List Cl) (gone : List Str) (l : List Nat) : Prop := l ≠ [] ∧ l.length ≤ n ∧ ∃ x z, z < 0 ∧ (∃ k, l[0]? = some k ∧ ∃ c, cls[k]? = some c ∧ c.1 = x) ∧ wlk cls gone x 0 l = some (x, z)
def AnsOk (n : Nat) (cls : List Cl) (gone : List Str) : Ans → Prop
  | .world w => IsWd n cls gone w
  | .ring l => IsRg n cls gone l
theorem comC_dvd {gone : List Str} {cls : List Cl} {c : Cl} (h : c ∈ cls) (hl : liveB gone c = true) : c.2.2.1.den ∣ comC gone cls :=
  (denL_up _ 1).2 _ (List.mem_map.mpr ⟨c, List.mem_filter.mpr ⟨h, hl⟩, rfl⟩)
theorem com_N {N : Nat} {m : Rat} {n : Nat} {gone : List Str} {cls : List Cl} (h : ∀ c ∈ cls, ClOk N m n c) : comC gone cls ∣ N := denL_dvd fun q hq => by
  obtain ⟨c, hc, rfl⟩ := List.mem_map.mp hq
  exact (h c (List.mem_filter.mp hc).1).q.d
theorem wlk_head {cls : List Cl} {gone : List Str} {x : Nat} {z : Rat} {k : Nat} {ks : List Nat} {r : Nat × Rat} (h : wlk cls gone x z (k :: ks) = some r) : ∃ c, cls[k]? = some c ∧ liveB gone c = true ∧ c.1 = x ∧ wlk cls gone c.2.1 (z + c.2.2.1) ks = some r := by
  unfold wlk at h
  match e : cls[k]? with
  | none => rw [e] at h; cases h
  | some c =>
    rw [e] at h
    simp only at h
    split at h
    · rename_i h2; exact ⟨c, rfl, h2.1, h2.2, h⟩
    · cases h
theorem wt_le {N : Nat} {m : Rat} {C K : Nat} {q : Rat} (h : La N m q) (hC : q.den ∣ C) (hCN : C ∣ N) (hK : m * (N : Rat) ≤ (K : Rat)) : (q.num * ((C / q.den : Nat) : Int)).natAbs ≤ K := by
  have e := mul_den_int hC
  generalize q.num * ((C / q.den : Nat) : Int) = W at *
  have cn : ((C : Nat) : Rat) ≤ ((N : Nat) : Rat) := by exact_mod_cast Nat.le_of_dvd (Nat.pos_of_ne_zero h.n0) hCN
  have c0 : 0 ≤ ((C : Nat) : Rat) := by exact_mod_cast Nat.zero_le C
  have lo := h.lo
  have hi := h.hi
  have m0 := h.m0
  have u1 := Rat.mul_nonneg (show 0 ≤ m - q by grind) c0
  have u2 := Rat.mul_nonneg (show 0 ≤ m + q by grind) c0
  have u3 := Rat.mul_nonneg m0 (show 0 ≤ ((N : Nat) : Rat) - ((C : Nat) : Rat) by grind)
  have v1 : ((W : Int) : Rat) ≤ ((K : Int) : Rat) := by rw [natI]; grind
  have v2 : ((-W : Int) : Rat) ≤ ((K : Int) : Rat) := by rw [natI, Rat.intCast_neg]; grind
  have w1 := Rat.intCast_le_intCast.mp v1
  have w2 := Rat.intCast_le_intCast.mp v2
  omega
theorem stN_ok {N : Nat} {m : Rat} {n K : Nat} {gone : List Str} {cls : List Cl} (h : ∀ c ∈ cls, ClOk N m n c) (n0 : 0 < n) (hK : m * (N : Rat) ≤ (K : Rat)) : ∃ j, j ≤ n ∧ RndOk n K (edL (comC gone cls) gone 0 cls) j (stN gone cls n) ∧ ((stN gone cls n).c ≠ none → j = n) := by
  have hn : ∀ e ∈ edL (comC gone cls) gone 0 cls, e.1 < n ∧ e.2.1 < n := fun e he => by
    obtain ⟨j, c, h1, h2, h3⟩ := edL_mem cls 0 he
    have := h c (List.mem_of_getElem? h1)
    rw [h2]
    exact ⟨this.a, this.b⟩
  have hw : ∀ e ∈ edL (comC gone cls) gone 0 cls, e.2.2.1.natAbs ≤ K := fun e he => by
    obtain ⟨j, c, h1, h2, h3⟩ := edL_mem cls 0 he
    have hc := List.mem_of_getElem? h1
    rw [h2]
    exact wt_le (h c hc).q (comC_dvd hc h3) (com_N h) hK
  obtain ⟨j, h1, h2, h3⟩ := rnds_ok hn hw n 0 (t := st0 n) (by rw [Nat.zero_mul]; exact Full.init) (RI.init n0) (fun h => by cases h)
  exact ⟨j, by omega, h2, fun z => by rw [h3 z]; omega⟩
theorem sumI_of {t : StR} {is : List Int} (h : t.s = is.map some) : sumI t = is := by
  unfold sumI; rw [h, List.map_map]; exact List.map_id is
theorem setF_ok {N : Nat} {m : Rat} {n K : Nat} {gone : List Str} {cls : List Cl} (h : ∀ c ∈ cls, ClOk N m n c) (n0 : 0 < n) (hK : m * (N : Rat) ≤ (K : Rat)) (N0 : N ≠ 0) : AnsOk n cls gone (setF n cls gone) := by
  obtain ⟨j, j1, O, j2⟩ := stN_ok (gone := gone) h n0 hK
  have hn : ∀ e ∈ edL (comC gone cls) gone 0 cls, e.1 < n ∧ e.2.1 < n := fun e he => by
    obtain ⟨j, c, h1, h2, h3⟩ := edL_mem cls 0 he
    have := h c (List.mem_of_getElem? h1)
    rw [h2]
    exact ⟨this.a, this.b⟩
  have C0 : comC gone cls ≠ 0 := fun z => N0 (by have := com_N (gone := gone) h; rw [z] at this; exact Nat.eq_zero_of_zero_dvd this)
  unfold setF
  match hc : (stN gone cls n).c with
  | none =>
    obtain ⟨is, s1, s2, s3⟩ := O.full
    have kept := O.rest hc
    rw [sumI_of s1]
    have Cp : 0 < ((comC gone cls : Nat) : Rat) := by exact_mod_cast Nat.pos_of_ne_zero C0
    have frc : ∀ x : Int, fr x (comC gone cls : Nat) * ((comC gone cls : Nat) : Rat) = (x : Rat) := fun x => by
      have hz : (((comC gone cls : Nat) : Int)) ≠ 0 := by omega
      rw [← natI]
      have h2 : fr ((comC gone cls : Nat) : Int) 1 = (((comC gone cls : Nat) : Int) : Rat) := fr_one _
      have h3 : fr x 1 = ((x : Int) : Rat) := fr_one _
      rw [← h2, ← h3]
      unfold fr
      rw [Rat.divInt_mul_divInt]
      have h4 := Rat.divInt_mul_right (n := x) (d := 1) hz
      rw [Int.mul_one]
      rw [Int.one_mul] at h4
      exact h4
    refine ⟨by rw [List.length_map]; exact s2, ?_, fun c hc1 hl x y hx hy => ?_⟩
    · match e : is, s2 with
      | [], s2 => simp at s2; omega
      | i :: is, _ =>
        show some (fr (i - i) _) = some 0
        rw [Int.sub_self]
        have := frc 0
        have z : ((0 : Int) : Rat) = 0 := rfl
        rw [z] at this
        rcases Rat.mul_eq_zero.mp this with h | h
        · rw [h]
        · exact absurd h (by grind)
    · rw [List.getElem?_map] at hx hy
      obtain ⟨xi, x1, x2⟩ := Option.map_eq_some_iff.mp hx
      obtain ⟨yi, y1, y2⟩ := Option.map_eq_some_iff.mp hy
      generalize (is[0]?).getD 0 = s0 at x2 y2
      obtain ⟨i, hi⟩ := edL_has (C := comC gone cls) cls 0 hc1 hl
      obtain ⟨y', k1, k2⟩ := kept _ hi xi (gO_some (by rw [s1, List.getElem?_map, x1]; rfl))
      have k3 := gO_of k1
      rw [s1, List.getElem?_map, y1] at k3
      cases k3
      have e1 := mul_den_int (comC_dvd hc1 hl)
      have f1 := frc (xi - s0)
      have f2 := frc (yi - s0)
      rw [x2] at f1
      rw [y2] at f2
      have k4 := Rat.intCast_le_intCast.mpr k2
      rw [Rat.intCast_add] at k4
      have k5 : ((c.2.2.1.num * ((comC gone cls / c.2.2.1.den : Nat) : Int) : Int) : Rat) = c.2.2.1 * ((comC gone cls : Nat) : Rat) := e1
      rw [k5] at k4
      rw [Rat.intCast_sub] at f1 f2
      by_cases hcon : y - x ≤ c.2.2.1
      · exact hcon
      · have := Rat.mul_pos (show 0 < y - x - c.2.2.1 by grind) Cp
        grind
  | some v =>
    have jn := j2 (by rw [hc]; exact fun h => by cases h)
    subst jn
    obtain ⟨T, R, k, I⟩ := O.ri
    obtain ⟨hR, hv⟩ := I.chg v hc
    obtain ⟨d, Y⟩ := cyc_of hn I hv hR
    obtain ⟨d', d1, d2, d3, d4⟩ := ringF_eq Y
    obtain ⟨q, W, x, y, g1, g2, g3, g4, g5, g6⟩ := ring_walk rfl (fun c hc hl => comC_dvd hc hl) I Y d' 0
    rw [d3] at g1 g3 g6
    rw [g3] at g4
    cases g4
    have W0 : W < 0 := by
      rcases g6 d1 with g | g
      · omega
      · exact absurd g (Nat.lt_irrefl _)
    have q0 : q < 0 := by
      have Cp : 0 ≤ ((comC gone cls : Nat) : Rat) := by exact_mod_cast Nat.zero_le _
      have := Rat.intCast_lt_intCast.mpr W0
      rw [g2] at this
      by_cases hq : q < 0
      · exact hq
      · have := Rat.mul_nonneg (show 0 ≤ q by grind) Cp
        have z : ((0 : Int) : Rat) = 0 := rfl
        grind
    have ln : (ringF (stN gone cls j).p (itN (stN gone cls j).p j v) j).length = d' := by rw [d4]; simp [walkL]
    show IsRg j cls gone _
    rw [← d4] at g1
    refine ⟨fun z => by rw [z] at ln; simp at ln; omega, by omega, _, 0 + q, by grind, ?_, g1⟩
    match e : ringF (stN gone cls j).p (itN (stN gone cls j).p j v) j, ln, g1 with
    | [], ln, _ => simp at ln; omega
    | k :: ks, _, g1 =>
      obtain ⟨c, c1, c2, c3, _⟩ := wlk_head g1
      exact ⟨k, rfl, c, c1, c3⟩
/-! ### worlds and rings exclude one another -/
def FitC (cls : List Cl) (gone : List Str) : Prop := ∃ w : Nat → Rat, ∀ c ∈ cls, liveB gone c = true → w c.2.1 - w c.1 ≤ c.2.2.1
theorem IsWd.fit {n : Nat} {cls : List Cl} {gone : List Str} {w : List Rat} {N : Nat} {m : Rat} (h : IsWd n cls gone w) (ho : ∀ c ∈ cls, ClOk N m n c) : FitC cls gone :=
  ⟨fun i => (w[i]?).getD 0, fun c hc hl => by
    have h1 := (ho c hc).a
    have h2 := (ho c hc).b
    rw [← h.1] at h1 h2
    have := h.2.2 c hc hl _ _ (List.getElem?_eq_getElem h1) (List.getElem?_eq_getElem h2)
    show (w[c.2.1]?).getD 0 - (w[c.1]?).getD 0 ≤ _
    rw [List.getElem?_eq_getElem h1, List.getElem?_eq_getElem h2]
    exact this⟩
theorem wlk_fit {cls : List Cl} {gone : List Str} {w : Nat → Rat} (hw : ∀ c ∈ cls, liveB gone c = true → w c.2.1 - w c.1 ≤ c.2.2.1) : ∀ (l : List Nat) {x y : Nat} {z z' : Rat}, wlk cls gone x z l = some (y, z') → w y - w x ≤ z' - z
  | [], x, y, z, z', h => by
    unfold wlk at h
    cases h
    grind
  | k :: ks, x, y, z, z', h => by
    obtain ⟨c, h1, h2, rfl, h4⟩ := wlk_head h
    have a1 := wlk_fit hw ks h4
    have a2 := hw c (List.mem_of_getElem? h1) h2
    grind
theorem IsRg.not {n : Nat} {cls : List Cl} {gone : List Str} {l : List Nat} (h : IsRg n cls gone l) : ¬ FitC cls gone := fun ⟨w, hw⟩ => by
  obtain ⟨_, _, x, z, z0, _, h⟩ := h
  have := wlk_fit hw l h
  grind
theorem FitC.mono {cls : List Cl} {g1 g2 : List Str} (h : FitC cls g1) (hs : ∀ o, g1.contains o = true → g2.contains o = true) : FitC cls g2 := by
  obtain ⟨w, hw⟩ := h
  refine ⟨w, fun c hc hl => hw c hc ?_⟩
  unfold liveB at hl ⊢
  cases e : g1.contains c.2.2.2 with
  | false => rfl
  | true => rw [hs _ e] at hl; cases hl
end DL

end
section
set_option Elab.async false
set_option linter.all false
set_option autoImplicit true
set_option maxRecDepth 100000
set_option maxHeartbeats 1000000
/-! k19: rules and promises -/
namespace DL
open PySem L2
open PyProof.Rows hiding St
/-! ### membership of texts -/
theorem strs_pd : ∀ a : List Str, (∀ s ∈ a, PyData.strOk s = true) → PyData.canLayAll0 (pdL (a.map DL.D.str)) = true ∧ PyData.depthAll (pdL (a.map DL.D.str)) ≤ 1
  | [], _ => ⟨rfl, by decide⟩
  | s :: a, h => by
    obtain ⟨h1, h2⟩ := strs_pd a fun t ht => h t (List.mem_cons_of_mem _ ht)
    refine ⟨by simp [pdL, PyData.canLayAll0, DL.D.pd, PyData.canLay0, h1, h s List.mem_cons_self], ?_⟩
    simp only [List.map_cons, pdL, PyData.depthAll, DL.D.pd, PyData.depth]
    omega
theorem str_shp {s : Str} (h : PyData.strOk s = true) : (DL.D.str s).shp = true := by
  show (PyData.strOk s && decide (0 ≤ 64)) = true
  rw [h]; rfl
theorem strs_shp (bb : Bool) (a : List Str) (h : ∀ s ∈ a, PyData.strOk s = true) : (sqD bb (a.map DL.D.str)).shp = true := by
  obtain ⟨h1, h2⟩ := strs_pd a h
  cases bb
  · show (PyData.canLayAll0 (pdL (a.map DL.D.str)) && decide (PyData.depthAll (pdL (a.map DL.D.str)) + 1 ≤ 64)) = true
    rw [h1, decide_eq_true (by omega)]; rfl
  · show (PyData.canLayAll0 (pdL (a.map DL.D.str)) && decide (PyData.depthAll (pdL (a.map DL.D.str)) + 1 ≤ 64)) = true
    rw [h1, decide_eq_true (by omega)]; rfl
theorem strs_any (q : Str) : ∀ (a : List Str), ((pdL (a.map DL.D.str)).any fun y => PyData.eqv y (DL.D.str q).pd) = a.contains q
  | [] => rfl
  | p :: a => by
    have e : PyData.eqv (DL.D.str p).pd (DL.D.str q).pd = decide (p = q) := by
      simp only [DL.D.pd]
      by_cases h : p = q
      · subst h; simp [PyData.eqv]
      · simp [PyData.eqv, h]
    show ((DL.D.str p).pd :: pdL (a.map DL.D.str)).any _ = _
    rw [List.any_cons, strs_any q a, e, List.contains_cons]
    congr 1
    by_cases h : p = q
    · subst h; simp
    · simp [h, Ne.symm h]
def rNotInT (K : PySem.W.Frag) : R2 := fun x y H Q => ∃ d ds, Dp K H x d ∧ Dp K H y (.tuple ds) ∧ SeqAt.shaped d = true ∧ SeqAt.shaped (.tuple ds) = true ∧ Q (.bl (!ds.any fun z => PyData.eqv z d)) H
theorem op_notInT {X : Cx} (hu : X.A.units + 65 < cLine) : OpR X (compareOp .NotIn) (rNotInT X.K) := by
  intro pins s σ H x y v u Q I rx ry h
  obtain ⟨d, ds, hd, he, sd, se, q⟩ := h
  obtain ⟨as, r1⟩ := Dp.reads I d x v hd rx
  obtain ⟨bs, r2⟩ := Dp.reads I (.tuple ds) y u he ry
  exact SeqAt.notIn_tuple_reads r2 r1 (SeqAt.canLay_of_shaped se) (SeqAt.canLay_of_shaped sd) (room_in_shaped sd hu) ⟨.bl _, H, I, rfl, q⟩
section
variable {X : Cx} {n : Nm} {c : Cc} {Γ : SL} {a b e : Expr} {es : List Expr} {kws : List Keyword} {x y z : DL.D} {pos p : Pos} {nm : Str} {k l : AK}
theorem dop_notInT : DOp X n c (compareOp .NotIn) (fun x y Post => ∃ ds, y = .tup ds ∧ x.shp = true ∧ y.shp = true ∧ Post (.bl (!(pdL ds).any fun z => PyData.eqv z x.pd))) := fun hn => ⟨_, op_notInT hn.units65, fun Γ σ R H x y v w Post s hx hy ⟨ds, e, h1, h2, p⟩ Q q => by
  subst e
  exact ⟨x.pd, pdL ds, hx.dp s.rh (canLay_shp h1), hy.dp s.rh (canLay_shp h2), h1, h2, q (.bl (!(pdL ds).any fun z => PyData.eqv z x.pd)) R H (.bl (!(pdL ds).any fun z => PyData.eqv z x.pd)) s (Ex.refl _) rfl p⟩⟩
theorem et_notInG {s : Str} {ss : List Str} {bb : Bool} (ha : EK X n c Γ a k) (hb : EK X n c Γ b l) (ga : k.get Γ = some (.str s) := by rfl) (h1 : PyData.strOk s = true) (h2 : ∀ s ∈ ss, PyData.strOk s = true) (gb : l.get Γ = some (sqD bb (ss.map DL.D.str)) := by rfl) (hm : behindInMarks .NotIn b = false := by rfl) : ET X n c Γ (.Compare a [.NotIn] [b] pos) (!ss.contains s) := by
  cases bb
  · exact et_cmp dop_notInL' ha hb (fun Post p => ⟨_, rfl, str_shp h1, strs_shp false ss h2, by rw [strs_any]; exact p⟩) ga gb hm
  · exact et_cmp dop_notInT ha hb (fun Post p => ⟨_, rfl, str_shp h1, strs_shp true ss h2, by rw [strs_any]; exact p⟩) ga gb hm
/-! ### boxes: calls with keyword defaults that give one; calls that read one -/
end
section
variable {X : Cx} {n : Nm} {c : Cc} {Γ : SL} {a : Expr} {pos : Pos}
end
/-! ### texts whose signs are known to be signs -/
def SgS (s : Str) : Prop := ∀ z ∈ cL s, z < 1114112
theorem SgS.ok {s : Str} (h : SgS s) : PyData.strOk s = true := by
  unfold PyData.strOk
  rw [Array.all_eq_true']
  intro z hz
  exact decide_eq_true (h z (Array.mem_toList_iff.mpr hz))
theorem SgS.app {a b : Str} (h : SgS a) (h' : SgS b) : SgS (a ++ b) := fun z hz => by
  rw [app_cL] at hz
  rcases List.mem_append.mp hz with hz | hz
  · exact h z hz
  · exact h' z hz
theorem SgS.sub {a b : Str} (h : SgS a) (hs : ∀ z ∈ cL b, z ∈ cL a) : SgS b := fun z hz => h z (hs z hz)
section
variable {X : Cx} {n : Nm} {c : Cc} {Γ : SL} {e : Expr} {pos p p1 : Pos} {nm sn : Str}
/-- a sign drawn out of a text, with its text -/
theorem we_pickStrZ {Post : DL.D → SL → Prop} (hc : CalF X n.k nm ST_pick) (j i : Nat) (h : WE X n c Γ e fun x Γ1 => Γ1 = Γ ∧ ∃ w : Str, x = .str w ∧ 0 < w.length ∧ w.length ≤ 10000 ∧ ∀ ch : Str, ch.length = 1 → (∀ z ∈ cL ch, z ∈ cL w) → Post (.str ch) Γ)
    (hg : Γ[i]? = some (.own .sto) := by rfl) (hi : n.N[i]? = some sn := by rfl) (hv : n.V.contains i = true := by rfl) (hj : n.GN[j]? = some nm := by rfl)
    (he : starEach (.Name sn p1 :: [e]) X.env = (false, eval (.Name sn p1) X.env) :: starEach [e] X.env := by exact se_c rfl) (he2 : starEach [e] X.env = (false, eval e X.env) :: starEach [] X.env := by exact se_c rfl) (hpl : (backTo pos (starEach [e] X.env)).any (·.1) = false := by exact se_any rfl) : WE X n c Γ (.Call (.Name nm p) [.Name sn p1, e] [] pos) Post :=
  we_pickK hc j i (wk_v (h.mono fun x Γ1 ⟨e1, w, e2, h0, h1, hp⟩ => by
    subst e1 e2
    refine ⟨rfl, by simp [readIx], .str w, w.length, rfl, rfl, rfl, fun z hz => (by cases hz; rw [sizeLine_eq]; omega), h0, by omega, fun k hk => ?_, fun k y hk hy => ?_⟩
    · obtain ⟨ch, h2, _⟩ := str_at hk (by rw [sizeLine_eq]; omega)
      exact ⟨_, h2⟩
    · obtain ⟨z, h2, h3⟩ := str_at' hk (by rw [sizeLine_eq]; omega)
      rw [h3] at hy; cases hy
      refine hp ⟨#[z]⟩ rfl fun y hy => ?_
      have : y = z := by simpa [cL] using hy
      rw [this]; exact List.mem_of_getElem? h2)) hg hi hv hj he he2 hpl
end
theorem cutS_sub {z : Str} {lo hi : Option Int} : ∀ y ∈ cL (cutS z lo hi), y ∈ cL z := fun y hy => by
  unfold cutS cL at hy
  rw [List.toList_toArray] at hy
  exact List.mem_of_mem_drop (List.mem_of_mem_take hy)
theorem cutS_upto {z : Str} {k : Nat} (h : k ≤ z.length) : (cutS z none (some (k : Int))).length = k := by
  have e0 : HT.sIx z.length 0 none = 0 := rfl
  have e1 : HT.sIx z.length z.length (some (k : Int)) = k := by
    unfold HT.sIx
    simp only
    split <;> omega
  show (Array.size _) = k
  unfold cutS
  rw [e0, e1, List.size_toArray, List.length_take, List.length_drop, Array.length_toList]
  have : z.cps.size = z.length := rfl
  omega
def ST_namesZ : Sg := fun ps Post => ∃ m : Nat, ps = [.own .sto, .d (.int (m : Int))] ∧ m ≤ 200 ∧ ∀ ns : List Str, NamesOk m ns → ns.Nodup → (∀ s ∈ ns, s ≠ "" ∧ PyData.strOk s = true) → Post (.own (.lst (ns.map DL.D.str))) [.sto]
/-! ### data -/
def nsD (l : List Nat) : List DL.D := l.map fun (k : Nat) => DL.D.int (k : Int)
def Ans.nm : Ans → Str
  | .world _ => "world"
  | .ring _ => "ring"
def Ans.ds : Ans → List DL.D
  | .world w => w.map qD
  | .ring l => nsD l
def NN : Nat := 9702000
def MM : Rat := ((2 ^ 45 : Nat) : Rat)
def KN : Nat := 2 ^ 69
theorem NN0 : NN ≠ 0 := by decide
theorem mmnn : MM * ((NN : Nat) : Rat) ≤ ((KN : Nat) : Rat) := by decide +kernel
abbrev CO (n : Nat) (c : Cl) : Prop := ClOk NN MM n c
structure CsOk (n : Nat) (cls : List Cl) : Prop where
  n0 : 0 < n
  n1 : n ≤ 17
  ln : cls.length ≤ 42
  ok : ∀ c ∈ cls, CO n c
theorem CsOk.ans {n : Nat} {cls : List Cl} {gone : List Str} (h : CsOk n cls) : AnsOk n cls gone (setF n cls gone) := setF_ok h.ok h.n0 mmnn NN0
theorem CsOk.sums {n : Nat} {cls : List Cl} {gone : List Str} (h : CsOk n cls) : ∃ is : List Int, (stN gone cls n).s = is.map some ∧ is.length = n ∧ ∀ x ∈ is, x.natAbs < 2 ^ 90 := by
  obtain ⟨j, j1, O, _⟩ := stN_ok (gone := gone) h.ok h.n0 mmnn
  obtain ⟨is, h1, h2, h3⟩ := O.full
  refine ⟨is, h1, h2, fun x hx => Nat.lt_of_le_of_lt (h3 x hx) ?_⟩
  have e1 : (edL (comC gone cls) gone 0 cls).length ≤ 42 := Nat.le_trans (edL_len _ _) h.ln
  have e2 : j * ((edL (comC gone cls) gone 0 cls).length * KN) ≤ 17 * (42 * KN) := Nat.mul_le_mul (Nat.le_trans j1 h.n1) (Nat.mul_le_mul_right _ e1)
  exact Nat.lt_of_le_of_lt e2 (by decide)
theorem rlx_len {t : StR} {e : Ed} : (rlxE t e).s.length = t.s.length ∧ (rlxE t e).p.length = t.p.length := by
  unfold rlxE
  split
  · exact ⟨rfl, rfl⟩
  · split
    · exact ⟨List.length_set, List.length_set⟩
    · exact ⟨rfl, rfl⟩
theorem fold_len : ∀ (es : List Ed) {t : StR}, (es.foldl rlxE t).s.length = t.s.length ∧ (es.foldl rlxE t).p.length = t.p.length
  | [], _ => ⟨rfl, rfl⟩
  | e :: es, t => by
    obtain ⟨h1, h2⟩ := fold_len es (t := rlxE t e)
    obtain ⟨h3, h4⟩ := rlx_len (t := t) (e := e)
    exact ⟨h1.trans h3, h2.trans h4⟩
theorem rnd_len {es : List Ed} {t : StR} : (rnd es t).s.length = t.s.length ∧ (rnd es t).p.length = t.p.length := fold_len es
theorem rnds_succ {es : List Ed} {k : Nat} {t : StR} : rnds es (k + 1) t = if (rnd es t).c = none then rnd es t else rnds es k (rnd es t) := rfl
/-! ### what is shown -/
theorem It.str {B : Nat} {s : Str} {m : Nat} (h : s.length ≤ m) (h2 : PyData.strOk s = true) : It B 0 (m + 1) (.str s) := by
  refine ⟨by simp [DL.D.pd, PyData.canLay0, h2], by simp [DL.D.pd, PyData.showable], by simp [DL.D.pd, PyData.intsShort], by simp [DL.D.pd, PyData.depth], ?_⟩
  have h : s.cps.size ≤ m := h
  simp only [DL.D.pd, PyData.weight]
  omega
theorem Sz.it {q : Rat} (h : Sz 25 q) : It 208 1 404 (qD q) := It.q (k := 25) h (by decide) (by decide)
def GoneOk (gone : List Str) : Prop := gone.length ≤ 100 ∧ ∀ g ∈ gone, PyData.strOk g = true
/-! ### promises -/
structure OwnersOk (owners : List Str) : Prop where
  ln : owners.length ≤ 20
  sz : ∀ s ∈ owners, NmZ s
structure ClN (owners : List Str) (n : Nat) (cls : List Cl) : Prop where
  n0 : 0 < n
  n1 : n ≤ 17
  ln : cls.length ≤ 40
  ok : ∀ c ∈ cls, c.1 < n ∧ c.2.1 < n ∧ La (27720 * 7) ((2 ^ 40 : Nat) : Rat) c.2.2.1 ∧ (c.2.2.2 ∈ owners ∨ c.2.2.2 = "")
theorem ClN.cs {owners : List Str} {n : Nat} {cls : List Cl} (h : ClN owners n cls) (ho : OwnersOk owners) : CsOk n cls := ⟨h.n0, h.n1, Nat.le_trans h.ln (by decide), fun c hc => by
  obtain ⟨h1, h2, h3, h4⟩ := h.ok c hc
  refine ⟨h1, h2, h3.mono (by decide) NN0 (by decide +kernel), ?_⟩
  rcases h4 with h4 | h4
  · exact ho.sz _ h4
  · rw [h4]; exact ⟨Nat.le_of_ble_eq_true rfl, by decide +kernel⟩⟩
/-- two further claims of o that make a ring -/
structure Two (n : Nat) (o : Str) (cls l2 : List Cl) : Prop where
  ln : l2.length = cls.length + 2
  ex : ∃ (x y : Nat) (q r : Rat), x < n ∧ y < n ∧ q < r ∧ La NN MM q ∧ La NN MM r ∧ ∀ c, c ∈ l2 ↔ c = (y, x, 0 - r, o) ∨ c = (x, y, q, o) ∨ c ∈ cls
theorem La.neg0 {N : Nat} {m q : Rat} (h : La N m q) : La N m (0 - q) := by
  rw [show (0 : Rat) - q = -q by grind]; exact h.neg
theorem Two.cs {n : Nat} {o : Str} {cls l2 : List Cl} (h : Two n o cls l2) (hc : CsOk n cls) (hl : cls.length ≤ 40) (ho : NmZ o) : CsOk n l2 := by
  obtain ⟨x, y, q, r, h1, h2, h3, h4, h5, h6⟩ := h.ex
  refine ⟨hc.n0, hc.n1, by rw [h.ln]; omega, fun c h => ?_⟩
  rcases (h6 c).mp h with rfl | rfl | h
  · exact ⟨h2, h1, h5.neg0, ho⟩
  · exact ⟨h1, h2, h4, ho⟩
  · exact hc.ok c h
theorem Two.ring {n : Nat} {o : Str} {cls l2 : List Cl} (h : Two n o cls l2) {gone : List Str} (hg : gone.contains o = false) : ¬ FitC l2 gone := fun ⟨w, hw⟩ => by
  obtain ⟨x, y, q, r, h1, h2, h3, h4, h5, h6⟩ := h.ex
  have lv : ∀ a b z, liveB gone ((a, b, z, o) : Cl) = true := fun a b z => by unfold liveB; rw [hg]; rfl
  have a1 := hw _ ((h6 _).mpr (.inl rfl)) (lv _ _ _)
  have a2 := hw _ ((h6 _).mpr (.inr (.inl rfl))) (lv _ _ _)
  simp only at a1 a2
  grind
theorem Two.same {n : Nat} {o : Str} {cls l2 : List Cl} (h : Two n o cls l2) {gone : List Str} (hc : ∀ c ∈ cls, c.2.2.2 ≠ o) : FitC l2 (gone ++ [o]) ↔ FitC cls gone := by
  obtain ⟨x, y, q, r, h1, h2, h3, h4, h5, h6⟩ := h.ex
  have lo : ∀ a b z, liveB (gone ++ [o]) ((a, b, z, o) : Cl) = false := fun a b z => by unfold liveB; simp
  have lc : ∀ c ∈ cls, liveB (gone ++ [o]) c = liveB gone c := fun c hcc => by
    unfold liveB
    have := hc c hcc
    simp [this]
  constructor
  · rintro ⟨w, hw⟩
    exact ⟨w, fun c hcc hl => hw c ((h6 c).mpr (.inr (.inr hcc))) (by rw [lc c hcc]; exact hl)⟩
  · rintro ⟨w, hw⟩
    refine ⟨w, fun c hcc hl => ?_⟩
    rcases (h6 c).mp hcc with rfl | rfl | h
    · rw [lo] at hl; cases hl
    · rw [lo] at hl; cases hl
    · exact hw c h (by rw [← lc c h]; exact hl)
/-- the kind tells whether a world fits -/
theorem CsOk.nm {n : Nat} {cls : List Cl} {gone : List Str} (h : CsOk n cls) : (FitC cls gone → (setF n cls gone).nm = "world") ∧ (¬ FitC cls gone → (setF n cls gone).nm = "ring") := by
  have z := h.ans (gone := gone)
  match setF n cls gone, z with
  | .world w, z => exact ⟨fun _ => rfl, fun h2 => absurd (z.fit h.ok) h2⟩
  | .ring l, z => exact ⟨fun h2 => absurd h2 z.not, fun _ => rfl⟩
/-! ### fractions as they are drawn -/
end DL

end
section
set_option Elab.async false
set_option linter.all false
set_option autoImplicit true
set_option maxRecDepth 100000
set_option maxHeartbeats 1000000
/-! bounds: least sums from a moment, ways back, two scales at once: the plain law -/
namespace DL
open PySem L2
open PyProof.Rows hiding St
/-! ### rounds from any state -/
/-! ### from one moment -/
def stS (n v : Nat) : StR := ⟨(List.replicate n none).set v (some 0), List.replicate n none, some v⟩
/-- what stands in a state that begins at st, w a world -/
structure Src (C : Nat) (w : Nat → Rat) (n st : Nat) (t : StR) : Prop where
  ls : t.s.length = n
  lp : t.p.length = n
  zero : gO t.s st = some 0
  np : gO t.p st = none
  ptr : ∀ u x, gO t.s u = some x → u = st ∨ ∃ e, gO t.p u = some e
  low : ∀ u x, gO t.s u = some x → ((C : Nat) : Rat) * (w u - w st) ≤ ((x : Int) : Rat)
theorem Src.init {C : Nat} {w : Nat → Rat} {n st : Nat} (h : st < n) : Src C w n st (stS n st) := by
  have e : ∀ u, gO (stS n st).s u = if u = st then some 0 else none := fun u => by
    show gO ((List.replicate n none).set st (some 0)) u = _
    rw [gO_set (by simpa using h)]
    by_cases hu : u = st
    · rw [if_pos hu, if_pos hu]
    · rw [if_neg hu, if_neg hu]; exact gO_rep
  refine ⟨by simp [stS], List.length_replicate, by rw [e, if_pos rfl], gO_rep, fun u x hu => ?_, fun u x hu => ?_⟩
  · rw [e] at hu
    by_cases h2 : u = st
    · exact .inl h2
    · rw [if_neg h2] at hu; cases hu
  · rw [e] at hu
    by_cases h2 : u = st
    · rw [if_pos h2] at hu
      cases hu
      rw [h2]
      have z : ((0 : Int) : Rat) = 0 := rfl
      rw [z]; grind
    · rw [if_neg h2] at hu; cases hu
theorem Src.step {C : Nat} {w : Nat → Rat} {n st : Nat} {t : StR} (S : Src C w n st t) {e : Ed} (hb : e.2.1 < n) (he : ((C : Nat) : Rat) * (w e.2.1 - w e.1) ≤ ((e.2.2.1 : Int) : Rat)) : Src C w n st (rlxE t e) := by
  unfold rlxE
  match hx : gO t.s e.1 with
  | none => exact S
  | some x =>
    by_cases hl : lowB (x + e.2.2.1) (gO t.s e.2.1) = true
    · simp only [hl, if_true]
      have lb : e.2.1 < t.s.length := by rw [S.ls]; exact hb
      have lpb : e.2.1 < t.p.length := by rw [S.lp]; exact hb
      have lx := S.low _ _ hx
      have key : ((C : Nat) : Rat) * (w e.2.1 - w st) ≤ ((x + e.2.2.1 : Int) : Rat) := by
        rw [Rat.intCast_add]; grind
      have hne : st ≠ e.2.1 := fun z => by
        rw [← z, S.zero] at hl
        have h1 := of_decide_eq_true hl
        have h2 := Rat.intCast_lt_intCast.mpr h1
        rw [← z] at key
        have z0 : ((0 : Int) : Rat) = 0 := rfl
        grind
      refine ⟨by rw [List.length_set]; exact S.ls, by rw [List.length_set]; exact S.lp, by rw [gO_set lb, if_neg hne]; exact S.zero, by rw [gO_set lpb, if_neg hne]; exact S.np, fun u y hu => ?_, fun u y hu => ?_⟩
      · simp only [gO_set lb] at hu
        simp only [gO_set lpb]
        by_cases h2 : u = e.2.1
        · rw [if_pos h2]; exact .inr ⟨_, rfl⟩
        · rw [if_neg h2] at hu ⊢; exact S.ptr u y hu
      · simp only [gO_set lb] at hu
        by_cases h2 : u = e.2.1
        · rw [if_pos h2] at hu; cases hu; rw [h2]; exact key
        · rw [if_neg h2] at hu; exact S.low u y hu
    · simp only [hl]; exact S
theorem Src.steps {C : Nat} {w : Nat → Rat} {n st : Nat} : ∀ (es : List Ed) {t : StR}, Src C w n st t → (∀ e ∈ es, e.2.1 < n ∧ ((C : Nat) : Rat) * (w e.2.1 - w e.1) ≤ ((e.2.2.1 : Int) : Rat)) → Src C w n st (es.foldl rlxE t)
  | [], t, S, _ => S
  | e :: es, t, S, h => Src.steps es (S.step (h e List.mem_cons_self).1 (h e List.mem_cons_self).2) fun d hd => h d (List.mem_cons_of_mem _ hd)
theorem Src.c {C : Nat} {w : Nat → Rat} {n st : Nat} {t : StR} (S : Src C w n st t) {c : Option Nat} : Src C w n st { t with c := c } := ⟨S.ls, S.lp, S.zero, S.np, S.ptr, S.low⟩
theorem Src.rnds {C : Nat} {w : Nat → Rat} {n st : Nat} {es : List Ed} (h : ∀ e ∈ es, e.2.1 < n ∧ ((C : Nat) : Rat) * (w e.2.1 - w e.1) ≤ ((e.2.2.1 : Int) : Rat)) : ∀ (k : Nat) {t : StR}, Src C w n st t → Src C w n st (rnds es k t)
  | 0, t, S => S
  | k + 1, t, S => by
    have S1 : Src C w n st (rnd es t) := Src.steps es S.c h
    rw [rnds_succ]
    split
    · exact S1
    · exact Src.rnds h k S1
/-! ### the ways back -/
/-! ### least sums -/
/-! ### two scales at once -/
def SimO (C S : Nat) : Option Int → Option Int → Prop
  | none, none => True
  | some x, some y => x * (S : Int) = y * (C : Int)
  | _, _ => False
structure Sim (C S : Nat) (t u : StR) : Prop where
  ls : t.s.length = u.s.length
  s : ∀ v, SimO C S (gO t.s v) (gO u.s v)
  c : t.c = u.c
def SimE (C S : Nat) (e d : Ed) : Prop := e.1 = d.1 ∧ e.2.1 = d.2.1 ∧ e.2.2.1 * (S : Int) = d.2.2.1 * (C : Int)
theorem sim_low {C S : Nat} (C0 : 0 < C) (S0 : 0 < S) {r r' : Int} (h : r * (S : Int) = r' * (C : Int)) {o o' : Option Int} (ho : SimO C S o o') : lowB r o = lowB r' o' := by
  match o, o', ho with
  | none, none, _ => rfl
  | some x, some y, ho =>
    have ho : x * (S : Int) = y * (C : Int) := ho
    show decide (r < x) = decide (r' < y)
    have hS : (0 : Int) < S := by omega
    have hC : (0 : Int) < C := by omega
    have h1 : r < x ↔ r * (S : Int) < x * (S : Int) := (Int.mul_lt_mul_right hS).symm
    have h2 : r' < y ↔ r' * (C : Int) < y * (C : Int) := (Int.mul_lt_mul_right hC).symm
    rw [decide_eq_decide, h1, h2, h, ho]
theorem Sim.step {C S : Nat} (C0 : 0 < C) (S0 : 0 < S) {t u : StR} (h : Sim C S t u) {e d : Ed} (he : SimE C S e d) (hb : e.2.1 < t.s.length) : Sim C S (rlxE t e) (rlxE u d) := by
  obtain ⟨h1, h2, h3⟩ := he
  unfold rlxE
  rw [← h1, ← h2]
  have sa := h.s e.1
  have sb := h.s e.2.1
  match ex : gO t.s e.1, ey : gO u.s e.1, sa with
  | none, none, _ => exact h
  | some x, some y, sa =>
    have sa : x * (S : Int) = y * (C : Int) := sa
    have er : (x + e.2.2.1) * (S : Int) = (y + d.2.2.1) * (C : Int) := by rw [Int.add_mul, Int.add_mul, sa, h3]
    have el := sim_low C0 S0 er sb
    simp only [← el]
    by_cases hl : lowB (x + e.2.2.1) (gO t.s e.2.1) = true
    · simp only [hl, if_true]
      refine ⟨by rw [List.length_set, List.length_set]; exact h.ls, fun v => ?_, rfl⟩
      simp only [gO_set hb, gO_set (show e.2.1 < u.s.length by rw [← h.ls]; exact hb)]
      by_cases hv : v = e.2.1
      · rw [if_pos hv, if_pos hv]; exact er
      · rw [if_neg hv, if_neg hv]; exact h.s v
    · simp only [hl]; exact h
def AllS (C S : Nat) : List Ed → List Ed → Prop
  | [], [] => True
  | e :: es, d :: ds => SimE C S e d ∧ AllS C S es ds
  | _, _ => False
theorem AllS.app {C S : Nat} : ∀ {es ds es' ds' : List Ed}, AllS C S es ds → AllS C S es' ds' → AllS C S (es ++ es') (ds ++ ds')
  | [], [], _, _, _, h => h
  | e :: es, d :: ds, _, _, h, h' => ⟨h.1, AllS.app h.2 h'⟩
theorem Sim.steps {C S : Nat} (C0 : 0 < C) (S0 : 0 < S) {n : Nat} : ∀ {es ds : List Ed} {t u : StR}, Sim C S t u → t.s.length = n → AllS C S es ds → (∀ e ∈ es, e.2.1 < n) → Sim C S (es.foldl rlxE t) (ds.foldl rlxE u)
  | [], [], t, u, h, _, _, _ => h
  | e :: es, d :: ds, t, u, h, hl, hf, hb => by
    have hb1 := hb e List.mem_cons_self
    have h1 := h.step C0 S0 hf.1 (show e.2.1 < t.s.length by omega)
    exact Sim.steps (es := es) (ds := ds) (t := rlxE t e) (u := rlxE u d) C0 S0 h1 (by rw [rlx_len.1]; exact hl) hf.2 fun x hx => hb x (List.mem_cons_of_mem _ hx)
  | [], _ :: _, _, _, _, _, h, _ => h.elim
  | _ :: _, [], _, _, _, _, h, _ => h.elim
theorem Sim.rnd {C S : Nat} (C0 : 0 < C) (S0 : 0 < S) {n : Nat} {es ds : List Ed} {t u : StR} (h : Sim C S t u) (hl : t.s.length = n) (hf : AllS C S es ds) (hb : ∀ e ∈ es, e.2.1 < n) : Sim C S (rnd es t) (rnd ds u) := Sim.steps C0 S0 (t := { t with c := none }) (u := { u with c := none }) ⟨h.ls, h.s, rfl⟩ hl hf hb
theorem Sim.rnds {C S : Nat} (C0 : 0 < C) (S0 : 0 < S) {n : Nat} {es ds : List Ed} (hf : AllS C S es ds) (hb : ∀ e ∈ es, e.2.1 < n) : ∀ (k : Nat) {t u : StR}, Sim C S t u → t.s.length = n → Sim C S (rnds es k t) (rnds ds k u)
  | 0, _, _, h, _ => h
  | k + 1, t, u, h, hl => by
    have h1 := h.rnd C0 S0 hl hf hb
    rw [rnds_succ, rnds_succ, ← h1.c]
    split
    · exact h1
    · exact Sim.rnds C0 S0 hf hb k h1 (by rw [rnd_len.1]; exact hl)
/-! ### rounds that never stop -/
def itR (es : List Ed) : Nat → StR → StR
  | 0, t => t
  | k + 1, t => itR es k (DL.rnd es t)
/-! ### what the law's own passes find -/
end DL

end
section
set_option Elab.async false
set_option linter.all false
set_option autoImplicit true
set_option maxRecDepth 100000
set_option maxHeartbeats 1000000
/-! errors that keep a copy of a list; bounds: promises -/
namespace DL
open PySem L2 NdefX
open PyProof.Rows hiding St
/-! ### an own error whose __init__ keeps list(y) -/
section
variable {P : Program} {w : World} {K : PySem.W.Frag} {mg : Str → Option Value} {base : Heap}
end
section
variable {X : Cx} {n : Nm} {c : Cc} {Γ : SL} {e : Expr} {pos p pos2 : Pos} {nm : Str}
end
/-! ### bounds: promises -/
/-- bounds of the sums -/
def Bnd (M : Nat) (t : StR) : Prop := ∀ v x, gO t.s v = some x → x.natAbs ≤ M
theorem Bnd.step {M W : Nat} {t : StR} {e : Ed} (h : Bnd M t) (hw : e.2.2.1.natAbs ≤ W) (hb : e.2.1 < t.s.length) : Bnd (M + W) (rlxE t e) := by
  have keep : Bnd (M + W) t := fun v x hx => by have := h v x hx; omega
  unfold rlxE
  match hx : gO t.s e.1 with
  | none => exact keep
  | some x =>
    by_cases hl : lowB (x + e.2.2.1) (gO t.s e.2.1) = true
    · simp only [hl, if_true]
      intro v y hy
      simp only [gO_set hb] at hy
      by_cases hv : v = e.2.1
      · rw [if_pos hv] at hy; cases hy
        have := h _ _ hx
        omega
      · rw [if_neg hv] at hy
        have := h _ _ hy
        omega
    · simp only [hl]; exact keep
theorem Bnd.steps {W n : Nat} : ∀ (es : List Ed) {M : Nat} {t : StR}, Bnd M t → t.s.length = n → (∀ e ∈ es, e.2.2.1.natAbs ≤ W ∧ e.2.1 < n) → Bnd (M + es.length * W) (es.foldl rlxE t)
  | [], M, t, h, _, _ => by simpa using h
  | e :: es, M, t, h, hl, hw => by
    have he := hw e List.mem_cons_self
    have := Bnd.steps es (h.step he.1 (by rw [hl]; exact he.2)) (by rw [rlx_len.1]; exact hl) fun d hd => hw d (List.mem_cons_of_mem _ hd)
    rw [List.length_cons, Nat.add_mul, Nat.one_mul, Nat.add_comm (es.length * W) W, ← Nat.add_assoc]
    exact this
theorem Bnd.rounds {W n : Nat} {es : List Ed} (hw : ∀ e ∈ es, e.2.2.1.natAbs ≤ W ∧ e.2.1 < n) : ∀ (k : Nat) {M : Nat} {t : StR}, Bnd M t → t.s.length = n → Bnd (M + k * (es.length * W)) (itR es k t)
  | 0, M, t, h, _ => by simpa [itR] using h
  | k + 1, M, t, h, hl => by
    have h1 : Bnd (M + es.length * W) (DL.rnd es t) := Bnd.steps es (t := { t with c := none }) h hl hw
    have := Bnd.rounds hw k h1 (by rw [rnd_len.1]; exact hl)
    rw [Nat.add_mul, Nat.one_mul, Nat.add_comm (k * _), ← Nat.add_assoc]
    exact this
end DL

end
section
set_option Elab.async false
set_option linter.all false
set_option autoImplicit true
set_option maxRecDepth 100000
set_option maxHeartbeats 1000000
/-! chained comparisons; sums of ways, spans: promises -/
namespace DL
open PySem L2
open PyProof.Rows hiding St
section
variable {X : Cx} {n : Nm} {c : Cc} {Γ : SL} {a b e : Expr} {pos : Pos} {i j k : Int}
end
/-! ### sums of ways -/
end DL

end
section
set_option Elab.async false
set_option linter.all false
set_option autoImplicit true
set_option maxRecDepth 100000
set_option maxHeartbeats 1000000
/-! a dict that is walked itself: it is locked for that time -/
namespace DL
open PySem L2
open PyProof.Rows hiding St
/-- the context while the dict at d is locked -/
def lkC (c : Cc) (d : Addr) (u : HO) : Cc := { c with H0 := upd c.H0 d u, xw := fun _ _ _ => False }
section
variable {K : PySem.W.Frag} {c : Cc} {Γ : SL} {σ : L2.St} {R H R' H' : Hp}
end
theorem NOk.lk {X : Cx} {n : Nm} {c : Cc} (hn : NOk X n c) (d : Addr) (u : HO) : NOk X n (lkC c d u) := ⟨hn.eq, hn.nd, hn.vis, hn.loc, hn.dbg, hn.gl, hn.kind, hn.scp, hn.calm, hn.room, hn.po, hn.lc, hn.oi, hn.cm, takes_no rfl, hn.fr⟩
section
variable {X : Cx} {n : Nm} {c : Cc} {Γ : SL} {De : DE} {nm nm0 : Str} {pos p : Pos} {b : Expr} {x : DL.D}
end
section
variable {K : PySem.W.Frag} {c : Cc} {Γ : SL} {σ : L2.St} {R H : Hp}
end
section
variable {X : Cx} {n n' : Nm} {c : Cc} {Γ : SL} {nm nm0 : Str} {pos p : Pos} {elt : Expr} {scope : Scope}
end
end DL

end
section
set_option Elab.async false
set_option linter.all false
set_option autoImplicit true
set_option maxRecDepth 100000
set_option maxHeartbeats 1000000
/-! how often each claim of a way is used -/
namespace DL
open PySem L2
open PyProof.Rows hiding St
abbrev Us := List (Nat × Nat)
def sumU (f : Nat → Rat) : Us → Rat
  | [] => 0
  | p :: ps => ((p.2 : Nat) : Rat) * f p.1 + sumU f ps
def sumF (f : Nat → Rat) : List Nat → Rat
  | [] => 0
  | k :: ks => f k + sumF f ks
/-- us tells how often each index stands in l -/
structure UsOk (l : List Nat) (us : Us) : Prop where
  nd : (us.map (·.1)).Nodup
  sum : ∀ f, sumU f us = sumF f l
  key : ∀ p ∈ us, p.1 ∈ l
  ln : us.length ≤ l.length
  ct : ∀ p ∈ us, p.2 ≤ l.length
theorem UsOk.nil : UsOk [] [] := ⟨List.nodup_nil, fun _ => rfl, fun p h => (by cases h), Nat.le_refl _, fun p h => (by cases h)⟩
end DL

end
section
set_option Elab.async false
set_option linter.all false
set_option autoImplicit true
set_option maxRecDepth 100000
set_option maxHeartbeats 1000000
/-! in an except suite: lists walked, pairs stored; texts compared; things spread in a display; a list out of a box -/
namespace DL
open PySem L2
open PyProof.Rows hiding St
section
variable {prog : Program} {w : World} {A : Around} {E : Value → Shared → Prop} {s : Shared}
theorem HotAt.but {x1 it : Addr} {h h' : Heap} (hot : HotX.HotAt A x1 h) (hne : x1 ≠ it) (k : ∀ b o, b ≠ it → h.get? b = some o → h'.get? b = some o) : HotX.HotAt A x1 h' := by
  obtain ⟨hh, o1, vs1, h1, d1, c1⟩ := hot
  exact ⟨hh, o1, vs1, k _ _ hne h1, d1, c1⟩
end
section
variable {X : Cx} {n : Nm} {c : Cc} {Γ : SL} {e a b : Expr} {x y z : DL.D} {pos p : Pos} {nm : Str} {es : List Expr} {k l : AK} {De : DE} {S : Sg}
/-! ### texts compared -/
def ltS (a b : Str) : Bool := decide (a.cps.toList < b.cps.toList)
theorem dop_gtS : DOp X n c (compareOp .Gt) (fun x y Post => ∃ a b : Str, x = .str a ∧ y = .str b ∧ Post (.bl (ltS b a))) := fun _ => ⟨_, op_gt_str, fun Γ σ R H x y v w Post s hx hy ⟨i, j, e1, e2, p⟩ Q q => by
  subst e1 e2
  exact ⟨i, j, hx.str, hy.str, q (.bl (ltS j i)) R H (.bl (ltS j i)) s (Ex.refl _) rfl p⟩⟩
theorem et_gtS {u v : Str} (ha : EK X n c Γ a k) (hb : EK X n c Γ b l) (ga : k.get Γ = some (.str u) := by rfl) (gb : l.get Γ = some (.str v) := by rfl) : ET X n c Γ (.Compare a [.Gt] [b] pos) (ltS v u) :=
  et_cmp dop_gtS ha hb (fun _ h => ⟨u, v, rfl, rfl, h⟩) ga gb (nomark _)
/-! ### spread -/
theorem RpL.aks {K : PySem.W.Frag} {R : Hp} {σ : L2.St} : ∀ {ds : List DL.D} {vs : List V}, RpL K R ds vs → AksOk K R σ (ds.map AK.d) vs
  | [], _, h => h
  | d :: ds, _, ⟨v, ws, h1, h2, h3⟩ => ⟨v, ws, h1, h2, RpL.aks h3⟩
theorem AksOk.append {K : PySem.W.Frag} {R : Hp} {σ : L2.St} : ∀ {ks ls : List AK} {vs ws : List V}, AksOk K R σ ks vs → AksOk K R σ ls ws → AksOk K R σ (ks ++ ls) (vs ++ ws)
  | [], _, _, _, h, h' => by cases (show _ = _ from h); exact h'
  | k :: ks, _, _, _, ⟨v, us, h1, h2, h3⟩, h' => by subst h1; exact ⟨v, _, rfl, h2, AksOk.append h3 h'⟩
theorem dats_app {ds : List DL.D} {ks : List AK} {xs : List DL.D} (h : dats ks = some xs) : dats (ds.map AK.d ++ ks) = some (ds ++ xs) := by
  induction ds with
  | nil => exact h
  | cons d ds ih => show (dats (ds.map AK.d ++ ks)).map (d :: ·) = _; rw [ih]; rfl
theorem wa_star {P : List AK → SL → Prop} (h : WK X n c Γ e fun k Γ1 => ∃ ds, (k.get Γ1 = some (.lst ds) ∨ k.get Γ1 = some (.tup ds)) ∧ WA X n c Γ1 es fun ks Γ2 => P (ds.map AK.d ++ ks) Γ2) (hs : starEach (.Starred e p :: es) X.env = (true, eval e X.env) :: starEach es X.env := by rfl) : WA X n c Γ (.Starred e p :: es) P := .mk fun hn σ R H s Q q => by
  refine (StX.pa_star pW pWA hs).w (h.run hn σ R H s _ fun v R1 H1 k Γ1 s1 e1 r1 ⟨ds, hg, h2⟩ => ?_)
  have ⟨a, vs, ev, hh, hr⟩ : ∃ a vs, v = .ref a ∧ (SqT X.K H1 a vs ∨ SqL X.K H1 a vs) ∧ RpL X.K R1 ds vs := by
    rcases hg with hg | hg
    · obtain ⟨a, vs, h3, h4, h5⟩ := (r1.wk s1 hg).lst s1.rh
      exact ⟨a, vs, h3, .inr (.inl (.inl h4)), h5⟩
    · obtain ⟨a, vs, h3, h4, h5⟩ := (r1.wk s1 hg).tup s1.rh
      exact ⟨a, vs, h3, .inl h4, h5⟩
  refine ⟨a, vs, ev, hh, h2.run hn σ R1 H1 s1 _ fun ws R2 H2 ks Γ2 s2 e2 r2 p2 => q _ R2 H2 _ Γ2 s2 (e1.trans e2) (AksOk.append (RpL.aks (hr.mono e2)) r2) p2⟩
end
end DL

end
section
set_option Elab.async false
set_option linter.all false
set_option autoImplicit true
set_option maxRecDepth 100000
set_option maxHeartbeats 1000000
/-! a world through a time; sets of names; promises of k66 and its kin -/
namespace DL
open PySem L2
open PyProof.Rows hiding St
/-! ### a narrowest span is tight -/
/-! ### sets of names -/
def lastLt (one : List Str) (nm : Str) : Bool := match one.getLast? with
  | none => true
  | some l => ltS l nm
def extL (rk one : List Str) : List (List Str) := (rk.filter (lastLt one)).map fun nm => one ++ [nm]
def levL (rk : List Str) : Nat → List (List Str)
  | 0 => [[]]
  | k + 1 => (levL rk k).flatMap (extL rk)
def grpL (rk : List Str) (k : Nat) : List (List Str) := (List.range (k + 1)).flatMap (levL rk)
theorem extL_mem {rk one l : List Str} (h : l ∈ extL rk one) : ∃ nm ∈ rk, l = one ++ [nm] ∧ lastLt one nm = true := by
  obtain ⟨nm, h1, rfl⟩ := List.mem_map.mp h
  exact ⟨nm, (List.mem_filter.mp h1).1, rfl, (List.mem_filter.mp h1).2⟩
theorem levL_mem {rk : List Str} : ∀ {k : Nat} {l : List Str}, l ∈ levL rk k → l.length = k ∧ ∀ s ∈ l, s ∈ rk
  | 0, l, h => by cases List.mem_singleton.mp h; exact ⟨rfl, fun s hs => by cases hs⟩
  | k + 1, l, h => by
    obtain ⟨one, h1, h2⟩ := List.mem_flatMap.mp h
    obtain ⟨nm, h3, rfl, _⟩ := extL_mem h2
    obtain ⟨h5, h6⟩ := levL_mem h1
    refine ⟨by rw [List.length_append, h5]; rfl, fun s hs => ?_⟩
    rcases List.mem_append.mp hs with hs | hs
    · exact h6 s hs
    · rw [List.mem_singleton.mp hs]; exact h3
theorem grpL_mem {rk : List Str} {k : Nat} {l : List Str} (h : l ∈ grpL rk k) : l.length ≤ k ∧ ∀ s ∈ l, s ∈ rk := by
  obtain ⟨j, h1, h2⟩ := List.mem_flatMap.mp h
  have := levL_mem h2
  have := List.mem_range.mp h1
  exact ⟨by omega, (levL_mem h2).2⟩
theorem extL_len {rk one : List Str} : (extL rk one).length ≤ rk.length := by
  unfold extL
  rw [List.length_map]
  exact List.length_filter_le _ _
theorem flat_len {α β : Type} {f : α → List β} {m : Nat} (h : ∀ a, (f a).length ≤ m) : ∀ l : List α, (l.flatMap f).length ≤ l.length * m
  | [] => Nat.zero_le _
  | a :: l => by
    rw [List.flatMap_cons, List.length_append, List.length_cons, Nat.add_mul, Nat.one_mul]
    have := flat_len h l
    have := h a
    omega
theorem levL_len {rk : List Str} : ∀ k : Nat, (levL rk k).length ≤ rk.length ^ k
  | 0 => Nat.le_refl 1
  | k + 1 => by
    refine Nat.le_trans (flat_len (fun _ => extL_len) (levL rk k)) ?_
    rw [Nat.pow_succ]
    exact Nat.mul_le_mul_right _ (levL_len k)
def setsD (l : List Str) : DL.D := .tup (l.map DL.D.str)
theorem erase_map {α β : Type} {f : α → β} : ∀ (l : List α) (k : Nat), (l.map f).eraseIdx k = (l.eraseIdx k).map f
  | [], _ => rfl
  | _ :: _, 0 => rfl
  | a :: l, k + 1 => congrArg (f a :: ·) (erase_map l k)
/-! ### promises -/
/-- the names that a scene draws -/
structure NsOk (ns : List Str) : Prop where
  l0 : 1 ≤ ns.length
  l1 : ns.length ≤ 4
  sz : ∀ s ∈ ns, s ≠ "" ∧ NmZ s
structure ScW (ns : List Str) (n : Nat) (cls : List Cl) : Prop where
  n0 : 0 < n
  n1 : n ≤ 9
  ln : cls.length ≤ 24
  ok : ∀ c ∈ cls, c.1 < n ∧ c.2.1 < n ∧ La 27720 ((2 ^ 34 : Nat) : Rat) c.2.2.1 ∧ (c.2.2.2 ∈ ns ∨ c.2.2.2 = "")
theorem ScW.cs {ns : List Str} {n : Nat} {cls : List Cl} (h : ScW ns n cls) (hn : NsOk ns) : CsOk n cls := ⟨h.n0, Nat.le_trans h.n1 (by decide), Nat.le_trans h.ln (by decide), fun c hc => by
  obtain ⟨h1, h2, h3, h4⟩ := h.ok c hc
  refine ⟨h1, h2, h3.mono (by decide) NN0 (by decide +kernel), ?_⟩
  rcases h4 with h4 | h4
  · exact (hn.sz _ h4).2
  · rw [h4]; exact ⟨Nat.le_of_ble_eq_true rfl, by decide +kernel⟩⟩
/-- liars that are passed -/
structure GnOk (ns : List Str) (gone : List Str) : Prop where
  mem : ∀ s ∈ gone, s ∈ ns
  ln : gone.length ≤ 6
theorem GnOk.go {ns gone : List Str} (h : GnOk ns gone) (hn : NsOk ns) : GoneOk gone := ⟨Nat.le_trans h.ln (by decide), fun g hg => (hn.sz g (h.mem g hg)).2.2⟩
theorem GnOk.ne {ns gone : List Str} (h : GnOk ns gone) (hn : NsOk ns) : gone.contains "" = false := by
  rw [List.contains_eq_mem]
  exact decide_eq_false fun hg => (hn.sz _ (h.mem _ hg)).1 rfl
section
variable {X : Cx} {n : Nm} {c : Cc} {Γ : SL} {e a b d : Expr} {x y z : DL.D} {pos p : Pos} {nm : Str} {De : DE}
end
end DL

end
section
set_option Elab.async false
set_option linter.all false
set_option autoImplicit true
set_option maxRecDepth 100000
set_option maxHeartbeats 1000000
/-! f([xs, y]) with an own list xs: what f gives may lean on xs as it is now -/
namespace DL
open PySem L2
open PyProof.Rows hiding St
section
variable {X : Cx} {n : Nm} {c : Cc} {Γ : SL} {e e2 a b d : Expr} {x y z : DL.D} {pos p pi pl pk : Pos} {nm ni nk : Str} {De : DE} {S : Sg} {K : PySem.W.Frag} {σ : L2.St} {R H : Hp}
/-- what a frozen part becomes with the list at a taken out of it -/
def cutR (R : Hp) (a : Addr) : Hp := fun z => if z = a then none else R z
end
end DL

end
section
set_option Elab.async false
set_option linter.all false
set_option autoImplicit true
set_option maxRecDepth 100000
set_option maxHeartbeats 1000000
/-! a def that a name of another kind holds (alias = def) -/
namespace DL
open PySem L2
open PyProof.Rows hiding St
structure DefAtR (K : PySem.W.Frag) (mg : Str → Option Value) (nm own : Str) (st : Stmt) (ps : List Str) where
  a : Addr
  fd : FuncData
  F : Fun K own own st a fd
  m : mg nm = some (.ref a)
  bb : ∀ us : List Value, us.length = ps.length → bindArgs fd ⟨us, []⟩ = pure (ps.zip us)
theorem DefAtR.b {K : PySem.W.Frag} {mg : Str → Option Value} {nm own : Str} {st : Stmt} {ps : List Str} (d : DefAtR K mg nm own st ps) : Binds K d.fd ps [] := .all d.bb
theorem DefAtR.cal {X : Cx} {nm own : Str} {st : Stmt} {ps : List Str} {k k0 : Nat} {S : Sg} (d : DefAtR X.K X.mg nm own st ps) (F : FnOk X.prog X.w X.K X.mg X.base CX0 k0 d.a d.fd ps (spOf X.K S)) (h : k0 ≤ k) (rm : Room k X.A) : CalF X k nm S :=
  ⟨rm, d.a, d.fd, ps, k0, F.at X.A, h, d.m, d.F.kp, d.b⟩
section
variable {X : Cx} {n : Nm} {c : Cc} {Γ : SL} {e e2 a b d : Expr} {x y z : DL.D} {pos p pi pl pk : Pos} {nm ni nk : Str} {De : DE} {S : Sg}
end
end DL

end
section
set_option Elab.async false
set_option linter.all false
set_option autoImplicit true
set_option maxRecDepth 100000
set_option maxHeartbeats 1000000
/-! try .. except X without a name; k76: one that stays alone -/
namespace DL
open PySem L2
open PyProof.Rows hiding St
section
variable {X : Cx} {n : Nm} {c : Cc} {Γ : SL} {cn : Str} {cv : Value} {De : DE} {body suite : List Stmt} {b₀ : Stmt} {np pos pos' : Pos}
end
section
variable {X : Cx} {n : Nm} {c : Cc} {Γ : SL} {e a b d : Expr} {x y z : DL.D} {pos p : Pos} {nm ni : Str} {De : DE}
end
/-! ### the claims of those that are not gone -/
/-! a claim of one that is gone tells nothing -/
/-! ### one that stays alone -/
/-! ### names -/
def NmG (s : Str) : Prop := s ≠ "" ∧ NmZ s
/-! ### promises of k76 -/
/-- names of the voters -/
structure NkOk (ns : List Str) : Prop where
  ln : ns.length ≤ 6
  sz : ∀ s ∈ ns, NmG s
theorem NkOk.go {ns : List Str} (h : NkOk ns) : GoneOk ns := ⟨Nat.le_trans h.ln (by decide), fun g hg => (h.sz g hg).2.2⟩
end DL

end
section
set_option Elab.async false
set_option linter.all false
set_option autoImplicit true
set_option maxRecDepth 100000
set_option maxHeartbeats 1000000
/-! a[i], a[j] = x, y; plain values that are bent; sealed entries (k47) -/
namespace DL
open PySem L2
open PyProof.Rows hiding St
section
variable {X : Cx} {n : Nm} {c : Cc} {Γ : SL} {e b1 b2 x y : Expr} {pos p p1 p2 tp1 tp2 pt pt2 : Pos} {nm : Str} {De : DE}
end

/-! ### list(d.keys()) -/
section
variable {X : Cx} {n : Nm} {c : Cc} {Γ : SL} {e : Expr} {pos p apos cpos : Pos} {k : AK}
end
/-! ### one sign in a text; for over a text -/
section
variable {X : Cx} {n : Nm} {c : Cc} {Γ : SL} {e a b : Expr} {pos p : Pos} {nm : Str} {k l : AK} {De : DE}
end

/-! ### plain things, dicts with texts as keys among them -/
def D.plD : Nat → DL.D → Prop
  | _, .non => True
  | _, .bl _ => True
  | _, .int _ => True
  | _, .str _ => True
  | k + 1, .lst ds => ds.length ≤ 100000 ∧ ∀ d ∈ ds, D.plD k d
  | k + 1, .tup ds => ds.length ≤ 100000 ∧ ∀ d ∈ ds, D.plD k d
  | k + 2, .dic kvs => kvs.length ≤ 1000 ∧ (kvs.map (·.1)).Nodup ∧ (∀ p ∈ kvs, ∃ s : Str, p.1 = .inr s) ∧ ∀ p ∈ kvs, D.plD k p.2
  | _, _ => False
theorem D.pl.toD : ∀ {k : Nat} {d : DL.D}, DL.D.pl k d → DL.D.plD k d
  | k, .non, _ => by cases k <;> trivial
  | k, .bl _, _ => by cases k <;> trivial
  | k, .int _, _ => by cases k <;> trivial
  | k, .str _, _ => by cases k <;> trivial
  | 0, .lst _, h => h.elim
  | 0, .tup _, h => h.elim
  | k + 1, .lst ds, h => ⟨h.1, fun d hd => D.pl.toD (h.2 d hd)⟩
  | k + 1, .tup ds, h => ⟨h.1, fun d hd => D.pl.toD (h.2 d hd)⟩
  | k, .dic _, h => by cases k <;> exact h.elim
  | k, .ins _ _, h => by cases k <;> exact h.elim
theorem D.plD.mono : ∀ {j k : Nat} {d : DL.D}, j ≤ k → DL.D.plD j d → DL.D.plD k d
  | j, k, .non, _, _ => by cases k <;> trivial
  | j, k, .bl _, _, _ => by cases k <;> trivial
  | j, k, .int _, _, _ => by cases k <;> trivial
  | j, k, .str _, _, _ => by cases k <;> trivial
  | 0, k, .lst _, _, h => h.elim
  | 0, k, .tup _, _, h => h.elim
  | 0, k, .dic _, _, h => h.elim
  | 1, k, .dic _, _, h => h.elim
  | j, k, .ins _ _, _, h => by match j, h with | 0, h => exact h.elim | 1, h => exact h.elim | _ + 2, h => exact h.elim
  | j + 1, 0, .lst ds, e, h => by omega
  | j + 1, 0, .tup ds, e, h => by omega
  | j + 2, 0, .dic _, e, h => by omega
  | j + 2, 1, .dic _, e, h => by omega
  | j + 1, k + 1, .lst ds, e, h => ⟨h.1, fun d hd => D.plD.mono (Nat.le_of_succ_le_succ e) (h.2 d hd)⟩
  | j + 1, k + 1, .tup ds, e, h => ⟨h.1, fun d hd => D.plD.mono (Nat.le_of_succ_le_succ e) (h.2 d hd)⟩
  | j + 2, k + 2, .dic kvs, e, h => ⟨h.1, h.2.1, h.2.2.1, fun p hp => D.plD.mono (by omega) (h.2.2.2 p hp)⟩
end DL

end
section
set_option Elab.async false
set_option linter.all false
set_option autoImplicit true
set_option maxRecDepth 100000
set_option maxHeartbeats 1000000
/-! k47: seals -/
namespace DL
open PySem L2
open PyProof.Rows hiding St
/-! ### the modulus is a prime -/
def MP : Nat := 2147483647
def mpChk : Nat → Nat → Bool
  | 0, _ => true
  | k + 1, d => (MP % d != 0) && mpChk k (d + 1)
theorem mpChk_ok : ∀ {k d : Nat}, mpChk k d = true → ∀ e, d ≤ e → e < d + k → MP % e ≠ 0
  | 0, d, _, e, h1, h2 => by omega
  | k + 1, d, h, e, h1, h2 => by
    obtain ⟨h3, h4⟩ := Bool.and_eq_true_iff.mp h
    by_cases q : e = d
    · rw [q]; simpa using h3
    · exact mpChk_ok h4 e (by omega) (by omega)
theorem mp_chk : mpChk 46400 2 = true := by decide +kernel
theorem mp_div {g : Nat} (h : g ∣ MP) (h1 : 1 < g) (h2 : g < MP) : False := by
  obtain ⟨m, hm⟩ := h
  have key : ∀ e, 2 ≤ e → e < 46402 → MP % e ≠ 0 := fun e a b => mpChk_ok mp_chk e a (by omega)
  have m0 : 0 < m := by
    rcases Nat.eq_zero_or_pos m with z | z
    · rw [z, Nat.mul_zero] at hm; exact absurd hm (by decide)
    · exact z
  have m1 : 1 < m := by
    rcases Nat.lt_or_ge 1 m with z | z
    · exact z
    · have : m = 1 := by omega
      rw [this] at hm; omega
  by_cases q : g < 46402
  · exact key g (by omega) q (by rw [hm]; exact Nat.mul_mod_right g m)
  · by_cases r : m < 46402
    · exact key m (by omega) r (by rw [hm]; exact Nat.mul_mod_left g m)
    · have : 46402 * 46402 ≤ g * m := Nat.mul_le_mul (by omega) (by omega)
      have e : MP < 46402 * 46402 := by decide
      omega
theorem mp_cop {a : Nat} (h0 : 0 < a) (h1 : a < MP) : Nat.Coprime MP a := by
  have g1 := Nat.gcd_dvd_left MP a
  have g2 := Nat.gcd_dvd_right MP a
  have g3 := Nat.le_of_dvd h0 g2
  have g4 : 0 < Nat.gcd MP a := Nat.gcd_pos_of_pos_right _ h0
  rcases Nat.lt_or_ge 1 (Nat.gcd MP a) with z | z
  · exact (mp_div g1 z (by omega)).elim
  · show Nat.gcd MP a = 1
    omega
def ZP : Int := 2147483647
theorem zp : ZP = ((MP : Nat) : Int) := rfl
/-- a factor of that kind may be left out -/
theorem zp_cancel {a x : Int} (h0 : 0 < a) (h1 : a < ZP) (h : ZP ∣ x * a) : ZP ∣ x := by
  have c : Nat.Coprime MP a.natAbs := mp_cop (by omega) (by rw [zp] at h1; omega)
  have h2 : MP ∣ x.natAbs * a.natAbs := by
    rw [← Int.natAbs_mul]
    exact Int.natAbs_dvd_natAbs.mpr h
  exact Int.natAbs_dvd_natAbs.mp (c.dvd_of_dvd_mul_right h2)
theorem zp_pow {a x : Int} (h0 : 0 < a) (h1 : a < ZP) : ∀ k : Nat, ZP ∣ x * a ^ k → ZP ∣ x
  | 0, h => by simpa using h
  | k + 1, h => by
    rw [Int.pow_succ, ← Int.mul_assoc] at h
    exact zp_pow h0 h1 k (zp_cancel h0 h1 h)
theorem zp_eq {x y : Int} (h : ZP ∣ x - y) (h1 : x - y < ZP) (h2 : y - x < ZP) : x = y := by
  obtain ⟨c, hc⟩ := h
  have : c = 0 := by
    unfold ZP at *
    omega
  rw [this] at hc
  omega
/-! ### the lastc -/
def hor (key c : Int) (xs : List Int) : Int := xs.foldl (fun s x => s * key + x) c
def horM (key c : Int) (xs : List Int) : Int := xs.foldl (fun s x => (s * key + x) % ZP) c
def sealZ (key c : Int) (xs : List Int) : Int := (horM key c xs * key + xs.length) % ZP
theorem mul_add_mod {a b k x : Int} (h : a % ZP = b % ZP) : (a * k + x) % ZP = (b * k + x) % ZP := by
  rw [Int.add_emod, Int.mul_emod, h, ← Int.mul_emod, ← Int.add_emod]
theorem hor_mod (key : Int) : ∀ (xs : List Int) {a b : Int}, a % ZP = b % ZP → horM key a xs % ZP = hor key b xs % ZP
  | [], a, b, h => h
  | x :: xs, a, b, h => hor_mod key xs (a := (a * key + x) % ZP) (b := b * key + x) (by rw [Int.emod_emod_of_dvd _ (Int.dvd_refl _)]; exact mul_add_mod h)
theorem seal_hor (key c : Int) (xs : List Int) : sealZ key c xs = (hor key c xs * key + xs.length) % ZP := mul_add_mod (hor_mod key xs rfl)
theorem hor_app (key c : Int) (xs ys : List Int) : hor key c (xs ++ ys) = hor key (hor key c xs) ys := List.foldl_append
theorem hor_lin (key : Int) : ∀ (ys : List Int) (c : Int), hor key c ys = c * key ^ ys.length + hor key 0 ys
  | [], c => by simp [hor]
  | y :: ys, c => by
    show hor key (c * key + y) ys = _ + hor key (0 * key + y) ys
    rw [hor_lin key ys (c * key + y), hor_lin key ys (0 * key + y), List.length_cons, Int.pow_succ]
    grind
/-- equal seals of equally many cells -/
theorem seal_inj {key c c' : Int} {xs xs' : List Int} (h0 : 0 < key) (h1 : key < ZP) (hl : xs.length = xs'.length) (h : sealZ key c xs = sealZ key c' xs') : ZP ∣ hor key c xs - hor key c' xs' := by
  rw [seal_hor, seal_hor, hl] at h
  have h2 := Int.emod_emod_of_dvd (hor key c xs * key + xs'.length) (Int.dvd_refl ZP)
  have h3 : ZP ∣ (hor key c xs * key + xs'.length) - (hor key c' xs' * key + xs'.length) := Int.dvd_of_emod_eq_zero (Int.emod_eq_emod_iff_emod_sub_eq_zero.mp h)
  refine zp_cancel h0 h1 ?_
  have e : (hor key c xs - hor key c' xs') * key = (hor key c xs * key + xs'.length) - (hor key c' xs' * key + xs'.length) := by grind
  rw [e]; exact h3
theorem seal_cell {key c a b : Int} {xs ys : List Int} (h0 : 0 < key) (h1 : key < ZP) (a0 : 0 ≤ a) (a1 : a < ZP) (b0 : 0 ≤ b) (b1 : b < ZP) (h : sealZ key c (xs ++ a :: ys) = sealZ key c (xs ++ b :: ys)) : a = b := by
  have h2 := seal_inj h0 h1 (by simp) h
  rw [hor_app, hor_app] at h2
  have e : ∀ z : Int, hor key (hor key c xs) (z :: ys) = (hor key c xs * key + z) * key ^ ys.length + hor key 0 ys := fun z => hor_lin key ys _
  rw [e, e] at h2
  have e2 : (hor key c xs * key + a) * key ^ ys.length + hor key 0 ys - ((hor key c xs * key + b) * key ^ ys.length + hor key 0 ys) = (a - b) * key ^ ys.length := by grind
  rw [e2] at h2
  exact zp_eq (zp_pow h0 h1 _ h2) (by omega) (by omega)
theorem seal_swap {key c a b : Int} {xs ys : List Int} (h0 : 1 < key) (h1 : key < ZP) (a0 : 0 ≤ a) (a1 : a < ZP) (b0 : 0 ≤ b) (b1 : b < ZP) (h : sealZ key c (xs ++ a :: b :: ys) = sealZ key c (xs ++ b :: a :: ys)) : a = b := by
  have h2 := seal_inj (by omega) h1 (by simp) h
  rw [hor_app, hor_app] at h2
  have e : ∀ z w : Int, hor key (hor key c xs) (z :: w :: ys) = ((hor key c xs * key + z) * key + w) * key ^ ys.length + hor key 0 ys := fun z w => hor_lin key ys _
  rw [e, e] at h2
  have e2 : ((hor key c xs * key + a) * key + b) * key ^ ys.length + hor key 0 ys - (((hor key c xs * key + b) * key + a) * key ^ ys.length + hor key 0 ys) = ((a - b) * (key - 1)) * key ^ ys.length := by grind
  rw [e2] at h2
  exact zp_eq (zp_cancel (by omega) (by omega) (zp_pow (by omega) h1 _ h2)) (by omega) (by omega)
theorem seal_count {key c c' : Int} {xs : List Int} (h0 : 0 < key) (h1 : key < ZP) (hc : c - c' < ZP) (hc' : c' - c < ZP) (h : sealZ key c xs = sealZ key c' xs) : c = c' := by
  have h2 := seal_inj h0 h1 rfl h
  rw [hor_lin key xs c, hor_lin key xs c'] at h2
  have e2 : c * key ^ xs.length + hor key 0 xs - (c' * key ^ xs.length + hor key 0 xs) = (c - c') * key ^ xs.length := by grind
  rw [e2] at h2
  exact zp_eq (zp_pow h0 h1 _ h2) hc hc'
/-! the law's own way: powers from the last cell on -/
/-! ### entries -/
def ltrs : List Nat := ("abcdefghijklmnopqrstuvwxyz" : Str).cps.toList
def dgts : List Nat := ("0123456789" : Str).cps.toList
def nmOk (l : List Nat) : Bool := decide (1 ≤ l.length) && decide (l.length ≤ 8) && (match l.head? with | some z => decide (z ∈ ltrs) | none => false) && l.all fun z => decide (z ∈ ltrs ++ dgts)
def isNm : DL.D → Bool
  | .str s => nmOk s.cps.toList
  | _ => false
def isCe : DL.D → Bool
  | .int i => decide (0 ≤ i) && decide (i < ZP)
  | _ => false
def isEn : DL.D → Bool
  | .tup [a, .int c, .tup cs, s] => isNm a && (decide (1 ≤ c) && decide (c ≤ 999)) && (isCe s && cs.all isCe)
  | _ => false
def cInt : DL.D → Int
  | .int i => i
  | _ => 0
def isSe (key : Int) : DL.D → Bool
  | .tup [a, .int c, .tup cs, .int s] => isEn (.tup [a, .int c, .tup cs, .int s]) && decide (s = sealZ key c (cs.map cInt))
  | _ => false
/-- an entry's parts -/
structure EnOk (a : Str) (c : Int) (cs : List Int) (s : Int) : Prop where
  nm : isNm (.str a) = true
  c1 : 1 ≤ c
  c2 : c ≤ 999
  cl : ∀ i ∈ cs, 0 ≤ i ∧ i < ZP
  s0 : 0 ≤ s
  s1 : s < ZP
  ln : cs.length ≤ 3100
def enD (a : Str) (c : Int) (cs : List Int) (s : Int) : DL.D := .tup [.str a, .int c, .tup (cs.map DL.D.int), .int s]
theorem cells_all {cs : List Int} (h : ∀ i ∈ cs, 0 ≤ i ∧ i < ZP) : (cs.map DL.D.int).all isCe = true ∧ (cs.map DL.D.int).map cInt = cs := by
  constructor
  · rw [List.all_eq_true]
    intro x hx
    obtain ⟨i, hi, rfl⟩ := List.mem_map.mp hx
    obtain ⟨h1, h2⟩ := h i hi
    simp [isCe, h1, h2]
  · rw [List.map_map]
    conv => rhs; rw [← List.map_id cs]
    rfl
theorem EnOk.en {a : Str} {c : Int} {cs : List Int} {s : Int} (h : EnOk a c cs s) : isEn (enD a c cs s) = true := by
  show (isNm (.str a) && (decide (1 ≤ c) && decide (c ≤ 999)) && (isCe (.int s) && (cs.map DL.D.int).all isCe)) = true
  rw [h.nm, (cells_all h.cl).1]
  simp [isCe, h.c1, h.c2, h.s0, h.s1]
theorem EnOk.se {a : Str} {c : Int} {cs : List Int} {s : Int} (h : EnOk a c cs s) (key : Int) : isSe key (enD a c cs s) = decide (s = sealZ key c cs) := by
  show (isEn (enD a c cs s) && decide (s = sealZ key c ((cs.map DL.D.int).map cInt))) = _
  rw [h.en, (cells_all h.cl).2, Bool.true_and]
/-- one change -/
inductive Chg (c : Int) (cs : List Int) (s : Int) : Int → List Int → Int → Prop
  | cell {xs ys : List Int} {x y : Int} (e : cs = xs ++ x :: ys) (h : x ≠ y) (h0 : 0 ≤ y) (h1 : y < ZP) : Chg c cs s c (xs ++ y :: ys) s
  | swap {xs ys : List Int} {x y : Int} (e : cs = xs ++ x :: y :: ys) (h : x ≠ y) : Chg c cs s c (xs ++ y :: x :: ys) s
  | count {c' : Int} (h : c' ≠ c) (h0 : 1 ≤ c') (h1 : c' ≤ 999) : Chg c cs s c' cs s
  | lastc {s' : Int} (h : s' ≠ s) (h0 : 0 ≤ s') (h1 : s' < ZP) : Chg c cs s c cs s'
theorem Chg.ok {a : Str} {c c' : Int} {cs cs' : List Int} {s s' : Int} (h : Chg c cs s c' cs' s') (ho : EnOk a c cs s) : EnOk a c' cs' s' := by
  cases h with
  | cell e h h0 h1 =>
    subst e
    refine ⟨ho.nm, ho.c1, ho.c2, fun i hi => ?_, ho.s0, ho.s1, by have := ho.ln; simpa using this⟩
    rcases List.mem_append.mp hi with hi | hi
    · exact ho.cl i (List.mem_append_left _ hi)
    · rcases List.mem_cons.mp hi with rfl | hi
      · exact ⟨h0, h1⟩
      · exact ho.cl i (List.mem_append_right _ (List.mem_cons_of_mem _ hi))
  | swap e h =>
    subst e
    refine ⟨ho.nm, ho.c1, ho.c2, fun i hi => ho.cl i ?_, ho.s0, ho.s1, by have := ho.ln; simpa using this⟩
    simp only [List.mem_append, List.mem_cons] at hi ⊢
    rcases hi with h | h | h | h
    · exact .inl h
    · exact .inr (.inr (.inl h))
    · exact .inr (.inl h)
    · exact .inr (.inr (.inr h))
  | count h h0 h1 => exact ⟨ho.nm, h0, h1, ho.cl, ho.s0, ho.s1, ho.ln⟩
  | lastc h h0 h1 => exact ⟨ho.nm, ho.c1, ho.c2, ho.cl, h0, h1, ho.ln⟩
theorem app_inj {xs ys zs : List Int} (h : xs ++ ys = xs ++ zs) : ys = zs := List.append_cancel_left h
theorem Chg.ne {a : Str} {c c' : Int} {cs cs' : List Int} {s s' : Int} (h : Chg c cs s c' cs' s') : enD a c' cs' s' ≠ enD a c cs s := fun q => by
  have q2 : c' = c ∧ cs' = cs ∧ s' = s := by
    unfold enD at q
    simp only [DL.D.tup.injEq, List.cons.injEq, DL.D.int.injEq, and_true, true_and] at q
    exact ⟨q.1, List.map_inj_right (fun _ _ z => by injection z) |>.mp q.2.1, q.2.2⟩
  obtain ⟨q3, q4, q5⟩ := q2
  cases h with
  | cell e h h0 h1 =>
    rw [e] at q4
    have := app_inj q4
    exact h (by simp at this; exact this.symm)
  | swap e h =>
    rw [e] at q4
    have := app_inj q4
    exact h (by simp at this; exact this.1.symm)
  | count h h0 h1 => exact h q3
  | lastc h h0 h1 => exact h q5
theorem Chg.bad {a : Str} {key c c' : Int} {cs cs' : List Int} {s' : Int} (h : Chg c cs (sealZ key c cs) c' cs' s') (ho : EnOk a c cs (sealZ key c cs)) (k0 : 1 < key) (k1 : key < ZP) : isSe key (enD a c' cs' s') = false := by
  have hk := h.ok ho
  rw [hk.se]
  refine decide_eq_false fun q => ?_
  generalize hs : sealZ key c cs = s0 at *
  cases h with
  | cell e h h0 h1 =>
    subst e
    have a0 := ho.cl _ (List.mem_append_right _ List.mem_cons_self)
    exact h (seal_cell (by omega) k1 a0.1 a0.2 h0 h1 (hs.trans q))
  | swap e h =>
    subst e
    have a0 := ho.cl _ (List.mem_append_right _ List.mem_cons_self)
    have b0 := ho.cl _ (List.mem_append_right _ (List.mem_cons_of_mem _ List.mem_cons_self))
    exact h (seal_swap k0 k1 a0.1 a0.2 b0.1 b0.2 (hs.trans q))
  | count h h0 h1 =>
    have := ho.c1; have := ho.c2
    have z : ZP = 2147483647 := rfl
    exact h (seal_count (by omega) k1 (by omega) (by omega) (hs.trans q)).symm
  | lastc h h0 h1 => exact h (q.trans hs)
/-! ### bent values -/
def D.vk (L : Nat) : Nat → DL.D → Prop
  | _, .non => True
  | _, .bl _ => True
  | _, .int _ => True
  | _, .str s => s.length ≤ L ∧ PyData.strOk s = true
  | k + 1, .lst ds => ds.length ≤ L ∧ ∀ d ∈ ds, D.vk L k d
  | k + 1, .tup ds => ds.length ≤ L ∧ ∀ d ∈ ds, D.vk L k d
  | _, _ => False
theorem D.vk.mono {L M : Nat} (hL : L ≤ M) : ∀ {j k : Nat} {d : DL.D}, j ≤ k → DL.D.vk L j d → DL.D.vk M k d
  | j, k, .non, _, _ => by cases k <;> trivial
  | j, k, .bl _, _, _ => by cases k <;> trivial
  | j, k, .int _, _, _ => by cases k <;> trivial
  | j, k, .str _, _, h => by
    have h' : _ ≤ L ∧ _ := (by cases j <;> exact h)
    cases k <;> exact ⟨Nat.le_trans h'.1 hL, h'.2⟩
  | 0, k, .lst _, _, h => h.elim
  | 0, k, .tup _, _, h => h.elim
  | j, k, .dic _, _, h => by cases j <;> exact h.elim
  | j, k, .ins _ _, _, h => by cases j <;> exact h.elim
  | j + 1, 0, .lst ds, e, h => by omega
  | j + 1, 0, .tup ds, e, h => by omega
  | j + 1, k + 1, .lst ds, e, h => ⟨Nat.le_trans h.1 hL, fun d hd => D.vk.mono hL (Nat.le_of_succ_le_succ e) (h.2 d hd)⟩
  | j + 1, k + 1, .tup ds, e, h => ⟨Nat.le_trans h.1 hL, fun d hd => D.vk.mono hL (Nat.le_of_succ_le_succ e) (h.2 d hd)⟩
theorem D.vk.pl {L : Nat} (hL : L ≤ 100000) : ∀ {k : Nat} {d : DL.D}, DL.D.vk L k d → DL.D.pl k d
  | k, .non, _ => by cases k <;> trivial
  | k, .bl _, _ => by cases k <;> trivial
  | k, .int _, _ => by cases k <;> trivial
  | k, .str _, _ => by cases k <;> trivial
  | 0, .lst _, h => h.elim
  | 0, .tup _, h => h.elim
  | k, .dic _, h => by cases k <;> exact h.elim
  | k, .ins _ _, h => by cases k <;> exact h.elim
  | k + 1, .lst ds, h => ⟨Nat.le_trans h.1 hL, fun d hd => D.vk.pl hL (h.2 d hd)⟩
  | k + 1, .tup ds, h => ⟨Nat.le_trans h.1 hL, fun d hd => D.vk.pl hL (h.2 d hd)⟩
theorem lay_all : ∀ {ds : List DL.D}, (∀ d ∈ ds, PyData.canLay0 d.pd = true) → PyData.canLayAll0 (pdL ds) = true
  | [], _ => rfl
  | d :: ds, h => by simp [pdL, PyData.canLayAll0, h d List.mem_cons_self, lay_all fun x hx => h x (List.mem_cons_of_mem _ hx)]
theorem dep_all {m : Nat} : ∀ {ds : List DL.D}, (∀ d ∈ ds, PyData.depth d.pd ≤ m) → PyData.depthAll (pdL ds) ≤ m
  | [], _ => Nat.zero_le _
  | d :: ds, h => by
    simp only [pdL, PyData.depthAll]
    have := h d List.mem_cons_self
    have := dep_all fun x hx => h x (List.mem_cons_of_mem _ hx)
    omega
theorem D.vk.lay {L : Nat} : ∀ {k : Nat} {d : DL.D}, DL.D.vk L k d → PyData.canLay0 d.pd = true ∧ PyData.depth d.pd ≤ k + 1
  | k, .non, _ => ⟨rfl, by simp [DL.D.pd, PyData.depth]⟩
  | k, .bl _, _ => ⟨rfl, by simp [DL.D.pd, PyData.depth]⟩
  | k, .int _, _ => ⟨rfl, by simp [DL.D.pd, PyData.depth]⟩
  | k, .str _, h => by
    have h' : _ ≤ L ∧ _ := (by cases k <;> exact h)
    exact ⟨by simp [DL.D.pd, PyData.canLay0, h'.2], by simp [DL.D.pd, PyData.depth]⟩
  | 0, .lst _, h => h.elim
  | 0, .tup _, h => h.elim
  | k, .dic _, h => by cases k <;> exact h.elim
  | k, .ins _ _, h => by cases k <;> exact h.elim
  | k + 1, .lst ds, h => by
    refine ⟨by simp [DL.D.pd, PyData.canLay0, lay_all fun d hd => (D.vk.lay (h.2 d hd)).1], ?_⟩
    have := dep_all (m := k + 1) fun d hd => (D.vk.lay (h.2 d hd)).2
    simp only [DL.D.pd, PyData.depth]
    omega
  | k + 1, .tup ds, h => by
    refine ⟨by simp [DL.D.pd, PyData.canLay0, lay_all fun d hd => (D.vk.lay (h.2 d hd)).1], ?_⟩
    have := dep_all (m := k + 1) fun d hd => (D.vk.lay (h.2 d hd)).2
    simp only [DL.D.pd, PyData.depth]
    omega
theorem D.vk.shp {L k : Nat} {d : DL.D} (h : DL.D.vk L k d) (hk : k ≤ 60) : d.shp = true := by
  obtain ⟨h1, h2⟩ := h.lay
  show (PyData.canLay0 d.pd && decide (PyData.depth d.pd ≤ 64)) = true
  rw [h1, decide_eq_true (by omega)]; rfl
def kindD : DL.D → Nat
  | .non => 0
  | .bl _ => 1
  | .int _ => 2
  | .str _ => 3
  | .lst _ => 4
  | .tup _ => 5
  | .dic _ => 6
  | .ins _ _ => 7
/-- of another kind, or with a part of another kind -/
inductive Mis : DL.D → DL.D → Prop
  | here {x y : DL.D} (h : kindD x ≠ kindD y) : Mis x y
  | lst {ds : List DL.D} {i : Nat} {d e : DL.D} (h : ds[i]? = some d) (m : Mis d e) : Mis (.lst ds) (.lst (ds.set i e))
  | tup {ds : List DL.D} {i : Nat} {d e : DL.D} (h : ds[i]? = some d) (m : Mis d e) : Mis (.tup ds) (.tup (ds.set i e))
theorem Mis.str {s : Str} {y : DL.D} (h : Mis (.str s) y) : kindD y ≠ 3 := by cases h with | here h => exact fun q => h q.symm
theorem Mis.int {i : Int} {y : DL.D} (h : Mis (.int i) y) : kindD y ≠ 2 := by cases h with | here h => exact fun q => h q.symm
theorem isNm_kind {y : DL.D} (h : kindD y ≠ 3) : isNm y = false := by cases y <;> first | rfl | exact absurd rfl h
theorem isCe_kind {y : DL.D} (h : kindD y ≠ 2) : isCe y = false := by cases y <;> first | rfl | exact absurd rfl h
theorem Mis.cells {cs : List Int} {y : DL.D} (h : Mis (.tup (cs.map DL.D.int)) y) : kindD y ≠ 5 ∨ ∃ es, y = .tup es ∧ es.all isCe = false := by
  cases h with
  | here h => exact .inl fun q => h q.symm
  | tup h m =>
    rw [List.getElem?_map] at h
    obtain ⟨i, h1, rfl⟩ := Option.map_eq_some_iff.mp h
    refine .inr ⟨_, rfl, ?_⟩
    rw [List.all_eq_false]
    refine ⟨_, List.mem_of_getElem? (List.getElem?_set_self (by rw [List.length_map]; exact (List.getElem?_eq_some_iff.mp h1).1)), ?_⟩
    rw [isCe_kind m.int]; simp
theorem Mis.en {a : Str} {c : Int} {cs : List Int} {s : Int} {y : DL.D} (h : Mis (enD a c cs s) y) : isEn y = false := by
  cases h with
  | here h =>
    cases y <;> first | rfl | exact absurd rfl h
  | @tup _ i d e h m =>
    match i, h, m with
    | 0, h, m =>
      obtain rfl : DL.D.str a = d := by injection h
      show (isNm e && _ && _) = false
      rw [isNm_kind m.str]; rfl
    | 1, h, m =>
      obtain rfl : DL.D.int c = d := by injection h
      have := m.int
      show isEn (.tup [.str a, e, .tup (cs.map DL.D.int), .int s]) = false
      cases e <;> first | rfl | exact absurd rfl this
    | 2, h, m =>
      obtain rfl : DL.D.tup (cs.map DL.D.int) = d := by injection h
      show isEn (.tup [.str a, .int c, e, .int s]) = false
      rcases m.cells with q | ⟨es, rfl, q⟩
      · cases e <;> first | rfl | exact absurd rfl q
      · show (_ && (_ && es.all isCe)) = false
        rw [q]; simp
    | 3, h, m =>
      obtain rfl : DL.D.int s = d := by injection h
      show (_ && (isCe e && _)) = false
      rw [isCe_kind m.int]; simp
    | i + 4, h, m => simp at h
/-- what may be judged -/
structure JOk (x : DL.D) : Prop where
  pl : DL.D.plD 5 x
  nm : ∀ a r s, x = .tup (a :: r) → a = .str s → s.length ≤ 10000
/-! ### names that are drawn -/
/-- a stem: signs, a letter ahead -/
structure StemOk (l : List Nat) : Prop where
  all : ∀ z ∈ l, z ∈ ltrs ++ dgts
  hd : ∀ z, l[0]? = some z → z ∈ ltrs
theorem StemOk.nil : StemOk [] := ⟨(fun z h => by cases h), (fun z h => by cases h)⟩
theorem StemOk.snoc {l : List Nat} {z : Nat} (h : StemOk l) (hz : z ∈ ltrs ++ dgts) (h0 : l = [] → z ∈ ltrs) : StemOk (l ++ [z]) := by
  refine ⟨fun y hy => ?_, fun y hy => ?_⟩
  · rcases List.mem_append.mp hy with hy | hy
    · exact h.all y hy
    · rw [List.mem_singleton.mp hy]; exact hz
  · match l, h, h0 with
    | [], h, h0 =>
      have : z = y := by simpa using hy
      rw [← this]; exact h0 rfl
    | a :: l, h, h0 => exact h.hd y (by simpa using hy)
theorem StemOk.nm {l : List Nat} (h : StemOk l) (h1 : 1 ≤ l.length) (h8 : l.length ≤ 8) : nmOk l = true := by
  match l, h, h1 with
  | a :: l, h, h1 =>
    unfold nmOk
    rw [decide_eq_true h1, decide_eq_true h8]
    show (true && true && decide (a ∈ ltrs) && _) = true
    rw [decide_eq_true (h.hd a rfl)]
    exact List.all_eq_true.mpr fun z hz => decide_eq_true (h.all z hz)
theorem StemOk.take {l : List Nat} (h : StemOk l) (k : Nat) : StemOk (l.take k) := ⟨fun z hz => h.all z (List.mem_of_mem_take hz), fun z hz => by
  rw [List.getElem?_take] at hz
  split at hz
  · exact h.hd z hz
  · cases hz⟩
theorem StemOk.app {l m : List Nat} (h : StemOk l) (hm : ∀ z ∈ m, z ∈ ltrs ++ dgts) (h0 : l ≠ []) : StemOk (l ++ m) := by
  refine ⟨fun y hy => ?_, fun y hy => ?_⟩
  · rcases List.mem_append.mp hy with hy | hy
    · exact h.all y hy
    · exact hm y hy
  · match l, h, h0 with
    | [], h, h0 => exact absurd rfl h0
    | a :: l, h, h0 => exact h.hd y (by simpa using hy)
theorem nmOk_of {l : List Nat} (h : nmOk l = true) : 1 ≤ l.length ∧ l.length ≤ 8 ∧ (∀ z, l.head? = some z → z ∈ ltrs) ∧ ∀ z ∈ l, z ∈ ltrs ++ dgts := by
  unfold nmOk at h
  obtain ⟨h, h4⟩ := Bool.and_eq_true_iff.mp h
  obtain ⟨h, h3⟩ := Bool.and_eq_true_iff.mp h
  obtain ⟨h1, h2⟩ := Bool.and_eq_true_iff.mp h
  refine ⟨of_decide_eq_true h1, of_decide_eq_true h2, fun z hz => ?_, fun z hz => of_decide_eq_true (List.all_eq_true.mp h4 z hz)⟩
  rw [hz] at h3
  exact of_decide_eq_true h3
/-! ### promises of k47 -/
/-! ### no entries -/
theorem EnOk.len {a : Str} {c : Int} {cs : List Int} {s : Int} (h : EnOk a c cs s) : a.length ≤ 8 := by
  have := (nmOk_of (show nmOk (cL a) = true from h.nm)).2.1
  rw [cL_len] at this
  exact this
theorem JOk.bent {L : Nat} {y : DL.D} (h : DL.D.vk L 4 y) (hL : L ≤ 10000) : JOk y := ⟨((h.pl (by omega)).toD).mono (by decide), fun x r s e1 e2 => by
  subst e1 e2
  have := h.2 (.str s) List.mem_cons_self
  exact Nat.le_trans this.1 hL⟩
end DL

end
section
set_option Elab.async false
set_option linter.all false
set_option autoImplicit true
set_option maxRecDepth 100000
set_option maxHeartbeats 4000000
/-! tuple * int, one time too -/
namespace DL
open PySem PySem.Spec L2
open PyProof.Rows hiding St
section
variable {X : Cx} {n : Nm} {c : Cc} {Γ : SL} {a b : Expr} {pos : Pos}
end
end DL

end
section
set_option Elab.async false
set_option linter.all false
set_option autoImplicit true
set_option maxRecDepth 100000
set_option maxHeartbeats 1000000
/-! generators that sleep: a run that wakes none of them leaves them as they are -/
namespace DL
open PySem
/-- a sleeping generator that must not be woken -/
def poisS : GenState → GenState
  | .suspended _ l c p fs cl => .suspended (fun _ => .unsupported "") l c p fs cl
  | x => x
/-- frames without a generator's of P -/
def NoG (P : Nat → Prop) (fs : List Frame) : Prop := ∀ g k l c p, Frame.gen g k l c p ∈ fs → ¬ P g
theorem NoG.nil {P : Nat → Prop} : NoG P [] := fun g k l c p h => by cases h
theorem NoG.tail {P : Nat → Prop} {F : Frame} {fs : List Frame} (h : NoG P (F :: fs)) : NoG P fs := fun g k l c p hm => h g k l c p (List.mem_cons_of_mem _ hm)
theorem NoG.app {P : Nat → Prop} {fs gs : List Frame} (h : NoG P fs) (h' : NoG P gs) : NoG P (fs ++ gs) := fun g k l c p hm => by
  rcases List.mem_append.mp hm with hm | hm
  · exact h g k l c p hm
  · exact h' g k l c p hm
theorem NoG.ret {P : Nat → Prop} {k h g l c p kp} : NoG P [.ret k h g l c p kp] := fun g k l c p hm => by
  have := List.mem_singleton.mp hm
  cases this
/-- the two tables side by side: what P tells sleeps in both, poisoned in the second -/
structure RelG (P : Nat → Prop) (G0 G Gt : Array GenState) : Prop where
  sz : G.size = Gt.size
  pr : ∀ i, P i → ∃ k l c p fs cl, G0[i]? = some (.suspended k l c p fs cl) ∧ G[i]? = some (.suspended k l c p fs cl) ∧ Gt[i]? = some (.suspended (fun _ => .unsupported "") l c p fs cl)
  nx : ∀ i, ¬ P i → G[i]? = Gt[i]?
  fr : ∀ i k l c p fs cl, ¬ P i → Gt[i]? = some (.suspended k l c p fs cl) → NoG P fs
theorem RelG.push {P : Nat → Prop} {G0 G Gt : Array GenState} (h : RelG P G0 G Gt) (c : Code) : RelG P G0 (G.push (.fresh c)) (Gt.push (.fresh c)) := by
  refine ⟨by rw [Array.size_push, Array.size_push, h.sz], fun i hi => ?_, fun i hi => ?_, fun i k l c' p fs cl hi e => ?_⟩
  · obtain ⟨k, l, c', p, fs, cl, h1, h2, h3⟩ := h.pr i hi
    have l1 := (Array.getElem?_eq_some_iff.mp h2).1
    have l2 := (Array.getElem?_eq_some_iff.mp h3).1
    refine ⟨k, l, c', p, fs, cl, h1, ?_, ?_⟩
    · rw [Array.getElem?_push, if_neg (by omega)]; exact h2
    · rw [Array.getElem?_push, if_neg (by omega)]; exact h3
  · rw [Array.getElem?_push, Array.getElem?_push, h.sz, h.nx i hi]
  · rw [Array.getElem?_push] at e
    split at e
    · cases e
    · exact h.fr i k l c' p fs cl hi e
theorem RelG.set {P : Nat → Prop} {G0 G Gt : Array GenState} (h : RelG P G0 G Gt) {g : Nat} (hg : ¬ P g) {x : GenState} (hx : ∀ k l c p fs cl, x = .suspended k l c p fs cl → NoG P fs) : RelG P G0 (G.setIfInBounds g x) (Gt.setIfInBounds g x) := by
  refine ⟨by rw [Array.size_setIfInBounds, Array.size_setIfInBounds, h.sz], fun i hi => ?_, fun i hi => ?_, fun i k l c' p fs cl hi e => ?_⟩
  · have hne : g ≠ i := fun e => hg (by rw [e]; exact hi)
    rw [Array.getElem?_setIfInBounds_ne hne, Array.getElem?_setIfInBounds_ne hne]
    exact h.pr i hi
  · by_cases hne : g = i
    · subst hne
      rw [Array.getElem?_setIfInBounds_self, Array.getElem?_setIfInBounds_self, h.sz]
    · rw [Array.getElem?_setIfInBounds_ne hne, Array.getElem?_setIfInBounds_ne hne]
      exact h.nx i hi
  · by_cases hne : g = i
    · subst hne
      rw [Array.getElem?_setIfInBounds_self] at e
      split at e
      · exact hx k l c' p fs cl (by injection e)
      · cases e
    · rw [Array.getElem?_setIfInBounds_ne hne] at e
      exact h.fr i k l c' p fs cl hi e
theorem no_unsup {M : Model} {w : String} : ∀ {Γ : Ctx} {p : Pos} {t : Sem PySem.Fin} {fs : List Frame} {s : Shared} {e : End} {s' : Shared}, Runs M Γ p t fs s e s' → t = .unsupported w → False := by
  intro Γ p t fs s e s' h
  induction h with
  | segRet h1 h2 i1 i2 => exact i1
  | segGen h1 h2 i1 i2 => exact i1
  | segSuspOut h1 h2 i => exact i
  | segSuspGen h1 h2 h3 h4 i1 i2 => exact i1
  | _ => intro q; cases q
theorem split_no {P : Nat → Prop} : ∀ {fs pre rest : List Frame} {g k c p}, NoG P fs → splitAtGen fs = some (pre, (g, k, c, p), rest) → ¬ P g ∧ NoG P pre ∧ NoG P rest
  | [], _, _, _, _, _, _, _, h => by cases h
  | .gen g' k' l' c' p' :: fs, pre, rest, g, k, c, p, hF, h => by
    simp only [splitAtGen, Option.some.injEq, Prod.mk.injEq] at h
    obtain ⟨rfl, ⟨rfl, rfl, rfl, rfl⟩, rfl⟩ := h
    exact ⟨hF _ _ _ _ _ List.mem_cons_self, NoG.nil, hF.tail⟩
  | .ret k' h' g' l' c' p' kp' :: fs, pre, rest, g, k, c, p, hF, h => by
    simp only [splitAtGen] at h
    obtain ⟨⟨pre', x, rest'⟩, h1, h2⟩ := Option.map_eq_some_iff.mp h
    simp only [Prod.mk.injEq] at h2
    obtain ⟨rfl, rfl, rfl⟩ := h2
    obtain ⟨h3, h4, h5⟩ := split_no hF.tail h1
    exact ⟨h3, NoG.app (fs := [_]) NoG.ret h4, h5⟩
/-- what an end leaves -/
def NoE (P : Nat → Prop) (e : End) : Prop := ∀ v g l k c p fs, e = .susp v g l k c p fs → NoG P fs
theorem NoE.ret {P : Nat → Prop} {r : Result} : NoE P (.ret r) := fun _ _ _ _ _ _ _ h => by cases h
theorem NoE.st {P : Nat → Prop} {e : End} (h : NoE P e) : ∀ k l c p fs cl, e.genState = .suspended k l c p fs cl → NoG P fs := fun k l c p fs cl q => by
  cases e with
  | ret r => cases q
  | susp v g l' k' c' p' fs' =>
    have : fs' = fs := by injection q
    rw [← this]
    exact h _ _ _ _ _ _ _ rfl
theorem RelG.no {P : Nat → Prop} {G0 G Gt : Array GenState} (h : RelG P G0 G Gt) {g : Nat} {x : GenState} (hg : Gt[g]? = some x) (hx : ∀ l c p fs cl, x ≠ .suspended (fun _ => .unsupported "") l c p fs cl) : ¬ P g := fun hP => by
  obtain ⟨_, _, _, _, _, _, _, _, e2⟩ := h.pr g hP
  rw [hg] at e2
  exact hx _ _ _ _ _ (Option.some.inj e2)
theorem RelG.seen {P : Nat → Prop} {G0 G Gt : Array GenState} (h : RelG P G0 G Gt) {g : Nat} {x : GenState} (hg : Gt[g]? = some x) : ∃ y, G[g]? = some y ∧ y.seen = x.seen := by
  by_cases hP : P g
  · obtain ⟨k0, l, c, p', fs, cl, _, e1, e2⟩ := h.pr g hP
    rw [hg] at e2
    cases e2
    exact ⟨_, e1, rfl⟩
  · exact ⟨_, (h.nx g hP).trans hg, rfl⟩
theorem unpois {M : Model} {P : Nat → Prop} {G0 : Array GenState} {Γ : Ctx} {p : Pos} {t : Sem PySem.Fin} {fs : List Frame} {s : Shared} {e : End} {s' : Shared} (h : Runs M Γ p t fs s e s') :
    ∀ G, RelG P G0 G s.gens → NoG P fs → ∃ G', Runs M Γ p t fs { s with gens := G } e { s' with gens := G' } ∧ RelG P G0 G' s'.gens ∧ NoE P e := by
  induction h with
  | done => exact fun G hR _ => ⟨G, .done, hR, .ret⟩
  | raise => exact fun G hR _ => ⟨G, .raise, hR, .ret⟩
  | again hq _ ih => exact fun G hR hF => let ⟨G', h1, h2⟩ := ih G hR hF; ⟨G', .again hq h1, h2⟩
  | rule _ ih => exact fun G hR hF => let ⟨G', h1, h2⟩ := ih G hR hF; ⟨G', .rule h1, h2⟩
  | «at» _ ih => exact fun G hR hF => let ⟨G', h1, h2⟩ := ih G hR hF; ⟨G', .at h1, h2⟩
  | load ho _ ih => exact fun G hR hF => let ⟨G', h1, h2⟩ := ih G hR hF; ⟨G', .load ho h1, h2⟩
  | update ha _ ih => exact fun G hR hF => let ⟨G', h1, h2⟩ := ih G hR hF; ⟨G', .update ha h1, h2⟩
  | loadIfAlive _ ih => exact fun G hR hF => let ⟨G', h1, h2⟩ := ih G hR hF; ⟨G', .loadIfAlive h1, h2⟩
  | point _ ih => exact fun G hR hF => let ⟨G', h1, h2⟩ := ih G hR hF; ⟨G', .point h1, h2⟩
  | alloc _ ih => exact fun G hR hF => let ⟨G', h1, h2⟩ := ih G hR hF; ⟨G', .alloc h1, h2⟩
  | fresh _ ih => exact fun G hR hF => let ⟨G', h1, h2⟩ := ih G hR hF; ⟨G', .fresh h1, h2⟩
  | ask _ ih => exact fun G hR hF => let ⟨G', h1, h2⟩ := ih G hR hF; ⟨G', .ask h1, h2⟩
  | choose hn _ ih => exact fun G hR hF => let ⟨G', h1, h2⟩ := ih G hR hF; ⟨G', .choose hn h1, h2⟩
  | os _ ih => exact fun G hR hF => let ⟨G', h1, h2⟩ := ih G hR hF; ⟨G', .os h1, h2⟩
  | handled _ ih => exact fun G hR hF => let ⟨G', h1, h2⟩ := ih G hR hF; ⟨G', .handled h1, h2⟩
  | genState hg _ ih =>
    intro G hR hF
    obtain ⟨G', h1, h2⟩ := ih G hR hF
    obtain ⟨y, h3, h4⟩ := hR.seen hg
    exact ⟨G', .genState h3 (h4 ▸ h1), h2⟩
  | stack _ ih => exact fun G hR hF => let ⟨G', h1, h2⟩ := ih G hR hF; ⟨G', .stack h1, h2⟩
  | thread _ ih => exact fun G hR hF => let ⟨G', h1, h2⟩ := ih G hR hF; ⟨G', .thread h1, h2⟩
  | newGen _ ih =>
    intro G hR hF
    obtain ⟨G', h1, h2⟩ := ih (G.push _) (hR.push _) hF
    exact ⟨G', .newGen (by rw [← hR.sz] at h1; exact h1), h2⟩
  | call _ _ i1 i2 =>
    intro G hR hF
    obtain ⟨G1, h1, h2, _⟩ := i1 G hR .nil
    obtain ⟨G2, h3, h4⟩ := i2 G1 h2 hF
    exact ⟨G2, .call h1 h3, h4⟩
  | callSusp _ ih =>
    intro G hR hF
    obtain ⟨G1, h1, h2, h3⟩ := ih G hR .nil
    refine ⟨G1, .callSusp h1, h2, fun v g l k c p fs q => ?_⟩
    cases q
    exact (h3 _ _ _ _ _ _ _ rfl).app .ret
  | yield => exact fun G hR _ => ⟨G, .yield, hR, fun v g l k c p fs q => by cases q; exact .nil⟩
  | resumeFresh hg _ hq _ i1 i2 =>
    intro G hR hF
    have hP := hR.no hg (fun _ _ _ _ _ q => by cases q)
    obtain ⟨G1, h1, h2, h3⟩ := i1 _ (hR.set hP (x := .running) (fun _ _ _ _ _ _ q => by cases q)) .nil
    obtain ⟨G2, h4, h5⟩ := i2 _ (h2.set hP h3.st) hF
    exact ⟨G2, .resumeFresh ((hR.nx _ hP).trans hg) h1 hq h4, h5⟩
  | resumeSuspended hg hr hq _ i1 i2 =>
    intro G hR hF
    have hP := hR.no hg (fun _ _ _ _ _ q => by
      cases q
      exact no_unsup hr rfl)
    obtain ⟨G1, h1, h2, h3⟩ := i1 _ (hR.set hP (x := .running) (fun _ _ _ _ _ _ q => by cases q)) (hR.fr _ _ _ _ _ _ _ hP hg)
    obtain ⟨G2, h4, h5⟩ := i2 _ (h2.set hP h3.st) hF
    exact ⟨G2, .resumeSuspended ((hR.nx _ hP).trans hg) h1 hq h4, h5⟩
  | resumeJustStarted hg hv _ ih =>
    intro G hR hF
    have hP := hR.no hg (fun _ _ _ _ _ q => by cases q)
    obtain ⟨G1, h1, h2⟩ := ih G hR hF
    exact ⟨G1, .resumeJustStarted ((hR.nx _ hP).trans hg) hv h1, h2⟩
  | resumeThrowFresh hg _ ih =>
    intro G hR hF
    have hP := hR.no hg (fun _ _ _ _ _ q => by cases q)
    obtain ⟨G1, h1, h2⟩ := ih _ (hR.set hP (x := .finished) (fun _ _ _ _ _ _ q => by cases q)) hF
    exact ⟨G1, .resumeThrowFresh ((hR.nx _ hP).trans hg) h1, h2⟩
  | resumeRunning hg _ ih =>
    intro G hR hF
    have hP := hR.no hg (fun _ _ _ _ _ q => by cases q)
    obtain ⟨G1, h1, h2⟩ := ih G hR hF
    exact ⟨G1, .resumeRunning ((hR.nx _ hP).trans hg) h1, h2⟩
  | resumeFinished hg _ ih =>
    intro G hR hF
    have hP := hR.no hg (fun _ _ _ _ _ q => by cases q)
    obtain ⟨G1, h1, h2⟩ := ih G hR hF
    exact ⟨G1, .resumeFinished ((hR.nx _ hP).trans hg) h1, h2⟩
  | segRet _ _ i1 i2 =>
    intro G hR hF
    obtain ⟨G1, h1, h2, _⟩ := i1 G hR .nil
    obtain ⟨G2, h3, h4⟩ := i2 G1 h2 hF.tail
    exact ⟨G2, .segRet h1 h3, h4⟩
  | segGen _ _ i1 i2 =>
    intro G hR hF
    obtain ⟨G1, h1, h2, _⟩ := i1 G hR .nil
    obtain ⟨G2, h3, h4⟩ := i2 _ (h2.set (hF _ _ _ _ _ List.mem_cons_self) (fun _ _ _ _ _ _ q => by cases q)) hF.tail
    exact ⟨G2, .segGen h1 h3, h4⟩
  | segSuspOut hs _ ih =>
    intro G hR hF
    obtain ⟨G1, h1, h2, h3⟩ := ih G hR .nil
    refine ⟨G1, .segSuspOut hs h1, h2, fun v g l k c p fs q => ?_⟩
    cases q
    exact (h3 _ _ _ _ _ _ _ rfl).app hF
  | segSuspGen hs _ hq _ i1 i2 =>
    intro G hR hF
    obtain ⟨n1, n2, n3⟩ := split_no hF hs
    obtain ⟨G1, h1, h2, h3⟩ := i1 G hR .nil
    obtain ⟨G2, h4, h5⟩ := i2 _ (h2.set n1 (NoE.st (e := .susp _ _ _ _ _ _ _) (fun v g l k c p fs q => by
      cases q
      exact (h3 _ _ _ _ _ _ _ rfl).app n2))) n3
    exact ⟨G2, .segSuspGen hs h1 hq h4, h5⟩

theorem wakes_unpois {M : Model} {P : Nat → Prop} {G0 : Array GenState} {Γ : Ctx} {p : Pos} {g : Nat} {r : Resume} {s s' : Shared} {res : GenResult} (h : Wakes M Γ p g r s res s') {G : Array GenState} (hR : RelG P G0 G s.gens) :
    ∃ G', Wakes M Γ p g r { s with gens := G } res { s' with gens := G' } ∧ RelG P G0 G' s'.gens := by
  unfold Wakes at h
  cases hg : s.gens[g]? with
  | none => rw [hg] at h; exact h.elim
  | some x =>
    rw [hg] at h
    cases x with
    | fresh c =>
      have hP := hR.no hg (fun _ _ _ _ _ q => by cases q)
      have hg' : ({ s with gens := G } : Shared).gens[g]? = some (.fresh c) := (hR.nx _ hP).trans hg
      cases r with
      | send v =>
        by_cases hv : v = .none
        · subst hv
          obtain ⟨e₁, s₁, hr, hq, rfl, rfl⟩ := h
          obtain ⟨G1, h1, h2, h3⟩ := unpois hr _ (hR.set hP (x := .running) (fun _ _ _ _ _ _ q => by cases q)) .nil
          refine ⟨_, ?_, h2.set hP h3.st⟩
          unfold Wakes
          rw [hg']
          exact ⟨e₁, _, h1, hq, rfl, rfl⟩
        · have q : res = .justStarted ∧ s' = s := by cases v <;> first | exact absurd rfl hv | exact h
          obtain ⟨rfl, rfl⟩ := q
          refine ⟨G, ?_, hR⟩
          exact Sem.wakes_justStarted M Γ hg' hv
      | throw x =>
        obtain ⟨rfl, rfl⟩ := h
        refine ⟨_, ?_, hR.set hP (x := .finished) (fun _ _ _ _ _ _ q => by cases q)⟩
        unfold Wakes
        rw [hg']
        exact ⟨rfl, rfl⟩
    | suspended k l c p0 fs cl =>
      obtain ⟨e₁, s₁, hr, hq, rfl, rfl⟩ := h
      have hP := hR.no hg (fun _ _ _ _ _ q => by
        cases q
        exact no_unsup hr rfl)
      have hg' : ({ s with gens := G } : Shared).gens[g]? = some (.suspended k l c p0 fs cl) := (hR.nx _ hP).trans hg
      obtain ⟨G1, h1, h2, h3⟩ := unpois hr _ (hR.set hP (x := .running) (fun _ _ _ _ _ _ q => by cases q)) (hR.fr _ _ _ _ _ _ _ hP hg)
      refine ⟨_, ?_, h2.set hP h3.st⟩
      unfold Wakes
      rw [hg']
      exact ⟨e₁, _, h1, hq, rfl, rfl⟩
    | running =>
      obtain ⟨rfl, rfl⟩ := h
      have hP := hR.no hg (fun _ _ _ _ _ q => by cases q)
      have hg' : ({ s' with gens := G } : Shared).gens[g]? = some .running := (hR.nx _ hP).trans hg
      refine ⟨G, ?_, hR⟩
      unfold Wakes
      rw [hg']
      exact ⟨rfl, rfl⟩
    | finished =>
      obtain ⟨rfl, rfl⟩ := h
      have hP := hR.no hg (fun _ _ _ _ _ q => by cases q)
      have hg' : ({ s' with gens := G } : Shared).gens[g]? = some .finished := (hR.nx _ hP).trans hg
      refine ⟨G, ?_, hR⟩
      unfold Wakes
      rw [hg']
      exact ⟨rfl, rfl⟩
/-- an end that is told of the poisoned table -/
def GQ {α : Type} (P : Nat → Prop) (G0 : Array GenState) (Q : α → Shared → Prop) : α → Shared → Prop := fun a s' => ∃ Gt, RelG P G0 s'.gens Gt ∧ Q a { s' with gens := Gt }
theorem wp_unpois {α : Type} (M : Model) (Γ : Ctx) (P : Nat → Prop) (G0 : Array GenState) (t : Sem α) : ∀ (Q : α → Pos → Shared → Prop) (E : Value → Pos → Shared → Prop) (p : Pos) (s : Shared) (G : Array GenState), RelG P G0 G s.gens → Sem.wp M Γ t Q E p s →
    Sem.wp M Γ t (fun a p' s' => ∃ Gt, RelG P G0 s'.gens Gt ∧ Q a p' { s' with gens := Gt }) (fun e p' s' => ∃ Gt, RelG P G0 s'.gens Gt ∧ E e p' { s' with gens := Gt }) p { s with gens := G } := by
  induction t with
  | pure a => intro Q E p s G hR h; exact ⟨_, hR, h⟩
  | raise e => intro Q E p s G hR h; exact ⟨_, hR, h⟩
  | unsupported _ => intro Q E p s G _ h; exact h
  | finish _ => intro Q E p s G _ h; exact h
  | rule _ k ih => intro Q E p s G hR h; exact ih () Q E p s G hR h
  | «at» p' k ih => intro Q E p s G hR h; exact ih () Q E p' s G hR h
  | load a _ k ih => intro Q E p s G hR h; obtain ⟨o, ho, h⟩ := h; exact ⟨o, ho, ih o Q E p s G hR h⟩
  | update a _ f k ih => intro Q E p s G hR h; exact ⟨h.1, ih () Q E p { s with heap := s.heap.update a f } G hR h.2⟩
  | loadIfAlive a k ih => intro Q E p s G hR h; exact ih _ Q E p s G hR h
  | point _ k ih => intro Q E p s G hR h; exact ih () Q E p s G hR h
  | register _ _ => intro Q E p s G _ h; exact h
  | alloc o k ih => intro Q E p s G hR h; exact ih s.heap.objs.size Q E p { s with heap := s.heap.push o } G hR h
  | fresh k ih => intro Q E p s G hR h; exact ih s.toks Q E p { s with toks := s.toks + 1 } G hR h
  | ask k ih => intro Q E p s G hR h; exact ih _ Q E p s G hR h
  | choose src m k ih => intro Q E p s G hR h; exact ⟨h.1, ih _ Q E p { s with drawn := s.drawn.bump src } G hR h.2⟩
  | os q _ k ih => intro Q E p s G hR h; exact ih (Os.step s.os q).2 Q E p { s with os := (Os.step s.os q).1 } G hR h
  | call c hd _ _ k ih =>
    intro Q E p s G hR h
    obtain ⟨r, s', hr, h⟩ := h
    obtain ⟨G1, h1, h2, _⟩ := unpois hr G hR .nil
    exact ⟨r, _, h1, ih r Q E p s' G1 h2 h⟩
  | handled own k ih => intro Q E p s G hR h; exact ih _ Q E p s G hR h
  | genState g k ih =>
    intro Q E p s G hR h
    obtain ⟨st, hs, h⟩ := h
    obtain ⟨y, h3, h4⟩ := hR.seen hs
    exact ⟨y, h3, by rw [h4]; exact ih _ Q E p s G hR h⟩
  | newGen c k ih =>
    intro Q E p s G hR h
    have q := ih _ Q E p _ (G.push (.fresh c)) (hR.push c) h
    show Sem.wp M Γ (k G.size) _ _ p { s with gens := G.push (.fresh c) }
    rw [hR.sz]
    exact q
  | resume g r _ k ih =>
    intro Q E p s G hR h
    obtain ⟨res, s', hw, h⟩ := h
    obtain ⟨G1, h1, h2⟩ := wakes_unpois hw hR
    exact ⟨res, _, h1, ih res Q E p s' G1 h2 h⟩
  | yield _ _ _ _ => intro Q E p s G _ h; exact h
  | stack k ih => intro Q E p s G hR h; exact ih _ Q E p s G hR h
  | fork _ _ => intro Q E p s G _ h; exact h
  | thread k ih => intro Q E p s G hR h; exact ih _ Q E p s G hR h
  | await _ _ _ _ _ => intro Q E p s G _ h; exact h
theorem wpAny_unpois {α : Type} {M : Model} {A : Around} {P : Nat → Prop} {G0 : Array GenState} {t : Sem α} {Q : α → Shared → Prop} {E : Value → Shared → Prop} {s : Shared} {G : Array GenState} (hR : RelG P G0 G s.gens)
    (h : wpAny M A t Q E s) : wpAny M A t (GQ P G0 Q) (GQ P G0 E) { s with gens := G } := fun Γ p hΓ => wp_unpois M Γ P G0 t _ _ p s G hR (h Γ p hΓ)
/-- those that sleep now -/
def Asleep (G : Array GenState) : Nat → Prop := fun i => ∃ k l c p fs cl, G[i]? = some (.suspended k l c p fs cl)
theorem RelG.init (G : Array GenState) : RelG (Asleep G) G G (G.map poisS) := by
  refine ⟨by rw [Array.size_map], fun i hi => ?_, fun i hi => ?_, fun i k l c p fs cl hi e => ?_⟩
  · obtain ⟨k, l, c, p, fs, cl, e⟩ := hi
    exact ⟨k, l, c, p, fs, cl, e, e, by rw [Array.getElem?_map, e]; rfl⟩
  · rw [Array.getElem?_map]
    cases e : G[i]? with
    | none => rfl
    | some x =>
      cases x with
      | suspended k l c p fs cl => exact absurd ⟨k, l, c, p, fs, cl, e⟩ hi
      | _ => rfl
  · rw [Array.getElem?_map] at e
    cases e1 : G[i]? with
    | none => rw [e1] at e; cases e
    | some x =>
      rw [e1] at e
      cases x with
      | suspended k' l' c' p' fs' cl' => exact absurd ⟨_, _, _, _, _, _, e1⟩ hi
      | fresh => cases e
      | running => cases e
      | finished => cases e
theorem poisS_bare (x : GenState) : (poisS x).bare = x.bare := by cases x <;> rfl
theorem allBare_pois {G : Array GenState} (h : PyProof.Rows.AllBare G) : PyProof.Rows.AllBare (G.map poisS) := fun y hy => by
  obtain ⟨x, hx, rfl⟩ := Array.mem_map.mp hy
  rw [poisS_bare]
  exact h x hx
theorem RelG.bare {P : Nat → Prop} {G0 G Gt : Array GenState} (h : RelG P G0 G Gt) (hb : PyProof.Rows.AllBare Gt) : PyProof.Rows.AllBare G := fun y hy => by
  obtain ⟨i, hi, e⟩ := Array.mem_iff_getElem.mp hy
  have e' : G[i]? = some y := by rw [Array.getElem?_eq_getElem hi, e]
  by_cases hP : P i
  · obtain ⟨k, l, c, p, fs, cl, _, h2, h3⟩ := h.pr i hP
    rw [e'] at h2; cases h2
    have q := hb _ (Array.mem_of_getElem? h3)
    exact q
  · rw [h.nx i hP] at e'
    exact hb _ (Array.mem_of_getElem? e')
/-- THE FRAME: what holds of a run over the poisoned table holds of the run itself, and those that slept sleep on as they did -/
theorem wpAny_asleep {α : Type} {M : Model} {A : Around} {t : Sem α} {Q : α → Shared → Prop} {E : Value → Shared → Prop} {s : Shared}
    (h : wpAny M A t Q E { s with gens := s.gens.map poisS }) : wpAny M A t (GQ (Asleep s.gens) s.gens Q) (GQ (Asleep s.gens) s.gens E) s :=
  wpAny_unpois (s := { s with gens := s.gens.map poisS }) (G := s.gens) (RelG.init s.gens) h
end DL

end
section
set_option Elab.async false
set_option linter.all false
set_option autoImplicit true
set_option maxRecDepth 100000
set_option maxHeartbeats 1000000
/-! a generator's code to its next yield (one step at a time; the kit's Seg holds one protocol through all steps) -/
namespace DL
open PySem PySem.Spec PyProof.Rows GenW L2
open Sem (wp)
/-- the code t runs to a yield, or to its end -/
def Gst (M : Model) (A : Around) (Φ : End → Shared → Prop) (c : Code) (t : Sem PySem.Fin) (fs : List Frame) (s : Shared) : Prop :=
  ∀ Γ p, Γ.code = c → Γ.Woken A → ∃ e s', Runs M Γ p t fs s e s' ∧ Φ e s'
theorem Gst.mono {M : Model} {A : Around} {Φ Φ' : End → Shared → Prop} {c : Code} {t : Sem PySem.Fin} {fs : List Frame} {s : Shared} (h : Gst M A Φ c t fs s) (k : ∀ e s, Φ e s → Φ' e s) : Gst M A Φ' c t fs s := fun Γ p hc hΓ =>
  let ⟨e, s', h1, h2⟩ := h Γ p hc hΓ; ⟨e, s', h1, k e s' h2⟩
section
variable {M : Model} {A : Around} {Φ : End → Shared → Prop} {c : Code} {fs : List Frame} {s : Shared}
theorem gst_wrap {α : Type} {m : Sem α} {K : α → Sem PySem.Fin} {H : Value → Sem PySem.Fin} {gd lv}
    (h : wpAny M (A.over c fs) m (fun a s' => Gst M A Φ c (K a) fs s') (fun x s' => Gst M A Φ c (H x) fs s') s) : Gst M A Φ c (m.wrap K H gd lv) fs s := by
  rintro Γ p rfl hΓ
  exact runs_wrap_of_wp K H gd lv m (h (Γ.over fs) p (hΓ.over fs)) (fun a p' s' h' => h' Γ p' rfl hΓ) (fun x p' s' h' => h' Γ p' rfl hΓ)
theorem gst_bind_wrap {α β : Type} {m : Sem α} {K : α → Sem β} {K' : β → Sem PySem.Fin} {H' : Value → Sem PySem.Fin} {gd lv}
    (h : wpAny M (A.over c fs) m (fun a s' => Gst M A Φ c ((K a).wrap K' H' gd lv) fs s') (fun x s' => Gst M A Φ c (H' x) fs s') s) : Gst M A Φ c ((m >>= K).wrap K' H' gd lv) fs s := by
  rw [Sem.bind_eq_wrap', Sem.wrap_wrap]; exact gst_wrap h
theorem gst_at {p' : Pos} {k : Unit → Sem PySem.Fin} (h : Gst M A Φ c (k ()) fs s) : Gst M A Φ c (.at p' k) fs s :=
  gst_wrap (m := standAt p') (K := k) (H := .raise) (gd := id) (lv := id) (wpAny_standAt h)
theorem gst_point {l : List Value} {k : Unit → Sem PySem.Fin} (h : Gst M A Φ c (k ()) fs s) : Gst M A Φ c (.point l k) fs s :=
  gst_wrap (m := point) (K := k) (H := .raise) (gd := id) (lv := fun _ => l) (wpAny_point h)
theorem gst_call {c' : Code} {h g l} {k : Result → Sem PySem.Fin} (hc : ∀ p, Gst M A Φ c' (M.den c') (.ret k h g l c p [] :: fs) s) : Gst M A Φ c (.call c' h g l k) fs s := by
  rintro Γ p rfl hΓ
  obtain ⟨e, s', hr, he⟩ := hc p (Γ.goto c') p rfl (hΓ.goto c')
  exact ⟨e, s', runs_call_seg hr, he⟩
theorem gst_leaf {k h g l c₁ p₁ kp} (r : Result) (hk : Gst M A Φ c₁ (k r) fs s) : Gst M A Φ c (leafOf r) (.ret k h g l c₁ p₁ kp :: fs) s := by
  rintro Γ p rfl hΓ
  obtain ⟨e, s', hr, he⟩ := hk (Γ.goto c₁) p₁ rfl (hΓ.goto c₁)
  exact ⟨e, s', Runs.pop r hr, he⟩
theorem gst_again {c' : Code} (hq : c'.quiet = true) (hc : Gst M A Φ c' (M.den c') fs s) : Gst M A Φ c (.pure (.again c')) fs s := by
  rintro Γ p rfl hΓ
  obtain ⟨e, s', hr, he⟩ := hc (Γ.goto c') p rfl (hΓ.goto c')
  exact ⟨e, s', Runs.head (c₁ := c') (fun _ _ x => .again hq x) hr, he⟩
theorem gst_end (r : Result) (h : Φ (.ret r) s) : Gst M A Φ c (leafOf r) [] s := by
  rintro Γ p rfl _
  exact ⟨.ret r, s, Runs.leaf r, h⟩
/-- it yields: the rest is woken later -/
theorem gst_yield {v : Value} {l : List Value} {k : Resume → Sem PySem.Fin} (hfs : splitAtGen fs = none) (h : ∀ p, Φ (.susp v false l k c p fs) s) : Gst M A Φ c (.yield v false l k) fs s := by
  rintro Γ p rfl _
  exact ⟨_, s, Runs.yield' fs hfs, h p⟩
variable {env : Env} {K : Flow → Sem PySem.Fin} {H : Value → Sem PySem.Fin} {gd : Bool → Bool} {lv : List Value → List Value}
theorem gst_execs_nil (h : Gst M A Φ c (K .next) fs s) : Gst M A Φ c ((execs [] env).wrap K H gd lv) fs s := h
/-- behind one statement the others -/
def seqK (rest : List Stmt) (env : Env) (K : Flow → Sem PySem.Fin) (H : Value → Sem PySem.Fin) (gd : Bool → Bool) (lv : List Value → List Value) : Flow → Sem PySem.Fin
  | .next => (execs rest env).wrap K H gd lv
  | f => K f
theorem gst_execs_cons {st : Stmt} {rest : List Stmt} (h : Gst M A Φ c ((exec st env).wrap (seqK rest env K H gd lv) H gd lv) fs s) :
    Gst M A Φ c ((execs (st :: rest) env).wrap K H gd lv) fs s := by
  rw [execs_cons, Sem.bind_eq_wrap', Sem.wrap_wrap]
  have q := Sem.wrap_congr (exec st env) gd lv (K := fun a => ((match a with | .next => execs rest env | f => pure f) : Sem Flow).wrap K H gd lv) (K' := seqK rest env K H gd lv) (H := fun e => (Sem.raise e : Sem Flow).wrap K H gd lv) (H' := H) (fun f => by cases f <;> rfl) (fun _ => rfl)
  refine Eq.mp (congrArg (fun t => Gst M A Φ c t fs s) q.symm) h
/-- the resumed yield goes on -/
theorem gst_Expr_Yield {e : Expr} {ypos pos : Pos} (hfs : splitAtGen fs = none) (hgd : gd false = false)
    (h : wpAny M (A.over c fs) (eval e env) (fun v s' => ∀ l p (k : Resume → Sem PySem.Fin), (∀ (Φ' : End → Shared → Prop) s'', Gst M A Φ' c (K .next) fs s'' → Gst M A Φ' c (k (.send .none)) fs s'') → Φ (.susp v false l k c p fs) s')
      (fun _ _ => False) s) (hco : env.scope.isCoroutine = false := by rfl) (hi : interactive env = false := by rfl) :
    Gst M A Φ c ((exec (.Expr (.Yield (some e) ypos) pos) env).wrap K H gd lv) fs s := by
  rw [exec_Expr env _ pos hi rfl]
  show Gst M A Φ c (.at pos fun _ => ((eval e env >>= fun v => (standAt ypos >>= fun _ => yieldOut env v)) >>= fun x => dropValue (.Yield (some e) ypos) pos x).wrap K H gd lv) fs s
  have hy : ∀ v, yieldOut env v = yieldValue v := fun v => by simp only [yieldOut, hco, Bool.false_eq_true, if_false]
  simp only [hy]
  refine gst_at ?_
  rw [Sem.bind_eq_wrap', Sem.bind_eq_wrap', Sem.wrap_wrap, Sem.wrap_wrap]
  refine gst_wrap (wpAny_mono h (fun v s' h' => ?_) fun _ _ x => x.elim)
  refine gst_at ?_
  have q : ∀ (l : List Value) (k : Resume → Sem PySem.Fin), (∀ (Φ' : End → Shared → Prop) s'', Gst M A Φ' c (K .next) fs s'' → Gst M A Φ' c (k (.send .none)) fs s'') → Gst M A Φ c (.yield v (gd false) l k) fs s' := fun l k hk => by
    rw [hgd]
    exact gst_yield hfs fun p => h' l p k hk
  exact q _ _ fun Φ' s'' hx => hx
/-- where a loop's code comes back to -/
def backK (env : Env) (K : Flow → Sem PySem.Fin) (J : Value → Sem PySem.Fin) (gd : Bool → Bool) (lv : List Value → List Value) : Result → Sem PySem.Fin :=
  fun r => ((match r with | .ok f => (.pure f : Sem Flow) | .error e => .raise e).onRaise (cameBack env)).wrap K J gd lv
end
section
variable {prog : Program} {w : World} {A : Around} {Φ : End → Shared → Prop} {c : Code} {fs : List Frame} {s : Shared} {env : Env} {K : Flow → Sem PySem.Fin} {J : Value → Sem PySem.Fin} {gd : Bool → Bool} {lv : List Value → List Value}
theorem gst_For {target iter : Expr} {body : List Stmt} {pos : Pos}
    (h : wpAny (model prog w) (A.over c fs) (eval iter env) (fun x s₁ => wpAny (model prog w) (A.over c fs) (pyIter x) (fun it s₂ => ∀ p,
      Gst (model prog w) A Φ (.forLoop target it body [] env) ((model prog w).den (.forLoop target it body [] env)) (.ret (backK env K J gd lv) none (gd false) (lv []) c p [] :: fs) s₂) (fun _ _ => False) s₁) (fun _ _ => False) s)
    (hs : ∀ x, foldedSetIterable iter env x = pure x := by intro _; rfl) :
    Gst (model prog w) A Φ c ((exec (.For target iter body [] pos) env).wrap K J gd lv) fs s := by
  rw [exec_For]
  refine gst_bind_wrap (wpAny_standAt ?_)
  refine gst_bind_wrap (wpAny_mono h (fun x s₁ h₁ => ?_) fun _ _ z => z.elim)
  refine gst_bind_wrap (wpAny_of_eq (hs x) ?_)
  refine gst_bind_wrap (wpAny_standAt ?_)
  refine gst_bind_wrap (wpAny_holding (wpAny_mono h₁ (fun it s₂ h₂ => ?_) fun _ _ z => z.elim))
  exact gst_call h₂
/-- what follows the body of a turn -/
def gturnK (target : Expr) (it : Value) (body : List Stmt) (env : Env) : Flow → Sem PySem.Fin
  | .next | .cont => .pure (.again (.forLoop target it body [] env))
  | .brk => .pure (.done .next)
  | .ret v => .pure (.done (.ret v))
def gturnJ (env : Env) : Value → Sem PySem.Fin := fun e => (do noteFrame e env; theTreesLotGoes e : Sem Unit).wrap (fun _ => .raise e) .raise id id
theorem gst_forLoop {target : Expr} {it : Value} {body : List Stmt} {k : Result → Sem PySem.Fin} {g : Bool} {l kp : List Value} {c0 : Code} {p0 : Pos}
    (h : wpAny (model prog w) (A.over (.forLoop target it body [] env) (.ret k none g l c0 p0 kp :: fs)) (pyNext it) (fun r s₁ => match r with
      | none => Gst (model prog w) A Φ c0 (k (.ok .next)) fs s₁
      | some v => wpAny (model prog w) (A.over (.forLoop target it body [] env) (.ret k none g l c0 p0 kp :: fs)) (letOwnedTupleGo target it v) (fun _ s₂ => wpAny (model prog w) (A.over (.forLoop target it body [] env) (.ret k none g l c0 p0 kp :: fs)) (assign target env v) (fun _ s₃ =>
          Gst (model prog w) A Φ (.forLoop target it body [] env) ((execs body env).wrap (gturnK target it body env) (gturnJ env) id id) (.ret k none g l c0 p0 kp :: fs) s₃) (fun _ _ => False) s₂) (fun _ _ => False) s₁) (fun _ _ => False) s) :
    Gst (model prog w) A Φ (.forLoop target it body [] env) ((model prog w).den (.forLoop target it body [] env)) (.ret k none g l c0 p0 kp :: fs) s := by
  show Gst _ A Φ _ ((forTurn target it body [] env).onRaise (fun x => do noteFrame x env; theTreesLotGoes x)) _ s
  rw [Sem.onRaise_eq_wrap]
  unfold forTurn
  refine gst_bind_wrap (wpAny_standAt ?_)
  refine gst_bind_wrap (wpAny_onRaise (wpAny_mono h (fun r s₁ h₁ => ?_) fun _ _ z => z.elim))
  cases r with
  | none => exact gst_again rfl (gst_leaf (.ok .next) h₁)
  | some v =>
    refine gst_bind_wrap (wpAny_mono h₁ (fun _ s₂ h₂ => ?_) fun _ _ z => z.elim)
    refine gst_bind_wrap (wpAny_mono h₂ (fun _ s₃ h₃ => ?_) fun _ _ z => z.elim)
    rw [Sem.bind_eq_wrap', Sem.wrap_wrap]
    rw [Sem.wrap_congr (execs body env) _ _ (K' := gturnK target it body env) (H' := gturnJ env) (fun f => by cases f <;> rfl) (fun e => by
      show ((do noteFrame e env; theTreesLotGoes e : Sem Unit).bind fun _ => .raise e) = _
      rw [Sem.bind_eq_wrap]; rfl)]
    exact h₃
theorem gst_func {body : List Stmt}
    (h : Gst (model prog w) A Φ (.func body env) ((execs body env).wrap (fun f => .pure (.done (.ret (match f with | .ret v => v | _ => .none)))) (fun e => (leaving env e).wrap (fun _ => .raise e) .raise id id) id id) fs s) :
    Gst (model prog w) A Φ (.func body env) ((model prog w).den (.func body env)) fs s := by
  show Gst _ A Φ _ (.point [] fun _ => ((execs body env).onRaise (leaving env)) >>= _) fs s
  refine gst_point ?_
  rw [Sem.onRaise_eq_wrap, Sem.bind_eq_wrap', Sem.wrap_wrap]
  rw [Sem.wrap_congr (execs body env) _ _ (K' := fun f => .pure (.done (.ret (match f with | .ret v => v | _ => .none))))
    (H' := fun e => (leaving env e).wrap (fun _ => .raise e) .raise id id) (fun f => by cases f <;> rfl)
    (fun e => by rw [Sem.bind_eq_wrap, Sem.wrap_wrap]; rfl)]
  exact h
end
/-! ### waking -/
/-- the generator's state, woken, runs to its next yield or its end -/
def GoesS (M : Model) (A : Around) (Φ : End → Shared → Prop) (gs : GenState) (s : Shared) : Prop :=
  match gs with
  | .fresh c => Gst M A Φ c (M.den c) [] s
  | .suspended k _ c _ fs _ => Gst M A Φ c (k (.send .none)) fs s
  | _ => False
theorem wpAny_resumeS {M : Model} {A : Around} {E : Value → Shared → Prop} {s : Shared} {g : Nat} {gs : GenState} {l : List Value} {α : Type} {k : GenResult → Sem α} {Q : α → Shared → Prop} (hg : s.gens[g]? = some gs)
    (hgo : GoesS M A (fun e s₁ => e.quiet = true ∧ wpAny M A (k e.result) Q E (s₁.setGen g e.genState)) gs (s.setGen g .running)) : wpAny M A (.resume g (.send .none) l k) Q E s := by
  intro Γ p hΓ
  rw [Sem.wp_resume]
  cases gs with
  | fresh c =>
    obtain ⟨e₁, s₁, hr, he⟩ := hgo (Γ.wake c p) p rfl (hΓ.wake c p)
    exact ⟨_, _, by unfold Wakes; rw [hg]; exact ⟨e₁, s₁, hr, he.1, rfl, rfl⟩, he.2 Γ p hΓ⟩
  | suspended k₀ l₀ c₀ p₀ fs₀ cl =>
    obtain ⟨e₁, s₁, hr, he⟩ := hgo (Γ.wake c₀ p) p₀ rfl (hΓ.wake c₀ p)
    exact ⟨_, _, by unfold Wakes; rw [hg]; exact ⟨e₁, s₁, hr, he.1, rfl, rfl⟩, he.2 Γ p hΓ⟩
  | running => exact hgo.elim
  | finished => exact hgo.elim
/-- next(g): an item, or its end; no exception leaves the generator -/
theorem next_S {P : Program} {w : World} {A : Around} {E : Value → Shared → Prop} {s : Shared} {a : Addr} {g : Nat} {gs : GenState} {Q : Option Value → Shared → Prop} (hh : A.handled = none)
    (hl : s.heap.NoLimit) (hroom : A.depth < recursionLimit) (hg : s.heap.IsGen a g) (hgs : s.gens[g]? = some gs)
    (hgo : GoesS (model P w) A.in1 (fun e s₁ => e.quiet = true ∧ match e with
      | .ret r => (r = .ok (.ret .none) ∨ r = .ok .next) ∧ ∀ h', (∀ b o, s₁.heap.get? b = some o → h'.get? b = some o) → Q none { s₁.setGen g .finished with heap := h' }
      | .susp v g₀ l₀ k₀ c₀ p₀ fs₀ => Q (some v) (s₁.setGen g (End.susp v g₀ l₀ k₀ c₀ p₀ fs₀).genState)) gs (s.setGen g .running)) :
    wpAny (model P w) A (pyNext (.ref a)) Q E s := by
  unfold pyNext
  refine wpAny_bind (wpAny_attempt (wpAny_callSpecial?_slot (name := Str.ofString "__next__") hg.typeIs slot_gen_next
    (wpAny_call_entry slot_gen_next hg.typeIs entry_gen_next ?_ (args_gen_next _))))
  show wpAny _ A.in1 (Builtin.Generator.genWake (.ref a) (.send .none)) _ _ s
  unfold Builtin.Generator.genWake
  refine wpAny_bind (wpAny_holding (wpAny_genNumber hg (wpAny_bind (wpAny_genState hgs ?_))))
  have goS : ∀ {β : Type} {Q' : β → Shared → Prop} {E' : Value → Shared → Prop} {k : GenResult → Sem β}, (∀ (e : End) (s₁ : Shared), (match e with
      | .ret r => (r = .ok (.ret .none) ∨ r = .ok .next) ∧ ∀ h', (∀ b o, s₁.heap.get? b = some o → h'.get? b = some o) → Q none { s₁.setGen g .finished with heap := h' }
      | .susp v g₀ l₀ k₀ c₀ p₀ fs₀ => Q (some v) (s₁.setGen g (End.susp v g₀ l₀ k₀ c₀ p₀ fs₀).genState)) → wpAny (model P w) A.in1 (k e.result) Q' E' (s₁.setGen g e.genState)) → wpAny (model P w) A.in1 (.resume g (.send .none) [] k) Q' E' s := fun {β Q' E' k} q => by
    refine wpAny_resumeS hgs ?_
    cases gs with
    | fresh c => exact hgo.mono fun e s₁ z => ⟨z.1, q e s₁ z.2⟩
    | suspended k₀ l₀ c₀ p₀ fs₀ cl => exact hgo.mono fun e s₁ z => ⟨z.1, q e s₁ z.2⟩
    | running => exact hgo.elim
    | finished => exact hgo.elim
  cases gs with
  | running => exact hgo.elim
  | finished => exact hgo.elim
  | _ =>
    refine wpAny_bind (wpAny_roomToWake hl hroom ?_)
    show wpAny _ A.in1 (.resume g (.send .none) [] _) _ _ s
    refine goS fun e s₁ hx => ?_
    cases e with
    | ret x =>
      obtain ⟨hr, hp⟩ := hx
      have hres : End.result (.ret x) = .returned .none := by
        rcases hr with hr | hr <;> rw [hr] <;> rfl
      first | rw [hres] | simp only [hres]
      show wpAny _ A.in1 (newExc (.type "StopIteration") [] >>= _) _ _ _
      refine wpAny_bind ?_
      simp only [newExc, newTuple]
      refine wpAny_bind (wpAny_newObj_type ?_ (by size_fits))
      refine wpAny_bind (m := firstArgMember _ _) (wpAny_of_eq (a := Value.none) (by first | rfl | (simp only [firstArgMember]; rfl)) ?_)
      refine wpAny_newObj_type ?_ (by size_fits)
      simp only [raiseNew]
      refine wpAny_bind (wpAny_bind (wpAny_handled ?_))
      first | rw [show A.in1.handled = none from hh] | rw [hh]
      refine wpAny_throw ?_
      refine wpAny_bind (wpAny_isInstance (T := "StopIteration") (b := true) ⟨_, Heap.get?_push_size _ rfl, rfl⟩ isSubtype_stop ?_)
      exact wpAny_pure (hp _ fun b o hb => Heap.get?_push_of_some _ (Heap.get?_push_of_some _ hb))
    | susp v g₀ l₀ k₀ c₀ p₀ fs₀ => exact wpAny_pure ⟨v, rfl, wpAny_pure hx⟩
end DL

end
section
set_option Elab.async false
set_option linter.all false
set_option autoImplicit true
set_option maxRecDepth 100000
set_option maxHeartbeats 1000000
/-! things that are held still: tracked as this very object, nothing else known of them; taken out of what is tracked, put in again -/
namespace DL
open PySem PySem.Spec PyProof.Rows GenW L2
/-- held still -/
def fxo (o : Obj) : HO := .frz o (.ext fun _ => True)
/-- all but what is held still -/
def Ey (R R' : Hp) : Prop := ∀ a o, (∀ u, o ≠ fxo u) → R a = some o → R' a = some o
theorem Ey.rd {R R' : Hp} (e : Ey R R') {a : Addr} {u : HO} (h1 : ∀ o, u ≠ fxo o) (h2 : u ≠ .ext fun _ => True) (h : Rd R a u) : Rd R' a u := by
  rcases h with h | ⟨o, h⟩
  · exact .inl (e a _ h1 h)
  · exact .inr ⟨o, e a _ (fun u' q => h2 (by unfold fxo at q; injection q)) h⟩
theorem Ey.l {K : PySem.W.Frag} {R R' : Hp} (e : Ey R R') {a : Addr} {xs : List V} (h : SqL K R a xs) : SqL K R' a xs := h.imp (e.rd (fun _ q => by cases q) (fun q => by cases q)) id
theorem Ey.t {K : PySem.W.Frag} {R R' : Hp} (e : Ey R R') {a : Addr} {xs : List V} (h : SqT K R a xs) : SqT K R' a xs := h.imp (e.rd (fun _ q => by cases q) (fun q => by cases q)) id
theorem Ey.u {R R' : Hp} {b : Addr} {u : HO} (e : Ey R R') : Ey (upd R b u) (upd R' b u) := fun a o n h => by
  by_cases z : a = b
  · subst z; rw [upd_same] at h ⊢; exact h
  · rw [upd_ne z] at h ⊢; exact e a o n h
section
variable {K : PySem.W.Frag} {R R' H H' : Hp}
mutual
theorem Rp.ey (e : Ey R R') : ∀ (d : D) (v : V), Rp K R d v → Rp K R' d v
  | .non, _, h => h
  | .bl _, _, h => h
  | .int _, _, h => h
  | .str _, _, h => h
  | .lst ds, _, ⟨a, vs, h1, h2, h3⟩ => ⟨a, vs, h1, e a _ (fun _ q => by cases q) h2, RpL.ey e ds vs h3⟩
  | .tup ds, _, ⟨a, vs, h1, h2, h3⟩ => ⟨a, vs, h1, e.t h2, RpL.ey e ds vs h3⟩
  | .dic kvs, _, ⟨a, ws, h1, h2, h3⟩ => ⟨a, ws, h1, e a _ (fun _ q => by cases q) h2, RpK.ey e kvs ws h3⟩
  | .ins nm fs, _, ⟨a, dx, ws, h1, h2, h3, h4⟩ => ⟨a, dx, ws, h1, e a _ (fun _ q => by cases q) h2, h3, FldOk.ey e h4⟩
theorem RpL.ey (e : Ey R R') : ∀ (ds : List D) (vs : List V), RpL K R ds vs → RpL K R' ds vs
  | [], _, h => h
  | d :: ds, _, ⟨v, ws, h1, h2, h3⟩ => ⟨v, ws, h1, Rp.ey e d v h2, RpL.ey e ds ws h3⟩
theorem RpK.ey (e : Ey R R') : ∀ (ds : List (Key × D)) (vs : List (Key × V)), RpK K R ds vs → RpK K R' ds vs
  | [], _, h => h
  | (_, d) :: ds, _, ⟨v, ws, h1, h2, h3⟩ => ⟨v, ws, h1, Rp.ey e d v h2, RpK.ey e ds ws h3⟩
theorem FldOk.ey (e : Ey R R') : ∀ {fs : List (Str × D)} {ws : List (Str × V)}, FldOk K R fs ws → FldOk K R' fs ws
  | [], _, h => h
  | (_, d) :: ds, _, ⟨v, ws, h1, h2, h3⟩ => ⟨v, ws, h1, Rp.ey e d v h2, FldOk.ey e h3⟩
end
theorem OBOk.ey {a : Addr} (e : Ey R R') (k : Ey H H') : ∀ {o : OB}, OBOk K R H a o → OBOk K R' H' a o
  | .lst _, ⟨vs, h1, h2⟩ => ⟨vs, k _ _ (fun _ q => by cases q) h1, RpL.ey e _ _ h2⟩
  | .sto, ⟨ns, p, g, st, l, n, h1, vs, h2, h3⟩ => ⟨ns, p, g, st, l, n, h1, vs, k _ _ (fun _ q => by cases q) h2, RpL.ey e _ _ h3⟩
  | .dic _, ⟨vs, h1, h2⟩ => ⟨vs, k _ _ (fun _ q => by cases q) h1, RpK.ey e _ _ h2⟩
  | .ins _ _, ⟨dx, ws, h1, h2, h3⟩ => ⟨dx, ws, k _ _ (fun _ q => by cases q) h1, h2, FldOk.ey e h3⟩
  | .lstA _ _, ⟨h0, vs, h1, h2⟩ => ⟨h0, vs, k _ _ (fun _ q => by cases q) h1, RpL.ey e _ _ h2⟩
  | .lstV _ _ _, ⟨h0, h1, h2⟩ => ⟨h0, k _ _ (fun _ q => by cases q) h1, RpL.ey e _ _ h2⟩
  | .dicA _ _, ⟨h0, vs, h1, h2⟩ => ⟨h0, vs, k _ _ (fun _ q => by cases q) h1, RpK.ey e _ _ h2⟩
theorem WOk.ey {M : Addr → Prop} {x : D} {v : V} (e : Ey R R') (k : Ey H H') : WOk K M R H x v → WOk K M R' H' x v
  | .inl h => .inl (Rp.ey e _ _ h)
  | .inr (.inl ⟨a, vs, ds, h1, h2, h3, h4, h5⟩) => .inr (.inl ⟨a, vs, ds, h1, h2, h3, k a _ (fun _ q => by cases q) h4, RpL.ey e _ _ h5⟩)
  | .inr (.inr (.inl ⟨a, vs, ds, h1, h2, h3, h4, h5⟩)) => .inr (.inr (.inl ⟨a, vs, ds, h1, h2, h3, k a _ (fun _ q => by cases q) h4, RpK.ey e _ _ h5⟩))
  | .inr (.inr (.inr ⟨a, dx, ws, nm, fs, h1, h2, h3, h4, h5, h6⟩)) => .inr (.inr (.inr ⟨a, dx, ws, nm, fs, h1, h2, h3, k a _ (fun _ q => by cases q) h4, h5, FldOk.ey e h6⟩))
theorem XfOk.ey {d : Option Addr} {fs : List (Str × D)} (e : Ey R R') : XfOk K R d fs → XfOk K R' d fs
  | .inl h => .inl h
  | .inr ⟨dd, vs, h1, h2, h3⟩ => .inr ⟨dd, vs, h1, e _ _ (fun _ q => by cases q) h2, FldOk.ey e h3⟩
theorem BxOk.ey {pre post : List D} {b : Addr} {v : V} (e : Ey R R') : BxOk K R pre b post v → BxOk K R' pre b post v
  | ⟨a, us, ws, h1, h2, h3, h4⟩ => ⟨a, us, ws, h1, e.t h2, RpL.ey e _ _ h3, RpL.ey e _ _ h4⟩
theorem SlotOk.ey {c : Cc} (e : Ey R R') (k : Ey H H') (un : ∀ a, H a ≠ none → R a = none → R' a = none) : ∀ {s : Slot} {o : Option V}, SlotOk K c R H s o → SlotOk K c R' H' s o
  | .no, _, h => h
  | .any, _, h => h
  | .d _, _, ⟨v, h1, h2⟩ => ⟨v, h1, Rp.ey e _ _ h2⟩
  | .w _, _, ⟨v, h1, h2⟩ => ⟨v, h1, h2.ey e k⟩
  | .own ob, _, ⟨a, h1, h2, h3, h4⟩ => ⟨a, h1, h2.ey e k, un a h2.there h3, h4⟩
  | .sc ns, _, ⟨a, h1, h2⟩ => ⟨a, h1, e.l h2⟩
  | .ex _ _ _, _, ⟨h1, h2⟩ => ⟨h1, h2.ey e⟩
  | .bx _ _ _, _, ⟨v, h1, h2⟩ => ⟨v, h1, h2.ey e⟩
  | .tn _ _ _, _, ⟨v, h1, h2⟩ => ⟨v, h1, Rp.ey e.u _ _ h2⟩
  | .lk _, _, ⟨a, ws, od, h1, h2, h3, h4⟩ => ⟨a, ws, od, h1, h2, h3, RpK.ey e _ _ h4⟩
end
/-- without what stands at pv -/
def cutP (pv : List Addr) (H : Hp) : Hp := fun b => if b ∈ pv then none else H b
/-- what stands at pv is held still -/
def addP (pv : List Addr) (h : Heap) (H : Hp) : Hp := fun b => if b ∈ pv then (h.get? b).map fxo else H b
theorem cutP_in {pv : List Addr} {H : Hp} {b : Addr} (h : b ∈ pv) : cutP pv H b = none := if_pos h
theorem cutP_out {pv : List Addr} {H : Hp} {b : Addr} (h : b ∉ pv) : cutP pv H b = H b := if_neg h
theorem addP_out {pv : List Addr} {hp : Heap} {H : Hp} {b : Addr} (h : b ∉ pv) : addP pv hp H b = H b := if_neg h
theorem addP_in {pv : List Addr} {hp : Heap} {H : Hp} {b : Addr} {o : Obj} (h : b ∈ pv) (e : hp.get? b = some o) : addP pv hp H b = some (fxo o) := by
  unfold addP; rw [if_pos h, e]; rfl
/-- held still at pv -/
def Held (pv : List Addr) (H : Hp) : Prop := ∀ b ∈ pv, ∃ o, H b = some (fxo o)
theorem Held.ex {pv : List Addr} {H H' : Hp} (h : Held pv H) (e : Ex H H') : Held pv H' := fun b hb => let ⟨o, q⟩ := h b hb; ⟨o, e b _ q⟩
theorem Held.ey {pv : List Addr} {H : Hp} (h : Held pv H) : Ey H (cutP pv H) := fun a o n e => by
  by_cases z : a ∈ pv
  · obtain ⟨u, q⟩ := h a z
    rw [q] at e
    exact absurd (Option.some.inj e).symm (n u)
  · rw [cutP_out z]; exact e
section
variable {K : PySem.W.Frag} {c : Cc} {Γ : List Slot} {σ : L2.St} {R H : Hp} {pv : List Addr}
/-- what is held still is taken out: the slots do not mind -/
theorem SOk.cut (s : SOk K c Γ σ R H) (hp : Held pv R) (h0 : ∀ b ∈ pv, c.H0 b = none) (r0 : ∀ b ∈ pv, c.R0 b = none) : SOk K c Γ σ (cutP pv R) (cutP pv H) where
  rh := fun a o e => by
    by_cases z : a ∈ pv
    · rw [cutP_in z] at e; cases e
    · rw [cutP_out z] at e ⊢; exact s.rh a o e
  r0 := fun a o e => by
    by_cases z : a ∈ pv
    · rw [r0 a z] at e; cases e
    · rw [cutP_out z]; exact s.r0 a o e
  hm := fun a o n e => by
    by_cases z : a ∈ pv
    · rw [h0 a z] at e; cases e
    · rw [cutP_out z]; exact s.hm a o n e
  pr := fun a n => by
    by_cases z : a ∈ pv
    · exact absurd (h0 a z) n
    · rw [cutP_out z]; exact s.pr a n
  un := fun a n e => by
    by_cases z : a ∈ pv
    · exact cutP_in z
    · rw [cutP_out z]; exact s.un a n e
  len := s.len
  sl := fun i x e => let ⟨o, h1, h2⟩ := s.sl i x e; ⟨o, h1, h2.ey hp.ey (hp.ex s.rh).ey (fun a _ q => by
    by_cases z : a ∈ pv
    · exact cutP_in z
    · rw [cutP_out z]; exact q)⟩
  dj := s.dj
  oi := s.oi
/-- .. put in again -/
theorem grow_add {h : Heap} (rh : Ex R H) (hn : ∀ b ∈ pv, H b = none) : Grow R H (addP pv h R) (addP pv h H) where
  r := fun a o e => by
    have z : a ∉ pv := fun z => by have q := rh a o e; rw [hn a z] at q; cases q
    rw [addP_out z]; exact e
  h := fun a o e => by
    have z : a ∉ pv := fun z => by rw [hn a z] at e; cases e
    rw [addP_out z]; exact e
  rh := fun a o e => by
    by_cases z : a ∈ pv
    · unfold addP at e ⊢; rw [if_pos z] at e ⊢; exact e
    · rw [addP_out z] at e ⊢; exact rh a o e
  un := fun a n e => by
    have z : a ∉ pv := fun z => n (hn a z)
    rw [addP_out z]; exact e
end
/-! ### the heap behind it -/
section
variable {X : Cx} {pins : List (Addr × Obj)} {σ : L2.St} {H : Hp} {s : Shared} {pv : List Addr}
theorem hok_cut {P : Program} {w : World} {h : Heap} (x : HOk P w H h) (hp : Held pv H) : HOk P w (cutP pv H) h := fun a o e => by
  by_cases z : a ∈ pv
  · rw [cutP_in z] at e; cases e
  · rw [cutP_out z] at e
    exact (x a o e).stay (fun _ _ _ q => q) (fun b q => hp.ey b _ (fun _ q => by cases q) q) (fun b xs q => hp.ey b _ (fun _ q => by cases q) q)
theorem hok_add {P : Program} {w : World} {h : Heap} (x : HOk P w H h) (hn : ∀ b ∈ pv, H b = none) : HOk P w (addP pv h H) h := fun a o e => by
  by_cases z : a ∈ pv
  · unfold addP at e
    rw [if_pos z] at e
    cases q : h.get? a with
    | none => rw [q] at e; cases e
    | some u =>
      rw [q] at e
      cases e
      exact ⟨q, trivial, ⟨u, q⟩, fun _ _ _ _ => trivial⟩
  · rw [addP_out z] at e
    exact (x a o e).stay (fun _ _ _ q => q) (fun b q => by
      have z : b ∉ pv := fun z => by rw [hn b z] at q; cases q
      rw [addP_out z]; exact q) (fun b xs q => by
      have z : b ∉ pv := fun z => by rw [hn b z] at q; cases q
      rw [addP_out z]; exact q)
/-- none of pv belongs to the def that runs -/
structure Strange (X : Cx) (pins : List (Addr × Obj)) (b : Addr) : Prop where
  loc : b ≠ X.env.locals
  cell : ∀ x c, X.env.cells.lookup x = some c → c ≠ b
  fs : b ∉ X.fs
  old : X.s_0.heap.get? b = none
  ex : b ∉ X.ex
  pin : ∀ p ∈ X.pn ++ pins, p.1 ≠ b
  tup : ∀ xs, X.H_0 b ≠ some (.tup xs)
  frz : ∀ o u, X.H_0 b ≠ some (.frz o u)
  tbl : ∀ ps, X.H_0 b ≠ some (.tbl ps)
theorem Inv.cutP (I : Inv X pins σ H s) (hp : Held pv H) (hs : ∀ b ∈ pv, Strange X pins b) : Inv X pins σ (cutP pv H) s := by
  have nn : ∀ b, H b = none → DL.cutP pv H b = none := fun b e => by
    by_cases z : b ∈ pv
    · exact cutP_in z
    · rw [cutP_out z]; exact e
  have nv : ∀ b o, DL.cutP pv H b = some o → b ∉ pv := fun b o e z => by rw [cutP_in z] at e; cases e
  refine ⟨I.ok, I.os, I.bare, ⟨I.base.keep, I.base.slot, fun b o e n hx => nn b (I.base.free b o e n hx), I.base.there, fun b xs e => ?_, fun b o u e => ?_, fun b ps e => ?_⟩, I.loc, I.cell, nn _ I.free, fun x c e => nn _ (I.freeC x c e), fun p hp => ?_, hok_cut I.hok hp, I.len⟩
  · rw [cutP_out fun z => (hs b z).tup xs e]; exact I.base.tups b xs e
  · rw [cutP_out fun z => (hs b z).frz o u e]; exact I.base.frzs b o u e
  · rw [cutP_out fun z => (hs b z).tbl ps e]; exact I.base.tbls b ps e
  · obtain ⟨h1, h2, h3⟩ := I.pin p hp
    exact ⟨h1, nn _ h2, h3⟩
theorem Inv.addP (I : Inv X pins σ H s) (hn : ∀ b ∈ pv, H b = none) (hs : ∀ b ∈ pv, Strange X pins b) : Inv X pins σ (addP pv s.heap H) s := by
  have nn : ∀ b, b ∉ pv → H b = none → DL.addP pv s.heap H b = none := fun b z e => by rw [addP_out z]; exact e
  refine ⟨I.ok, I.os, I.bare, ⟨I.base.keep, I.base.slot, fun b o e n hx => nn b (fun z => ?_) (I.base.free b o e n hx), I.base.there, fun b xs e => ?_, fun b o u e => ?_, fun b ps e => ?_⟩, I.loc, I.cell, nn _ (fun z => (hs _ z).loc rfl) I.free, fun x c e => nn _ (fun z => (hs _ z).cell x c e rfl) (I.freeC x c e), fun p hp => ?_, hok_add I.hok hn, I.len⟩
  · rw [(hs b z).old] at e; cases e
  · rw [addP_out fun z => (hs b z).tup xs e]; exact I.base.tups b xs e
  · rw [addP_out fun z => (hs b z).frz o u e]; exact I.base.frzs b o u e
  · rw [addP_out fun z => (hs b z).tbl ps e]; exact I.base.tbls b ps e
  · obtain ⟨h1, h2, h3⟩ := I.pin p hp
    exact ⟨h1, nn _ (fun z => (hs _ z).pin p hp rfl) h2, h3⟩
/-- what does not stand in the heap, untracked, is strange -/
theorem strange_new (I : Inv X pins σ H s) {b : Addr} (e : s.heap.get? b = none) (hn : H b = none) (hx : b ∉ X.ex) : Strange X pins b where
  loc := fun z => by
    obtain ⟨m, ⟨o, _, _, ho, _⟩, _⟩ := I.loc
    rw [← z, e] at ho; cases ho
  cell := fun x c q z => by
    obtain ⟨v, o, ho, _⟩ := I.cell x c q
    rw [z, e] at ho; cases ho
  fs := fun z => by
    obtain ⟨_, o, ho, _⟩ := I.funs.mem z
    rw [e] at ho; cases ho
  old := by
    cases q : X.s_0.heap.get? b with
    | none => rfl
    | some o =>
      obtain ⟨o', q'⟩ := I.base.there b o q hx
      rw [e] at q'; cases q'
  ex := hx
  pin := fun p hp z => by
    have q := (I.pin p hp).1
    rw [z, e] at q; cases q
  tup := fun xs q => by
    have := I.base.tups b xs q
    rw [hn] at this; cases this
  frz := fun o u q => by
    have := I.base.frzs b o u q
    rw [hn] at this; cases this
  tbl := fun ps q => by
    obtain ⟨m, this⟩ := I.base.tbls b ps q
    rw [hn] at this; cases this
end
end DL

end
section
set_option Elab.async false
set_option linter.all false
set_option autoImplicit true
set_option maxRecDepth 100000
set_option maxHeartbeats 1000000
/-! a sleeping generator is woken in a state that has gone on: its context anew -/
namespace DL
open PySem PySem.Spec PyProof.Rows GenW L2
/-- the heap below L, without pv -/
def lowHeap (h : Heap) (L : Nat) (pv : List Addr) : Heap := PySem.W.hideAll { h with objs := h.objs.extract 0 L } pv
theorem low_size (h : Heap) (L : Nat) (pv : List Addr) : (lowHeap h L pv).objs.size = min L h.objs.size := by
  unfold lowHeap
  rw [PySem.W.hideAll_size]
  simp
theorem trunc_get {h : Heap} {L : Nat} {b : Addr} (hb : b < L) : ({ h with objs := h.objs.extract 0 L } : Heap).get? b = h.get? b := by
  unfold Heap.get?
  have e : (h.objs.extract 0 L)[b]? = h.objs[b]? := by
    rw [Array.getElem?_extract, Nat.sub_zero]
    by_cases h1 : b < h.objs.size
    · rw [if_pos (Nat.lt_min.mpr ⟨hb, h1⟩), Nat.zero_add]
    · rw [if_neg fun z => h1 (Nat.lt_min.mp (show b < min L h.objs.size from z)).2]
      exact (Array.getElem?_eq_none (Nat.le_of_not_lt h1)).symm
  rw [e]
theorem low_get {h : Heap} {L : Nat} {pv : List Addr} {b : Addr} {o : Obj} (e : h.get? b = some o) (hb : b < L) (hp : b ∉ pv) : (lowHeap h L pv).get? b = some o :=
  PySem.W.hideAll_get _ (by rw [trunc_get hb]; exact e) hp
theorem of_low {h : Heap} {L : Nat} {pv : List Addr} {b : Addr} {o : Obj} (e : (lowHeap h L pv).get? b = some o) : h.get? b = some o ∧ b < L ∧ b ∉ pv := by
  have l1 := Heap.lt_size e
  rw [low_size] at l1
  have hb : b < L := Nat.lt_of_lt_of_le l1 (Nat.min_le_left _ _)
  refine ⟨?_, hb, fun z => ?_⟩
  · have q := PySem.W.of_hideAll pv e
    rw [trunc_get hb] at q
    exact q
  · have q := PySem.W.hideAll_none (h := { h with objs := h.objs.extract 0 L }) pv z
    unfold lowHeap at e
    rw [q] at e; cases e
/-- what was made since, and is not tracked -/
def young (h : Heap) (L : Nat) (pv : List Addr) (H : Hp) : List Addr := (List.range h.objs.size).filter fun b => decide (L ≤ b) && !(pv.contains b) && (H b).isNone && (h.get? b).isSome
theorem mem_young {h : Heap} {L : Nat} {pv : List Addr} {H : Hp} {b : Addr} : b ∈ young h L pv H ↔ L ≤ b ∧ b ∉ pv ∧ H b = none ∧ ∃ o, h.get? b = some o := by
  unfold young
  rw [List.mem_filter]
  simp only [List.mem_range, Bool.and_eq_true, decide_eq_true_eq, Bool.not_eq_true', Option.isNone_iff_eq_none, Option.isSome_iff_exists, List.contains_eq_mem, decide_eq_false_iff_not]
  constructor
  · rintro ⟨_, ⟨⟨h1, h2⟩, h3⟩, h4⟩; exact ⟨h1, h2, h3, h4⟩
  · rintro ⟨h1, h2, h3, o, h4⟩; exact ⟨Heap.lt_size h4, ⟨⟨h1, h2⟩, h3⟩, o, h4⟩
theorem funs_keep {h h' base : Heap} : ∀ {l : List Env}, (∀ b ∈ frs l, ∀ o, h.get? b = some o → h'.get? b = some o) → h.FunFrames base l → h'.FunFrames base l
  | [], _, _ => trivial
  | env :: r, hs, ⟨hk, ⟨L, o, hf, hn, ho, hd⟩, hr⟩ => by
    have hL : L ∈ frs (env :: r) := by unfold frs; rw [List.filterMap_cons, hf]; exact List.mem_cons_self
    refine ⟨hk, ⟨L, o, hf, hn, hs L hL o ho, hd⟩, funs_keep (fun b hb o e => hs b ?_ o e) hr⟩
    unfold frs; rw [List.filterMap_cons, hf]; exact List.mem_cons_of_mem _ hb
/-- the same def's run, entered anew -/
def reX (X : Cx) (s0 : Shared) (H0 : Hp) : Cx := { X with s_0 := s0, H_0 := H0, pn := [] }
/-- the generator's own tracked things over the consumer's -/
def ownP (own : List Addr) (Hy H : Hp) : Hp := fun b => if b ∈ own then Hy b else H b
/-- how the consumer has gone on while the generator slept: its own things stand as they were, what it knew frozen is known -/
structure Gone (X0 : Cx) (pv : List Addr) (sy s : Shared) (H : Hp) : Prop where
  os : s.os = X0.s_0.os
  bare : AllBare s.gens
  kept : ∀ b ∈ pv, s.heap.get? b = sy.heap.get? b
  hok : HOk X0.prog X0.w H s.heap
  cut : ∀ b ∈ pv, H b = none
  base : ∀ b o, X0.base.get? b = some o → s.heap.get? b = some o ∧ H b = none
  funs : s.heap.FunFrames X0.base X0.outer
  fr : ∀ b ∈ X0.fs, H b = none
/-- of the generator's first context, and of what is its own -/
structure GenX (X0 : Cx) (pv own : List Addr) (ip : List (Addr × Obj)) : Prop where
  loc : X0.env.locals = X0.s_0.heap.objs.size
  ex : X0.ex = []
  pl : X0.env.locals ∈ pv
  pc : ∀ x c, X0.env.cells.lookup x = some c → c ∈ pv
  po : ∀ b ∈ own, b ∈ pv
  pi : ∀ p ∈ ip, p.1 ∈ pv
  nfs : ∀ b ∈ pv, b ∉ X0.fs
  nbs : ∀ b ∈ pv, X0.base.get? b = none
  cab : ∀ x c, X0.fn x = true → X0.env.cells.lookup x = some c → X0.s_0.heap.objs.size ≤ c
theorem gone_inv {X0 : Cx} {pv own : List Addr} {ip : List (Addr × Obj)} {σ : L2.St} {s0 sy s : Shared} {H0 Hy H : Hp} (ok0 : X0.Ok) (gx : GenX X0 pv own ip) (I : Inv (reX X0 s0 H0) ip σ Hy sy) (ho : ∀ b ∈ own, ∃ vs, Hy b = some (.lst vs)) (hn : ∀ b ∈ pv, b ∉ own → Hy b = none) (g : Gone X0 pv sy s H) :
    Inv (reX X0 { s with heap := lowHeap s.heap X0.env.locals pv } (addP (young s.heap X0.env.locals pv H) s.heap H)) ip σ (ownP own Hy (addP (young s.heap X0.env.locals pv H) s.heap H)) s := by
  have ny : ∀ b ∈ young s.heap X0.env.locals pv H, H b = none := fun b hb => (mem_young.mp hb).2.2.1
  have low : ∀ b, b < X0.env.locals → b ∉ young s.heap X0.env.locals pv H := fun b hb z => absurd (mem_young.mp z).1 (Nat.not_le_of_lt hb)
  have npy : ∀ b ∈ pv, b ∉ young s.heap X0.env.locals pv H := fun b hb z => (mem_young.mp z).2.1 hb
  have frlt : ∀ b ∈ X0.fs, b < X0.env.locals := fun b hb => by
    obtain ⟨_, o, h1, _⟩ := ok0.funs.mem hb
    rw [gx.loc]; exact Heap.lt_size h1
  have bslt : ∀ b o, X0.base.get? b = some o → b < X0.env.locals := fun b o e => by
    rw [gx.loc]; exact Nat.lt_of_lt_of_le (Heap.lt_size e) ok0.bsz
  have bspv : ∀ b o, X0.base.get? b = some o → b ∉ pv := fun b o e z => by rw [gx.nbs b z] at e; cases e
  have locK : ∀ b ∈ pv, ∀ o, sy.heap.get? b = some o → s.heap.get? b = some o := fun b hb o e => (g.kept b hb).trans e
  have szL : X0.env.locals < s.heap.objs.size := by
    obtain ⟨m, ⟨o, _, _, h1, _⟩, _⟩ := I.loc
    exact Heap.lt_size (locK _ gx.pl _ h1)
  have H1n : ∀ b, b ∉ young s.heap X0.env.locals pv H → H b = none → addP (young s.heap X0.env.locals pv H) s.heap H b = none := fun b h1 h2 => by rw [addP_out h1]; exact h2
  have ownN : ∀ b, b ∈ own → H b = none := fun b hb => g.cut b (gx.po b hb)
  have Hgx : Ex (addP (young s.heap X0.env.locals pv H) s.heap H) (ownP own Hy (addP (young s.heap X0.env.locals pv H) s.heap H)) := fun a o e => by
    unfold ownP
    by_cases z : a ∈ own
    · rw [H1n a (npy a (gx.po a z)) (ownN a z)] at e; cases e
    · rw [if_neg z]; exact e
  have pvN : ∀ b ∈ pv, b ∉ own → ownP own Hy (addP (young s.heap X0.env.locals pv H) s.heap H) b = none := fun b hb z => by
    unfold ownP
    rw [if_neg z]; exact H1n b (npy b hb) (g.cut b hb)
  have locN : X0.env.locals ∉ own := fun z => by
    obtain ⟨vs, q⟩ := ho _ z
    have q2 : Hy X0.env.locals = none := I.free
    rw [q] at q2; cases q2
  have cellN : ∀ x c, X0.env.cells.lookup x = some c → c ∉ own := fun x c e z => by
    obtain ⟨vs, q⟩ := ho _ z
    have q2 : Hy c = none := I.freeC x c e
    rw [q] at q2; cases q2
  refine ⟨⟨ok0.mod, ok0.kind, ok0.glob, ok0.blt, ?_, ok0.inj, ok0.has, fun x c h1 h2 => ?_, ok0.hd, ok0.frames, ok0.stk, ?_, fun b o e => ?_, ?_, ?_, ?_, ?_, fun b hb => ?_⟩, rfl, g.bare, ⟨fun b o e n hb hx => ?_, fun b o e n hb hx => ?_, fun b o e n hx => ?_, fun b o e hx => ?_, fun b xs e => Hgx b _ e, fun b o u e => Hgx b _ e, fun b ps e => ⟨#[], by rw [Hgx b _ e]; simp⟩⟩, ?_, fun x c e => ?_, ?_, fun x c e => ?_, fun p hp => ?_, ?_, I.len⟩
  · show (lowHeap s.heap X0.env.locals pv).objs.size ≤ X0.env.locals
    rw [low_size]; exact Nat.min_le_left _ _
  · show (lowHeap s.heap X0.env.locals pv).objs.size ≤ c
    rw [low_size]
    have := gx.cab x c h1 h2
    rw [← gx.loc] at this
    exact Nat.le_trans (Nat.min_le_left _ _) this
  · intro b hb
    have hb : b ∈ X0.ex := hb
    rw [gx.ex] at hb; cases hb
  · obtain ⟨h1, h2⟩ := g.base b o e
    exact ⟨low_get h1 (bslt b o e) (bspv b o e), H1n b (low b (bslt b o e)) h2⟩
  · show X0.base.objs.size ≤ (lowHeap s.heap X0.env.locals pv).objs.size
    rw [low_size]
    have := ok0.bsz
    rw [← gx.loc] at this
    exact Nat.le_min.mpr ⟨this, Nat.le_trans this (Nat.le_of_lt szL)⟩
  · intro b o e hb
    have hb : b ∈ X0.ex := hb
    rw [gx.ex] at hb; cases hb
  · intro b hb
    have hb : b ∈ X0.ex := hb
    rw [gx.ex] at hb; cases hb
  · exact funs_keep (fun b hb o e => low_get e (frlt b hb) fun z => gx.nfs b z hb) g.funs
  · exact H1n b (low b (frlt b hb)) (g.fr b hb)
  · exact (of_low e).1
  · exact ⟨o.slots, (of_low e).1⟩
  · have z : b ∉ own := fun z => (of_low e).2.2 (gx.po b z)
    unfold ownP
    rw [if_neg z]; exact n
  · exact ⟨o, (of_low e).1⟩
  · obtain ⟨m, ⟨o, es, ep, h1, h2⟩, hl⟩ := I.loc
    refine ⟨m, ⟨o, es, ep, locK _ gx.pl _ h1, h2⟩, fun i x v e1 e2 e3 => ?_⟩
    obtain ⟨u, r, l⟩ := hl i x v e1 e2 e3
    refine ⟨u, r, ?_⟩
    rcases l with l | ⟨k, c, e, o, z1, z2⟩
    · exact .inl l
    · exact .inr ⟨k, c, e, o, locK c (gx.pc x c e) _ z1, z2⟩
  · obtain ⟨v, o, z1, z2⟩ := I.cell x c e
    exact ⟨v, o, locK c (gx.pc x c e) _ z1, z2⟩
  · exact pvN _ gx.pl locN
  · exact pvN _ (gx.pc x c e) (cellN x c e)
  · obtain ⟨h1, h2, h3, h4, h5⟩ := I.pin p (by exact hp)
    have hp' : p.1 ∈ pv := gx.pi p (by simpa [reX] using hp)
    refine ⟨locK _ hp' _ h1, pvN _ hp' fun z => ?_, h3, h4, h5⟩
    obtain ⟨vs, q⟩ := ho _ z
    rw [q] at h2; cases h2
  · intro a o e
    unfold ownP at e
    by_cases z : a ∈ own
    · rw [if_pos z] at e
      obtain ⟨vs, q⟩ := ho a z
      rw [q] at e; cases e
      obtain ⟨l1, its, n, r, e1⟩ := I.hok a _ q
      exact ⟨l1, its, n, r, locK a (gx.po a z) _ e1⟩
    · rw [if_neg z] at e
      exact (hok_add g.hok ny a o e).stay (fun _ _ _ q => q) (fun b q => Hgx b _ q) fun b xs q => Hgx b _ q
end DL

end
section
set_option Elab.async false
set_option linter.all false
set_option autoImplicit true
set_option maxRecDepth 100000
set_option maxHeartbeats 1000000
/-! the slots of a generator that is woken; the consumer behind its turn -/
namespace DL
open PySem PySem.Spec PyProof.Rows GenW L2
/-- what a generator that sleeps may hold: data, own lists -/
def plainS : Slot → Bool
  | .no | .any | .d _ | .own (.lst _) => true
  | _ => false
def ownL : List Slot → L2.St → List Addr
  | .own _ :: Γ, some (.ref a) :: σ => a :: ownL Γ σ
  | _ :: Γ, _ :: σ => ownL Γ σ
  | _, _ => []
theorem mem_ownL : ∀ {Γ : List Slot} {σ : L2.St} {a : Addr}, a ∈ ownL Γ σ → ∃ (i : Nat) (ob : OB), Γ[i]? = some (Slot.own ob) ∧ σ[i]? = some (some (V.ref a))
  | [], _, _, h => by cases h
  | x :: Γ, [], _, h => by cases x <;> cases h
  | x :: Γ, o :: σ, a, h => by
    have nxt : a ∈ ownL Γ σ → ∃ (i : Nat) (ob : OB), (x :: Γ)[i]? = some (Slot.own ob) ∧ (o :: σ)[i]? = some (some (V.ref a)) := fun h =>
      let ⟨i, ob, h1, h2⟩ := mem_ownL h; ⟨i + 1, ob, h1, h2⟩
    unfold ownL at h
    split at h
    · rename_i y1 y2 y3 b y5 e1 e2
      cases e1; cases e2
      rcases List.mem_cons.mp h with h | h
      · subst h; exact ⟨0, _, rfl, rfl⟩
      · exact nxt h
    · rename_i e1 e2
      cases e1; cases e2
      exact nxt h
    · cases h
theorem ownL_mem : ∀ {Γ : List Slot} {σ : L2.St} {a : Addr} {i : Nat} {ob : OB}, Γ[i]? = some (.own ob) → σ[i]? = some (some (.ref a)) → a ∈ ownL Γ σ
  | [], _, _, i, _, h, _ => by simp at h
  | x :: Γ, [], _, i, _, _, h => by simp at h
  | x :: Γ, o :: σ, a, 0, ob, h1, h2 => by
    simp only [List.getElem?_cons_zero, Option.some.injEq] at h1 h2
    subst h1 h2
    exact List.mem_cons_self
  | x :: Γ, o :: σ, a, i + 1, ob, h1, h2 => by
    have q : a ∈ ownL Γ σ := ownL_mem (i := i) (by simpa using h1) (by simpa using h2)
    unfold ownL
    split
    · rename_i e1 e2
      cases e1; cases e2
      exact List.mem_cons_of_mem _ q
    · rename_i e1 e2
      cases e1; cases e2
      exact q
    · rename_i n1 n2
      exact absurd rfl (n2 x Γ o σ rfl)
/-- a context that starts at R, H and lends nothing -/
abbrev ccG (R H : Hp) : Cc := ⟨R, H, fun _ => False, [], fun _ _ _ => False⟩
theorem gone_sok {K : PySem.W.Frag} {c : Cc} {Γ : List Slot} {σ : L2.St} {Ry Hy R H : Hp} {pv ys : List Addr} {h : Heap} (s : SOk K c Γ σ Ry Hy) (hp : ∀ x ∈ Γ, plainS x = true) (e : Ey Ry R) (rh : Ex R H) (ny : ∀ b ∈ ys, H b = none) (npy : ∀ b ∈ pv, b ∉ ys) (cut : ∀ b ∈ pv, H b = none) (po : ∀ b ∈ ownL Γ σ, b ∈ pv) :
    SOk K (ccG (addP ys h R) (addP ys h H)) Γ σ (addP ys h R) (ownP (ownL Γ σ) Hy (addP ys h H)) := by
  have gr := grow_add (h := h) rh ny
  have cutR : ∀ b ∈ pv, R b = none := fun b hb => rh.back (cut b hb)
  have H0n : ∀ b ∈ pv, addP ys h H b = none := fun b hb => by rw [addP_out (npy b hb)]; exact cut b hb
  have R0n : ∀ b ∈ pv, addP ys h R b = none := fun b hb => by rw [addP_out (npy b hb)]; exact cutR b hb
  have Hgx : Ex (addP ys h H) (ownP (ownL Γ σ) Hy (addP ys h H)) := fun a o q => by
    unfold ownP
    by_cases z : a ∈ ownL Γ σ
    · rw [H0n a (po a z)] at q; cases q
    · rw [if_neg z]; exact q
  have er : Ey Ry (addP ys h R) := fun a o n q => gr.r a o (e a o n q)
  refine ⟨gr.rh.trans Hgx, Ex.refl _, fun a o _ q => Hgx a o q, fun a n => Hgx.ne n, fun a _ q => q, s.len, fun i x q => ?_, s.dj, fun p hp => by cases hp⟩
  obtain ⟨o, h1, h2⟩ := s.sl i x q
  refine ⟨o, h1, ?_⟩
  have pl := hp x (List.mem_of_getElem? q)
  cases x with
  | no => exact h2
  | any => trivial
  | d x => obtain ⟨v, z1, z2⟩ := h2; exact ⟨v, z1, Rp.ey er _ _ z2⟩
  | own ob =>
    cases ob with
    | lst ds =>
      obtain ⟨a, z1, ⟨vs, z2, z3⟩, z4, z5⟩ := h2
      subst z1
      have ha : a ∈ ownL Γ σ := ownL_mem q h1
      refine ⟨a, rfl, ⟨vs, ?_, RpL.ey er _ _ z3⟩, R0n a (po a ha), .inl (H0n a (po a ha))⟩
      unfold ownP
      rw [if_pos ha]; exact z2
    | _ => cases pl
  | _ => cases pl
/-- the turn of a generator, for its consumer: what stood below L and what is tracked stands as it did -/
structure Turned (P : Program) (w : World) (fs : List Addr) (L : Nat) (pv : List Addr) (H H' : Hp) (s s' : Shared) : Prop where
  os : s'.os = s.os
  bare : AllBare s'.gens
  keep : ∀ b o, s.heap.get? b = some o → b < L → b ∉ pv → H b = none → b ∉ fs → s'.heap.get? b = some o
  slot : ∀ b o, s.heap.get? b = some o → b < L → b ∉ pv → H b = none → b ∈ fs → ∃ sl, s'.heap.get? b = some { o with slots := sl }
  free : ∀ b o, s.heap.get? b = some o → b < L → b ∉ pv → H b = none → H' b = none
  there : ∀ b o, s.heap.get? b = some o → b < L → b ∉ pv → ∃ o', s'.heap.get? b = some o'
  young : ∀ b o, s.heap.get? b = some o → L ≤ b → b ∉ pv → H b = none → s'.heap.get? b = some o ∧ H' b = none
  hx : Ex H H'
  hok : HOk P w H' s'.heap
theorem turned_inv {X : Cx} {pins : List (Addr × Obj)} {σ : L2.St} {L : Nat} {pv : List Addr} {H H' : Hp} {s s' : Shared} (I : Inv X pins σ H s) (hs : ∀ b ∈ pv, Strange X pins b) (hL : X.s_0.heap.objs.size ≤ L) (t : Turned X.prog X.w (frs X.stack) L pv H H' s s') : Inv X pins σ H' s' := by
  have npv : ∀ b o, X.s_0.heap.get? b = some o → b ∉ pv := fun b o e z => by rw [(hs b z).old] at e; cases e
  have lt0 : ∀ b o, X.s_0.heap.get? b = some o → b < L := fun b o e => Nat.lt_of_lt_of_le (Heap.lt_size e) hL
  have any : ∀ b o, s.heap.get? b = some o → b ∉ pv → H b = none → H' b = none ∧ ∃ sl, s'.heap.get? b = some { o with slots := sl } := fun b o e n1 n2 => by
    by_cases hb : b < L
    · refine ⟨t.free b o e hb n1 n2, ?_⟩
      by_cases hf : b ∈ frs X.stack
      · exact t.slot b o e hb n1 n2 hf
      · exact ⟨o.slots, t.keep b o e hb n1 n2 hf⟩
    · obtain ⟨h1, h2⟩ := t.young b o e (Nat.le_of_not_lt hb) n1 n2
      exact ⟨h2, o.slots, h1⟩
  have nfr : ∀ b, b ≠ X.env.locals → b ∉ X.fs → b ∉ frs X.stack := fun b h1 h2 z => by
    rcases List.mem_cons.mp (I.stkSub b z) with z | z
    · exact h1 z
    · exact h2 z
  have ne0 : ∀ b o, X.s_0.heap.get? b = some o → b ≠ X.env.locals := fun b o e => Nat.ne_of_lt (Nat.lt_of_lt_of_le (Heap.lt_size e) I.ok.above)
  have locpv : X.env.locals ∉ pv := fun z => (hs _ z).loc rfl
  have cellpv : ∀ x c, X.env.cells.lookup x = some c → c ∉ pv := fun x c e z => (hs _ z).cell x c e rfl
  have cellK : ∀ x c, X.env.cells.lookup x = some c → ∀ v, s.heap.IsCell c v → s'.heap.IsCell c v := fun x c e v ⟨o, ho, hd⟩ => by
    obtain ⟨_, sl, q⟩ := any c o ho (cellpv x c e) (I.freeC x c e)
    exact ⟨_, q, hd⟩
  refine ⟨I.ok, t.os.trans I.os, t.bare, ⟨fun b o e n hb hx => ?_, fun b o e n hb hx => ?_, fun b o e n hx => ?_, fun b o e hx => ?_, fun b xs e => t.hx b _ (I.base.tups b xs e), fun b o u e => t.hx b _ (I.base.frzs b o u e), fun b ps e => ?_⟩, ?_, fun x c e => ?_, ?_, fun x c e => ?_, fun p hp => ?_, t.hok, I.len⟩
  · have q := I.base.keep b o e n hb hx
    exact t.keep b o q (lt0 b o e) (npv b o e) (I.base.free b o e n hx) (nfr b (ne0 b o e) hb)
  · obtain ⟨sl, q⟩ := I.base.slot b o e n hb hx
    obtain ⟨_, sl', q'⟩ := any b _ q (npv b o e) (I.base.free b o e n hx)
    exact ⟨sl', q'⟩
  · obtain ⟨o', q⟩ := I.base.there b o e hx
    exact t.free b o' q (lt0 b o e) (npv b o e) (I.base.free b o e n hx)
  · obtain ⟨o', q⟩ := I.base.there b o e hx
    exact t.there b o' q (lt0 b o e) (npv b o e)
  · obtain ⟨m, q⟩ := I.base.tbls b ps e
    exact ⟨m, t.hx b _ q⟩
  · obtain ⟨m, ⟨o, es, ep, ho, r⟩, hl⟩ := I.loc
    obtain ⟨_, sl, q⟩ := any _ o ho locpv I.free
    refine ⟨m, ⟨_, es, ep, q, r⟩, fun i x v e1 e2 e3 => ?_⟩
    obtain ⟨u, r, l⟩ := hl i x v e1 e2 e3
    refine ⟨u, r, ?_⟩
    rcases l with l | ⟨k, c, e, z⟩
    · exact .inl l
    · exact .inr ⟨k, c, e, cellK x c e _ z⟩
  · obtain ⟨v, z⟩ := I.cell x c e
    exact ⟨v, cellK x c e v z⟩
  · obtain ⟨m, ⟨o, es, ep, ho, r⟩, hl⟩ := I.loc
    exact (any _ o ho locpv I.free).1
  · obtain ⟨v, o, ho, hd⟩ := I.cell x c e
    exact (any c o ho (cellpv x c e) (I.freeC x c e)).1
  · obtain ⟨e, n, ne, nf, d⟩ := I.pin p hp
    have np : p.1 ∉ pv := fun z => (hs _ z).pin p hp rfl
    by_cases hb : p.1 < L
    · exact ⟨t.keep p.1 p.2 e hb np n (nfr _ ne nf), t.free p.1 p.2 e hb np n, ne, nf, d⟩
    · obtain ⟨h1, h2⟩ := t.young p.1 p.2 e (Nat.le_of_not_lt hb) np n
      exact ⟨h1, h2, ne, nf, d⟩
end DL

end
section
set_option Elab.async false
set_option linter.all false
set_option autoImplicit true
set_option maxRecDepth 100000
set_option maxHeartbeats 1000000
/-! a generator asleep: what it will hand out -/
namespace DL
open PySem PySem.Spec PyProof.Rows GenW L2
/-- the turn of a generator, all that its consumer wants to know of it: what is tracked has only grown, the generator's own things are strange -/
structure TurnG (X0 : Cx) (pv pv1 : List Addr) (R H R1 H1 : Hp) (s s1 : Shared) : Prop where
  t : Turned X0.prog X0.w X0.fs X0.env.locals pv H H1 s s1
  g : Grow R H R1 H1
  own : ∀ b ∈ pv1, (b ∈ pv ∨ s.heap.get? b = none) ∧ H1 b = none ∧ ∃ o, s1.heap.get? b = some o
/-- it is asleep: woken wherever its consumer has come to, it hands out ds, one by one, and ends -/
def GenOn (X0 : Cx) (A : Around) : List D → GenState → List Addr → Hp → Shared → Prop
  | [], gs, pv, Ry, sy => ∀ s R H, Gone X0 pv sy s H → Ex R H → Ey Ry R → GoesS (model X0.prog X0.w) A (fun e s1 => e.quiet = true ∧ match e with
      | .ret r => (r = .ok (.ret .none) ∨ r = .ok .next) ∧ ∃ R1 H1, TurnG X0 pv [] R H R1 H1 s s1
      | .susp .. => False) gs s
  | d :: ds, gs, pv, Ry, sy => ∀ s R H, Gone X0 pv sy s H → Ex R H → Ey Ry R → GoesS (model X0.prog X0.w) A (fun e s1 => e.quiet = true ∧ match e with
      | .ret _ => False
      | .susp v g l k c p fs => ∃ R1 H1 pv1 x, TurnG X0 pv pv1 R H R1 H1 s s1 ∧ RelV x v ∧ Rp X0.K R1 d x ∧ GenOn X0 A ds (End.susp v g l k c p fs).genState pv1 R1 s1) gs s
theorem objok_there {P : Program} {w : World} {H : Hp} {h : Heap} {a : Addr} {o : HO} (x : ObjOk P w H h a o) : ∃ u, h.get? a = some u := by
  cases o with
  | lst xs => obtain ⟨_, _, _, _, e⟩ := x; exact ⟨_, e⟩
  | tup xs => obtain ⟨_, _, _, p⟩ := x; obtain ⟨o, e, _⟩ := p; exact ⟨o, e⟩
  | dK kvs => obtain ⟨_, _, _, _, o, _, _, e, _⟩ := x; exact ⟨_, e⟩
  | dT kvs => obtain ⟨_, _, _, _, o, _, _, e, _⟩ := x; exact ⟨_, e⟩
  | set S n => obtain ⟨o, _, _, _, e, _⟩ := x; exact ⟨_, e⟩
  | ins C dx fs => obtain ⟨_, _, _, e, _⟩ := x; exact ⟨_, e⟩
  | own y => obtain ⟨_, e⟩ := x; exact ⟨_, e⟩
  | xd fs => obtain ⟨_, ⟨_, _, _, e, _⟩, _⟩ := x; exact ⟨_, e⟩
  | rng lo hi => obtain ⟨_, _, _, e⟩ := x; exact ⟨_, e⟩
  | frz ob u => obtain ⟨e, _⟩ := x; exact ⟨_, e⟩
  | tbl ps => exact ⟨_, (show h.get? a = some _ from x)⟩
  | met f y => exact ⟨_, (show h.get? a = some _ from x)⟩
  | ext φ => obtain ⟨_, ⟨_, e⟩, _⟩ := x; exact ⟨_, e⟩
/-- a wake: where the consumer stood -/
structure Wake where
  s : Shared
  R : Hp
  H : Hp
  pv : List Addr
def Wake.ys (W : Wake) (X0 : Cx) : List Addr := young W.s.heap X0.env.locals W.pv W.H
def Wake.X (W : Wake) (X0 : Cx) : Cx := reX X0 { W.s with heap := lowHeap W.s.heap X0.env.locals W.pv } (addP (W.ys X0) W.s.heap W.H)
def Wake.c (W : Wake) (X0 : Cx) : Cc := ccG (addP (W.ys X0) W.s.heap W.R) (addP (W.ys X0) W.s.heap W.H)
def cellsOf (X0 : Cx) : List Addr := X0.env.cells.filterMap fun p => X0.env.cells.lookup p.1
theorem of_cells {X0 : Cx} {b : Addr} (h : b ∈ cellsOf X0) : ∃ x, X0.env.cells.lookup x = some b := by
  obtain ⟨p, _, e⟩ := List.mem_filterMap.mp h
  exact ⟨_, e⟩
theorem cells_mem {X0 : Cx} {x : Str} {b : Addr} (h : X0.env.cells.lookup x = some b) : b ∈ cellsOf X0 :=
  List.mem_filterMap.mpr ⟨(x, b), PySem.mem_of_lookup h, h⟩
/-- the generator runs: since the wake W -/
structure Awake (X0 : Cx) (W : Wake) (ip : List (Addr × Obj)) (Γ : List Slot) (σ : L2.St) (R H : Hp) (s : Shared) : Prop where
  inv : Inv (W.X X0) ip σ H s
  sok : SOk X0.K (W.c X0) Γ σ R H
  rh : Ex W.R W.H
  cut : ∀ b ∈ W.pv, W.H b = none
  hok : HOk X0.prog X0.w W.H W.s.heap
  exn : X0.ex = []
  pl : X0.env.locals ∈ W.pv
  pc : ∀ x c, X0.env.cells.lookup x = some c → c ∈ W.pv
  ip : ∀ p ∈ ip, p.1 ∈ W.pv ∨ W.s.heap.get? p.1 = none
  os : s.os = W.s.os
  nfs : ∀ b ∈ W.pv, b ∉ X0.fs
  nbs : ∀ b ∈ W.pv, X0.base.get? b = none
  frw : ∀ b ∈ X0.fs, ∃ o, W.s.heap.get? b = some o
  bsw : ∀ b o, X0.base.get? b = some o → ∃ o', W.s.heap.get? b = some o'
  wl : X0.env.locals < W.s.heap.objs.size
/-- what is fixed of the generator's def at its call -/
structure GenS (X0 : Cx) : Prop where
  ok : X0.Ok
  loc : X0.env.locals = X0.s_0.heap.objs.size
  ex : X0.ex = []
  cab : ∀ x c, X0.env.cells.lookup x = some c → X0.s_0.heap.objs.size ≤ c
section
variable {X0 : Cx} {W : Wake} {ip : List (Addr × Obj)} {Γ : List Slot} {σ : L2.St} {R H : Hp} {s : Shared}
theorem Wake.nys (W : Wake) (X0 : Cx) : ∀ b ∈ W.ys X0, W.H b = none := fun b hb => (mem_young.mp hb).2.2.1
theorem Awake.held (a : Awake X0 W ip Γ σ R H s) : ∀ b ∈ W.ys X0, ∃ o, W.s.heap.get? b = some o ∧ R b = some (fxo o) ∧ H b = some (fxo o) := fun b hb => by
  obtain ⟨o, e⟩ := (mem_young.mp hb).2.2.2
  have q : R b = some (fxo o) := a.sok.r0 b _ (addP_in hb e)
  exact ⟨o, e, q, a.sok.rh b _ q⟩
theorem Awake.hx (a : Awake X0 W ip Γ σ R H s) : Ex W.H H := fun b o e => by
  have z : b ∉ W.ys X0 := fun z => by rw [W.nys X0 b z] at e; cases e
  exact a.sok.hm b o (fun h => h) (by show addP (W.ys X0) W.s.heap W.H b = some o; rw [addP_out z]; exact e)
/-- what stood at the wake stands, but for its own -/
theorem Awake.stands (a : Awake X0 W ip Γ σ R H s) {b : Addr} {o : Obj} (e : W.s.heap.get? b = some o) (hp : b ∉ W.pv) : ∃ o', s.heap.get? b = some o' := by
  cases q : W.H b with
  | some u =>
    exact objok_there (a.inv.hok b u (a.hx b u q))
  | none =>
    by_cases hb : b < X0.env.locals
    · exact a.inv.base.there b o (low_get e hb hp) (fun z => by
        have z : b ∈ X0.ex := z
        rw [a.exn] at z; cases z)
    · obtain ⟨o', e', _, q'⟩ := a.held b (mem_young.mpr ⟨Nat.le_of_not_lt hb, hp, q, o, e⟩)
      exact ⟨o', (a.inv.hok b _ q').1⟩
theorem Awake.gone (a : Awake X0 W ip Γ σ R H s) {b : Addr} (e : s.heap.get? b = none) : b ∈ W.pv ∨ W.s.heap.get? b = none := by
  by_cases hp : b ∈ W.pv
  · exact .inl hp
  · right
    cases q : W.s.heap.get? b with
    | none => rfl
    | some o =>
      obtain ⟨o', e'⟩ := a.stands q hp
      rw [e] at e'; cases e'
/-- an own list is none of the consumer's -/
theorem Awake.ownN (a : Awake X0 W ip Γ σ R H s) {b : Addr} (hb : b ∈ ownL Γ σ) : W.H b = none ∧ R b = none ∧ (b ∈ W.pv ∨ W.s.heap.get? b = none) ∧ b ∉ W.ys X0 ∧ H b ≠ none := by
  obtain ⟨i, ob, h1, h2⟩ := mem_ownL hb
  obtain ⟨o, q1, q2⟩ := a.sok.sl i _ h1
  rw [h2] at q1
  cases q1
  obtain ⟨b', z1, z2, z3, z4⟩ := q2
  cases z1
  have z4 : addP (W.ys X0) W.s.heap W.H b = none := by
    rcases z4 with z4 | z4
    · exact z4
    · exact z4.elim
  have ny : b ∉ W.ys X0 := fun z => by
    obtain ⟨o, e⟩ := (mem_young.mp z).2.2.2
    rw [addP_in z e] at z4; cases z4
  have hn : W.H b = none := by rw [addP_out ny] at z4; exact z4
  refine ⟨hn, z3, ?_, ny, z2.there⟩
  by_cases hp : b ∈ W.pv
  · exact .inl hp
  · right
    cases q : W.s.heap.get? b with
    | none => rfl
    | some o =>
      exfalso
      by_cases hl : b < X0.env.locals
      · have q3 := a.inv.base.free b o (low_get q hl hp) (by show addP (W.ys X0) W.s.heap W.H b = none; exact z4) (fun z => by
          have z : b ∈ X0.ex := z
          rw [a.exn] at z; cases z)
        exact z2.there q3
      · exact ny (mem_young.mpr ⟨Nat.le_of_not_lt hl, hp, hn, o, q⟩)
/-- all that is the generator's own -/
def pvOf (X0 : Cx) (Γ : List Slot) (σ : L2.St) (ip : List (Addr × Obj)) : List Addr := X0.env.locals :: cellsOf X0 ++ ownL Γ σ ++ ip.map (·.1)
theorem Awake.lk (a : Awake X0 W ip Γ σ R H s) (hpl : ∀ x ∈ Γ, plainS x = true) : ∀ b ∈ ownL Γ σ, ∃ vs, H b = some (.lst vs) := fun b hb => by
  obtain ⟨i, ob, h1, h2⟩ := mem_ownL hb
  obtain ⟨o, q1, q2⟩ := a.sok.sl i _ h1
  rw [h2] at q1
  cases q1
  obtain ⟨b', z1, z2, _⟩ := q2
  cases z1
  have pl := hpl _ (List.mem_of_getElem? h1)
  cases ob with
  | lst ds => obtain ⟨vs, h3, _⟩ := z2; exact ⟨vs, h3⟩
  | _ => cases pl
theorem pv_cases {b : Addr} (hb : b ∈ pvOf X0 Γ σ ip) : b = X0.env.locals ∨ b ∈ cellsOf X0 ∨ b ∈ ownL Γ σ ∨ ∃ p ∈ ip, p.1 = b := by
  rcases List.mem_append.mp hb with hb | hb
  · rcases List.mem_append.mp hb with hb | hb
    · rcases List.mem_cons.mp hb with hb | hb
      · exact .inl hb
      · exact .inr (.inl hb)
    · exact .inr (.inr (.inl hb))
  · obtain ⟨p, hp, e⟩ := List.mem_map.mp hb
    exact .inr (.inr (.inr ⟨p, hp, e⟩))
/-- what the generator's turn has come to -/
theorem Awake.turn (a : Awake X0 W ip Γ σ R H s) (hpl : ∀ x ∈ Γ, plainS x = true) : ∃ R1 H1, TurnG X0 W.pv (pvOf X0 Γ σ ip) W.R W.H R1 H1 W.s s ∧ Ey R R1 := by
  have hd : Held (W.ys X0) H := fun b hb => let ⟨o, _, _, e⟩ := a.held b hb; ⟨o, e⟩
  have hdR : Held (W.ys X0) R := fun b hb => let ⟨o, _, e, _⟩ := a.held b hb; ⟨o, e⟩
  have lk := a.lk hpl
  have cutN : ∀ b, H b = none → cutP (ownL Γ σ) (cutP (W.ys X0) H) b = none := fun b e => by
    by_cases z : b ∈ ownL Γ σ
    · exact cutP_in z
    · rw [cutP_out z]
      by_cases z : b ∈ W.ys X0
      · exact cutP_in z
      · rw [cutP_out z]; exact e
  have hx1 : Ex W.H (cutP (ownL Γ σ) (cutP (W.ys X0) H)) := fun b o e => by
    have z1 : b ∉ ownL Γ σ := fun z => by rw [(a.ownN z).1] at e; cases e
    have z2 : b ∉ W.ys X0 := fun z => by rw [W.nys X0 b z] at e; cases e
    rw [cutP_out z1, cutP_out z2]
    exact a.hx b o e
  have nex : ∀ b, b ∉ (W.X X0).ex := fun b z => by
    have z : b ∈ X0.ex := z
    rw [a.exn] at z; cases z
  have H0n : ∀ b, b < X0.env.locals → W.H b = none → addP (W.ys X0) W.s.heap W.H b = none := fun b hb e => by
    have z : b ∉ W.ys X0 := fun z => absurd (mem_young.mp z).1 (Nat.not_le_of_lt hb)
    rw [addP_out z]; exact e
  refine ⟨cutP (W.ys X0) R, cutP (ownL Γ σ) (cutP (W.ys X0) H), ⟨⟨a.os, a.inv.bare, fun b o e hl hp hn hf => ?_, fun b o e hl hp hn hf => ?_, fun b o e hl hp hn => ?_, fun b o e hl hp => ?_, fun b o e hl hp hn => ?_, hx1, ?_⟩, ⟨fun b o e => ?_, hx1, fun b o e => ?_, fun b n e => ?_⟩, fun b hb => ?_⟩, hdR.ey⟩
  · exact a.inv.base.keep b o (low_get e hl hp) (H0n b hl hn) hf (nex b)
  · exact a.inv.base.slot b o (low_get e hl hp) (H0n b hl hn) hf (nex b)
  · exact cutN b (a.inv.base.free b o (low_get e hl hp) (H0n b hl hn) (nex b))
  · exact a.inv.base.there b o (low_get e hl hp) (nex b)
  · have hy : b ∈ W.ys X0 := mem_young.mpr ⟨hl, hp, hn, o, e⟩
    obtain ⟨o', e', _, q⟩ := a.held b hy
    rw [e] at e'; cases e'
    refine ⟨(a.inv.hok b _ q).1, ?_⟩
    by_cases z : b ∈ ownL Γ σ
    · exact cutP_in z
    · rw [cutP_out z]; exact cutP_in hy
  · have hk := hok_cut a.inv.hok hd
    intro b o e
    have z : b ∉ ownL Γ σ := fun z => by rw [cutP_in z] at e; cases e
    rw [cutP_out z] at e
    have keep : ∀ b' (u : HO), (∀ vs, u ≠ .lst vs) → cutP (W.ys X0) H b' = some u → cutP (ownL Γ σ) (cutP (W.ys X0) H) b' = some u := fun b' u nu q => by
      have z : b' ∉ ownL Γ σ := fun z => by
        obtain ⟨vs, q2⟩ := lk b' z
        have z2 := (a.ownN z).2.2.2.1
        rw [cutP_out z2, q2] at q
        exact nu vs (Option.some.inj q).symm
      rw [cutP_out z]; exact q
    exact (hk b o e).stay (fun _ _ _ q => q) (fun b' q => keep b' _ (fun _ q => by cases q) q) fun b' xs q => keep b' _ (fun _ q => by cases q) q
  · have z2 : b ∉ W.ys X0 := fun z => by
      have := a.rh b o e
      rw [W.nys X0 b z] at this; cases this
    rw [cutP_out z2]
    exact a.sok.r0 b o (by show addP (W.ys X0) W.s.heap W.R b = some o; rw [addP_out z2]; exact e)
  · have z2 : b ∉ W.ys X0 := fun z => by rw [cutP_in z] at e; cases e
    rw [cutP_out z2] at e
    have z1 : b ∉ ownL Γ σ := fun z => by rw [(a.ownN z).2.1] at e; cases e
    rw [cutP_out z1, cutP_out z2]
    exact a.sok.rh b o e
  · have z2 : b ∉ W.ys X0 := fun z => n (W.nys X0 b z)
    rw [cutP_out z2]
    refine a.sok.un b ?_ ?_
    · show addP (W.ys X0) W.s.heap W.H b ≠ none
      rw [addP_out z2]; exact n
    · show addP (W.ys X0) W.s.heap W.R b = none
      rw [addP_out z2]; exact e
  · rcases List.mem_append.mp hb with hb | hb
    · rcases List.mem_append.mp hb with hb | hb
      · rcases List.mem_cons.mp hb with hb | hb
        · subst hb
          refine ⟨.inl a.pl, cutN _ a.inv.free, ?_⟩
          obtain ⟨m, ⟨o, _, _, h1, _⟩, _⟩ := a.inv.loc
          exact ⟨o, h1⟩
        · obtain ⟨x, hx⟩ := of_cells hb
          obtain ⟨v, o, h1, _⟩ := a.inv.cell x b hx
          exact ⟨.inl (a.pc x b hx), cutN _ (a.inv.freeC x b hx), o, h1⟩
      · obtain ⟨vs, q⟩ := lk b hb
        exact ⟨(a.ownN hb).2.2.1, cutP_in hb, objok_there (a.inv.hok b _ q)⟩
    · obtain ⟨p, hp, rfl⟩ := List.mem_map.mp hb
      obtain ⟨h1, h2, _⟩ := a.inv.pin p (List.mem_append_right _ hp)
      exact ⟨a.ip p hp, cutN _ h2, _, h1⟩
/-- woken, wherever its consumer has come to -/
theorem Awake.wake (a : Awake X0 W ip Γ σ R H s) (S : GenS X0) (hpl : ∀ x ∈ Γ, plainS x = true) {R' H' : Hp} {s' : Shared} (g : Gone X0 (pvOf X0 Γ σ ip) s s' H') (rh : Ex R' H') (ey : Ey R R') :
    ∃ R2 H2, Awake X0 ⟨s', R', H', pvOf X0 Γ σ ip⟩ ip Γ σ R2 H2 s' ∧ Ex R' R2 := by
  have lk := a.lk hpl
  have mL : X0.env.locals ∈ pvOf X0 Γ σ ip := List.mem_append_left _ (List.mem_append_left _ List.mem_cons_self)
  have mC : ∀ x c, X0.env.cells.lookup x = some c → c ∈ pvOf X0 Γ σ ip := fun x c e => List.mem_append_left _ (List.mem_append_left _ (List.mem_cons_of_mem _ (cells_mem e)))
  have mO : ∀ b ∈ ownL Γ σ, b ∈ pvOf X0 Γ σ ip := fun b hb => List.mem_append_left _ (List.mem_append_right _ hb)
  have mI : ∀ p ∈ ip, p.1 ∈ pvOf X0 Γ σ ip := fun p hp => List.mem_append_right _ (List.mem_map.mpr ⟨p, hp, rfl⟩)
  have frlt : ∀ b ∈ X0.fs, b < X0.s_0.heap.objs.size := fun b hb => by
    obtain ⟨_, o, h1, _⟩ := S.ok.funs.mem hb
    exact Heap.lt_size h1
  have way : ∀ b ∈ pvOf X0 Γ σ ip, (X0.s_0.heap.objs.size ≤ b) ∨ b ∈ W.pv ∨ W.s.heap.get? b = none := fun b hb => by
    rcases pv_cases hb with z | z | z | ⟨p, hp, z⟩
    · exact .inl (by rw [z, S.loc]; exact Nat.le_refl _)
    · obtain ⟨x, hx⟩ := of_cells z
      exact .inl (S.cab x b hx)
    · exact .inr (a.ownN z).2.2.1
    · exact .inr (by rw [← z]; exact a.ip p hp)
  have nfs : ∀ b ∈ pvOf X0 Γ σ ip, b ∉ X0.fs := fun b hb hf => by
    rcases way b hb with z | z | z
    · exact absurd (Nat.lt_of_lt_of_le (frlt b hf) z) (Nat.lt_irrefl _)
    · exact a.nfs b z hf
    · obtain ⟨o, e⟩ := a.frw b hf
      rw [z] at e; cases e
  have nbs : ∀ b ∈ pvOf X0 Γ σ ip, X0.base.get? b = none := fun b hb => by
    cases q : X0.base.get? b with
    | none => rfl
    | some o =>
      exfalso
      rcases way b hb with z | z | z
      · exact absurd (Nat.lt_of_lt_of_le (Nat.lt_of_lt_of_le (Heap.lt_size q) S.ok.bsz) z) (Nat.lt_irrefl _)
      · rw [a.nbs b z] at q; cases q
      · obtain ⟨o', e⟩ := a.bsw b o q
        rw [z] at e; cases e
  have hn : ∀ b ∈ pvOf X0 Γ σ ip, b ∉ ownL Γ σ → H b = none := fun b hb hno => by
    rcases pv_cases hb with z | z | z | ⟨p, hp, z⟩
    · rw [z]; exact a.inv.free
    · obtain ⟨x, hx⟩ := of_cells z
      exact a.inv.freeC x b hx
    · exact absurd z hno
    · rw [← z]; exact (a.inv.pin p (List.mem_append_right _ hp)).2.1
  have ny : ∀ b ∈ young s'.heap X0.env.locals (pvOf X0 Γ σ ip) H', H' b = none := fun b hb => (mem_young.mp hb).2.2.1
  have npy : ∀ b ∈ pvOf X0 Γ σ ip, b ∉ young s'.heap X0.env.locals (pvOf X0 Γ σ ip) H' := fun b hb z => (mem_young.mp z).2.1 hb
  exact ⟨_, _, ⟨gone_inv S.ok ⟨S.loc, S.ex, mL, mC, mO, mI, nfs, nbs, fun x c _ e => S.cab x c e⟩ a.inv lk hn g, gone_sok a.sok hpl ey rh ny npy g.cut mO, rh, g.cut, g.hok, S.ex, mL, mC, fun p hp => .inl (mI p hp), rfl, nfs, nbs,
    fun b hb => let ⟨_, o, e, _⟩ := g.funs.mem hb; ⟨o, e⟩, fun b o e => ⟨o, (g.base b o e).1⟩, by
      obtain ⟨m, ⟨o, _, _, h1, _⟩, _⟩ := a.inv.loc
      exact Heap.lt_size ((g.kept _ mL).trans h1)⟩, (grow_add rh ny).r⟩
end
end DL

end
section
set_option Elab.async false
set_option linter.all false
set_option autoImplicit true
set_option maxRecDepth 100000
set_option maxHeartbeats 1000000
/-! a generator's body -/
namespace DL
open PySem PySem.Spec PyProof.Rows GenW L2
/-- what is wanted of a step that began at the wake W, ds to come -/
def GPhi (X0 : Cx) (A : Around) (W : Wake) : List D → End → Shared → Prop
  | [], e, s1 => e.quiet = true ∧ match e with
      | .ret r => (r = .ok (.ret .none) ∨ r = .ok .next) ∧ ∃ R1 H1, TurnG X0 W.pv [] W.R W.H R1 H1 W.s s1
      | .susp .. => False
  | d :: ds, e, s1 => e.quiet = true ∧ match e with
      | .ret _ => False
      | .susp v g l k c p fs => ∃ R1 H1 pv1 x, TurnG X0 W.pv pv1 W.R W.H R1 H1 W.s s1 ∧ RelV x v ∧ Rp X0.K R1 d x ∧ GenOn X0 A ds (End.susp v g l k c p fs).genState pv1 R1 s1
theorem genOn_iff {X0 : Cx} {A : Around} {ds : List D} {gs : GenState} {pv : List Addr} {Ry : Hp} {sy : Shared} :
    GenOn X0 A ds gs pv Ry sy ↔ ∀ s R H, Gone X0 pv sy s H → Ex R H → Ey Ry R → GoesS (model X0.prog X0.w) A (GPhi X0 A ⟨s, R, H, pv⟩ ds) gs s := by
  cases ds <;> exact Iff.rfl
/-- where the generator's code stands -/
structure YAt (X0 : Cx) (A : Around) (c : Code) (fs : List Frame) (gd : Bool → Bool) : Prop where
  over : A.over c fs = X0.A
  split : splitAtGen fs = none
  guard : fs.any Frame.guarded = false
  gd : gd false = false
theorem YAt.loop {X0 : Cx} {A : Around} {c c' : Code} {fs : List Frame} {gd : Bool → Bool} {k : Result → Sem PySem.Fin} {l kp : List Value} {p : Pos} (g : YAt X0 A c fs gd) (hw : c'.weight = 0) (hu : c'.cUnits = 0) : YAt X0 A c' (.ret k none (gd false) l c p kp :: fs) id where
  over := (over_loop hw hu).trans g.over
  split := by
    show (splitAtGen fs).map _ = none
    rw [g.split]; rfl
  guard := by
    show (gd false || fs.any Frame.guarded) = false
    rw [g.gd, g.guard]; rfl
  gd := rfl
/-- somewhere in the body: ds to come, the slots Γ -/
abbrev YP := List D → SL → Prop
/-- wherever the code K stands with P, it goes on well -/
def GoOn (X0 : Cx) (A : Around) (ip : List (Addr × Obj)) (Rb : Hp) (P : YP) (c : Code) (t : Sem PySem.Fin) (fs : List Frame) : Prop :=
  ∀ W ds Γ σ R H s, Awake X0 W ip Γ σ R H s → Ey Rb R → P ds Γ → Gst (model X0.prog X0.w) A (GPhi X0 A W ds) c t fs s
structure YW (X0 : Cx) (st : Stmt) (Pre Post : YP) : Prop where
  run : ∀ (A : Around) (ip : List (Addr × Obj)) (Rb : Hp) (c : Code) (fs : List Frame) (K : Flow → Sem PySem.Fin) (J : Value → Sem PySem.Fin) (gd : Bool → Bool) (lv : List Value → List Value), YAt X0 A c fs gd →
    GoOn X0 A ip Rb Post c (K .next) fs → GoOn X0 A ip Rb Pre c ((exec st X0.env).wrap K J gd lv) fs
structure YWB (X0 : Cx) (st : List Stmt) (Pre Post : YP) : Prop where
  run : ∀ (A : Around) (ip : List (Addr × Obj)) (Rb : Hp) (c : Code) (fs : List Frame) (K : Flow → Sem PySem.Fin) (J : Value → Sem PySem.Fin) (gd : Bool → Bool) (lv : List Value → List Value), YAt X0 A c fs gd →
    GoOn X0 A ip Rb Post c (K .next) fs → GoOn X0 A ip Rb Pre c ((execs st X0.env).wrap K J gd lv) fs
section
variable {X0 : Cx} {n : Nm} {st : Stmt} {rest : List Stmt} {Pre Mid Post : YP}
theorem ywb_nil (h : ∀ ds Γ, Pre ds Γ → Post ds Γ) : YWB X0 [] Pre Post := ⟨fun A ip Rb c fs K J gd lv g k W ds Γ σ R H s a eb p => gst_execs_nil (k W ds Γ σ R H s a eb (h ds Γ p))⟩
theorem ywb_cons (h1 : YW X0 st Pre Mid) (h2 : YWB X0 rest Mid Post) : YWB X0 (st :: rest) Pre Post := ⟨fun A ip Rb c fs K J gd lv g k W ds Γ σ R H s a eb p =>
  gst_execs_cons (h1.run A ip Rb c fs (seqK rest X0.env K J gd lv) J gd lv g (h2.run A ip Rb c fs K J gd lv g k) W ds Γ σ R H s a eb p)⟩
/-- what a def's context tells, at any wake -/
theorem nok_re {c0 : Cc} (N : NOk X0 n c0) (hoi : n.oi = []) (hx : X0.xe = fun _ _ => False) (W : Wake) : NOk (W.X X0) n (W.c X0) :=
  ⟨N.eq, N.nd, N.vis, N.loc, N.dbg, N.gl, N.kind, N.scp, N.calm, N.room, N.po, N.lc, hoi.symm, fun _ h => h.elim, takes_no rfl, N.fr⟩
theorem Awake.next {W : Wake} {ip : List (Addr × Obj)} {Γ Γ' : List Slot} {σ σ' : L2.St} {R H R' H' : Hp} {s s' : Shared} (a : Awake X0 W ip Γ σ R H s) (I : Inv (W.X X0) ip σ' H' s') (k : SOk X0.K (W.c X0) Γ' σ' R' H') : Awake X0 W ip Γ' σ' R' H' s' :=
  ⟨I, k, a.rh, a.cut, a.hok, a.exn, a.pl, a.pc, a.ip, I.os, a.nfs, a.nbs, a.frw, a.bsw, a.wl⟩
/-- a statement that yields nothing -/
theorem yw_ws {c0 : Cc} (N : NOk X0 n c0) (hoi : n.oi = []) (hx : X0.xe = fun _ _ => False)
    (h : ∀ ds Γ, Pre ds Γ → ∀ (X : Cx) (c : Cc), X.prog = X0.prog ∧ X.w = X0.w ∧ X.K = X0.K ∧ X.mg = X0.mg ∧ X.base = X0.base ∧ X.A = X0.A → WS X n c Γ st { nx := fun Γ' => Post ds Γ', rt := fun _ _ => False }) : YW X0 st Pre Post := ⟨fun A ip Rb c fs K J gd lv g k W ds Γ σ R H s a eb p => by
  refine gst_wrap ?_
  rw [g.over]
  have q := (h ds Γ p (W.X X0) (W.c X0) ⟨rfl, rfl, rfl, rfl, rfl, rfl⟩).run (nok_re N hoi hx W) σ R H a.sok
    { nx := fun σ' H' => ∃ R' Γ', SOk X0.K (W.c X0) Γ' σ' R' H' ∧ Ex R R' ∧ Post ds Γ', rt := fun _ _ => False } ⟨fun σ' R' H' Γ' k' e' q => ⟨R', Γ', k', e', q⟩, fun _ _ _ _ _ _ _ _ _ z => z, fun _ _ _ _ _ _ z => z, fun _ _ _ _ _ _ z => z⟩ ip s a.inv
  refine wpAny_mono q (fun f s' hf => ?_) fun x s' z => ?_
  · cases f with
    | next =>
      obtain ⟨σ', H', I', R', Γ', k', e', q'⟩ := hf
      exact k W ds Γ' σ' R' H' s' (a.next I' k') (fun b o n z => e' b o (eb b o n z)) q'
    | brk => obtain ⟨_, _, _, z⟩ := hf; exact z.elim
    | cont => obtain ⟨_, _, _, z⟩ := hf; exact z.elim
    | ret v => obtain ⟨_, _, _, _, _, z⟩ := hf; exact z.elim
  · have z : X0.xe x s' := z
    rw [hx] at z; exact z.elim⟩
/-- yield -/
theorem yw_yield {c0 : Cc} {e : Expr} {yp pos : Pos} (N : NOk X0 n c0) (S : GenS X0) (hoi : n.oi = []) (hx : X0.xe = fun _ _ => False)
    (h : ∀ ds Γ, Pre ds Γ → ∃ d ds', ds = d :: ds' ∧ (∀ x ∈ Γ, plainS x = true) ∧ Post ds' Γ ∧ ∀ (X : Cx) (c : Cc), X.prog = X0.prog ∧ X.w = X0.w ∧ X.K = X0.K ∧ X.mg = X0.mg ∧ X.base = X0.base ∧ X.A = X0.A → EV X n c Γ e d)
    (hco : X0.env.scope.isCoroutine = false := by rfl) (hi : interactive X0.env = false := by rfl) : YW X0 (.Expr (.Yield (some e) yp) pos) Pre Post := ⟨fun A ip Rb c fs K J gd lv g k W ds Γ σ R H s a eb p => by
  obtain ⟨d, ds', rfl, hpl, po, he⟩ := h ds Γ p
  refine gst_Expr_Yield g.split g.gd ?_ hco hi
  rw [g.over]
  have q := (he (W.X X0) (W.c X0) ⟨rfl, rfl, rfl, rfl, rfl, rfl⟩).run (nok_re N hoi hx W) σ R H a.sok (fun v H' => ∃ R', SOk X0.K (W.c X0) Γ σ R' H' ∧ Ex R R' ∧ Rp X0.K R' d v) (fun v R' H' x Γ' k' e' r ⟨q1, q2⟩ => by subst q1 q2; exact ⟨R', k', e', r⟩) ip s a.inv
  refine wpAny_mono q (fun v s' hv l p k0 hk => ?_) fun x s' z => ?_
  · obtain ⟨x, H1, I1, rv, R1, k1, e1, r1⟩ := hv
    have a1 := a.next I1 k1
    obtain ⟨R2, H2, t2, ey⟩ := a1.turn hpl
    refine ⟨?_, R2, H2, _, x, t2, rv, Rp.ey ey _ _ r1, genOn_iff.mpr fun s3 R3 H3 g3 rh3 ey3 => ?_⟩
    · show (!(false || fs.any Frame.guarded)) = true
      rw [g.guard]; rfl
    · obtain ⟨R4, H4, a4, ey4⟩ := a1.wake S hpl g3 rh3 (fun b o n e => ey3 b o n (ey b o n e))
      exact hk _ s3 (k _ ds' Γ σ R4 H4 s3 a4 (fun b o n z => ey4 b o (ey3 b o n (ey b o n (e1 b o (eb b o n z))))) po)
  · have z : X0.xe x s' := z
    rw [hx] at z; exact z.elim⟩
end
end DL

end
section
set_option Elab.async false
set_option linter.all false
set_option autoImplicit true
set_option maxRecDepth 100000
set_option maxHeartbeats 1000000
/-! loops in a generator's body -/
namespace DL
open PySem PySem.Spec PyProof.Rows GenW L2
section
variable {X0 : Cx} {n : Nm} {Pre Post : YP}
/-- an address that is not tracked, from the generator's call on: its own -/
theorem Awake.mine {W : Wake} {ip : List (Addr × Obj)} {Γ : List Slot} {σ : L2.St} {R H : Hp} {s : Shared} (a : Awake X0 W ip Γ σ R H s) {b : Addr} (hn : H b = none) (hl : X0.env.locals ≤ b) : b ∈ W.pv ∨ W.s.heap.get? b = none := by
  by_cases hp : b ∈ W.pv
  · exact .inl hp
  · right
    cases q : W.s.heap.get? b with
    | none => rfl
    | some o =>
      exfalso
      cases q2 : W.H b with
      | some u => rw [a.hx b u q2] at hn; cases hn
      | none =>
        obtain ⟨o', _, _, q3⟩ := a.held b (mem_young.mpr ⟨hl, hp, q2, o, q⟩)
        rw [hn] at q3; cases q3
theorem Awake.low {W : Wake} {ip : List (Addr × Obj)} {Γ : List Slot} {σ : L2.St} {R H : Hp} {s : Shared} (a : Awake X0 W ip Γ σ R H s) (hL : X0.env.locals < W.s.heap.objs.size) : (W.X X0).s_0.heap.objs.size = X0.env.locals := by
  show (lowHeap W.s.heap X0.env.locals W.pv).objs.size = _
  rw [low_size]
  exact Nat.min_eq_left (Nat.le_of_lt hL)
/-- an iterator of the generator's own -/
def FpG (X0 : Cx) (ip : List (Addr × Obj)) (b : Addr) : Prop := b ≠ X0.env.locals ∧ b ∉ X0.fs ∧ X0.env.locals ≤ b ∧ (∀ x c, X0.env.cells.lookup x = some c → c ≠ b) ∧ ∀ p ∈ ip, p.1 ≠ b
theorem FpG.ok {W : Wake} {ip : List (Addr × Obj)} {H : Hp} {b : Addr} (f : FpG X0 ip b) (hn : H b = none) : FpOk (W.X X0) ip H b :=
  ⟨hn, f.1, f.2.1, .inr (by
    show (lowHeap W.s.heap X0.env.locals W.pv).objs.size ≤ b
    rw [low_size]; exact Nat.le_trans (Nat.min_le_left _ _) f.2.2.1), f.2.2.2.1, fun p hp => f.2.2.2.2 p (by simpa [Wake.X, reX] using hp)⟩
/-- more pins -/
theorem Awake.pinned {W : Wake} {ip : List (Addr × Obj)} {Γ : List Slot} {σ : L2.St} {R H : Hp} {s : Shared} (a : Awake X0 W ip Γ σ R H s) {fp : List Addr} (hf : ∀ b ∈ fp, FpG X0 ip b) (hn : ∀ b ∈ fp, H b = none) (ho : ∀ b ∈ fp, ∃ o, s.heap.get? b = some o ∧ ∀ v, o.data ≠ .cell v) :
    Awake X0 W (ip ++ pinsAt fp s.heap) Γ σ R H s :=
  ⟨a.inv.pinned (fun b hb => (hf b hb).ok (hn b hb)) ho, a.sok, a.rh, a.cut, a.hok, a.exn, a.pl, a.pc, fun p hp => by
    rcases List.mem_append.mp hp with hp | hp
    · exact a.ip p hp
    · have := (of_pinsAt hp).1
      exact a.mine (hn _ this) (hf _ this).2.2.1, a.os, a.nfs, a.nbs, a.frw, a.bsw, a.wl⟩
theorem Awake.unpinned {W : Wake} {ip pl : List (Addr × Obj)} {Γ : List Slot} {σ : L2.St} {R H : Hp} {s : Shared} (a : Awake X0 W (ip ++ pl) Γ σ R H s) : Awake X0 W ip Γ σ R H s :=
  ⟨a.inv.unpinned, a.sok, a.rh, a.cut, a.hok, a.exn, a.pl, a.pc, fun p hp => a.ip p (List.mem_append_left _ hp), a.os, a.nfs, a.nbs, a.frw, a.bsw, a.wl⟩
/-- the turns of a loop: m of them; at turn i the item stands for x i -/
theorem yw_loop {c0 : Cc} {nm : Str} {tp : Pos} {body : List Stmt} {A : Around} {ip : List (Addr × Obj)} {Rb : Hp} {c : Code} {fs : List Frame} {k : Result → Sem PySem.Fin} {g : Bool} {l kp : List Value} {p : Pos} {fp : List Addr} {it : Addr} {tn : Nat → Heap → Prop} {J : L2.It} (m : Nat) (xs : Nat → D) (Iv : Nat → YP) (j : Nat)
    (N : NOk X0 n c0) (hoi : n.oi = []) (hx : X0.xe = fun _ _ => False) (hh : n.hot = false)
    (T : L2.Turn X0.prog X0.w X0.K (.Name nm tp) J fp it tn) (hf : ∀ b ∈ fp, FpG X0 ip b)
    (hj : n.N[j]? = some nm) (ha : n.as.contains j = true)
    (go : ∀ i R H, i < m → Ex R H → Ey Rb R → J.go i H) (stop : ∀ R H, Ex R H → Ey Rb R → J.stop m H)
    (yld : ∀ i R H x H', i < m → Ex R H → Ey Rb R → J.yld i H x H' → H' = H ∧ Rp X0.K R (xs i) x)
    (ov : A.over (.forLoop (.Name nm tp) (.ref it) body [] X0.env) (.ret k none g l c p kp :: fs) = X0.A)
    (at' : YAt X0 A (.forLoop (.Name nm tp) (.ref it) body [] X0.env) (.ret k none g l c p kp :: fs) id)
    (hb : ∀ i, i < m → YWB X0 body (fun ds Γ => ∃ Γ', Iv i ds Γ' ∧ Γ = Γ'.set j (.d (xs i))) (Iv (i + 1)))
    (hk : GoOn X0 A ip Rb (Iv m) c (k (.ok .next)) fs) :
    ∀ r i, i + r = m → ∀ W ds Γ σ R H s, Awake X0 W ip Γ σ R H s → Ey Rb R → Iv i ds Γ → tn i s.heap → (∀ b ∈ fp, H b = none) →
      Gst (model X0.prog X0.w) A (GPhi X0 A W ds) (.forLoop (.Name nm tp) (.ref it) body [] X0.env) ((model X0.prog X0.w).den (.forLoop (.Name nm tp) (.ref it) body [] X0.env)) (.ret k none g l c p kp :: fs) s := by
  intro r
  induction r with
  | zero =>
    intro i hi W ds Γ σ R H s a eb iv st hn
    have e : i = m := by omega
    subst e
    refine gst_forLoop ?_
    rw [ov]
    refine wpAny_mono (T.done (W.X X0) rfl rfl rfl (N.calm hh) i ip s σ H (fun _ _ => False) a.inv (fun b hb => (hf b hb).ok (hn b hb)) st (stop R H a.sok.rh eb)) (fun o s1 h1 => ?_) fun _ _ z => z
    obtain ⟨rfl, I1⟩ := h1
    exact hk W ds Γ σ R H s1 (a.next I1 a.sok) eb iv
  | succ r ih =>
    intro i hi W ds Γ σ R H s a eb iv st hn
    have hlt : i < m := by omega
    obtain ⟨l1, l2⟩ := N.loc j nm ha hj
    refine gst_forLoop ?_
    rw [ov]
    refine wpAny_mono (T.item (W.X X0) rfl rfl rfl (N.calm hh) i ip s σ H (fun _ _ => False) a.inv (fun b hb => (hf b hb).ok (hn b hb)) st (go i R H hlt a.sok.rh eb)) (fun o s1 h1 => ?_) fun _ _ z => z
    obtain ⟨u, rfl, h2⟩ := h1
    refine wpAny_mono h2 (fun _ s2 h3 => ?_) fun _ _ z => z
    obtain ⟨x, H', I2, rv, y2, st2, fr2⟩ := h3
    obtain ⟨rfl, rp⟩ := yld i R H x H' hlt a.sok.rh eb y2
    have a2 := (a.next I2 a.sok).pinned hf fr2 (T.obj _ _ st2)
    have pg := (pg_name (X := W.X X0) (pos := tp) (i := j) (by show X0.N.Nodup; rw [N.eq]; exact N.nd) (by show X0.N[j]? = some nm; rw [N.eq]; exact hj) l1 l2).run (ip ++ pinsAt fp s2.heap) s2 σ H' x u (fun σ' H'' => σ' = σ.set j (some x) ∧ H'' = H') a2.inv rv ⟨rfl, rfl⟩
    refine wpAny_mono pg (fun _ s3 h4 => ?_) fun e s3 z => by
      have z : X0.xe e s3 := z
      rw [hx] at z; exact z
    obtain ⟨σ3, H3, I3, rfl, rfl⟩ := h4
    have a3 := a2.next I3 (a.sok.setD j rp (by show j ∉ ([] : List (Nat × Addr)).map (·.1); simp))
    refine (hb i hlt).run A (ip ++ pinsAt fp s2.heap) R _ _ _ _ id id at' ?_ W ds _ _ R H3 s3 a3 (fun b o _ q => q) ⟨Γ, iv, rfl⟩
    intro W' ds' Γ' σ' R' H' s' a' eb' iv'
    refine gst_again rfl (ih (i + 1) (by omega) W' ds' Γ' σ' R' H' s' a'.unpinned (fun b o z q => eb' b o z (eb b o z q)) iv' ?_ ?_)
    · exact T.keep _ _ _ st2 fun b hb o e => (a'.inv.pin (b, o) (List.mem_append_right _ (List.mem_append_right _ (mem_pinsAt hb e)))).1
    · intro b hb
      obtain ⟨o, e, _⟩ := T.obj _ _ st2 b hb
      exact (a'.inv.pin (b, o) (List.mem_append_right _ (List.mem_append_right _ (mem_pinsAt hb e)))).2.1
theorem FpG.of {W : Wake} {ip : List (Addr × Obj)} {H : Hp} {b : Addr} (hL : X0.env.locals < W.s.heap.objs.size) (hex : X0.ex = []) (f : FpOk (W.X X0) ip H b) : FpG X0 ip b := by
  obtain ⟨_, f1, f2, f3, f4, f5⟩ := f
  refine ⟨f1, f2, ?_, f4, fun p hp => f5 p (List.mem_append_right _ hp)⟩
  rcases f3 with f3 | f3
  · have f3 : b ∈ X0.ex := f3
    rw [hex] at f3; cases f3
  · have f3 : (lowHeap W.s.heap X0.env.locals W.pv).objs.size ≤ b := f3
    rw [low_size, Nat.min_eq_left (Nat.le_of_lt hL)] at f3
    exact f3
/-- for, over a frozen list -/
theorem yw_forL {c0 : Cc} {nm : Str} {tp pos : Pos} {e : Expr} {body : List Stmt} (j : Nat) (Iv : List D → Nat → YP) (N : NOk X0 n c0) (hoi : n.oi = []) (hx : X0.xe = fun _ _ => False) (hh : n.hot = false) (hj : n.N[j]? = some nm) (ha : n.as.contains j = true)
    (h : ∀ ds Γ, Pre ds Γ → ∀ (X : Cx) (c : Cc), X.prog = X0.prog ∧ X.w = X0.w ∧ X.K = X0.K ∧ X.mg = X0.mg ∧ X.base = X0.base ∧ X.A = X0.A → WE X n c Γ e fun x Γ1 => ∃ xs, x = .lst xs ∧ Iv xs 0 ds Γ1)
    (hb : ∀ xs i d, xs[i]? = some d → YWB X0 body (fun ds Γ => ∃ Γ', Iv xs i ds Γ' ∧ Γ = Γ'.set j (.d d)) (Iv xs (i + 1)))
    (hd : ∀ xs ds Γ, Iv xs xs.length ds Γ → Post ds Γ)
    (hf : ∀ x, foldedSetIterable e X0.env x = pure x := by intro _; rfl) : YW X0 (.For (.Name nm tp) e body [] pos) Pre Post := ⟨fun A ip Rb c fs K J gd lv g k W ds Γ σ R H s a eb p => by
  refine gst_For ?_ hf
  rw [g.over]
  have q := (pi_list (X := W.X X0) (tg := .Name nm tp) (pW (X := W.X X0) (e := e))).run ip s σ H (fun J H1 => ∃ a0 vs R1 Γ1 xs, J = Itl X0.K a0 ∧ SOk X0.K (W.c X0) Γ1 σ R1 H1 ∧ Ex R R1 ∧ R1 a0 = some (.lst vs) ∧ RpL X0.K R1 xs vs ∧ Iv xs 0 ds Γ1) a.inv
    ((h ds Γ p (W.X X0) (W.c X0) ⟨rfl, rfl, rfl, rfl, rfl, rfl⟩).run (nok_re N hoi hx W) σ R H a.sok _ fun v R1 H1 x Γ1 s1 e1 r1 ⟨xs, hx', iv⟩ => by
      subst hx'
      obtain ⟨a0, vs, rfl, h2, h3⟩ := r1
      exact ⟨a0, rfl, ⟨vs, .inl (.inl (s1.rh a0 _ h2))⟩, a0, vs, R1, Γ1, xs, rfl, s1, e1, h2, h3, iv⟩)
  refine wpAny_mono q (fun v s1 h1 => ?_) fun e s3 z => by
    have z : X0.xe e s3 := z
    rw [hx] at z; exact z
  refine wpAny_mono h1 (fun itv s2 h2 p0 => ?_) fun e s3 z => by
    have z : X0.xe e s3 := z
    rw [hx] at z; exact z
  obtain ⟨it, fp, tn, J2, H2, rfl, I2, T, st, hfp, a0, vs, R1, Γ1, xs, rfl, s1', e1, hl, hr, iv⟩ := h2
  have a2 := a.next I2 s1'
  have sq : ∀ R' H', Ex R' H' → Ey R1 R' → SqL X0.K H' a0 vs := fun R' H' rh ey => .inl (.inl (rh a0 _ (ey a0 _ (fun _ q => by cases q) hl)))
  have e0 : A.over (.forLoop (.Name nm tp) (.ref it) body [] X0.env) (.ret (backK X0.env K J gd lv) none (gd false) (lv []) c p0 [] :: fs) = X0.A := (over_loop rfl rfl).trans g.over
  refine yw_loop (Rb := R1) (ip := ip) xs.length (fun i => (xs[i]?).getD .non) (Iv xs) j N hoi hx hh T (fun b hb => FpG.of a.wl a.exn (hfp b hb)) hj ha (fun i R' H' hi rh ey => ?_) (fun R' H' rh ey => ?_) (fun i R' H' x H'' hi rh ey y => ?_) e0 (g.loop rfl rfl) (fun i hi => ?_) (fun W' ds' Γ' σ' R' H' s' a' ey iv' => ?_) xs.length 0 (Nat.zero_add _) W ds Γ1 σ R1 H2 s2 a2 (fun b o _ q => q) iv st (fun b hb => (hfp b hb).1)
  · rw [hr.length] at hi
    exact ⟨vs, vs[i], sq R' H' rh ey, List.getElem?_eq_getElem hi⟩
  · exact ⟨vs, sq R' H' rh ey, by rw [hr.length]; exact Nat.le_refl _⟩
  · obtain ⟨rfl, y⟩ := y
    obtain ⟨d, h4, h5⟩ := hr.get' (y vs (sq R' _ rh ey))
    refine ⟨rfl, ?_⟩
    show Rp X0.K R' ((xs[i]?).getD .non) x
    rw [h4]
    exact Rp.ey ey _ _ h5
  · have q : xs[i]? = some xs[i] := List.getElem?_eq_getElem hi
    have := hb xs i xs[i] q
    rw [q]
    exact this
  · exact k W' ds' Γ' σ' R' H' s' a' (fun b o n z => ey b o n (e1 b o (eb b o n z))) (hd xs ds' Γ' iv')⟩
/-- for over range(a) -/
theorem yw_forR {c0 : Cc} {nm : Str} {tp pos pr p2 : Pos} {e : Expr} {body : List Stmt} (j jr : Nat) (Iv : Nat → Nat → YP) (N : NOk X0 n c0) (hoi : n.oi = []) (hx : X0.xe = fun _ _ => False) (hh : n.hot = false) (hj : n.N[j]? = some nm) (ha : n.as.contains j = true) (hjr : n.GN[jr]? = some ("range" : Str)) (hbt : X0.mg "range" = none)
    (h : ∀ ds Γ, Pre ds Γ → ∀ (X : Cx) (c : Cc), X.prog = X0.prog ∧ X.w = X0.w ∧ X.K = X0.K ∧ X.mg = X0.mg ∧ X.base = X0.base ∧ X.A = X0.A → WE X n c Γ e fun x Γ1 => ∃ m : Nat, x = .int (m : Int) ∧ m < 2 ^ 62 ∧ Iv m 0 ds Γ1)
    (hb : ∀ m i, i < m → YWB X0 body (fun ds Γ => ∃ Γ', Iv m i ds Γ' ∧ Γ = Γ'.set j (.d (.int (i : Int)))) (Iv m (i + 1)))
    (hd : ∀ m ds Γ, Iv m m ds Γ → Post ds Γ)
    (hst : starEach [e] X0.env = [(false, eval e X0.env)]) (hf : ∀ x, foldedSetIterable (.Call (.Name "range" pr) [e] [] p2) X0.env x = pure x := by intro _; rfl) : YW X0 (.For (.Name nm tp) (.Call (.Name "range" pr) [e] [] p2) body [] pos) Pre Post := ⟨fun A ip Rb c fs K J gd lv g k W ds Γ σ R H s a eb p => by
  obtain ⟨g1, g2, g3⟩ := N.gl jr _ hjr
  refine gst_For ?_ hf
  rw [g.over]
  have q := (pi_range1 (X := W.X X0) (tg := .Name nm tp) (p := pr) (pos := p2) g1 hbt (pa_cons (pW (X := W.X X0) (e := e)) pa_nil hst) hst).run ip s σ H (fun J H1 => ∃ m R1 Γ1, J = Itr 0 m ∧ SOk X0.K (W.c X0) Γ1 σ R1 H1 ∧ Ex R R1 ∧ Iv m 0 ds Γ1) a.inv
    ((h ds Γ p (W.X X0) (W.c X0) ⟨rfl, rfl, rfl, rfl, rfl, rfl⟩).run (nok_re N hoi hx W) σ R H a.sok _ fun v R1 H1 x Γ1 s1 e1 r1 ⟨m, hx', hm, iv⟩ => by
      subst hx'
      cases (show v = .int (m : Int) from r1)
      refine ⟨(m : Int), rfl, by omega, by omega, m, R1, Γ1, by simp, s1, e1, iv⟩)
  refine wpAny_mono q (fun v s1 h1 => ?_) fun e s3 z => by
    have z : X0.xe e s3 := z
    rw [hx] at z; exact z
  refine wpAny_mono h1 (fun itv s2 h2 p0 => ?_) fun e s3 z => by
    have z : X0.xe e s3 := z
    rw [hx] at z; exact z
  obtain ⟨it, fp, tn, J2, H2, rfl, I2, T, st, hfp, m, R1, Γ1, rfl, s1', e1, iv⟩ := h2
  have a2 := a.next I2 s1'
  have e0 : A.over (.forLoop (.Name nm tp) (.ref it) body [] X0.env) (.ret (backK X0.env K J gd lv) none (gd false) (lv []) c p0 [] :: fs) = X0.A := (over_loop rfl rfl).trans g.over
  refine yw_loop (Rb := R1) (ip := ip) m (fun i => .int (i : Int)) (Iv m) j N hoi hx hh T (fun b hb => FpG.of a.wl a.exn (hfp b hb)) hj ha (fun i R' H' hi rh ey => hi) (fun R' H' rh ey => Nat.le_refl _) (fun i R' H' x H'' hi rh ey y => ?_) e0 (g.loop rfl rfl) (fun i hi => hb m i hi) (fun W' ds' Γ' σ' R' H' s' a' ey iv' => ?_) m 0 (Nat.zero_add _) W ds Γ1 σ R1 H2 s2 a2 (fun b o _ q => q) iv st (fun b hb => (hfp b hb).1)
  · obtain ⟨rfl, rfl⟩ := y
    refine ⟨rfl, ?_⟩
    show V.int (0 + (i : Int)) = V.int (i : Int)
    rw [Int.zero_add]
  · exact k W' ds' Γ' σ' R' H' s' a' (fun b o n z => ey b o n (e1 b o (eb b o n z))) (hd m ds' Γ' iv')⟩
end
end DL

end
section
set_option Elab.async false
set_option linter.all false
set_option autoImplicit true
set_option maxRecDepth 100000
set_option maxHeartbeats 1000000
/-! a generator's first wake, its end -/
namespace DL
open PySem PySem.Spec PyProof.Rows GenW L2
/-- what a generator's call may be given: data, things that are only read -/
def argS : Slot → Bool
  | .no | .any | .d _ | .w _ => true
  | _ => false
theorem sok_again {K : PySem.W.Frag} {c : Cc} {Γ : List Slot} {σ : L2.St} {Rc Hc R H : Hp} (s : SOk K c Γ σ Rc Hc) (hp : ∀ x ∈ Γ, argS x = true) (er : Ex Rc R) (eh : Ex Hc H) (rh : Ex R H) : SOk K (ccG R H) Γ σ R H := by
  refine ⟨rh, Ex.refl _, fun a o _ q => q, fun a n => n, fun a _ q => q, s.len, fun i x q => ?_, s.dj, fun p hp => by cases hp⟩
  obtain ⟨o, h1, h2⟩ := s.sl i x q
  refine ⟨o, h1, ?_⟩
  have pl := hp x (List.mem_of_getElem? q)
  have nM : ∀ {a : Addr} {u : HO}, Hc a = some u → ¬ ((ccG R H).H0 a = none ∨ (ccG R H).M a) := fun {a u} e z => by
    rcases z with z | z
    · have z : H a = none := z
      rw [eh a u e] at z; cases z
    · exact z
  cases x with
  | no => exact h2
  | any => trivial
  | d x => obtain ⟨v, z1, z2⟩ := h2; exact ⟨v, z1, Rp.mono er _ _ z2⟩
  | w x =>
    obtain ⟨v, z1, z2⟩ := h2
    refine ⟨v, z1, ?_⟩
    rcases z2 with h | ⟨a, vs, ds, h1, h2, h3, h4, h5⟩ | ⟨a, vs, ds, h1, h2, h3, h4, h5⟩ | ⟨a, dx, ws, nm, fs, h1, h2, h3, h4, h5, h6⟩
    · exact .inl (Rp.mono er _ _ h)
    · exact .inr (.inl ⟨a, vs, ds, h1, h2, nM h4, eh a _ h4, RpL.mono er _ _ h5⟩)
    · exact .inr (.inr (.inl ⟨a, vs, ds, h1, h2, nM h4, eh a _ h4, RpK.mono er _ _ h5⟩))
    · exact .inr (.inr (.inr ⟨a, dx, ws, nm, fs, h1, h2, nM h4, eh a _ h4, h5, FldOk.mono er h6⟩))
  | _ => cases pl
theorem ownP_nil {Hy H : Hp} : ownP [] Hy H = H := by
  funext b
  unfold ownP
  rw [if_neg (by simp)]
section
variable {X0 : Cx}
/-- the generator's frame, right behind its call -/
def pv0 (X0 : Cx) : List Addr := X0.env.locals :: cellsOf X0
theorem first_wake {c : Cc} {Γ : List Slot} {σ : L2.St} {Rc Hc R H : Hp} {s1 s : Shared} (S : GenS X0) (hpn : X0.pn = []) (I : Inv X0 [] σ Hc s1) (k : SOk X0.K c Γ σ Rc Hc) (hp : ∀ x ∈ Γ, argS x = true) (g : Gone X0 (pv0 X0) s1 s H) (er : Ex Rc R) (eh : Ex Hc H) (rh : Ex R H) :
    ∃ R2 H2, Awake X0 ⟨s, R, H, pv0 X0⟩ [] Γ σ R2 H2 s := by
  have mL : X0.env.locals ∈ pv0 X0 := List.mem_cons_self
  have mC : ∀ x c, X0.env.cells.lookup x = some c → c ∈ pv0 X0 := fun x c e => List.mem_cons_of_mem _ (cells_mem e)
  have frlt : ∀ b ∈ X0.fs, b < X0.s_0.heap.objs.size := fun b hb => by
    obtain ⟨_, o, h1, _⟩ := S.ok.funs.mem hb
    exact Heap.lt_size h1
  have way : ∀ b ∈ pv0 X0, X0.s_0.heap.objs.size ≤ b := fun b hb => by
    rcases List.mem_cons.mp hb with z | z
    · rw [z, S.loc]; exact Nat.le_refl _
    · obtain ⟨x, hx⟩ := of_cells z
      exact S.cab x b hx
  have nfs : ∀ b ∈ pv0 X0, b ∉ X0.fs := fun b hb hf => absurd (Nat.lt_of_lt_of_le (frlt b hf) (way b hb)) (Nat.lt_irrefl _)
  have nbs : ∀ b ∈ pv0 X0, X0.base.get? b = none := fun b hb => by
    cases q : X0.base.get? b with
    | none => rfl
    | some o => exact absurd (Nat.lt_of_lt_of_le (Nat.lt_of_lt_of_le (Heap.lt_size q) S.ok.bsz) (way b hb)) (Nat.lt_irrefl _)
  have hn : ∀ b ∈ pv0 X0, b ∉ ([] : List Addr) → Hc b = none := fun b hb _ => by
    rcases List.mem_cons.mp hb with z | z
    · rw [z]; exact I.free
    · obtain ⟨x, hx⟩ := of_cells z
      exact I.freeC x b hx
  have ny : ∀ b ∈ young s.heap X0.env.locals (pv0 X0) H, H b = none := fun b hb => (mem_young.mp hb).2.2.1
  have gr := grow_add (h := s.heap) rh ny
  have I' : Inv (reX X0 X0.s_0 X0.H_0) [] σ Hc s1 := by
    have e : reX X0 X0.s_0 X0.H_0 = X0 := by
      unfold reX
      rw [← hpn]
    rw [e]; exact I
  have J := gone_inv S.ok (own := []) ⟨S.loc, S.ex, mL, mC, fun b hb => (by cases hb), fun p hp => (by cases hp), nfs, nbs, fun x c _ e => S.cab x c e⟩ I' (fun b hb => by cases hb) hn g
  rw [ownP_nil] at J
  have wl : X0.env.locals < s.heap.objs.size := by
    obtain ⟨m, ⟨o, _, _, h1, _⟩, _⟩ := I.loc
    exact Heap.lt_size ((g.kept _ mL).trans h1)
  exact ⟨_, _, J, sok_again k hp (er.trans gr.r) (eh.trans gr.h) gr.rh, rh, g.cut, g.hok, S.ex, mL, mC, fun p hp => (by cases hp), rfl, nfs, nbs,
    fun b hb => let ⟨_, o, e, _⟩ := g.funs.mem hb; ⟨o, e⟩, fun b o e => ⟨o, (g.base b o e).1⟩, wl⟩
/-- the generator's code runs to its next yield or its end -/
theorem gst_body {A : Around} {body : List Stmt} {Pre : YP} (ov : A.deeper X0.env = X0.A) (h : YWB X0 body Pre fun ds Γ => ds = [] ∧ ∀ x ∈ Γ, plainS x = true) {W : Wake} {ip : List (Addr × Obj)} {ds : List D} {Γ : List Slot} {σ : L2.St} {R H : Hp} {s : Shared} (a : Awake X0 W ip Γ σ R H s) (p : Pre ds Γ) :
    Gst (model X0.prog X0.w) A (GPhi X0 A W ds) (.func body X0.env) ((model X0.prog X0.w).den (.func body X0.env)) [] s := by
  refine gst_func ?_
  refine h.run A ip R _ [] _ _ id id ⟨over_func.trans ov, rfl, rfl, rfl⟩ ?_ W ds Γ σ R H s a (fun b o _ q => q) p
  intro W' ds' Γ' σ' R' H' s' a' _ q
  obtain ⟨rfl, hpl⟩ := q
  refine gst_end (.ok (.ret .none)) ?_
  obtain ⟨R1, H1, t, _⟩ := a'.turn hpl
  exact ⟨rfl, .inl rfl, R1, H1, t.t, t.g, fun b hb => by cases hb⟩
end
end DL

end
section
set_option Elab.async false
set_option linter.all false
set_option autoImplicit true
set_option maxRecDepth 100000
set_option maxHeartbeats 1000000
/-! a generator def is called -/
namespace DL
open PySem PySem.Spec PyProof.Rows GenW L2
/-- the context of a generator def's body, from its call; no exception leaves it -/
def gX (P : Program) (w : World) (K : PySem.W.Frag) (mg : Str → Option Value) (base : Heap) (N : List Str) (qual : Str) (scope : Scope) (f : Addr) (cd : Value) (A : Around) (outer : List Env) (s : Shared) (H : Hp) : Cx :=
  { gcxOf P w K mg base N qual scope f cd A outer s H (fun _ _ _ => False) [] with xe := fun _ _ => False }
/-- a generator is made: woken wherever its consumer has come to (what was tracked at the call still stands at the first wake), it hands out ds -/
def GMd (P : Program) (w : World) (K : PySem.W.Frag) (base : Heap) (k : Nat) (outer : List Env) (R H : Hp) (s : Shared) (ds : List D) (u : Value) (s' : Shared) : Prop :=
  ∃ (a : Addr) (g : Nat) (code : Code) (pv : List Addr) (sy : Shared), u = .ref a ∧ (∀ b ∈ pv, s.heap.objs.size ≤ b ∧ b < a ∧ ∃ o, sy.heap.get? b = some o) ∧ (∀ b o, sy.heap.get? b = some o → s'.heap.get? b = some o) ∧ (∀ b o, s.heap.get? b = some o → s'.heap.get? b = some o) ∧
    s.heap.objs.size ≤ a ∧ a < s'.heap.objs.size ∧ s'.heap.IsGen a g ∧ s'.gens[g]? = some (.fresh code) ∧ s'.os = s.os ∧ AllBare s'.gens ∧ s'.heap.NoLimit ∧
    ∀ (Aw : Around), Room k Aw → Aw.frames = some outer → ∃ X0 : Cx, X0.prog = P ∧ X0.w = w ∧ X0.K = K ∧ X0.base = base ∧ X0.outer = outer ∧ X0.s_0.os = s.os ∧ X0.env.locals = s.heap.objs.size ∧
      ∀ s2 R2 H2, Gone X0 pv sy s2 H2 → Ex R R2 → Ex H H2 → Ex R2 H2 → Gst (model P w) Aw (GPhi X0 Aw ⟨s2, R2, H2, pv⟩ ds) code ((model P w).den code) [] s2
theorem gen_made {P : Program} {w : World} {K : PySem.W.Frag} {mg : Str → Option Value} {base : Heap} {k : Nat} {f : Addr} {name qual : Str} {params : Arguments} {body : List Stmt} {scope : Scope} {dV kV doc pm cdv ct oc : Value} {an od : Option Addr}
    {osl : Array (Option Value)} {N ps : List Str} (lk : K.lookup f = some ⟨oc, od, .func (PySem.W.fnOf name qual params body scope dV kV doc pm an cdv ct), osl⟩) (hcd : PySem.W.codeIn K cdv qual = true) (S : GScope N ps scope)
    {A : Around} {outer : List Env} {s : Shared} {R H : Hp} {args : Args} {us : List Value} {vs : List V} {c : Cc} {Γ : SL} {ds : List D} (hr : Room (k + 1) A) (e0 : Env0 P w K mg base A outer s H) (hb : BindsTo s (PySem.W.fnOf name qual params body scope dV kV doc pm an cdv ct) args (ps.zip us)) (r : Vals vs us) (hl : vs.length = ps.length)
    (sk : SOk K c Γ (start N vs) R H) (hp : ∀ x ∈ Γ, argS x = true)
    (hbody : ∀ (Aw : Around), Room k (Aw.deeper (envOfC qual scope s.heap.objs.size f cdv)) → GenS (gX P w K mg base N qual scope f cdv Aw outer s H) → ∃ Pre : YP, YWB (gX P w K mg base N qual scope f cdv Aw outer s H) body Pre (fun ds Γ => ds = [] ∧ ∀ x ∈ Γ, plainS x = true) ∧ Pre ds Γ) :
    codeAny (model P w) A (.call (.ref f) args) (fun r s' => match r with | .ok (.ret u) => GMd P w K base (k + 1) outer R H s ds u s' | _ => False) s := by
  have KX : K.In s.heap := e0.mod.kin.keeps fun b o e => (e0.bs b o e).1
  have lim : s.heap.NoLimit := e0.mod.nolimit.keeps fun b o e => (e0.bs b o e).1
  have hkind : ∀ y ∈ ps.zip us, scope.names.lookup y.1 = some .local ∨ (scope.names.lookup y.1 = some .cell ∧ ((cellsFrom (s.heap.objs.size + 1) scope.names []).lookup y.1).isSome = true) := fun ⟨n, v⟩ hy => by
    rcases S.par n (List.of_mem_zip hy).1 with q | q
    · exact .inl q
    · exact .inr ⟨q, PySem.W.cellsFrom_some _ _ _ (.inl q)⟩
  refine codeAny_call_generator hr.depth (KX _ _ lk) rfl S.co S.gen rfl (PySem.W.codeRec_of KX hcd) (hb _ _ _ _ ?_)
  refine wpAny_newFunctionEnv_cells S.kind hkind fun env he s1 x => ?_
  subst he
  have lim1 : s1.heap.NoLimit := lim.keeps x.toInCall.keep
  refine ⟨lim1, ?_⟩
  obtain ⟨h1, tk, es1, hk1⟩ := x.done
  have os1 : s1.os = s.os := by rw [es1]
  have gen1 : s1.gens = s.gens := by rw [es1]
  have lt1 : s.heap.objs.size < s1.heap.objs.size := x.toInCall.ns.lt
  have sz1 : s.heap.objs.size ≤ s1.heap.objs.size := Nat.le_of_lt lt1
  have kp1 : ∀ b o, s.heap.get? b = some o → s1.heap.get? b = some o := x.toInCall.keep
  have cabv : ∀ y c, (cellsFrom (s.heap.objs.size + 1) scope.names []).lookup y = some c → s.heap.objs.size ≤ c := fun y c h => Nat.le_of_lt (x.above y c (PySem.mem_of_lookup h))
  have inv : ∀ Aw : Around, Aw.handled = none → Aw.frames = some outer → Inv (gX P w K mg base N qual scope f cdv Aw outer s H) [] (start N vs) H s1 := fun Aw hh hfr => by
    have I := inv_startG (E := fun _ _ _ => False) S hh (⟨hfr, e0.mod, e0.bs, e0.bsz, e0.funs, e0.frf, e0.hok, e0.bare⟩ : Env0 P w K mg base Aw outer s H) hl r x
    exact ⟨⟨I.ok.mod, I.ok.kind, I.ok.glob, I.ok.blt, I.ok.above, I.ok.inj, I.ok.has, I.ok.cab, I.ok.hd, I.ok.frames, I.ok.stk, I.ok.exf, I.ok.bs, I.ok.bsz, I.ok.noex, I.ok.exfs, I.ok.funs, I.ok.frf⟩, I.os, I.bare, I.base, I.loc, I.cell, I.free, I.freeC, I.pin, I.hok, I.len⟩
  have main : ∀ (go : Obj) (nm qn : Value) (tk2 : Nat), go.cls = .type "generator" → go.data = .fields #[.int s1.gens.size 0, nm, qn] → go.slots = #[] → (∀ h : Heap, (h.push go).get? h.objs.size = some go) →
      GMd P w K base (k + 1) outer R H s ds (.ref s1.heap.objs.size) { s1 with gens := s1.gens.push (.fresh (.func body (envOfC qual scope s.heap.objs.size f cdv))), toks := tk2, heap := s1.heap.push go } := by
    intro go nm qn tk2 hgc hgd0 hgs hgp
    have I1 := inv A hr.hd e0.frames
    refine ⟨s1.heap.objs.size, s1.gens.size, _, pv0 (gX P w K mg base N qual scope f cdv A outer s H), s1, rfl, fun b hb => ?_, fun b o e => Heap.get?_push_of_some _ e, fun b o e => Heap.get?_push_of_some _ (kp1 b o e), sz1, ?_, ⟨go, nm, qn, hgp _, hgc, hgd0, hgs⟩, Array.getElem?_push_size .., os1, ?_, lim1.keeps fun b o e => Heap.get?_push_of_some _ e, fun Aw hrw hfr => ?_⟩
    · rcases List.mem_cons.mp hb with z | z
      · obtain ⟨m, ⟨o, _, _, h1, _⟩, _⟩ := I1.loc
        rw [z]
        exact ⟨Nat.le_refl _, lt1, o, h1⟩
      · obtain ⟨y, hy⟩ := of_cells z
        obtain ⟨v, o, h1, _⟩ := I1.cell y b hy
        exact ⟨cabv y b hy, Heap.lt_size h1, o, h1⟩
    · show _ < (s1.heap.push _).objs.size
      rw [Heap.size_push]; exact Nat.lt_succ_self _
    · exact AllBare.push (by rw [gen1]; exact e0.bare) rfl
    · have Iw := inv Aw hrw.hd hfr
      have gs : GenS (gX P w K mg base N qual scope f cdv Aw outer s H) := ⟨Iw.ok, rfl, rfl, cabv⟩
      obtain ⟨Pre, hy, hpre⟩ := hbody Aw (hrw.deeper _) gs
      refine ⟨gX P w K mg base N qual scope f cdv Aw outer s H, rfl, rfl, rfl, rfl, rfl, rfl, rfl, fun s2 R2 H2 g er eh rh => ?_⟩
      obtain ⟨R3, H3, aw⟩ := first_wake gs rfl Iw sk hp g er eh rh
      exact gst_body (X0 := gX P w K mg base N qual scope f cdv Aw outer s H) rfl hy aw hpre
  exact main _ _ _ _ rfl rfl rfl fun h => Heap.get?_push_size _ rfl
end DL

end
section
set_option Elab.async false
set_option linter.all false
set_option autoImplicit true
set_option maxRecDepth 100000
set_option maxHeartbeats 1000000
/-! the consumer of a generator, turn by turn -/
namespace DL
open PySem PySem.Spec PyProof.Rows GenW L2
/-- the consumer holds a generator at a (number g), asleep, with ds to come -/
structure Holds (X : Cx) (c : Cc) (pins : List (Addr × Obj)) (X0 : Cx) (a : Addr) (g : Nat) (hv : List Addr) (sy : Shared) (R : Hp) (s : Shared) : Prop where
  str : ∀ b ∈ hv, Strange X pins b
  h0 : ∀ b ∈ hv, c.H0 b = none
  r0 : ∀ b ∈ hv, c.R0 b = none
  held : ∀ b ∈ hv, ∃ o, sy.heap.get? b = some o ∧ R b = some (fxo o)
  mem : a ∈ hv
  gen : sy.heap.IsGen a g
  prog : X0.prog = X.prog
  w : X0.w = X.w
  K : X0.K = X.K
  base : X0.base = X.base
  outer : X0.outer = X.stack
  os : X0.s_0.os = X.s_0.os
  low : X.s_0.heap.objs.size ≤ X0.env.locals
  la : X0.env.locals ≤ a
section
variable {X X0 : Cx} {c : Cc} {pins : List (Addr × Obj)} {a : Addr} {g : Nat} {hv pv : List Addr} {sy s : Shared} {R H : Hp} {σ : L2.St} {Γ : SL}
theorem Holds.hd (h : Holds X c pins X0 a g hv sy R s) : Held hv R := fun b hb => let ⟨o, _, e⟩ := h.held b hb; ⟨o, e⟩
theorem Holds.kept (h : Holds X c pins X0 a g hv sy R s) (I : Inv X pins σ H s) (rh : Ex R H) : ∀ b ∈ hv, s.heap.get? b = sy.heap.get? b := fun b hb => by
  obtain ⟨o, e1, e2⟩ := h.held b hb
  have q := (I.hok b _ (rh b _ e2)).1
  rw [e1]; exact q
/-- the consumer has gone on; so the generator may be woken -/
theorem Holds.gone (h : Holds X c pins X0 a g hv sy R s) (I : Inv X pins σ H s) (rh : Ex R H) (hp : ∀ b ∈ pv, b ∈ hv) {G : Array GenState} (hG : AllBare G) : Gone X0 pv sy { s with gens := G } (cutP hv H) := by
  have I' := DL.Inv.cutP I (h.hd.ex rh) h.str
  refine ⟨I.os.trans h.os.symm, hG, fun b hb => h.kept I rh b (hp b hb), ?_, fun b hb => cutP_in (hp b hb), fun b o e => ?_, ?_, fun b hb => ?_⟩
  · rw [h.prog, h.w]; exact I'.hok
  · rw [h.base] at e; exact I'.bs b o e
  · rw [h.base, h.outer]; exact I'.stack
  · have hb : b ∈ frs X0.outer := hb
    rw [h.outer] at hb
    exact I'.stkFree b hb
/-- a turn is over; es: what else is held over it -/
theorem Holds.turn {es : List Addr} (h : Holds X c pins X0 a g hv sy R s) (I : Inv X pins σ H s) (k : SOk X.K c Γ σ R H) (hp : ∀ b ∈ pv, b ∈ hv) (he : ∀ b ∈ es, b ∈ hv ∧ X0.env.locals ≤ b ∧ b ∉ pv) (ha : a ∈ es) (hex : X.ex = []) {pv1 : List Addr} {R1 H1 : Hp} {s1 : Shared} (t : TurnG X0 pv pv1 (cutP hv R) (cutP hv H) R1 H1 s s1) :
    ∃ R' H', Inv X pins σ H' s1 ∧ SOk X.K c Γ σ R' H' ∧ Ex (cutP hv R) R' ∧ Ex R1 R' ∧ Holds X c pins X0 a g (es ++ pv1) s1 R' s1 ∧ (∀ b ∈ es ++ pv1, cutP hv R b = none) ∧ ∀ b ∈ es, s1.heap.get? b = s.heap.get? b := by
  have I' := DL.Inv.cutP I (h.hd.ex k.rh) h.str
  have k' := k.cut h.hd h.h0 h.r0
  have tt : Turned X.prog X.w (frs X.stack) X0.env.locals pv (cutP hv H) H1 s s1 := by
    have := t.t
    rw [h.prog, h.w] at this
    have e : X0.fs = frs X.stack := by show frs X0.outer = _; rw [h.outer]
    rw [e] at this
    exact this
  have J := turned_inv I' (fun b hb => h.str b (hp b hb)) h.low tt
  have kJ := k'.grow t.g
  obtain ⟨oa, ea, _⟩ := h.held a h.mem
  have yes : ∀ b ∈ es, ∃ ob, s.heap.get? b = some ob ∧ s1.heap.get? b = some ob ∧ H1 b = none := fun b hb => by
    obtain ⟨e1, e2, e3⟩ := he b hb
    obtain ⟨ob, eb, _⟩ := h.held b e1
    have eb' : s.heap.get? b = some ob := (h.kept I k.rh b e1).trans eb
    obtain ⟨eb1, nb1⟩ := tt.young b ob eb' e2 e3 (cutP_in e1)
    exact ⟨ob, eb', eb1, nb1⟩
  have ea1 : s1.heap.get? a = some oa := by
    obtain ⟨ob, q1, q2, _⟩ := yes a ha
    have ea' : s.heap.get? a = some oa := (h.kept I k.rh a h.mem).trans ea
    rw [ea'] at q1; cases q1; exact q2
  have hn : ∀ b ∈ es ++ pv1, H1 b = none := fun b hb => by
    rcases List.mem_append.mp hb with z | z
    · obtain ⟨_, _, _, q⟩ := yes b z; exact q
    · exact (t.own b z).2.1
  have st : ∀ b ∈ es ++ pv1, Strange X pins b := fun b hb => by
    rcases List.mem_append.mp hb with z | z
    · exact h.str b (he b z).1
    · rcases (t.own b z).1 with q | q
      · exact h.str b (hp b q)
      · by_cases z2 : b ∈ hv
        · exact h.str b z2
        · have q1 : H b = none := by
            cases q3 : H b with
            | none => rfl
            | some u =>
              obtain ⟨o, e⟩ := objok_there (I.hok b u q3)
              rw [q] at e; cases e
          exact strange_new I q q1 (by rw [hex]; simp)
  have zero : ∀ b ∈ es ++ pv1, cutP hv H b = none := fun b hb => by
    cases q : cutP hv H b with
    | none => rfl
    | some u =>
      have := t.g.h b u q
      rw [hn b hb] at this; cases this
  have h0' : ∀ b ∈ es ++ pv1, c.H0 b = none := fun b hb => by
    cases q : c.H0 b with
    | none => rfl
    | some u => exact absurd (zero b hb) (k'.pr b (by rw [q]; simp))
  have r0' : ∀ b ∈ es ++ pv1, c.R0 b = none := fun b hb => by
    cases q : c.R0 b with
    | none => rfl
    | some u =>
      have := k'.rh b u (k'.r0 b u q)
      rw [zero b hb] at this; cases this
  have ga := grow_add (h := s1.heap) kJ.rh hn
  have obj : ∀ b ∈ es ++ pv1, ∃ o, s1.heap.get? b = some o := fun b hb => by
    rcases List.mem_append.mp hb with z | z
    · obtain ⟨ob, _, q, _⟩ := yes b z; exact ⟨ob, q⟩
    · exact (t.own b z).2.2
  refine ⟨addP (es ++ pv1) s1.heap R1, addP (es ++ pv1) s1.heap H1, DL.Inv.addP J hn st, kJ.grow ga, t.g.r.trans ga.r, ga.r, ⟨st, h0', r0', fun b hb => ?_, List.mem_append_left _ ha, ?_, h.prog, h.w, h.K, h.base, h.outer, h.os, h.low, h.la⟩, fun b hb => k'.rh.back (zero b hb), fun b hb => by
    obtain ⟨ob, q1, q2, _⟩ := yes b hb
    rw [q1, q2]⟩
  · obtain ⟨o, e⟩ := obj b hb
    exact ⟨o, e, addP_in hb e⟩
  · obtain ⟨o, nm, qn, q1, q2⟩ := h.gen
    rw [ea] at q1; cases q1
    exact ⟨_, nm, qn, ea1, q2⟩
theorem GoesS.mono {M : Model} {A : Around} {Φ Φ' : End → Shared → Prop} {gs : GenState} {s : Shared} (h : GoesS M A Φ gs s) (k : ∀ e s, Φ e s → Φ' e s) : GoesS M A Φ' gs s := by
  cases gs with
  | fresh c => exact Gst.mono h k
  | suspended k₀ l₀ c₀ p₀ fs₀ cl => exact Gst.mono h k
  | running => exact h.elim
  | finished => exact h.elim
theorem inv_gens (I : Inv X pins σ H s) {G : Array GenState} (hG : AllBare G) : Inv X pins σ H { s with gens := G } :=
  ⟨I.ok, I.os, hG, I.base, I.loc, I.cell, I.free, I.freeC, I.pin, I.hok, I.len⟩
theorem Holds.at (h : Holds X c pins X0 a g hv sy R s) (s' : Shared) : Holds X c pins X0 a g hv sy R s' := ⟨h.str, h.h0, h.r0, h.held, h.mem, h.gen, h.prog, h.w, h.K, h.base, h.outer, h.os, h.low, h.la⟩
/-- asleep, it may be woken -/
theorem Holds.wakes {gs : GenState} {Ry : Hp} {ds : List D} {Aw : Around} (h : Holds X c pins X0 a g hv sy R s) (I : Inv X pins σ H s) (k : SOk X.K c Γ σ R H) (hp : ∀ b ∈ pv, b ∈ hv) (hG : GenOn X0 Aw ds gs pv Ry sy) (ey : Ey Ry R) :
    GoesS (model X0.prog X0.w) Aw (GPhi X0 Aw ⟨s.setGen g .running, cutP hv R, cutP hv H, pv⟩ ds) gs (s.setGen g .running) :=
  genOn_iff.mp hG (s.setGen g .running) (cutP hv R) (cutP hv H) (h.gone I k.rh hp (allBare_setGen I.bare rfl)) (k.cut h.hd h.h0 h.r0).rh (fun b o n e => h.hd.ey b o n (ey b o n e))
/-- next(g): an item -/
theorem gen_item {gs : GenState} {d : D} {ds : List D} {E : Value → Shared → Prop} {B : Around} {es : List Addr} (h : Holds X c pins X0 a g hv sy R s) (I : Inv X pins σ H s) (k : SOk X.K c Γ σ R H) (hp : ∀ b ∈ pv, b ∈ hv) (hes : ∀ b ∈ es, b ∈ hv ∧ X0.env.locals ≤ b ∧ b ∉ pv) (ha : a ∈ es) (hex : X.ex = []) (hgs : s.gens[g]? = some gs) (go : GoesS (model X0.prog X0.w) B.in1 (GPhi X0 B.in1 ⟨s.setGen g .running, cutP hv R, cutP hv H, pv⟩ (d :: ds)) gs (s.setGen g .running)) (hh : B.handled = none) (hroom : B.depth < recursionLimit) :
    wpAny (model X.prog X.w) B (pyNext (.ref a)) (fun r s' => ∃ v x R1 R' H' pv1 gs' sy', r = some v ∧ RelV x v ∧ Rp X.K R1 d x ∧ Ex R1 R' ∧ Inv X pins σ H' s' ∧ SOk X.K c Γ σ R' H' ∧ Ex (cutP hv R) R' ∧ Holds X c pins X0 a g (es ++ pv1) sy' R' s' ∧ (∀ b ∈ es, b ∉ pv1) ∧ s'.gens[g]? = some gs' ∧ GenOn X0 B.in1 ds gs' pv1 R1 sy' ∧ Asleep s'.gens g ∧ (∀ b ∈ es ++ pv1, cutP hv R b = none) ∧ ∀ b ∈ es, s'.heap.get? b = s.heap.get? b) E s := by
  have hgl : g < s.gens.size := (Array.getElem?_eq_some_iff.mp hgs).1
  have gn : s.heap.IsGen a g := by
    obtain ⟨o, nm, qn, q1, q2⟩ := h.gen
    exact ⟨o, nm, qn, (h.kept I k.rh a h.mem).trans q1, q2⟩
  rw [h.prog, h.w] at go
  have I0 : Inv X pins σ H (s.setGen g .running) := inv_gens I (allBare_setGen I.bare rfl)
  refine wpAny_gsz (n := g + 1) hgl (next_S hh I.nolimit hroom gn hgs (go.mono fun e s1 z => ⟨z.1, ?_⟩))
  obtain ⟨zq, z⟩ := z
  cases e with
  | ret r => exact z.elim
  | susp v g₀ l₀ k₀ c₀ p₀ fs₀ =>
    intro hsz
    obtain ⟨R1, H1, pv1, x, t, rv, rp, gon⟩ := z
    obtain ⟨R', H', J, kJ, e1, e2, hJ, hz, hk⟩ := (h.at (s.setGen g .running)).turn I0 k hp hes ha hex t
    have sz : g < s1.gens.size := by
      have q : (s1.setGen g (End.susp v g₀ l₀ k₀ c₀ p₀ fs₀).genState).gens.size = s1.gens.size := setGen_size _ _ _
      have hsz' : g + 1 ≤ (s1.setGen g (End.susp v g₀ l₀ k₀ c₀ p₀ fs₀).genState).gens.size := hsz
      omega
    refine ⟨v, x, R1, R', H', pv1, _, s1, rfl, rv, by rw [← h.K]; exact rp, e2, inv_gens J (allBare_setGen J.bare (End.bare_of_quiet zq)), kJ, e1, hJ.at _, fun b hb hb1 => ?_, setGen_at sz, gon, ⟨_, _, _, _, _, _, setGen_at sz⟩, hz, hk⟩
    obtain ⟨q1, q2, q3⟩ := hes b hb
    rcases (t.own b hb1).1 with q | q
    · exact q3 q
    · obtain ⟨o, e, _⟩ := h.held b q1
      have q4 := h.kept I k.rh b q1
      have q : s.heap.get? b = none := q
      rw [q, e] at q4; cases q4
/-- next(g): its end -/
theorem gen_end {gs : GenState} {E : Value → Shared → Prop} {B : Around} {es : List Addr} (h : Holds X c pins X0 a g hv sy R s) (I : Inv X pins σ H s) (k : SOk X.K c Γ σ R H) (hp : ∀ b ∈ pv, b ∈ hv) (hes : ∀ b ∈ es, b ∈ hv ∧ X0.env.locals ≤ b ∧ b ∉ pv) (ha : a ∈ es) (hex : X.ex = []) (hgs : s.gens[g]? = some gs) (go : GoesS (model X0.prog X0.w) B.in1 (GPhi X0 B.in1 ⟨s.setGen g .running, cutP hv R, cutP hv H, pv⟩ []) gs (s.setGen g .running)) (hh : B.handled = none) (hroom : B.depth < recursionLimit) :
    wpAny (model X.prog X.w) B (pyNext (.ref a)) (fun r s' => r = none ∧ ∃ R' H' sy', Inv X pins σ H' s' ∧ SOk X.K c Γ σ R' H' ∧ Ex (cutP hv R) R' ∧ Holds X c pins X0 a g es sy' R' s' ∧ (∀ b ∈ es, cutP hv R b = none) ∧ ∀ b ∈ es, s'.heap.get? b = s.heap.get? b) E s := by
  have gn : s.heap.IsGen a g := by
    obtain ⟨o, nm, qn, q1, q2⟩ := h.gen
    exact ⟨o, nm, qn, (h.kept I k.rh a h.mem).trans q1, q2⟩
  rw [h.prog, h.w] at go
  have I0 : Inv X pins σ H (s.setGen g .running) := inv_gens I (allBare_setGen I.bare rfl)
  refine next_S hh I.nolimit hroom gn hgs (go.mono fun e s1 z => ⟨z.1, ?_⟩)
  obtain ⟨zq, z⟩ := z
  cases e with
  | susp v g₀ l₀ k₀ c₀ p₀ fs₀ => exact z.elim
  | ret r =>
    obtain ⟨hr, R1, H1, t⟩ := z
    refine ⟨hr, fun h' hk => ⟨rfl, ?_⟩⟩
    obtain ⟨R', H', J, kJ, e1, e2, hJ, hz, hks⟩ := (h.at (s.setGen g .running)).turn I0 k hp hes ha hex t
    rw [List.append_nil] at hJ hz
    have J2 : Inv X pins σ H' { s1.setGen g .finished with heap := h' } := inv_gens (J.kept (t' := s1.toks) hk) (allBare_setGen J.bare rfl)
    refine ⟨R', H', s1, J2, kJ, e1, hJ.at _, hz, fun b hb => ?_⟩
    obtain ⟨o, q1, q2⟩ := hJ.held b hb
    have q3 : s1.heap.get? b = s.heap.get? b := hks b hb
    rw [← q3, q1]
    exact hk b o q1
end
end DL

end
section
set_option Elab.async false
set_option linter.all false
set_option autoImplicit true
set_option maxRecDepth 100000
set_option maxHeartbeats 1000000
/-! for over a generator -/
namespace DL
open PySem PySem.Spec PyProof.Rows GenW L2
section
variable {X X0 : Cx} {c : Cc} {n : Nm} {pins : List (Addr × Obj)} {a : Addr} {g : Nat}
/-- a statement's step, while a generator sleeps -/
theorem sp_asleep {s : Shared} {E : Ends} {t : Sem Flow} (hx : X.xe = fun _ _ => False) (hb : AllBare s.gens) (hg : Asleep s.gens g) (h : ∀ G, AllBare G → wpAny (model X.prog X.w) X.A t (SP X pins E) X.xe { s with gens := G }) {EE : Value → Shared → Prop} :
    wpAny (model X.prog X.w) X.A t (fun f s' => SP X pins E f s' ∧ s'.gens[g]? = s.gens[g]?) EE s := by
  have q := wpAny_asleep (h _ (allBare_pois hb))
  refine wpAny_mono q (fun f s' hf => ?_) fun e s' z => ?_
  · obtain ⟨Gt, r, sp⟩ := hf
    obtain ⟨k, l, c', p, fs, cl, h1, h2, _⟩ := r.pr g hg
    refine ⟨?_, by rw [h1, h2]⟩
    have back : ∀ {σ : L2.St} {H : Hp}, Inv X pins σ H { s' with gens := Gt } → Inv X pins σ H s' := fun {σ H} I => inv_gens (s := { s' with gens := Gt }) I (r.bare I.bare)
    cases f with
    | next => obtain ⟨σ, H, I, q⟩ := sp; exact ⟨σ, H, back I, q⟩
    | brk => obtain ⟨σ, H, I, q⟩ := sp; exact ⟨σ, H, back I, q⟩
    | cont => obtain ⟨σ, H, I, q⟩ := sp; exact ⟨σ, H, back I, q⟩
    | ret u => obtain ⟨v, σ, H, I, r', q⟩ := sp; exact ⟨v, σ, H, back I, r', q⟩
  · obtain ⟨Gt, r, z⟩ := z
    rw [hx] at z; exact z.elim
theorem gen_forLoop {nm : Str} {tp : Pos} {body : List Stmt} {De : DE} {E : Ends} {Rb : Hp} (j : Nat) (Iv : Nat → SL → Prop) (ds : List D) (hn : NOk X n c) (hx : X.xe = fun _ _ => False) (hex : X.ex = []) (hh : X.A.handled = none) (hroom : X.A.depth < recursionLimit)
    (hj : n.N[j]? = some nm) (ha : n.as.contains j = true) (hoi : n.oi.contains j = false) (ok : EndsOk X.K c Rb De E)
    (hs : ∀ i Γ' d, ds[i]? = some d → Iv i Γ' → WB X n c (Γ'.set j (.d d)) body (turnE De (Iv (i + 1)))) (hd : ∀ Γ', Iv ds.length Γ' → De.nx Γ')
    {s : Shared} {σ : L2.St} {Γ : SL} {R H : Hp} {hv pv : List Addr} {sy : Shared} {gs : GenState} (I : Inv X pins σ H s) (k : SOk X.K c Γ σ R H) (eb : Ex Rb R) (nb : ∀ b ∈ hv, Rb b = none) (h : Holds X c pins X0 a g hv sy R s) (hp : ∀ b ∈ pv, b ∈ hv) (hpa : a ∉ pv) (hgs : s.gens[g]? = some gs)
    (go : GoesS (model X0.prog X0.w) X.A.in1 (GPhi X0 X.A.in1 ⟨s.setGen g .running, cutP hv R, cutP hv H, pv⟩ ds) gs (s.setGen g .running)) (iv : Iv 0 Γ) :
    codeAny (model X.prog X.w) X.A (.forLoop (.Name nm tp) (.ref a) body [] X.env) (fun r s' => match r with | .ok f => SP X pins E f s' | .error e => cameBackBy (model X.prog X.w) X.A X.env X.xe e s') s := by
  obtain ⟨l1, l2⟩ := hn.loc j nm ha hj
  refine codeAny_forLoop_any (fun m s => ∃ (i : Nat) (σ : L2.St) (Γ : SL) (R H : Hp) (hv pv : List Addr) (sy : Shared) (gs : GenState), i + m = ds.length ∧ Inv X pins σ H s ∧ SOk X.K c Γ σ R H ∧ Ex Rb R ∧ (∀ b ∈ hv, Rb b = none) ∧ Holds X c pins X0 a g hv sy R s ∧ (∀ b ∈ pv, b ∈ hv) ∧ a ∉ pv ∧ s.gens[g]? = some gs ∧
    GoesS (model X0.prog X0.w) X.A.in1 (GPhi X0 X.A.in1 ⟨s.setGen g .running, cutP hv R, cutP hv H, pv⟩ (ds.drop i)) gs (s.setGen g .running) ∧ Iv i Γ) ?_ ds.length ⟨0, σ, Γ, R, H, hv, pv, sy, gs, Nat.zero_add _, I, k, eb, nb, h, hp, hpa, hgs, go, iv⟩
  clear I k eb nb h hp hpa hgs go iv
  rintro m s ⟨i, σ, Γ, R, H, hv, pv, sy, gs, hm, I, k, eb, nb, h, hp, hpa, hgs, go, iv⟩
  cases e : ds[i]? with
  | none =>
    have hi : i = ds.length := by
      have := List.getElem?_eq_none_iff.mp e
      omega
    subst hi
    rw [List.drop_length] at go
    refine wpAny_mono (gen_end (es := [a]) h I k hp (fun b hb => by rw [List.mem_singleton.mp hb]; exact ⟨h.mem, h.la, hpa⟩) List.mem_cons_self hex hgs go hh hroom (E := _)) (fun r s' q => ?_) fun _ _ z => z
    obtain ⟨rfl, R', H', _, I', k', e', _⟩ := q
    have e2 : Ex Rb R' := fun b o z => e' b o (by
      have : b ∉ hv := fun z2 => by rw [nb b z2] at z; cases z
      rw [cutP_out this]; exact eb b o z)
    exact wpAny_execs_nil ⟨σ, H', I', ok.nx σ R' H' Γ k' e2 (hd Γ iv)⟩
  | some d =>
    have hi : i < ds.length := (List.getElem?_eq_some_iff.mp e).1
    have hdr : ds.drop i = d :: ds.drop (i + 1) := by
      rw [List.drop_eq_getElem_cons hi]
      congr 1
      exact (List.getElem?_eq_some_iff.mp e).2
    rw [hdr] at go
    refine wpAny_mono (gen_item (es := [a]) h I k hp (fun b hb => by rw [List.mem_singleton.mp hb]; exact ⟨h.mem, h.la, hpa⟩) List.mem_cons_self hex hgs go hh hroom (E := _)) (fun r s1 q => ?_) fun _ _ z => z
    obtain ⟨v, x, R1, R', H', pv1, gs', sy', rfl, rv, rp, e1, I1, k1, e2, h1, na, hgs1, gon, asl, hz, _⟩ := q
    have na : a ∉ pv1 := na a List.mem_cons_self
    have h1 : Holds X c pins X0 a g (a :: pv1) sy' R' s1 := h1
    have hz : ∀ b ∈ a :: pv1, cutP hv R b = none := hz
    have e3 : Ex Rb R' := fun b o z => e2 b o (by
      have : b ∉ hv := fun z2 => by rw [nb b z2] at z; cases z
      rw [cutP_out this]; exact eb b o z)
    have nb1 : ∀ b ∈ a :: pv1, Rb b = none := fun b hb => by
      cases q : Rb b with
      | none => rfl
      | some u =>
        have z2 : b ∉ hv := fun z2 => by rw [nb b z2] at q; cases q
        have z3 := hz b hb
        rw [cutP_out z2, eb b u q] at z3; cases z3
    show wpAny _ _ (letOwnedTupleGo (.Name nm tp) (.ref a) v) _ _ _
    refine wpAny_pure ?_
    have pg : ∀ G, AllBare G → wpAny (model X.prog X.w) X.A (assign (.Name nm tp) X.env v) (fun _ s' => ∃ σ' H'', Inv X pins σ' H'' s' ∧ σ' = σ.set j (some x) ∧ H'' = H') X.xe { s1 with gens := G } := fun G hG =>
      (pg_name (X := X) (pos := tp) (i := j) (by rw [hn.eq]; exact hn.nd) (by rw [hn.eq]; exact hj) l1 l2).run pins { s1 with gens := G } σ H' x v (fun σ' H'' => σ' = σ.set j (some x) ∧ H'' = H') (inv_gens I1 hG) rv ⟨rfl, rfl⟩
    refine wpAny_mono (wpAny_asleep (pg _ (allBare_pois I1.bare))) (fun _ s2 h4 => ?_) fun e3 s3 z => by
      obtain ⟨_, _, z⟩ := z
      rw [hx] at z; exact z.elim
    obtain ⟨Gt, rg, σ2, H2, I2, rfl, rfl⟩ := h4
    have I2' : Inv X pins (σ.set j (some x)) H2 s2 := inv_gens (s := { s2 with gens := Gt }) I2 (rg.bare I2.bare)
    have g2 : s2.gens[g]? = some gs' ∧ Asleep s2.gens g := by
      obtain ⟨k0, l0, c0, p0, f0, cl0, z1, z2, _⟩ := rg.pr g asl
      exact ⟨by rw [z2, ← z1, hgs1], ⟨_, _, _, _, _, _, z2⟩⟩
    have okE := turnE_ok (E := E) (Nv := Iv (i + 1)) (Pv := fun σ' H'' => ∃ R2 Γ2, SOk X.K c Γ2 σ' R2 H'' ∧ Ex R' R2 ∧ Iv (i + 1) Γ2) ok e3 fun σ' R2 H'' Γ2 k2 e4 iv2 => ⟨R2, Γ2, k2, e4, iv2⟩
    have run := (hs i Γ d e iv).run hn (σ.set j (some x)) R' H2 (k1.setD j (Rp.mono e1 _ _ rp) (hn.noi hoi)) _ okE
    refine wpAny_mono (sp_asleep hx I2'.bare g2.2 (fun G hG => run pins _ (inv_gens I2' hG)) (EE := _)) (fun f s3 h5 => ?_) fun _ _ z => z
    obtain ⟨sp, g3⟩ := h5
    rw [g2.1] at g3
    have again : ∀ {σ3 : L2.St} {H3 : Hp}, Inv X pins σ3 H3 s3 → (∃ R2 Γ2, SOk X.K c Γ2 σ3 R2 H3 ∧ Ex R' R2 ∧ Iv (i + 1) Γ2) → ∃ m', m' < m ∧ ∃ (i : Nat) (σ : L2.St) (Γ : SL) (R H : Hp) (hv pv : List Addr) (sy : Shared) (gs : GenState), i + m' = ds.length ∧ Inv X pins σ H s3 ∧ SOk X.K c Γ σ R H ∧ Ex Rb R ∧ (∀ b ∈ hv, Rb b = none) ∧ Holds X c pins X0 a g hv sy R s3 ∧ (∀ b ∈ pv, b ∈ hv) ∧ a ∉ pv ∧ s3.gens[g]? = some gs ∧
        GoesS (model X0.prog X0.w) X.A.in1 (GPhi X0 X.A.in1 ⟨s3.setGen g .running, cutP hv R, cutP hv H, pv⟩ (ds.drop i)) gs (s3.setGen g .running) ∧ Iv i Γ := fun {σ3 H3} I3 ⟨R2, Γ2, k3, e4, iv3⟩ => by
      have h2 : Holds X c pins X0 a g (a :: pv1) sy' R2 s3 := ⟨h1.str, h1.h0, h1.r0, fun b hb => let ⟨o, q1, q2⟩ := h1.held b hb; ⟨o, q1, e4 b _ q2⟩, h1.mem, h1.gen, h1.prog, h1.w, h1.K, h1.base, h1.outer, h1.os, h1.low, h1.la⟩
      refine ⟨m - 1, by omega, i + 1, σ3, Γ2, R2, H3, a :: pv1, pv1, sy', gs', by omega, I3, k3, e3.trans e4, nb1, h2, fun b hb => List.mem_cons_of_mem _ hb, na, g3, ?_, iv3⟩
      exact h2.wakes I3 k3 (fun b hb => List.mem_cons_of_mem _ hb) gon fun b o _ q => e4 b o (e1 b o q)
    cases f with
    | next => obtain ⟨σ3, H3, I3, q⟩ := sp; exact again I3 q
    | cont => obtain ⟨σ3, H3, I3, q⟩ := sp; exact again I3 q
    | brk => obtain ⟨σ3, H3, I3, q⟩ := sp; exact ⟨σ3, H3, I3, q⟩
    | ret u => obtain ⟨v3, σ3, H3, I3, r3, q⟩ := sp; exact ⟨v3, σ3, H3, I3, r3, q⟩
end
end DL

end
section
set_option Elab.async false
set_option linter.all false
set_option autoImplicit true
set_option maxRecDepth 100000
set_option maxHeartbeats 1000000
/-! the statement: for x in g(..) -/
namespace DL
open PySem PySem.Spec PyProof.Rows GenW L2
/-- an expression that makes a generator, which will hand out ds -/
structure WGn (X : Cx) (n : Nm) (c : Cc) (Γ : SL) (e : Expr) (ds : List D) : Prop where
  run : NOk X n c → ∀ σ R H, SOk X.K c Γ σ R H → ∀ (pins : List (Addr × Obj)) (s : Shared), Inv X pins σ H s →
    wpAny (model X.prog X.w) X.A (eval e X.env) (fun u s' => ∃ R1 H1 s0 k, Inv X pins σ H1 s0 ∧ SOk X.K c Γ σ R1 H1 ∧ Ex R R1 ∧ Room (k + 3) X.A ∧ GMd X.prog X.w X.K X.base k X.stack R1 H1 s0 ds u s') X.xe s
section
variable {X : Cx} {c : Cc} {n : Nm}
/-- the first turn may begin -/
theorem gen_hold {pins : List (Addr × Obj)} {σ : L2.St} {Γ : SL} {R H : Hp} {s0 s' : Shared} {ds : List D} {u : Value} {k : Nat} (I : Inv X pins σ H s0) (sk : SOk X.K c Γ σ R H) (hex : X.ex = []) {B : Around} (hfr : B.in1.frames = some X.stack) (hr : Room k B.in1) (m : GMd X.prog X.w X.K X.base k X.stack R H s0 ds u s') :
    ∃ (a : Addr) (g : Nat) (X0 : Cx) (hv pv : List Addr) (R' H' : Hp) (gs : GenState), u = .ref a ∧ Inv X pins σ H' s' ∧ SOk X.K c Γ σ R' H' ∧ Ex R R' ∧ (∀ b ∈ hv, R b = none) ∧ Holds X c pins X0 a g hv s' R' s' ∧ (∀ b ∈ pv, b ∈ hv) ∧ a ∉ pv ∧ s'.gens[g]? = some gs ∧
      GoesS (model X0.prog X0.w) B.in1 (GPhi X0 B.in1 ⟨s'.setGen g .running, cutP hv R', cutP hv H', pv⟩ ds) gs (s'.setGen g .running) := by
  obtain ⟨a, g, code, pv, sy, rfl, m1, m2, m3, m4, m5, m6, m7, m8, m9, m10, m11⟩ := m
  obtain ⟨X0, x1, x2, x3, x4, x5, x6, x7, first⟩ := m11 B.in1 hr hfr
  have I1 : Inv X pins σ H s' := I.call' (ch := []) m8 (Un.kept m3) (I.hok.kept m3) m9 fun b z => by simp at z
  have big : ∀ b ∈ a :: pv, s0.heap.objs.size ≤ b := fun b hb => by
    rcases List.mem_cons.mp hb with z | z
    · rw [z]; exact m4
    · exact (m1 b z).1
  have hn : ∀ b ∈ a :: pv, H b = none := fun b hb => I.hok.fresh (big b hb)
  have st : ∀ b ∈ a :: pv, Strange X pins b := fun b hb => strange_new I (Heap.get?_none_of_le (big b hb)) (hn b hb) (by rw [hex]; simp)
  have obj : ∀ b ∈ a :: pv, ∃ o, s'.heap.get? b = some o := fun b hb => by
    rcases List.mem_cons.mp hb with z | z
    · obtain ⟨o, _, _, q, _⟩ := m6
      rw [z]; exact ⟨o, q⟩
    · obtain ⟨o, q⟩ := (m1 b z).2.2
      exact ⟨o, m2 b o q⟩
  have ga := grow_add (h := s'.heap) sk.rh hn
  have Rn : ∀ b ∈ a :: pv, R b = none := fun b hb => sk.rh.back (hn b hb)
  have h : Holds X c pins X0 a g (a :: pv) s' (addP (a :: pv) s'.heap R) s' := ⟨st, fun b hb => by
      cases q : c.H0 b with
      | none => rfl
      | some v => exact absurd (hn b hb) (sk.pr b (by rw [q]; simp)), fun b hb => sk.r0.back (Rn b hb), fun b hb => let ⟨o, q⟩ := obj b hb; ⟨o, q, addP_in hb q⟩, List.mem_cons_self, m6, x1, x2, x3, x4, x5, x6.trans I.os, by rw [x7]; exact I.sz, by rw [x7]; exact m4⟩
  have J := DL.Inv.addP I1 hn st
  have kJ := sk.grow ga
  have cc : ∀ {G : Hp}, (∀ b ∈ a :: pv, G b = none) → Ex G (cutP (a :: pv) (addP (a :: pv) s'.heap G)) := fun {G} hG b o q => by
    have z : b ∉ a :: pv := fun z => by rw [hG b z] at q; cases q
    rw [cutP_out z, addP_out z]; exact q
  refine ⟨a, g, X0, a :: pv, pv, _, _, .fresh code, rfl, J, kJ, ga.r, Rn, h, fun b hb => List.mem_cons_of_mem _ hb, fun ha => absurd (m1 a ha).2.1 (Nat.lt_irrefl _), m7, ?_⟩
  have gone : Gone X0 pv s' (s'.setGen g .running) (cutP (a :: pv) (addP (a :: pv) s'.heap H)) := h.gone J kJ.rh (fun b hb => List.mem_cons_of_mem _ hb) (allBare_setGen J.bare rfl)
  have gone' : Gone X0 pv sy (s'.setGen g .running) (cutP (a :: pv) (addP (a :: pv) s'.heap H)) := ⟨gone.os, gone.bare, fun b hb => by
    obtain ⟨o, q⟩ := (m1 b hb).2.2
    rw [q]; exact m2 b o q, gone.hok, gone.cut, gone.base, gone.funs, gone.fr⟩
  have q := first (s'.setGen g .running) _ _ gone' (cc Rn) (cc hn) (kJ.cut h.hd h.h0 h.r0).rh
  rw [x1, x2]
  exact q
/-- for x in g(..) -/
theorem ws_forGen {nm : Str} {tp pos : Pos} {e : Expr} {body : List Stmt} {De : DE} {Γ : SL} (j : Nat) (Iv : Nat → SL → Prop) (ds : List D) (h : WGn X n c Γ e ds) (iv : Iv 0 Γ)
    (hs : ∀ i Γ' d, ds[i]? = some d → Iv i Γ' → WB X n c (Γ'.set j (.d d)) body (turnE De (Iv (i + 1)))) (hd : ∀ Γ', Iv ds.length Γ' → De.nx Γ')
    (hx : X.xe = fun _ _ => False) (hex : X.ex = []) (hj : n.N[j]? = some nm := by rfl) (hh : n.hot = false := by rfl) (ha : n.as.contains j = true := by rfl) (hoi : n.oi.contains j = false := by rfl)
    (hf : ∀ x, foldedSetIterable e X.env x = pure x := by intro _; rfl) : WS X n c Γ (.For (.Name nm tp) e body [] pos) De := .mk fun hn σ R H s E ok pins s0 I => by
  refine wpAny_For (wpAny_mono (h.run hn σ R H s pins s0 I) (fun u s1 q => ?_) fun _ _ z => z) hf
  obtain ⟨R1, H1, sc, k, I1, k1, e1, hr, m⟩ := q
  obtain ⟨a, g, X0, hv, pv, R', H', gs, rfl, J, kJ, e2, nb, hh', hp, hpa, hgs, go⟩ := gen_hold (B := X.A) I1 k1 hex (by exact I1.ok.frames) (hr.mono (by omega : k + 1 ≤ k + 3)).in1 m
  have gn : s1.heap.IsGen a g := hh'.gen
  refine wpAny_pyIter_gen gn ?_
  exact gen_forLoop j Iv ds hn hx hex (hn.calm hh |> I1.ok.hd) hn.room.depth hj ha hoi (ok.mono e1) hs hd J kJ e2 nb hh' hp hpa hgs go iv
end
end DL

end
section
set_option Elab.async false
set_option linter.all false
set_option autoImplicit true
set_option maxRecDepth 100000
set_option maxHeartbeats 1000000
/-! a generator def by its promise: THE RULE, its call -/
namespace DL
open PySem PySem.Spec PyProof.Rows GenW L2
/-- what a generator def is given, what it will hand out -/
abbrev SgG := List Par → List D → Prop
/-- a generator def that is known by its promise -/
structure GenFn (P : Program) (w : World) (K : PySem.W.Frag) (base : Heap) (mg : Str → Option Value) (k : Nat) (f : Addr) (fd : FuncData) (ps : List Str) (S : SgG) : Prop where
  len : ∀ qs ds, S qs ds → qs.length = ps.length
  arg : ∀ qs ds, S qs ds → ∀ p ∈ qs, argS p.slot = true
  run : ∀ (A : Around) (outer : List Env) (s : Shared) (R H : Hp) (args : Args) (us : List Value) (vs : List V) (qs : List Par) (ds : List D), Room k A → Env0 P w K mg base A outer s H → BindsTo s fd args (ps.zip us) → Vals vs us → Ex R H → ParsOk K (fun _ => False) R H qs vs → S qs ds →
    codeAny (model P w) A (.call (.ref f) args) (fun r s' => match r with | .ok (.ret u) => GMd P w K base k outer R H s ds u s' | _ => False) s
structure CalGn (X : Cx) (k : Nat) (nm : Str) (S : SgG) : Prop where
  rm : Room k X.A
  ex : ∃ f fd ps k0, GenFn X.prog X.w X.K X.base X.mg k0 f fd ps S ∧ k0 + 3 ≤ k ∧ X.mg nm = some (.ref f) ∧ PySem.W.keepIn X.K (.ref f) = true ∧ Binds X.K fd ps []
theorem CalGn.blk {X X' : Cx} {sc : Scope} {k : Nat} {nm : Str} {S : SgG} (b : BlkX X X' sc) (h : CalGn X k nm S) : CalGn X' k nm S := by
  obtain ⟨s, H, C, cl, fp, rfl⟩ := b
  exact ⟨h.rm, h.ex⟩
theorem DefAt.calGn {X : Cx} {nm : Str} {st : Stmt} {ps : List Str} {k k0 : Nat} {S : SgG} (d : DefAt X.K X.mg nm st ps) (F : GenFn X.prog X.w X.K X.base X.mg k0 d.a d.fd ps S) (h : k0 + 3 ≤ k) (rm : Room k X.A) : CalGn X k nm S :=
  ⟨rm, d.a, d.fd, ps, k0, F, h, d.m, d.F.kp, d.b⟩
theorem arg_noOwn : ∀ {qs : List Par} {vs : List V}, (∀ p ∈ qs, argS p.slot = true) → ownAd qs vs = [] ∧ oiOf 0 qs vs = [] ∧ parOi 0 qs = [] := by
  have main : ∀ {qs : List Par} {vs : List V} {i : Nat}, (∀ p ∈ qs, argS p.slot = true) → ownAd qs vs = [] ∧ oiOf i qs vs = [] ∧ parOi i qs = [] := by
    intro qs
    induction qs with
    | nil => intro vs i _; exact ⟨rfl, rfl, rfl⟩
    | cons p qs ih =>
      intro vs i h
      have h1 := h p List.mem_cons_self
      have h2 : ∀ p ∈ qs, argS p.slot = true := fun q hq => h q (List.mem_cons_of_mem _ hq)
      cases vs with
      | nil => 
        obtain ⟨_, _, z⟩ := ih (vs := []) (i := i + 1) h2
        cases p with
        | own o => cases h1
        | _ => exact ⟨by first | rfl | simp [ownAd], by first | rfl | simp [oiOf], z⟩
      | cons v vs =>
        obtain ⟨z1, z2, z3⟩ := ih (vs := vs) (i := i + 1) h2
        cases p with
        | own o => cases h1
        | _ => exact ⟨z1, z2, z3⟩
  intro qs vs h
  exact main h
theorem parsOk_M {K : PySem.W.Frag} {M M' : Addr → Prop} {R H : Hp} (k : ∀ a, H a ≠ none → ¬ M a → ¬ M' a) : ∀ {qs : List Par} {vs : List V}, ParsOk K M R H qs vs → ParsOk K M' R H qs vs
  | [], _, h => h
  | p :: qs, _, ⟨v, ws, h1, h2, h3⟩ => ⟨v, ws, h1, by
      cases p with
      | w x => exact WOk.noM (fun a o q z => k a (by rw [q]; simp) z) h2
      | _ => exact h2, parsOk_M k h3⟩
/-- THE RULE for a generator def -/
theorem gfn_ok {P : Program} {w : World} {K : PySem.W.Frag} {mg : Str → Option Value} {base : Heap} {x qual : Str} {st : Stmt} {f : Addr} {fd : FuncData} {ps : List Str} {n : Nm} {S : SgG} (F : Fun K x qual st f fd) (sc : GScope n.N ps (defScope st)) (sb : ScOk (defScope st) n) (hsc : n.sc = none ∨ n.sc = some (defScope st)) (hoi : n.oi = [])
    (hS : ∀ qs ds, S qs ds → qs.length = ps.length ∧ ∀ p ∈ qs, argS p.slot = true)
    (body : ∀ (X : Cx) (c : Cc), X.prog = P ∧ X.w = w ∧ X.K = K ∧ X.mg = mg ∧ X.base = base ∧ Room n.k X.A → X.xe = (fun _ _ => False) → NOk X n c → GenS X → ∀ qs ds, S qs ds → ∃ Pre : YP, YWB X (defBody st) Pre (fun ds Γ => ds = [] ∧ ∀ x ∈ Γ, plainS x = true) ∧ Pre ds (entry n.N qs)) :
    GenFn P w K base mg (n.k + 1) f fd ps S := by
  obtain ⟨oc, od, kV, doc, pm, an, cdv, ct, osl, rfl, lk, hcd⟩ := F.ex
  refine ⟨fun qs ds h => (hS qs ds h).1, fun qs ds h => (hS qs ds h).2, fun A outer s R H args us vs qs ds hr e0 hb r rh hp hs => ?_⟩
  obtain ⟨h1, h2⟩ := hS qs ds hs
  obtain ⟨z1, z2, z3⟩ := arg_noOwn (vs := vs) h2
  have hp' : ParsOk K (fun a => a ∈ ownAd qs vs) R H qs vs := parsOk_M (fun a _ _ q => by rw [z1] at q; cases q) hp
  have sk := entry_ok (N := n.N) (xw := fun _ _ _ => False) rh hp' (by rw [z1]; simp)
  have hpl : ∀ x ∈ entry n.N qs, argS x = true := fun x hx => by
    rcases List.mem_append.mp hx with hx | hx
    · obtain ⟨p, hp, rfl⟩ := List.mem_map.mp hx
      exact h2 p hp
    · rw [List.eq_of_mem_replicate hx]; rfl
  refine gen_made lk hcd sc hr e0 hb r ((parsOk_len hp).symm.trans h1) sk hpl fun Aw hA gs => ?_
  refine body _ ⟨R, H, fun _ => False, [], fun _ _ _ => False⟩ ⟨rfl, rfl, rfl, rfl, rfl, hA⟩ rfl ?_ gs qs ds hs
  refine ⟨rfl, sc.nd, fun i x hv hi => ?_, fun i x ha hi => ?_, sb.dbg, sb.gl, sc.kind, fun s0 e0 => ?_, fun _ => rfl, L2H.roomH_of hA, PassesOwn.never, sb.lc, hoi.symm, fun a ha => ha.elim, takes_no rfl, fun _ => ⟨rfl, rfl⟩⟩
  · rcases sb.vis i x hv hi with h | h
    · exact .inl h
    · exact .inr (.inl h)
  · refine ⟨?_, .inl rfl⟩
    rcases sb.vis i x (sb.as i ha) hi with h | h
    · exact .inl h
    · exact .inr h
  · rcases hsc with h | h
    · rw [h] at e0; cases e0
    · rw [h] at e0; cases e0; rfl
theorem Blt.fam {X X' : Cx} {nm : Str} {f : Value} (h : Blt X nm f) (e : X'.mg = X.mg) : Blt X' nm f := ⟨by rw [e]; exact h.mg, h.bt⟩
section
variable {X : Cx} {n : Nm} {c : Cc} {Γ : SL} {e : Expr} {es : List Expr} {pos p : Pos} {nm : Str} {S : SgG} {ks : List AK} {qs : List Par} {ds : List D}
/-- f(e, ..) makes a generator -/
theorem wgn_call (hc : CalGn X n.k nm S) (j : Nat) (ha : EA X n c Γ (e :: es) ks) (h : S qs ds) (hp : pars Γ ks = some qs := by rfl)
    (hj : n.GN[j]? = some nm := by rfl) (he : starEach (e :: es) X.env = (false, eval e X.env) :: starEach es X.env := by exact se_c rfl) (hpl : (backTo pos (starEach es X.env)).any (·.1) = false := by exact se_any rfl) : WGn X n c Γ (.Call (.Name nm p) (e :: es) [] pos) ds := .mk fun hn σ R H s pins s0 I => by
  obtain ⟨f, fd, ps, k0, F, hk, hm, kp, hb⟩ := hc.ex
  obtain ⟨g1, g2, g3⟩ := hn.gl j nm hj
  refine wpAny_Call_Name_kw (ld_glob I g1 hm ?_ g2)
  refine PySem.W.callWith_K (h₀ := X.base) I.ok.mod.kin kp (thn ((pWA (X := X) (e := e :: es)).run pos pins s0 σ H (fun vs H1 => ∃ R1 ks', SOk X.K c Γ σ R1 H1 ∧ Ex R R1 ∧ AksOk X.K R1 σ ks' vs ∧ ks' = ks) I (ha.run hn σ R H s _ fun vs R1 H1 ks' Γ1 s1 e1 r1 ⟨q1, q2⟩ => by subst q2; exact ⟨R1, ks', s1, e1, r1, q1⟩)) fun us s1 ⟨vs, H1, I1, r, R1, ks', k1, e1, r1, q1⟩ => ⟨I1.kIn, ?_⟩) he hpl
  subst q1
  have hr : Room (k0 + 3) X.A := hc.rm.mono hk
  have argQ := F.arg qs ds h
  obtain ⟨z1, z2, z3⟩ := arg_noOwn (vs := vs) argQ
  have own0 : ∀ {ks : List AK} {qs : List Par}, pars Γ ks = some qs → (∀ p ∈ qs, argS p.slot = true) → ownIx ks = [] := by
    intro ks
    induction ks with
    | nil => intro _ _ _; rfl
    | cons k ks ih =>
      intro qs e hq
      unfold pars at e
      split at e
      · rename_i p ps' e1 e2
        cases e
        have t := ih e2 fun q hq' => hq q (List.mem_cons_of_mem _ hq')
        cases k with
        | o i =>
          simp only [AK.par] at e1
          split at e1
          · cases e1; exact absurd (hq _ List.mem_cons_self) (by intro z; cases z)
          · cases e1
        | _ => exact t
      · cases e
  have o0 := own0 hp argQ
  have pk : ParsOk X.K (fun a => a ∈ ownAd qs vs) R1 H1 qs vs := pars_ok k1 (fun a z => by rw [z1] at z; cases z) r1 hp fun i hi a o _ _ z => by rw [z1] at z; cases z
  have pk' : ParsOk X.K (fun _ => False) R1 H1 qs vs := parsOk_M (fun a _ _ q => q) pk
  have hl2 : us.length = ps.length := by rw [← r.length, ← parsOk_len pk]; exact F.len _ _ h
  have b := hb s1 us I1.kIn (by rw [List.append_nil]; exact hl2)
  rw [List.append_nil] at b
  refine wpAny_call (codeAny_mono (F.run X.A X.stack s1 R1 H1 ⟨us, []⟩ us vs qs ds (hr.mono (by omega)) I1.env0 b r k1.rh pk' h) fun r' s' hq => ?_)
  cases r' with
  | error e => exact False.elim hq
  | ok fl =>
    cases fl with
    | ret u => exact ⟨R1, H1, s1, k0, I1, k1, e1, hr, hq⟩
    | next => exact False.elim hq
    | brk => exact False.elim hq
    | cont => exact False.elim hq
/-- a slot is forgotten behind a statement -/
theorem ws_any (i : Nat) {st : Stmt} {D : DE} (h : WS X n c Γ st { D with nx := fun Γ' => D.nx (Γ'.set i .any) }) (hoi : n.oi.contains i = false := by rfl) : WS X n c Γ st D := .mk fun hn σ R H s E ok => by
  refine h.run hn σ R H s E ⟨fun σ' R' H' Γ' s' e' q => ?_, ok.rt, ok.bk, ok.ct⟩
  have q : D.nx (Γ'.set i .any) := q
  cases e : σ'[i]? with
  | none =>
    have hl : Γ'.length ≤ i := by rw [s'.len]; exact List.getElem?_eq_none_iff.mp e
    rw [List.set_eq_of_length_le hl] at q
    exact ok.nx σ' R' H' Γ' s' e' q
  | some v =>
    have s2 := s'.set i (v := v) (sl := .any) rfl trivial (hn.noi hoi)
    have : σ'.set i v = σ' := by
      obtain ⟨hl, q⟩ := List.getElem?_eq_some_iff.mp e
      rw [← q]; exact List.set_getElem_self hl
    rw [this] at s2
    exact ok.nx σ' R' H' _ s2 e' q
/-- .. ahead of it -/
theorem ws_any0 (i : Nat) {st : Stmt} {D : DE} (h : WS X n c (Γ.set i .any) st D) (hoi : n.oi.contains i = false := by rfl) : WS X n c Γ st D := .mk fun hn σ R H s E ok => by
  cases e : σ[i]? with
  | none =>
    have hl : Γ.length ≤ i := by rw [s.len]; exact List.getElem?_eq_none_iff.mp e
    rw [List.set_eq_of_length_le hl] at h
    exact h.run hn σ R H s E ok
  | some v =>
    have s2 := s.set i (v := v) (sl := .any) rfl trivial (hn.noi hoi)
    have : σ.set i v = σ := by
      obtain ⟨hl, q⟩ := List.getElem?_eq_some_iff.mp e
      rw [← q]; exact List.set_getElem_self hl
    rw [this] at s2
    exact h.run hn σ R H s2 E ok
/-- what slot i owns is frozen -/
theorem SOk.frzSlot {σ : L2.St} {R H : Hp} (hn : NOk X n c) (s : SOk X.K c Γ σ R H) (i : Nat) {o : OB} {x : D} (hg : Γ[i]? = some (.own o)) (hx : o.data = some x) (hoi : n.oi.contains i = false) : ∃ R', SOk X.K c (Γ.set i (.d x)) σ R' H ∧ Ex R R' := by
  obtain ⟨w, e1, a, e2, w3, w4, w5⟩ := s.sl i _ hg
  subst e2
  have hl : i < Γ.length := (List.getElem?_eq_some_iff.mp hg).1
  have es : ∀ v, σ[i]? = some (some v) → σ.set i (some v) = σ := fun v ev => by
    apply List.ext_getElem?
    intro j
    by_cases hj : i = j
    · subst hj; rw [List.getElem?_set_self (by rw [← s.len]; exact hl), ev]
    · rw [List.getElem?_set_ne hj]
  have s2 : SOk X.K c (Γ.set i .any) (σ.set i (some (.ref a))) R H := s.set i (v := some (.ref a)) rfl trivial (hn.noi hoi)
  rw [es _ e1] at s2
  obtain ⟨R', s3, e3, r3⟩ := s2.freezeR (o := o) (v := .ref a) ⟨a, rfl, w3, w4, by
    rcases w5 with w5 | w5
    · exact w5
    · obtain ⟨j, hj⟩ := hn.cm a w5
      obtain ⟨z1, o', z2⟩ := s.oi _ hj
      have := s.dj i j a o o' hg z2 e1 z1
      exact absurd (by rw [this]; exact List.mem_map_of_mem hj) (hn.noi hoi), fun j o' z1 z2 => by
    by_cases hj : i = j
    · subst hj; rw [List.getElem?_set_self hl] at z1; cases z1
    · rw [List.getElem?_set_ne hj] at z1
      exact hj (s.dj i j a o o' hg z1 e1 z2)⟩ hx
  have s4 := s3.setD i (v := .ref a) r3 (hn.noi hoi)
  rw [es _ e1, List.set_set] at s4
  exact ⟨R', s4, e3⟩
/-- .. behind a statement -/
theorem ws_frz (i : Nat) {st : Stmt} {D : DE} (h : WS X n c Γ st { D with nx := fun Γ' => ∃ o x, Γ'[i]? = some (.own o) ∧ o.data = some x ∧ D.nx (Γ'.set i (.d x)) }) (hoi : n.oi.contains i = false := by rfl) : WS X n c Γ st D := .mk fun hn σ R H s E ok => by
  refine h.run hn σ R H s E ⟨fun σ' R' H' Γ' s' e' q => ?_, ok.rt, ok.bk, ok.ct⟩
  obtain ⟨o, x, q1, q2, q3⟩ := q
  obtain ⟨R2, s2, e2⟩ := s'.frzSlot hn i q1 q2 hoi
  exact ok.nx σ' R2 H' _ s2 (e'.trans e2) q3
end
end DL

end
section
set_option Elab.async false
set_option linter.all false
set_option autoImplicit true
set_option maxRecDepth 100000
set_option maxHeartbeats 1000000
/-! comprehensions of two clauses: [elt for x in xs for y in ys if ..] -/
namespace DL
open PySem L2
open PyProof.Rows hiding St
def LcN (K : PySem.W.Frag) (c : Cc) (Γ : SL) (σ : L2.St) (R1 : Hp) (Dl : Addr) (Keep : Hp → Prop) (P : List D → Prop) (H : Hp) : Prop :=
  ∃ R acc, SOk K c Γ σ R H ∧ Ex R1 R ∧ Keep H ∧ VOk K c Γ σ R H (.own (.lst acc)) (.ref Dl) ∧ P acc
abbrev inOut (Γ : SL) (i j : Nat) (d : D) : SL := ((Γ.map Slot.inn).set i (.d d)).set j .any
section
variable {X : Cx} {n n' : Nm} {c : Cc} {Γ : SL} {iter iter1 elt : Expr} {nx ny : Str} {scope : Scope} {pos px py : Pos} {k : AK} {ds : List D}
theorem LcN.mono {K : PySem.W.Frag} {σ : L2.St} {R1 R2 H : Hp} {Dl : Addr} {Keep : Hp → Prop} {P : List D → Prop} (e : Ex R1 R2) (h : LcN K c Γ σ R2 Dl Keep P H) : LcN K c Γ σ R1 Dl Keep P H := by
  obtain ⟨R, acc, s, e1, r⟩ := h
  exact ⟨R, acc, s, e.trans e1, r⟩
theorem LcN.imp {K : PySem.W.Frag} {σ : L2.St} {R1 H : Hp} {Dl : Addr} {Keep Keep' : Hp → Prop} {P P' : List D → Prop} (h : LcN K c Γ σ R1 Dl Keep P H) (k1 : Keep H → Keep' H) (k2 : ∀ acc, P acc → P' acc) : LcN K c Γ σ R1 Dl Keep' P' H := by
  obtain ⟨R, acc, s, e1, r1, r2, r3⟩ := h
  exact ⟨R, acc, s, e1, k1 r1, r2, k2 _ r3⟩
/-- the loop over a list that stays -/
theorem lcn_list {K : PySem.W.Frag} {a : Addr} {xs : List V} {H1 : Hp} {Qd : Hp → Prop} {Body : V → Hp → (Hp → Prop) → Prop} (Pv : Nat → Hp → Prop) (h0 : Pv 0 H1) (hl : ∀ i H, i ≤ xs.length → Pv i H → SqL K H a xs)
    (hs : ∀ i x H, xs[i]? = some x → Pv i H → Body x H (Pv (i + 1))) (hd : ∀ H, Pv xs.length H → Qd H) :
    ∃ W : Nat → Nat → Hp → Prop, (∃ m, W 0 m H1) ∧ ∀ i m H, W i m H →
      ((Itl K a).stop i H ∧ Qd H) ∨ ((Itl K a).go i H ∧ ∃ Nx : Hp → Prop, (∀ H', Nx H' → ∃ m', m' < m ∧ W (i + 1) m' H') ∧ ∀ x H', (Itl K a).yld i H x H' → Body x H' Nx) := by
  refine ⟨fun i m H => m = xs.length - i ∧ i ≤ xs.length ∧ Pv i H, ⟨xs.length, by simp, Nat.zero_le _, h0⟩, ?_⟩
  rintro i m H ⟨rfl, hi, p⟩
  have q := hl i H hi p
  by_cases hlt : i < xs.length
  · refine .inr ⟨⟨xs, xs[i], q, by simp [hlt]⟩, Pv (i + 1), fun H' p' => ⟨xs.length - (i + 1), by omega, rfl, hlt, p'⟩, fun x H' y => ?_⟩
    obtain ⟨e, y⟩ := y
    subst e
    exact hs i x _ (y xs q) p
  · have e : i = xs.length := by omega
    subst e
    exact .inl ⟨⟨xs, q, Nat.le_refl _⟩, hd H p⟩
theorem lcn_enter (i j : Nat) {d1 d2 : D} {v1 v2 : V} {σ : L2.St} {R H : Hp} (L : LcOk2 X n n' Γ scope nx ny i j) (s : SOk X.K c Γ σ R H) (q1 : Rp X.K R d1 v1) (q2 : Rp X.K R d2 v2) :
    SOk X.K (inn Γ σ R H) (in2 Γ i j d1 d2) ((σ.set i (some v1)).set j (some v2)) R H := by
  refine (s.enter i q1 L.no1).setD j q2 fun z => ?_
  obtain ⟨p, hp, e⟩ := List.mem_map.mp z
  obtain ⟨i', hi', e'⟩ := List.mem_map.mp hp
  subst e'
  have e : i' = j := e
  subst e
  exact L.no2 _ (mem_stoIx.mp hi')
theorem lcn_enterO (i j : Nat) {d1 : D} {v1 : V} {σ : L2.St} {R H : Hp} (L : LcOk2 X n n' Γ scope nx ny i j) (s : SOk X.K c Γ σ R H) (q1 : Rp X.K R d1 v1) :
    SOk X.K (inn Γ σ R H) (inOut Γ i j d1) ((σ.set i (some v1)).set j none) R H := by
  refine (s.enter i q1 L.no1).set j rfl trivial fun z => ?_
  obtain ⟨p, hp, e⟩ := List.mem_map.mp z
  obtain ⟨i', hi', e'⟩ := List.mem_map.mp hp
  subst e'
  have e : i' = j := e
  subst e
  exact L.no2 _ (mem_stoIx.mp hi')
/-- a turn of the inner loop -/
theorem lcn_step (i j : Nat) {ifs : List Expr} {P P' : List D → Prop} {Tst : Bool → Prop} {d1 d2 : D} {v1 v2 : V} {σ : L2.St} {R1 H : Hp} {Dl : Addr} {Keep : Hp → Prop} (L : LcOk2 X n n' Γ scope nx ny i j) (hn : NOk X n c) (hlen : ∀ acc, P acc → acc.length < 1000000) (hkeep : ∀ H H', (∀ b o, b ≠ Dl → ¬ stoAd Γ σ b → H b = some o → H' b = some o) → Keep H → Keep H')
    (q1 : Rp X.K R1 d1 v1) (q2 : Rp X.K R1 d2 v2) (h : LcN X.K c Γ σ R1 Dl Keep P H) (ht : ∀ X' c', BlkX X X' scope → WTs X' n' c' (in2 Γ i j d1 d2) ifs fun q Γ2 => Γ2 = in2 Γ i j d1 d2 ∧ Tst q)
    (he : ∀ X' c', BlkX X X' scope → Tst true → ∀ acc, P acc → WE X' n' c' (in2 Γ i j d1 d2) elt fun y Γ3 => Γ3 = in2 Γ i j d1 d2 ∧ P' (acc ++ [y]))
    (hf : Tst false → ∀ acc, P acc → P' acc) (hifs : ifs.length ≤ 1) :
    gName j v2 (wipe ((wipe σ [i, j]).set i (some v1)) [j]) H fun σ3 H5 => wipe σ3 [j] = wipe ((wipe σ [i, j]).set i (some v1)) [j] ∧ (lcT X scope ifs σ3 H5 fun b H6 =>
      if b = true then (lcE X scope elt σ3 H6 fun y H7 => ∃ acc, H7 Dl = some (.lst acc) ∧ acc.length < sizeLine ∧ LcN X.K c Γ σ R1 Dl Keep P' (upd H7 Dl (.lst (acc ++ [y])))) else LcN X.K c Γ σ R1 Dl Keep P' H6) := by
  have bk : BlkOk X.N X.env.scope scope [(nx, i), (ny, j)] := L.sc _ hn
  have ne := L.ne
  obtain ⟨R, acc, s, e1, kp, ⟨aa, ea, ⟨accV, hA1, hA2⟩, hA3, hA4, hA5⟩, ha⟩ := h
  cases ea
  have hl := hlen acc ha
  have w0 : wipe ((wipe σ [i, j]).set i (some v1)) [j] = (σ.set i (some v1)).set j none := by
    show ((((σ.set j none).set i none).set i (some v1)).set j none) = _
    rw [List.set_set, List.set_comm none (some v1) ne.symm, List.set_set]
  have w1 : (wipe ((wipe σ [i, j]).set i (some v1)) [j]).set j (some v2) = (σ.set i (some v1)).set j (some v2) := by rw [w0, List.set_set]
  have w2 : wipe ((σ.set i (some v1)).set j (some v2)) [j] = wipe ((wipe σ [i, j]).set i (some v1)) [j] := by
    rw [w0]
    show ((σ.set i (some v1)).set j (some v2)).set j none = _
    rw [List.set_set]
  have nsto : ¬ stoAd Γ σ Dl := fun ⟨i, w1, w2⟩ => hA5 i _ w1 w2
  have sin := lcn_enter i j L s (Rp.mono e1 _ _ q1) (Rp.mono e1 _ _ q2)
  obtain ⟨o1, o2⟩ := sto_cm (Γ := Γ) (σ := σ) (R := R) (H := H)
  have nk : ∀ X', BlkX X X' scope → NOk X' n' (inn Γ σ R H) := fun X' b => nok_blk rfl b bk.kind hn L.in_ L.eN L.ek L.el L.es L.hot (o2.trans L.eo.symm) o1
  have hk : ∀ q : Nat, Γ[q]? = some (.own .sto) → (in2 Γ i j d1 d2)[q]? = some (.own .sto) ∧ ((σ.set i (some v1)).set j (some v2))[q]? = σ[q]? := fun q e => by
    have n1 : i ≠ q := fun z => L.no1 _ (z ▸ e)
    have n2 : j ≠ q := fun z => L.no2 _ (z ▸ e)
    exact ⟨by rw [List.getElem?_set_ne n2, List.getElem?_set_ne n1, List.getElem?_map, e]; rfl, by rw [List.getElem?_set_ne n2, List.getElem?_set_ne n1]⟩
  have at4 : ∀ R4 H4, SOk X.K (inn Γ σ R H) (in2 Γ i j d1 d2) ((σ.set i (some v1)).set j (some v2)) R4 H4 → SOk X.K c Γ σ R4 H4 ∧ VOk X.K c Γ σ R4 H4 (.own (.lst acc)) (.ref Dl) ∧ H4 Dl = some (.lst accV) ∧ RpL X.K R4 acc accV ∧ Keep H4 := fun R4 H4 s4 => by
    have hD : H4 Dl = some (.lst accV) := s4.hm Dl _ nsto hA1
    have hR : RpL X.K R4 acc accV := hA2.mono s4.r0
    exact ⟨s.leaveG hk s4, ⟨Dl, rfl, ⟨accV, hD, hR⟩, s4.un Dl (by show H Dl ≠ none; rw [hA1]; simp) hA3, hA4, hA5⟩, hD, hR, hkeep H H4 (fun b o _ nb hb => s4.hm b o nb hb) kp⟩
  unfold gName
  rw [w1]
  refine ⟨w2, fun s1 H1 C cl fp => ?_⟩
  have go : ∀ (b : Bool) (R3 H3 : Hp), SOk X.K (inn Γ σ R H) (in2 Γ i j d1 d2) ((σ.set i (some v1)).set j (some v2)) R3 H3 → Tst b →
      if b = true then (∀ s H0 C cl fp, tW (X.blk s H0 scope (compEnvC scope cl C X.env) fp) elt ((σ.set i (some v1)).set j (some v2)) H3 fun y H4 => ∃ acc, H4 Dl = some (.lst acc) ∧ acc.length < sizeLine ∧ LcN X.K c Γ σ R1 Dl Keep P' (upd H4 Dl (.lst (acc ++ [y])))) else LcN X.K c Γ σ R1 Dl Keep P' H3 := by
    intro b R3 H3 s3 tb
    cases b with
    | true =>
      rw [if_pos rfl]
      intro s2 H2 C2 cl2 fp2
      refine (he _ (inn Γ σ R H) ⟨s2, H2, C2, cl2, fp2, rfl⟩ tb acc ha).run (nk _ ⟨s2, H2, C2, cl2, fp2, rfl⟩) _ R3 H3 s3 _ fun u R4 H4 y Γ4 s4 e4 r4 ⟨g1, g2⟩ => ?_
      subst g1
      obtain ⟨v1, v2, v3, v4, v5⟩ := at4 R4 H4 s4
      refine ⟨accV, v3, by have := v4.length; rw [sizeLine_eq]; omega, ?_⟩
      obtain ⟨t1, t2⟩ := v1.pend (ob' := .lst (acc ++ [y])) (o := .lst (accV ++ [u])) v2 ⟨_, upd_same, v4.append (.one r4)⟩
      exact ⟨R4, acc ++ [y], t1, e1.trans s4.r0, hkeep H4 _ (fun b o nb _ hb => by rw [upd_ne nb]; exact hb) v5, t2, g2⟩
    | false =>
      rw [if_neg Bool.false_ne_true]
      obtain ⟨v1, v2, v3, v4, v5⟩ := at4 R3 H3 s3
      exact ⟨R3, acc, v1, e1.trans s3.r0, v5, v2, hf tb acc ha⟩
  have hT := ht _ (inn Γ σ R H) ⟨s1, H1, C, cl, fp, rfl⟩
  match ifs, hifs, hT with
  | [], _, hT => exact go true R H sin hT.2
  | [t], _, hT =>
    exact (WT.run (show WT _ _ _ _ t _ from hT)) (nk _ ⟨s1, H1, C, cl, fp, rfl⟩) _ R H sin _ fun R3 H3 b Γ3 s3 e3 ⟨g1, g2⟩ => by
      subst g1
      exact go b R3 H3 s3 g2
theorem lcT_yes {σ : L2.St} {H : Hp} {P N : Hp → Prop} (h : P H) : lcT X scope [] σ H fun b H3 => if b = true then P H3 else N H3 := fun _ _ _ _ _ => by
  show (if true = true then P H else N H)
  rw [if_pos rfl]; exact h
/-- the inner source, within the block -/
def lcI (X : Cx) (scope : Scope) (iter1 : Expr) : TI := fun σ H Q => ∀ s H0 C cl fp, iList X.K (tW (X.blk s H0 scope (compEnvC scope cl C X.env) fp) iter1) σ H Q
theorem lcn_turn (i j : Nat) {ifs : List Expr} {m : Nat} {d1 : D} {v1 : V} {σ : L2.St} {R1 H : Hp} {Dl : Addr} {Keep : Hp → Prop} {Nx : Hp → Prop} {P2 : List D → Prop} {ys : List D} (Acc : Nat → List D → Prop) (Tst : Nat → D → Bool → Prop) (L : LcOk2 X n n' Γ scope nx ny i j) (hn : NOk X n c) (hlen : ∀ k acc, Acc k acc → acc.length < 1000000) (hkeep : ∀ H H', (∀ b o, b ≠ Dl → ¬ stoAd Γ σ b → H b = some o → H' b = some o) → Keep H → Keep H')
    (q1 : Rp X.K R1 d1 v1) (h : LcN X.K c Γ σ R1 Dl Keep (Acc 0) H)
    (hin : ∀ X' c', BlkX X X' scope → WE X' n' c' (inOut Γ i j d1) iter1 fun z Γ3 => z = .lst ys ∧ Γ3 = inOut Γ i j d1)
    (ht : ∀ X' c', BlkX X X' scope → ∀ k e, ys[k]? = some e → WTs X' n' c' (in2 Γ i j d1 e) ifs fun q Γ2 => Γ2 = in2 Γ i j d1 e ∧ Tst k e q)
    (he : ∀ X' c', BlkX X X' scope → ∀ k e acc, ys[k]? = some e → Tst k e true → Acc k acc → WE X' n' c' (in2 Γ i j d1 e) elt fun y Γ3 => Γ3 = in2 Γ i j d1 e ∧ Acc (k + 1) (acc ++ [y]))
    (hf : ∀ k e acc, ys[k]? = some e → Tst k e false → Acc k acc → Acc (k + 1) acc) (hnx : ∀ acc, Acc ys.length acc → P2 acc) (hN : ∀ H', LcN X.K c Γ σ R1 Dl Keep P2 H' → Nx H') (hifs : ifs.length ≤ 1) :
    gName i v1 (wipe σ [i, j]) H fun σ2 H2 => wipe σ2 [i, j] = wipe σ [i, j] ∧ lcT X scope [] σ2 H2 fun b H3 =>
      if b = true then lcI X scope iter1 σ2 H3 fun J1 H4 => ∃ W1 : Nat → Nat → Hp → Prop, (∃ m, W1 0 m H4) ∧ ∀ j' k H, W1 j' k H →
        (J1.stop j' H ∧ Nx H) ∨ (J1.go j' H ∧ ∃ Nx1 : Hp → Prop, (∀ H', Nx1 H' → ∃ k', k' < k ∧ W1 (j' + 1) k' H') ∧ ∀ x H', J1.yld j' H x H' → gName j x (wipe σ2 [j]) H' fun σ3 H5 => wipe σ3 [j] = wipe σ2 [j] ∧ lcT X scope ifs σ3 H5 fun b H6 =>
          if b = true then lcE X scope elt σ3 H6 fun y H7 => ∃ acc, H7 Dl = some (.lst acc) ∧ acc.length < sizeLine ∧ Nx1 (upd H7 Dl (.lst (acc ++ [y]))) else Nx1 H6)
      else Nx H3 := by
  have bk : BlkOk X.N X.env.scope scope [(nx, i), (ny, j)] := L.sc _ hn
  have ne := L.ne
  have w2 : wipe ((wipe σ [i, j]).set i (some v1)) [i, j] = wipe σ [i, j] := by
    show ((((σ.set j none).set i none).set i (some v1)).set j none).set i none = (σ.set j none).set i none
    rw [List.set_set, List.set_comm none (some v1) ne.symm, List.set_set, List.set_comm _ _ ne.symm, List.set_set]
    exact List.set_comm none none ne
  have w0 : (wipe σ [i, j]).set i (some v1) = (σ.set i (some v1)).set j none := by
    show (((σ.set j none).set i none).set i (some v1)) = _
    rw [List.set_set, List.set_comm none (some v1) ne.symm]
  show wipe ((wipe σ [i, j]).set i (some v1)) [i, j] = wipe σ [i, j] ∧ _
  refine ⟨w2, ?_⟩
  refine lcT_yes ?_
  intro s2 H2 C2 cl2 fp2
  obtain ⟨R, acc, s, e1, kp, ⟨aa, ea, ⟨accV, hA1, hA2⟩, hA3, hA4, hA5⟩, ha⟩ := h
  cases ea
  have nsto : ¬ stoAd Γ σ Dl := fun ⟨i, w1, w2⟩ => hA5 i _ w1 w2
  have sin := lcn_enterO i j L s (Rp.mono e1 _ _ q1)
  rw [← w0] at sin
  obtain ⟨o1, o2⟩ := sto_cm (Γ := Γ) (σ := σ) (R := R) (H := H)
  have nk : ∀ X', BlkX X X' scope → NOk X' n' (inn Γ σ R H) := fun X' b => nok_blk rfl b bk.kind hn L.in_ L.eN L.ek L.el L.es L.hot (o2.trans L.eo.symm) o1
  have hk : ∀ q : Nat, Γ[q]? = some (.own .sto) → (inOut Γ i j d1)[q]? = some (.own .sto) ∧ ((wipe σ [i, j]).set i (some v1))[q]? = σ[q]? := fun q e => by
    have n1 : i ≠ q := fun z => L.no1 _ (z ▸ e)
    have n2 : j ≠ q := fun z => L.no2 _ (z ▸ e)
    rw [w0]
    exact ⟨by rw [List.getElem?_set_ne n2, List.getElem?_set_ne n1, List.getElem?_map, e]; rfl, by rw [List.getElem?_set_ne n2, List.getElem?_set_ne n1]⟩
  refine (hin _ (inn Γ σ R H) ⟨s2, H2, C2, cl2, fp2, rfl⟩).run (nk _ ⟨s2, H2, C2, cl2, fp2, rfl⟩) _ R H sin _ fun u R4 H4 y Γ4 s4 e4 r4 ⟨g1, g2⟩ => ?_
  subst g1 g2
  obtain ⟨a0, vs, rfl, hR0, hr⟩ := r4
  have s5 := s.leaveG hk s4
  have hD : H4 Dl = some (.lst accV) := s4.hm Dl _ nsto hA1
  have vo5 : VOk X.K c Γ σ R4 H4 (.own (.lst acc)) (.ref Dl) := ⟨Dl, rfl, ⟨accV, hD, hA2.mono s4.r0⟩, s4.un Dl (by show H Dl ≠ none; rw [hA1]; simp) hA3, hA4, hA5⟩
  have k5 : Keep H4 := hkeep H H4 (fun b o _ nb hb => s4.hm b o nb hb) kp
  have e5 : Ex R1 R4 := e1.trans s4.r0
  have in0 : LcN X.K c Γ σ R4 Dl Keep (Acc 0) H4 := ⟨R4, acc, s5, Ex.refl _, k5, vo5, ha⟩
  have sq : ∀ {P : List D → Prop} {H' : Hp}, LcN X.K c Γ σ R4 Dl Keep P H' → SqL X.K H' a0 vs := fun {P H'} ⟨R', _, s', e', _⟩ => .inl (.inl (s'.rh a0 _ (e' a0 _ hR0)))
  refine ⟨a0, rfl, ⟨vs, sq in0⟩, ?_⟩
  refine lcn_list (K := X.K) (a := a0) (xs := vs) (Qd := Nx) (Body := fun x H' Nx1 => gName j x (wipe ((wipe σ [i, j]).set i (some v1)) [j]) H' fun σ3 H5 => wipe σ3 [j] = wipe ((wipe σ [i, j]).set i (some v1)) [j] ∧ lcT X scope ifs σ3 H5 fun b H6 =>
          if b = true then lcE X scope elt σ3 H6 fun y H7 => ∃ acc, H7 Dl = some (.lst acc) ∧ acc.length < sizeLine ∧ Nx1 (upd H7 Dl (.lst (acc ++ [y]))) else Nx1 H6) (fun k H' => LcN X.K c Γ σ R4 Dl Keep (Acc k) H') in0 (fun k H' _ h => sq h) (fun k x H' hi h => ?_) (fun H' h => ?_)
  · obtain ⟨e, hd1, hd2⟩ := hr.get' hi
    exact lcn_step i j (Tst := Tst k e) L hn (hlen k) hkeep (Rp.mono e5 _ _ q1) hd2 h (fun X' c' b => ht X' c' b k e hd1) (fun X' c' b tb acc ha => he X' c' b k e acc hd1 tb ha) (fun tb acc ha => hf k e acc hd1 tb ha) hifs
  · rw [← hr.length] at h
    exact hN H' (((h.mono e5)).imp id hnx)
theorem rd_lcN (i j : Nat) {ifs : List Expr} {Post : OB → SL → Prop} (ys : Nat → D → List D) (Acc : Nat → Nat → List D → Prop) (Tst : Nat → Nat → D → D → Bool → Prop) (L : LcOk2 X n n' Γ scope nx ny i j) (hk : EK X n c Γ iter k) (hg : k.get Γ = some (.lst ds)) (h0 : Acc 0 0 [])
    (hin : ∀ X' c', BlkX X X' scope → ∀ m d, ds[m]? = some d → WE X' n' c' (inOut Γ i j d) iter1 fun z Γ3 => z = .lst (ys m d) ∧ Γ3 = inOut Γ i j d)
    (ht : ∀ X' c', BlkX X X' scope → ∀ m d, ds[m]? = some d → ∀ k e, (ys m d)[k]? = some e → WTs X' n' c' (in2 Γ i j d e) ifs fun q Γ2 => Γ2 = in2 Γ i j d e ∧ Tst m k d e q)
    (he : ∀ X' c', BlkX X X' scope → ∀ m d, ds[m]? = some d → ∀ k e acc, (ys m d)[k]? = some e → Tst m k d e true → Acc m k acc → WE X' n' c' (in2 Γ i j d e) elt fun y Γ3 => Γ3 = in2 Γ i j d e ∧ Acc m (k + 1) (acc ++ [y]))
    (hf : ∀ m d, ds[m]? = some d → ∀ k e acc, (ys m d)[k]? = some e → Tst m k d e false → Acc m k acc → Acc m (k + 1) acc) (hnx : ∀ m d acc, ds[m]? = some d → Acc m (ys m d).length acc → Acc (m + 1) 0 acc) (hlen : ∀ m k acc, Acc m k acc → acc.length < 1000000) (hd : ∀ out, Acc ds.length 0 out → Post (.lst out) Γ)
    (hifs : ifs.length ≤ 1) (hn : NOk X n c) {σ : L2.St} {R H : Hp} (s : SOk X.K c Γ σ R H) (Q : VK)
    (q : ∀ v R' H' o Γ', SOk X.K c Γ' σ R' H' → Ex R R' → VOk X.K c Γ' σ R' H' (.own o) v → Post o Γ' → Q v H') :
    tLc2 (iList X.K (tW X iter)) (gName i) (lcT X scope []) (lcI X scope iter1) (gName j) (lcT X scope ifs) (lcE X scope elt) [i, j] [j] σ H Q := by
  refine hk.run hn σ R H s _ fun v R1 H1 k1 Γ1 s1 e1 r1 ⟨g1, g2'⟩ => ?_
  subst g1
  rw [g2'] at s1
  obtain ⟨a, vs, rfl, hA, hr⟩ := (r1.wk s1 hg).lst s1.rh
  have nst : ¬ stoAd Γ σ a := no_sto s1 r1 hg
  refine ⟨a, rfl, ⟨vs, .inl (.inl hA)⟩, fun Dl hD => ?_⟩
  have nDa : a ≠ Dl := fun z => by rw [z, hD] at hA; cases hA
  refine lcn_list (K := X.K) (a := a) (xs := vs) (Qd := fun H => Q (.ref Dl) H) (Body := fun x H' Nx => gName i x (wipe σ [i, j]) H' fun σ2 H2 => wipe σ2 [i, j] = wipe σ [i, j] ∧ lcT X scope [] σ2 H2 fun b H3 =>
      if b = true then lcI X scope iter1 σ2 H3 fun J1 H4 => ∃ W1 : Nat → Nat → Hp → Prop, (∃ m, W1 0 m H4) ∧ ∀ j' k H, W1 j' k H →
        (J1.stop j' H ∧ Nx H) ∨ (J1.go j' H ∧ ∃ Nx1 : Hp → Prop, (∀ H', Nx1 H' → ∃ k', k' < k ∧ W1 (j' + 1) k' H') ∧ ∀ x H', J1.yld j' H x H' → gName j x (wipe σ2 [j]) H' fun σ3 H5 => wipe σ3 [j] = wipe σ2 [j] ∧ lcT X scope ifs σ3 H5 fun b H6 =>
          if b = true then lcE X scope elt σ3 H6 fun y H7 => ∃ acc, H7 Dl = some (.lst acc) ∧ acc.length < sizeLine ∧ Nx1 (upd H7 Dl (.lst (acc ++ [y]))) else Nx1 H6)
      else Nx H3) (fun m H' => LcN X.K c Γ σ R1 Dl (fun H' => H' a = some (.lst vs)) (Acc m 0) H')
    ⟨R1, [], s1.grow (s1.newOwn (.lst []) hD), Ex.refl _, (by show upd H1 Dl (.lst []) a = _; rw [upd_ne nDa]; exact hA), .fresh s1 hD ⟨[], upd_same, .nil⟩, h0⟩ (fun m H' _ ⟨_, _, _, _, kp, _⟩ => .inl (.inl kp)) (fun m x H' hi h => ?_) (fun H' h => ?_)
  · obtain ⟨d, hd1, hd2⟩ := hr.get' hi
    exact lcn_turn i j (m := m) (Acc m) (fun k e q => Tst m k d e q) L hn (hlen m) (fun H H' k kp => k a _ nDa nst kp) hd2 h (fun X' c' b => hin X' c' b m d hd1) (fun X' c' b => ht X' c' b m d hd1) (fun X' c' b => he X' c' b m d hd1) (hf m d hd1) (fun acc => hnx m d acc hd1) (fun H' h => h) hifs
  · rw [← hr.length] at h
    obtain ⟨R', acc, s', e', kp, vo, pa⟩ := h
    exact q _ R' H' (.lst acc) _ s' (e1.trans e') vo (hd acc pa)
theorem lcn_hyps (i j : Nat) {ifs : List Expr} (L : LcOk2 X n n' Γ scope nx ny i j) (hn : NOk X n c) (hifs : ifs.length ≤ 1) (s1 : Shared) (H1 : Hp) (C : Addr) (cl : List (Str × Addr)) (fp : List Addr) :
    PG (X.blk s1 H1 scope (compEnvC scope cl C X.env) fp) (.Name nx px) (gName i) ∧ PG (X.blk s1 H1 scope (compEnvC scope cl C X.env) fp) (.Name ny py) (gName j) ∧ PTs (X.blk s1 H1 scope (compEnvC scope cl C X.env) fp) [] (lcT X scope []) ∧ PTs (X.blk s1 H1 scope (compEnvC scope cl C X.env) fp) ifs (lcT X scope ifs) ∧
      PE (X.blk s1 H1 scope (compEnvC scope cl C X.env) fp) elt (lcE X scope elt) ∧ PI (X.blk s1 H1 scope (compEnvC scope cl C X.env) fp) (.Name ny py) iter1 (lcI X scope iter1) := by
  have bk : BlkOk X.N X.env.scope scope [(nx, i), (ny, j)] := L.sc _ hn
  have hN : X.N.Nodup := by rw [hn.eq]; exact hn.nd
  have := nok_blk (c' := ⟨H1, H1, fun _ => False, n'.oi.map fun i => (i, 0), fun _ _ _ => False⟩) rfl ⟨s1, H1, C, cl, fp, rfl⟩ bk.kind hn L.in_ L.eN L.ek L.el L.es L.hot (by simp [List.map_map, Function.comp_def]) (fun _ h => h.elim)
  obtain ⟨l1, l2⟩ := this.loc i nx L.as1 (by rw [L.eN]; exact L.hi)
  obtain ⟨l3, l4⟩ := this.loc j ny L.as2 (by rw [L.eN]; exact L.hj)
  exact ⟨pg_name hN (by rw [hn.eq]; exact L.hi) l1 l2, pg_name hN (by rw [hn.eq]; exact L.hj) l3 l4, ⟨fun pins s2 σ2 H2 Q2 I h => (pts_of (Nat.zero_le _)).run pins s2 σ2 H2 Q2 I (h s1 H1 C cl fp)⟩, ⟨fun pins s2 σ2 H2 Q2 I h => (pts_of hifs).run pins s2 σ2 H2 Q2 I (h s1 H1 C cl fp)⟩, ⟨fun pins s2 σ2 H2 Q2 I h => pW.run pins s2 σ2 H2 Q2 I (h s1 H1 C cl fp)⟩,
    ⟨fun pins s2 σ2 H2 R2 I h => (pi_list pW).run pins s2 σ2 H2 R2 I (h s1 H1 C cl fp)⟩⟩
/-- stored to a name at once -/
theorem ws_lcN (i j : Nat) {ifs : List Expr} {De : DE} {pny spos : Pos} {nm : Str} (iy : Nat) {Q : OB → SL → Prop} (ys : Nat → D → List D) (Acc : Nat → Nat → List D → Prop) (Tst : Nat → Nat → D → D → Bool → Prop) (L : LcOk2 X n n' Γ scope nx ny i j) (hk : EK X n c Γ iter k) (hg : k.get Γ = some (.lst ds)) (h0 : Acc 0 0 [])
    (hin : ∀ X' c', BlkX X X' scope → ∀ m d, ds[m]? = some d → WE X' n' c' (inOut Γ i j d) iter1 fun z Γ3 => z = .lst (ys m d) ∧ Γ3 = inOut Γ i j d)
    (ht : ∀ X' c', BlkX X X' scope → ∀ m d, ds[m]? = some d → ∀ k e, (ys m d)[k]? = some e → WTs X' n' c' (in2 Γ i j d e) ifs fun q Γ2 => Γ2 = in2 Γ i j d e ∧ Tst m k d e q)
    (he : ∀ X' c', BlkX X X' scope → ∀ m d, ds[m]? = some d → ∀ k e acc, (ys m d)[k]? = some e → Tst m k d e true → Acc m k acc → WE X' n' c' (in2 Γ i j d e) elt fun y Γ3 => Γ3 = in2 Γ i j d e ∧ Acc m (k + 1) (acc ++ [y]))
    (hf : ∀ m d, ds[m]? = some d → ∀ k e acc, (ys m d)[k]? = some e → Tst m k d e false → Acc m k acc → Acc m (k + 1) acc) (hnx : ∀ m d acc, ds[m]? = some d → Acc m (ys m d).length acc → Acc (m + 1) 0 acc) (hlen : ∀ m k acc, Acc m k acc → acc.length < 1000000) (hd : ∀ out, Acc ds.length 0 out → De.nx (Γ.set iy (.own (.lst out))))
    (hifs : ifs.length ≤ 1 := by decide) (hs : ∀ x, foldedSetIterable iter X.env x = pure x := by intro _; rfl) (hs1 : ∀ env x, foldedSetIterable iter1 env x = pure x := by intro _ _; rfl)
    (hy : n.N[iy]? = some nm := by rfl) (hyl : n.lc.contains iy = true := by rfl) (hyo : n.oi.contains iy = false := by rfl) (hln : (pny.line == pos.line) = true := by rfl) (hany : (scope.names.any fun (m, k) => m == nm && (k == .local || k == .cell)) = false := by decide +kernel) : WS X n c Γ (.Assign [.Name nm pny] (.ListComp elt [⟨.Name nx px, iter, [], 0⟩, ⟨.Name ny py, iter1, ifs, 0⟩] scope pos) spos) De := .mk fun hn σ R H s E ok => by
  have h := fun s1 H1 C cl fp => lcn_hyps (elt := elt) (iter1 := iter1) (px := px) (py := py) i j L hn hifs s1 H1 C cl fp
  have hl := hn.lc iy nm hyl hy
  refine (ps_setLc2 (i := iy) (own := [(nx, i), (ny, j)]) (vs1 := [j]) (hn.calm L.hot) (by rw [hn.eq]; exact hn.nd) (by rw [hn.eq]; exact hy) hl (sw_true hn.kind hl hln hany) (pi_list pW) (L.sc _ hn) (fun q hq => by simp at hq ⊢; exact .inr hq) (fun s H C cl fp => (h s H C cl fp).1) (fun s H C cl fp => (h s H C cl fp).2.2.1) (fun s H C cl fp => (h s H C cl fp).2.2.2.2.2) (fun s H C cl fp => (h s H C cl fp).2.1) (fun s H C cl fp => (h s H C cl fp).2.2.2.1) (fun s H C cl fp => (h s H C cl fp).2.2.2.2.1) hs hs1).w ?_
  show tLc2 _ _ _ _ _ _ _ _ _ σ H fun x H1 => gName iy x σ H1 E.nx
  exact rd_lcN (Post := fun o Γ' => De.nx (Γ'.set iy (.own o))) i j ys Acc Tst L hk hg h0 hin ht he hf hnx hlen (fun out ho => hd out ho) hifs hn s _ fun v R' H' o Γ' s' e' vo p' => ok.nx _ R' H' _ (s'.setO iy vo (hn.noi hyo)) e' p'
end
end DL

end
section
set_option Elab.async false
set_option linter.all false
set_option autoImplicit true
set_option maxRecDepth 100000
set_option maxHeartbeats 1000000
/-! the sets of names, one by one: small_sets -/
namespace DL
open PySem L2
open PyProof.Rows hiding St
/-- what small_sets hands out -/
noncomputable def smL (ns : List Str) (k : Nat) : List (List Str) := grpL (srtS ns) (min k ns.length)
def ST_small : SgG := fun ps ds => ∃ (ns : List Str) (k : Nat), ps = [.w (.lst (ns.map DL.D.str)), .d (.int (k : Int))] ∧ ns.length ≤ 6 ∧ ds = (smL ns k).map setsD
theorem strs_inj : ∀ {a b : List Str}, a.map DL.D.str = b.map DL.D.str → a = b
  | [], [], _ => rfl
  | [], _ :: _, h => by cases h
  | _ :: _, [], h => by cases h
  | x :: a, y :: b, h => by
    rw [List.map_cons, List.map_cons] at h
    injection h with h1 h2
    injection h1 with h1
    rw [h1, strs_inj h2]
/-- what is to come from size i on -/
def remG (rk : List Str) (K i : Nat) : List D := ((List.range' i (K + 1 - i)).flatMap (levL rk)).map setsD
theorem remG_0 {rk : List Str} {K : Nat} : remG rk K 0 = (grpL rk K).map setsD := by
  unfold remG grpL
  rw [List.range_eq_range']; rfl
theorem remG_end {rk : List Str} {K : Nat} : remG rk K (K + 1) = [] := by
  unfold remG; rw [Nat.sub_self]; rfl
theorem remG_succ {rk : List Str} {K i : Nat} (h : i < K + 1) : remG rk K i = (levL rk i).map setsD ++ remG rk K (i + 1) := by
  unfold remG
  obtain ⟨m, hm⟩ : ∃ m, K + 1 - i = m + 1 := ⟨K - i, by omega⟩
  rw [hm, List.range'_succ, show K + 1 - (i + 1) = m by omega, List.flatMap_cons, List.map_append]
theorem levL_cap {rk : List Str} (h : rk.length ≤ 6) {i : Nat} (hi : i ≤ 6) : (levL rk i).length ≤ 46656 := by
  refine Nat.le_trans (levL_len i) (Nat.le_trans (Nat.pow_le_pow_left h _) ?_)
  exact Nat.le_trans (Nat.pow_le_pow_right (by decide) hi) (by decide)
theorem lastLt_snoc {os : List Str} {l s : Str} : lastLt (os ++ [l]) s = ltS l s := by
  unfold lastLt; rw [List.getLast?_append]; rfl
/-- what the inner loop has made: the first m sets are done, of the next one the first k names -/
def exP (rk : List Str) (ls : List (List Str)) (m k : Nat) : List (List Str) := (ls.take m).flatMap (extL rk) ++ (match ls[m]? with
  | some one => ((rk.take k).filter (lastLt one)).map fun nm => one ++ [nm]
  | none => [])
theorem exP_len {rk : List Str} (h : rk.length ≤ 6) {ls : List (List Str)} (hl : ls.length ≤ 46656) (m k : Nat) : (exP rk ls m k).length < 1000000 := by
  unfold exP
  rw [List.length_append]
  have h1 := flat_len (fun a => extL_len (rk := rk) (one := a)) (ls.take m)
  have h2 : (ls.take m).length ≤ 46656 := by rw [List.length_take]; omega
  have h3 : (ls.take m).length * rk.length ≤ 46656 * 6 := Nat.mul_le_mul h2 h
  have h4 : (match ls[m]? with
    | some one => ((rk.take k).filter (lastLt one)).map fun nm => one ++ [nm]
    | none => []).length ≤ 6 := by
    split
    · rw [List.length_map]
      refine Nat.le_trans (List.length_filter_le _ _) ?_
      rw [List.length_take]; omega
    · exact Nat.zero_le _
  omega
theorem exP_0 {rk : List Str} {ls : List (List Str)} : exP rk ls 0 0 = [] := by
  unfold exP
  simp
  split <;> simp
theorem exP_nx {rk : List Str} {ls : List (List Str)} {m : Nat} {one : List Str} (h : ls[m]? = some one) : exP rk ls m rk.length = exP rk ls (m + 1) 0 := by
  unfold exP
  rw [h, List.take_length, List.take_add_one, h, List.flatMap_append]
  simp [extL]
  split <;> simp
theorem exP_step {rk : List Str} {ls : List (List Str)} {m k : Nat} {one : List Str} {s : Str} (h : ls[m]? = some one) (hk : rk[k]? = some s) (b : lastLt one s = true) : exP rk ls m (k + 1) = exP rk ls m k ++ [one ++ [s]] := by
  unfold exP
  simp only [h]
  rw [List.take_add_one, hk, List.filter_append, List.map_append, List.append_assoc]
  simp [b]
theorem exP_skip {rk : List Str} {ls : List (List Str)} {m k : Nat} {one : List Str} {s : Str} (h : ls[m]? = some one) (hk : rk[k]? = some s) (b : lastLt one s = false) : exP rk ls m (k + 1) = exP rk ls m k := by
  unfold exP
  simp only [h]
  rw [List.take_add_one, hk, List.filter_append, List.map_append]
  simp [b]
theorem exP_end {rk : List Str} {ls : List (List Str)} : exP rk ls ls.length 0 = ls.flatMap (extL rk) := by
  unfold exP
  rw [List.take_length]
  simp
end DL

end
section
set_option Elab.async false
set_option linter.all false
set_option autoImplicit true
set_option maxRecDepth 100000
set_option maxHeartbeats 1000000
/-! list(g(..)) -/
namespace DL
open PySem PySem.Spec PyProof.Rows GenW L2
section
variable {X X0 : Cx} {c : Cc} {pins : List (Addr × Obj)} {a : Addr} {g : Nat} {hv pv : List Addr} {sy s : Shared} {R H : Hp} {σ : L2.St} {Γ : SL}
theorem genOn_sy {A : Around} {ds : List D} {gs : GenState} {Ry : Hp} {sy2 : Shared} (h : GenOn X0 A ds gs pv Ry sy) (e : ∀ b ∈ pv, sy2.heap.get? b = sy.heap.get? b) : GenOn X0 A ds gs pv Ry sy2 :=
  genOn_iff.mpr fun s R H g rh ey => genOn_iff.mp h s R H ⟨g.os, g.bare, fun b hb => (g.kept b hb).trans (e b hb), g.hok, g.cut, g.base, g.funs, g.fr⟩ rh ey
/-- a list that was not tracked is -/
theorem Inv.putL {S : Addr} {acc : Array Value} {cc : Nat} {vs : List V} (I : Inv X pins σ H s) (hn : H S = none) (hs : Strange X pins S) (e : s.heap.get? S = some (lstObj acc cc)) (r : Vals vs acc.toList) (hl : vs.length ≤ sizeLine) : Inv X pins σ (upd H S (.lst vs)) s := by
  refine ⟨I.ok, I.os, I.bare, ⟨I.base.keep, I.base.slot, fun b o e' n hx => ?_, I.base.there, fun b xs e' => ?_, fun b o u e' => ?_, fun b ps e' => ?_⟩, I.loc, I.cell, ?_, fun x c e' => ?_, fun p hp => ?_, fun b u q => ?_, I.len⟩
  · rw [upd_ne fun z => by rw [z, hs.old] at e'; cases e']; exact I.base.free b o e' n hx
  · rw [upd_ne fun z => hs.tup xs (by rw [← z]; exact e')]; exact I.base.tups b xs e'
  · rw [upd_ne fun z => hs.frz o u (by rw [← z]; exact e')]; exact I.base.frzs b o u e'
  · rw [upd_ne fun z => hs.tbl ps (by rw [← z]; exact e')]; exact I.base.tbls b ps e'
  · rw [upd_ne (Ne.symm hs.loc)]; exact I.free
  · rw [upd_ne (hs.cell x c e')]; exact I.freeC x c e'
  · obtain ⟨h1, h2, h3⟩ := I.pin p hp
    exact ⟨h1, by rw [upd_ne (hs.pin p hp)]; exact h2, h3⟩
  · by_cases hb : b = S
    · subst hb
      rw [upd_same] at q
      cases q
      exact ⟨hl, acc.toList, cc, r, by rw [e]⟩
    · rw [upd_ne hb] at q
      exact (I.hok b u q).stay (fun _ _ _ z => z) (fun d z => by rw [upd_ne (ne_of_none z hn)]; exact z) fun d xs z => by rw [upd_ne (ne_of_none z hn)]; exact z
theorem cutP_1 {S : Addr} : cutP [S] H S = none := cutP_in (List.mem_singleton.mpr rfl)
theorem cutP_ne {S b : Addr} (h : b ≠ S) : cutP [S] H b = H b := cutP_out fun z => h (List.mem_singleton.mp z)
/-- the list being made, between two turns: held still; it grows by one -/
theorem held_poke {S : Addr} {h2 : Heap} {t2 : Nat} (h : Holds X c pins X0 a g hv sy R s) (hS : S ∈ hv) (hSa : S ≠ a) (hS0 : X.s_0.heap.objs.size ≤ S) (hex : X.ex = []) (I : Inv X pins σ H s) (k : SOk X.K c Γ σ R H) (kk : ∀ b o, b ≠ S → s.heap.get? b = some o → h2.get? b = some o) {o2 : Obj} (e2 : h2.get? S = some o2) {hy : Heap} (ky : ∀ b o, b ≠ S → sy.heap.get? b = some o → hy.get? b = some o) (ey : hy.get? S = some o2) :
    ∃ R2 H2, Inv X pins σ H2 { s with heap := h2, toks := t2 } ∧ SOk X.K c Γ σ R2 H2 ∧ Holds X c pins X0 a g hv { sy with heap := hy } R2 { s with heap := h2, toks := t2 } ∧ Ey R R2 ∧ ∀ b, b ∉ hv → R2 b = R b := by
  have st := h.str S hS
  have hd : Held [S] R := fun b hb => by
    rw [List.mem_singleton.mp hb]
    obtain ⟨o, _, q⟩ := h.held S hS
    exact ⟨o, q⟩
  have I1 := DL.Inv.cutP I (hd.ex k.rh) (fun b hb => by rw [List.mem_singleton.mp hb]; exact st)
  have I2 : Inv X pins σ (cutP [S] H) { s with heap := h2, toks := t2 } := I1.turned kk cutP_1 st.loc (.inr hS0) st.cell st.pin
  have I3 := DL.Inv.addP (pv := [S]) I2 (fun b hb => cutP_in hb) (fun b hb => by rw [List.mem_singleton.mp hb]; exact st)
  have k1 := k.cut hd (fun b hb => by rw [List.mem_singleton.mp hb]; exact h.h0 S hS) (fun b hb => by rw [List.mem_singleton.mp hb]; exact h.r0 S hS)
  have ga := grow_add (pv := [S]) (h := h2) k1.rh (fun b hb => cutP_in hb)
  have k2 := k1.grow ga
  refine ⟨_, _, I3, k2, ⟨h.str, h.h0, h.r0, fun b hb => ?_, h.mem, ?_, h.prog, h.w, h.K, h.base, h.outer, h.os, h.low, h.la⟩, fun b o n q => ?_, fun b hb => ?_⟩
  · by_cases z : b = S
    · subst z
      exact ⟨o2, ey, addP_in (List.mem_singleton.mpr rfl) e2⟩
    · obtain ⟨o, q1, q2⟩ := h.held b hb
      exact ⟨o, ky b o z q1, ga.r b _ (by rw [cutP_ne z]; exact q2)⟩
  · obtain ⟨o, nm, qn, q1, q2⟩ := h.gen
    exact ⟨o, nm, qn, ky a o (Ne.symm hSa) q1, q2⟩
  · exact ga.r b o (hd.ey b o n q)
  · have z : b ≠ S := fun z => hb (z ▸ hS)
    rw [addP_out fun z2 => z (List.mem_singleton.mp z2), cutP_ne z]
/-- it is done -/
theorem held_list {S : Addr} {acc : Array Value} {cc : Nat} {vs : List V} {ds : List D} (h : Holds X c pins X0 a g hv sy R s) (hS : S ∈ hv) (I : Inv X pins σ H s) (k : SOk X.K c Γ σ R H) (e : s.heap.get? S = some (lstObj acc cc)) (r : Vals vs acc.toList) (hl : vs.length ≤ sizeLine) (rp : RpL X.K R ds vs) :
    ∃ R2 H2, Inv X pins σ H2 s ∧ SOk X.K c Γ σ R2 H2 ∧ VOk X.K c Γ σ R2 H2 (.own (.lst ds)) (.ref S) ∧ Ex (cutP [S] R) R2 := by
  have st := h.str S hS
  obtain ⟨oS, q1, q2⟩ := h.held S hS
  have hd : Held [S] R := fun b hb => by
    rw [List.mem_singleton.mp hb]
    exact ⟨oS, q2⟩
  have I1 := DL.Inv.cutP I (hd.ex k.rh) (fun b hb => by rw [List.mem_singleton.mp hb]; exact st)
  have k1 := k.cut hd (fun b hb => by rw [List.mem_singleton.mp hb]; exact h.h0 S hS) (fun b hb => by rw [List.mem_singleton.mp hb]; exact h.r0 S hS)
  have I2 := DL.Inv.putL I1 cutP_1 st e r hl
  have gn := k1.newOwn (.lst vs) (p := S) cutP_1
  refine ⟨_, _, I2, k1.grow gn, .fresh k1 cutP_1 ⟨vs, upd_same, RpL.ey hd.ey _ _ rp⟩, Ex.refl _⟩
end
section
variable {X X0 : Cx} {c : Cc} {pins : List (Addr × Obj)} {a S : Addr} {g : Nat} {σ : L2.St} {Γ : SL}
theorem drainG {A : Around} {Rr : Result → Shared → Prop} {Rb : Hp} {all : List D} (hex : X.ex = []) (hh : A.handled = none) (hroom : A.in1.depth < recursionLimit) (hSa : S ≠ a) (hS0 : X.s_0.heap.objs.size ≤ S) (hlS : X0.env.locals ≤ S)
    (hend : ∀ s' R' H', Inv X pins σ H' s' → SOk X.K c Γ σ R' H' → Ex Rb R' → VOk X.K c Γ σ R' H' (.own (.lst all)) (.ref S) → Rr (.ok (.ret .none)) s') :
    ∀ (ds dn : List D) (s : Shared) (R H : Hp) (hv pv : List Addr) (sy : Shared) (gs : GenState) (acc : Array Value) (cc : Nat) (vs : List V), dn ++ ds = all → Inv X pins σ H s → SOk X.K c Γ σ R H → Ex Rb R → (∀ b ∈ hv, Rb b = none) → Holds X c pins X0 a g hv sy R s → S ∈ hv → S ∉ pv → a ∉ pv → (∀ b ∈ pv, b ∈ hv) → s.gens[g]? = some gs →
      GoesS (model X0.prog X0.w) A.in1.in1 (GPhi X0 A.in1.in1 ⟨s.setGen g .running, cutP hv R, cutP hv H, pv⟩ ds) gs (s.setGen g .running) → s.heap.get? S = some (lstObj acc cc) → Vals vs acc.toList → RpL X.K (cutP hv R) dn vs → dn.length + ds.length < 1000000 →
      codeAny (model X.prog X.w) A (.builtin "list.extend.loop" ⟨[.ref S, .ref a, .none], []⟩) Rr s := by
  intro ds
  induction ds with
  | nil =>
    intro dn s R H hv pv sy gs acc cc vs hall I k eb nb h hS hpS hpa hp hgs go hl r rp hlen
    refine codeAny_builtin F.entry_extend_loop ?_
    rw [Around.under_plainId F.plain_extend_loop _]
    show wpAny _ A.in1 (pyNext (.ref a) >>= _) _ _ s
    refine wpAny_bind (wpAny_mono (gen_end (B := A.in1) (es := [a, S]) (E := fun _ _ => False) h I k hp (fun b hb => ?_) List.mem_cons_self hex hgs go hh hroom) (fun o s1 q => ?_) fun _ _ z => z.elim)
    · rcases List.mem_cons.mp hb with z | z
      · rw [z]; exact ⟨h.mem, h.la, hpa⟩
      · rw [List.mem_singleton.mp z]; exact ⟨hS, hlS, hpS⟩
    · obtain ⟨rfl, R', H', sy', I1, k1, e1, h1, hz, hk⟩ := q
      have mS : S ∈ [a, S] := by simp
      have rp1 : RpL X.K R' dn vs := rp.mono e1
      have hlv : vs.length ≤ sizeLine := by
        have := rp.length
        rw [sizeLine_eq]; simp at hlen; omega
      obtain ⟨R2, H2, I2, k2, vo, e2⟩ := held_list h1 mS I1 k1 ((hk S mS).trans hl) r hlv rp1
      rw [List.append_nil] at hall
      subst hall
      refine wpAny_pure (hend s1 R2 H2 I2 k2 (fun b o q => ?_) vo)
      have n1 : b ∉ hv := fun z => by rw [nb b z] at q; cases q
      have n2 : b ≠ S := fun z => n1 (z ▸ hS)
      exact e2 b o (by rw [cutP_ne n2]; exact e1 b o (by rw [cutP_out n1]; exact eb b o q))
  | cons d ds ih =>
    intro dn s R H hv pv sy gs acc cc vs hall I k eb nb h hS hpS hpa hp hgs go hl r rp hlen
    refine codeAny_builtin F.entry_extend_loop ?_
    rw [Around.under_plainId F.plain_extend_loop _]
    show wpAny _ A.in1 (pyNext (.ref a) >>= _) _ _ s
    have hes : ∀ b ∈ [a, S], b ∈ hv ∧ X0.env.locals ≤ b ∧ b ∉ pv := fun b hb => by
      rcases List.mem_cons.mp hb with z | z
      · rw [z]; exact ⟨h.mem, h.la, hpa⟩
      · rw [List.mem_singleton.mp z]; exact ⟨hS, hlS, hpS⟩
    refine wpAny_bind (wpAny_mono (gen_item (B := A.in1) (es := [a, S]) (E := fun _ _ => False) h I k hp hes List.mem_cons_self hex hgs go hh hroom) (fun o s1 q => ?_) fun _ _ z => z.elim)
    obtain ⟨v, x, R1, R', H', pv1, gs', sy', rfl, rv, rx, er, I1, k1, e1, h1, np, hgs1, gon, asl, hz, hk⟩ := q
    have mS : S ∈ [a, S] := by simp
    have hS1 : s1.heap.get? S = some (lstObj acc cc) := (hk S mS).trans hl
    have hS1' : S ∈ [a, S] ++ pv1 := List.mem_append_left _ mS
    have hsy : sy'.heap.get? S = some (lstObj acc cc) := by
      have := h1.kept I1 k1.rh S hS1'
      rw [← this]; exact hS1
    have lenv := rp.length
    have lacc : acc.size = vs.length := by rw [← Array.length_toList]; exact r.length.symm
    simp only [List.length_cons] at hlen
    have hasz : acc.size < sizeLine := by rw [sizeLine_eq]; omega
    show wpAny _ A.in1 (updateSeq S (·.push v) >>= _) _ _ _
    refine wpAny_bind ?_
    refine wpAny_updateSeq hS1 rfl (wpAny_pure ⟨plainId_quiet F.plain_extend_loop _, ?_⟩) (Nat.le_of_lt hasz) (by show (acc.push v).size ≤ sizeLine + 1; rw [Array.size_push]; omega)
    have upS : ∀ hp : Heap, hp.get? S = some (lstObj acc cc) → ∃ c2, (hp.update S (Obj.mapSeq (·.push v))).get? S = some (lstObj (acc.push v) c2) := fun hp q => ⟨_, Heap.get?_update_self (Obj.mapSeq (·.push v)) q rfl⟩
    obtain ⟨c2, u1⟩ := upS _ hS1
    obtain ⟨c3, u3⟩ := upS _ hsy
    have c23 : c2 = c3 := by
      have q1 := Heap.get?_update_self (Obj.mapSeq (·.push v)) hS1 rfl
      have q2 := Heap.get?_update_self (Obj.mapSeq (·.push v)) hsy rfl
      rw [u1] at q1; rw [u3] at q2
      have q3 := q1.trans q2.symm
      unfold lstObj at q3
      simpa using q3
    subst c23
    obtain ⟨R2, H2, I2, k2, h2, ey2, out2⟩ := held_poke (t2 := s1.toks) (h2 := s1.heap.update S (Obj.mapSeq (·.push v))) (hy := sy'.heap.update S (Obj.mapSeq (·.push v))) h1 hS1' hSa hS0 hex I1 k1 (fun b o n q => (Heap.get?_update_other _ _ (Ne.symm n)).trans q) u1 (fun b o n q => (Heap.get?_update_other _ _ (Ne.symm n)).trans q) u3
    have nS1 : S ∉ pv1 := np S mS
    have na1 : a ∉ pv1 := np a List.mem_cons_self
    have gon2 : GenOn X0 A.in1.in1 ds gs' pv1 R1 { sy' with heap := sy'.heap.update S (Obj.mapSeq (·.push v)) } := genOn_sy gon fun b hb => by
      have hbS : b ≠ S := fun z => nS1 (z ▸ hb)
      exact Heap.get?_update_other _ _ (Ne.symm hbS)
    have cut2 : ∀ b, cutP ([a, S] ++ pv1) R2 b = cutP ([a, S] ++ pv1) R' b := fun b => by
      by_cases z : b ∈ [a, S] ++ pv1
      · rw [cutP_in z, cutP_in z]
      · rw [cutP_out z, cutP_out z, out2 b z]
    have hd1 : Held ([a, S] ++ pv1) R' := h1.hd
    have ecut : Ex (cutP hv R) (cutP ([a, S] ++ pv1) R2) := fun b o q => by
      have z : b ∉ [a, S] ++ pv1 := fun z => by rw [hz b z] at q; cases q
      rw [cutP_out z, out2 b z]
      exact e1 b o q
    have nb1 : ∀ b ∈ [a, S] ++ pv1, Rb b = none := fun b hb => by
      cases q : Rb b with
      | none => rfl
      | some u =>
        have z2 : b ∉ hv := fun z2 => by rw [nb b z2] at q; cases q
        have z3 := hz b hb
        rw [cutP_out z2, eb b u q] at z3; cases z3
    have eb1 : Ex Rb R2 := fun b o q => by
      have z1 : b ∉ [a, S] ++ pv1 := fun z => by rw [nb1 b z] at q; cases q
      have z2 : b ∉ hv := fun z => by rw [nb b z] at q; cases q
      rw [out2 b z1]
      exact e1 b o (by rw [cutP_out z2]; exact eb b o q)
    have hpv : ∀ b ∈ pv1, b ∈ [a, S] ++ pv1 := fun b hb => List.mem_append_right _ hb
    refine ih (dn ++ [d]) { s1 with heap := s1.heap.update S (Obj.mapSeq (·.push v)), toks := s1.toks } R2 H2 ([a, S] ++ pv1) pv1 _ gs' (acc.push v) c2 (vs ++ [x]) (by rw [List.append_assoc]; exact hall) I2 k2 eb1 nb1 h2 hS1' nS1 na1 hpv hgs1 ?_ u1 ?_ ?_ ?_
    · exact h2.wakes I2 k2 hpv gon2 fun b o n q => ey2 b o n (er b o q)
    · rw [Array.toList_push]; exact r.append (.cons rv .nil)
    · refine (rp.mono ecut).append (.one ?_)
      exact Rp.ey (h2.hd.ey) _ _ (Rp.ey ey2 _ _ (Rp.mono er _ _ rx))
    · rw [List.length_append]; simp only [List.length_cons, List.length_nil]; omega
end
end DL

end
section
set_option Elab.async false
set_option linter.all false
set_option autoImplicit true
set_option maxRecDepth 100000
set_option maxHeartbeats 1000000
/-! the expression list(g(..)) -/
namespace DL
open PySem PySem.Spec PyProof.Rows GenW L2
section
variable {X : Cx} {c : Cc} {n : Nm}
theorem gmd_keep {P : Program} {w : World} {K : PySem.W.Frag} {base : Heap} {k : Nat} {outer : List Env} {R H : Hp} {s0 s1 s2 : Shared} {ds : List D} {u : Value} (m : GMd P w K base k outer R H s0 ds u s1) (hk : ∀ b o, s1.heap.get? b = some o → s2.heap.get? b = some o) (hg : s2.gens = s1.gens) (ho : s2.os = s1.os) : GMd P w K base k outer R H s0 ds u s2 := by
  obtain ⟨a, g, code, pv, sy, rfl, m1, m2, m3, m4, m5, m6, m7, m8, m9, m10, m11⟩ := m
  have mono : a < s2.heap.objs.size := by
    obtain ⟨o, _, _, q, _⟩ := m6
    exact Heap.lt_size (hk a o q)
  exact ⟨a, g, code, pv, sy, rfl, m1, fun b o e => hk b o (m2 b o e), fun b o e => hk b o (m3 b o e), m4, mono, m6.keeps hk, by rw [hg]; exact m7, ho.trans m8, by rw [hg]; exact m9, m10.keeps hk, m11⟩
/-- the first turn may begin; S: a thing that was made since, held, too -/
theorem gen_holdS {pins : List (Addr × Obj)} {σ : L2.St} {Γ : SL} {R H : Hp} {s0 s' : Shared} {ds : List D} {u : Value} {k : Nat} {S : Addr} (I : Inv X pins σ H s0) (sk : SOk X.K c Γ σ R H) (hex : X.ex = []) {B : Around} (hfr : B.in1.frames = some X.stack) (hr : Room k B.in1) (m : GMd X.prog X.w X.K X.base k X.stack R H s0 ds u s')
    (hS : ∀ a, u = .ref a → a < S) (hS1 : ∃ o, s'.heap.get? S = some o) (hS2 : s0.heap.objs.size ≤ S) :
    ∃ (a : Addr) (g : Nat) (X0 : Cx) (hv pv : List Addr) (R' H' : Hp) (gs : GenState), u = .ref a ∧ Inv X pins σ H' s' ∧ SOk X.K c Γ σ R' H' ∧ Ex R R' ∧ (∀ b ∈ hv, R b = none) ∧ Holds X c pins X0 a g hv s' R' s' ∧ (∀ b ∈ pv, b ∈ hv) ∧ a ∉ pv ∧ S ∈ hv ∧ S ∉ pv ∧ X0.env.locals ≤ S ∧ S ≠ a ∧ s'.gens[g]? = some gs ∧
      GoesS (model X0.prog X0.w) B.in1 (GPhi X0 B.in1 ⟨s'.setGen g .running, cutP hv R', cutP hv H', pv⟩ ds) gs (s'.setGen g .running) := by
  obtain ⟨a, g, code, pv, sy, rfl, m1, m2, m3, m4, m5, m6, m7, m8, m9, m10, m11⟩ := m
  have haS : a < S := hS a rfl
  obtain ⟨X0, x1, x2, x3, x4, x5, x6, x7, first⟩ := m11 B.in1 hr hfr
  have I1 : Inv X pins σ H s' := I.call' (ch := []) m8 (Un.kept m3) (I.hok.kept m3) m9 fun b z => by simp at z
  have big : ∀ b ∈ S :: a :: pv, s0.heap.objs.size ≤ b := fun b hb => by
    rcases List.mem_cons.mp hb with z | hb
    · rw [z]; exact hS2
    rcases List.mem_cons.mp hb with z | z
    · rw [z]; exact m4
    · exact (m1 b z).1
  have hn : ∀ b ∈ S :: a :: pv, H b = none := fun b hb => I.hok.fresh (big b hb)
  have st : ∀ b ∈ S :: a :: pv, Strange X pins b := fun b hb => strange_new I (Heap.get?_none_of_le (big b hb)) (hn b hb) (by rw [hex]; simp)
  have obj : ∀ b ∈ S :: a :: pv, ∃ o, s'.heap.get? b = some o := fun b hb => by
    rcases List.mem_cons.mp hb with z | hb
    · rw [z]; exact hS1
    rcases List.mem_cons.mp hb with z | z
    · obtain ⟨o, _, _, q, _⟩ := m6
      rw [z]; exact ⟨o, q⟩
    · obtain ⟨o, q⟩ := (m1 b z).2.2
      exact ⟨o, m2 b o q⟩
  have ga := grow_add (h := s'.heap) sk.rh hn
  have Rn : ∀ b ∈ S :: a :: pv, R b = none := fun b hb => sk.rh.back (hn b hb)
  have h : Holds X c pins X0 a g (S :: a :: pv) s' (addP (S :: a :: pv) s'.heap R) s' := ⟨st, fun b hb => by
      cases q : c.H0 b with
      | none => rfl
      | some v => exact absurd (hn b hb) (sk.pr b (by rw [q]; simp)), fun b hb => sk.r0.back (Rn b hb), fun b hb => let ⟨o, q⟩ := obj b hb; ⟨o, q, addP_in hb q⟩, List.mem_cons_of_mem _ List.mem_cons_self, m6, x1, x2, x3, x4, x5, x6.trans I.os, by rw [x7]; exact I.sz, by rw [x7]; exact m4⟩
  have J := DL.Inv.addP I1 hn st
  have kJ := sk.grow ga
  have cc : ∀ {G : Hp}, (∀ b ∈ S :: a :: pv, G b = none) → Ex G (cutP (S :: a :: pv) (addP (S :: a :: pv) s'.heap G)) := fun {G} hG b o q => by
    have z : b ∉ S :: a :: pv := fun z => by rw [hG b z] at q; cases q
    rw [cutP_out z, addP_out z]; exact q
  have sub : ∀ b ∈ pv, b ∈ S :: a :: pv := fun b hb => List.mem_cons_of_mem _ (List.mem_cons_of_mem _ hb)
  refine ⟨a, g, X0, S :: a :: pv, pv, _, _, .fresh code, rfl, J, kJ, ga.r, Rn, h, sub, fun ha => absurd (m1 a ha).2.1 (Nat.lt_irrefl _), List.mem_cons_self, fun hp => ?_, by rw [x7]; exact hS2, Nat.ne_of_gt haS, m7, ?_⟩
  · exact absurd (Nat.lt_trans (m1 S hp).2.1 haS) (Nat.lt_irrefl _)
  have gone : Gone X0 pv s' (s'.setGen g .running) (cutP (S :: a :: pv) (addP (S :: a :: pv) s'.heap H)) := h.gone J kJ.rh sub (allBare_setGen J.bare rfl)
  have gone' : Gone X0 pv sy (s'.setGen g .running) (cutP (S :: a :: pv) (addP (S :: a :: pv) s'.heap H)) := ⟨gone.os, gone.bare, fun b hb => by
    obtain ⟨o, q⟩ := (m1 b hb).2.2
    rw [q]; exact m2 b o q, gone.hok, gone.cut, gone.base, gone.funs, gone.fr⟩
  have q := first (s'.setGen g .running) _ _ gone' (cc Rn) (cc hn) (kJ.cut h.hd h.h0 h.r0).rh
  rw [x1, x2]
  exact q
theorem call_listG {pins : List (Addr × Obj)} {σ : L2.St} {Γ : SL} {R H : Hp} {s0 s : Shared} {ds : List D} {u : Value} {k : Nat} {Q' : Value → Shared → Prop} {E : Value → Shared → Prop} (hex : X.ex = []) (hh : X.A.handled = none) (I : Inv X pins σ H s0) (sk : SOk X.K c Γ σ R H) (hr : Room (k + 3) X.A) (m : GMd X.prog X.w X.K X.base k X.stack R H s0 ds u s) (hl : ds.length < 1000000)
    (hQ : ∀ S s' R' H', Inv X pins σ H' s' → SOk X.K c Γ σ R' H' → Ex R R' → VOk X.K c Γ σ R' H' (.own (.lst ds)) (.ref S) → Q' (.ref S) s') :
    wpAny (model X.prog X.w) X.A (call (.type "list") [u]) Q' E s := by
  have m0 := m
  obtain ⟨a, g, code, pv, sy, rfl, m1, m2, m3, m4, m5, m6, m7, m8, m9, m10, m11⟩ := m
  have hSa : s.heap.objs.size ≠ a := Nat.ne_of_gt m5
  have hS0 : X.s_0.heap.objs.size ≤ s.heap.objs.size := Nat.le_trans I.sz (Nat.le_trans m4 (Nat.le_of_lt m5))
  refine callType_codes (Q₁ := fun obj s₁ => obj = .ref s.heap.objs.size ∧ s₁ = { s with heap := s.heap.push { cls := .type "list", data := .seq #[] } }) F.called_list (F.typeCall_list_1 _) F.entry_list_init
    (code_list_new _ ⟨rfl, rfl⟩) fun obj s₁ h₁ => ?_
  obtain ⟨rfl, rfl⟩ := h₁
  have hS : (s.heap.push { cls := .type "list", data := .seq #[] }).get? s.heap.objs.size = some { cls := .type "list", data := .seq #[] } := Heap.get?_push_size _ rfl
  refine ⟨⟨_, hS, rfl⟩, F.args_list_init_2 _ _, ?_⟩
  show wpAny _ X.A.in1.in1 (do let old ← Builtin.List.listItems (.ref s.heap.objs.size); Builtin.List.listUpdate (.ref s.heap.objs.size) (fun _ => #[]); letGo old.toList.reverse; Builtin.List.listExtendWith (.ref s.heap.objs.size) (.ref a) .none) _ _ _
  refine wpAny_bind ?_
  unfold Builtin.List.listItems
  refine wpAny_bind (wpAny_seqItems hS rfl (wpAny_pure ?_))
  show wpAny _ X.A.in1.in1 (updateSeq s.heap.objs.size (fun _ => #[]) >>= fun _ => letGo (#[] : Array Value).toList.reverse >>= fun _ => Builtin.List.listExtendWith (.ref s.heap.objs.size) (.ref a) .none) _ _ _
  refine wpAny_bind (wpAny_updateSeq hS rfl ?_)
  have hS2 := Heap.get?_update_self (Obj.mapSeq (fun _ => (#[] : Array Value))) hS rfl
  refine wpAny_bind (wpAny_letGo ?_)
  unfold Builtin.List.listExtendWith
  have up : ∀ (h : Heap) (f : Obj → Obj), (∀ b o, s.heap.get? b = some o → h.get? b = some o) → ∀ b o, s.heap.get? b = some o → (h.update s.heap.objs.size f).get? b = some o := fun h f q b o e =>
    (Heap.get?_update_other _ _ (Ne.symm (Nat.ne_of_lt (Heap.lt_size e)))).trans (q b o e)
  have k1 : ∀ b o, s.heap.get? b = some o → (s.heap.push { cls := .type "list", data := .seq #[] }).get? b = some o := fun b o e => Heap.get?_push_of_some _ e
  have k2 := up _ (Obj.mapSeq (fun _ => (#[] : Array Value))) k1
  have gty : ∀ {h : Heap}, (∀ b o, s.heap.get? b = some o → h.get? b = some o) → h.IsGen a g := fun {h} q => m6.keeps q
  refine wpAny_bind (wpAny_typeOf (Heap.IsGen.typeIs (s := { s with heap := _ }) (gty k2)) ?_)
  have h1 : Builtin.List.listSameRef (.ref s.heap.objs.size) (.ref a) = false := by simp [Builtin.List.listSameRef, hSa]
  have h2 : (Value.type "generator" == Value.type "list") = false := by decide
  have h3 : (Value.type "generator" == Value.type "tuple") = false := by decide
  simp only [h1, h2, h3, Bool.or_false, Bool.false_eq_true, if_false]
  refine wpAny_bind (wpAny_pyIter_gen (s := { s with heap := _ }) (gty k2) ?_)
  refine wpAny_bind (wpAny_holding ?_)
  unfold Builtin.List.listLengthHint
  refine wpAny_bind (wpAny_specialOf (Heap.IsGen.typeIs (s := { s with heap := _ }) (gty k2)) F.gen_no_len ?_)
  show wpAny _ X.A.in1.in1 (specialOf (Value.ref a) (Str.ofString "__length_hint__") >>= _) _ _ _
  refine wpAny_bind (wpAny_specialOf (Heap.IsGen.typeIs (s := { s with heap := _ }) (gty k2)) F.gen_no_hint ?_)
  refine wpAny_pure ?_
  show wpAny _ X.A.in1.in1 (rule "list.extend.makes-room" >>= fun _ => Builtin.List.listTouch (.ref s.heap.objs.size) >>= fun _ =>
    again (.builtin "list.extend.loop" ⟨[.ref s.heap.objs.size, .ref a, .none], []⟩)) _ _ _
  refine wpAny_bind (wpAny_rule ?_)
  refine wpAny_bind ?_
  show wpAny _ X.A.in1.in1 (updateSeq s.heap.objs.size (·.push .none) >>= fun _ => updateSeq s.heap.objs.size (·.pop)) _ _ _
  refine wpAny_bind (wpAny_updateSeq hS2 rfl ?_)
  have hS3 := Heap.get?_update_self (Obj.mapSeq (·.push Value.none)) hS2 rfl
  refine wpAny_updateSeq (hz := by seq_fits) hS3 rfl ?_
  have hS4 := Heap.get?_update_self (Obj.mapSeq (·.pop)) hS3 rfl
  have k4 := up _ (Obj.mapSeq (·.pop)) (up _ (Obj.mapSeq (·.push Value.none)) k2)
  refine wpAny_pure ⟨plainId_quiet F.plain_extend_loop _, ?_⟩
  have main : ∀ h4 : Heap, (∀ b o, s.heap.get? b = some o → h4.get? b = some o) → (∃ cc, h4.get? s.heap.objs.size = some (lstObj #[] cc)) → codeAny (model X.prog X.w) X.A.in1 (.builtin "list.extend.loop" ⟨[.ref s.heap.objs.size, .ref a, .none], []⟩) (fun r s' => match r with | .ok (.ret v) => v = .none ∧ Q' (.ref s.heap.objs.size) s' | _ => False) { s with heap := h4 } := fun h4 kk ⟨cc, e4⟩ => by
    have m4' := gmd_keep (s2 := { s with heap := h4 }) m0 kk rfl rfl
    obtain ⟨a', g', X0, hv, pv', R', H', gs, ea, I', k', er, nb, hh', hp, hpa, hSm, hSp, hlS, hSa', hgs, go⟩ := gen_holdS (S := s.heap.objs.size) (B := X.A.in1.in1) I sk hex (by exact I.ok.frames) hr.in1.in1.in1 m4' (fun a' e => by cases e; exact m5) ⟨_, e4⟩ (Nat.le_trans m4 (Nat.le_of_lt m5))
    cases ea
    refine drainG (A := X.A.in1) (Rb := R) (all := ds) hex hh (by have := hr.dp; show X.A.depth < _; omega) hSa' hS0 hlS (fun s' R2 H2 I2 k2 e2 vo => ⟨rfl, hQ _ s' R2 H2 I2 k2 e2 vo⟩) ds [] { s with heap := h4 } R' H' hv pv' _ gs #[] cc [] rfl I' k' er nb hh' hSm hSp hpa hp hgs go e4 .nil rfl (by simpa using hl)
  refine codeAny_mono (main _ k4 ⟨_, hS4⟩) fun r s' q => ?_
  cases r with
  | error e => exact q.elim
  | ok fl =>
    cases fl with
    | ret v => exact q
    | next => exact q.elim
    | brk => exact q.elim
    | cont => exact q.elim
variable {Γ : SL} {e : Expr} {pos p : Pos} {ds : List D}
/-- list(e), e a generator -/
theorem eo_listGen (hb : Blt X "list" (.type "list")) (j : Nat) (h : WGn X n c Γ e ds) (hl : ds.length < 1000000) (hex : X.ex = []) (hj : n.GN[j]? = some ("list" : Str) := by rfl) (hh : n.hot = false := by rfl)
    (he : starEach [e] X.env = (false, eval e X.env) :: starEach [] X.env := by exact se_c rfl) : EO X n c Γ (.Call (.Name "list" p) [e] [] pos) (.lst ds) := .mk fun hn σ R H sk Q q pins s I => by
  obtain ⟨g1, g2, g3⟩ := hn.gl j _ hj
  refine wpAny_Call_Name_kw (ld_blt I g1 hb.mg hb.bt ?_ g3 g2)
  refine PyProof.Rows.callWith_type1 ?_ he rfl
  rw [he]
  show wpAny _ _ (spliced ((false, eval e X.env) :: backTo pos (starEach [] X.env))) _ _ s
  refine Calls.spliced_cons (thn (h.run hn σ R H sk pins s I) fun u s1 ⟨R1, H1, sc, k, I1, k1, e1, hr, m⟩ => ?_)
  refine Calls.spliced_nil ?_
  refine call_listG hex (hn.calm hh |> I1.ok.hd) I1 k1 hr m hl fun S s' R' H' I' k' e' vo => ?_
  exact ⟨.ref S, H', I', rfl, q _ R' H' _ _ k' (e1.trans e') vo ⟨rfl, rfl⟩⟩
end
/-- a def that uses a generator: it knows that no exception leaves it -/
theorem fn_okN {P : Program} {w : World} {K : PySem.W.Frag} {mg : Str → Option Value} {base : Heap} {x qual : Str} {st : Stmt} {f : Addr} {fd : FuncData} {qs : List Str} {n : Nm} {S : Sg} (F : Fun K x qual st f fd) (sc : FnScope n.N qs (defScope st)) (sb : ScOk (defScope st) n) (hsc : n.sc = none ∨ n.sc = some (defScope st))
    (hS : ∀ ps Post, S ps Post → ps.length = qs.length ∧ parOi 0 ps = n.oi)
    (body : ∀ (X : Cx) (c : Cc), X.prog = P ∧ X.w = w ∧ X.K = K ∧ X.mg = mg ∧ X.base = base ∧ Room n.k X.A → (X.xe = fun _ _ => False) ∧ X.ex = [] → ∀ ps Post, S ps Post → WB X n c (entry n.N ps) (defBody st) (fnD n.oi Post)) : FnOk P w K mg base CX0 (n.k + 1) f fd qs (spOf K S) := by
  refine F.ok sc (fun vs H Q E h => ?_) (fun cdv A outer s H vs Q E hr h => fn_body (G := fun X => (X.xe = fun _ _ => False) ∧ X.ex = []) sc sb hsc hS (fun X c e g => body X c e g) cdv A outer s H vs Q E hr ⟨rfl, rfl⟩ h)
  obtain ⟨R, ps, Post, e, hp, nd, hs, _⟩ := h
  rw [← parsOk_len hp]; exact (hS ps Post hs).1
end DL

end
section
set_option Elab.async false
set_option linter.all false
set_option autoImplicit true
set_option maxRecDepth 100000
set_option maxHeartbeats 1000000
/-! plain law of k21: the sets of names by their places; their order, their number -/
namespace DL
open PySem L2
open PyProof.Rows hiding St
theorem lt_cps : ∀ (a b : List Nat), Spec.ltCps a b = decide (a < b)
  | [], [] => by symm; exact decide_eq_false (List.lt_irrefl _)
  | [], _ :: _ => by symm; exact decide_eq_true (List.nil_lt_cons _ _)
  | _ :: _, [] => by symm; exact decide_eq_false (List.not_lt_nil _)
  | x :: a, y :: b => by
    have ih := lt_cps a b
    simp only [Spec.ltCps, ih]
    rw [Bool.eq_iff_iff]
    simp only [Bool.or_eq_true, Bool.and_eq_true, decide_eq_true_eq, beq_iff_eq, List.cons_lt_cons_iff]
theorem ltS_cps (a b : Str) : ltS a b = Spec.ltCps (cL a) (cL b) := (lt_cps _ _).symm
theorem ltS_irr (a : Str) : ltS a a = false := decide_eq_false (List.lt_irrefl _)
theorem srt_strict {ns : List Str} (nd : ns.Nodup) : (srtS ns).Pairwise fun a b => ltS a b = true := by
  obtain ⟨y, h1, h2⟩ := ex_srt ns
  rw [← srt_eq h1 h2]
  have nd2 : y.Nodup := h1.nodup_iff.mpr nd
  refine ((sorted_pw h2).and nd2).imp fun {a b} ⟨p, q⟩ => ?_
  rw [ltS_cps]
  cases e : Spec.ltCps (cL a) (cL b) with
  | true => rfl
  | false => exact absurd (cL_inj (lt_asym e p)) q
/-- by their places -/
def nmF (rk : List Str) (i : Nat) : Str := rk.getD i default
theorem nmF_get {rk : List Str} {i : Nat} (h : i < rk.length) : nmF rk i = rk[i] := by
  unfold nmF
  rw [List.getD_eq_getElem?_getD, List.getElem?_eq_getElem h]; rfl
theorem flat_congr {α β : Type} {f g : α → List β} : ∀ {l : List α}, (∀ a ∈ l, f a = g a) → l.flatMap f = l.flatMap g
  | [], _ => rfl
  | a :: l, h => by rw [List.flatMap_cons, List.flatMap_cons, h a List.mem_cons_self, flat_congr fun b hb => h b (List.mem_cons_of_mem _ hb)]
structure Rank (rk : List Str) : Prop where
  lt : ∀ i j, i < rk.length → j < rk.length → ltS (nmF rk i) (nmF rk j) = decide (i < j)
theorem rank_of {rk : List Str} (h : rk.Pairwise fun a b => ltS a b = true) : Rank rk := ⟨fun i j hi hj => by
  rw [nmF_get hi, nmF_get hj]
  rcases Nat.lt_trichotomy i j with z | z | z
  · rw [decide_eq_true z]; exact List.pairwise_iff_getElem.mp h i j hi hj z
  · subst z; rw [decide_eq_false (Nat.lt_irrefl _)]; exact ltS_irr _
  · rw [decide_eq_false (Nat.lt_asymm z)]
    have q := List.pairwise_iff_getElem.mp h j i hj hi z
    rw [ltS_cps] at q ⊢
    exact lt_asym' q⟩
theorem Rank.inj {rk : List Str} (h : Rank rk) {i j : Nat} (hi : i < rk.length) (hj : j < rk.length) (e : nmF rk i = nmF rk j) : i = j := by
  have h1 := h.lt i j hi hj
  have h2 := h.lt j i hj hi
  rw [e] at h1
  rw [← e] at h2
  rw [ltS_irr] at h1 h2
  have := of_decide_eq_false h1.symm
  have := of_decide_eq_false h2.symm
  omega
def lastI (one : List Nat) (i : Nat) : Bool := match one.getLast? with
  | none => true
  | some l => decide (l < i)
def lvI (n : Nat) : Nat → List (List Nat)
  | 0 => [[]]
  | k + 1 => (lvI n k).flatMap fun one => ((List.range n).filter (lastI one)).map fun i => one ++ [i]
theorem lvI_mem {n : Nat} : ∀ {k : Nat} {l : List Nat}, l ∈ lvI n k → l.length = k ∧ ∀ i ∈ l, i < n
  | 0, l, h => by cases List.mem_singleton.mp h; exact ⟨rfl, fun i hi => by cases hi⟩
  | k + 1, l, h => by
    obtain ⟨one, h1, h2⟩ := List.mem_flatMap.mp h
    obtain ⟨i, h3, rfl⟩ := List.mem_map.mp h2
    obtain ⟨h5, h6⟩ := lvI_mem h1
    refine ⟨by rw [List.length_append, h5]; rfl, fun j hj => ?_⟩
    rcases List.mem_append.mp hj with hj | hj
    · exact h6 j hj
    · rw [List.mem_singleton.mp hj]; exact List.mem_range.mp (List.mem_filter.mp h3).1
theorem nmF_range (rk : List Str) : (List.range rk.length).map (nmF rk) = rk := by
  apply List.ext_getElem?
  intro i
  rw [List.getElem?_map]
  by_cases h : i < rk.length
  · rw [List.getElem?_range h, List.getElem?_eq_getElem h]
    show some (nmF rk i) = _
    rw [nmF_get h]
  · rw [List.getElem?_eq_none (by simpa using h), List.getElem?_eq_none (by simpa using h)]; rfl
theorem levL_idx {rk : List Str} (h : Rank rk) : ∀ k, levL rk k = (lvI rk.length k).map (List.map (nmF rk))
  | 0 => rfl
  | k + 1 => by
    show (levL rk k).flatMap (extL rk) = ((lvI rk.length k).flatMap _).map _
    rw [levL_idx h k, List.flatMap_map, List.map_flatMap]
    apply flat_congr
    intro one ho
    obtain ⟨_, hm⟩ := lvI_mem ho
    unfold extL
    rw [List.map_map]
    have e1 : rk.filter (lastLt (one.map (nmF rk))) = ((List.range rk.length).filter (lastI one)).map (nmF rk) := by
      have e0 : rk.filter (lastLt (one.map (nmF rk))) = ((List.range rk.length).map (nmF rk)).filter (lastLt (one.map (nmF rk))) := by rw [nmF_range rk]
      rw [e0, List.filter_map]
      congr 1
      apply List.filter_congr
      intro i hi
      have hi := List.mem_range.mp hi
      show lastLt (one.map (nmF rk)) (nmF rk i) = lastI one i
      unfold lastLt lastI
      rw [List.getLast?_map]
      cases e : one.getLast? with
      | none => rfl
      | some l => exact h.lt l i (hm l (List.mem_of_getLast? e)) hi
    rw [e1, List.map_map]
    apply List.map_congr_left
    intro i _
    simp
def gpI (n k : Nat) : List (List Nat) := (List.range (k + 1)).flatMap (lvI n)
theorem grpL_idx {rk : List Str} (h : Rank rk) (k : Nat) : grpL rk k = (gpI rk.length k).map (List.map (nmF rk)) := by
  unfold grpL gpI
  rw [List.map_flatMap]
  apply flat_congr
  intro i _
  exact levL_idx h i
/-! ### their order -/
def ltL : List Str → List Str → Bool
  | [], [] => false
  | [], _ :: _ => true
  | _ :: _, [] => false
  | a :: l, b :: m => if a = b then ltL l m else ltS a b
def ltI : List Nat → List Nat → Bool
  | [], [] => false
  | [], _ :: _ => true
  | _ :: _, [] => false
  | a :: l, b :: m => if a = b then ltI l m else decide (a < b)
theorem ltL_idx {rk : List Str} (h : Rank rk) : ∀ {l m : List Nat}, (∀ i ∈ l, i < rk.length) → (∀ i ∈ m, i < rk.length) → ltL (l.map (nmF rk)) (m.map (nmF rk)) = ltI l m
  | [], [], _, _ => rfl
  | [], _ :: _, _, _ => rfl
  | _ :: _, [], _, _ => rfl
  | a :: l, b :: m, hl, hm => by
    have ha := hl a List.mem_cons_self
    have hb := hm b List.mem_cons_self
    show (if nmF rk a = nmF rk b then ltL (l.map (nmF rk)) (m.map (nmF rk)) else ltS (nmF rk a) (nmF rk b)) = if a = b then ltI l m else decide (a < b)
    by_cases e : a = b
    · rw [if_pos e, if_pos (by rw [e])]
      exact ltL_idx h (fun i hi => hl i (List.mem_cons_of_mem _ hi)) (fun i hi => hm i (List.mem_cons_of_mem _ hi))
    · rw [if_neg e, if_neg fun z => e (h.inj ha hb z)]
      exact h.lt a b ha hb
/-- first by the number of items, then as tuples -/
def ltR (l m : List Str) : Bool := if l.length = m.length then ltL l m else decide (l.length < m.length)
def ltRI (l m : List Nat) : Bool := if l.length = m.length then ltI l m else decide (l.length < m.length)
def upI : List (List Nat) → Bool
  | a :: b :: r => ltRI a b && upI (b :: r)
  | _ => true
theorem upI_at : ∀ {ls : List (List Nat)} {k : Nat} {a b : List Nat}, upI ls = true → ls[k]? = some a → ls[k + 1]? = some b → ltRI a b = true
  | [], k, _, _, _, h, _ => by simp at h
  | [_], 0, _, _, _, _, h => by simp at h
  | [_], k + 1, _, _, _, h, _ => by simp at h
  | x :: y :: r, 0, a, b, h, h1, h2 => by
    simp at h1 h2
    subst h1 h2
    unfold upI at h
    exact (Bool.and_eq_true _ _ ▸ h).1
  | x :: y :: r, k + 1, a, b, h, h1, h2 => by
    unfold upI at h
    rw [Bool.and_eq_true] at h
    exact upI_at (ls := y :: r) (k := k) h.2 (by simpa using h1) (by simpa using h2)
def upN : List Nat → Bool
  | a :: b :: r => decide (a < b) && upN (b :: r)
  | _ => true
theorem upN_at : ∀ {ls : List Nat} {k a b : Nat}, upN ls = true → ls[k]? = some a → ls[k + 1]? = some b → a < b
  | [], k, _, _, _, h, _ => by simp at h
  | [_], 0, _, _, _, _, h => by simp at h
  | [_], k + 1, _, _, _, h, _ => by simp at h
  | x :: y :: r, 0, a, b, h, h1, h2 => by
    simp at h1 h2
    subst h1 h2
    unfold upN at h
    rw [Bool.and_eq_true] at h
    exact of_decide_eq_true h.1
  | x :: y :: r, k + 1, a, b, h, h1, h2 => by
    unfold upN at h
    rw [Bool.and_eq_true] at h
    exact upN_at (ls := y :: r) (k := k) h.2 (by simpa using h1) (by simpa using h2)
/-! ### their number -/
def pasN (row : List Nat) : List Nat := [1] ++ ((List.range (row.length - 1)).map fun j => (row[j]?).getD 0 + (row[j + 1]?).getD 0) ++ [1]
def pas : Nat → List Nat
  | 0 => [1]
  | n + 1 => pasN (pas n)
def pasS (n k : Nat) : Nat := ((pas n).take (k + 1)).sum
theorem pas_len : ∀ n, (pas n).length = n + 1
  | 0 => rfl
  | n + 1 => by
    show (pasN (pas n)).length = _
    unfold pasN
    rw [List.length_append, List.length_append, List.length_map, List.length_range, pas_len n]
    simp; omega
theorem all_sets : ∀ n < 7, ∀ k < 7, (gpI n (min k n)).length = pasS n k ∧ upI (gpI n (min k n)) = true ∧ (gpI n (min k n)).all upN = true ∧ (gpI n (min k n)).all (fun l => decide (l.length ≤ k)) = true := by decide +kernel
/-- what the law asks of the rows -/
structure RowsG (ns : List Str) (k : Nat) (rows : List (List Str)) : Prop where
  len : rows.length = pasS ns.length k
  up : ∀ i a b, rows[i]? = some a → rows[i + 1]? = some b → ltR a b = true
  asc : ∀ l ∈ rows, ∀ (i : Nat) (a b : Str), l[i]? = some a → l[i + 1]? = some b → ltS a b = true
  few : ∀ l ∈ rows, l.length ≤ k
  mem : ∀ l ∈ rows, ∀ s ∈ l, s ∈ ns
theorem rows_good {ns : List Str} {k : Nat} (nd : ns.Nodup) (hn : ns.length ≤ 6) (hk : k ≤ 6) : RowsG ns k (smL ns k) := by
  have rk := rank_of (srt_strict nd)
  have rl := srt_len ns
  obtain ⟨h1, h2, h3, h4⟩ := all_sets ns.length (by omega) k (by omega)
  unfold smL
  have e := grpL_idx rk (min k ns.length)
  rw [rl] at e
  have inn : ∀ l ∈ gpI ns.length (min k ns.length), ∀ i ∈ l, i < (srtS ns).length := fun l hl i hi => by
    obtain ⟨j, _, hj⟩ := List.mem_flatMap.mp hl
    rw [rl]; exact (lvI_mem hj).2 i hi
  refine ⟨by rw [e, List.length_map]; exact h1, fun i a b ha hb => ?_, fun l hl i a b ha hb => ?_, fun l hl => ?_, fun l hl s hs => ?_⟩
  · rw [e, List.getElem?_map] at ha hb
    obtain ⟨la, a1, rfl⟩ := Option.map_eq_some_iff.mp ha
    obtain ⟨lb, b1, rfl⟩ := Option.map_eq_some_iff.mp hb
    have q := upI_at h2 a1 b1
    unfold ltR
    rw [List.length_map, List.length_map, ltL_idx rk (inn la (List.mem_of_getElem? a1)) (inn lb (List.mem_of_getElem? b1))]
    exact q
  · rw [e] at hl
    obtain ⟨li, l1, rfl⟩ := List.mem_map.mp hl
    rw [List.getElem?_map] at ha hb
    obtain ⟨ia, a1, rfl⟩ := Option.map_eq_some_iff.mp ha
    obtain ⟨ib, b1, rfl⟩ := Option.map_eq_some_iff.mp hb
    rw [rk.lt ia ib (inn li l1 ia (List.mem_of_getElem? a1)) (inn li l1 ib (List.mem_of_getElem? b1))]
    exact decide_eq_true (upN_at (List.all_eq_true.mp h3 li l1) a1 b1)
  · rw [e] at hl
    obtain ⟨li, l1, rfl⟩ := List.mem_map.mp hl
    rw [List.length_map]
    exact of_decide_eq_true (List.all_eq_true.mp h4 li l1)
  · exact srt_mem.mp ((grpL_mem hl).2 s hs)
theorem smL_len {ns : List Str} {k : Nat} (nd : ns.Nodup) (hn : ns.length ≤ 6) (hk : k ≤ 6) : (smL ns k).length ≤ 64 := by
  rw [(rows_good nd hn hk).len]
  have : ∀ n < 7, ∀ k < 7, pasS n k ≤ 64 := by decide +kernel
  exact this _ (by omega) _ (by omega)
/-- of one item at most -/
theorem smL_1 {ns : List Str} (hn : ns.length ≤ 6) : smL ns 1 = [] :: (srtS ns).map fun s => [s] := by
  unfold smL
  cases ns with
  | nil =>
    have : srtS ([] : List Str) = [] := List.eq_nil_of_length_eq_zero (by rw [srt_len]; rfl)
    rw [this]; rfl
  | cons x r =>
    have e : min 1 (x :: r).length = 1 := by simp only [List.length_cons]; omega
    rw [e]
    have f : ∀ rk : List Str, grpL rk 1 = [] :: rk.map fun s => [s] := fun rk => by
      show levL rk 0 ++ (levL rk 1 ++ []) = _
      rw [List.append_nil]
      show [[]] ++ (extL rk [] ++ []) = _
      rw [List.append_nil]
      unfold extL
      rw [show rk.filter (lastLt []) = rk from List.filter_eq_self.mpr fun _ _ => rfl]
      rfl
    exact f _
/-! ### comparing them -/
abbrev nsetD (l : List Str) : DL.D := .tup [.int (l.length : Int), setsD l]
theorem dataLt_strs : ∀ (l m : List Str), PySem.W.dataLt (.tuple (l.map PyData.str)) (.tuple (m.map PyData.str)) = ltL l m
  | [], [] => by rw [PySem.W.dataLt_tuple]; rfl
  | [], _ :: _ => by rw [PySem.W.dataLt_tuple]; rfl
  | _ :: _, [] => by rw [PySem.W.dataLt_tuple]; rfl
  | a :: l, b :: m => by
    have ih := dataLt_strs l m
    rw [List.map_cons, List.map_cons, PySem.W.dataLt_tuple]
    show _ = if a = b then ltL l m else ltS a b
    cases e : PyData.eqv (.str a) (.str b) with
    | true =>
      have : a = b := by
        have h := e
        simp [PyData.eqv] at h
        exact h
      rw [if_pos this, PySem.W.dataLt_all_yes rfl e, ← PySem.W.dataLt_tuple, ih]
    | false =>
      have : a ≠ b := fun z => by
        subst z
        have := PySem.W.eqv_refl_alike (.str a) rfl
        rw [this] at e; cases e
      rw [if_neg this, PySem.W.dataLt_all_no rfl e, PySem.W.dataLt_str]; rfl
theorem alike_strs : ∀ (l m : List Str), PySem.W.alikeAll (l.map PyData.str) (m.map PyData.str) = true
  | [], _ => rfl
  | _ :: _, [] => rfl
  | a :: l, b :: m => by
    rw [List.map_cons, List.map_cons, PySem.W.alikeAll, alike_strs l m]; rfl
theorem setsD_pd (l : List Str) : (setsD l).pd = .tuple (l.map PyData.str) := by
  show PyData.tuple _ = _
  congr 1
  induction l with
  | nil => rfl
  | cons a l ih => rw [List.map_cons, List.map_cons, ← ih]; rfl
theorem nset_pd (l : List Str) : (nsetD l).pd = .tuple [.int (l.length : Int), .tuple (l.map PyData.str)] := by
  rw [← setsD_pd]; rfl
theorem nset_alike (l m : List Str) : PySem.W.alike (nsetD l).pd (nsetD m).pd = true := by
  rw [nset_pd, nset_pd]
  have := alike_strs l m
  simp [PySem.W.alike, PySem.W.alikeAll, this]
theorem nset_lt (l m : List Str) : PySem.W.dataLt (nsetD l).pd (nsetD m).pd = ltR l m := by
  rw [nset_pd, nset_pd, PySem.W.dataLt_pair rfl (by rw [PySem.W.alike]; exact alike_strs l m), dataLt_strs, PySem.W.dataLt_int]
  unfold ltR
  by_cases h : l.length = m.length
  · have e : PyData.eqv (.int (l.length : Int)) (.int (m.length : Int)) = true := by rw [h]; exact PySem.W.eqv_refl_alike _ rfl
    rw [if_pos e, if_pos h]
    cases e2 : PyData.eqv (.tuple (l.map PyData.str)) (.tuple (m.map PyData.str)) with
    | false => rfl
    | true =>
      have q := (PySem.W.toks_eqv _ _ (show PySem.W.alike (.tuple (l.map PyData.str)) (.tuple (m.map PyData.str)) = true by rw [PySem.W.alike]; exact alike_strs l m)).1 e2
      rw [if_pos rfl, ← dataLt_strs]
      unfold PySem.W.dataLt
      rw [q]
      exact (PySem.W.dataLt_self (.tuple (m.map PyData.str))).symm
  · have e : PyData.eqv (.int (l.length : Int)) (.int (m.length : Int)) = false := by
      have : ((l.length : Int)) ≠ (m.length : Int) := fun z => h (by omega)
      simp [PyData.eqv, this, h]
    rw [if_neg (by rw [e]; exact Bool.false_ne_true), if_neg h]
    rw [Bool.eq_iff_iff, decide_eq_true_eq, decide_eq_true_eq]
    omega
section
variable {X : Cx} {n : Nm} {c : Cc} {Γ : SL} {a b e : Expr} {pos p : Pos} {k l : AK}
theorem rpl_dp {K : PySem.W.Frag} {R : Hp} {H : Hp} : ∀ {l : List Str} {vs : List V}, RpL K R (l.map DL.D.str) vs → DpAll K H vs (l.map PyData.str)
  | [], _, h => by cases (show _ = _ from h); exact .nil
  | s :: l, _, ⟨v, ws, h1, h2, h3⟩ => by
    subst h1
    cases (show v = .str s from h2)
    exact .cons (.str _) (rpl_dp h3)
theorem nset_dp {K : PySem.W.Frag} {R H : Hp} {q : List Str} {v : V} (e : Ex R H) (h : Wk K R H (nsetD q) v) : Dp K H v (nsetD q).pd := by
  rw [nset_pd]
  obtain ⟨a, vs, rfl, h2, h3⟩ := h.tup e
  obtain ⟨u, ws, rfl, r1, h4⟩ := h3
  obtain ⟨w, ws', rfl, r2, h5⟩ := h4
  cases (show u = .int _ from r1)
  cases (show ws' = [] from h5)
  obtain ⟨b, us, rfl, g2, g3⟩ := r2
  exact .tup h2 (.cons (.int _) (.cons (.tup (ex_t e g2) (rpl_dp g3)) .nil))
theorem dop_ltNS : DOp X n c (compareOp .Lt) (fun x y Post => ∃ q r : List Str, x = nsetD q ∧ y = nsetD r ∧ Post (.bl (ltR q r))) := fun hn => ⟨fun x y H Q => ∃ q r : List Str, Dp X.K H x (nsetD q).pd ∧ Dp X.K H y (nsetD r).pd ∧ Q (.bl (ltR q r)) H, by
  intro pins s σ H x y v u Q I rx ry h
  obtain ⟨q, r, hd, he, hq⟩ := h
  obtain ⟨as, r1⟩ := Dp.reads I _ x v hd rx
  obtain ⟨bs, r2⟩ := Dp.reads I _ y u he ry
  refine PySem.W.lt_data r1 r2 (nset_alike q r) (fun z => by rw [nset_pd] at z; cases z) ?_ ⟨.bl (ltR q r), H, I, ?_, hq⟩
  · have := hn.units
    have e1 : ∀ l : List Str, (PyData.tuple (l.map PyData.str)).depth ≤ 1 := fun l => by
      rw [PyData.depth]
      induction l with
      | nil => exact Nat.le_of_ble_eq_true rfl
      | cons s l ih => rw [List.map_cons, PyData.depthAll]; simp only [PyData.depth]; omega
    have e2 : (nsetD q).pd.depth ≤ 3 := by
      rw [nset_pd, PyData.depth, PyData.depthAll, PyData.depthAll, PyData.depthAll]
      have := e1 q
      simp only [PyData.depth] at *
      omega
    have := Nat.min_le_left (nsetD q).pd.depth (nsetD r).pd.depth
    show X.A.units + _ < cLine
    omega
  · rw [nset_lt]; exact rfl, fun Γ σ R H x y v w Post s hx hy ⟨q, r, e1, e2, po⟩ Q z => by
  subst e1 e2
  exact ⟨q, r, nset_dp s.rh hx, nset_dp s.rh hy, z (.bl (ltR q r)) R H (.bl (ltR q r)) s (Ex.refl _) rfl po⟩⟩
theorem et_ltNS {q r : List Str} (ha : EK X n c Γ a k) (hb : EK X n c Γ b l) (ga : k.get Γ = some (nsetD q) := by rfl) (gb : l.get Γ = some (nsetD r) := by rfl) : ET X n c Γ (.Compare a [.Lt] [b] pos) (ltR q r) :=
  et_cmp dop_ltNS ha hb (fun _ p => ⟨q, r, rfl, rfl, p⟩) ga gb (nomark _)
end
section
variable {X : Cx} {n : Nm} {c : Cc} {Γ : SL} {a b : Expr} {pos : Pos}
theorem dop_ltS : DOp X n c (compareOp .Lt) (fun x y Post => ∃ a b : Str, x = .str a ∧ y = .str b ∧ Post (.bl (ltS a b))) := fun _ => ⟨_, op_lt_str, fun Γ σ R H x y v w Post s hx hy ⟨i, j, e1, e2, p⟩ Q q => by
  subst e1 e2
  exact ⟨i, j, hx.str, hy.str, q (.bl (ltS i j)) R H (.bl (ltS i j)) s (Ex.refl _) rfl p⟩⟩
theorem et_ltS {u v : Str} {k l : AK} (ha : EK X n c Γ a k) (hb : EK X n c Γ b l) (ga : k.get Γ = some (.str u) := by rfl) (gb : l.get Γ = some (.str v) := by rfl) : ET X n c Γ (.Compare a [.Lt] [b] pos) (ltS u v) :=
  et_cmp dop_ltS ha hb (fun _ h => ⟨u, v, rfl, rfl, h⟩) ga gb (nomark _)
/-- two lists that are told, one behind the other -/
theorem eo_catE {xs ys : List DL.D} (ha : EV X n c Γ a (.lst xs)) (hb : EV X n c Γ b (.lst ys)) (hl : xs.length + ys.length ≤ 1000000) : EO X n c Γ (.BinOp a .Add b pos) (.lst (xs ++ ys)) :=
  wo_cat (wk_ek (ek_d ha) (wk_ek (ek_d hb) ⟨xs, ys, rfl, rfl, hl, rfl, rfl⟩))
end
theorem pl_sets (ds : List DL.D) (h : ds.length ≤ 100000) (hd : ∀ d ∈ ds, ∃ l : List Str, d = setsD l ∧ l.length ≤ 100000) {k : Nat} : (DL.D.lst ds).pl (k + 3) := ⟨h, fun d hm => by
  obtain ⟨l, rfl, hl⟩ := hd d hm
  exact (pl_strs hl k)⟩
/-! ### promises -/
def natsD (l : List Nat) : List DL.D := l.map fun (m : Nat) => .int (m : Int)
theorem natsD_len {l : List Nat} : (natsD l).length = l.length := by unfold natsD; rw [List.length_map]
theorem nats_sum : ∀ l : List Nat, (l.map fun (m : Nat) => (m : Int)).sum = (l.sum : Int)
  | [] => rfl
  | a :: l => by rw [List.map_cons, List.sum_cons, nats_sum l, List.sum_cons]; omega
def ST_pasc : Sg := fun ps Post => ∃ n k : Nat, ps = [.d (.int (n : Int)), .d (.int (k : Int))] ∧ n ≤ 6 ∧ k ≤ 6 ∧ Post (.d (.int (pasS n k : Int))) []
def ST_lsets : Sg := fun ps Post => ∃ (ns : List Str) (k : Nat), ps = [.w (.lst (ns.map DL.D.str)), .d (.int (k : Int))] ∧ ns.length ≤ 6 ∧ k ≤ 6 ∧ ns.Nodup ∧ (∀ s ∈ ns, PyData.strOk s = true) ∧ Post (.d (.bl true)) []
end DL

end
section
set_option Elab.async false
set_option linter.all false
set_option maxRecDepth 100000
set_option maxHeartbeats 1000000
namespace Lw
open PySem L2 DL
def top (i : Nat) : Stmt := PySem.Challenge.pw_clockverdict_k21_small_sets.main.body.getD i (.Pass ⟨0, 0, 0, 0⟩)

/-! _law_store -/
abbrev s_l_store : Stmt := top 3
abbrev n_l_store : Nm := { N := ["_law_script"], V := [0], as := [0], GN := ["list"], k := 0, oi := [], lc := [0], sc := none }
theorem sc_l_store : FnScope n_l_store.N ["_law_script"] (defScope s_l_store) := ⟨rfl, rfl, rfl, by decide +kernel, rfl, by decide +kernel, by decide +kernel⟩
theorem sb_l_store : ScOk (defScope s_l_store) n_l_store := scOk_of (by decide +kernel)
abbrev S_l_store : Sg := ST_store
theorem bd_l_store {X : Cx} {c : Cc} (b_list : Blt X "list" (.type "list")) : ∀ ps Post, S_l_store ps Post → WB X n_l_store c (entry n_l_store.N ps) (defBody s_l_store) (fnD n_l_store.oi Post) := by
  rintro ps Post ⟨ns, rfl, hz, post⟩
  show WB X n_l_store c [.sc ns] _ _
  refine wb_one (ws_retO (wo_lst (wa_cons (wk_e (we_frz (wo_of (eo_listSc b_list 0 0) ⟨_, rfl, wa_cons (wk_e (we_of ev_int (wa_cons (wk_e (we_of ev_int (wa_cons (wk_e (we_of ev_int (wa_cons (wk_e (we_of ev_int (wa_cons (wk_e (we_of ev_int (wa_nil ?_)))))))))))))))⟩))))))
  refine ⟨_, rfl, Nat.le_of_ble_eq_true rfl, .own .sto, [], .inr ⟨rfl, ns, 0, 0, 1, 0, 0, rfl, ?_⟩, rfl, post⟩
  exact ⟨hz, ⟨by omega, by omega⟩, by omega, ⟨by omega, by omega⟩, ⟨by omega, by omega⟩, by omega⟩


/-! _law_feed -/
abbrev s_l_feed : Stmt := top 4
abbrev n_l_feed : Nm := { N := ["_law_store_here", "_law_cell"], V := [0, 1], as := [0, 1], GN := ["int", "abs"], k := 0, oi := [0], lc := [0, 1], sc := none }
theorem sc_l_feed : FnScope n_l_feed.N ["_law_store_here"] (defScope s_l_feed) := ⟨rfl, rfl, rfl, by decide +kernel, rfl, by decide +kernel, by decide +kernel⟩
theorem sb_l_feed : ScOk (defScope s_l_feed) n_l_feed := scOk_of (by decide +kernel)
abbrev S_l_feed : Sg := ST_feed
theorem bd_l_feed {X : Cx} {c : Cc} (b_int : Blt X "int" (.type "int")) (b_abs : Blt X "abs" (.builtin "abs")) : ∀ ps Post, S_l_feed ps Post → WB X n_l_feed c (entry n_l_feed.N ps) (defBody s_l_feed) (fnD n_l_feed.oi Post) := by
  rintro ps Post ⟨ns, pl, great, st, left, cnt, rfl, ⟨b1, ⟨b2, b3⟩, b4, ⟨b5, b6⟩, ⟨b7, b8⟩, b9⟩, hp, post⟩
  show WB X n_l_feed c [.own (.lst (stoD ns pl great st left cnt)), .no] _ _
  obtain ⟨cell, hc⟩ : ∃ cell : Int, ns[pl]? = some cell := ⟨_, List.getElem?_eq_getElem hp⟩
  refine wb_cons (ws_set 1 (we_of (ev_toint b_int 0 (ev_ixt (ev_ix (ek_s 0) ev_int rfl) (ev_ix (ek_s 0) ev_int rfl) (at_lst (z := .int cell) (by rw [List.getElem?_map, hc]; rfl)))) ?_))
  refine wb_cons (ws_setIx 0 (we_of (ev_add (ev_ix (ek_s 0) ev_int rfl) ev_int) (we_of ev_int ⟨_, _, 1, rfl, rfl, rfl, ?_⟩)))
  refine wb_cons (ws_setIx 0 (we_of (ev_mod (ev_toint b_int 0 (ev_add (ev_mul64 (ev_ix (ek_s 0) ev_int rfl) ev_int (.inr ⟨by decide, by decide⟩)) (ev_var 1))) ev_int (by decide)) (we_of ev_int ⟨_, _, 3, rfl, rfl, rfl, ?_⟩)))
  have m1 : 0 ≤ (st * 30011 + cell).fmod 1000000007 := Int.fmod_nonneg_of_pos _ (by decide)
  have m2 : (st * 30011 + cell).fmod 1000000007 < 1000000007 := Int.fmod_lt_of_pos _ (by decide)
  refine wb_one (ws_ifE (EW.t (ew_or (et_ge (ev_var 1) (ev_pow ev_int ev_int ⟨by decide, by decide, by decide⟩)) fun _ => ew_or1 (et_le (ev_var 1) (ev_sub ev_int (ev_pow ev_int ev_int ⟨by decide, by decide, by decide⟩))))) (fun h => wb_one (ws_setIx 0 (we_of (ev_abs b_abs 1 (ev_var 1)) (we_of ev_int ⟨_, _, 2, rfl, rfl, rfl, ?_⟩)))) (fun h => wb_one (ws_setIx 0 (we_of ev_int (we_of ev_int ⟨_, _, 4, rfl, rfl, rfl, ?_⟩)))))
  · refine ⟨[.sto], ⟨_, .sto, [], rfl, rfl, .inr ⟨rfl, ns, (pl : Int) + 1, if cell < 0 then -cell else cell, (st * 30011 + cell).fmod 1000000007, left, cnt, rfl, ?_⟩, rfl⟩, post⟩
    exact ⟨b1, ⟨by omega, by omega⟩, by split <;> omega, ⟨m1, m2⟩, ⟨b7, b8⟩, b9⟩
  · refine ⟨[.sto], ⟨_, .sto, [], rfl, rfl, .inr ⟨rfl, ns, (pl : Int) + 1, great, (st * 30011 + cell).fmod 1000000007, 3, cnt, rfl, ?_⟩, rfl⟩, post⟩
    exact ⟨b1, ⟨by omega, by omega⟩, b4, ⟨m1, m2⟩, ⟨by omega, by omega⟩, b9⟩


/-! _law_mixed -/
abbrev s_l_mixed : Stmt := top 5
abbrev n_l_mixed : Nm := { N := ["_law_store_here"], V := [0], as := [0], GN := ["int"], k := 0, oi := [0], lc := [0], sc := none }
theorem sc_l_mixed : FnScope n_l_mixed.N ["_law_store_here"] (defScope s_l_mixed) := ⟨rfl, rfl, rfl, by decide +kernel, rfl, by decide +kernel, by decide +kernel⟩
theorem sb_l_mixed : ScOk (defScope s_l_mixed) n_l_mixed := scOk_of (by decide +kernel)
abbrev S_l_mixed : Sg := ST_mixed
theorem bd_l_mixed {X : Cx} {c : Cc} (b_int : Blt X "int" (.type "int")) : ∀ ps Post, S_l_mixed ps Post → WB X n_l_mixed c (entry n_l_mixed.N ps) (defBody s_l_mixed) (fnD n_l_mixed.oi Post) := by
  rintro ps Post ⟨ns, place, great, st, left, cnt, rfl, ⟨b1, ⟨b2, b3⟩, b4, ⟨b5, b6⟩, ⟨b7, b8⟩, b9⟩, post⟩
  show WB X n_l_mixed c [.own (.lst (stoD ns place great st left cnt))] _ _
  refine wb_cons (ws_setIx 0 (we_of (ev_add (ev_ix (ek_s 0) ev_int rfl) ev_int) (we_of ev_int ⟨_, _, 5, rfl, rfl, rfl, ?_⟩)))
  refine wb_cons (ws_setIx 0 (we_of (ev_mod (ev_toint b_int 0 (ev_add (ev_add (ev_mul64 (ev_ix (ek_s 0) ev_int rfl) ev_int (.inr ⟨by decide, by decide⟩)) (ev_mul64 (ev_ix (ek_s 0) ev_int rfl) ev_int (.inr ⟨by decide, by decide⟩))) ev_int)) ev_int (by decide)) (we_of ev_int ⟨_, _, 3, rfl, rfl, rfl, ?_⟩)))
  have m1 : 0 ≤ (st * 70003 + (cnt + 1) * 1009 + 1).fmod 1000000007 := Int.fmod_nonneg_of_pos _ (by decide)
  have m2 : (st * 70003 + (cnt + 1) * 1009 + 1).fmod 1000000007 < 1000000007 := Int.fmod_lt_of_pos _ (by decide)
  refine wb_one (ws_ret (we_of (ev_mod (ev_toint b_int 0 (ev_add (ev_mul64 (ev_ix (ek_s 0) ev_int rfl) ev_int (.inr ⟨by decide, by decide⟩)) (ev_fdiv (ev_ix (ek_s 0) ev_int rfl) ev_int ⟨by decide, by decide⟩))) ev_int (by decide)) ?_))
  refine ⟨_, [.sto], rfl, ⟨_, .sto, [], rfl, rfl, .inr ⟨rfl, ns, place, great, (st * 70003 + (cnt + 1) * 1009 + 1).fmod 1000000007, left, cnt + 1, rfl, ?_⟩, rfl⟩, post _ (Int.fmod_nonneg_of_pos _ (by decide)) (Int.fmod_lt_of_pos _ (by decide))⟩
  exact ⟨b1, ⟨b2, b3⟩, b4, ⟨m1, m2⟩, ⟨b7, b8⟩, by omega⟩


/-! _law_take -/
abbrev s_l_take : Stmt := top 6
abbrev n_l_take : Nm := { N := ["_law_store_here", "_law_many_here", "_law_number"], V := [0, 1, 2], as := [0, 1, 2], GN := ["max", "len", "_law_feed", "int", "_law_mixed"], k := 1, oi := [0], lc := [0, 1, 2], sc := none }
theorem sc_l_take : FnScope n_l_take.N ["_law_store_here", "_law_many_here"] (defScope s_l_take) := ⟨rfl, rfl, rfl, by decide +kernel, rfl, by decide +kernel, by decide +kernel⟩
theorem sb_l_take : ScOk (defScope s_l_take) n_l_take := scOk_of (by decide +kernel)
abbrev S_l_take : Sg := ST_take
theorem bd_l_take {X : Cx} {c : Cc} (b_max : Blt X "max" (.builtin "max")) (b_len : Blt X "len" (.builtin "len")) (c_l_feed : CalF X n_l_take.k "_law_feed" S_l_feed) (b_int : Blt X "int" (.type "int")) (c_l_mixed : CalF X n_l_take.k "_law_mixed" S_l_mixed) : ∀ ps Post, S_l_take ps Post → WB X n_l_take c (entry n_l_take.N ps) (defBody s_l_take) (fnD n_l_take.oi Post) := by
  rintro ps Post ⟨many0, rfl, hB, post⟩
  show WB X n_l_take c [.own .sto, .d (.int many0), .no] _ _
  refine wb_cons (ws_set 1 (we_of (ev_max b_max 0 ev_int (ev_var 1)) ?_))
  generalize hm : (if many0 > 1 then many0 else 1) = many at *
  have h1 : 1 ≤ many := by rw [← hm]; split <;> omega
  have hB' : Bt 8000 many := by
    rw [← hm]; split
    · exact hB
    · show Int.natAbs 1 < 2 ^ 8000
      exact Nat.one_lt_two_pow (by decide)
  have hd : ∀ i, CDivA i many := fun i => hB'.cd (by omega) (by decide)
  have k0 : ∀ i : Int, 0 ≤ i.fmod many := fun i => Int.fmod_nonneg_of_pos _ (by omega)
  have k1 : ∀ i : Int, i.fmod many < many := fun i => Int.fmod_lt_of_pos _ (by omega)
  refine wb_open 0 rfl fun ns place great st left cnt hs => ?_
  refine wb_cut (fun Γ => Γ = [.own .sto, .d (.int many), .no] ∨ ∃ ns place great st left cnt, StoreB ns place great st left cnt ∧ Γ = [.own (.lst (stoD ns place great st left cnt)), .d (.int many), .no]) (ws_ifE (EW.t (ew_and (et_eq (ev_ix (ek_s 0) ev_int rfl) ev_int) fun _ => ew_and (et_eq (ev_ix (ek_s 0) ev_int rfl) ev_int) fun _ => ew_and1 (et_lt (ev_ix (ek_s 0) ev_int rfl) (ev_len (x := .lst (ns.map .int)) (m := (ns.map D.int).length) b_len 1 (ek_d (ev_ix (ek_s 0) ev_int rfl)))))) (fun h => ?_) (fun h => wb_nil (.inr ⟨ns, place, great, st, left, cnt, hs, rfl⟩))) ?_
  · refine wb_one (ws_expr (we_callE c_l_feed 2 (ea_cons (ek_o 0) ea_nil) ?_))
    have hp : place < (ns.length : Int) := by
      have := h
      simp only [Bool.and_eq_true, decide_eq_true_eq, List.length_map] at this
      exact this.2.2
    have hp0 : 0 ≤ place := hs.2.1.1
    obtain ⟨pl, rfl⟩ := Int.eq_ofNat_of_zero_le hp0
    exact ⟨ns, pl, great, st, left, cnt, rfl, hs, by omega, .non, rfl, .inl rfl⟩
  have main : ∀ ns place great st left cnt, StoreB ns place great st left cnt → WB X n_l_take c [.own (.lst (stoD ns place great st left cnt)), .d (.int many), .no] (List.drop 2 (defBody s_l_take)) (fnD (n_l_take).oi Post) := by
    intro ns place great st left cnt hs
    have ⟨b1, ⟨b2, b3⟩, b4, ⟨b5, b6⟩, ⟨b7, b8⟩, b9⟩ := hs
    refine wb_cut (fun Γ => Γ = [.own (.lst (stoD ns place great st left cnt)), .d (.int many), .no]) (ws_ifE (et_gt (ev_ix (ek_s 0) ev_int rfl) ev_int) (fun h => ?_) (fun h => wb_nil rfl)) ?_
    · have hg : 0 < great := of_decide_eq_true h
      refine wb_cons (ws_set 2 (we_of (ev_ix (ek_s 0) ev_int rfl) ?_))
      refine wb_cons (ws_setIx 0 (we_of (ev_fdiv (ev_var 2) (ev_var 1) (hd _)) (we_of ev_int ⟨_, _, 2, rfl, rfl, rfl, ?_⟩)))
      refine wb_one (ws_ret (we_of (ev_mod (ev_toint b_int 3 (ev_var 2)) (ev_var 1) (by omega)) ?_))
      refine ⟨_, [.sto], rfl, ⟨_, .sto, [], rfl, rfl, .inr ⟨rfl, ns, place, great.fdiv many, st, left, cnt, rfl, ?_⟩, rfl⟩, post _ (k0 _) (k1 _)⟩
      exact ⟨b1, ⟨b2, b3⟩, Int.fdiv_nonneg b4 (by omega), ⟨b5, b6⟩, ⟨b7, b8⟩, b9⟩
    rintro Γ rfl
    refine wb_cons (ws_setIx 0 (we_of (ev_max b_max 0 ev_int (ev_sub (ev_ix (ek_s 0) ev_int rfl) ev_int)) (we_of ev_int ⟨_, _, 4, rfl, rfl, rfl, ?_⟩)))
    refine wb_cons (ws_set 2 (we_callE c_l_mixed 4 (ea_cons (ek_o 0) ea_nil) ?_))
    refine ⟨ns, place, great, st, if left - 1 > 0 then left - 1 else 0, cnt, rfl, ⟨b1, ⟨b2, b3⟩, b4, ⟨b5, b6⟩, by constructor <;> split <;> omega, b9⟩, fun m m0 m1 => ⟨.int m, rfl, ?_⟩⟩
    show WB X n_l_take c [.own .sto, .d (.int many), .d (.int m)] _ _
    refine wb_open 0 rfl fun ns place great st left cnt hs => ?_
    refine wb_cut (fun Γ => ∃ (o : OB) (m : Int), Γ = [.own o, .d (.int many), .d (.int m)] ∧ o.le .sto) (ws_ifE (et_gt (ev_var 1) ev_int) (fun h => wb_one (ws_set 2 ?_)) (fun h => wb_nil ⟨_, m, rfl, .inr ⟨rfl, ns, place, great, st, left, cnt, rfl, hs⟩⟩)) ?_
    · refine we_bin dop_add (wk_e (we_of (ev_var 2) (wk_e (we_bin dop_mul64 (wk_e (we_callE c_l_mixed 4 (ea_cons (ek_o 0) ea_nil) ⟨ns, place, great, st, left, cnt, rfl, hs, fun m2 _ _ => ⟨.int m2, rfl, wk_e (we_of ev_int ⟨_, _, rfl, rfl, m2, 1000000009, rfl, rfl, .inr ⟨by decide, by decide⟩, ?_⟩)⟩⟩))))))
      exact ⟨_, _, rfl, rfl, _, _, rfl, rfl, trivial, .sto, _, rfl, .inl rfl⟩
    rintro Γ ⟨o, m, rfl, ho⟩
    refine wb_one (ws_ret (we_of (ev_mod (ev_toint b_int 3 (ev_var 2)) (ev_var 1) (by omega)) ?_))
    exact ⟨_, [.sto], rfl, ⟨o, .sto, [], rfl, rfl, ho, rfl⟩, post _ (k0 _) (k1 _)⟩
  rintro Γ (rfl | ⟨ns, place, great, st, left, cnt, hs, rfl⟩)
  · exact wb_open 0 rfl fun ns place great st left cnt hs => main ns place great st left cnt hs
  · exact main ns place great st left cnt hs


/-! _law_shuffled -/
abbrev s_l_shuffled : Stmt := top 9
abbrev n_l_shuffled : Nm := { N := ["_law_store_here", "_law_things", "_law_rest", "_law_row", "_law_k"], V := [0, 1, 2, 3, 4], as := [0, 1, 2, 3, 4], GN := ["list", "range", "len", "_law_take"], k := 2, oi := [0], lc := [0, 1, 2, 3, 4], sc := none }
theorem sc_l_shuffled : FnScope n_l_shuffled.N ["_law_store_here", "_law_things"] (defScope s_l_shuffled) := ⟨rfl, rfl, rfl, by decide +kernel, rfl, by decide +kernel, by decide +kernel⟩
theorem sb_l_shuffled : ScOk (defScope s_l_shuffled) n_l_shuffled := scOk_of (by decide +kernel)
abbrev S_l_shuffled : Sg := ST_shuf
theorem bd_l_shuffled {X : Cx} {c : Cc} (b_list : Blt X "list" (.type "list")) (b_range : Blt X "range" (.type "range")) (b_len : Blt X "len" (.builtin "len")) (c_l_take : CalF X n_l_shuffled.k "_law_take" S_l_take) : ∀ ps Post, S_l_shuffled ps Post → WB X n_l_shuffled c (entry n_l_shuffled.N ps) (defBody s_l_shuffled) (fnD n_l_shuffled.oi Post) := by
  rintro ps Post ⟨xs, rfl, hl, post⟩
  show WB X n_l_shuffled c [.own .sto, .w (.lst xs), .no, .no, .no] _ _
  refine wb_cut (fun Γ => Γ = [.own .sto, .w (.lst xs), .own (.lst xs), .no, .no]) (ws_setO 2 (wo_of (eo_list (x := .lst xs) b_list 0 (ek_s 1)) rfl)) ?_
  rintro Γ rfl
  refine wb_cut (fun Γ => Γ = [.own .sto, .w (.lst xs), .own (.lst xs), .own (.lst []), .no]) (ws_setO 3 (wo_of (eo_lst ea_nil) rfl)) ?_
  rintro Γ rfl
  refine wb_cut (fun Γ => ∃ (rest row : List DL.D) (u4 : DL.Slot), Γ = [.own .sto, .w (.lst xs), .own (.lst rest), .own (.lst row), u4] ∧ (row ++ rest).Perm xs ∧ row.length = xs.length) (ws_forR1 4 (fun i Γ => ∃ (rest row : List DL.D) (u4 : DL.Slot), Γ = [.own .sto, .w (.lst xs), .own (.lst rest), .own (.lst row), u4] ∧ (row ++ rest).Perm xs ∧ row.length = i) xs.length b_range 1 (we_of (ev_len (x := .lst xs) (m := xs.length) b_len 2 (ek_s 2)) ⟨_, rfl, by simp, by omega, by omega, xs, [], _, rfl, List.Perm.refl _, rfl⟩) ?_ (fun _ h => h)) ?_
  · rintro i Γ hi ⟨rest, row, u4, rfl, hp, hr⟩
    have ln := hp.length_eq
    rw [List.length_append] at ln
    show WB X n_l_shuffled c [.own .sto, .w (.lst xs), .own (.lst rest), .own (.lst row), .d (.int (i : Int))] _ _
    refine wb_one (ws_append 3 (we_popAt 2 (we_take c_l_take 3 0 (we_of (ev_len (x := .lst rest) (m := rest.length) b_len 2 (ek_s 2)) ⟨rfl, rest.length, rfl, by omega, bt64 (by omega), fun k hk => ?_⟩))))
    obtain ⟨x, hx⟩ : ∃ x, rest[k]? = some x := ⟨_, atB hk⟩
    exact ⟨k, x, rest, rfl, by omega, rfl, hx, row, rfl, by omega, _, _, _, rfl, shuf_step hx hp, by rw [List.length_append, hr]; rfl⟩
  rintro Γ ⟨rest, row, u4, rfl, hp, hr⟩
  have ln := hp.length_eq
  rw [List.length_append] at ln
  obtain rfl : rest = [] := List.eq_nil_of_length_eq_zero (by omega)
  rw [List.append_nil] at hp
  exact wb_one (ws_retS 3 ⟨.own _, [.sto], .inl rfl, ⟨.sto, .sto, [], rfl, rfl, .inl rfl, rfl⟩, post row hp⟩)


/-! _law_pick -/
abbrev s_l_pick : Stmt := top 7
abbrev n_l_pick : Nm := { N := ["_law_store_here", "_law_things"], V := [0, 1], as := [0, 1], GN := ["_law_take", "len"], k := 2, oi := [0], lc := [0, 1], sc := none }
theorem sc_l_pick : FnScope n_l_pick.N ["_law_store_here", "_law_things"] (defScope s_l_pick) := ⟨rfl, rfl, rfl, by decide +kernel, rfl, by decide +kernel, by decide +kernel⟩
theorem sb_l_pick : ScOk (defScope s_l_pick) n_l_pick := scOk_of (by decide +kernel)
abbrev S_l_pick : Sg := ST_pick
theorem bd_l_pick {X : Cx} {c : Cc} (c_l_take : CalF X n_l_pick.k "_law_take" S_l_take) (b_len : Blt X "len" (.builtin "len")) : ∀ ps Post, S_l_pick ps Post → WB X n_l_pick c (entry n_l_pick.N ps) (defBody s_l_pick) (fnD n_l_pick.oi Post) := by
  rintro ps Post ⟨x, m, rfl, hm, hz, h0, h1, hat, post⟩
  show WB X n_l_pick c [.own .sto, .w x] _ _
  refine wb_one (ws_ret (we_ix di_seq (wk_ek (ek_s 1) (wk_e (we_take c_l_take 0 0 (we_of (ev_len b_len 1 (ek_s 1) hm hz) ⟨rfl, m, rfl, h0, bt64 h1, fun k hk => ?_⟩))))))
  obtain ⟨y, hy⟩ := hat k hk
  exact ⟨x, _, rfl, rfl, k, y, rfl, hy, .d y, [.sto], rfl, ⟨.sto, .sto, [], rfl, rfl, .inl rfl, rfl⟩, post k y hk hy⟩


/-! _law_names -/
abbrev s_l_names : Stmt := top 12
abbrev n_l_names : Nm := { N := ["_law_store_here", "_law_many_here", "_law_letters", "_law_signs", "_law_stem", "_law_k", "_law_place", "_law_menu", "_law_first", "_law_step", "_law_cut", "_law_names_here", "_law_sign", "_law_name"], V := [0, 1, 2, 3, 4, 5, 6, 7, 8, 9, 10, 11, 12, 13], as := [0, 1, 2, 3, 4, 5, 6, 7, 8, 9, 10, 11, 12, 13], GN := ["range", "_law_take", "int", "_law_pick", "len", "str"], k := 3, oi := [0], lc := [0, 1, 2, 3, 4, 5, 6, 7, 8, 9, 10, 11, 12, 13], sc := none }
theorem sc_l_names : FnScope n_l_names.N ["_law_store_here", "_law_many_here"] (defScope s_l_names) := ⟨rfl, rfl, rfl, by decide +kernel, rfl, by decide +kernel, by decide +kernel⟩
theorem sb_l_names : ScOk (defScope s_l_names) n_l_names := scOk_of (by decide +kernel)
abbrev S_l_names : Sg := ST_namesZ
theorem bd_l_names {X : Cx} {c : Cc} (b_range : Blt X "range" (.type "range")) (c_l_take : CalF X n_l_names.k "_law_take" S_l_take) (b_int : Blt X "int" (.type "int")) (c_l_pick : CalF X n_l_names.k "_law_pick" S_l_pick) (b_len : Blt X "len" (.builtin "len")) (b_str : Blt X "str" (.type "str")) : ∀ ps Post, S_l_names ps Post → WB X n_l_names c (entry n_l_names.N ps) (defBody s_l_names) (fnD n_l_names.oi Post) := by
  rintro ps Post ⟨m, rfl, hm, post⟩
  show WB X n_l_names c [.own .sto, .d (.int (m : Int)), .no, .no, .no, .no, .no, .no, .no, .no, .no, .no, .no, .no] _ _
  have bk : ∀ {r : SL}, Backs (.own .sto :: r) [0] [.sto] := fun {r} => ⟨.sto, .sto, [], rfl, rfl, .inl rfl, rfl⟩
  have sl : sizeLine = 16777216 := sizeLine_eq
  refine wb_cut (fun Γ => ∃ le : Str, Γ = [.own .sto, .d (.int (m : Int)), .d (.str le), .no, .no, .no, .no, .no, .no, .no, .no, .no, .no, .no] ∧ le.length = 26 ∧ (cL le).Nodup ∧ (cL (le ++ ("0123456789" : Str))).Nodup ∧ SgS le) (ws_set 2 (we_of ev_str ⟨_, rfl, by decide +kernel, by decide +kernel, by decide +kernel, by unfold SgS; decide +kernel⟩)) ?_
  rintro Γ ⟨le, rfl, hle, nd1, nd2, sg1⟩
  refine wb_cut (fun Γ => ∃ si : Str, Γ = [.own .sto, .d (.int (m : Int)), .d (.str le), .d (.str si), .no, .no, .no, .no, .no, .no, .no, .no, .no, .no] ∧ si.length = 36 ∧ (cL si).Nodup ∧ SgS si) (ws_set 3 (we_of (ev_addS (ev_var 2) ev_str (by rw [hle, sl]; decide +kernel)) ⟨_, rfl, by rw [app_len, hle]; decide +kernel, nd2, sg1.app (by unfold SgS; decide +kernel)⟩)) ?_
  rintro Γ ⟨si, rfl, hsi, nd3, sg2⟩
  refine wb_cut (fun Γ => Γ = [.own .sto, .d (.int (m : Int)), .d (.str le), .d (.str si), .d (.str ""), .no, .no, .no, .no, .no, .no, .no, .no, .no]) (ws_set 4 (we_of ev_str rfl)) ?_
  rintro Γ rfl
  refine wb_cut (fun Γ => ∃ (st : Str) (u5 : DL.Slot), Γ = [.own .sto, .d (.int (m : Int)), .d (.str le), .d (.str si), .d (.str st), u5, .no, .no, .no, .no, .no, .no, .no, .no] ∧ st.length ≤ 8 ∧ SgS st) (ws_forR1d 5 (fun i Γ => ∃ (st : Str) (u5 : DL.Slot), Γ = [.own .sto, .d (.int (m : Int)), .d (.str le), .d (.str si), .d (.str st), u5, .no, .no, .no, .no, .no, .no, .no, .no] ∧ st.length ≤ i ∧ SgS st) (fun k => k ≤ 8) b_range 0 (we_take c_l_take 1 0 (we_of (ev_is (y := .int (((if 26 < (m : Int) then 7 else 8) : Nat) : Int)) (ev_sub ev_int (ev_tointb b_int 2 (ev_gt (ev_var 1) ev_int))) (by by_cases h : 26 < (m : Int) <;> simp [h])) ⟨rfl, _, rfl, by split <;> decide, bt64 (by split <;> decide), fun k hk => ⟨k, rfl, by split at hk <;> omega, by split at hk <;> omega, "", _, rfl, Nat.le_of_ble_eq_true rfl, by unfold SgS; decide +kernel⟩⟩)) (fun k hk i Γ hi => ?_) (fun k Γ hk ⟨st, u5, e, h, h2⟩ => ⟨st, u5, e, by omega, h2⟩)) ?_
  · rintro ⟨st, u5, rfl, hst, sgt⟩
    show WB X n_l_names c [.own .sto, .d (.int (m : Int)), .d (.str le), .d (.str si), .d (.str st), .d (.int (i : Int)), .no, .no, .no, .no, .no, .no, .no, .no] _ _
    refine wb_one (ws_set 4 (we_bin dop_addS (wk_ek (ek_d (ev_var 4)) (wk_e (we_pickStrZ c_l_pick 3 0 (we_if (wt_of (et_eq (ev_var 5) ev_int) ⟨fun _ => we_of (ev_var 2) ⟨rfl, le, rfl, by omega, by omega, fun ch hc hs => ?_⟩, fun _ => we_of (ev_var 3) ⟨rfl, si, rfl, by omega, by omega, fun ch hc hs => ?_⟩⟩)))))))
    · exact ⟨.str st, .str ch, rfl, rfl, st, ch, rfl, rfl, by omega, st ++ ch, .d (.int (i : Int)), rfl, by rw [app_len]; omega, sgt.app (sg1.sub hs)⟩
    · exact ⟨.str st, .str ch, rfl, rfl, st, ch, rfl, rfl, by omega, st ++ ch, .d (.int (i : Int)), rfl, by rw [app_len]; omega, sgt.app (sg2.sub hs)⟩
  rintro Γ ⟨st, u5, rfl, hst, sgt⟩
  have LS : ∀ {G : SL}, G[4]? = some (.d (.str st)) → (DL.D.str st).len = some st.length := fun _ => rfl
  refine wb_cut (fun Γ => ∃ pl : Nat, Γ = [.own .sto, .d (.int (m : Int)), .d (.str le), .d (.str si), .d (.str st), u5, .d (.int (pl : Int)), .no, .no, .no, .no, .no, .no, .no] ∧ pl ≤ st.length) (ws_set 6 (we_take c_l_take 1 0 (we_of (ev_is (y := .int ((st.length + 1 : Nat) : Int)) (ev_add (ev_len (x := .str st) (m := st.length) b_len 4 (ek_d (ev_var 4)) rfl (fun z hz => by cases hz; omega)) ev_int) rfl) ⟨rfl, _, rfl, by omega, bt64 (by omega), fun k hk => ⟨k, rfl, by omega⟩⟩))) ?_
  rintro Γ ⟨pl, rfl, hpl⟩
  refine wb_cut (fun Γ => ∃ mu : Str, Γ = [.own .sto, .d (.int (m : Int)), .d (.str le), .d (.str si), .d (.str st), u5, .d (.int (pl : Int)), .d (.str mu), .no, .no, .no, .no, .no, .no] ∧ MenuOk mu ∧ SgS mu) (ws_set 7 (we_if (wt_of (et_gt (ev_var 6) ev_int) ⟨fun _ => we_of (ev_var 3) ⟨si, rfl, ⟨.inr hsi, nd3⟩, sg2⟩, fun _ => we_of (ev_var 2) ⟨le, rfl, ⟨.inl hle, nd1⟩, sg1⟩⟩))) ?_
  rintro Γ ⟨mu, rfl, hmu, sgm⟩
  have hm1 : 26 ≤ mu.length := by rcases hmu.len with h | h <;> omega
  have hm2 : mu.length ≤ 36 := by rcases hmu.len with h | h <;> omega
  refine wb_cut (fun Γ => ∃ fi : Nat, Γ = [.own .sto, .d (.int (m : Int)), .d (.str le), .d (.str si), .d (.str st), u5, .d (.int (pl : Int)), .d (.str mu), .d (.int (fi : Int)), .no, .no, .no, .no, .no] ∧ fi < 36) (ws_set 8 (we_take c_l_take 1 0 (we_of (ev_len (x := .str mu) (m := mu.length) b_len 4 (ek_d (ev_var 7)) rfl (fun z hz => by cases hz; omega)) ⟨rfl, _, rfl, by omega, bt64 (by omega), fun k hk => ⟨k, rfl, by omega⟩⟩))) ?_
  rintro Γ ⟨fi, rfl, hfi⟩
  refine wb_cut (fun Γ => ∃ sp : Nat, Γ = [.own .sto, .d (.int (m : Int)), .d (.str le), .d (.str si), .d (.str st), u5, .d (.int (pl : Int)), .d (.str mu), .d (.int (fi : Int)), .d (.int (sp : Int)), .no, .no, .no, .no] ∧ StepOk sp) (ws_set 9 (we_pick c_l_pick 3 0 (we_frz (wo_of (eo_lst (ea_cons (ek_d ev_int) (ea_cons (ek_d ev_int) (ea_cons (ek_d ev_int) (ea_cons (ek_d ev_int) (ea_cons (ek_d ev_int) (ea_cons (ek_d ev_int) (ea_cons (ek_d ev_int) (ea_cons (ek_d ev_int) ea_nil))))))))) ⟨_, rfl, rfl, _, rfl, by simp, by simp, fun x hx => ?_⟩)))) ?_
  · simp only [List.mem_cons, List.not_mem_nil, or_false] at hx
    rcases hx with rfl | rfl | rfl | rfl | rfl | rfl | rfl | rfl
    · exact ⟨1, rfl, by unfold StepOk; decide⟩
    · exact ⟨5, rfl, by unfold StepOk; decide⟩
    · exact ⟨7, rfl, by unfold StepOk; decide⟩
    · exact ⟨11, rfl, by unfold StepOk; decide⟩
    · exact ⟨17, rfl, by unfold StepOk; decide⟩
    · exact ⟨19, rfl, by unfold StepOk; decide⟩
    · exact ⟨23, rfl, by unfold StepOk; decide⟩
    · exact ⟨25, rfl, by unfold StepOk; decide⟩
  rintro Γ ⟨sp, rfl, hso⟩
  have hsp : sp ≤ 25 := by rcases hso with h | h | h | h | h | h | h | h <;> omega
  refine wb_cut (fun Γ => ∃ cu : Nat, Γ = [.own .sto, .d (.int (m : Int)), .d (.str le), .d (.str si), .d (.str st), u5, .d (.int (pl : Int)), .d (.str mu), .d (.int (fi : Int)), .d (.int (sp : Int)), .d (.int (cu : Int)), .no, .no, .no]) (ws_set 10 (we_takeI (m := 3) c_l_take 1 0 fun k hk => ⟨k, rfl⟩)) ?_
  rintro Γ ⟨cu, rfl⟩
  refine wb_cut (fun Γ => Γ = [.own .sto, .d (.int (m : Int)), .d (.str le), .d (.str si), .d (.str st), u5, .d (.int (pl : Int)), .d (.str mu), .d (.int (fi : Int)), .d (.int (sp : Int)), .d (.int (cu : Int)), .own (.lst (([] : List Str).map DL.D.str)), .no, .no]) (ws_setO 11 (wo_of (eo_lst ea_nil) rfl)) ?_
  rintro Γ rfl
  refine wb_cut (fun Γ => ∃ (ns : List Str) (u5 u12 u13 : DL.Slot), Γ = [.own .sto, .d (.int (m : Int)), .d (.str le), .d (.str si), .d (.str st), u5, .d (.int (pl : Int)), .d (.str mu), .d (.int (fi : Int)), .d (.int (sp : Int)), .d (.int (cu : Int)), .own (.lst ((ns).map DL.D.str)), u12, u13] ∧ NmsOk (cutS st none (some (pl : Int))) (decide (26 < m)) mu fi sp m ns ∧ (∀ s ∈ ns, s.length ≠ 0 ∧ SgS s)) (ws_forR1 5 (fun i Γ => ∃ (ns : List Str) (u5 u12 u13 : DL.Slot), Γ = [.own .sto, .d (.int (m : Int)), .d (.str le), .d (.str si), .d (.str st), u5, .d (.int (pl : Int)), .d (.str mu), .d (.int (fi : Int)), .d (.int (sp : Int)), .d (.int (cu : Int)), .own (.lst ((ns).map DL.D.str)), u12, u13] ∧ NmsOk (cutS st none (some (pl : Int))) (decide (26 < m)) mu fi sp i ns ∧ (∀ s ∈ ns, s.length ≠ 0 ∧ SgS s)) m b_range 0 (we_of (ev_var 1) ⟨_, rfl, by simp, by omega, by omega, [], _, _, _, rfl, .nil, fun s hs => by cases hs⟩) ?_ (fun _ h => h)) ?_
  · rintro i Γ hi ⟨ns, v5, u12, u13, rfl, hn, hgs⟩
    show WB X n_l_names c [.own .sto, .d (.int (m : Int)), .d (.str le), .d (.str si), .d (.str st), .d (.int (i : Int)), .d (.int (pl : Int)), .d (.str mu), .d (.int (fi : Int)), .d (.int (sp : Int)), .d (.int (cu : Int)), .own (.lst ((ns).map DL.D.str)), u12, u13] _ _
    have ML : ∀ (Q : Prop), Q → Q := fun _ h => h
    have bm : Bt 20 ((mu.length : Nat) : Int) := bt_of (by omega) (by omega)
    refine wb_cut (fun Γ => ∃ ch : Str, Γ = [.own .sto, .d (.int (m : Int)), .d (.str le), .d (.str si), .d (.str st), .d (.int (i : Int)), .d (.int (pl : Int)), .d (.str mu), .d (.int (fi : Int)), .d (.int (sp : Int)), .d (.int (cu : Int)), .own (.lst ((ns).map DL.D.str)), .d (.str ch), u13] ∧ ch.length = 1 ∧ cL ch = ((cL mu)[(fi + i * sp) % mu.length]?).toList) ?_ ?_
    · have f0 : 0 < ((mu.length : Nat) : Int) := by omega
      have ek : ((fi : Int) + (i : Int) * (sp : Int)).fmod ((mu.length : Nat) : Int) = (((fi + i * sp) % mu.length : Nat) : Int) := by
        rw [Int.fmod_eq_emod_of_nonneg _ (by omega)]; push_cast; rfl
      obtain ⟨z, hz, h1⟩ := str_at' (w := mu) (k := (fi + i * sp) % mu.length) (Nat.mod_lt _ (by omega)) (by omega)
      rw [← ek] at h1
      exact ws_set 12 (we_of (ev_ix (x := .str mu) (z := .str ⟨#[z]⟩) (ek_d (ev_var 7)) (ev_mod (ev_toint b_int 2 (ev_add (ev_var 8) (ev_mul (ev_var 5) (ev_var 9) ((show Bt 30 (i : Int) from bt_of (by omega) (by omega)).cm (show Bt 30 (sp : Int) from bt_of (by omega) (by omega)) (by decide))))) (ev_len (x := .str mu) (m := mu.length) b_len 4 (ek_d (ev_var 7)) rfl (fun z hz => by cases hz; omega)) (by omega)) h1) ⟨⟨#[z]⟩, rfl, rfl, by rw [hz]; rfl⟩)
    rintro Γ ⟨ch, rfl, hch, hcc⟩
    have sgc : SgS ch := fun z hz => by
      rw [hcc] at hz
      exact sgm z (List.mem_of_getElem? (Option.mem_toList.mp hz))
    refine wb_cut (fun Γ => ∃ ch : Str, Γ = [.own .sto, .d (.int (m : Int)), .d (.str le), .d (.str si), .d (.str st), .d (.int (i : Int)), .d (.int (pl : Int)), .d (.str mu), .d (.int (fi : Int)), .d (.int (sp : Int)), .d (.int (cu : Int)), .own (.lst ((ns).map DL.D.str)), .d (.str ch), u13] ∧ ch.length ≤ 4 ∧ ch.length ≠ 0 ∧ SgS ch ∧ cL ch = sgN (decide (26 < m)) mu fi sp i) (ws_ifE (et_gt (ev_var 1) ev_int) (fun hbig => ?_) (fun hbig => wb_nil ⟨ch, rfl, by omega, by omega, sgc, by
      have : ¬ 26 < m := by have := of_decide_eq_false hbig; omega
      rw [hcc, decide_eq_false this]; exact (List.append_nil _).symm⟩)) ?_
    · have e0 : ((i : Int)).fdiv ((mu.length : Nat) : Int) = ((i / mu.length : Nat) : Int) := by
        rw [Int.fdiv_eq_ediv_of_nonneg _ (by omega)]; rfl
      have e1 : i / mu.length < 10 := Nat.div_lt_of_lt_mul (by omega)
      have hb : 26 < m := by have := of_decide_eq_true hbig; omega
      have eS : cL ch ++ [48 + i / mu.length] = sgN (decide (26 < m)) mu fi sp i := by rw [hcc, decide_eq_true hb]; rfl
      generalize i / mu.length = qt at e0 e1 eS
      have e2 : (Str.ofString (toString ((i : Int).fdiv ((mu.length : Nat) : Int)))).length ≤ 3 := PyProof.Rows.toString_length_le (by rw [e0]; omega) (by decide) (by rw [e0]; omega)
      exact wb_one (ws_set 12 (we_of (ev_addS (ev_var 12) (ev_strI b_str 5 (ev_fdiv (ev_var 5) (ev_len (x := .str mu) (m := mu.length) b_len 4 (ek_d (ev_var 7)) rfl (fun z hz => by cases hz; omega)) (bm.cd (by omega) (by decide))) (by have := log2_le_of (show Bt 20 ((i : Int).fdiv ((mu.length : Nat) : Int)) from by rw [e0]; exact bt_of (by omega) (by omega)); omega)) (by omega)) ⟨_, rfl, by rw [app_len]; omega, by rw [app_len]; omega, sgc.app (fun z hz => by rw [e0, dig_cL qt e1] at hz; have := List.mem_singleton.mp hz; omega), by rw [app_cL, e0, dig_cL qt e1]; exact eS⟩))
    clear hcc hch sgc ch
    rintro Γ ⟨ch, rfl, hch, hch0, sgc, hcc⟩
    have c1 := cutS_len st none (some (pl : Int))
    have c2 := cutS_len st (some (pl : Int)) none
    refine wb_cut (fun Γ => ∃ nm : Str, Γ = [.own .sto, .d (.int (m : Int)), .d (.str le), .d (.str si), .d (.str st), .d (.int (i : Int)), .d (.int (pl : Int)), .d (.str mu), .d (.int (fi : Int)), .d (.int (sp : Int)), .d (.int (cu : Int)), .own (.lst ((ns).map DL.D.str)), .d (.str ch), .d (.str nm)] ∧ nm.length ≤ 12 ∧ nm.length ≠ 0 ∧ SgS nm ∧ cL nm = cL (cutS st none (some (pl : Int))) ++ sgN (decide (26 < m)) mu fi sp i) (ws_set 13 (we_of (ev_addS (ev_sliceS (l1 := none) (h1 := some (pl : Int)) (ev_var 4) (by omega) ep0 (ep1 (ev_var 6))) (ev_var 12) (by omega)) ⟨_, rfl, by rw [app_len]; omega, by rw [app_len]; omega, (sgt.sub cutS_sub).app sgc, by rw [app_cL, hcc]⟩)) ?_
    rintro Γ ⟨nm, rfl, hnm, hn0, sgn, hnc⟩
    refine wb_cut (fun Γ => ∃ nm : Str, Γ = [.own .sto, .d (.int (m : Int)), .d (.str le), .d (.str si), .d (.str st), .d (.int (i : Int)), .d (.int (pl : Int)), .d (.str mu), .d (.int (fi : Int)), .d (.int (sp : Int)), .d (.int (cu : Int)), .own (.lst ((ns).map DL.D.str)), .d (.str ch), .d (.str nm)] ∧ nm.length ≤ 20 ∧ nm.length ≠ 0 ∧ SgS nm ∧ ∃ T, cL nm = cL (cutS st none (some (pl : Int))) ++ sgN (decide (26 < m)) mu fi sp i ++ T) (ws_if (WW.t (ww_or (wt_of (et_eq (ev_var 10) ev_int) ⟨fun _ => ww_or1 (wt_cmp dop_eqI (nomark _) (wk_e (we_takeI (m := 2) c_l_take 1 0 fun j hj => wk_e (we_of ev_int ⟨_, _, rfl, rfl, _, _, rfl, rfl, trivial, _, rfl, fun h => ?_, fun h => wb_nil ⟨nm, rfl, by omega, hn0, sgn, [], by rw [hnc, List.append_nil]⟩⟩)))), fun _ => ⟨fun _ => ?_, fun h => by cases h⟩⟩)))) ?_
    · exact wb_one (ws_set 13 (we_of (ev_addS (ev_var 13) (ev_sliceS (l1 := some (pl : Int)) (h1 := none) (ev_var 4) (by omega) (ep1 (ev_var 6)) ep0) (by omega)) ⟨_, rfl, by rw [app_len]; omega, by rw [app_len]; omega, sgn.app (sgt.sub cutS_sub), _, by rw [app_cL, hnc]⟩))
    · exact wb_one (ws_set 13 (we_of (ev_addS (ev_var 13) (ev_sliceS (l1 := some (pl : Int)) (h1 := none) (ev_var 4) (by omega) (ep1 (ev_var 6)) ep0) (by omega)) ⟨_, rfl, by rw [app_len]; omega, by rw [app_len]; omega, sgn.app (sgt.sub cutS_sub), _, by rw [app_cL, hnc]⟩))
    clear hnc hnm hn0 sgn nm
    rintro Γ ⟨nm, rfl, hnm, hn0, sgn, hnT⟩
    refine wb_cut (fun Γ => ∃ nm : Str, Γ = [.own .sto, .d (.int (m : Int)), .d (.str le), .d (.str si), .d (.str st), .d (.int (i : Int)), .d (.int (pl : Int)), .d (.str mu), .d (.int (fi : Int)), .d (.int (sp : Int)), .d (.int (cu : Int)), .own (.lst ((ns).map DL.D.str)), .d (.str ch), .d (.str nm)] ∧ nm.length ≤ 20 ∧ nm.length ≠ 0 ∧ SgS nm ∧ NmAt (cutS st none (some (pl : Int))) (decide (26 < m)) mu fi sp i nm) (ws_ifE (EW.t (ew_and (et_eq (ev_var 10) ev_int) fun _ => ew_and (et_eq (ev_var 5) ev_int) fun _ => ew_and1 (et_gt (ev_var 6) ev_int))) (fun h3 => wb_one (ws_set 13 (we_of (ev_sliceS (l1 := none) (h1 := some (pl : Int)) (ev_var 4) (by omega) ep0 (ep1 (ev_var 6))) ⟨_, rfl, by omega, by rw [cutS_upto hpl]; simp at h3; omega, sgt.sub cutS_sub, .inr ⟨by simp at h3; omega, rfl⟩⟩))) (fun _ => wb_nil ⟨nm, rfl, hnm, hn0, sgn, .inl hnT⟩)) ?_
    clear hnT hnm hn0 sgn nm
    rintro Γ ⟨nm, rfl, hnm, hn0, sgn, hnA⟩
    refine wb_one (ws_append 11 (we_of (ev_var 13) ⟨_, rfl, by rw [List.length_map, hn.len]; omega, ns ++ [nm], .d (.int (i : Int)), .d (.str ch), .d (.str nm), congrArg (fun z => ([.own .sto, .d (.int (m : Int)), .d (.str le), .d (.str si), .d (.str st), .d (.int (i : Int)), .d (.int (pl : Int)), .d (.str mu), .d (.int (fi : Int)), .d (.int (sp : Int)), .d (.int (cu : Int)), .own (.lst z), .d (.str ch), .d (.str nm)] : SL)) (List.map_append (f := DL.D.str) (l₁ := ns) (l₂ := [nm])).symm, hn.snoc (by omega) hnA, fun s hs => by
      rcases List.mem_append.mp hs with hs | hs
      · exact hgs s hs
      · rw [List.mem_singleton.mp hs]; exact ⟨hn0, sgn⟩⟩))
  rintro Γ ⟨ns, v5, u12, u13, rfl, hn, hgs⟩
  exact wb_one (ws_retS 11 ⟨.own _, [.sto], .inl rfl, bk, post ns ⟨hn.len, hn.sz⟩ (hn.nodup hmu hso rfl) fun s hs => ⟨fun z => by have := (hgs s hs).1; rw [z] at this; exact this rfl, (hgs s hs).2.ok⟩⟩)


/-! _law_size -/
abbrev s_l_size : Stmt := top 8
abbrev n_l_size : Nm := { N := ["_law_store_here", "_law_least", "_law_top", "_law_sort"], V := [0, 1, 2, 3], as := [0, 1, 2, 3], GN := ["_law_take"], k := 2, oi := [0], lc := [0, 1, 2, 3], sc := none }
theorem sc_l_size : FnScope n_l_size.N ["_law_store_here", "_law_least", "_law_top"] (defScope s_l_size) := ⟨rfl, rfl, rfl, by decide +kernel, rfl, by decide +kernel, by decide +kernel⟩
theorem sb_l_size : ScOk (defScope s_l_size) n_l_size := scOk_of (by decide +kernel)
abbrev S_l_size : Sg := ST_size
theorem bd_l_size {X : Cx} {c : Cc} (c_l_take : CalF X n_l_size.k "_law_take" S_l_take) : ∀ ps Post, S_l_size ps Post → WB X n_l_size c (entry n_l_size.N ps) (defBody s_l_size) (fnD n_l_size.oi Post) := by
  rintro ps Post ⟨lo, hi, rfl, hl, b1, b2, post⟩
  show WB X n_l_size c [.own .sto, .d (.int lo), .d (.int hi), .no] _ _
  have bk : Backs [.own .sto, .d (.int lo), .d (.int hi), .d (.int 0)] [0] [.sto] := ⟨.sto, .sto, [], rfl, rfl, .inl rfl, rfl⟩
  refine wb_cons (ws_set 3 (we_takeI c_l_take 0 0 fun k hk => ?_))
  refine wb_cut (fun Γ => Γ = [.own .sto, .d (.int lo), .d (.int hi), .d (.int (k : Int))]) (ws_ifE (et_eq (ev_var 3) ev_int) (fun h => wb_one (ws_ret (we_of (ev_var 1) ⟨_, [.sto], rfl, bk, post _ (Int.le_refl _) hl⟩))) (fun h => wb_nil rfl)) ?_
  rintro Γ rfl
  refine wb_cut (fun Γ => Γ = [.own .sto, .d (.int lo), .d (.int hi), .d (.int (k : Int))]) (ws_ifE (et_eq (ev_var 3) ev_int) (fun h => wb_one (ws_ret (we_of (ev_var 2) ⟨_, [.sto], rfl, bk, post _ hl (Int.le_refl _)⟩))) (fun h => wb_nil rfl)) ?_
  rintro Γ rfl
  refine wb_one (ws_ret (we_bin dop_add (wk_e (we_of (ev_var 1) (wk_e (we_take c_l_take 0 0 (we_of (ev_add (ev_sub (ev_var 2) (ev_var 1)) ev_int) ⟨rfl, (hi - lo + 1).toNat, ?_, by omega, ?_, fun j hj => ?_⟩)))))))
  · rw [Int.toNat_of_nonneg (by omega)]
  · rw [Int.toNat_of_nonneg (by omega)]; exact ((b2.sub b1).add (show Bt 7001 1 from Nat.one_lt_two_pow (by decide))).mono (by decide)
  · exact ⟨_, _, rfl, rfl, _, _, rfl, rfl, trivial, _, [.sto], rfl, bk, post _ (by omega) (by omega)⟩


/-! small_sets -/
abbrev s_p_small_sets : Stmt := top 1
abbrev n_p_small_sets : Nm := { N := ["names", "most", "suspects", "level", "size", "chosen", "name"], V := [0, 1, 2, 3, 4, 5], as := [0, 1, 2, 3, 4, 5], GN := ["sorted", "range", "min", "len"], k := 0, oi := [], lc := [0, 1, 3, 5], sc := some (defScope s_p_small_sets) }
abbrev n_p_small_sets_c1 : Nm := { N := ["names", "most", "suspects", "level", "size", "chosen", "name"], V := [2, 4, 5, 6], as := [5, 6], GN := [], k := 0, oi := [] }
theorem sc_p_small_sets : GScope n_p_small_sets.N ["names", "most"] (defScope s_p_small_sets) := ⟨rfl, rfl, rfl, by decide +kernel, rfl, by decide +kernel, by decide +kernel⟩
theorem sb_p_small_sets : ScOk (defScope s_p_small_sets) n_p_small_sets := scOk_of (by decide +kernel)
theorem bd_p_small_sets {X : Cx} {c : Cc} (hx : X.xe = fun _ _ => False) (N : NOk X n_p_small_sets c) (GS : GenS X) (b_sorted : Blt X "sorted" (.builtin "sorted")) (b_range : Blt X "range" (.type "range")) (b_min : Blt X "min" (.builtin "min")) (b_len : Blt X "len" (.builtin "len")) : ∀ qs ds, ST_small qs ds → ∃ Pre : YP, YWB X (defBody s_p_small_sets) Pre (fun ds Γ => ds = [] ∧ ∀ x ∈ Γ, plainS x = true) ∧ Pre ds (entry n_p_small_sets.N qs) := by
  rintro qs ds ⟨ns, k, rfl, hn, hds⟩
  have rl : (srtS ns).length = ns.length := srt_len ns
  refine ⟨fun ds' Γ => ds' = remG (srtS ns) (min k ns.length) 0 ∧ Γ = [.w (.lst (ns.map DL.D.str)), .d (.int (k : Int)), .no, .no, .no, .no, .no], ?_, by rw [hds, remG_0]; rfl, rfl⟩
  clear hds
  refine ywb_cons (Mid := fun ds' Γ => ds' = remG (srtS ns) (min k ns.length) 0 ∧ Γ = [.any, .d (.int (k : Int)), .d (.lst ((srtS ns).map DL.D.str)), .no, .no, .no, .no]) (yw_ws N rfl hx ?_) ?_
  · rintro ds' Γ ⟨rfl, rfl⟩ X' c' ⟨e1, e2, e3, e4, e5, e6⟩
    refine ws_any 0 (ws_set 2 (we_frz (wo_blt (b_sorted.fam e4) dc_sortedS 0 (wa_cons (wk_ek (ek_s 0) (wa_nil ⟨_, rfl, ns, rfl, by omega, fun ys h1 h2 => ⟨_, rfl, ?_⟩⟩))))))
    rw [srt_eq h1 h2]; exact ⟨rfl, rfl⟩
  generalize srtS ns = rk at *
  generalize hK : min k ns.length = K
  have hK6 : K ≤ 6 := by omega
  refine ywb_cons (Mid := fun ds' Γ => ds' = remG rk K 0 ∧ Γ = [.any, .d (.int (k : Int)), .d (.lst (rk.map DL.D.str)), .d (.lst ((levL rk 0).map setsD)), .no, .no, .no]) (yw_ws N rfl hx ?_) ?_
  · rintro ds' Γ ⟨rfl, rfl⟩ X' c' ⟨e1, e2, e3, e4, e5, e6⟩
    exact ws_set 3 (we_of (ev_frz (eo_lst (ea_cons (ek_d (ev_tup ea_nil)) ea_nil))) ⟨rfl, rfl⟩)
  refine ywb_cons (Mid := fun ds Γ => ds = [] ∧ ∀ x ∈ Γ, plainS x = true) (yw_forR 4 1 (fun m i ds Γ => m = K + 1 ∧ ds = remG rk K i ∧ ∃ u4 u5 : Slot, plainS u4 = true ∧ plainS u5 = true ∧ Γ = [.any, .d (.int (k : Int)), .d (.lst (rk.map DL.D.str)), .d (.lst ((levL rk i).map setsD)), u4, u5, .no]) N rfl hx rfl rfl rfl rfl b_range.mg ?_ ?_ ?_ (by exact se_c rfl)) (ywb_nil fun _ _ h => h)
  · rintro ds' Γ ⟨rfl, rfl⟩ X' c' ⟨e1, e2, e3, e4, e5, e6⟩
    refine we_of (ev_add (ev_min (b_min.fam e4) 2 (ev_var 1) (ev_len (x := .lst (rk.map DL.D.str)) (m := ns.length) (b_len.fam e4) 3 (ek_s 2) (by show some (rk.map DL.D.str).length = _; rw [List.length_map, rl]))) ev_int) ⟨K + 1, ?_, by omega, rfl, rfl, .no, .no, rfl, rfl, rfl⟩
    show DL.D.int _ = DL.D.int _
    congr 1
    omega
  · rintro m i hi
    refine ywb_cons (Mid := fun ds Γ => m = K + 1 ∧ ds = remG rk K (i + 1) ∧ ∃ u5 : Slot, plainS u5 = true ∧ Γ = [.any, .d (.int (k : Int)), .d (.lst (rk.map DL.D.str)), .d (.lst ((levL rk i).map setsD)), .d (.int (i : Int)), u5, .no]) (yw_forL 5 (fun xs t ds Γ => m = K + 1 ∧ xs = (levL rk i).map setsD ∧ ds = xs.drop t ++ remG rk K (i + 1) ∧ ∃ u5 : Slot, plainS u5 = true ∧ Γ = [.any, .d (.int (k : Int)), .d (.lst (rk.map DL.D.str)), .d (.lst ((levL rk i).map setsD)), .d (.int (i : Int)), u5, .no]) N rfl hx rfl rfl rfl ?_ ?_ ?_) (ywb_cons (yw_ws N rfl hx ?_) (ywb_nil fun _ _ h => h))
    · rintro ds' Γ ⟨Γ', ⟨rfl, rfl, u4, u5, h4, h5, rfl⟩, rfl⟩ X' c' ⟨e1, e2, e3, e4, e5, e6⟩
      exact we_of (ev_var 3) ⟨_, rfl, rfl, rfl, by rw [remG_succ hi]; rfl, u5, h5, rfl⟩
    · rintro xs t d hd
      refine ywb_cons (yw_yield N GS rfl hx ?_ (by rw [N.scp _ rfl]; rfl) (by unfold interactive; rw [N.scp _ rfl]; rfl)) (ywb_nil fun _ _ h => h)
      rintro ds' Γ ⟨Γ', ⟨rfl, rfl, rfl, u5, h5, rfl⟩, rfl⟩
      refine ⟨d, ((levL rk i).map setsD).drop (t + 1) ++ remG rk K (i + 1), ?_, ?_, ⟨rfl, rfl, rfl, .d d, rfl, rfl⟩, fun X' c' _ => ev_var 5⟩
      · rw [List.drop_eq_getElem_cons (List.getElem?_eq_some_iff.mp hd).1, (List.getElem?_eq_some_iff.mp hd).2]; rfl
      · intro x hx'
        simp only [List.set, List.mem_cons, List.not_mem_nil, or_false] at hx'
        rcases hx' with rfl | rfl | rfl | rfl | rfl | rfl | rfl <;> rfl
    · rintro xs ds' Γ ⟨rfl, rfl, rfl, u5, h5, rfl⟩
      exact ⟨rfl, by rw [List.drop_length]; rfl, u5, h5, rfl⟩
    · rintro ds' Γ ⟨rfl, rfl, u5, h5, rfl⟩ X' c' ⟨e1, e2, e3, e4, e5, e6⟩
      have cap : ((levL rk i)).length ≤ 46656 := levL_cap (by omega) (by omega)
      refine ws_any0 5 (ws_frz 3 (ws_lcN (n' := n_p_small_sets_c1) (ds := (levL rk i).map setsD) 5 6 3 (Q := fun _ _ => True) (fun _ _ => rk.map DL.D.str) (fun m k acc => acc = (exP rk (levL rk i) m k).map setsD) (fun m k d e b => ∀ one s, d = setsD one → e = .str s → b = lastLt one s) ⟨(fun c hn => lc_bk hn rfl (by decide +kernel)), by decide +kernel, rfl, rfl, rfl, rfl, rfl, rfl, rfl, rfl, rfl, (by intro o h; cases h), (by intro o h; cases h), by decide, rfl, rfl⟩ (ek_s 3) rfl (by rw [exP_0]; rfl) (fun X2 c2 hb m d hd => ?_) (fun X2 c2 hb m d hd k' e hk => ?_) (fun X2 c2 hb m d hd k' e acc hk ht ha => ?_) (fun m d hd k' e acc hk ht ha => ?_) (fun m d acc hd ha => ?_) (fun m k' acc ha => ?_) (fun out ho => ?_)))
      · exact we_of (ev_var 2) ⟨rfl, rfl⟩
      · rw [List.getElem?_map] at hd hk
        obtain ⟨one, h1, rfl⟩ := Option.map_eq_some_iff.mp hd
        obtain ⟨s, h2, rfl⟩ := Option.map_eq_some_iff.mp hk
        have ol := (levL_mem (List.mem_of_getElem? h1)).1
        show WT X2 n_p_small_sets_c1 c2 _ _ _
        by_cases e0 : i = 0
        · have hone : one = [] := List.eq_nil_of_length_eq_zero (by omega)
          subst hone
          refine wt_of (EW.t (ew_or (p := true) (q := true) (et_is (et_eq (ev_var 4) ev_int) (decide_eq_true (by omega))) fun h => by cases h)) ⟨rfl, fun one' s' h1 h2 => ?_⟩
          cases h2
          cases one' with
          | nil => rfl
          | cons _ _ => unfold setsD at h1; cases h1
        · obtain ⟨os, l, rfl⟩ : ∃ os l, one = os ++ [l] := ⟨one.dropLast, one.getLast (by intro z; subst z; simp at ol; omega), (List.dropLast_concat_getLast _).symm⟩
          refine wt_of (EW.t (ew_or (p := false) (q := ltS l s) (et_is (et_eq (ev_var 4) ev_int) (decide_eq_false (by omega))) fun h => ew_or1 (et_gtS (u := s) (v := l) (ek_d (ev_var 6)) (ek_d (ev_ix (x := setsD (os ++ [l])) (z := .str l) (i := -1) (ek_s 5) (ev_is (ev_neg ev_int) rfl) (by show atI (List.map _ _) _ = _; rw [List.map_append]; exact at_neg _ _)))))) ⟨rfl, fun one' s' h1 h2 => ?_⟩
          cases h2
          have h3 : os ++ [l] = one' := strs_inj (by unfold setsD at h1; injection h1)
          rw [← h3, lastLt_snoc]; rfl
      · rw [List.getElem?_map] at hd hk
        obtain ⟨one, h1, rfl⟩ := Option.map_eq_some_iff.mp hd
        obtain ⟨s, h2, rfl⟩ := Option.map_eq_some_iff.mp hk
        have ol := (levL_mem (List.mem_of_getElem? h1)).1
        refine we_tup (wa_star (wk_ek (ek_s 5) ⟨one.map DL.D.str, .inr rfl, wa_of (ea_cons (ek_d (ev_var 6)) ea_nil) ⟨(one ++ [s]).map DL.D.str, ?_, ?_, rfl, ?_⟩⟩))
        · rw [dats_app (xs := [DL.D.str s]) rfl, List.map_append]; rfl
        · rw [List.length_map, List.length_append, ol]; show i + 1 ≤ 1000; omega
        · rw [ha, exP_step h1 h2 (ht one s rfl rfl).symm]; simp [setsD]
      · rw [List.getElem?_map] at hd hk
        obtain ⟨one, h1, rfl⟩ := Option.map_eq_some_iff.mp hd
        obtain ⟨s, h2, rfl⟩ := Option.map_eq_some_iff.mp hk
        rw [ha, exP_skip h1 h2 (ht one s rfl rfl).symm]
      · rw [List.getElem?_map] at hd
        obtain ⟨one, h1, rfl⟩ := Option.map_eq_some_iff.mp hd
        rw [ha, List.length_map, exP_nx h1]
      · rw [ha, List.length_map]; exact exP_len (by omega) cap m k'
      · rw [List.length_map] at ho
        refine ⟨_, _, rfl, rfl, rfl, rfl, .d (.int (i : Int)), .any, rfl, rfl, ?_⟩
        rw [ho, exP_end]; rfl
  · rintro m ds' Γ ⟨rfl, rfl, u4, u5, h4, h5, rfl⟩
    refine ⟨remG_end, ?_⟩
    intro x hx'
    simp only [List.mem_cons, List.not_mem_nil, or_false] at hx'
    rcases hx' with rfl | rfl | rfl | rfl | rfl | rfl | rfl <;> first | rfl | assumption


/-! _law_many -/
abbrev s_l_many : Stmt := top 13
abbrev n_l_many : Nm := { N := ["_law_size_here", "_law_allowed", "_law_row", "_law_k", "_law_j"], V := [0, 1, 2, 3], as := [0, 1, 2, 3], GN := ["range", "len", "sum"], k := 0, oi := [], lc := [0, 1, 3], sc := some (defScope s_l_many) }
abbrev n_l_many_c1 : Nm := { N := ["_law_size_here", "_law_allowed", "_law_row", "_law_k", "_law_j"], V := [2, 4], as := [4], GN := [], k := 0, oi := [] }
theorem sc_l_many : FnScope n_l_many.N ["_law_size_here", "_law_allowed"] (defScope s_l_many) := ⟨rfl, rfl, rfl, by decide +kernel, rfl, by decide +kernel, by decide +kernel⟩
theorem sb_l_many : ScOk (defScope s_l_many) n_l_many := scOk_of (by decide +kernel)
abbrev S_l_many : Sg := ST_pasc
theorem bd_l_many {X : Cx} {c : Cc} (b_range : Blt X "range" (.type "range")) (b_len : Blt X "len" (.builtin "len")) (b_sum : Blt X "sum" (.builtin "sum")) : ∀ ps Post, S_l_many ps Post → WB X n_l_many c (entry n_l_many.N ps) (defBody s_l_many) (fnD n_l_many.oi Post) := by
  rintro ps Post ⟨n, k, rfl, hn, hk, post⟩
  show WB X n_l_many c [.d (.int (n : Int)), .d (.int (k : Int)), .no, .no, .no] _ _
  refine wb_cut (fun Γ => Γ = [.d (.int (n : Int)), .d (.int (k : Int)), .own (.lst (natsD (pas 0))), .no, .no]) (ws_setO 2 (wo_of (eo_lst (ea_cons (ek_d ev_int) ea_nil)) rfl)) ?_
  rintro Γ rfl
  refine wb_cut (fun Γ => ∃ u3 : DL.Slot, Γ = [.d (.int (n : Int)), .d (.int (k : Int)), .own (.lst (natsD (pas n))), u3, .no]) (ws_forR1 3 (fun i Γ => ∃ u3 : DL.Slot, Γ = [.d (.int (n : Int)), .d (.int (k : Int)), .own (.lst (natsD (pas i))), u3, .no]) n b_range 0 (we_of (ev_var 0) ⟨_, rfl, by omega, by omega, by omega, _, rfl⟩) ?_ (fun _ h => h)) ?_
  · rintro i Γ hi ⟨u3, rfl⟩
    show WB X n_l_many c [.d (.int (n : Int)), .d (.int (k : Int)), .own (.lst (natsD (pas i))), .d (.int (i : Int)), .no] _ _
    have hl : (natsD (pas i)).length = i + 1 := by rw [natsD_len, pas_len]
    have at' : ∀ j, j < i + 1 → (natsD (pas i))[j]? = some (.int (((pas i)[j]?).getD 0 : Nat)) := fun j hj => by
      unfold natsD
      rw [List.getElem?_map]
      have := pas_len i
      rw [List.getElem?_eq_getElem (by omega)]; rfl
    refine wb_one (ws_setO 2 (wo_of (o := .lst (natsD ([1] ++ ((List.range i).map fun j => ((pas i)[j]?).getD 0 + ((pas i)[j + 1]?).getD 0)) ++ natsD [1])) (eo_catE (ev_frz (ds := natsD ([1] ++ ((List.range i).map fun j => ((pas i)[j]?).getD 0 + ((pas i)[j + 1]?).getD 0))) ?_) (ev_frz (ds := natsD [1]) (eo_lst (ea_cons (ek_d ev_int) ea_nil))) ?_) ⟨.d (.int (i : Int)), ?_⟩))
    · refine eo_catE (xs := natsD [1]) (ys := natsD ((List.range i).map fun j => ((pas i)[j]?).getD 0 + ((pas i)[j + 1]?).getD 0)) (ev_frz (eo_lst (ea_cons (ek_d ev_int) ea_nil))) (ev_frz ?_) ?_
      · refine wo_lcR1 (n' := n_l_many_c1) 4 (fun m acc => acc = natsD ((List.range m).map fun j => ((pas i)[j]?).getD 0 + ((pas i)[j + 1]?).getD 0)) (fun _ b => b = true) i ⟨(fun c hn => lc_bk hn rfl (by decide +kernel)), by decide +kernel, rfl, rfl, rfl, rfl, rfl, rfl, rfl, (by intro o h; cases h), rfl⟩ b_range 0 (we_of (ev_sub (ev_len (x := .lst (natsD (pas i))) (m := i + 1) b_len 1 (ek_s 2) (by show some _ = _; rw [hl])) ev_int) ⟨_, rfl, by omega, by omega, by omega, rfl⟩) (by omega) rfl (fun X' c' hb m hm => ⟨rfl, rfl⟩) (fun X' c' hb m acc hm _ ha hl' => ?_) (fun m acc hm ht ha => by cases ht) (fun out ho => ⟨by rw [ho], rfl⟩)
        refine we_of (ev_is (ev_add (ev_ix (x := .lst (natsD (pas i))) (z := .int (((pas i)[m]?).getD 0 : Nat)) (i := (m : Int)) (ek_s 2) (ev_var 4) (at_lst (at' m (by omega)))) (ev_ix (x := .lst (natsD (pas i))) (z := .int (((pas i)[m + 1]?).getD 0 : Nat)) (i := ((m + 1 : Nat) : Int)) (ek_s 2) (ev_is (ev_add (ev_var 4) ev_int) (by rw [Int.natCast_add]; rfl)) (at_lst (at' (m + 1) (by omega))))) rfl) ⟨rfl, ?_⟩
        rw [ha, List.range_succ, List.map_append]
        unfold natsD
        rw [List.map_append]
        show _ = _ ++ [DL.D.int _]
        rw [Int.natCast_add]
      · rw [natsD_len, natsD_len, List.length_map, List.length_range]; show 1 + i ≤ _; omega
    · rw [natsD_len, natsD_len, List.length_append, List.length_map, List.length_range]; show 1 + i + 1 ≤ _; omega
    · show _ = [_, _, DL.Slot.own (.lst (natsD (pasN (pas i)))), _, _]
      unfold pasN
      rw [pas_len]
      unfold natsD
      rw [List.map_append (l₁ := [1] ++ _)]
      rfl
  rintro Γ ⟨u3, rfl⟩
  refine wb_one (ws_ret (we_of (ev_is (ev_sum (ns := ((pas n).take (k + 1)).map fun (m : Nat) => (m : Int)) b_sum 2 (ek_d (ev_frz (eo_slice (xs := natsD (pas n)) (ek_s 2) (l1 := none) (h1 := some ((k : Int) + 1)) trivial (ev_add (ev_var 1) ev_int)))) ?_) ?_) ⟨_, [], rfl, rfl, post⟩))
  · show some (DL.D.lst (cutD (natsD (pas n)) none (some ((k : Int) + 1)))) = _
    rw [show ((k : Int) + 1) = ((k + 1 : Nat) : Int) by omega, cut_toM]
    unfold natsD
    rw [List.map_map, ← List.map_take]; rfl
  · rw [nats_sum]; rfl


/-! _law_is_int -/
abbrev s_l_is_int : Stmt := top 10
abbrev n_l_is_int : Nm := { N := ["_law_value"], V := [0], as := [0], GN := ["isinstance", "int", "bool"], k := 0, oi := [], lc := [0], sc := none }
theorem sc_l_is_int : FnScope n_l_is_int.N ["_law_value"] (defScope s_l_is_int) := ⟨rfl, rfl, rfl, by decide +kernel, rfl, by decide +kernel, by decide +kernel⟩
theorem sb_l_is_int : ScOk (defScope s_l_is_int) n_l_is_int := scOk_of (by decide +kernel)
abbrev S_l_is_int : Sg := ST_isint
theorem bd_l_is_int {X : Cx} {c : Cc} (b_isinstance : Blt X "isinstance" (.builtin "isinstance")) (b_int : Blt X "int" (.type "int")) (b_bool : Blt X "bool" (.type "bool")) : ∀ ps Post, S_l_is_int ps Post → WB X n_l_is_int c (entry n_l_is_int.N ps) (defBody s_l_is_int) (fnD n_l_is_int.oi Post) := by
  rintro ps Post ⟨x, rfl, post⟩
  show WB X n_l_is_int c [.w x] _ _
  refine wb_one (ws_ret (we_of (ev_and (ev_isi b_isinstance b_int 0 1 (ek_s 0)) fun h => ev_one (ev_not (ev_isi b_isinstance b_bool 0 2 (ek_s 0)))) ⟨_, [], rfl, rfl, ?_⟩))
  rw [isI_ty]; exact post


/-! _law_same -/
abbrev s_l_same : Stmt := top 11
abbrev n_l_same (j : Nat) : Nm := { N := ["_law_value", "_law_due", "_law_keys", "_law_k", "_law_name"], V := [0, 1, 2, 3], as := [0, 1, 2, 3], GN := ["isinstance", "bool", "int", "_law_is_int", "str", "dict", "list", "_law_same", "tuple", "len", "range"], k := 1 + j, oi := [], lc := [2, 3], sc := some (defScope s_l_same) }
abbrev n_l_same_c1 (j : Nat) : Nm := { N := ["_law_value", "_law_due", "_law_keys", "_law_k", "_law_name"], V := [0, 4], as := [4], GN := [], k := 1 + j, oi := [] }
abbrev n_l_same_c2 (j : Nat) : Nm := { N := ["_law_value", "_law_due", "_law_keys", "_law_k", "_law_name"], V := [1, 4], as := [4], GN := [], k := 1 + j, oi := [] }
theorem sc_l_same : FnScope (n_l_same 0).N ["_law_value", "_law_due"] (defScope s_l_same) := ⟨rfl, rfl, rfl, by decide +kernel, rfl, by decide +kernel, by decide +kernel⟩
theorem sb_l_same : ScOk (defScope s_l_same) (n_l_same 0) := scOk_of (by decide +kernel)
abbrev S_l_same : Sg := ST_same 5
theorem bd_l_same {X : Cx} {c : Cc} (j : Nat) (b_isinstance : Blt X "isinstance" (.builtin "isinstance")) (b_bool : Blt X "bool" (.type "bool")) (b_int : Blt X "int" (.type "int")) (c_l_is_int : CalF X (n_l_same j).k "_law_is_int" S_l_is_int) (b_str : Blt X "str" (.type "str")) (b_dict : Blt X "dict" (.type "dict")) (b_list : Blt X "list" (.type "list")) (b_tuple : Blt X "tuple" (.type "tuple")) (b_len : Blt X "len" (.builtin "len")) (b_range : Blt X "range" (.type "range")) (c_rec : ∀ i, j = i + 1 → CalF X (n_l_same j).k "_law_same" (ST_same i)) : ∀ ps Post, ST_same j ps Post → WB X (n_l_same j) c (entry (n_l_same j).N ps) (defBody s_l_same) (fnD (n_l_same j).oi Post) := by
  rintro ps Post ⟨v, d, rfl, hp, post⟩
  show WB X (n_l_same j) c [.w v, .w d, .no, .no, .no] _ _
  refine wb_cut (fun Γ => Γ = [.w v, .w d, .no, .no, .no] ∧ d.isN = false) (ws_ifE (et_isN (ek_s 1)) (fun h => wb_one (ws_ret (we_of (ev_isN (ek_s 0)) ⟨_, [], rfl, rfl, post _ ?_⟩))) (fun h => wb_nil ⟨rfl, h⟩)) ?_
  · rw [ty_non h]; exact ⟨ty_non, fun e => by rw [e]; rfl⟩
  rintro Γ ⟨rfl, h1⟩
  refine wb_cut (fun Γ => Γ = [.w v, .w d, .no, .no, .no] ∧ tyB d.ty "bool" = false) (ws_ifE (et_isi b_isinstance b_bool 0 1 (ek_s 1)) (fun h => ?_) (fun h => wb_nil ⟨rfl, h⟩)) ?_
  · obtain ⟨b, rfl⟩ := ty_bool h
    refine wb_one (ws_ret (we_and (we_of (ev_isi b_isinstance b_bool 0 1 (ek_s 0)) ⟨_, rfl, fun q => ?_, fun q => ⟨_, [], rfl, rfl, post _ ⟨fun z => (by cases z), fun e => ?_⟩⟩⟩)))
    · obtain ⟨u, rfl⟩ := ty_bool q
      refine we_and1 (we_of (ev_eqD (ek_s 0) (ek_s 1) rfl rfl) ⟨_, [], rfl, rfl, post _ ?_⟩)
      cases u <;> cases b <;> simp [D.eqv, D.pd, PyData.eqv]
    · rw [e] at q; cases q
  rintro Γ ⟨rfl, h2⟩
  refine wb_cut (fun Γ => Γ = [.w v, .w d, .no, .no, .no] ∧ tyB d.ty "int" = false) (ws_ifE (et_isi b_isinstance b_int 0 2 (ek_s 1)) (fun h => ?_) (fun h => wb_nil ⟨rfl, h⟩)) ?_
  · obtain ⟨b, rfl⟩ := ty_int h h2
    refine wb_one (ws_ret (we_and (we_of (ev_call1 c_l_is_int 3 (ek_s 0) fun _ p => ⟨_, rfl, p⟩) ⟨_, rfl, fun q => ?_, fun q => ⟨_, [], rfl, rfl, post _ ⟨fun z => (by cases z), fun e => ?_⟩⟩⟩)))
    · obtain ⟨u, rfl⟩ := isI_of q
      refine we_and1 (we_of (ev_eqD (ek_s 0) (ek_s 1) rfl rfl) ⟨_, [], rfl, rfl, post _ ?_⟩)
      show (u == b) = true ↔ _
      simp
    · rw [e] at q; cases q
  rintro Γ ⟨rfl, h3⟩
  refine wb_cut (fun Γ => Γ = [.w v, .w d, .no, .no, .no] ∧ tyB d.ty "str" = false) (ws_ifE (et_isi b_isinstance b_str 0 4 (ek_s 1)) (fun h => ?_) (fun h => wb_nil ⟨rfl, h⟩)) ?_
  · obtain ⟨b, rfl⟩ := ty_str h
    refine wb_one (ws_ret (we_and (we_of (ev_isi b_isinstance b_str 0 4 (ek_s 0)) ⟨_, rfl, fun q => ?_, fun q => ⟨_, [], rfl, rfl, post _ ⟨fun z => (by cases z), fun e => ?_⟩⟩⟩)))
    · obtain ⟨u, rfl⟩ := ty_str q
      refine we_and1 (we_of (ev_eqS (ek_s 0) (ek_s 1)) ⟨_, [], rfl, rfl, post _ ?_⟩)
      simp
    · rw [e] at q; cases q
  rintro Γ ⟨rfl, h4⟩
  refine wb_cut (fun Γ => Γ = [.w v, .w d, .no, .no, .no] ∧ tyB d.ty "dict" = false) (ws_ifE (et_isi b_isinstance b_dict 0 5 (ek_s 1)) (fun h => ?_) (fun h => wb_nil ⟨rfl, h⟩)) ?_
  · obtain ⟨b, rfl⟩ := ty_dict h
    exact absurd hp (by cases j <;> exact fun z => z)
  rintro Γ ⟨rfl, h5⟩
  refine wb_cut (fun Γ => Γ = [.w v, .w d, .no, .no, .no] ∧ (tyB d.ty "list" && !tyB v.ty "list") = false) (ws_ifE (EW.t (ew_and (et_isi b_isinstance b_list 0 6 (ek_s 1)) fun _ => ew_and1 (et_not (et_isi b_isinstance b_list 0 6 (ek_s 0))))) (fun h => wb_one (ws_ret (we_of ev_bl ⟨_, [], rfl, rfl, post _ ⟨fun z => (by cases z), fun e => ?_⟩⟩))) (fun h => wb_nil ⟨rfl, h⟩)) ?_
  · rw [e] at h; simp at h
  rintro Γ ⟨rfl, h6⟩
  refine wb_cut (fun Γ => Γ = [.w v, .w d, .no, .no, .no] ∧ (tyB d.ty "tuple" && !tyB v.ty "tuple") = false) (ws_ifE (EW.t (ew_and (et_isi b_isinstance b_tuple 0 8 (ek_s 1)) fun _ => ew_and1 (et_not (et_isi b_isinstance b_tuple 0 8 (ek_s 0))))) (fun h => wb_one (ws_ret (we_of ev_bl ⟨_, [], rfl, rfl, post _ ⟨fun z => (by cases z), fun e => ?_⟩⟩))) (fun h => wb_nil ⟨rfl, h⟩)) ?_
  · rw [e] at h; simp at h
  rintro Γ ⟨rfl, h7⟩
  obtain ⟨vs, ds, q1, q2, q3, q4, q5, q6, q7, q8, q9⟩ := same_seq h1 h2 h3 h4 h5 h6 h7 hp
  cases j with
  | zero => exact absurd hp q9
  | succ i =>
  obtain ⟨hz, hpl⟩ := q8 i hp
  refine wb_cut (fun Γ => Γ = [.w v, .w d, .no, .no, .no] ∧ vs.length = ds.length) (ws_ifE (et_ne (ev_len b_len 9 (ek_s 0) q2 fun z e => absurd e (q4 z)) (ev_len b_len 9 (ek_s 1) q3 fun z e => absurd e (q5 z))) (fun h => wb_one (ws_ret (we_of ev_bl ⟨_, [], rfl, rfl, post _ ⟨fun z => (by cases z), fun e => ?_⟩⟩))) (fun h => wb_nil ⟨rfl, ?_⟩)) ?_
  · rw [q1.mp e] at h; simp at h
  · simp at h; omega
  rintro Γ ⟨rfl, hl⟩
  refine wb_cut (fun Γ => (∃ s, Γ = [.w v, .w d, .no, s, .no]) ∧ vs = ds) (ws_forR1 3 (fun i Γ => (∃ s, Γ = [.w v, .w d, .no, s, .no]) ∧ vs.take i = ds.take i) ds.length b_range 10 (we_of (ev_len b_len 9 (ek_s 1) q3 fun z e => absurd e (q5 z)) ⟨_, rfl, by simp, by omega, by omega, ⟨_, rfl⟩, rfl⟩) ?_ ?_) ?_
  · rintro k Γ hk ⟨⟨s, rfl⟩, ht⟩
    have e1 := atB (xs := vs) (i := k) (by omega)
    have e2 := atB hk
    refine wb_one (ws_if (wt_not (wt_val (we_call2v (c_rec i rfl) 7 (we_of (ev_ix (ek_s 0) (ev_var 3) (q6 k _ e1)) (we_of (ev_ix (ek_s 1) (ev_var 3) (q7 k _ e2)) ⟨_, _, rfl, hpl _ (List.getElem_mem hk), fun b hb => ⟨.bl b, rfl, b, rfl, fun z => ?_, fun z => ?_⟩⟩))))))
    · refine wb_one (ws_ret (we_of ev_bl ⟨_, [], rfl, rfl, post _ ⟨fun z => (by cases z), fun e => ?_⟩⟩))
      have e' := q1.mp e
      subst e'
      rw [hb.mpr rfl] at z; cases z
    · refine wb_nil ⟨⟨_, rfl⟩, take_succ ht ?_⟩
      rw [e1, e2, hb.mp (by simpa using z)]
  · rintro Γ ⟨hs, ht⟩
    refine ⟨hs, ?_⟩
    have h8 : vs.take vs.length = ds.take ds.length := by rw [hl]; exact ht
    simpa using h8
  rintro Γ ⟨⟨s, rfl⟩, e⟩
  exact wb_one (ws_ret (we_of ev_bl ⟨_, [], rfl, rfl, post _ ⟨fun _ => q1.mpr e, fun _ => rfl⟩⟩))


/-! _law_sets_ok -/
abbrev s_l_sets_ok : Stmt := top 14
abbrev n_l_sets_ok : Nm := { N := ["_law_names_here", "_law_allowed", "_law_kept", "_law_rows", "_law_k", "_law_one", "_law_j"], V := [0, 1, 2, 3, 4, 5, 6], as := [0, 1, 2, 3, 4, 5, 6], GN := ["list", "small_sets", "len", "_law_many", "_law_same", "range", "isinstance", "tuple", "str"], k := 7, oi := [], lc := [0, 1, 2, 3, 4, 5, 6], sc := none }
theorem sc_l_sets_ok : FnScope n_l_sets_ok.N ["_law_names_here", "_law_allowed"] (defScope s_l_sets_ok) := ⟨rfl, rfl, rfl, by decide +kernel, rfl, by decide +kernel, by decide +kernel⟩
theorem sb_l_sets_ok : ScOk (defScope s_l_sets_ok) n_l_sets_ok := scOk_of (by decide +kernel)
abbrev S_l_sets_ok : Sg := ST_lsets
theorem bd_l_sets_ok {X : Cx} {c : Cc} (b_list : Blt X "list" (.type "list")) (c_p_small_sets : CalGn X n_l_sets_ok.k "small_sets" ST_small) (b_len : Blt X "len" (.builtin "len")) (c_l_many : CalF X n_l_sets_ok.k "_law_many" S_l_many) (c_l_same : CalF X n_l_sets_ok.k "_law_same" S_l_same) (b_range : Blt X "range" (.type "range")) (b_isinstance : Blt X "isinstance" (.builtin "isinstance")) (b_tuple : Blt X "tuple" (.type "tuple")) (b_str : Blt X "str" (.type "str")) (hX : (X.xe = fun _ _ => False) ∧ X.ex = []) : ∀ ps Post, S_l_sets_ok ps Post → WB X n_l_sets_ok c (entry n_l_sets_ok.N ps) (defBody s_l_sets_ok) (fnD n_l_sets_ok.oi Post) := by
  rintro ps Post ⟨ns, k, rfl, hn, hk, nd, so, post⟩
  have rg := rows_good nd hn hk
  have hlen := smL_len nd hn hk
  show WB X n_l_sets_ok c [.w (.lst (ns.map DL.D.str)), .d (.int (k : Int)), .no, .no, .no, .no, .no] _ _
  refine wb_cut (fun Γ => Γ = [.w (.lst (ns.map DL.D.str)), .d (.int (k : Int)), .own (.lst (ns.map DL.D.str)), .no, .no, .no, .no]) (ws_setO 2 (wo_of (eo_list (x := .lst (ns.map DL.D.str)) (ds := ns.map DL.D.str) b_list 0 (ek_s 0)) rfl)) ?_
  rintro Γ rfl
  refine wb_cut (fun Γ => Γ = [.w (.lst (ns.map DL.D.str)), .d (.int (k : Int)), .own (.lst (ns.map DL.D.str)), .own (.lst ((smL ns k).map setsD)), .no, .no, .no]) (ws_setO 3 (wo_of (eo_listGen b_list 0 (wgn_call c_p_small_sets 1 (ea_cons (ek_s 0) (ea_cons (ek_d (ev_var 1)) ea_nil)) ⟨ns, k, rfl, hn, rfl⟩) (by rw [List.length_map]; omega) hX.2) rfl)) ?_
  rintro Γ rfl
  generalize smL ns k = rows at *
  refine wb_cons (ws_ifE (q := false) (EW.t (ew_or (p := false) (q := false) (et_is (et_ne (ev_len (x := .lst (rows.map setsD)) (m := rows.length) b_len 2 (ek_s 3) (by show some _ = _; rw [List.length_map])) (ev_call2 (z := .int (pasS ns.length k : Nat)) c_l_many 3 (ek_d (ev_len (x := .lst (ns.map DL.D.str)) (m := ns.length) b_len 2 (ek_s 0) (by show some _ = _; rw [List.length_map]))) (ek_d (ev_var 1)) fun _ z => ⟨ns.length, k, rfl, hn, hk, z⟩)) (by rw [rg.len]; simp)) fun _ => ew_or1 (et_not (et_val (p := true) (ev_call2 (z := .bl true) c_l_same 4 (ek_s 0) (ek_s 2) fun _ z => ⟨.lst (ns.map DL.D.str), .lst (ns.map DL.D.str), rfl, pl_strs (by omega) _, fun b hb => same_of rfl hb z⟩))))) (fun h => by cases h) (fun _ => wb_nil ?_))
  refine wb_cut (fun Γ => ∃ u4 u5 u6 : DL.Slot, Γ = [.w (.lst (ns.map DL.D.str)), .d (.int (k : Int)), .own (.lst (ns.map DL.D.str)), .own (.lst (rows.map setsD)), u4, u5, u6]) (ws_forR1 4 (fun _ Γ => ∃ u4 u5 u6 : DL.Slot, Γ = [.w (.lst (ns.map DL.D.str)), .d (.int (k : Int)), .own (.lst (ns.map DL.D.str)), .own (.lst (rows.map setsD)), u4, u5, u6]) rows.length b_range 5 (we_of (ev_len (x := .lst (rows.map setsD)) (m := rows.length) b_len 2 (ek_s 3) (by show some _ = _; rw [List.length_map])) ⟨_, rfl, by omega, by omega, by omega, _, _, _, rfl⟩) ?_ (fun _ h => h)) ?_
  · rintro i Γ hi ⟨u4, u5, u6, rfl⟩
    obtain ⟨one, ho⟩ : ∃ one, rows[i]? = some one := ⟨_, List.getElem?_eq_getElem hi⟩
    have om := List.mem_of_getElem? ho
    have of := rg.few one om
    show WB X n_l_sets_ok c [.w (.lst (ns.map DL.D.str)), .d (.int (k : Int)), .own (.lst (ns.map DL.D.str)), .own (.lst (rows.map setsD)), .d (.int (i : Int)), u5, u6] _ _
    refine wb_cut (fun Γ => Γ = [.w (.lst (ns.map DL.D.str)), .d (.int (k : Int)), .own (.lst (ns.map DL.D.str)), .own (.lst (rows.map setsD)), .d (.int (i : Int)), .d (setsD one), u6]) (ws_set 5 (we_of (ev_ix (x := .lst (rows.map setsD)) (z := setsD one) (i := (i : Int)) (ek_s 3) (ev_var 4) (at_lst (by rw [List.getElem?_map, ho]; rfl))) rfl)) ?_
    rintro Γ rfl
    --have el : ∀ {n2 : Nm} {X2 : Cx} {c2 : Cc} {Γ2 : SL} {e2 : Expr} {p2 p3 : Pos} (j : Nat), Blt X2 "len" (.builtin "len") → EV X2 n2 c2 Γ2 e2 (setsD one) → n2.GN[j]? = some ("len" : Str) → True := fun _ _ _ _ => trivial
    refine wb_cons (ws_ifE (q := false) (EW.t (ew_or (p := false) (q := false) (et_not (p := true) (et_is (et_isi (x := setsD one) b_isinstance b_tuple 6 7 (ek_s 5)) rfl)) fun _ => ew_or1 (et_is (et_gt (ev_len (x := setsD one) (m := one.length) b_len 2 (ek_s 5) (by show some _ = _; rw [List.length_map])) (ev_var 1)) (decide_eq_false (by omega))))) (fun h => by cases h) (fun _ => wb_nil ?_))
    refine wb_cut (fun Γ => ∃ u6 : DL.Slot, Γ = [.w (.lst (ns.map DL.D.str)), .d (.int (k : Int)), .own (.lst (ns.map DL.D.str)), .own (.lst (rows.map setsD)), .d (.int (i : Int)), .d (setsD one), u6]) (ws_forR1 6 (fun _ Γ => ∃ u6 : DL.Slot, Γ = [.w (.lst (ns.map DL.D.str)), .d (.int (k : Int)), .own (.lst (ns.map DL.D.str)), .own (.lst (rows.map setsD)), .d (.int (i : Int)), .d (setsD one), u6]) one.length b_range 5 (we_of (ev_len (x := setsD one) (m := one.length) b_len 2 (ek_s 5) (by show some _ = _; rw [List.length_map])) ⟨_, rfl, by omega, by omega, by omega, _, rfl⟩) ?_ (fun _ h => h)) ?_
    · rintro j Γ hj ⟨u6, rfl⟩
      obtain ⟨s, hs⟩ : ∃ s, one[j]? = some s := ⟨_, List.getElem?_eq_getElem hj⟩
      have sm := rg.mem one om s (List.mem_of_getElem? hs)
      have hsD : (one.map DL.D.str)[j]? = some (.str s) := by rw [List.getElem?_map, hs]; rfl
      show WB X n_l_sets_ok c [.w (.lst (ns.map DL.D.str)), .d (.int (k : Int)), .own (.lst (ns.map DL.D.str)), .own (.lst (rows.map setsD)), .d (.int (i : Int)), .d (setsD one), .d (.int (j : Int))] _ _
      refine wb_cons (ws_ifE (q := false) (EW.t (ew_or (p := false) (q := false) (et_not (et_is (et_isi (x := .str s) b_isinstance b_str 6 8 (ek_d (ev_ix (x := setsD one) (z := .str s) (i := (j : Int)) (ek_s 5) (ev_var 6) (at_tup hsD)))) rfl)) fun _ => ew_or1 (et_is (et_notInG (s := s) (ss := ns) (bb := false) (ek_d (ev_ix (x := setsD one) (z := .str s) (i := (j : Int)) (ek_s 5) (ev_var 6) (at_tup hsD))) (ek_s 0) rfl (so s sm) so rfl) (by simp [sm])))) (fun h => by cases h) (fun _ => wb_nil ?_))
      refine wb_one (ws_ifE (q := false) (EW.t ?_) (fun h => by cases h) (fun _ => wb_nil ⟨_, rfl⟩))
      by_cases hj0 : j = 0
      · exact ew_and (p := false) (q := false) (et_is (et_gt (ev_var 6) ev_int) (decide_eq_false (by omega))) (fun h => by cases h)
      · obtain ⟨m, rfl⟩ : ∃ m, j = m + 1 := ⟨j - 1, by omega⟩
        obtain ⟨r, hr⟩ : ∃ r, one[m]? = some r := ⟨_, List.getElem?_eq_getElem (by omega)⟩
        have hrD : (one.map DL.D.str)[m]? = some (.str r) := by rw [List.getElem?_map, hr]; rfl
        have lt := rg.asc one om m r s hr hs
        exact ew_and (p := true) (q := false) (et_is (et_gt (ev_var 6) ev_int) (decide_eq_true (by omega))) fun _ => ew_and1 (et_not (et_is (et_ltS (u := r) (v := s) (ek_d (ev_ix (x := setsD one) (z := .str r) (i := (m : Int)) (ek_s 5) (ev_is (ev_sub (ev_var 6) ev_int) (by show DL.D.int _ = DL.D.int _; congr 1; omega)) (at_tup hrD))) (ek_d (ev_ix (x := setsD one) (z := .str s) (i := ((m + 1 : Nat) : Int)) (ek_s 5) (ev_var 6) (at_tup hsD)))) lt))
    rintro Γ ⟨u6, rfl⟩
    refine wb_one (ws_ifE (q := false) (EW.t ?_) (fun h => by cases h) (fun _ => wb_nil ⟨_, _, _, rfl⟩))
    by_cases hi0 : i = 0
    · exact ew_and (p := false) (q := false) (et_is (et_gt (ev_var 4) ev_int) (decide_eq_false (by omega))) (fun h => by cases h)
    · obtain ⟨m, rfl⟩ : ∃ m, i = m + 1 := ⟨i - 1, by omega⟩
      obtain ⟨pr, hp⟩ : ∃ pr, rows[m]? = some pr := ⟨_, List.getElem?_eq_getElem (by omega)⟩
      have hpD : (rows.map setsD)[m]? = some (setsD pr) := by rw [List.getElem?_map, hp]; rfl
      have lt := rg.up m pr one hp ho
      exact ew_and (p := true) (q := false) (et_is (et_gt (ev_var 4) ev_int) (decide_eq_true (by omega))) fun _ => ew_and1 (et_not (et_is (et_ltNS (q := pr) (r := one) (ek_d (ev_tup (ea_cons (ek_d (ev_len (x := setsD pr) (m := pr.length) b_len 2 (ek_d (ev_ix (x := .lst (rows.map setsD)) (z := setsD pr) (i := (m : Int)) (ek_s 3) (ev_is (ev_sub (ev_var 4) ev_int) (by show DL.D.int _ = DL.D.int _; congr 1; omega)) (at_lst hpD))) (by show some _ = _; rw [List.length_map]))) (ea_cons (ek_d (ev_ix (x := .lst (rows.map setsD)) (z := setsD pr) (i := (m : Int)) (ek_s 3) (ev_is (ev_sub (ev_var 4) ev_int) (by show DL.D.int _ = DL.D.int _; congr 1; omega)) (at_lst hpD))) ea_nil)))) (ek_d (ev_tup (ea_cons (ek_d (ev_len (x := setsD one) (m := one.length) b_len 2 (ek_s 5) (by show some _ = _; rw [List.length_map]))) (ea_cons (ek_d (ev_var 5)) ea_nil))))) lt))
  rintro Γ ⟨u4, u5, u6, rfl⟩
  exact wb_one (ws_ret (we_of ev_bl ⟨_, [], rfl, rfl, post⟩))


/-! law -/
abbrev s_law : Stmt := top 15
abbrev n_law : Nm := { N := ["_law_script", "_law_store_here", "_law_names_here", "_law_others", "_law_allowed", "_law_k", "_law_seen", "_law_one", "_law_rest", "_law_name"], V := [0, 1, 2, 3, 4, 5, 6, 7, 8], as := [0, 1, 2, 3, 4, 5, 6, 7, 8], GN := ["_law_store", "_law_shuffled", "_law_names", "_law_size", "range", "_law_sets_ok", "_law_take", "len", "small_sets", "_law_same", "list", "sorted"], k := 8, oi := [], lc := [0, 1, 2, 3, 4, 5, 6, 8], sc := some (defScope s_law) }
abbrev n_law_c1 : Nm := { N := ["_law_script", "_law_store_here", "_law_names_here", "_law_others", "_law_allowed", "_law_k", "_law_seen", "_law_one", "_law_rest", "_law_name"], V := [7, 9], as := [9], GN := [], k := 8, oi := [1] }
abbrev n_law_c2 : Nm := { N := ["_law_script", "_law_store_here", "_law_names_here", "_law_others", "_law_allowed", "_law_k", "_law_seen", "_law_one", "_law_rest", "_law_name"], V := [9], as := [9], GN := [], k := 8, oi := [1] }
theorem sc_law : FnScope n_law.N ["_law_script"] (defScope s_law) := ⟨rfl, rfl, rfl, by decide +kernel, rfl, by decide +kernel, by decide +kernel⟩
theorem sb_law : ScOk (defScope s_law) n_law := scOk_of (by decide +kernel)
def S_law : Sg := fun ps Post => ∃ ns : List Int, ps = [.sc ns] ∧ ns.length ≤ 63 ∧ Post (.d (.bl true)) []
theorem bd_law {X : Cx} {c : Cc} (c_l_store : CalF X n_law.k "_law_store" S_l_store) (c_l_shuffled : CalF X n_law.k "_law_shuffled" S_l_shuffled) (c_l_names : CalF X n_law.k "_law_names" S_l_names) (c_l_size : CalF X n_law.k "_law_size" S_l_size) (b_range : Blt X "range" (.type "range")) (c_l_sets_ok : CalF X n_law.k "_law_sets_ok" S_l_sets_ok) (c_l_take : CalF X n_law.k "_law_take" S_l_take) (b_len : Blt X "len" (.builtin "len")) (c_p_small_sets : CalGn X n_law.k "small_sets" ST_small) (c_l_same : CalF X n_law.k "_law_same" S_l_same) (b_list : Blt X "list" (.type "list")) (b_sorted : Blt X "sorted" (.builtin "sorted")) (hX : (X.xe = fun _ _ => False) ∧ X.ex = []) : ∀ ps Post, S_law ps Post → WB X n_law c (entry n_law.N ps) (defBody s_law) (fnD n_law.oi Post) := by
  rintro ps Post ⟨sc, rfl, hz, post⟩
  show WB X n_law c [.sc sc, .no, .no, .no, .no, .no, .no, .no, .no, .no] _ _
  refine wb_cons (ws_setO 1 (wo_callE c_l_store 0 (ea_cons (ek_s 0) ea_nil) ⟨sc, rfl, hz, .sto, rfl, ?_⟩))
  show WB X n_law c [.sc sc, .own .sto, .no, .no, .no, .no, .no, .no, .no, .no] _ _
  refine wb_cut (fun Γ => ∃ ns : List Str, Γ = [.sc sc, .own .sto, .own (.lst (ns.map DL.D.str)), .no, .no, .no, .no, .no, .no, .no] ∧ ns.length ≤ 6 ∧ ns.Nodup ∧ ∀ s ∈ ns, PyData.strOk s = true) (ws_setO 2 (wo_sto c_l_shuffled 1 1 (wa_cons (wk_v (we_frz (wo_sto c_l_names 2 1 (wa_cons (wk_e (we_sto c_l_size 3 1 (sto_ea (ea_cons (ek_d ev_int) (ea_cons (ek_d ev_int) ea_nil)) fun Q q => ⟨0, 6, rfl, by decide, bt_of (by decide) (by decide), bt_of (by decide) (by decide), fun i h1 h2 => q _ ⟨_, rfl, ?_⟩⟩)))))))))) ?_
  · obtain ⟨m, rfl⟩ : ∃ m : Nat, i = (m : Int) := ⟨i.toNat, (Int.toNat_of_nonneg h1).symm⟩
    refine wa_nil ⟨rfl, _, rfl, rfl, by simp [readIx], fun Q q => ⟨m, rfl, by omega, fun ns hn nd so => q _ ⟨_, rfl, _, rfl, wa_nil ⟨rfl, _, rfl, rfl, by simp [readIx], fun Q q => ⟨ns.map DL.D.str, rfl, by rw [List.length_map, hn.len]; omega, fun ys hp => ?_⟩⟩⟩⟩⟩
    obtain ⟨rs, rfl, pr⟩ := perm_str hp
    exact q _ ⟨_, rfl, rs, rfl, by rw [pr.length_eq, hn.len]; omega, pr.nodup_iff.mpr nd, fun s hs => (so s (pr.mem_iff.mp hs)).2⟩
  rintro Γ ⟨ns, rfl, hl, nd, so⟩
  refine wb_cut (fun Γ => ∃ os : List Str, Γ = [.sc sc, .own .sto, .own (.lst (ns.map DL.D.str)), .own (.lst (os.map DL.D.str)), .no, .no, .no, .no, .no, .no] ∧ os.length ≤ 6 ∧ os.Nodup ∧ ∀ s ∈ os, PyData.strOk s = true) (ws_setO 3 (wo_sto c_l_shuffled 1 1 (wa_cons (wk_v (we_frz (wo_sto c_l_names 2 1 (wa_cons (wk_e (we_sto c_l_size 3 1 (sto_ea (ea_cons (ek_d ev_int) (ea_cons (ek_d ev_int) ea_nil)) fun Q q => ⟨0, 6, rfl, by decide, bt_of (by decide) (by decide), bt_of (by decide) (by decide), fun i h1 h2 => q _ ⟨_, rfl, ?_⟩⟩)))))))))) ?_
  · obtain ⟨m, rfl⟩ : ∃ m : Nat, i = (m : Int) := ⟨i.toNat, (Int.toNat_of_nonneg h1).symm⟩
    refine wa_nil ⟨rfl, _, rfl, rfl, by simp [readIx], fun Q q => ⟨m, rfl, by omega, fun ns hn nd so => q _ ⟨_, rfl, _, rfl, wa_nil ⟨rfl, _, rfl, rfl, by simp [readIx], fun Q q => ⟨ns.map DL.D.str, rfl, by rw [List.length_map, hn.len]; omega, fun ys hp => ?_⟩⟩⟩⟩⟩
    obtain ⟨rs, rfl, pr⟩ := perm_str hp
    exact q _ ⟨_, rfl, rs, rfl, by rw [pr.length_eq, hn.len]; omega, pr.nodup_iff.mpr nd, fun s hs => (so s (pr.mem_iff.mp hs)).2⟩
  rintro Γ ⟨os, rfl, ol, od, oo⟩
  refine wb_cut (fun Γ => ∃ u4 : DL.Slot, Γ = [.sc sc, .own .sto, .own (.lst (ns.map DL.D.str)), .own (.lst (os.map DL.D.str)), u4, .no, .no, .no, .no, .no]) (ws_forR1 4 (fun _ Γ => ∃ u4 : DL.Slot, Γ = [.sc sc, .own .sto, .own (.lst (ns.map DL.D.str)), .own (.lst (os.map DL.D.str)), u4, .no, .no, .no, .no, .no]) 7 b_range 4 (we_of ev_int ⟨_, rfl, rfl, by omega, by omega, _, rfl⟩) ?_ (fun _ h => h)) ?_
  · rintro i Γ hi ⟨u4, rfl⟩
    show WB X n_law c [.sc sc, .own .sto, .own (.lst (ns.map DL.D.str)), .own (.lst (os.map DL.D.str)), .d (.int (i : Int)), .no, .no, .no, .no, .no] _ _
    exact wb_one (ws_ifE (q := false) (et_not (et_val (p := true) (ev_call2 (z := .bl true) c_l_sets_ok 5 (ek_s 2) (ek_d (ev_var 4)) fun _ z => ⟨ns, i, rfl, hl, by omega, nd, so, z⟩))) (fun h => by cases h) (fun _ => wb_nil ⟨_, rfl⟩))
  rintro Γ ⟨u4, rfl⟩
  refine wb_cut (fun Γ => ∃ k : Nat, k < 7 ∧ Γ = [.sc sc, .own .sto, .own (.lst (ns.map DL.D.str)), .own (.lst (os.map DL.D.str)), .d (.int (k : Int)), .no, .no, .no, .no, .no]) (ws_set 4 (we_takeI (m := 7) c_l_take 6 1 fun k hk => ⟨k, hk, rfl⟩)) ?_
  rintro Γ ⟨k, hk, rfl⟩
  refine wb_cons (ws_ifE (q := false) (EW.t (ew_or (p := false) (q := false) (et_not (et_val (p := true) (ev_call2 (z := .bl true) c_l_sets_ok 5 (ek_s 3) (ek_d (ev_var 4)) fun _ z => ⟨os, k, rfl, ol, by omega, od, oo, z⟩))) fun _ => ew_or1 (et_not (et_val (p := true) (ev_call2 (z := .bl true) c_l_sets_ok 5 (ek_v (ev_frz (eo_rev (xs := ns.map DL.D.str) (ek_s 2)))) (ek_d (ev_var 4)) fun _ z => ⟨ns.reverse, k, by rw [List.map_reverse], by rw [List.length_reverse]; omega, by omega, (List.reverse_perm ns).nodup_iff.mpr nd, fun s hs => so s (List.mem_reverse.mp hs), z⟩))))) (fun h => by cases h) (fun _ => wb_nil ?_))
  refine wb_cut (fun Γ => ∃ (os : List Str) (u5 : DL.Slot), Γ = [.sc sc, .own .sto, .own (.lst (ns.map DL.D.str)), .own (.lst (os.map DL.D.str)), .d (.int (k : Int)), u5, .no, .no, .no, .no]) (ws_forR1d 5 (fun _ Γ => ∃ (os : List Str) (u5 : DL.Slot), Γ = [.sc sc, .own .sto, .own (.lst (ns.map DL.D.str)), .own (.lst (os.map DL.D.str)), .d (.int (k : Int)), u5, .no, .no, .no, .no] ∧ os.length ≤ 6 ∧ os.Nodup ∧ ∀ s ∈ os, PyData.strOk s = true) (fun m => m ≤ 6) b_range 4 (we_sto c_l_size 3 1 (sto_ea (ea_cons (ek_d ev_int) (ea_cons (ek_d ev_int) ea_nil)) fun Q q => ⟨0, 6, rfl, by decide, bt_of (by decide) (by decide), bt_of (by decide) (by decide), fun i h1 h2 => q _ ⟨_, rfl, i.toNat, by rw [Int.toNat_of_nonneg (by omega)], by omega, by omega, os, .no, rfl, ol, od, oo⟩⟩)) (fun m hm i Γ hi => ?_) (fun m Γ hm => ?_)) ?_
  · clear od oo ol os
    rintro ⟨os, u5, rfl, ol, od, oo⟩
    show WB X n_law c [.sc sc, .own .sto, .own (.lst (ns.map DL.D.str)), .own (.lst (os.map DL.D.str)), .d (.int (k : Int)), .d (.int (i : Int)), .no, .no, .no, .no] _ _
    refine wb_cut (fun Γ => ∃ os : List Str, Γ = [.sc sc, .own .sto, .own (.lst (ns.map DL.D.str)), .own (.lst (os.map DL.D.str)), .d (.int (k : Int)), .d (.int (i : Int)), .no, .no, .no, .no] ∧ os.length ≤ 6 ∧ os.Nodup ∧ ∀ s ∈ os, PyData.strOk s = true) (ws_ifE (et_gt (ev_len (x := .lst (os.map DL.D.str)) (m := os.length) b_len 7 (ek_s 3) (by show some _ = _; rw [List.length_map])) ev_int) (fun h => ?_) (fun _ => wb_nil ⟨os, rfl, ol, od, oo⟩)) ?_
    · have hpos : 0 < os.length := by have := of_decide_eq_true h; omega
      refine wb_one (ws_expr (we_popAt 3 (we_take c_l_take 6 1 (we_of (ev_len (x := .lst (os.map DL.D.str)) (m := os.length) b_len 7 (ek_s 3) (by show some _ = _; rw [List.length_map])) ⟨rfl, os.length, rfl, hpos, bt64 (by omega), fun q hq => ?_⟩))))
      obtain ⟨x, hx⟩ : ∃ x, os[q]? = some x := ⟨_, List.getElem?_eq_getElem hq⟩
      refine ⟨q, .str x, os.map DL.D.str, rfl, by omega, rfl, by rw [List.getElem?_map, hx]; rfl, os.eraseIdx q, ?_, ?_, od.eraseIdx q, fun s hs => oo s (List.mem_of_mem_eraseIdx hs)⟩
      · rw [erase_map]; rfl
      · rw [List.length_eraseIdx]; split <;> omega
    clear od oo ol os
    rintro Γ ⟨os, rfl, ol, od, oo⟩
    exact wb_one (ws_ifE (q := false) (et_not (et_val (p := true) (ev_call2 (z := .bl true) c_l_sets_ok 5 (ek_s 3) (ek_d (ev_var 4)) fun _ z => ⟨os, k, rfl, ol, by omega, od, oo, z⟩))) (fun h => by cases h) (fun _ => wb_nil ⟨os, _, rfl, ol, od, oo⟩))
  · rintro ⟨os, u5, rfl, _⟩
    exact ⟨os, u5, rfl⟩
  clear od oo ol os
  rintro Γ ⟨os, u5, rfl⟩
  refine wb_any 5 ?_
  have cap2 : (smL ns 2).length ≤ 64 := smL_len nd hl (by omega)
  refine wb_cut (fun Γ => Γ = [.sc sc, .own .sto, .own (.lst (ns.map DL.D.str)), .own (.lst (os.map DL.D.str)), .d (.int (k : Int)), .any, .own (.lst []), .no, .no, .no]) (ws_setO 6 (wo_of (eo_lst ea_nil) rfl)) ?_
  rintro Γ rfl
  refine wb_cut (fun Γ => ∃ u7 u8 : DL.Slot, Γ = [.sc sc, .own .sto, .own (.lst (ns.map DL.D.str)), .own (.lst (os.map DL.D.str)), .d (.int (k : Int)), .any, .own (.lst ((smL ns 2).map setsD)), u7, u8, .no]) (ws_forGen 7 (fun i Γ => ∃ u7 u8 : DL.Slot, Γ = [.sc sc, .own .sto, .own (.lst (ns.map DL.D.str)), .own (.lst (os.map DL.D.str)), .d (.int (k : Int)), .any, .own (.lst (((smL ns 2).map setsD).take i)), u7, u8, .no]) ((smL ns 2).map setsD) (wgn_call c_p_small_sets 8 (ea_cons (ek_s 2) (ea_cons (ek_d ev_int) ea_nil)) ⟨ns, 2, rfl, hl, rfl⟩) ⟨_, _, rfl⟩ (fun i Γ d hd => ?_) (fun Γ => ?_) hX.1 hX.2) ?_
  · rintro ⟨u7, u8, rfl⟩
    have hd0 := hd
    rw [List.getElem?_map] at hd
    obtain ⟨one, ho, rfl⟩ := Option.map_eq_some_iff.mp hd
    have hlt := (List.getElem?_eq_some_iff.mp ho).1
    have om : ∀ s ∈ one, PyData.strOk s = true := fun s hs => so s (srt_mem.mp ((grpL_mem (List.mem_of_getElem? ho)).2 s hs))
    show WB X n_law c [.sc sc, .own .sto, .own (.lst (ns.map DL.D.str)), .own (.lst (os.map DL.D.str)), .d (.int (k : Int)), .any, .own (.lst (((smL ns 2).map setsD).take i)), .d (setsD one), u8, .no] _ _
    refine wb_any 8 ?_
    refine wb_cut (fun Γ => Γ = [.sc sc, .own .sto, .own (.lst (ns.map DL.D.str)), .own (.lst (os.map DL.D.str)), .d (.int (k : Int)), .any, .own (.lst (((smL ns 2).map setsD).take i)), .d (setsD one), .own (.lst ((ns.filter fun s => !one.contains s).map DL.D.str)), .no]) (ws_lcL (n' := n_law_c1) (ds := ns.map DL.D.str) 9 8 (fun m acc => acc = ((ns.take m).filter fun s => !one.contains s).map DL.D.str) (fun _ d b => ∀ s, d = .str s → b = !one.contains s) ⟨(fun c hn => lc_bk hn rfl (by decide +kernel)), by decide +kernel, rfl, rfl, rfl, rfl, rfl, rfl, rfl, (by intro o h; cases h), rfl⟩ (ek_s 2) rfl (by rw [List.length_map]; omega) rfl (fun X' c' hb m d hd => ?_) (fun X' c' hb m d acc hd ht ha hl => ?_) (fun m d acc hd ht ha => ?_) (fun out ho => ?_)) ?_
    · rw [List.getElem?_map] at hd
      obtain ⟨s, h1, rfl⟩ := Option.map_eq_some_iff.mp hd
      exact wt_of (et_notInG (s := s) (ss := one) (bb := true) (ek_d (ev_var 9)) (ek_s 7) rfl (so s (List.mem_of_getElem? h1)) om rfl) ⟨rfl, fun s' e => by cases e; rfl⟩
    · rw [List.getElem?_map] at hd
      obtain ⟨s, h1, rfl⟩ := Option.map_eq_some_iff.mp hd
      refine we_of (ev_var 9) ⟨rfl, ?_⟩
      have q := (ht s rfl).symm
      rw [ha, List.take_add_one, h1, List.filter_append, List.map_append]
      simp only [Option.toList, List.filter, q, List.map]
    · rw [List.getElem?_map] at hd
      obtain ⟨s, h1, rfl⟩ := Option.map_eq_some_iff.mp hd
      have q := (ht s rfl).symm
      rw [ha, List.take_add_one, h1, List.filter_append]
      simp only [Option.toList, List.filter, q, List.append_nil]
    · rw [List.length_map, List.take_length] at ho
      rw [ho]; rfl
    rintro Γ rfl
    have rl : (ns.filter fun s => !one.contains s).length ≤ 6 := Nat.le_trans (List.length_filter_le _ _) hl
    generalize (ns.filter fun s => !one.contains s) = rs at *
    refine wb_cons (ws_ifE (q := false) (et_not (et_val (p := true) (ev_call2 (z := .bl true) c_l_same 9 (ek_v (x := .lst ((smL rs 1).map setsD)) (ev_frz (eo_listGen b_list 10 (wgn_call c_p_small_sets 8 (ea_cons (ek_s 8) (ea_cons (ek_d ev_int) ea_nil)) ⟨rs, 1, rfl, rl, rfl⟩) ?_ hX.2))) (ek_v (x := .lst ([setsD []] ++ (srtS rs).map fun s => setsD [s])) (ev_frz ?_)) fun _ z => ⟨.lst ((smL rs 1).map setsD), .lst ([setsD []] ++ (srtS rs).map fun s => setsD [s]), rfl, ?_, fun b hb => same_of ?_ hb z⟩))) (fun h => by cases h) (fun _ => wb_nil ?_))
    · rw [smL_1 rl, List.length_map, List.length_cons, List.length_map, srt_len]; omega
    · refine eo_catE (ev_frz (eo_lst (ea_cons (ek_d (ev_tup ea_nil)) ea_nil))) (ev_frz ?_) (by rw [List.length_map, srt_len]; show 1 + _ ≤ _; omega)
      refine wo_lcL (n' := n_law_c2) (ds := (srtS rs).map DL.D.str) 9 (fun m acc => acc = ((srtS rs).take m).map fun s => setsD [s]) (fun _ _ b => b = true) ⟨(fun c hn => lc_bk hn rfl (by decide +kernel)), by decide +kernel, rfl, rfl, rfl, rfl, rfl, rfl, rfl, (by intro o h; cases h), rfl⟩ (ek_d (ev_frz (wo_blt b_sorted dc_sortedS 11 (wa_cons (wk_ek (ek_s 8) (wa_nil ⟨_, rfl, rs, rfl, by omega, fun ys h1 h2 => ⟨by rw [srt_eq h1 h2], rfl⟩⟩)))))) rfl (by rw [List.length_map, srt_len]; omega) rfl (fun X' c' hb m d hd => ⟨rfl, rfl⟩) (fun X' c' hb m d acc hd ht ha hl => ?_) (fun m d acc hd ht ha => by cases ht) (fun out ho => ⟨by rw [ho, List.length_map, List.take_length], rfl⟩)
      rw [List.getElem?_map] at hd
      obtain ⟨s, h1, rfl⟩ := Option.map_eq_some_iff.mp hd
      refine we_of (ev_tup (ea_cons (ek_d (ev_var 9)) ea_nil)) ⟨rfl, ?_⟩
      rw [ha, List.take_add_one, h1, List.map_append]; rfl
    · exact pl_sets _ (by rw [List.length_append, List.length_map, srt_len]; show 1 + _ ≤ _; omega) (fun d hd => by
        rcases List.mem_cons.mp hd with rfl | hd
        · exact ⟨[], rfl, by simp⟩
        · obtain ⟨s, _, rfl⟩ := List.mem_map.mp hd
          exact ⟨[s], rfl, by simp⟩)
    · rw [smL_1 rl, List.map_cons, List.map_map]; rfl
    refine wb_one (ws_append 6 (we_of (ev_var 7) ⟨_, rfl, by rw [List.length_take, List.length_map]; omega, .d (setsD one), .own (.lst (rs.map DL.D.str)), ?_⟩))
    rw [List.take_add_one, hd0]; rfl
  · rintro ⟨u7, u8, rfl⟩
    exact ⟨u7, u8, by rw [List.take_length]⟩
  rintro Γ ⟨u7, u8, rfl⟩
  refine wb_one (ws_ret (we_of (ev_call2 (z := .bl true) c_l_same 9 (ek_s 6) (ek_v (x := .lst ((smL ns 2).map setsD)) (ev_frz (eo_listGen b_list 10 (wgn_call c_p_small_sets 8 (ea_cons (ek_s 2) (ea_cons (ek_d ev_int) ea_nil)) ⟨ns, 2, rfl, hl, rfl⟩) (by rw [List.length_map]; omega) hX.2))) fun _ z => ⟨.lst ((smL ns 2).map setsD), .lst ((smL ns 2).map setsD), rfl, pl_sets _ (by rw [List.length_map]; omega) (fun d hd => by
    obtain ⟨l, h1, rfl⟩ := List.mem_map.mp hd
    exact ⟨l, rfl, Nat.le_trans (grpL_mem h1).1 (by omega)⟩), fun b hb => same_of rfl hb z⟩) ⟨_, [], rfl, rfl, post⟩))


/-! ### what the top has written -/
structure Wd (P : Program) (K : PySem.W.Frag) (mg : Str → Option Value) where
  d_l_store : DefAt K mg "_law_store" s_l_store ["_law_script"]
  d_l_feed : DefAt K mg "_law_feed" s_l_feed ["_law_store_here"]
  d_l_mixed : DefAt K mg "_law_mixed" s_l_mixed ["_law_store_here"]
  d_l_take : DefAt K mg "_law_take" s_l_take ["_law_store_here", "_law_many_here"]
  d_l_shuffled : DefAt K mg "_law_shuffled" s_l_shuffled ["_law_store_here", "_law_things"]
  d_l_pick : DefAt K mg "_law_pick" s_l_pick ["_law_store_here", "_law_things"]
  d_l_names : DefAt K mg "_law_names" s_l_names ["_law_store_here", "_law_many_here"]
  d_l_size : DefAt K mg "_law_size" s_l_size ["_law_store_here", "_law_least", "_law_top"]
  d_p_small_sets : DefAt K mg "small_sets" s_p_small_sets ["names", "most"]
  d_l_many : DefAt K mg "_law_many" s_l_many ["_law_size_here", "_law_allowed"]
  d_l_is_int : DefAt K mg "_law_is_int" s_l_is_int ["_law_value"]
  d_l_same : DefAt K mg "_law_same" s_l_same ["_law_value", "_law_due"]
  d_l_sets_ok : DefAt K mg "_law_sets_ok" s_l_sets_ok ["_law_names_here", "_law_allowed"]
  d_law : DefAt K mg "law" s_law ["_law_script"]
  b_list : mg "list" = none
  b_int : mg "int" = none
  b_abs : mg "abs" = none
  b_max : mg "max" = none
  b_len : mg "len" = none
  b_range : mg "range" = none
  b_str : mg "str" = none
  b_sorted : mg "sorted" = none
  b_min : mg "min" = none
  b_sum : mg "sum" = none
  b_isinstance : mg "isinstance" = none
  b_bool : mg "bool" = none
  b_dict : mg "dict" = none
  b_tuple : mg "tuple" = none
section
variable {P : Program} {w : World} {K : PySem.W.Frag} {mg : Str → Option Value} {base : Heap}
theorem ok_l_store (T : Wd P K mg) : FnOk P w K mg base CX0 1 T.d_l_store.a T.d_l_store.fd ["_law_script"] (spOf K S_l_store) :=
  fn_ok T.d_l_store.F sc_l_store sb_l_store (.inl rfl) (by rintro ps Post ⟨ns, rfl, _⟩ <;> exact ⟨rfl, rfl⟩) (fun X c e => by obtain ⟨rfl, rfl, rfl, rfl, rfl, rm⟩ := e; exact bd_l_store ⟨T.b_list, by decide +kernel⟩)
theorem ok_l_feed (T : Wd P K mg) : FnOk P w K mg base CX0 1 T.d_l_feed.a T.d_l_feed.fd ["_law_store_here"] (spOf K S_l_feed) :=
  fn_ok T.d_l_feed.F sc_l_feed sb_l_feed (.inl rfl) (by rintro ps Post ⟨ns, pl, great, st, left, cnt, rfl, _⟩ <;> exact ⟨rfl, rfl⟩) (fun X c e => by obtain ⟨rfl, rfl, rfl, rfl, rfl, rm⟩ := e; exact bd_l_feed ⟨T.b_int, by decide +kernel⟩ ⟨T.b_abs, by decide +kernel⟩)
theorem ok_l_mixed (T : Wd P K mg) : FnOk P w K mg base CX0 1 T.d_l_mixed.a T.d_l_mixed.fd ["_law_store_here"] (spOf K S_l_mixed) :=
  fn_ok T.d_l_mixed.F sc_l_mixed sb_l_mixed (.inl rfl) (by rintro ps Post ⟨ns, place, great, st, left, cnt, rfl, _⟩ <;> exact ⟨rfl, rfl⟩) (fun X c e => by obtain ⟨rfl, rfl, rfl, rfl, rfl, rm⟩ := e; exact bd_l_mixed ⟨T.b_int, by decide +kernel⟩)
theorem ok_l_take (T : Wd P K mg) : FnOk P w K mg base CX0 2 T.d_l_take.a T.d_l_take.fd ["_law_store_here", "_law_many_here"] (spOf K S_l_take) :=
  fn_ok T.d_l_take.F sc_l_take sb_l_take (.inl rfl) (by rintro ps Post ⟨many, rfl, _⟩ <;> exact ⟨rfl, rfl⟩) (fun X c e => by obtain ⟨rfl, rfl, rfl, rfl, rfl, rm⟩ := e; exact bd_l_take ⟨T.b_max, by decide +kernel⟩ ⟨T.b_len, by decide +kernel⟩ (T.d_l_feed.cal (ok_l_feed T) (by decide) rm) ⟨T.b_int, by decide +kernel⟩ (T.d_l_mixed.cal (ok_l_mixed T) (by decide) rm))
theorem ok_l_shuffled (T : Wd P K mg) : FnOk P w K mg base CX0 3 T.d_l_shuffled.a T.d_l_shuffled.fd ["_law_store_here", "_law_things"] (spOf K S_l_shuffled) :=
  fn_ok T.d_l_shuffled.F sc_l_shuffled sb_l_shuffled (.inl rfl) (by rintro ps Post ⟨xs, rfl, _⟩ <;> exact ⟨rfl, rfl⟩) (fun X c e => by obtain ⟨rfl, rfl, rfl, rfl, rfl, rm⟩ := e; exact bd_l_shuffled ⟨T.b_list, by decide +kernel⟩ ⟨T.b_range, by decide +kernel⟩ ⟨T.b_len, by decide +kernel⟩ (T.d_l_take.cal (ok_l_take T) (by decide) rm))
theorem ok_l_pick (T : Wd P K mg) : FnOk P w K mg base CX0 3 T.d_l_pick.a T.d_l_pick.fd ["_law_store_here", "_law_things"] (spOf K S_l_pick) :=
  fn_ok T.d_l_pick.F sc_l_pick sb_l_pick (.inl rfl) (by rintro ps Post ⟨x, m, rfl, _⟩ <;> exact ⟨rfl, rfl⟩) (fun X c e => by obtain ⟨rfl, rfl, rfl, rfl, rfl, rm⟩ := e; exact bd_l_pick (T.d_l_take.cal (ok_l_take T) (by decide) rm) ⟨T.b_len, by decide +kernel⟩)
theorem ok_l_names (T : Wd P K mg) : FnOk P w K mg base CX0 4 T.d_l_names.a T.d_l_names.fd ["_law_store_here", "_law_many_here"] (spOf K S_l_names) :=
  fn_ok T.d_l_names.F sc_l_names sb_l_names (.inl rfl) (by rintro ps Post ⟨m, rfl, _⟩ <;> exact ⟨rfl, rfl⟩) (fun X c e => by obtain ⟨rfl, rfl, rfl, rfl, rfl, rm⟩ := e; exact bd_l_names ⟨T.b_range, by decide +kernel⟩ (T.d_l_take.cal (ok_l_take T) (by decide) rm) ⟨T.b_int, by decide +kernel⟩ (T.d_l_pick.cal (ok_l_pick T) (by decide) rm) ⟨T.b_len, by decide +kernel⟩ ⟨T.b_str, by decide +kernel⟩)
theorem ok_l_size (T : Wd P K mg) : FnOk P w K mg base CX0 3 T.d_l_size.a T.d_l_size.fd ["_law_store_here", "_law_least", "_law_top"] (spOf K S_l_size) :=
  fn_ok T.d_l_size.F sc_l_size sb_l_size (.inl rfl) (by rintro ps Post ⟨lo, hi, rfl, _⟩ <;> exact ⟨rfl, rfl⟩) (fun X c e => by obtain ⟨rfl, rfl, rfl, rfl, rfl, rm⟩ := e; exact bd_l_size (T.d_l_take.cal (ok_l_take T) (by decide) rm))
theorem ok_p_small_sets (T : Wd P K mg) : GenFn P w K base mg 1 T.d_p_small_sets.a T.d_p_small_sets.fd ["names", "most"] ST_small :=
  gfn_ok T.d_p_small_sets.F sc_p_small_sets sb_p_small_sets (.inr rfl) rfl (by rintro ps ds ⟨ns, k, rfl, _⟩; exact ⟨rfl, fun p hp => by simp only [List.mem_cons, List.not_mem_nil, or_false] at hp; rcases hp with rfl | rfl | rfl | rfl <;> rfl⟩) (fun X c e hx N S => by obtain ⟨rfl, rfl, rfl, rfl, rfl, rm⟩ := e; exact bd_p_small_sets hx N S ⟨T.b_sorted, by decide +kernel⟩ ⟨T.b_range, by decide +kernel⟩ ⟨T.b_min, by decide +kernel⟩ ⟨T.b_len, by decide +kernel⟩)
theorem ok_l_many (T : Wd P K mg) : FnOk P w K mg base CX0 1 T.d_l_many.a T.d_l_many.fd ["_law_size_here", "_law_allowed"] (spOf K S_l_many) :=
  fn_ok T.d_l_many.F sc_l_many sb_l_many (.inr rfl) (by rintro ps Post ⟨n, k, rfl, _⟩ <;> exact ⟨rfl, rfl⟩) (fun X c e => by obtain ⟨rfl, rfl, rfl, rfl, rfl, rm⟩ := e; exact bd_l_many ⟨T.b_range, by decide +kernel⟩ ⟨T.b_len, by decide +kernel⟩ ⟨T.b_sum, by decide +kernel⟩)
theorem ok_l_is_int (T : Wd P K mg) : FnOk P w K mg base CX0 1 T.d_l_is_int.a T.d_l_is_int.fd ["_law_value"] (spOf K S_l_is_int) :=
  fn_ok T.d_l_is_int.F sc_l_is_int sb_l_is_int (.inl rfl) (by rintro ps Post ⟨x, rfl, _⟩ <;> exact ⟨rfl, rfl⟩) (fun X c e => by obtain ⟨rfl, rfl, rfl, rfl, rfl, rm⟩ := e; exact bd_l_is_int ⟨T.b_isinstance, by decide +kernel⟩ ⟨T.b_int, by decide +kernel⟩ ⟨T.b_bool, by decide +kernel⟩)
theorem okr_l_same (T : Wd P K mg) : ∀ j, FnOk P w K mg base CX0 (1 + j + 1) T.d_l_same.a T.d_l_same.fd ["_law_value", "_law_due"] (spOf K (ST_same j))
  | 0 => by
    exact fn_ok (n := n_l_same (0)) T.d_l_same.F sc_l_same (sb_l_same.k _) (.inr rfl) (by rintro ps Post ⟨v, d, rfl, _⟩; exact ⟨rfl, rfl⟩) (fun X c e => by obtain ⟨rfl, rfl, rfl, rfl, rfl, rm⟩ := e; exact bd_l_same (0) ⟨T.b_isinstance, by decide +kernel⟩ ⟨T.b_bool, by decide +kernel⟩ ⟨T.b_int, by decide +kernel⟩ (T.d_l_is_int.cal (ok_l_is_int T) (Nat.le_trans (by decide) (Nat.le_add_right 1 _)) rm) ⟨T.b_str, by decide +kernel⟩ ⟨T.b_dict, by decide +kernel⟩ ⟨T.b_list, by decide +kernel⟩ ⟨T.b_tuple, by decide +kernel⟩ ⟨T.b_len, by decide +kernel⟩ ⟨T.b_range, by decide +kernel⟩ (fun i e => by cases e))
  | j + 1 => by
    have rc := okr_l_same T j
    exact fn_ok (n := n_l_same (j + 1)) T.d_l_same.F sc_l_same (sb_l_same.k _) (.inr rfl) (by rintro ps Post ⟨v, d, rfl, _⟩; exact ⟨rfl, rfl⟩) (fun X c e => by obtain ⟨rfl, rfl, rfl, rfl, rfl, rm⟩ := e; exact bd_l_same (j + 1) ⟨T.b_isinstance, by decide +kernel⟩ ⟨T.b_bool, by decide +kernel⟩ ⟨T.b_int, by decide +kernel⟩ (T.d_l_is_int.cal (ok_l_is_int T) (Nat.le_trans (by decide) (Nat.le_add_right 1 _)) rm) ⟨T.b_str, by decide +kernel⟩ ⟨T.b_dict, by decide +kernel⟩ ⟨T.b_list, by decide +kernel⟩ ⟨T.b_tuple, by decide +kernel⟩ ⟨T.b_len, by decide +kernel⟩ ⟨T.b_range, by decide +kernel⟩ (fun i e => by cases e; exact T.d_l_same.cal rc (Nat.le_refl _) rm))
theorem ok_l_same (T : Wd P K mg) : FnOk P w K mg base CX0 7 T.d_l_same.a T.d_l_same.fd ["_law_value", "_law_due"] (spOf K S_l_same) := okr_l_same T 5
theorem ok_l_sets_ok (T : Wd P K mg) : FnOk P w K mg base CX0 8 T.d_l_sets_ok.a T.d_l_sets_ok.fd ["_law_names_here", "_law_allowed"] (spOf K S_l_sets_ok) :=
  fn_okN T.d_l_sets_ok.F sc_l_sets_ok sb_l_sets_ok (.inl rfl) (by rintro ps Post ⟨ns, k, rfl, _⟩ <;> exact ⟨rfl, rfl⟩) (fun X c e hX => by obtain ⟨rfl, rfl, rfl, rfl, rfl, rm⟩ := e; exact bd_l_sets_ok ⟨T.b_list, by decide +kernel⟩ (T.d_p_small_sets.calGn (ok_p_small_sets T) (by decide) rm) ⟨T.b_len, by decide +kernel⟩ (T.d_l_many.cal (ok_l_many T) (by decide) rm) (T.d_l_same.cal (ok_l_same T) (by decide) rm) ⟨T.b_range, by decide +kernel⟩ ⟨T.b_isinstance, by decide +kernel⟩ ⟨T.b_tuple, by decide +kernel⟩ ⟨T.b_str, by decide +kernel⟩ hX)
theorem ok_law (T : Wd P K mg) : FnOk P w K mg base CX0 9 T.d_law.a T.d_law.fd ["_law_script"] (spOf K S_law) :=
  fn_okN T.d_law.F sc_law sb_law (.inr rfl) (by rintro ps Post ⟨ns, rfl, _⟩ <;> exact ⟨rfl, rfl⟩) (fun X c e hX => by obtain ⟨rfl, rfl, rfl, rfl, rfl, rm⟩ := e; exact bd_law (T.d_l_store.cal (ok_l_store T) (by decide) rm) (T.d_l_shuffled.cal (ok_l_shuffled T) (by decide) rm) (T.d_l_names.cal (ok_l_names T) (by decide) rm) (T.d_l_size.cal (ok_l_size T) (by decide) rm) ⟨T.b_range, by decide +kernel⟩ (T.d_l_sets_ok.cal (ok_l_sets_ok T) (by decide) rm) (T.d_l_take.cal (ok_l_take T) (by decide) rm) ⟨T.b_len, by decide +kernel⟩ (T.d_p_small_sets.calGn (ok_p_small_sets T) (by decide) rm) (T.d_l_same.cal (ok_l_same T) (by decide) rm) ⟨T.b_list, by decide +kernel⟩ ⟨T.b_sorted, by decide +kernel⟩ hX)
theorem head {fa : Addr} (hm : mg "law" = some (.ref fa)) (T : Wd P K mg) : ∃ fd : FuncData, (∀ (s : Shared) (v : Value), BindsTo s fd ⟨[v], []⟩ [("_law_script", v)]) ∧ ∀ base : Heap, K.In base → base.Ns mainGlobals mg → FnOk P w K mg base CX0 9 fa fd ["_law_script"] (spOf K S_law) := law_end T.d_law hm fun base => ok_law T
end

/-! ### the head: what it looks at, the run -/
def fx0 : List Fx := [.fa (.glo "_law_store"), .fa (.glo "_law_feed"), .fa (.glo "_law_mixed"), .fa (.glo "_law_take"), .fa (.glo "_law_shuffled"), .fa (.glo "_law_pick"), .fa (.glo "_law_names"), .fa (.glo "_law_size"), .fa (.glo "small_sets"), .fa (.glo "_law_many")]
def fx1 : List Fx := [.fa (.glo "_law_is_int"), .fa (.glo "_law_same"), .fa (.glo "_law_sets_ok"), .fa (.glo "law"), .fa (.free "list"), .fa (.free "int"), .fa (.free "abs"), .fa (.free "max"), .fa (.free "len"), .fa (.free "range")]
def fx2 : List Fx := [.fa (.free "str"), .fa (.free "sorted"), .fa (.free "min"), .fa (.free "sum"), .fa (.free "isinstance"), .fa (.free "bool"), .fa (.free "dict"), .fa (.free "tuple")]
def fx : List Fx := fx0 ++ fx1 ++ fx2
def fnl0 : List He.FnD := [⟨("_law_store", none), "_law_store", "_law_store", defArgs s_l_store, defBody s_l_store, defScope s_l_store⟩, ⟨("_law_feed", none), "_law_feed", "_law_feed", defArgs s_l_feed, defBody s_l_feed, defScope s_l_feed⟩, ⟨("_law_mixed", none), "_law_mixed", "_law_mixed", defArgs s_l_mixed, defBody s_l_mixed, defScope s_l_mixed⟩, ⟨("_law_take", none), "_law_take", "_law_take", defArgs s_l_take, defBody s_l_take, defScope s_l_take⟩, ⟨("_law_shuffled", none), "_law_shuffled", "_law_shuffled", defArgs s_l_shuffled, defBody s_l_shuffled, defScope s_l_shuffled⟩]
def fnl1 : List He.FnD := [⟨("_law_pick", none), "_law_pick", "_law_pick", defArgs s_l_pick, defBody s_l_pick, defScope s_l_pick⟩, ⟨("_law_names", none), "_law_names", "_law_names", defArgs s_l_names, defBody s_l_names, defScope s_l_names⟩, ⟨("_law_size", none), "_law_size", "_law_size", defArgs s_l_size, defBody s_l_size, defScope s_l_size⟩, ⟨("small_sets", none), "small_sets", "small_sets", defArgs s_p_small_sets, defBody s_p_small_sets, defScope s_p_small_sets⟩, ⟨("_law_many", none), "_law_many", "_law_many", defArgs s_l_many, defBody s_l_many, defScope s_l_many⟩]
def fnl2 : List He.FnD := [⟨("_law_is_int", none), "_law_is_int", "_law_is_int", defArgs s_l_is_int, defBody s_l_is_int, defScope s_l_is_int⟩, ⟨("_law_same", none), "_law_same", "_law_same", defArgs s_l_same, defBody s_l_same, defScope s_l_same⟩, ⟨("_law_sets_ok", none), "_law_sets_ok", "_law_sets_ok", defArgs s_l_sets_ok, defBody s_l_sets_ok, defScope s_l_sets_ok⟩, ⟨("law", none), "law", "law", defArgs s_law, defBody s_law, defScope s_law⟩]
def fnl : List He.FnD := fnl0 ++ fnl1 ++ fnl2
def exl : List InD := []
def nmt0 : List PySem.Str := ["_law_store", "_law_feed", "_law_mixed", "_law_take", "_law_shuffled", "_law_pick", "_law_names", "_law_size", "small_sets", "_law_many", "_law_is_int", "_law_same"]
def nmt1 : List PySem.Str := ["_law_sets_ok", "law"]
def nmt : List PySem.Str := nmt0 ++ nmt1
def tp : TopD := ⟨PySem.Challenge.pw_clockverdict_k21_small_sets.main.file, nmt, fx, fnl, exl⟩
def nms0 : List PySem.Str := ["small_sets", "_law_store", "_law_feed", "_law_mixed", "_law_take", "_law_pick", "_law_size", "_law_shuffled", "_law_is_int", "_law_same", "_law_names", "_law_many"]
def nms1 : List PySem.Str := ["_law_sets_ok"]
def nms : List PySem.Str := nms0 ++ nms1
abbrev Rw : PySem.W.OpenRow := PySem.W.OpenLaw.row PySem.Challenge.rw_clockverdict_k21_small_sets
abbrev hk : PySem.W.Hook := hookX tp
def ob (s : PySem.W.SharedT) : AlX := obsXG tp (HandSHeadRun.getT s)
theorem ob_eq (s : PySem.W.SharedT) : ob s = hk.obs s.abs := obsXG_eq (HandSHeadRun.getT_eq s)
set_option maxHeartbeats 0 in
open PySem.W PySem.Calls PyProof.Rows in
theorem run0 (w : World) (os : PySem.OsState) : (endS Rw 20000 w os).map (lookS Rw (PySem.W.view Rw.prog [15]) nms w) = some (true, openGood (PySem.W.view Rw.prog [15]) nms) := by kernel_rfl
set_option maxHeartbeats 0 in
open PySem.W PySem.Calls PyProof.Rows in
theorem runB (w : World) (os : PySem.OsState) : (endS Rw 20000 w os).map (fun s => (obFx tp tp.fx s, obFn tp tp.fn s, obEx tp tp.ex s)) = some (true, (true, tp.fn.map He.FnD.val), (true, tp.ex.map InD.val)) := by kernel_rfl
theorem run (w : World) : HandSHeadRun.RunEq Rw (PySem.W.view Rw.prog [15]) hk ob 20000 nms w := run_split (fA := []) (fB := tp.fx) rfl (run0 w) (run_nil (run0 w)) (runB w)
set_option maxHeartbeats 0 in
theorem facts {K : PySem.W.Frag} {h : Heap} {mg : Str → Option Value} (X : K.In h) (G : h.Ns mainGlobals mg) (c : SaysX tp K) : Nonempty (Wd PySem.Challenge.pw_clockverdict_k21_small_sets K mg) := by
  exact ⟨Wd.mk (d_l_store := defX X G (c.def_ 0) (c.fact 0) (fun _ _ _ _ _ _ us hl => match us, hl with | [_], _ => rfl))
    (d_l_feed := defX X G (c.def_ 1) (c.fact 1) (fun _ _ _ _ _ _ us hl => match us, hl with | [_], _ => rfl))
    (d_l_mixed := defX X G (c.def_ 2) (c.fact 2) (fun _ _ _ _ _ _ us hl => match us, hl with | [_], _ => rfl))
    (d_l_take := defX X G (c.def_ 3) (c.fact 3) (fun _ _ _ _ _ _ us hl => match us, hl with | [_, _], _ => rfl))
    (d_l_shuffled := defX X G (c.def_ 4) (c.fact 4) (fun _ _ _ _ _ _ us hl => match us, hl with | [_, _], _ => rfl))
    (d_l_pick := defX X G (c.def_ 5) (c.fact 5) (fun _ _ _ _ _ _ us hl => match us, hl with | [_, _], _ => rfl))
    (d_l_names := defX X G (c.def_ 6) (c.fact 6) (fun _ _ _ _ _ _ us hl => match us, hl with | [_, _], _ => rfl))
    (d_l_size := defX X G (c.def_ 7) (c.fact 7) (fun _ _ _ _ _ _ us hl => match us, hl with | [_, _, _], _ => rfl))
    (d_p_small_sets := defX X G (c.def_ 8) (c.fact 8) (fun _ _ _ _ _ _ us hl => match us, hl with | [_, _], _ => rfl))
    (d_l_many := defX X G (c.def_ 9) (c.fact 9) (fun _ _ _ _ _ _ us hl => match us, hl with | [_, _], _ => rfl))
    (d_l_is_int := defX X G (c.def_ 10) (c.fact 10) (fun _ _ _ _ _ _ us hl => match us, hl with | [_], _ => rfl))
    (d_l_same := defX X G (c.def_ 11) (c.fact 11) (fun _ _ _ _ _ _ us hl => match us, hl with | [_, _], _ => rfl))
    (d_l_sets_ok := defX X G (c.def_ 12) (c.fact 12) (fun _ _ _ _ _ _ us hl => match us, hl with | [_, _], _ => rfl))
    (d_law := defX X G (c.def_ 13) (c.fact 13) (fun _ _ _ _ _ _ us hl => match us, hl with | [_], _ => rfl))
    (b_list := fx_free X G (c.fact 14))
    (b_int := fx_free X G (c.fact 15))
    (b_abs := fx_free X G (c.fact 16))
    (b_max := fx_free X G (c.fact 17))
    (b_len := fx_free X G (c.fact 18))
    (b_range := fx_free X G (c.fact 19))
    (b_str := fx_free X G (c.fact 20))
    (b_sorted := fx_free X G (c.fact 21))
    (b_min := fx_free X G (c.fact 22))
    (b_sum := fx_free X G (c.fact 23))
    (b_isinstance := fx_free X G (c.fact 24))
    (b_bool := fx_free X G (c.fact 25))
    (b_dict := fx_free X G (c.fact 26))
    (b_tuple := fx_free X G (c.fact 27))⟩
end Lw
end

open PySem PySem.W PySem.Calls PyProof.Rows in
set_option maxRecDepth 100000 in
set_option maxHeartbeats 0 in
theorem PySem.Challenge.cw_clockverdict_k21_small_sets_holds : PySem.Challenge.rw_clockverdict_k21_small_sets.Holds := by
  w_on; o_law
  refine HandSHeadRun.head_any (r := OpenLaw.row PySem.Challenge.rw_clockverdict_k21_small_sets) (q := view (PySem.W.OpenLaw.row PySem.Challenge.rw_clockverdict_k21_small_sets).prog [15]) (H := Lw.hk) (ob := Lw.ob) (M := 20000) (loose := Lw.nms) (d := HandSHeadRun.topDef (PySem.W.OpenLaw.row PySem.Challenge.rw_clockverdict_k21_small_sets).prog 15) (kwd := []) Lw.ob_eq
    (by kernel_rfl) (fun s => by kernel_rfl) Lw.run (by kernel_rfl) (by kernel_rfl) (by kernel_rfl) (by rfl) (by first | assumption | decide +kernel) (by decide +kernel) ⟨rfl, rfl, rfl, rfl, rfl, by decide +kernel⟩ ?hw ?hc
  case hw => w_witness2
  case hc =>
    refine L2.walk_ofE (l := PySem.Challenge.rw_clockverdict_k21_small_sets) (n := 63) (k := 9) (x := "_law_script") (CX := L2.CX0) rfl (by decide) (by kernel_rfl) ⟨rfl, by decide, by decide⟩ ?F (fun _ _ _ _ z => z)
    intro w mg fa h Y G hmg0
    obtain ⟨K, KX, c⟩ := Y
    have hmg : mg ("law" : PySem.Str) = some (.ref fa) := by
      have e : (HandSHeadRun.topDef (PySem.W.OpenLaw.row PySem.Challenge.rw_clockverdict_k21_small_sets).prog 15).name = ("law" : PySem.Str) := by kernel_rfl
      rw [← e]
      exact hmg0
    obtain ⟨T⟩ := Lw.facts KX G c
    obtain ⟨fd, hb, hF⟩ := Lw.head (w := w) hmg T
    exact ⟨K, fd, DL.spOf K Lw.S_law, KX, hb, fun H a ns hl ho hS => DL.sp_law (fun ns h => ⟨ns, rfl, h, rfl⟩) K H a ns hl ho hS, hF⟩

