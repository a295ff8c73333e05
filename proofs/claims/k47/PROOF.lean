import PyProof.Rows.All
import Wide.All
import OpenK.AllK
import Wide.FinOn
import HandS.ForMost
import HandS.Wide
import HandS.IsInst
import HandS.Flow
import HandS.More
import HandS.Style
import HandS.WordsExc
import HandS.HotCalls
import HandS.ExcField
import HandS.ExcIs
import HandS.HeadHook1
import KE.DataFind
import KE.KExcSuper
import HandS.Nested
import HandS.ExcInit
import HandS.ExcOwn
import HandS.ExcCtx
import KE.KStateDown
import HandS.Defaults
import HandS.Head0
import HandS.Head1
import HandS.Head2
import HandS.HeadEnd
import HandS.HeadHook2
import HandS.Deep
import HandS.TryMany
import HandS.TryOnly
import HandS.MakeKw
import HandS.Property
import HandS.MakeKwOnly
import HandS.ClsMeth
import HandS.HeadNt
import PyProof.P3In
import HandS.Star
import HandS.OwnIter
import HandS.IterNext
import HandS.IterVal
import PyProof.CollectIter
import HandS.Dict
import HandS.SortRule
import KE.DataMinMax
import HandS.Zip
import HandS.TupAny
import HandS.CallSlots
import HandS.Walk
import HandS.Conv
import HandS.TupMul
import PySem.Challenge.RW_clockverdict_k47_changed_entries
section
set_option Elab.async false
set_option linter.all false
set_option maxRecDepth 100000
set_option maxHeartbeats 4000000
/-! data and how it lies in the heap; slots of a def; judgements over slots alone -/
namespace DL
open PySem L2

inductive D where
  | non | bl (b : Bool) | int (i : Int) | str (x : Str) | lst (xs : List D) | tup (xs : List D) | dic (kvs : List (Key × D)) | ins (nm : Str) (fs : List (Str × D))

def Ex (H H' : Hp) : Prop := ∀ a o, H a = some o → H' a = some o
theorem Ex.refl (H : Hp) : Ex H H := fun _ _ h => h
theorem Ex.trans {H H1 H2 : Hp} (a : Ex H H1) (b : Ex H1 H2) : Ex H H2 := fun x o h => b x o (a x o h)
theorem Ex.new {H : Hp} {p : Addr} {o : HO} (h : H p = none) : Ex H (upd H p o) := fun a u e => by
  rw [upd_ne (ne_of_none e h)]; exact e
theorem Ex.back {H H' : Hp} {p : Addr} (e : Ex H H') (h : H' p = none) : H p = none := by
  cases h1 : H p with
  | none => rfl
  | some o => rw [e p o h1] at h; cases h
theorem Ex.ne {H H' : Hp} {p : Addr} (e : Ex H H') (h : H p ≠ none) : H' p ≠ none := fun z => h (e.back z)
theorem ex_rd {H H' : Hp} {a : Addr} {u : HO} (e : Ex H H') (h : Rd H a u) : Rd H' a u := by
  rcases h with h | ⟨o, h⟩
  · exact .inl (e a _ h)
  · exact .inr ⟨o, e a _ h⟩
theorem ex_l {K : PySem.W.Frag} {H H' : Hp} {a : Addr} {xs : List V} (e : Ex H H') (h : SqL K H a xs) : SqL K H' a xs := h.imp (ex_rd e) id
theorem ex_t {K : PySem.W.Frag} {H H' : Hp} {a : Addr} {xs : List V} (e : Ex H H') (h : SqT K H a xs) : SqT K H' a xs := h.imp (ex_rd e) id

/-- facts of an own class: plain attributes, no built-in kind -/
structure InsC (K : PySem.W.Frag) (nm : Str) : Prop where
  cl : Cls K (He.ga K nm)
  ha : PySem.W.findIn K (.ref (He.ga K nm)) "__class__" = some (some (.builtin "object.__class__"))
  hn : PySem.W.specialIn K (.builtin "object.__class__") "__get__" = some (some (.builtin "getset_descriptor.__get__"))
  ht : PySem.W.takesIn K (.builtin "object.__class__") = some true
  hm : PySem.W.mroIn K (He.ga K nm) (.type "object") = some true
  no : ∀ T ∈ (["bool", "int", "str", "list", "tuple", "dict"] : List String), PySem.W.kitOne K (.ref (He.ga K nm)) (.type T) = some false
/-- an instance's attributes are none of its class's -/
def NoFs (K : PySem.W.Frag) (nm : Str) (fs : List (Str × D)) : Prop := ∀ f ∈ fs.map (·.1), NoAttr K (He.ga K nm) f
section
variable (K : PySem.W.Frag) (R : Hp)
mutual
def Rp : D → V → Prop
  | .non, v => v = .non
  | .bl b, v => v = .bl b
  | .int i, v => v = .int i
  | .str x, v => v = .str x
  | .lst ds, v => ∃ a vs, v = .ref a ∧ R a = some (.lst vs) ∧ RpL ds vs
  | .tup ds, v => ∃ a vs, v = .ref a ∧ SqT K R a vs ∧ RpL ds vs
  | .dic kvs, v => ∃ a ws, v = .ref a ∧ R a = some (.dK ws) ∧ RpK kvs ws
  | .ins nm fs, v => ∃ a dx ws, v = .ref a ∧ R a = some (.ins (He.ga K nm) dx ws) ∧ (InsC K nm ∧ NoFs K nm fs) ∧ FldOk fs ws
def RpL : List D → List V → Prop
  | [], vs => vs = []
  | d :: ds, vs => ∃ v ws, vs = v :: ws ∧ Rp d v ∧ RpL ds ws
def RpK : List (Key × D) → List (Key × V) → Prop
  | [], ws => ws = []
  | (k, d) :: r, ws => ∃ v ws', ws = (k, v) :: ws' ∧ Rp d v ∧ RpK r ws'
def FldOk : List (Str × D) → List (Str × V) → Prop
  | [], ws => ws = []
  | (k, d) :: r, ws => ∃ v ws', ws = (k, v) :: ws' ∧ Rp d v ∧ FldOk r ws'
end
end

section
variable {K : PySem.W.Frag} {R R' : Hp}
mutual
theorem Rp.mono (e : Ex R R') : ∀ (d : D) (v : V), Rp K R d v → Rp K R' d v
  | .non, _, h => h
  | .bl _, _, h => h
  | .int _, _, h => h
  | .str _, _, h => h
  | .lst ds, _, ⟨a, vs, h1, h2, h3⟩ => ⟨a, vs, h1, e a _ h2, RpL.mono e ds vs h3⟩
  | .tup ds, _, ⟨a, vs, h1, h2, h3⟩ => ⟨a, vs, h1, ex_t e h2, RpL.mono e ds vs h3⟩
  | .dic kvs, _, ⟨a, ws, h1, h2, h3⟩ => ⟨a, ws, h1, e a _ h2, RpK.mono e kvs ws h3⟩
  | .ins nm fs, _, ⟨a, dx, ws, h1, h2, h3, h4⟩ => ⟨a, dx, ws, h1, e a _ h2, h3, FldOk.mono e h4⟩
theorem RpL.mono (e : Ex R R') : ∀ (ds : List D) (vs : List V), RpL K R ds vs → RpL K R' ds vs
  | [], _, h => h
  | d :: ds, _, ⟨v, ws, h1, h2, h3⟩ => ⟨v, ws, h1, Rp.mono e d v h2, RpL.mono e ds ws h3⟩
theorem RpK.mono (e : Ex R R') : ∀ (ds : List (Key × D)) (vs : List (Key × V)), RpK K R ds vs → RpK K R' ds vs
  | [], _, h => h
  | (_, d) :: ds, _, ⟨v, ws, h1, h2, h3⟩ => ⟨v, ws, h1, Rp.mono e d v h2, RpK.mono e ds ws h3⟩
theorem FldOk.mono (e : Ex R R') : ∀ {fs : List (Str × D)} {ws : List (Str × V)}, FldOk K R fs ws → FldOk K R' fs ws
  | [], _, h => h
  | (_, d) :: ds, _, ⟨v, ws, h1, h2, h3⟩ => ⟨v, ws, h1, Rp.mono e d v h2, FldOk.mono e h3⟩
end
theorem RpL.length : ∀ {ds : List D} {vs : List V}, RpL K R ds vs → ds.length = vs.length
  | [], _, h => by cases (show _ = _ from h); rfl
  | d :: ds, _, ⟨v, ws, h1, h2, h3⟩ => by subst h1; simp [RpL.length h3]
theorem RpL.get : ∀ {ds : List D} {vs : List V} {i : Nat} {d : D}, RpL K R ds vs → ds[i]? = some d → ∃ v, vs[i]? = some v ∧ Rp K R d v
  | [], _, i, _, h, e => by simp at e
  | d :: ds, _, 0, x, ⟨v, ws, h1, h2, h3⟩, e => by
    subst h1; simp at e; subst e; exact ⟨v, rfl, h2⟩
  | d :: ds, _, i + 1, x, ⟨v, ws, h1, h2, h3⟩, e => by
    subst h1
    obtain ⟨u, a, b⟩ := RpL.get (i := i) h3 (by simpa using e)
    exact ⟨u, by simpa using a, b⟩
theorem RpL.get' : ∀ {ds : List D} {vs : List V} {i : Nat} {v : V}, RpL K R ds vs → vs[i]? = some v → ∃ d, ds[i]? = some d ∧ Rp K R d v
  | [], _, i, _, h, e => by cases (show _ = _ from h); simp at e
  | d :: ds, _, 0, x, ⟨v, ws, h1, h2, h3⟩, e => by
    subst h1; simp at e; subst e; exact ⟨d, rfl, h2⟩
  | d :: ds, _, i + 1, x, ⟨v, ws, h1, h2, h3⟩, e => by
    subst h1
    obtain ⟨u, a, b⟩ := RpL.get' (i := i) h3 (by simpa using e)
    exact ⟨u, by simpa using a, b⟩
theorem RpL.append : ∀ {ds es : List D} {vs ws : List V}, RpL K R ds vs → RpL K R es ws → RpL K R (ds ++ es) (vs ++ ws)
  | [], _, _, _, h, h' => by cases (show _ = _ from h); exact h'
  | d :: ds, _, _, _, ⟨v, ws, h1, h2, h3⟩, h' => by subst h1; exact ⟨v, _, rfl, h2, RpL.append h3 h'⟩
theorem RpL.take : ∀ {ds : List D} {vs : List V} (n : Nat), RpL K R ds vs → RpL K R (ds.take n) (vs.take n)
  | [], _, n, h => by cases (show _ = _ from h); simp [RpL]
  | d :: ds, _, 0, h => by simp [RpL]
  | d :: ds, _, n + 1, ⟨v, ws, h1, h2, h3⟩ => by subst h1; exact ⟨v, _, rfl, h2, RpL.take n h3⟩
theorem RpL.drop : ∀ {ds : List D} {vs : List V} (n : Nat), RpL K R ds vs → RpL K R (ds.drop n) (vs.drop n)
  | [], _, n, h => by cases (show _ = _ from h); simp [RpL]
  | d :: ds, _, 0, h => h
  | d :: ds, _, n + 1, ⟨v, ws, h1, h2, h3⟩ => by subst h1; exact RpL.drop n h3
theorem RpL.set : ∀ {ds : List D} {vs : List V} (n : Nat) {d : D} {v : V}, RpL K R ds vs → Rp K R d v → RpL K R (ds.set n d) (vs.set n v)
  | [], _, n, _, _, h, _ => by cases (show _ = _ from h); simp [RpL]
  | d :: ds, _, 0, _, _, ⟨v, ws, h1, h2, h3⟩, h' => by subst h1; exact ⟨_, _, rfl, h', h3⟩
  | d :: ds, _, n + 1, _, _, ⟨v, ws, h1, h2, h3⟩, h' => by subst h1; exact ⟨v, _, rfl, h2, RpL.set n h3 h'⟩
theorem RpL.one {d : D} {v : V} (h : Rp K R d v) : RpL K R [d] [v] := ⟨v, [], rfl, h, rfl⟩
theorem RpL.nil : RpL K R [] [] := rfl
theorem RpL.cons {d : D} {v : V} {ds : List D} {vs : List V} (h : Rp K R d v) (t : RpL K R ds vs) : RpL K R (d :: ds) (v :: vs) := ⟨v, vs, rfl, h, t⟩
theorem RpL.dropLast {ds : List D} {vs : List V} (h : RpL K R ds vs) : RpL K R ds.dropLast vs.dropLast := by
  rw [List.dropLast_eq_take, List.dropLast_eq_take, h.length]; exact h.take _
theorem RpL.reverse : ∀ {ds : List D} {vs : List V}, RpL K R ds vs → RpL K R ds.reverse vs.reverse
  | [], _, h => by cases (show _ = _ from h); simp [RpL]
  | d :: ds, _, ⟨v, ws, h1, h2, h3⟩ => by subst h1; simp only [List.reverse_cons]; exact (RpL.reverse h3).append (.one h2)
theorem RpL.ints : ∀ {ns : List Int}, RpL K R (ns.map D.int) (ns.map V.int)
  | [] => rfl
  | n :: ns => ⟨_, _, rfl, rfl, RpL.ints⟩
end

/-! ### owned objects, slots -/
/-- a draw's store: whole and in its bounds; what it holds is left open -/
def StoreB (ns : List Int) (place great st left cnt : Int) : Prop :=
  ns.length ≤ 63 ∧ (0 ≤ place ∧ place ≤ ns.length) ∧ 0 ≤ great ∧ (0 ≤ st ∧ st < 1000000007) ∧ (0 ≤ left ∧ left ≤ 3) ∧ 0 ≤ cnt
/-- what a store holds -/
def stoD (ns : List Int) (place great st left cnt : Int) : List D := [.lst (ns.map D.int), .int place, .int great, .int st, .int left, .int cnt]
def StoreOk (K : PySem.W.Frag) (R H : Hp) (s : Addr) : Prop :=
  ∃ (ns : List Int) (place great st left cnt : Int), StoreB ns place great st left cnt ∧ ∃ vs, H s = some (.lst vs) ∧ RpL K R (stoD ns place great st left cnt) vs
inductive OB where
  | lst (xs : List D) | sto | dic (kvs : List (Key × D)) | ins (nm : Str) (fs : List (Str × D)) | lstA (b : Addr) (xs : List D) | lstV (b : Addr) (vs : List V) (xs : List D) | dicA (b : Addr) (kvs : List (Key × D))
def OBOk (K : PySem.W.Frag) (R H : Hp) (a : Addr) : OB → Prop
  | .lst ds => ∃ vs, H a = some (.lst vs) ∧ RpL K R ds vs
  | .sto => StoreOk K R H a
  | .dic kvs => ∃ ws, H a = some (.dK ws) ∧ RpK K R kvs ws
  | .ins nm fs => ∃ dx ws, H a = some (.ins (He.ga K nm) dx ws) ∧ (InsC K nm ∧ NoFs K nm fs) ∧ FldOk K R fs ws
  | .lstA b ds => a = b ∧ ∃ vs, H a = some (.lst vs) ∧ RpL K R ds vs
  | .lstV b vs ds => a = b ∧ H a = some (.lst vs) ∧ RpL K R ds vs
  | .dicA b kvs => a = b ∧ ∃ ws, H a = some (.dK ws) ∧ RpK K R kvs ws
theorem OBOk.mono {K : PySem.W.Frag} {R R' H H' : Hp} {a : Addr} (e : Ex R R') (k : ∀ o, H a = some o → H' a = some o) : ∀ {o : OB}, OBOk K R H a o → OBOk K R' H' a o
  | .lst _, ⟨vs, h1, h2⟩ => ⟨vs, k _ h1, h2.mono e⟩
  | .sto, ⟨ns, p, g, st, l, n, h1, vs, h2, h3⟩ => ⟨ns, p, g, st, l, n, h1, vs, k _ h2, h3.mono e⟩
  | .dic _, ⟨vs, h1, h2⟩ => ⟨vs, k _ h1, h2.mono e⟩
  | .ins _ _, ⟨dx, ws, h1, h2, h3⟩ => ⟨dx, ws, k _ h1, h2, h3.mono e⟩
  | .lstA _ _, ⟨h0, vs, h1, h2⟩ => ⟨h0, vs, k _ h1, h2.mono e⟩
  | .lstV _ _ _, ⟨h0, h1, h2⟩ => ⟨h0, k _ h1, h2.mono e⟩
  | .dicA _ _, ⟨h0, vs, h1, h2⟩ => ⟨h0, vs, k _ h1, h2.mono e⟩
theorem OBOk.there {K : PySem.W.Frag} {R H : Hp} {a : Addr} : ∀ {o : OB}, OBOk K R H a o → H a ≠ none
  | .lst _, ⟨vs, h1, _⟩ => by rw [h1]; simp
  | .sto, ⟨ns, p, g, st, l, n, h1, vs, h2, _⟩ => by rw [h2]; simp
  | .dic _, ⟨vs, h1, _⟩ => by rw [h1]; simp
  | .ins _ _, ⟨dx, ws, h1, _⟩ => by rw [h1]; simp
  | .lstA _ _, ⟨_, vs, h1, _⟩ => by rw [h1]; simp
  | .lstV _ _ _, ⟨_, h1, _⟩ => by rw [h1]; simp
  | .dicA _ _, ⟨_, vs, h1, _⟩ => by rw [h1]; simp

/-- read-only: data of the frozen part, or a list, a dict that stands in the heap and whose things are frozen -/
def WOk (K : PySem.W.Frag) (M : Addr → Prop) (R H : Hp) (x : D) (v : V) : Prop :=
  Rp K R x v ∨ (∃ a vs ds, v = .ref a ∧ x = .lst ds ∧ ¬ M a ∧ H a = some (.lst vs) ∧ RpL K R ds vs) ∨ (∃ a ws kvs, v = .ref a ∧ x = .dic kvs ∧ ¬ M a ∧ H a = some (.dK ws) ∧ RpK K R kvs ws) ∨ (∃ a dx ws nm fs, v = .ref a ∧ x = .ins nm fs ∧ ¬ M a ∧ H a = some (.ins (He.ga K nm) dx ws) ∧ (InsC K nm ∧ NoFs K nm fs) ∧ FldOk K R fs ws)
theorem WOk.mono {K : PySem.W.Frag} {M : Addr → Prop} {R R' H H' : Hp} {x : D} {v : V} (e : Ex R R') (k : ∀ a o, ¬ M a → H a = some o → H' a = some o) : WOk K M R H x v → WOk K M R' H' x v
  | .inl h => .inl (h.mono e)
  | .inr (.inl ⟨a, vs, ds, h1, h2, h3, h4, h5⟩) => .inr (.inl ⟨a, vs, ds, h1, h2, h3, k a _ h3 h4, h5.mono e⟩)
  | .inr (.inr (.inl ⟨a, vs, ds, h1, h2, h3, h4, h5⟩)) => .inr (.inr (.inl ⟨a, vs, ds, h1, h2, h3, k a _ h3 h4, h5.mono e⟩))
  | .inr (.inr (.inr ⟨a, dx, ws, nm, fs, h1, h2, h3, h4, h5, h6⟩)) => .inr (.inr (.inr ⟨a, dx, ws, nm, fs, h1, h2, h3, k a _ h3 h4, h5, h6.mono e⟩))
theorem WOk.noM {K : PySem.W.Frag} {M M' : Addr → Prop} {R H : Hp} {x : D} {v : V} (k : ∀ a o, H a = some o → ¬ M a → ¬ M' a) : WOk K M R H x v → WOk K M' R H x v
  | .inl h => .inl h
  | .inr (.inl ⟨a, vs, ds, h1, h2, h3, h4, h5⟩) => .inr (.inl ⟨a, vs, ds, h1, h2, k a _ h4 h3, h4, h5⟩)
  | .inr (.inr (.inl ⟨a, vs, ds, h1, h2, h3, h4, h5⟩)) => .inr (.inr (.inl ⟨a, vs, ds, h1, h2, k a _ h4 h3, h4, h5⟩))
  | .inr (.inr (.inr ⟨a, dx, ws, nm, fs, h1, h2, h3, h4, h5, h6⟩)) => .inr (.inr (.inr ⟨a, dx, ws, nm, fs, h1, h2, k a _ h4 h3, h4, h5, h6⟩))
/-- an exception's dict, frozen -/
def XfOk (K : PySem.W.Frag) (R : Hp) (d : Option Addr) (fs : List (Str × D)) : Prop := (d = none ∧ fs = []) ∨ ∃ dd vs, d = some dd ∧ R dd = some (.xd vs) ∧ FldOk K R fs vs
theorem XfOk.mono {K : PySem.W.Frag} {R R' : Hp} {d : Option Addr} {fs : List (Str × D)} (e : Ex R R') : XfOk K R d fs → XfOk K R' d fs
  | .inl h => .inl h
  | .inr ⟨dd, vs, h1, h2, h3⟩ => .inr ⟨dd, vs, h1, e _ _ h2, h3.mono e⟩
/-- a tuple that holds a reference to b, data else -/
def BxOk (K : PySem.W.Frag) (R : Hp) (pre : List D) (b : Addr) (post : List D) (v : V) : Prop := ∃ a us ws, v = .ref a ∧ SqT K R a (us ++ .ref b :: ws) ∧ RpL K R pre us ∧ RpL K R post ws
theorem BxOk.mono {K : PySem.W.Frag} {R R' : Hp} {pre post : List D} {b : Addr} {v : V} (e : Ex R R') : BxOk K R pre b post v → BxOk K R' pre b post v
  | ⟨a, us, ws, h1, h2, h3, h4⟩ => ⟨a, us, ws, h1, ex_t e h2, h3.mono e, h4.mono e⟩
theorem ex_u {R R' : Hp} {b : Addr} {u : HO} (e : Ex R R') : Ex (upd R b u) (upd R' b u) := fun a o h => by
  by_cases z : a = b
  · subst z; rw [upd_same] at h ⊢; exact h
  · rw [upd_ne z] at h ⊢; exact e a o h
/-- tn: data that may lean on the list at b as it is now -/
inductive Slot where
  | no | any | d (x : D) | w (x : D) | own (o : OB) | sc (ns : List Int) | ex (a : Addr) (d : Option Addr) (fs : List (Str × D)) | bx (pre : List D) (b : Addr) (post : List D) | lk (kvs : List (Key × D)) | tn (b : Addr) (vs : List V) (x : D)

structure Cc where
  R0 : Hp
  H0 : Hp
  M : Addr → Prop
  oi : List (Nat × Addr)
  /-- what is wanted of an exception: its class, its fields, the slots -/
  xw : Addr → List (Str × D) → List Slot → Prop

def SlotOk (K : PySem.W.Frag) (c : Cc) (R H : Hp) : Slot → Option V → Prop
  | .no, o => o = none
  | .any, _ => True
  | .d x, o => ∃ v, o = some v ∧ Rp K R x v
  | .w x, o => ∃ v, o = some v ∧ WOk K (fun a => c.H0 a = none ∨ c.M a) R H x v
  | .own ob, o => ∃ a, o = some (.ref a) ∧ OBOk K R H a ob ∧ R a = none ∧ (c.H0 a = none ∨ c.M a)
  | .sc ns, o => ∃ a, o = some (.ref a) ∧ SqL K R a (ns.map V.int)
  | .ex a d fs, o => o = some (.ref a) ∧ XfOk K R d fs
  | .bx pre b post, o => ∃ v, o = some v ∧ BxOk K R pre b post v
  | .lk kvs, o => ∃ (a : Addr) (ws : List (Key × V)) (od : Obj), o = some (.ref a) ∧ c.H0 a = some (.frz od (.dK ws)) ∧ ¬ c.M a ∧ RpK K R kvs ws
  | .tn b vs x, o => ∃ v, o = some v ∧ Rp K (upd R b (.lst vs)) x v

/-- what is true of slots and heaps between two steps of a def: R the frozen part, H all -/
structure SOk (K : PySem.W.Frag) (c : Cc) (Γ : List Slot) (σ : St) (R H : Hp) : Prop where
  rh : Ex R H
  r0 : Ex c.R0 R
  hm : ∀ a o, ¬ c.M a → c.H0 a = some o → H a = some o
  pr : ∀ a, c.H0 a ≠ none → H a ≠ none
  un : ∀ a, c.H0 a ≠ none → c.R0 a = none → R a = none
  len : Γ.length = σ.length
  sl : ∀ (i : Nat) (s : Slot), Γ[i]? = some s → ∃ o, σ[i]? = some o ∧ SlotOk K c R H s o
  dj : ∀ (i j : Nat) (a : Addr) (o o' : OB), Γ[i]? = some (.own o) → Γ[j]? = some (.own o') → σ[i]? = some (some (.ref a)) → σ[j]? = some (some (.ref a)) → i = j
  oi : ∀ p ∈ c.oi, σ[p.1]? = some (some (.ref p.2)) ∧ ∃ o, Γ[p.1]? = some (.own o)
/-- a fresh thing that no slot holds yet, or data -/
inductive Res where
  | d (x : D) | own (o : OB) | bx (pre : List D) (b : Addr) (post : List D) (o : OB)
def VOk (K : PySem.W.Frag) (c : Cc) (Γ : List Slot) (σ : St) (R H : Hp) : Res → V → Prop
  | .d x, v => Rp K R x v
  | .own ob, v => ∃ a, v = .ref a ∧ OBOk K R H a ob ∧ R a = none ∧ c.H0 a = none ∧ ∀ (i : Nat) (o : OB), Γ[i]? = some (.own o) → σ[i]? ≠ some (some (.ref a))
  | .bx pre b post ob, v => BxOk K R pre b post v ∧ OBOk K R H b ob ∧ R b = none ∧ c.H0 b = none ∧ ∀ (i : Nat) (o : OB), Γ[i]? = some (.own o) → σ[i]? ≠ some (some (.ref b))

/-- a step that only adds -/
structure Grow (R H R' H' : Hp) : Prop where
  r : Ex R R'
  h : Ex H H'
  rh : Ex R' H'
  un : ∀ a, H a ≠ none → R a = none → R' a = none
section
variable {K : PySem.W.Frag} {c : Cc} {Γ : List Slot} {σ : St} {R H R' H' : Hp}
theorem SlotOk.mono (e : Ex R R') (k : ∀ a o, H a = some o → H' a = some o) (un : ∀ a, H a ≠ none → R a = none → R' a = none) : ∀ {s : Slot} {o : Option V}, SlotOk K c R H s o → SlotOk K c R' H' s o
  | .no, _, h => h
  | .any, _, h => h
  | .d _, _, ⟨v, h1, h2⟩ => ⟨v, h1, h2.mono e⟩
  | .w _, _, ⟨v, h1, h2⟩ => ⟨v, h1, h2.mono e fun a o _ => k a o⟩
  | .own ob, _, ⟨a, h1, h2, h3, h4⟩ => ⟨a, h1, h2.mono e (k a), un a h2.there h3, h4⟩
  | .sc _, _, ⟨a, h1, h2⟩ => ⟨a, h1, ex_l e h2⟩
  | .ex _ _ _, _, ⟨h1, h2⟩ => ⟨h1, h2.mono e⟩
  | .bx _ _ _, _, ⟨v, h1, h2⟩ => ⟨v, h1, h2.mono e⟩
  | .tn _ _ _, _, ⟨v, h1, h2⟩ => ⟨v, h1, Rp.mono (ex_u e) _ _ h2⟩
  | .lk _, _, ⟨a, ws, od, h1, h2, h3, h4⟩ => ⟨a, ws, od, h1, h2, h3, h4.mono e⟩
theorem SOk.grow (s : SOk K c Γ σ R H) (g : Grow R H R' H') : SOk K c Γ σ R' H' where
  rh := g.rh
  r0 := s.r0.trans g.r
  hm := fun a o n e => g.h a o (s.hm a o n e)
  pr := fun a n => g.h.ne (s.pr a n)
  un := fun a n e => g.un a (s.pr a n) (s.un a n e)
  len := s.len
  sl := fun i x e => let ⟨o, h1, h2⟩ := s.sl i x e; ⟨o, h1, h2.mono g.r g.h g.un⟩
  dj := s.dj
  oi := s.oi
theorem Grow.refl (e : Ex R H) : Grow R H R H := ⟨Ex.refl _, Ex.refl _, e, fun _ _ h => h⟩
theorem SOk.new (s : SOk K c Γ σ R H) {p : Addr} (o : HO) (hp : H p = none) : Grow R H (upd R p o) (upd H p o) where
  r := Ex.new (s.rh.back hp)
  h := Ex.new hp
  rh := fun a u e => by
    by_cases q : a = p
    · subst q; rw [upd_same] at e ⊢; exact e
    · rw [upd_ne q] at e ⊢; exact s.rh a u e
  un := fun a n e => by
    have q : a ≠ p := fun z => n (z ▸ hp)
    rw [upd_ne q]; exact e
theorem SOk.newOwn (s : SOk K c Γ σ R H) {p : Addr} (o : HO) (hp : H p = none) : Grow R H R (upd H p o) where
  r := Ex.refl _
  h := Ex.new hp
  rh := s.rh.trans (Ex.new hp)
  un := fun _ _ e => e
theorem VOk.mono (e : Ex R R') (k : ∀ a o, H a = some o → H' a = some o) (un : ∀ a, H a ≠ none → R a = none → R' a = none) : ∀ {r : Res} {v : V}, VOk K c Γ σ R H r v → VOk K c Γ σ R' H' r v
  | .d _, _, h => Rp.mono e _ _ h
  | .own ob, _, ⟨a, h1, h2, h3, h4⟩ => ⟨a, h1, h2.mono e (k a), un a h2.there h3, h4⟩
  | .bx _ b _ _, _, ⟨h1, h2, h3, h4⟩ => ⟨h1.mono e, h2.mono e (k b), un b h2.there h3, h4⟩
end
/-! ### exceptions -/
/-- an exception's dict -/
def XdOk (K : PySem.W.Frag) (R H H0 : Hp) (d : Option Addr) (fs : List (Str × D)) : Prop := (d = none ∧ fs = []) ∨ ∃ dd vs, d = some dd ∧ H dd = some (.xd vs) ∧ R dd = none ∧ FldOk K R fs vs ∧ H0 dd = none
def wish (K : PySem.W.Frag) (c : Cc) : WX := fun cls d σ H => ∃ (C : Addr) (fs : List (Str × D)) (Γ : List Slot) (R : Hp), cls = .ref C ∧ XdOk K R H c.H0 d fs ∧ SOk K c Γ σ R H ∧ c.xw C fs Γ
theorem takes_no {X : Cx} {c : Cc} (h : c.xw = fun _ _ _ => False) : L2N.Takes X (wish X.K c) := fun _ _ x => by
  obtain ⟨_, _, _, _, _, _, _, _, _, _, _, _, _, _, _, _, C, fs, Γ, R, _, _, _, z⟩ := x
  rw [h] at z; exact z.elim
end DL

end
section
set_option Elab.async false
set_option linter.all false
set_option autoImplicit true
set_option maxRecDepth 100000
set_option maxHeartbeats 400000
namespace DL
open PySem L2
open PyProof.Rows hiding St

def isStar : Expr → Bool
  | .Starred _ _ => true
  | _ => false
theorem se_c {e : Expr} {es : List Expr} {env : Env} (h : isStar e = false) : starEach (e :: es) env = (false, eval e env) :: starEach es env := by
  cases e <;> first | rfl | cases h
theorem se_1 {a : Expr} {env : Env} (h : isStar a = false) : starEach [a] env = [(false, eval a env)] := se_c h
theorem se_any {pos : Pos} {es : List Expr} {env : Env} (h : es.all (fun e => !isStar e) = true) : (backTo pos (starEach es env)).any (·.1) = false := by
  induction es with
  | nil => rfl
  | cons e es ih =>
    simp only [List.all_cons, Bool.and_eq_true] at h
    rw [se_c (by simpa using h.1)]
    exact ih h.2
/-- names of a def by slot; V: seen here; as: may be stored here; GN: global names used; k: room; oi: slots that hold what the caller owns -/
structure Nm where
  N : List Str
  V : List Nat
  as : List Nat
  GN : List Str
  k : Nat
  oi : List Nat
  lc : List Nat := []
  sc : Option Scope := none
  hot : Bool := false

structure NOk (X : Cx) (n : Nm) (c : Cc) : Prop where
  eq : X.N = n.N
  nd : n.N.Nodup
  vis : ∀ (i : Nat) (x : Str), n.V.contains i = true → n.N[i]? = some x → Vis X.env.scope x
  loc : ∀ (i : Nat) (x : Str), n.as.contains i = true → n.N[i]? = some x → Loc X.env.scope x ∧ (X.fn x = true ∨ X.env.scope.names.lookup x = some .local)
  dbg : ∀ (i : Nat) (x : Str), n.N[i]? = some x → (x == ("__debug__" : Str)) = false ∧ (x == ("__classdict__" : Str)) = false
  gl : ∀ (i : Nat) (x : Str), n.GN[i]? = some x → Gl X x ∧ (x == ("__debug__" : Str)) = false ∧ x ≠ ("__name__" : Str)
  kind : X.env.scope.kind = .function
  scp : ∀ s, n.sc = some s → X.env.scope = s
  calm : n.hot = false → X.calm = true
  room : L2H.RoomH n.k X.A
  po : PassesOwn (model X.prog X.w) X.A X.env X.xe
  lc : ∀ (i : Nat) (x : Str), n.lc.contains i = true → n.N[i]? = some x → X.env.scope.names.lookup x = some .local
  oi : c.oi.map (·.1) = n.oi
  cm : ∀ a, c.M a → ∃ j, (j, a) ∈ c.oi
  tk : L2N.Takes X (wish X.K c)
  fr : n.lc ≠ [] → X.stack = X.env :: X.outer ∧ X.env.frame = some X.env.locals
theorem NOk.units {X : Cx} {n : Nm} {c : Cc} (h : NOk X n c) : X.A.units + 64 < cLine := by have := h.room.un; omega


abbrev SL := List Slot
def OB.data : OB → Option D
  | .lst ds => some (.lst ds)
  | .dic kvs => some (.dic kvs)
  | .ins nm fs => some (.ins nm fs)
  | .sto => none
  | .lstA _ ds => some (.lst ds)
  | .lstV _ _ ds => some (.lst ds)
  | .dicA _ kvs => some (.dic kvs)
def Res.data : Res → Option D
  | .d x => some x
  | .own o => o.data
  | .bx _ _ _ _ => none

/-- read at this moment -/
def Wk (K : PySem.W.Frag) (R H : Hp) (x : D) (v : V) : Prop := WOk K (fun _ => False) R H x v
theorem WOk.wk {K : PySem.W.Frag} {M : Addr → Prop} {R H : Hp} {x : D} {v : V} : WOk K M R H x v → Wk K R H x v
  | .inl h => .inl h
  | .inr (.inl ⟨a, vs, ds, h1, h2, h3, h4, h5⟩) => .inr (.inl ⟨a, vs, ds, h1, h2, id, h4, h5⟩)
  | .inr (.inr (.inl ⟨a, vs, ds, h1, h2, h3, h4, h5⟩)) => .inr (.inr (.inl ⟨a, vs, ds, h1, h2, id, h4, h5⟩))
  | .inr (.inr (.inr ⟨a, dx, ws, nm, fs, h1, h2, h3, h4, h5, h6⟩)) => .inr (.inr (.inr ⟨a, dx, ws, nm, fs, h1, h2, id, h4, h5, h6⟩))
theorem Rp.wk {K : PySem.W.Frag} {R H : Hp} {x : D} {v : V} (h : Rp K R x v) : Wk K R H x v := .inl h
theorem Wk.lst {K : PySem.W.Frag} {R H : Hp} {ds : List D} {v : V} (e : Ex R H) : Wk K R H (.lst ds) v → ∃ a vs, v = .ref a ∧ H a = some (.lst vs) ∧ RpL K R ds vs
  | .inl ⟨a, vs, h1, h2, h3⟩ => ⟨a, vs, h1, e a _ h2, h3⟩
  | .inr (.inl ⟨a, vs, es, h1, h2, h3, h4, h5⟩) => by cases h2; exact ⟨a, vs, h1, h4, h5⟩
  | .inr (.inr (.inl ⟨a, vs, es, h1, h2, h3, h4, h5⟩)) => by cases h2
  | .inr (.inr (.inr ⟨a, dx, ws, nm, fs, h1, h2, _⟩)) => by cases h2
theorem Wk.tup {K : PySem.W.Frag} {R H : Hp} {ds : List D} {v : V} (e : Ex R H) : Wk K R H (.tup ds) v → ∃ a vs, v = .ref a ∧ SqT K H a vs ∧ RpL K R ds vs
  | .inl ⟨a, vs, h1, h2, h3⟩ => ⟨a, vs, h1, ex_t e h2, h3⟩
  | .inr (.inl ⟨a, vs, es, h1, h2, h3, h4, h5⟩) => by cases h2
  | .inr (.inr (.inl ⟨a, vs, es, h1, h2, h3, h4, h5⟩)) => by cases h2
  | .inr (.inr (.inr ⟨a, dx, ws, nm, fs, h1, h2, _⟩)) => by cases h2
theorem Wk.dic {K : PySem.W.Frag} {R H : Hp} {ds : List (Key × D)} {v : V} (e : Ex R H) : Wk K R H (.dic ds) v → ∃ a vs, v = .ref a ∧ H a = some (.dK vs) ∧ RpK K R ds vs
  | .inl ⟨a, vs, h1, h2, h3⟩ => ⟨a, vs, h1, e a _ h2, h3⟩
  | .inr (.inl ⟨a, vs, es, h1, h2, h3, h4, h5⟩) => by cases h2
  | .inr (.inr (.inl ⟨a, vs, es, h1, h2, h3, h4, h5⟩)) => by cases h2; exact ⟨a, vs, h1, h4, h5⟩
  | .inr (.inr (.inr ⟨a, dx, ws, nm, fs, h1, h2, _⟩)) => by cases h2
theorem Wk.ins {K : PySem.W.Frag} {R H : Hp} {nm : Str} {fs : List (Str × D)} {v : V} (e : Ex R H) : Wk K R H (.ins nm fs) v → ∃ a dx ws, v = .ref a ∧ H a = some (.ins (He.ga K nm) dx ws) ∧ (InsC K nm ∧ NoFs K nm fs) ∧ FldOk K R fs ws
  | .inl ⟨a, dx, ws, h1, h2, h3⟩ => ⟨a, dx, ws, h1, e a _ h2, h3⟩
  | .inr (.inl ⟨a, vs, es, h1, h2, h3, h4, h5⟩) => by cases h2
  | .inr (.inr (.inl ⟨a, vs, es, h1, h2, h3, h4, h5⟩)) => by cases h2
  | .inr (.inr (.inr ⟨a, dx, ws, nm, fs, h1, h2, h3, h4, h5⟩)) => by cases h2; exact ⟨a, dx, ws, h1, h4, h5⟩
theorem Wk.int {K : PySem.W.Frag} {R H : Hp} {i : Int} {v : V} : Wk K R H (.int i) v → v = .int i
  | .inl h => h
  | .inr (.inl ⟨a, vs, es, h1, h2, h3, h4, h5⟩) => by cases h2
  | .inr (.inr (.inl ⟨a, vs, es, h1, h2, h3, h4, h5⟩)) => by cases h2
  | .inr (.inr (.inr ⟨a, dx, ws, nm, fs, h1, h2, _⟩)) => by cases h2
theorem Wk.bl {K : PySem.W.Frag} {R H : Hp} {i : Bool} {v : V} : Wk K R H (.bl i) v → v = .bl i
  | .inl h => h
  | .inr (.inl ⟨a, vs, es, h1, h2, h3, h4, h5⟩) => by cases h2
  | .inr (.inr (.inl ⟨a, vs, es, h1, h2, h3, h4, h5⟩)) => by cases h2
  | .inr (.inr (.inr ⟨a, dx, ws, nm, fs, h1, h2, _⟩)) => by cases h2
theorem Wk.str {K : PySem.W.Frag} {R H : Hp} {i : Str} {v : V} : Wk K R H (.str i) v → v = .str i
  | .inl h => h
  | .inr (.inl ⟨a, vs, es, h1, h2, h3, h4, h5⟩) => by cases h2
  | .inr (.inr (.inl ⟨a, vs, es, h1, h2, h3, h4, h5⟩)) => by cases h2
  | .inr (.inr (.inr ⟨a, dx, ws, nm, fs, h1, h2, _⟩)) => by cases h2
theorem Wk.non {K : PySem.W.Frag} {R H : Hp} {v : V} : Wk K R H .non v → v = .non
  | .inl h => h
  | .inr (.inl ⟨a, vs, es, h1, h2, h3, h4, h5⟩) => by cases h2
  | .inr (.inr (.inl ⟨a, vs, es, h1, h2, h3, h4, h5⟩)) => by cases h2
  | .inr (.inr (.inr ⟨a, dx, ws, nm, fs, h1, h2, _⟩)) => by cases h2

/-! ### the weakest readings -/
section
variable (X : Cx)
def tW (e : Expr) : TE := fun σ H Q => ∀ (pins : List (Addr × Obj)) (s : Shared), Inv X pins σ H s → wpAny (model X.prog X.w) X.A (eval e X.env) (EP X pins σ Q) X.xe s
def tWT (e : Expr) : TT := fun σ H Q => ∀ (pins : List (Addr × Obj)) (s : Shared), Inv X pins σ H s → wpAny (model X.prog X.w) X.A (isTrue e X.env (eval e X.env)) (TP X pins σ Q) X.xe s
def tWW (e : Expr) : TT := fun σ H Q => ∀ (whole : Sem Value) (pins : List (Addr × Obj)) (s : Shared), Inv X pins σ H s → wpAny (model X.prog X.w) X.A (isTrue e X.env whole) (TP X pins σ Q) X.xe s
def tWA (es : List Expr) : TA := fun σ H Q => ∀ (pos : Pos) (pins : List (Addr × Obj)) (s : Shared), Inv X pins σ H s → wpAny (model X.prog X.w) X.A (spliced (backTo pos (starEach es X.env))) (AP X pins σ Q) X.xe s
def tWS (st : Stmt) : TS := fun D σ H => ∀ (pins : List (Addr × Obj)) (s : Shared), Inv X pins σ H s → wpAny (model X.prog X.w) X.A (exec st X.env) (SP X pins D) X.xe s
def tWB (sts : List Stmt) : TS := fun D σ H => ∀ (pins : List (Addr × Obj)) (s : Shared), Inv X pins σ H s → wpAny (model X.prog X.w) X.A (execs sts X.env) (SP X pins D) X.xe s
end
section
variable {X : Cx}
theorem pW {e : Expr} : PE X e (tW X e) := ⟨fun pins s _ _ _ I h => h pins s I⟩
theorem pWT {e : Expr} : PT X e (tWT X e) := ⟨fun pins s _ _ _ I h => h pins s I⟩
theorem pWW {e : Expr} : PW X e (tWW X e) := ⟨fun wh pins s _ _ _ I h => h wh pins s I⟩
theorem pWA {e : List Expr} : PA X e (tWA X e) := ⟨fun pos pins s _ _ _ I h => h pos pins s I⟩
theorem pWS {e : Stmt} : PS X e (tWS X e) := ⟨fun pins s _ _ _ I h => h pins s I⟩
theorem pWB {e : List Stmt} : PSs X e (tWB X e) := ⟨fun pins s _ _ _ I h => h pins s I⟩
theorem _root_.L2.PE.w {e : Expr} {t : TE} (h : PE X e t) {σ H Q} (q : t σ H Q) : tW X e σ H Q := fun pins s I => h.run pins s σ H Q I q
theorem _root_.L2.PT.w {e : Expr} {t : TT} (h : PT X e t) {σ H Q} (q : t σ H Q) : tWT X e σ H Q := fun pins s I => h.run pins s σ H Q I q
theorem _root_.L2.PW.w {e : Expr} {t : TT} (h : PW X e t) {σ H Q} (q : t σ H Q) : tWW X e σ H Q := fun wh pins s I => h.run wh pins s σ H Q I q
theorem _root_.L2.PA.w {e : List Expr} {t : TA} (h : PA X e t) {σ H Q} (q : t σ H Q) : tWA X e σ H Q := fun pos pins s I => h.run pos pins s σ H Q I q
theorem _root_.L2.PS.w {e : Stmt} {t : TS} (h : PS X e t) {D σ H} (q : t D σ H) : tWS X e D σ H := fun pins s I => h.run pins s σ H D I q
theorem _root_.L2.PSs.w {e : List Stmt} {t : TS} (h : PSs X e t) {D σ H} (q : t D σ H) : tWB X e D σ H := fun pins s I => h.run pins s σ H D I q
end

/-! ### judgements -/
section
variable (X : Cx) (n : Nm) (c : Cc)
structure WE (Γ : SL) (e : Expr) (Post : D → SL → Prop) : Prop where
  run : NOk X n c → ∀ σ R H, SOk X.K c Γ σ R H → ∀ Q : VK,
  (∀ v R' H' x Γ', SOk X.K c Γ' σ R' H' → Ex R R' → Rp X.K R' x v → Post x Γ' → Q v H') → tW X e σ H Q
/-- a value that is read at once: data, or what a slot holds -/
structure WV (Γ : SL) (e : Expr) (Post : D → SL → Prop) : Prop where
  run : NOk X n c → ∀ σ R H, SOk X.K c Γ σ R H → ∀ Q : VK,
  (∀ v R' H' x Γ', SOk X.K c Γ' σ R' H' → Ex R R' → Wk X.K R' H' x v → Post x Γ' → Q v H') → tW X e σ H Q
structure WO (Γ : SL) (e : Expr) (Post : OB → SL → Prop) : Prop where
  run : NOk X n c → ∀ σ R H, SOk X.K c Γ σ R H → ∀ Q : VK,
  (∀ v R' H' o Γ', SOk X.K c Γ' σ R' H' → Ex R R' → VOk X.K c Γ' σ R' H' (.own o) v → Post o Γ' → Q v H') → tW X e σ H Q
structure WT (Γ : SL) (e : Expr) (Post : Bool → SL → Prop) : Prop where
  run : NOk X n c → ∀ σ R H, SOk X.K c Γ σ R H → ∀ Q : Bool → Hp → Prop,
  (∀ R' H' b Γ', SOk X.K c Γ' σ R' H' → Ex R R' → Post b Γ' → Q b H') → tWT X e σ H Q
structure WW (Γ : SL) (e : Expr) (Post : Bool → SL → Prop) : Prop where
  run : NOk X n c → ∀ σ R H, SOk X.K c Γ σ R H → ∀ Q : Bool → Hp → Prop,
  (∀ R' H' b Γ', SOk X.K c Γ' σ R' H' → Ex R R' → Post b Γ' → Q b H') → tWW X e σ H Q
/-- d: data; v: data for a read-only parameter; s: what slot i holds, read-only; o: what slot i owns, lent -/
inductive AK where
  | d (x : D) | v (x : D) | s (i : Nat) | o (i : Nat)
def AkOk (K : PySem.W.Frag) (R : Hp) (σ : St) : AK → V → Prop
  | .d x, v => Rp K R x v
  | .v x, v => Rp K R x v
  | .s i, v => σ[i]? = some (some v)
  | .o i, v => σ[i]? = some (some v)
def AksOk (K : PySem.W.Frag) (R : Hp) (σ : St) : List AK → List V → Prop
  | [], vs => vs = []
  | k :: ks, vs => ∃ v ws, vs = v :: ws ∧ AkOk K R σ k v ∧ AksOk K R σ ks ws
structure WA (Γ : SL) (es : List Expr) (Post : List AK → SL → Prop) : Prop where
  run : NOk X n c → ∀ σ R H, SOk X.K c Γ σ R H → ∀ Q : List V → Hp → Prop,
  (∀ vs R' H' ks Γ', SOk X.K c Γ' σ R' H' → Ex R R' → AksOk X.K R' σ ks vs → Post ks Γ' → Q vs H') → tWA X es σ H Q
abbrev EV (Γ : SL) (e : Expr) (x : D) : Prop := WE X n c Γ e fun y Γ' => y = x ∧ Γ' = Γ
abbrev EVV (Γ : SL) (e : Expr) (x : D) : Prop := WV X n c Γ e fun y Γ' => y = x ∧ Γ' = Γ
abbrev EO (Γ : SL) (e : Expr) (o : OB) : Prop := WO X n c Γ e fun y Γ' => y = o ∧ Γ' = Γ
abbrev ET (Γ : SL) (e : Expr) (b : Bool) : Prop := WT X n c Γ e fun y Γ' => y = b ∧ Γ' = Γ
abbrev EW (Γ : SL) (e : Expr) (b : Bool) : Prop := WW X n c Γ e fun y Γ' => y = b ∧ Γ' = Γ
abbrev EA (Γ : SL) (es : List Expr) (ks : List AK) : Prop := WA X n c Γ es fun y Γ' => y = ks ∧ Γ' = Γ
end

section
variable {X : Cx} {n : Nm} {c : Cc} {Γ : SL} {e a b : Expr} {x y z : D}
theorem WE.mono {P P' : D → SL → Prop} (h : WE X n c Γ e P) (k : ∀ x Γ, P x Γ → P' x Γ) : WE X n c Γ e P' := .mk fun hn σ R H s Q q =>
  h.run hn σ R H s Q fun v R' H' x Γ' s' e r p => q v R' H' x Γ' s' e r (k _ _ p)
theorem WV.mono {P P' : D → SL → Prop} (h : WV X n c Γ e P) (k : ∀ x Γ, P x Γ → P' x Γ) : WV X n c Γ e P' := .mk fun hn σ R H s Q q =>
  h.run hn σ R H s Q fun v R' H' x Γ' s' e r p => q v R' H' x Γ' s' e r (k _ _ p)
theorem WO.mono {P P' : OB → SL → Prop} (h : WO X n c Γ e P) (k : ∀ x Γ, P x Γ → P' x Γ) : WO X n c Γ e P' := .mk fun hn σ R H s Q q =>
  h.run hn σ R H s Q fun v R' H' x Γ' s' e r p => q v R' H' x Γ' s' e r (k _ _ p)
theorem WT.mono {P P' : Bool → SL → Prop} (h : WT X n c Γ e P) (k : ∀ x Γ, P x Γ → P' x Γ) : WT X n c Γ e P' := .mk fun hn σ R H s Q q =>
  h.run hn σ R H s Q fun R' H' x Γ' s' e p => q R' H' x Γ' s' e (k _ _ p)
theorem WW.mono {P P' : Bool → SL → Prop} (h : WW X n c Γ e P) (k : ∀ x Γ, P x Γ → P' x Γ) : WW X n c Γ e P' := .mk fun hn σ R H s Q q =>
  h.run hn σ R H s Q fun R' H' x Γ' s' e p => q R' H' x Γ' s' e (k _ _ p)
theorem WA.mono {es : List Expr} {P P' : List AK → SL → Prop} (h : WA X n c Γ es P) (k : ∀ x Γ, P x Γ → P' x Γ) : WA X n c Γ es P' := .mk fun hn σ R H s Q q =>
  h.run hn σ R H s Q fun v R' H' x Γ' s' e r p => q v R' H' x Γ' s' e r (k _ _ p)
theorem WE.v {P : D → SL → Prop} (h : WE X n c Γ e P) : WV X n c Γ e P := .mk fun hn σ R H s Q q =>
  h.run hn σ R H s Q fun v R' H' x Γ' s' e r p => q v R' H' x Γ' s' e r.wk p
theorem we_of {P : D → SL → Prop} (h : EV X n c Γ e x) (p : P x Γ) : WE X n c Γ e P := h.mono fun y Γ' ⟨h1, h2⟩ => by subst h1 h2; exact p
theorem wo_of {o : OB} {P : OB → SL → Prop} (h : EO X n c Γ e o) (p : P o Γ) : WO X n c Γ e P := h.mono fun y Γ' ⟨h1, h2⟩ => by subst h1 h2; exact p
theorem wt_of {o : Bool} {P : Bool → SL → Prop} (h : ET X n c Γ e o) (p : P o Γ) : WT X n c Γ e P := h.mono fun y Γ' ⟨h1, h2⟩ => by subst h1 h2; exact p
theorem wa_of {es : List Expr} {o : List AK} {P : List AK → SL → Prop} (h : EA X n c Γ es o) (p : P o Γ) : WA X n c Γ es P := h.mono fun y Γ' ⟨h1, h2⟩ => by subst h1 h2; exact p
theorem EV.v (h : EV X n c Γ e x) : EVV X n c Γ e x := WE.v h
theorem ev_is (h : EV X n c Γ e x) (q : x = y) : EV X n c Γ e y := q ▸ h
theorem et_is {p q : Bool} (h : ET X n c Γ e p) (r : p = q) : ET X n c Γ e q := r ▸ h

/-! ### names, constants -/
theorem ev_var (i : Nat) {nm : Str} {pos : Pos} (hg : Γ[i]? = some (.d x) := by rfl) (hi : n.N[i]? = some nm := by rfl) (hv : n.V.contains i = true := by rfl) : EV X n c Γ (.Name nm pos) x := .mk fun hn σ R H s Q q => by
  obtain ⟨h1, h2⟩ := hn.dbg i nm hi
  refine (pe_var (i := i) (by rw [hn.eq]; exact hi) (hn.vis i nm hv hi) h1 h2).w ?_
  obtain ⟨o, e1, v, e2, r⟩ := s.sl i _ hg
  subst e2
  exact ⟨v, e1, q v R H x Γ s (Ex.refl _) r ⟨rfl, rfl⟩⟩
/-- what a slot holds, as data that is read -/
def Slot.data : Slot → Option D
  | .d x => some x
  | .w x => some x
  | .own o => o.data
  | _ => none
theorem SlotOk.wk {K : PySem.W.Frag} {R H : Hp} {s : Slot} {o : Option V} {x : D} (h : SlotOk K c R H s o) (e : s.data = some x) : ∃ v, o = some v ∧ Wk K R H x v := by
  cases s with
  | d y => cases e; obtain ⟨v, h1, h2⟩ := h; exact ⟨v, h1, .inl h2⟩
  | w y => cases e; obtain ⟨v, h1, h2⟩ := h; exact ⟨v, h1, h2.wk⟩
  | own ob =>
    obtain ⟨a, h1, h2, _⟩ := h
    cases ob with
    | lst ds => cases e; obtain ⟨vs, h2, h3⟩ := h2; exact ⟨_, h1, .inr (.inl ⟨a, vs, ds, rfl, rfl, id, h2, h3⟩)⟩
    | dic ds => cases e; obtain ⟨vs, h2, h3⟩ := h2; exact ⟨_, h1, .inr (.inr (.inl ⟨a, vs, ds, rfl, rfl, id, h2, h3⟩))⟩
    | ins nm fs => cases e; obtain ⟨dx, ws, h2, h3⟩ := h2; exact ⟨_, h1, .inr (.inr (.inr ⟨a, dx, ws, nm, fs, rfl, rfl, id, h2, h3⟩))⟩
    | sto => cases e
    | lstA _ ds => cases e; obtain ⟨_, vs, h2, h3⟩ := h2; exact ⟨_, h1, .inr (.inl ⟨a, vs, ds, rfl, rfl, id, h2, h3⟩)⟩
    | lstV _ vs ds => cases e; obtain ⟨_, h2, h3⟩ := h2; exact ⟨_, h1, .inr (.inl ⟨a, vs, ds, rfl, rfl, id, h2, h3⟩)⟩
    | dicA _ ds => cases e; obtain ⟨_, vs, h2, h3⟩ := h2; exact ⟨_, h1, .inr (.inr (.inl ⟨a, vs, ds, rfl, rfl, id, h2, h3⟩))⟩
  | _ => cases e
theorem ev_c {v : V} (h : PE X e (tC v)) (r : ∀ R, Rp X.K R x v) : EV X n c Γ e x := .mk fun hn σ R H s Q q =>
  h.w (q v R H x Γ s (Ex.refl _) (r R) ⟨rfl, rfl⟩)
theorem ev_int {i : Int} {j pos} : EV X n c Γ (.Constant (.int i) j pos) (.int i) := ev_c pe_int fun _ => rfl
theorem ev_bl {i : Bool} {j pos} : EV X n c Γ (.Constant (.bool i) j pos) (.bl i) := ev_c pe_bl fun _ => rfl
theorem ev_str {i : Str} {j pos} : EV X n c Γ (.Constant (.str i) j pos) (.str i) := ev_c pe_str fun _ => rfl
theorem ev_non {j pos} : EV X n c Γ (.Constant .none j pos) .non := ev_c pe_non fun _ => rfl
/-- a module's constant -/
structure Con (X : Cx) (nm : Str) (x : D) : Prop where
  ex : ∃ v u, X.mg nm = some u ∧ RelV v u ∧ ∀ R, Rp X.K R x v
theorem ev_glob (j : Nat) {nm : Str} {pos : Pos} (hc : Con X nm x) (hj : n.GN[j]? = some nm := by rfl) : EV X n c Γ (.Name nm pos) x := .mk fun hn => by
  obtain ⟨v, u, h1, h2, h3⟩ := hc.ex
  obtain ⟨g1, g2, g3⟩ := hn.gl j nm hj
  exact (ev_c (pe_glob g1 h1 h2 g2) h3).run hn

/-! ### operands: data, or what a slot holds, read when all is there -/
def AK.get (Γ : SL) : AK → Option D
  | .d x => some x
  | .v x => some x
  | .s i => (Γ[i]?).bind Slot.data
  | .o i => (Γ[i]?).bind Slot.data
theorem AkOk.mono {K : PySem.W.Frag} {R R' : Hp} {σ : St} (e : Ex R R') : ∀ {k : AK} {v : V}, AkOk K R σ k v → AkOk K R' σ k v
  | .d _, _, h => Rp.mono e _ _ h
  | .v _, _, h => Rp.mono e _ _ h
  | .s _, _, h => h
  | .o _, _, h => h
theorem AksOk.mono {K : PySem.W.Frag} {R R' : Hp} {σ : St} (e : Ex R R') : ∀ {k : List AK} {v : List V}, AksOk K R σ k v → AksOk K R' σ k v
  | [], _, h => h
  | _ :: _, _, ⟨v, ws, h1, h2, h3⟩ => ⟨v, ws, h1, h2.mono e, h3.mono e⟩
theorem AkOk.wk {K : PySem.W.Frag} {R H : Hp} {σ : St} (s : SOk K c Γ σ R H) : ∀ {k : AK} {v : V} {x : D}, AkOk K R σ k v → k.get Γ = some x → Wk K R H x v
  | .d _, _, _, h, e => by cases e; exact .inl h
  | .v _, _, _, h, e => by cases e; exact .inl h
  | .s i, v, x, h, e => by
    obtain ⟨sl, e1, e2⟩ := Option.bind_eq_some_iff.mp e
    obtain ⟨o, q1, q2⟩ := s.sl i sl e1
    rw [show σ[i]? = some (some v) from h] at q1; cases q1
    obtain ⟨w, q3, q4⟩ := q2.wk e2
    cases q3; exact q4
  | .o i, v, x, h, e => by
    obtain ⟨sl, e1, e2⟩ := Option.bind_eq_some_iff.mp e
    obtain ⟨o, q1, q2⟩ := s.sl i sl e1
    rw [show σ[i]? = some (some v) from h] at q1; cases q1
    obtain ⟨w, q3, q4⟩ := q2.wk e2
    cases q3; exact q4
def gets (Γ : SL) : List AK → Option (List D)
  | [] => some []
  | k :: ks => match k.get Γ, gets Γ ks with
    | some x, some xs => some (x :: xs)
    | _, _ => none
def Wks (K : PySem.W.Frag) (R H : Hp) : List D → List V → Prop
  | [], vs => vs = []
  | x :: xs, vs => ∃ v ws, vs = v :: ws ∧ Wk K R H x v ∧ Wks K R H xs ws
theorem AksOk.wks {K : PySem.W.Frag} {R H : Hp} {σ : St} (s : SOk K c Γ σ R H) : ∀ {k : List AK} {v : List V} {x : List D}, AksOk K R σ k v → gets Γ k = some x → Wks K R H x v
  | [], v, x, h, e => by cases e; exact h
  | k :: ks, v, x, ⟨v1, ws, h1, h2, h3⟩, e => by
    unfold gets at e
    split at e
    · rename_i y ys e1 e2
      cases e
      exact ⟨v1, ws, h1, h2.wk s e1, h3.wks s e2⟩
    · cases e
/-- an operand -/
structure WK (X : Cx) (n : Nm) (c : Cc) (Γ : SL) (e : Expr) (Post : AK → SL → Prop) : Prop where
  run : NOk X n c → ∀ σ R H, SOk X.K c Γ σ R H → ∀ Q : VK,
  (∀ v R' H' k Γ', SOk X.K c Γ' σ R' H' → Ex R R' → AkOk X.K R' σ k v → Post k Γ' → Q v H') → tW X e σ H Q
abbrev EK (X : Cx) (n : Nm) (c : Cc) (Γ : SL) (e : Expr) (k : AK) : Prop := WK X n c Γ e fun y Γ' => y = k ∧ Γ' = Γ
theorem WK.mono {P P' : AK → SL → Prop} (h : WK X n c Γ e P) (k : ∀ x Γ, P x Γ → P' x Γ) : WK X n c Γ e P' := .mk fun hn σ R H s Q q =>
  h.run hn σ R H s Q fun v R' H' x Γ' s' e r p => q v R' H' x Γ' s' e r (k _ _ p)
theorem wk_ek {k : AK} {P : AK → SL → Prop} (h : EK X n c Γ e k) (p : P k Γ) : WK X n c Γ e P := h.mono fun y Γ' ⟨h1, h2⟩ => by subst h1 h2; exact p
theorem wk_e {P : AK → SL → Prop} (h : WE X n c Γ e fun x Γ' => P (.d x) Γ') : WK X n c Γ e P := .mk fun hn σ R H s Q q =>
  h.run hn σ R H s Q fun v R' H' x Γ' s' e r p => q v R' H' (.d x) Γ' s' e r p
theorem wk_v {P : AK → SL → Prop} (h : WE X n c Γ e fun x Γ' => P (.v x) Γ') : WK X n c Γ e P := .mk fun hn σ R H s Q q =>
  h.run hn σ R H s Q fun v R' H' x Γ' s' e r p => q v R' H' (.v x) Γ' s' e r p
theorem ek_d (h : EV X n c Γ e x) : EK X n c Γ e (.d x) := wk_e (we_of h ⟨rfl, rfl⟩)
theorem ek_v (h : EV X n c Γ e x) : EK X n c Γ e (.v x) := wk_v (we_of h ⟨rfl, rfl⟩)
def Slot.set : Slot → Bool
  | .no => false
  | .any => false
  | _ => true
theorem SlotOk.val {K : PySem.W.Frag} {R H : Hp} {s : Slot} {o : Option V} (h : SlotOk K c R H s o) (e : s.set = true) : ∃ v, o = some v := by
  cases s with
  | no => cases e
  | any => cases e
  | d y => obtain ⟨v, h1, _⟩ := h; exact ⟨v, h1⟩
  | w y => obtain ⟨v, h1, _⟩ := h; exact ⟨v, h1⟩
  | own ob => obtain ⟨v, h1, _⟩ := h; exact ⟨_, h1⟩
  | sc ns => obtain ⟨v, h1, _⟩ := h; exact ⟨_, h1⟩
  | ex _ _ _ => exact ⟨_, h.1⟩
  | bx _ _ _ => obtain ⟨v, h1, _⟩ := h; exact ⟨_, h1⟩
  | tn _ _ _ => obtain ⟨v, h1, _⟩ := h; exact ⟨_, h1⟩
  | lk _ => obtain ⟨a, _, _, h1, _⟩ := h; exact ⟨_, h1⟩
theorem ek_n (k : AK) (i : Nat) (hk : ∀ R σ v, σ[i]? = some (some v) → AkOk X.K R σ k v) {s : Slot} {nm : Str} {pos : Pos} (hg : Γ[i]? = some s) (hs : s.set = true) (hi : n.N[i]? = some nm) (hv : n.V.contains i = true) : EK X n c Γ (.Name nm pos) k := .mk fun hn σ R H s Q q => by
  obtain ⟨h1, h2⟩ := hn.dbg i nm hi
  refine (pe_var (i := i) (by rw [hn.eq]; exact hi) (hn.vis i nm hv hi) h1 h2).w ?_
  obtain ⟨o, e1, h⟩ := s.sl i _ hg
  obtain ⟨v, e2⟩ := h.val hs
  subst e2
  exact ⟨v, e1, q v R H k Γ s (Ex.refl _) (hk R σ v e1) ⟨rfl, rfl⟩⟩
theorem ek_s (i : Nat) {s : Slot} {nm : Str} {pos : Pos} (hg : Γ[i]? = some s := by rfl) (hs : s.set = true := by rfl) (hi : n.N[i]? = some nm := by rfl) (hv : n.V.contains i = true := by rfl) : EK X n c Γ (.Name nm pos) (.s i) := ek_n (.s i) i (fun _ _ _ h => h) hg hs hi hv
theorem ek_o (i : Nat) {s : Slot} {nm : Str} {pos : Pos} (hg : Γ[i]? = some s := by rfl) (hs : s.set = true := by rfl) (hi : n.N[i]? = some nm := by rfl) (hv : n.V.contains i = true := by rfl) : EK X n c Γ (.Name nm pos) (.o i) := ek_n (.o i) i (fun _ _ _ h => h) hg hs hi hv

/-! ### argument lists -/
theorem wa_nil {P : List AK → SL → Prop} (p : P [] Γ) : WA X n c Γ [] P := .mk fun hn σ R H s Q q => pa_nil.w (q [] R H [] Γ s (Ex.refl _) rfl p)
theorem wa_cons {es : List Expr} {P : List AK → SL → Prop} (h : WK X n c Γ e fun k Γ1 => WA X n c Γ1 es fun ks Γ2 => P (k :: ks) Γ2) (hs : starEach (e :: es) X.env = (false, eval e X.env) :: starEach es X.env := by exact se_c rfl) : WA X n c Γ (e :: es) P := .mk fun hn σ R H s Q q =>
  (pa_cons pW pWA hs).w (h.run hn σ R H s _ fun v R1 H1 k Γ1 s1 e1 r1 p1 => p1.run hn σ R1 H1 s1 _ fun vs R2 H2 ks Γ2 s2 e2 r2 p2 =>
    q (v :: vs) R2 H2 (k :: ks) Γ2 s2 (e1.trans e2) ⟨v, vs, rfl, r1.mono e2, r2⟩ p2)
theorem ea_nil : EA X n c Γ [] [] := wa_nil ⟨rfl, rfl⟩
theorem ea_cons {es : List Expr} {k : AK} {ks : List AK} (h : EK X n c Γ e k) (t : EA X n c Γ es ks) (hs : starEach (e :: es) X.env = (false, eval e X.env) :: starEach es X.env := by exact se_c rfl) : EA X n c Γ (e :: es) (k :: ks) :=
  wa_cons (wk_ek h (wa_of t ⟨rfl, rfl⟩)) hs

/-! ### operators on data -/
/-- an operation on two things that are read: P tells what it wants and gives -/
def DOp (X : Cx) (n : Nm) (c : Cc) (f : Value → Value → Sem Value) (P : D → D → (D → Prop) → Prop) : Prop := NOk X n c → ∃ r, OpR X f r ∧
  ∀ Γ σ R H x y v w Post, SOk X.K c Γ σ R H → Wk X.K R H x v → Wk X.K R H y w → P x y Post → ∀ Q : VK,
    (∀ u R' H' z, SOk X.K c Γ σ R' H' → Ex R R' → Rp X.K R' z u → Post z → Q u H') → r v w H Q
variable {f : Value → Value → Sem Value} {P : D → D → (D → Prop) → Prop} {pos : Pos} {k l : AK}
theorem we_bin {op : Operator} {Post : D → SL → Prop} (ho : DOp X n c (binaryOp op) P) (h : WK X n c Γ a fun k Γ1 => WK X n c Γ1 b fun l Γ2 => ∃ x y, k.get Γ2 = some x ∧ l.get Γ2 = some y ∧ P x y fun z => Post z Γ2) : WE X n c Γ (.BinOp a op b pos) Post := .mk fun hn σ R H s Q q => by
  obtain ⟨r, h1, h2⟩ := ho hn
  refine (pe_op h1 pW pW).w (h.run hn σ R H s _ fun v R1 H1 k Γ1 s1 e1 r1 p1 => p1.run hn σ R1 H1 s1 _ fun w R2 H2 l Γ2 s2 e2 r2 ⟨x, y, g1, g2, p2⟩ => ?_)
  exact h2 Γ2 σ R2 H2 x y v w _ s2 ((r1.mono e2).wk s2 g1) (r2.wk s2 g2) p2 Q fun u R' H' z s' e' r' p' => q u R' H' z Γ2 s' (e1.trans (e2.trans e')) r' p'
theorem ev_bin {op : Operator} (ho : DOp X n c (binaryOp op) P) (ha : EK X n c Γ a k) (hb : EK X n c Γ b l) (ga : k.get Γ = some x) (gb : l.get Γ = some y) (h : ∀ Post : D → Prop, Post z → P x y Post) : EV X n c Γ (.BinOp a op b pos) z :=
  we_bin ho (wk_ek ha (wk_ek hb ⟨x, y, ga, gb, h _ ⟨rfl, rfl⟩⟩))
/-- two ints -/
def PI2 (C : Int → Int → Prop) (g : Int → Int → D) : D → D → (D → Prop) → Prop := fun x y Post => ∃ i j, x = .int i ∧ y = .int j ∧ C i j ∧ Post (g i j)
theorem dop_I {C : Int → Int → Prop} {g : Int → Int → V} {g' : Int → Int → D} (h : OpR X f (rI C g)) (e : ∀ i j R, Rp X.K R (g' i j) (g i j)) : DOp X n c f (PI2 C g') := fun _ => ⟨_, h, fun Γ σ R H x y v w Post s hx hy ⟨i, j, e1, e2, hc, p⟩ Q q => by
  subst e1 e2
  exact ⟨i, j, hx.int, hy.int, hc, q _ R H _ s (Ex.refl _) (e i j R) p⟩⟩
theorem dop_I0 {g : Int → Int → V} {g' : Int → Int → D} (h : OpR X f (rI0 g)) (e : ∀ i j R, Rp X.K R (g' i j) (g i j)) : DOp X n c f (PI2 (fun _ _ => True) g') := fun _ => ⟨_, h, fun Γ σ R H x y v w Post s hx hy ⟨i, j, e1, e2, hc, p⟩ Q q => by
  subst e1 e2
  exact ⟨i, j, hx.int, hy.int, q _ R H _ s (Ex.refl _) (e i j R) p⟩⟩
def CDivA (_ j : Int) : Prop := j ≠ 0 ∧ j.natAbs.log2 < 9000
theorem op_fdivA : OpR X (binaryOp .FloorDiv) (rI CDivA fun i j => .int (i.fdiv j)) := opI fun i j _ _ _ _ _ hc q => floordiv_int hc.1 q (.inl (PyProof.noPylong_of_log2 hc.2))
theorem dop_add : DOp X n c (binaryOp .Add) (PI2 (fun _ _ => True) fun i j => .int (i + j)) := dop_I0 op_add fun _ _ _ => rfl
theorem dop_sub : DOp X n c (binaryOp .Sub) (PI2 (fun _ _ => True) fun i j => .int (i - j)) := dop_I0 op_sub fun _ _ _ => rfl
theorem dop_mul : DOp X n c (binaryOp .Mult) (PI2 CMulW fun i j => .int (i * j)) := dop_I op_mulW fun _ _ _ => rfl
theorem dop_mul64 : DOp X n c (binaryOp .Mult) (PI2 CMul fun i j => .int (i * j)) := dop_I op_mul fun _ _ _ => rfl
theorem dop_fdiv : DOp X n c (binaryOp .FloorDiv) (PI2 CDivA fun i j => .int (i.fdiv j)) := dop_I op_fdivA fun _ _ _ => rfl
theorem dop_mod : DOp X n c (binaryOp .Mod) (PI2 (fun _ j => j ≠ 0) fun i j => .int (i.fmod j)) := dop_I op_modN fun _ _ _ => rfl
theorem dop_pow : DOp X n c (binaryOp .Pow) (PI2 CPow fun i j => .int (i ^ j.toNat)) := dop_I op_pow fun _ _ _ => rfl
theorem dop_lt : DOp X n c (compareOp .Lt) (PI2 (fun _ _ => True) fun i j => .bl (decide (i < j))) := dop_I0 op_lt fun _ _ _ => rfl
theorem dop_le : DOp X n c (compareOp .LtE) (PI2 (fun _ _ => True) fun i j => .bl (decide (i ≤ j))) := dop_I0 op_le fun _ _ _ => rfl
theorem dop_gt : DOp X n c (compareOp .Gt) (PI2 (fun _ _ => True) fun i j => .bl (decide (j < i))) := dop_I0 op_gt fun _ _ _ => rfl
theorem dop_ge : DOp X n c (compareOp .GtE) (PI2 (fun _ _ => True) fun i j => .bl (decide (j ≤ i))) := dop_I0 op_ge fun _ _ _ => rfl
variable {i j : Int}
theorem ev_i2 {op : Operator} {C : Int → Int → Prop} {g : Int → Int → D} (ho : DOp X n c (binaryOp op) (PI2 C g)) (ha : EV X n c Γ a (.int i)) (hb : EV X n c Γ b (.int j)) (hc : C i j) : EV X n c Γ (.BinOp a op b pos) (g i j) :=
  ev_bin ho (ek_d ha) (ek_d hb) rfl rfl fun _ p => ⟨i, j, rfl, rfl, hc, p⟩
theorem ev_add (ha : EV X n c Γ a (.int i)) (hb : EV X n c Γ b (.int j)) : EV X n c Γ (.BinOp a .Add b pos) (.int (i + j)) := ev_i2 dop_add ha hb trivial
theorem ev_sub (ha : EV X n c Γ a (.int i)) (hb : EV X n c Γ b (.int j)) : EV X n c Γ (.BinOp a .Sub b pos) (.int (i - j)) := ev_i2 dop_sub ha hb trivial
theorem ev_mul (ha : EV X n c Γ a (.int i)) (hb : EV X n c Γ b (.int j)) (hc : CMulW i j) : EV X n c Γ (.BinOp a .Mult b pos) (.int (i * j)) := ev_i2 dop_mul ha hb hc
theorem ev_mul64 (ha : EV X n c Γ a (.int i)) (hb : EV X n c Γ b (.int j)) (hc : CMul i j) : EV X n c Γ (.BinOp a .Mult b pos) (.int (i * j)) := ev_i2 dop_mul64 ha hb hc
theorem ev_fdiv (ha : EV X n c Γ a (.int i)) (hb : EV X n c Γ b (.int j)) (hc : CDivA i j) : EV X n c Γ (.BinOp a .FloorDiv b pos) (.int (i.fdiv j)) := ev_i2 dop_fdiv ha hb hc
theorem ev_mod (ha : EV X n c Γ a (.int i)) (hb : EV X n c Γ b (.int j)) (hc : j ≠ 0) : EV X n c Γ (.BinOp a .Mod b pos) (.int (i.fmod j)) := ev_i2 dop_mod ha hb hc
theorem ev_pow (ha : EV X n c Γ a (.int i)) (hb : EV X n c Γ b (.int j)) (hc : CPow i j) : EV X n c Γ (.BinOp a .Pow b pos) (.int (i ^ j.toNat)) := ev_i2 dop_pow ha hb hc
/-! ### comparisons -/
theorem we_cmp {op : CmpOp} {Post : D → SL → Prop} (ho : DOp X n c (compareOp op) P) (hm : behindInMarks op b = false) (h : WK X n c Γ a fun k Γ1 => WK X n c Γ1 b fun l Γ2 => ∃ x y, k.get Γ2 = some x ∧ l.get Γ2 = some y ∧ P x y fun z => Post z Γ2) : WE X n c Γ (.Compare a [op] [b] pos) Post := .mk fun hn σ R H s Q q => by
  obtain ⟨r, h1, h2⟩ := ho hn
  refine (pe_cmpR h1 pW pW hm).w (h.run hn σ R H s _ fun v R1 H1 k Γ1 s1 e1 r1 p1 => p1.run hn σ R1 H1 s1 _ fun w R2 H2 l Γ2 s2 e2 r2 ⟨x, y, g1, g2, p2⟩ => ?_)
  exact h2 Γ2 σ R2 H2 x y v w _ s2 ((r1.mono e2).wk s2 g1) (r2.wk s2 g2) p2 Q fun u R' H' z s' e' r' p' => q u R' H' z Γ2 s' (e1.trans (e2.trans e')) r' p'
theorem wt_cmp {op : CmpOp} {Post : Bool → SL → Prop} (ho : DOp X n c (compareOp op) P) (hm : behindInMarks op b = false) (h : WK X n c Γ a fun k Γ1 => WK X n c Γ1 b fun l Γ2 => ∃ x y, k.get Γ2 = some x ∧ l.get Γ2 = some y ∧ P x y fun z => ∃ b, z = .bl b ∧ Post b Γ2) : WT X n c Γ (.Compare a [op] [b] pos) Post := .mk fun hn σ R H s Q q => by
  obtain ⟨r, h1, h2⟩ := ho hn
  refine (pt_cmpR h1 pW pW hm).w (h.run hn σ R H s _ fun v R1 H1 k Γ1 s1 e1 r1 p1 => p1.run hn σ R1 H1 s1 _ fun w R2 H2 l Γ2 s2 e2 r2 ⟨x, y, g1, g2, p2⟩ => ?_)
  exact h2 Γ2 σ R2 H2 x y v w _ s2 ((r1.mono e2).wk s2 g1) (r2.wk s2 g2) p2 _ fun u R' H' z s' e' r' ⟨bb, e0, p'⟩ => by
    subst e0
    exact ⟨bb, r', q R' H' bb Γ2 s' (e1.trans (e2.trans e')) p'⟩
theorem ev_cmp {op : CmpOp} (ho : DOp X n c (compareOp op) P) (ha : EK X n c Γ a k) (hb : EK X n c Γ b l) (h : ∀ Post : D → Prop, Post z → P x y Post) (ga : k.get Γ = some x := by rfl) (gb : l.get Γ = some y := by rfl) (hm : behindInMarks op b = false := by first | exact nomark _ | rfl) : EV X n c Γ (.Compare a [op] [b] pos) z :=
  we_cmp ho hm (wk_ek ha (wk_ek hb ⟨x, y, ga, gb, h _ ⟨rfl, rfl⟩⟩))
theorem et_cmp {op : CmpOp} {bb : Bool} (ho : DOp X n c (compareOp op) P) (ha : EK X n c Γ a k) (hb : EK X n c Γ b l) (h : ∀ Post : D → Prop, Post (.bl bb) → P x y Post) (ga : k.get Γ = some x := by rfl) (gb : l.get Γ = some y := by rfl) (hm : behindInMarks op b = false := by first | exact nomark _ | rfl) : ET X n c Γ (.Compare a [op] [b] pos) bb :=
  wt_cmp ho hm (wk_ek ha (wk_ek hb ⟨x, y, ga, gb, h _ ⟨bb, rfl, rfl, rfl⟩⟩))
theorem et_i2 {op : CmpOp} {g : Int → Int → Bool} (ho : DOp X n c (compareOp op) (PI2 (fun _ _ => True) fun i j => .bl (g i j))) (ha : EV X n c Γ a (.int i)) (hb : EV X n c Γ b (.int j)) (hm : behindInMarks op b = false) : ET X n c Γ (.Compare a [op] [b] pos) (g i j) :=
  et_cmp ho (ek_d ha) (ek_d hb) (fun _ p => ⟨i, j, rfl, rfl, trivial, p⟩) rfl rfl hm
theorem ev_ci2 {op : CmpOp} {g : Int → Int → Bool} (ho : DOp X n c (compareOp op) (PI2 (fun _ _ => True) fun i j => .bl (g i j))) (ha : EV X n c Γ a (.int i)) (hb : EV X n c Γ b (.int j)) (hm : behindInMarks op b = false) : EV X n c Γ (.Compare a [op] [b] pos) (.bl (g i j)) :=
  ev_cmp ho (ek_d ha) (ek_d hb) (fun _ p => ⟨i, j, rfl, rfl, trivial, p⟩) rfl rfl hm
theorem et_lt (ha : EV X n c Γ a (.int i)) (hb : EV X n c Γ b (.int j)) : ET X n c Γ (.Compare a [.Lt] [b] pos) (decide (i < j)) := et_i2 dop_lt ha hb (nomark _)
theorem et_le (ha : EV X n c Γ a (.int i)) (hb : EV X n c Γ b (.int j)) : ET X n c Γ (.Compare a [.LtE] [b] pos) (decide (i ≤ j)) := et_i2 dop_le ha hb (nomark _)
theorem et_gt (ha : EV X n c Γ a (.int i)) (hb : EV X n c Γ b (.int j)) : ET X n c Γ (.Compare a [.Gt] [b] pos) (decide (j < i)) := et_i2 dop_gt ha hb (nomark _)
theorem et_ge (ha : EV X n c Γ a (.int i)) (hb : EV X n c Γ b (.int j)) : ET X n c Γ (.Compare a [.GtE] [b] pos) (decide (j ≤ i)) := et_i2 dop_ge ha hb (nomark _)
theorem ev_lt (ha : EV X n c Γ a (.int i)) (hb : EV X n c Γ b (.int j)) : EV X n c Γ (.Compare a [.Lt] [b] pos) (.bl (decide (i < j))) := ev_ci2 dop_lt ha hb (nomark _)
theorem ev_gt (ha : EV X n c Γ a (.int i)) (hb : EV X n c Γ b (.int j)) : EV X n c Γ (.Compare a [.Gt] [b] pos) (.bl (decide (j < i))) := ev_ci2 dop_gt ha hb (nomark _)
theorem ev_ge (ha : EV X n c Γ a (.int i)) (hb : EV X n c Γ b (.int j)) : EV X n c Γ (.Compare a [.GtE] [b] pos) (.bl (decide (j ≤ i))) := ev_ci2 dop_ge ha hb (nomark _)
end
end DL

end
section
set_option Elab.async false
set_option linter.all false
set_option autoImplicit true
set_option maxRecDepth 100000
set_option maxHeartbeats 400000
namespace DL
open PySem L2
open PyProof.Rows hiding St

/-! ### data as the library's equality takes it -/
mutual
def D.pd : D → PyData
  | .non => .none
  | .bl b => .bool b
  | .int i => .int i
  | .str x => .str x
  | .lst ds => .list (pdL ds)
  | .tup ds => .tuple (pdL ds)
  | .dic _ => .dict []
  | .ins _ _ => .dict []
def pdL : List D → List PyData
  | [] => []
  | d :: ds => d.pd :: pdL ds
end
mutual
theorem Rp.dp {K : PySem.W.Frag} {R : Hp} : ∀ (d : D) (v : V), d.pd.canLay0 = true → Rp K R d v → Dp K R v d.pd
  | .non, _, _, h => by cases (show _ = _ from h); exact .non
  | .bl _, _, _, h => by cases (show _ = _ from h); exact .bl _
  | .int _, _, _, h => by cases (show _ = _ from h); exact .int _
  | .str _, _, _, h => by cases (show _ = _ from h); exact .str _
  | .lst ds, _, z, ⟨a, vs, h1, h2, h3⟩ => by subst h1; exact .lst (.inl (.inl h2)) (RpL.dp ds vs (by simpa [D.pd, PyData.canLay0] using z) h3)
  | .tup ds, _, z, ⟨a, vs, h1, h2, h3⟩ => by subst h1; exact .tup h2 (RpL.dp ds vs (by simpa [D.pd, PyData.canLay0] using z) h3)
  | .dic _, _, z, _ => by simp [D.pd, PyData.canLay0] at z
  | .ins _ _, _, z, _ => by simp [D.pd, PyData.canLay0] at z
theorem RpL.dp {K : PySem.W.Frag} {R : Hp} : ∀ (ds : List D) (vs : List V), PyData.canLayAll0 (pdL ds) = true → RpL K R ds vs → DpAll K R vs (pdL ds)
  | [], _, _, h => by cases (show _ = _ from h); exact .nil
  | d :: ds, _, z, ⟨v, ws, h1, h2, h3⟩ => by
    subst h1
    have z' : d.pd.canLay0 = true ∧ PyData.canLayAll0 (pdL ds) = true := by simpa [pdL, PyData.canLayAll0] using z
    exact .cons (Rp.dp d v z'.1 h2) (RpL.dp ds ws z'.2 h3)
end
mutual
theorem dp_mono {K : PySem.W.Frag} {R H : Hp} (e : Ex R H) : ∀ {d : PyData} {v : V}, Dp K R v d → Dp K H v d
  | _, _, .non => .non
  | _, _, .bl _ => .bl _
  | _, _, .int _ => .int _
  | _, _, .str _ => .str _
  | _, _, .lst h t => .lst (ex_l e h) (dpAll_mono e t)
  | _, _, .tup h t => .tup (ex_t e h) (dpAll_mono e t)
theorem dpAll_mono {K : PySem.W.Frag} {R H : Hp} (e : Ex R H) : ∀ {d : List PyData} {v : List V}, DpAll K R v d → DpAll K H v d
  | _, _, .nil => .nil
  | _, _, .cons h t => .cons (dp_mono e h) (dpAll_mono e t)
end
theorem Wk.dp {K : PySem.W.Frag} {R H : Hp} {x : D} {v : V} (e : Ex R H) (z : x.pd.canLay0 = true) : Wk K R H x v → Dp K H v x.pd
  | .inl h => dp_mono e (Rp.dp x v z h)
  | .inr (.inl ⟨a, vs, ds, h1, h2, h3, h4, h5⟩) => by
    subst h1 h2; exact .lst (.inl (.inl h4)) (dpAll_mono e (RpL.dp ds vs (by simpa [D.pd, PyData.canLay0] using z) h5))
  | .inr (.inr (.inl ⟨a, vs, ds, h1, h2, h3, h4, h5⟩)) => by subst h2; simp [D.pd, PyData.canLay0] at z
  | .inr (.inr (.inr ⟨a, dx, ws, nm, fs, h1, h2, _⟩)) => by subst h2; simp [D.pd, PyData.canLay0] at z

section
variable {X : Cx} {n : Nm} {c : Cc} {Γ : SL} {e a b : Expr} {x y z : D} {pos : Pos} {k l : AK} {i j : Int}
def D.eqv (x y : D) : Bool := PyData.eqv x.pd y.pd
def D.shp (x : D) : Bool := SeqAt.shaped x.pd
theorem canLay_shp {x : D} (h : x.shp = true) : x.pd.canLay0 = true := SeqAt.canLay_of_shaped h
def PEq (g : Bool → Bool) : D → D → (D → Prop) → Prop := fun x y Post => x.shp = true ∧ y.shp = true ∧ Post (.bl (g (x.eqv y)))
theorem dop_eq : DOp X n c (compareOp .Eq) (PEq id) := fun hn => ⟨_, op_eqD hn.units, fun Γ σ R H x y v w Post s hx hy ⟨h1, h2, p⟩ Q q =>
  ⟨x.pd, y.pd, hx.dp s.rh (canLay_shp h1), hy.dp s.rh (canLay_shp h2), h1, h2, q (.bl (x.eqv y)) R H (.bl (x.eqv y)) s (Ex.refl _) rfl p⟩⟩
theorem dop_ne : DOp X n c (compareOp .NotEq) (PEq not) := fun hn => ⟨_, op_neD hn.units, fun Γ σ R H x y v w Post s hx hy ⟨h1, h2, p⟩ Q q =>
  ⟨x.pd, y.pd, hx.dp s.rh (canLay_shp h1), hy.dp s.rh (canLay_shp h2), h1, h2, q (.bl (!(x.eqv y))) R H (.bl (!(x.eqv y))) s (Ex.refl _) rfl p⟩⟩
theorem et_neD (ha : EK X n c Γ a k) (hb : EK X n c Γ b l) (h1 : x.shp = true) (h2 : y.shp = true) (ga : k.get Γ = some x := by rfl) (gb : l.get Γ = some y := by rfl) : ET X n c Γ (.Compare a [.NotEq] [b] pos) (!(x.eqv y)) :=
  et_cmp dop_ne ha hb (fun _ p => ⟨h1, h2, p⟩) ga gb (nomark _)
theorem ev_eqD (ha : EK X n c Γ a k) (hb : EK X n c Γ b l) (h1 : x.shp = true) (h2 : y.shp = true) (ga : k.get Γ = some x := by rfl) (gb : l.get Γ = some y := by rfl) : EV X n c Γ (.Compare a [.Eq] [b] pos) (.bl (x.eqv y)) :=
  ev_cmp dop_eq ha hb (fun _ p => ⟨h1, h2, p⟩) ga gb (nomark _)
theorem dop_eqI : DOp X n c (compareOp .Eq) (PI2 (fun _ _ => True) fun i j => .bl (decide (i = j))) := fun _ => ⟨_, op_eq, fun Γ σ R H x y v w Post s hx hy ⟨i, j, e1, e2, _, p⟩ Q q => by
  subst e1 e2
  cases hx.int; cases hy.int
  exact ⟨rfl, q _ R H _ s (Ex.refl _) (by simp [Rp]) p⟩⟩
theorem dop_neI : DOp X n c (compareOp .NotEq) (PI2 (fun _ _ => True) fun i j => .bl (!decide (i = j))) := fun _ => ⟨_, op_ne, fun Γ σ R H x y v w Post s hx hy ⟨i, j, e1, e2, _, p⟩ Q q => by
  subst e1 e2
  cases hx.int; cases hy.int
  exact ⟨rfl, q _ R H _ s (Ex.refl _) (by simp [Rp]) p⟩⟩
theorem et_eq (ha : EV X n c Γ a (.int i)) (hb : EV X n c Γ b (.int j)) : ET X n c Γ (.Compare a [.Eq] [b] pos) (decide (i = j)) := et_i2 dop_eqI ha hb (nomark _)
theorem et_ne (ha : EV X n c Γ a (.int i)) (hb : EV X n c Γ b (.int j)) : ET X n c Γ (.Compare a [.NotEq] [b] pos) (!decide (i = j)) := et_i2 dop_neI ha hb (nomark _)
theorem ev_eq (ha : EV X n c Γ a (.int i)) (hb : EV X n c Γ b (.int j)) : EV X n c Γ (.Compare a [.Eq] [b] pos) (.bl (decide (i = j))) := ev_ci2 dop_eqI ha hb (nomark _)
theorem ev_ne (ha : EV X n c Γ a (.int i)) (hb : EV X n c Γ b (.int j)) : EV X n c Γ (.Compare a [.NotEq] [b] pos) (.bl (!decide (i = j))) := ev_ci2 dop_neI ha hb (nomark _)
/-! ### is None -/
def D.isN : D → Bool
  | .non => true
  | _ => false
theorem Wk.isN {K : PySem.W.Frag} {R H : Hp} {x : D} {v : V} (h : Wk K R H x v) : decide (v = V.non) = x.isN := by
  rcases h with h | ⟨a, vs, ds, h1, h2, _⟩ | ⟨a, vs, ds, h1, h2, _⟩ | ⟨a, dx, ws, nm, fs, h1, h2, _⟩
  · cases x with
    | non => cases (show _ = _ from h); rfl
    | bl _ => cases (show _ = _ from h); rfl
    | int _ => cases (show _ = _ from h); rfl
    | str _ => cases (show _ = _ from h); rfl
    | lst _ => obtain ⟨a, vs, h1, _⟩ := h; subst h1; rfl
    | tup _ => obtain ⟨a, vs, h1, _⟩ := h; subst h1; rfl
    | dic _ => obtain ⟨a, vs, h1, _⟩ := h; subst h1; rfl
    | ins _ _ => obtain ⟨a, _, vs, h1, _⟩ := h; subst h1; rfl
  · subst h1 h2; rfl
  · subst h1 h2; rfl
  · subst h1 h2; rfl
theorem dop_isN : DOp X n c (compareOp .Is) (fun x y Post => y = .non ∧ Post (.bl x.isN)) := fun _ => ⟨_, op_isN, fun Γ σ R H x y v w Post s hx hy ⟨e, p⟩ Q q => by
  subst e
  exact ⟨hy.non, q _ R H _ s (Ex.refl _) (by show _ = _; rw [hx.isN]) p⟩⟩
theorem et_isN {p q} (ha : EK X n c Γ a k) (ga : k.get Γ = some x := by rfl) : ET X n c Γ (.Compare a [.Is] [.Constant .none p q] pos) x.isN := et_cmp dop_isN ha (ek_d ev_non) (fun _ p => ⟨rfl, p⟩) ga rfl (nomark _)
theorem ev_isN {p q} (ha : EK X n c Γ a k) (ga : k.get Γ = some x := by rfl) : EV X n c Γ (.Compare a [.Is] [.Constant .none p q] pos) (.bl x.isN) := ev_cmp dop_isN ha (ek_d ev_non) (fun _ p => ⟨rfl, p⟩) ga rfl (nomark _)
/-! ### and, or, not, if -/
variable {rest : List Expr} {p q : Bool}
theorem wt_val {Post : Bool → SL → Prop} (h : WE X n c Γ e fun x Γ' => ∃ b, x = .bl b ∧ Post b Γ') (he : ∀ whole, isTrue e X.env whole = (do let v ← whole; standAt e.pos; holding [v] (truthy v)) := by intro _; rfl) : WT X n c Γ e Post := .mk fun hn σ R H s Q q =>
  (pt_val pW he).w (h.run hn σ R H s _ fun v R' H' x Γ' s' e r ⟨b, e1, p⟩ => by subst e1; exact ⟨b, r, q R' H' b Γ' s' e p⟩)
theorem et_val (h : EV X n c Γ e (.bl p)) (he : ∀ whole, isTrue e X.env whole = (do let v ← whole; standAt e.pos; holding [v] (truthy v)) := by intro _; rfl) : ET X n c Γ e p := wt_val (we_of h ⟨p, rfl, rfl, rfl⟩) he
theorem WW.t {Post : Bool → SL → Prop} (h : WW X n c Γ e Post) : WT X n c Γ e Post := .mk fun hn σ R H s Q q => (PW.pt pWW).w (h.run hn σ R H s Q q)
theorem EW.t (h : EW X n c Γ e p) : ET X n c Γ e p := WW.t h
theorem ww_and1 {Post : Bool → SL → Prop} (h : WT X n c Γ a Post) : WW X n c Γ (.BoolOp .And [a] pos) Post := .mk fun hn σ R H s Q q => (pw_and1 pWT).w (h.run hn σ R H s Q q)
theorem ww_or1 {Post : Bool → SL → Prop} (h : WT X n c Γ a Post) : WW X n c Γ (.BoolOp .Or [a] pos) Post := .mk fun hn σ R H s Q q => (pw_or1 pWT).w (h.run hn σ R H s Q q)
theorem ww_and {Post : Bool → SL → Prop} (h : WT X n c Γ a fun p Γ1 => (p = true → WW X n c Γ1 (.BoolOp .And (b :: rest) pos) Post) ∧ (p = false → Post false Γ1)) : WW X n c Γ (.BoolOp .And (a :: b :: rest) pos) Post := .mk fun hn σ R H s Q q =>
  (pw_and pWT pWW).w (h.run hn σ R H s _ fun R1 H1 p Γ1 s1 e1 ⟨p1, p2⟩ => by
    cases p with
    | true => exact (p1 rfl).run hn σ R1 H1 s1 Q fun R' H' b Γ' s' e' p' => q R' H' b Γ' s' (e1.trans e') p'
    | false => exact q R1 H1 false Γ1 s1 e1 (p2 rfl))
theorem ww_or {Post : Bool → SL → Prop} (h : WT X n c Γ a fun p Γ1 => (p = false → WW X n c Γ1 (.BoolOp .Or (b :: rest) pos) Post) ∧ (p = true → Post true Γ1)) : WW X n c Γ (.BoolOp .Or (a :: b :: rest) pos) Post := .mk fun hn σ R H s Q q =>
  (pw_or pWT pWW).w (h.run hn σ R H s _ fun R1 H1 p Γ1 s1 e1 ⟨p1, p2⟩ => by
    cases p with
    | false => exact (p1 rfl).run hn σ R1 H1 s1 Q fun R' H' b Γ' s' e' p' => q R' H' b Γ' s' (e1.trans e') p'
    | true => exact q R1 H1 true Γ1 s1 e1 (p2 rfl))
theorem ew_and1 (h : ET X n c Γ a p) : EW X n c Γ (.BoolOp .And [a] pos) p := ww_and1 h
theorem ew_or1 (h : ET X n c Γ a p) : EW X n c Γ (.BoolOp .Or [a] pos) p := ww_or1 h
theorem ew_and (h : ET X n c Γ a p) (h2 : p = true → EW X n c Γ (.BoolOp .And (b :: rest) pos) q) : EW X n c Γ (.BoolOp .And (a :: b :: rest) pos) (p && q) :=
  ww_and (wt_of h ⟨fun e => (h2 e).mono fun x Γ' ⟨g1, g2⟩ => by subst g1 e; exact ⟨rfl, g2⟩, fun e => by subst e; exact ⟨rfl, rfl⟩⟩)
theorem ew_or (h : ET X n c Γ a p) (h2 : p = false → EW X n c Γ (.BoolOp .Or (b :: rest) pos) q) : EW X n c Γ (.BoolOp .Or (a :: b :: rest) pos) (p || q) :=
  ww_or (wt_of h ⟨fun e => (h2 e).mono fun x Γ' ⟨g1, g2⟩ => by subst g1 e; exact ⟨rfl, g2⟩, fun e => by subst e; exact ⟨rfl, rfl⟩⟩)
theorem wt_not {Post : Bool → SL → Prop} (h : WT X n c Γ a fun p Γ' => Post (!p) Γ') : WT X n c Γ (.UnaryOp .Not a pos) Post := .mk fun hn σ R H s Q q =>
  (pt_not pWT).w (h.run hn σ R H s _ fun R' H' b Γ' s' e' p' => q R' H' (!b) Γ' s' e' p')
theorem et_not (h : ET X n c Γ a p) : ET X n c Γ (.UnaryOp .Not a pos) (!p) := wt_not (wt_of h ⟨rfl, rfl⟩)
/-- as values -/
theorem we_and1 {op} {Post : D → SL → Prop} (h : WE X n c Γ a Post) : WE X n c Γ (.BoolOp op [a] pos) Post := .mk fun hn σ R H s Q q => (pe_one pW).w (h.run hn σ R H s Q q)
theorem we_and {Post : D → SL → Prop} (h : WE X n c Γ a fun x Γ1 => ∃ p, x = .bl p ∧ (p = true → WE X n c Γ1 (.BoolOp .And (b :: rest) pos) Post) ∧ (p = false → Post (.bl false) Γ1)) : WE X n c Γ (.BoolOp .And (a :: b :: rest) pos) Post := .mk fun hn σ R H s Q q =>
  (pe_and pW pW).w (h.run hn σ R H s _ fun v R1 H1 x Γ1 s1 e1 r ⟨p, e2, p1, p2⟩ => by
    subst e2
    refine ⟨p, r, ?_⟩
    cases p with
    | true => exact (p1 rfl).run hn σ R1 H1 s1 Q fun v R' H' b Γ' s' e' p' => q v R' H' b Γ' s' (e1.trans e') p'
    | false => exact q (.bl false) R1 H1 (.bl false) Γ1 s1 e1 rfl (p2 rfl))
theorem we_or {Post : D → SL → Prop} (h : WE X n c Γ a fun x Γ1 => ∃ p, x = .bl p ∧ (p = false → WE X n c Γ1 (.BoolOp .Or (b :: rest) pos) Post) ∧ (p = true → Post (.bl true) Γ1)) : WE X n c Γ (.BoolOp .Or (a :: b :: rest) pos) Post := .mk fun hn σ R H s Q q =>
  (pe_or pW pW).w (h.run hn σ R H s _ fun v R1 H1 x Γ1 s1 e1 r ⟨p, e2, p1, p2⟩ => by
    subst e2
    refine ⟨p, r, ?_⟩
    cases p with
    | false => exact (p1 rfl).run hn σ R1 H1 s1 Q fun v R' H' b Γ' s' e' p' => q v R' H' b Γ' s' (e1.trans e') p'
    | true => exact q (.bl true) R1 H1 (.bl true) Γ1 s1 e1 rfl (p2 rfl))
theorem ev_one {op} (h : EV X n c Γ a x) : EV X n c Γ (.BoolOp op [a] pos) x := we_and1 h
theorem ev_and (h : EV X n c Γ a (.bl p)) (h2 : p = true → EV X n c Γ (.BoolOp .And (b :: rest) pos) (.bl q)) : EV X n c Γ (.BoolOp .And (a :: b :: rest) pos) (.bl (p && q)) :=
  we_and (we_of h ⟨p, rfl, fun e => (h2 e).mono fun x Γ' ⟨g1, g2⟩ => by subst g1 e; exact ⟨rfl, g2⟩, fun e => by subst e; exact ⟨rfl, rfl⟩⟩)
theorem ev_or (h : EV X n c Γ a (.bl p)) (h2 : p = false → EV X n c Γ (.BoolOp .Or (b :: rest) pos) (.bl q)) : EV X n c Γ (.BoolOp .Or (a :: b :: rest) pos) (.bl (p || q)) :=
  we_or (we_of h ⟨p, rfl, fun e => (h2 e).mono fun x Γ' ⟨g1, g2⟩ => by subst g1 e; exact ⟨rfl, g2⟩, fun e => by subst e; exact ⟨rfl, rfl⟩⟩)
theorem ev_not (h : EV X n c Γ a (.bl p)) : EV X n c Γ (.UnaryOp .Not a pos) (.bl (!p)) := .mk fun hn σ R H s Q q =>
  (pe_not pW).w (h.run hn σ R H s _ fun v R' H' x Γ' s' e' r ⟨e1, e2⟩ => by subst e1 e2; exact ⟨p, r, q (.bl (!p)) R' H' (.bl (!p)) _ s' e' rfl ⟨rfl, rfl⟩⟩)
theorem we_if {t : Expr} {Post : D → SL → Prop} (h : WT X n c Γ t fun p Γ1 => (p = true → WE X n c Γ1 a Post) ∧ (p = false → WE X n c Γ1 b Post)) : WE X n c Γ (.IfExp t a b pos) Post := .mk fun hn σ R H s Q q =>
  (pe_ifExp pWT pW pW).w (h.run hn σ R H s _ fun R1 H1 p Γ1 s1 e1 ⟨p1, p2⟩ => by
    cases p with
    | true => exact (p1 rfl).run hn σ R1 H1 s1 Q fun v R' H' b Γ' s' e' p' => q v R' H' b Γ' s' (e1.trans e') p'
    | false => exact (p2 rfl).run hn σ R1 H1 s1 Q fun v R' H' b Γ' s' e' p' => q v R' H' b Γ' s' (e1.trans e') p')
theorem ev_if {t : Expr} (h : ET X n c Γ t p) (h1 : p = true → EV X n c Γ a z) (h2 : p = false → EV X n c Γ b z) : EV X n c Γ (.IfExp t a b pos) z := we_if (wt_of h ⟨h1, h2⟩)
end
end DL

end
section
set_option Elab.async false
set_option linter.all false
set_option autoImplicit true
set_option maxRecDepth 100000
set_option maxHeartbeats 400000
namespace DL
open PySem L2
open PyProof.Rows hiding St

/-! ### parameters, promises -/
inductive Par where
  | d (x : D) | w (x : D) | own (o : OB) | sc (ns : List Int)
abbrev Sg := List Par → (Res → List OB → Prop) → Prop
def ParOk (K : PySem.W.Frag) (M : Addr → Prop) (R H : Hp) : Par → V → Prop
  | .d x, v => Rp K R x v
  | .w x, v => WOk K M R H x v
  | .own o, v => ∃ a, v = .ref a ∧ OBOk K R H a o ∧ R a = none
  | .sc ns, v => ∃ a, v = .ref a ∧ SqL K R a (ns.map V.int)
def ParsOk (K : PySem.W.Frag) (M : Addr → Prop) (R H : Hp) : List Par → List V → Prop
  | [], vs => vs = []
  | p :: ps, vs => ∃ v ws, vs = v :: ws ∧ ParOk K M R H p v ∧ ParsOk K M R H ps ws
def adr : V → Addr
  | .ref a => a
  | _ => 0
/-- the places of what is lent -/
def ownAd : List Par → List V → List Addr
  | .own _ :: ps, v :: vs => adr v :: ownAd ps vs
  | _ :: ps, _ :: vs => ownAd ps vs
  | _, _ => []
def OwnsOk (K : PySem.W.Frag) (R H : Hp) : List Addr → List OB → Prop
  | [], os => os = []
  | a :: as, os => ∃ o os', os = o :: os' ∧ OBOk K R H a o ∧ OwnsOk K R H as os'
def RetOk (K : PySem.W.Frag) (H0 R H : Hp) : Res → V → Prop
  | .d x, v => Rp K R x v
  | .own o, v => ∃ a, v = .ref a ∧ OBOk K R H a o ∧ R a = none ∧ H0 a = none
  | .bx pre b post o, v => BxOk K R pre b post v ∧ OBOk K R H b o ∧ R b = none ∧ H0 b = none
/-- behind a call -/
structure After (K : PySem.W.Frag) (as : List Addr) (R H R' H' : Hp) : Prop where
  r : Ex R R'
  rh : Ex R' H'
  h : ∀ a o, a ∉ as → H a = some o → H' a = some o
  pr : ∀ a, H a ≠ none → H' a ≠ none
  un : ∀ a, H a ≠ none → R a = none → R' a = none
def spOf (K : PySem.W.Frag) (S : Sg) : Sp := fun vs H Q _ => ∃ (R : Hp) (ps : List Par) (Post : Res → List OB → Prop), Ex R H ∧ ParsOk K (fun a => a ∈ ownAd ps vs) R H ps vs ∧ (ownAd ps vs).Nodup ∧ S ps Post ∧
  ∀ v R' H' r os, After K (ownAd ps vs) R H R' H' → RetOk K H R' H' r v → OwnsOk K R' H' (ownAd ps vs) os → Post r os → Q v H'

/-- a def that is known by its promise -/
structure CalF (X : Cx) (k : Nat) (nm : Str) (S : Sg) : Prop where
  rm : Room k X.A
  ex : ∃ f fd ps k0, FnOk X.prog X.w X.K X.mg X.base CX0 k0 f fd ps (spOf X.K S) ∧ k0 ≤ k ∧ X.mg nm = some (.ref f) ∧ PySem.W.keepIn X.K (.ref f) = true ∧ Binds X.K fd ps []
theorem CalF.mono {X : Cx} {j k : Nat} {nm : Str} {S : Sg} (h : CalF X j nm S) (e : j ≤ k) (rm : Room k X.A) : CalF X k nm S :=
  let ⟨f, fd, ps, k0, a, b, c⟩ := h.ex; ⟨rm, f, fd, ps, k0, a, Nat.le_trans b e, c⟩

def AK.par (Γ : SL) : AK → Option Par
  | .d x => some (.d x)
  | .v x => some (.w x)
  | .s i => match Γ[i]? with
    | some (.sc ns) => some (.sc ns)
    | some sl => sl.data.map Par.w
    | none => none
  | .o i => match Γ[i]? with
    | some (.own ob) => some (.own ob)
    | _ => none
def pars (Γ : SL) : List AK → Option (List Par)
  | [] => some []
  | k :: ks => match k.par Γ, pars Γ ks with
    | some x, some xs => some (x :: xs)
    | _, _ => none
def ownIx : List AK → List Nat
  | [] => []
  | .o i :: ks => i :: ownIx ks
  | _ :: ks => ownIx ks
def readIx : List AK → List Nat
  | [] => []
  | .s i :: ks => i :: readIx ks
  | _ :: ks => readIx ks
def updOwn (Γ : SL) : List Nat → List OB → SL
  | i :: is, o :: os => updOwn (Γ.set i (.own o)) is os
  | _, _ => Γ

section
variable {K : PySem.W.Frag} {c : Cc} {Γ : SL} {σ : St} {R H R' H' : Hp}
theorem own_ad : ∀ {ks : List AK} {vs : List V} {ps : List Par}, SOk K c Γ σ R H → AksOk K R σ ks vs → pars Γ ks = some ps →
    ownAd ps vs = (ownIx ks).map (fun i => adr ((σ[i]?.bind id).getD .non)) ∧ ∀ i ∈ ownIx ks, ∃ a o, σ[i]? = some (some (.ref a)) ∧ Γ[i]? = some (.own o) ∧ OBOk K R H a o ∧ R a = none ∧ (c.H0 a = none ∨ c.M a)
  | [], vs, ps, s, h, e => by cases e; exact ⟨rfl, fun i hi => by simp [ownIx] at hi⟩
  | k :: ks, vs, ps, s, ⟨v, ws, h1, h2, h3⟩, e => by
    subst h1
    unfold pars at e
    split at e
    · rename_i p ps' e1 e2
      cases e
      obtain ⟨ih1, ih2⟩ := own_ad s h3 e2
      cases k with
      | d x => cases e1; exact ⟨ih1, ih2⟩
      | v x => cases e1; exact ⟨ih1, ih2⟩
      | s i =>
        have hp : ∀ o, p ≠ .own o := fun o z => by
          subst z
          simp only [AK.par] at e1
          split at e1
          · cases e1
          · obtain ⟨_, _, z⟩ := Option.map_eq_some_iff.mp e1; cases z
          · cases e1
        refine ⟨?_, ih2⟩
        cases p with
        | own o => exact absurd rfl (hp o)
        | _ => exact ih1
      | o i =>
        simp only [AK.par] at e1
        split at e1
        · rename_i o ho
          cases e1
          obtain ⟨q, q1, a, q2, q3, q4, q5⟩ := s.sl i _ ho
          have z : σ[i]? = some (some v) := h2
          rw [z] at q1; cases q1; cases q2
          refine ⟨?_, fun j hj => ?_⟩
          · show adr (.ref a) :: ownAd ps' ws = _
            rw [ih1]; simp [ownIx, z]
          · rcases List.mem_cons.mp hj with rfl | hj
            · exact ⟨a, o, z, ho, q3, q4, q5⟩
            · exact ih2 j hj
        · cases e1
    · cases e
theorem own_nd (s : SOk K c Γ σ R H) : ∀ {is : List Nat}, is.Nodup → (∀ i ∈ is, ∃ a o, σ[i]? = some (some (.ref a)) ∧ Γ[i]? = some (.own o) ∧ OBOk K R H a o ∧ R a = none ∧ (c.H0 a = none ∨ c.M a)) → (is.map (fun i => adr ((σ[i]?.bind id).getD .non))).Nodup
  | [], _, _ => by simp
  | i :: is, nd, h => by
    obtain ⟨n1, n2⟩ := List.nodup_cons.mp nd
    rw [List.map_cons, List.nodup_cons]
    refine ⟨fun z => ?_, own_nd s n2 fun j hj => h j (List.mem_cons_of_mem _ hj)⟩
    obtain ⟨j, hj, e⟩ := List.mem_map.mp z
    obtain ⟨a, o, q1, q2, _⟩ := h i List.mem_cons_self
    obtain ⟨b, o', r1, r2, _⟩ := h j (List.mem_cons_of_mem _ hj)
    rw [q1, r1] at e
    have e' : b = a := e
    subst e'
    have := s.dj i j b o o' q2 r2 q1 r1
    subst this
    exact n1 hj
theorem pars_ok {M : Addr → Prop} (s : SOk K c Γ σ R H) (hM : ∀ a, M a → c.H0 a = none ∨ c.M a) : ∀ {ks : List AK} {vs : List V} {ps : List Par}, AksOk K R σ ks vs → pars Γ ks = some ps → (∀ i ∈ readIx ks, ∀ a o, Γ[i]? = some (.own o) → σ[i]? = some (some (.ref a)) → ¬ M a) →
    ParsOk K M R H ps vs
  | [], vs, ps, h, e, _ => by cases e; exact h
  | k :: ks, vs, ps, ⟨v, ws, h1, h2, h3⟩, e, hr => by
    unfold pars at e
    split at e
    · rename_i p ps' e1 e2
      cases e
      refine ⟨v, ws, h1, ?_, pars_ok s hM h3 e2 fun i hi => hr i (by cases k <;> simp [readIx, hi])⟩
      cases k with
      | d x => cases e1; exact h2
      | v x => cases e1; exact .inl h2
      | o i =>
        simp only [AK.par] at e1
        split at e1
        · rename_i o ho
          cases e1
          obtain ⟨q, q1, a, q2, q3, q4, q5⟩ := s.sl i _ ho
          have z : σ[i]? = some (some v) := h2
          rw [z] at q1; cases q1; cases q2
          exact ⟨a, rfl, q3, q4⟩
        · cases e1
      | s i =>
        have z : σ[i]? = some (some v) := h2
        simp only [AK.par] at e1
        split at e1
        · rename_i ns ho
          cases e1
          obtain ⟨q, q1, a, q2, q3⟩ := s.sl i _ ho
          rw [z] at q1; cases q1; cases q2
          exact ⟨a, rfl, q3⟩
        · rename_i sl hns ho
          obtain ⟨x, ex, e3⟩ := Option.map_eq_some_iff.mp e1
          subst e3
          obtain ⟨q, q1, q2⟩ := s.sl i _ ho
          rw [z] at q1; cases q1
          show WOk K M R H x v
          cases sl with
          | no => cases ex
          | any => cases ex
          | d y => cases ex; obtain ⟨w, r1, r2⟩ := q2; cases r1; exact .inl r2
          | w y => cases ex; obtain ⟨w, r1, r2⟩ := q2; cases r1; exact r2.noM fun a o _ z h => z (hM a h)
          | sc ns => cases ex
          | ex _ _ _ => cases ex
          | bx _ _ _ => cases ex
          | tn _ _ _ => cases ex
          | lk _ => cases ex
          | own ob =>
            obtain ⟨a, r1, r2, _⟩ := q2
            cases r1
            have na := hr i (by simp [readIx]) a ob ho z
            cases ob with
            | lst ds => cases ex; obtain ⟨us, t1, t2⟩ := r2; exact .inr (.inl ⟨a, us, ds, rfl, rfl, na, t1, t2⟩)
            | dic ds => cases ex; obtain ⟨us, t1, t2⟩ := r2; exact .inr (.inr (.inl ⟨a, us, ds, rfl, rfl, na, t1, t2⟩))
            | ins nm fs => cases ex; obtain ⟨dx, us, t1, t2⟩ := r2; exact .inr (.inr (.inr ⟨a, dx, us, nm, fs, rfl, rfl, na, t1, t2⟩))
            | sto => cases ex
            | lstA _ ds => cases ex; obtain ⟨_, us, t1, t2⟩ := r2; exact .inr (.inl ⟨a, us, ds, rfl, rfl, na, t1, t2⟩)
            | lstV _ us ds => cases ex; obtain ⟨_, t1, t2⟩ := r2; exact .inr (.inl ⟨a, us, ds, rfl, rfl, na, t1, t2⟩)
            | dicA _ ds => cases ex; obtain ⟨_, us, t1, t2⟩ := r2; exact .inr (.inr (.inl ⟨a, us, ds, rfl, rfl, na, t1, t2⟩))
        · cases e1
    · cases e
theorem updOwn_len : ∀ {is : List Nat} {os : List OB} {Γ : SL}, (updOwn Γ is os).length = Γ.length
  | [], _, _ => rfl
  | _ :: _, [], _ => rfl
  | i :: is, o :: os, Γ => by show (updOwn (Γ.set i (.own o)) is os).length = _; rw [updOwn_len, List.length_set]
theorem updOwn_out : ∀ {is : List Nat} {os : List OB} {Γ : SL} {j : Nat}, j ∉ is → (updOwn Γ is os)[j]? = Γ[j]?
  | [], _, _, _, _ => rfl
  | _ :: _, [], _, _, _ => rfl
  | i :: is, o :: os, Γ, j, h => by
    show (updOwn (Γ.set i (.own o)) is os)[j]? = _
    have hj : j ≠ i := fun e => h (by simp [e])
    rw [updOwn_out fun z => h (List.mem_cons_of_mem _ z), List.getElem?_set_ne (Ne.symm hj)]
theorem updOwn_in {R' H' : Hp} : ∀ {is : List Nat} {os : List OB} {Γ : SL}, is.Nodup → (∀ i ∈ is, i < Γ.length) → OwnsOk K R' H' (is.map (fun i => adr ((σ[i]?.bind id).getD .non))) os → ∀ i ∈ is, ∃ o, (updOwn Γ is os)[i]? = some (.own o) ∧ OBOk K R' H' (adr ((σ[i]?.bind id).getD .non)) o
  | [], _, _, _, _, _, i, h => by simp at h
  | j :: is, os, Γ, nd, hl, ⟨o, os', e, h1, h2⟩, i, hi => by
    subst e
    obtain ⟨n1, n2⟩ := List.nodup_cons.mp nd
    show ∃ o', (updOwn (Γ.set j (.own o)) is os')[i]? = _ ∧ _
    rcases List.mem_cons.mp hi with rfl | hi
    · refine ⟨o, ?_, h1⟩
      rw [updOwn_out n1, List.getElem?_set_self (hl i List.mem_cons_self)]
    · exact updOwn_in n2 (fun k hk => by rw [List.length_set]; exact hl k (List.mem_cons_of_mem _ hk)) h2 i hi
/-- behind a call the slots stand, what was lent renewed -/
theorem SOk.after {ks : List AK} {vs : List V} {ps : List Par} {os : List OB} (s : SOk K c Γ σ R H) (h : AksOk K R σ ks vs) (e : pars Γ ks = some ps) (nd : (ownIx ks).Nodup) (A : After K (ownAd ps vs) R H R' H') (ow : OwnsOk K R' H' (ownAd ps vs) os) :
    SOk K c (updOwn Γ (ownIx ks) os) σ R' H' := by
  obtain ⟨e1, e2⟩ := own_ad s h e
  have inO : ∀ a, a ∈ ownAd ps vs → c.H0 a = none ∨ c.M a := fun a ha => by
    rw [e1] at ha
    obtain ⟨i, hi, q⟩ := List.mem_map.mp ha
    obtain ⟨b, o, q1, q2, q3, q4, q5⟩ := e2 i hi
    rw [q1] at q
    have q' : b = a := q
    subst q'; exact q5
  have lt : ∀ i ∈ ownIx ks, i < Γ.length := fun i hi => by
    obtain ⟨b, o, q1, q2, _⟩ := e2 i hi
    exact (List.getElem?_eq_some_iff.mp q2).1
  rw [e1] at ow
  refine ⟨A.rh, s.r0.trans A.r, fun a o n q => A.h a o (fun z => ?_) (s.hm a o n q), fun a n => A.pr a (s.pr a n), fun a n q => A.un a (s.pr a n) (s.un a n q), by rw [updOwn_len]; exact s.len, fun i sl q => ?_, fun i j a o o' q1 q2 q3 q4 => ?_, fun p hp => ?_⟩
  · rcases inO a z with z | z
    · rw [z] at q; cases q
    · exact n z
  · by_cases hi : i ∈ ownIx ks
    · obtain ⟨o, w1, w2⟩ := updOwn_in (σ := σ) nd lt ow i hi
      rw [w1] at q; cases q
      obtain ⟨a, o', q1, q2, q3, q4, q5⟩ := e2 i hi
      rw [q1] at w2
      exact ⟨_, q1, a, rfl, w2, A.un a q3.there q4, q5⟩
    · rw [updOwn_out hi] at q
      obtain ⟨o, w1, w2⟩ := s.sl i sl q
      refine ⟨o, w1, ?_⟩
      cases sl with
      | no => exact w2
      | any => exact w2
      | d x => obtain ⟨v, z1, z2⟩ := w2; exact ⟨v, z1, Rp.mono A.r _ _ z2⟩
      | sc ns => obtain ⟨v, z1, z2⟩ := w2; exact ⟨v, z1, ex_l A.r z2⟩
      | ex _ _ _ => exact ⟨w2.1, w2.2.mono A.r⟩
      | bx _ _ _ => obtain ⟨v, z1, z2⟩ := w2; exact ⟨v, z1, z2.mono A.r⟩
      | tn _ _ _ => obtain ⟨v, z1, z2⟩ := w2; exact ⟨v, z1, Rp.mono (ex_u A.r) _ _ z2⟩
      | lk _ => obtain ⟨b, ws, od, z1, z2, z3, z4⟩ := w2; exact ⟨b, ws, od, z1, z2, z3, z4.mono A.r⟩
      | w x => obtain ⟨v, z1, z2⟩ := w2; exact ⟨v, z1, z2.mono A.r fun a o na => A.h a o fun z => na (inO a z)⟩
      | own ob =>
        obtain ⟨a, z1, z2, z3, z4⟩ := w2
        refine ⟨a, z1, z2.mono A.r fun o => A.h a o fun z => ?_, A.un a z2.there z3, z4⟩
        rw [e1] at z
        obtain ⟨j, hj, q'⟩ := List.mem_map.mp z
        obtain ⟨b, o', q1, q2, _⟩ := e2 j hj
        rw [q1] at q'
        have q'' : b = a := q'
        subst q''
        subst z1
        have := s.dj i j b ob o' q q2 w1 q1
        subst this
        exact hi hj
  · have un : ∀ (i : Nat) (o : OB), (updOwn Γ (ownIx ks) os)[i]? = some (.own o) → ∃ o, Γ[i]? = some (.own o) := fun i o q => by
      by_cases hi : i ∈ ownIx ks
      · obtain ⟨a, o', _, q2, _⟩ := e2 i hi; exact ⟨o', q2⟩
      · rw [updOwn_out hi] at q; exact ⟨o, q⟩
    obtain ⟨u, z1⟩ := un i o q1
    obtain ⟨u', z2⟩ := un j o' q2
    exact s.dj i j a u u' z1 z2 q3 q4
  · obtain ⟨w1, o, w2⟩ := s.oi p hp
    refine ⟨w1, ?_⟩
    by_cases hi : p.1 ∈ ownIx ks
    · obtain ⟨o, z1, _⟩ := updOwn_in (σ := σ) nd lt ow p.1 hi; exact ⟨o, z1⟩
    · exact ⟨o, by rw [updOwn_out hi]; exact w2⟩
/-- freezing, any fresh thing -/
theorem SOk.freezeR {o : OB} {x : D} (s : SOk K c Γ σ R H) {v : V} (h : VOk K c Γ σ R H (.own o) v) (e : o.data = some x) : ∃ R', SOk K c Γ σ R' H ∧ Ex R R' ∧ Rp K R' x v := by
  obtain ⟨a, h1, h2, h4, h5, h6⟩ := h
  have main : ∀ u : HO, H a = some u → ∃ R', SOk K c Γ σ R' H ∧ Ex R R' ∧ R' a = some u := fun u hu => by
    have e : Ex R (upd R a u) := Ex.new h4
    refine ⟨upd R a u, ⟨fun b o q => ?_, s.r0.trans e, s.hm, s.pr, fun b n q => ?_, s.len, fun i x q => ?_, s.dj, s.oi⟩, e, upd_same⟩
    · by_cases z : b = a
      · subst z; rw [upd_same] at q; cases q; exact hu
      · rw [upd_ne z] at q; exact s.rh b o q
    · have z : b ≠ a := fun z => n (z ▸ h5)
      rw [upd_ne z]; exact s.un b n q
    · obtain ⟨o, q1, q2⟩ := s.sl i x q
      refine ⟨o, q1, ?_⟩
      cases x with
      | no => exact q2
      | any => exact q2
      | d x => obtain ⟨v, z1, z2⟩ := q2; exact ⟨v, z1, z2.mono e⟩
      | w x => obtain ⟨v, z1, z2⟩ := q2; exact ⟨v, z1, z2.mono e fun _ _ _ h => h⟩
      | own ob =>
        obtain ⟨b, z1, z2, z3, z4⟩ := q2
        have z : b ≠ a := fun z => h6 i ob q (by rw [q1, z1, z])
        exact ⟨b, z1, z2.mono e fun _ h => h, by rw [upd_ne z]; exact z3, z4⟩
      | sc ns => obtain ⟨b, z1, z2⟩ := q2; exact ⟨b, z1, ex_l e z2⟩
      | ex _ _ _ => exact ⟨q2.1, q2.2.mono e⟩
      | bx _ _ _ => obtain ⟨v, z1, z2⟩ := q2; exact ⟨v, z1, z2.mono e⟩
      | tn _ _ _ => obtain ⟨v, z1, z2⟩ := q2; exact ⟨v, z1, Rp.mono (ex_u e) _ _ z2⟩
      | lk _ => obtain ⟨b, ws, od, z1, z2, z3, z4⟩ := q2; exact ⟨b, ws, od, z1, z2, z3, z4.mono e⟩
  cases o with
  | lst ds =>
    obtain ⟨vs, h2, h3⟩ := h2; cases e
    obtain ⟨R', a1, a2, a3⟩ := main _ h2
    exact ⟨R', a1, a2, a, vs, h1, a3, h3.mono a2⟩
  | dic ds =>
    obtain ⟨vs, h2, h3⟩ := h2; cases e
    obtain ⟨R', a1, a2, a3⟩ := main _ h2
    exact ⟨R', a1, a2, a, vs, h1, a3, h3.mono a2⟩
  | ins nm fs =>
    obtain ⟨dx, vs, h2, h3, h3'⟩ := h2; cases e
    obtain ⟨R', a1, a2, a3⟩ := main _ h2
    exact ⟨R', a1, a2, a, dx, vs, h1, a3, h3, h3'.mono a2⟩
  | sto => cases e
  | lstA _ ds =>
    obtain ⟨_, vs, h2, h3⟩ := h2; cases e
    obtain ⟨R', a1, a2, a3⟩ := main _ h2
    exact ⟨R', a1, a2, a, vs, h1, a3, h3.mono a2⟩
  | lstV _ vs ds =>
    obtain ⟨_, h2, h3⟩ := h2; cases e
    obtain ⟨R', a1, a2, a3⟩ := main _ h2
    exact ⟨R', a1, a2, a, vs, h1, a3, h3.mono a2⟩
  | dicA _ ds =>
    obtain ⟨_, vs, h2, h3⟩ := h2; cases e
    obtain ⟨R', a1, a2, a3⟩ := main _ h2
    exact ⟨R', a1, a2, a, vs, h1, a3, h3.mono a2⟩
end

section
variable {X : Cx} {n : Nm} {c : Cc} {Γ : SL} {e a b : Expr} {x y z : D} {pos p : Pos} {nm : Str} {S : Sg} {es : List Expr}
/-- a fresh thing as data -/
theorem we_frz {Post : D → SL → Prop} (h : WO X n c Γ e fun o Γ' => ∃ x, o.data = some x ∧ Post x Γ') : WE X n c Γ e Post := .mk fun hn σ R H s Q q =>
  h.run hn σ R H s Q fun v R' H' o Γ' s' e' r ⟨x, hx, px⟩ => by
    obtain ⟨R2, s2, e2, r2⟩ := s'.freezeR r hx
    exact q v R2 H' x Γ' s2 (e'.trans e2) r2 px
theorem ev_frz {ds : List D} (h : EO X n c Γ e (.lst ds)) : EV X n c Γ e (.lst ds) := we_frz (wo_of h ⟨_, rfl, rfl, rfl⟩)

/-- f(e, ..): what is lent comes back renewed -/
theorem call_core {Post : Res → SL → Prop} (hc : CalF X n.k nm S) (j : Nat) (hj : n.GN[j]? = some nm) (hn : NOk X n c)
    (h : WA X n c Γ (e :: es) fun ks Γ1 => ∃ ps, pars Γ1 ks = some ps ∧ (ownIx ks).Nodup ∧ (∀ i ∈ readIx ks, i ∉ ownIx ks) ∧ S ps fun r os => Post r (updOwn Γ1 (ownIx ks) os))
    (he : starEach (e :: es) X.env = (false, eval e X.env) :: starEach es X.env) (hpl : (backTo pos (starEach es X.env)).any (·.1) = false)
    {σ : St} {R H : Hp} (s : SOk X.K c Γ σ R H) (Q : VK) (q : ∀ v R' H' r Γ', SOk X.K c Γ' σ R' H' → Ex R R' → VOk X.K c Γ' σ R' H' r v → Post r Γ' → Q v H') : tW X (.Call (.Name nm p) (e :: es) [] pos) σ H Q := by
  obtain ⟨f, fd, qs, k0, F, hk, hm, kp, hb⟩ := hc.ex
  obtain ⟨g1, g2, g3⟩ := hn.gl j nm hj
  refine (pe_call F (hc.rm.mono hk) g1 hm kp hb .nil pass0 pWA g2 he hpl).w ?_
  refine h.run hn σ R H s _ fun vs R1 H1 ks Γ1 s1 e1 r1 ⟨ps, h1, h2, h3, h4⟩ => ?_
  rw [List.append_nil]
  obtain ⟨o1, o2⟩ := own_ad s1 r1 h1
  have inO : ∀ a, a ∈ ownAd ps vs → c.H0 a = none ∨ c.M a := fun a ha => by
    rw [o1] at ha
    obtain ⟨i, hi, q⟩ := List.mem_map.mp ha
    obtain ⟨b, o, q1, q2, q3, q4, q5⟩ := o2 i hi
    rw [q1] at q
    have q' : b = a := q
    subst q'; exact q5
  refine ⟨R1, ps, _, s1.rh, pars_ok s1 inO r1 h1 fun i hi a o z1 z2 z3 => ?_, by rw [o1]; exact own_nd s1 h2 o2, h4, fun v R' H' r os A ro ow po => ?_⟩
  · rw [o1] at z3
    obtain ⟨j, hj, q⟩ := List.mem_map.mp z3
    obtain ⟨b, o', q1, q2, _⟩ := o2 j hj
    rw [q1] at q
    have q' : b = a := q
    subst q'
    have := s1.dj i j b o o' z1 q2 z2 q1
    subst this
    exact h3 i hi hj
  · have s2 := s1.after r1 h1 h2 A ow
    refine q v R' H' r _ s2 (e1.trans A.r) ?_ po
    cases r with
    | d x => exact ro
    | own ob =>
      obtain ⟨a, w1, w2, w3, w4⟩ := ro
      refine ⟨a, w1, w2, w3, ?_, fun i o z1 z2 => ?_⟩
      · cases z : c.H0 a with
        | none => rfl
        | some u => exact absurd w4 (s1.pr a (by rw [z]; simp))
      · have : ∃ o, Γ1[i]? = some (.own o) := by
          by_cases hi : i ∈ ownIx ks
          · obtain ⟨_, o', _, q2, _⟩ := o2 i hi; exact ⟨o', q2⟩
          · rw [updOwn_out hi] at z1; exact ⟨o, z1⟩
        obtain ⟨o', z3⟩ := this
        obtain ⟨w, u1, b, u2, u3, _⟩ := s1.sl i _ z3
        rw [z2] at u1; cases u1; cases u2
        exact u3.there w4
    | bx _ a _ ob =>
      obtain ⟨w1, w2, w3, w4⟩ := ro
      refine ⟨w1, w2, w3, ?_, fun i o z1 z2 => ?_⟩
      · cases z : c.H0 a with
        | none => rfl
        | some u => exact absurd w4 (s1.pr a (by rw [z]; simp))
      · have : ∃ o, Γ1[i]? = some (.own o) := by
          by_cases hi : i ∈ ownIx ks
          · obtain ⟨_, o', _, q2, _⟩ := o2 i hi; exact ⟨o', q2⟩
          · rw [updOwn_out hi] at z1; exact ⟨o, z1⟩
        obtain ⟨o', z3⟩ := this
        obtain ⟨w, u1, b, u2, u3, _⟩ := s1.sl i _ z3
        rw [z2] at u1; cases u1; cases u2
        exact u3.there w4
theorem we_call {Post : D → SL → Prop} (hc : CalF X n.k nm S) (j : Nat) (h : WA X n c Γ (e :: es) fun ks Γ1 => ∃ ps, pars Γ1 ks = some ps ∧ (ownIx ks).Nodup ∧ (∀ i ∈ readIx ks, i ∉ ownIx ks) ∧ S ps fun r os => ∃ x, r.data = some x ∧ Post x (updOwn Γ1 (ownIx ks) os))
    (hj : n.GN[j]? = some nm := by rfl) (he : starEach (e :: es) X.env = (false, eval e X.env) :: starEach es X.env := by exact se_c rfl) (hpl : (backTo pos (starEach es X.env)).any (·.1) = false := by exact se_any rfl) : WE X n c Γ (.Call (.Name nm p) (e :: es) [] pos) Post := .mk fun hn σ R H s Q q =>
  call_core (Post := fun r Γ' => ∃ x, r.data = some x ∧ Post x Γ') hc j hj hn h he hpl s Q fun v R' H' r Γ' s' e' ro ⟨x, hx, px⟩ => by
    cases r with
    | d y => cases hx; exact q v R' H' x Γ' s' e' ro px
    | own o =>
      obtain ⟨R2, s2, e2, r2⟩ := s'.freezeR ro hx
      exact q v R2 H' x Γ' s2 (e'.trans e2) r2 px
    | bx _ _ _ _ => cases hx
theorem wo_call {Post : OB → SL → Prop} (hc : CalF X n.k nm S) (j : Nat) (h : WA X n c Γ (e :: es) fun ks Γ1 => ∃ ps, pars Γ1 ks = some ps ∧ (ownIx ks).Nodup ∧ (∀ i ∈ readIx ks, i ∉ ownIx ks) ∧ S ps fun r os => ∃ o, r = .own o ∧ Post o (updOwn Γ1 (ownIx ks) os))
    (hj : n.GN[j]? = some nm := by rfl) (he : starEach (e :: es) X.env = (false, eval e X.env) :: starEach es X.env := by exact se_c rfl) (hpl : (backTo pos (starEach es X.env)).any (·.1) = false := by exact se_any rfl) : WO X n c Γ (.Call (.Name nm p) (e :: es) [] pos) Post := .mk fun hn σ R H s Q q =>
  call_core (Post := fun r Γ' => ∃ o, r = .own o ∧ Post o Γ') hc j hj hn h he hpl s Q fun v R' H' r Γ' s' e' ro ⟨x, hx, px⟩ => by
    subst hx; exact q v R' H' x Γ' s' e' ro px
/-- .. by arguments that are told -/
theorem we_callE {ks : List AK} {ps : List Par} {Post : D → SL → Prop} (hc : CalF X n.k nm S) (j : Nat) (ha : EA X n c Γ (e :: es) ks) (h : S ps fun r os => ∃ x, r.data = some x ∧ Post x (updOwn Γ (ownIx ks) os)) (hp : pars Γ ks = some ps := by rfl)
    (hnd : (ownIx ks).Nodup := by decide) (hrd : ∀ i ∈ readIx ks, i ∉ ownIx ks := by decide)
    (hj : n.GN[j]? = some nm := by rfl) (he : starEach (e :: es) X.env = (false, eval e X.env) :: starEach es X.env := by exact se_c rfl) (hpl : (backTo pos (starEach es X.env)).any (·.1) = false := by exact se_any rfl) : WE X n c Γ (.Call (.Name nm p) (e :: es) [] pos) Post :=
  we_call hc j (wa_of ha ⟨ps, hp, hnd, hrd, h⟩) hj he hpl
theorem wo_callE {ks : List AK} {ps : List Par} {Post : OB → SL → Prop} (hc : CalF X n.k nm S) (j : Nat) (ha : EA X n c Γ (e :: es) ks) (h : S ps fun r os => ∃ o, r = .own o ∧ Post o (updOwn Γ (ownIx ks) os)) (hp : pars Γ ks = some ps := by rfl)
    (hnd : (ownIx ks).Nodup := by decide) (hrd : ∀ i ∈ readIx ks, i ∉ ownIx ks := by decide)
    (hj : n.GN[j]? = some nm := by rfl) (he : starEach (e :: es) X.env = (false, eval e X.env) :: starEach es X.env := by exact se_c rfl) (hpl : (backTo pos (starEach es X.env)).any (·.1) = false := by exact se_any rfl) : WO X n c Γ (.Call (.Name nm p) (e :: es) [] pos) Post :=
  wo_call hc j (wa_of ha ⟨ps, hp, hnd, hrd, h⟩) hj he hpl
end
end DL

end
section
set_option Elab.async false
set_option linter.all false
set_option autoImplicit true
set_option maxRecDepth 100000
set_option maxHeartbeats 400000
namespace DL
open PySem L2
open PyProof.Rows hiding St

theorem Wks.get1 {K : PySem.W.Frag} {R H : Hp} {x : D} {vs : List V} (h : Wks K R H [x] vs) : ∃ v, vs = [v] ∧ Wk K R H x v := by
  obtain ⟨v, ws, rfl, h1, h2⟩ := h
  cases (show ws = [] from h2)
  exact ⟨v, rfl, h1⟩
theorem Wks.get2 {K : PySem.W.Frag} {R H : Hp} {x y : D} {vs : List V} (h : Wks K R H [x, y] vs) : ∃ v w, vs = [v, w] ∧ Wk K R H x v ∧ Wk K R H y w := by
  obtain ⟨v, ws, rfl, h1, w, us, rfl, h2, h3⟩ := h
  cases (show us = [] from h3)
  exact ⟨v, w, rfl, h1, h2⟩

section
variable {X : Cx} {n : Nm} {c : Cc} {Γ : SL} {e a b : Expr} {x y z : D} {pos p : Pos} {nm : Str} {es : List Expr} {k l : AK} {ks : List AK} {i j : Int} {xs : List D}
/-! ### built-ins by name -/
structure Blt (X : Cx) (nm : Str) (f : Value) : Prop where
  mg : X.mg nm = none
  bt : bootBuiltins nm = some f
def DCall (X : Cx) (n : Nm) (c : Cc) (f : Value) (P : List D → (D → Prop) → Prop) : Prop := NOk X n c → ∃ r, CallR X f r ∧
  ∀ Γ σ R H xs vs Post, SOk X.K c Γ σ R H → Wks X.K R H xs vs → P xs Post → ∀ Q : VK,
    (∀ u R' H' z, SOk X.K c Γ σ R' H' → Ex R R' → Rp X.K R' z u → Post z → Q u H') → r vs H Q
/-- .. a fresh list or tuple -/
def DCallO (X : Cx) (n : Nm) (c : Cc) (f : Value) (P : List D → (OB → Prop) → Prop) : Prop := NOk X n c → ∃ r, CallR X f r ∧
  ∀ Γ σ R H xs vs Post, SOk X.K c Γ σ R H → Wks X.K R H xs vs → P xs Post → ∀ Q : VK,
    (∀ u R' H' z, SOk X.K c Γ σ R' H' → Ex R R' → VOk X.K c Γ σ R' H' (.own z) u → Post z → Q u H') → r vs H Q
theorem we_blt {id : String} {P : List D → (D → Prop) → Prop} {Post : D → SL → Prop} (hb : Blt X nm (.builtin id)) (ho : DCall X n c (.builtin id) P) (j : Nat) (h : WA X n c Γ (e :: es) fun ks Γ1 => ∃ xs, gets Γ1 ks = some xs ∧ P xs fun z => Post z Γ1)
    (hj : n.GN[j]? = some nm := by rfl) (he : starEach (e :: es) X.env = (false, eval e X.env) :: starEach es X.env := by exact se_c rfl) (hpl : (backTo pos (starEach es X.env)).any (·.1) = false := by exact se_any rfl) : WE X n c Γ (.Call (.Name nm p) (e :: es) [] pos) Post := .mk fun hn σ R H s Q q => by
  obtain ⟨r, h1, h2⟩ := ho hn
  obtain ⟨g1, g2, g3⟩ := hn.gl j nm hj
  refine (pe_callB h1 g1 hb.mg hb.bt pWA g3 g2 he hpl).w (h.run hn σ R H s _ fun vs R1 H1 ks Γ1 s1 e1 r1 ⟨xs, gx, px⟩ => ?_)
  exact h2 Γ1 σ R1 H1 xs vs _ s1 (r1.wks s1 gx) px Q fun u R' H' z s' e' r' p' => q u R' H' z Γ1 s' (e1.trans e') r' p'
theorem we_bty {id : String} {P : List D → (D → Prop) → Prop} {Post : D → SL → Prop} (hb : Blt X nm (.type id)) (ho : DCall X n c (.type id) P) (j : Nat) (h : WA X n c Γ (e :: es) fun ks Γ1 => ∃ xs, gets Γ1 ks = some xs ∧ P xs fun z => Post z Γ1)
    (hj : n.GN[j]? = some nm := by rfl) (he : starEach (e :: es) X.env = (false, eval e X.env) :: starEach es X.env := by exact se_c rfl) (hpl : (backTo pos (starEach es X.env)).any (·.1) = false := by exact se_any rfl) : WE X n c Γ (.Call (.Name nm p) (e :: es) [] pos) Post := .mk fun hn σ R H s Q q => by
  obtain ⟨r, h1, h2⟩ := ho hn
  obtain ⟨g1, g2, g3⟩ := hn.gl j nm hj
  refine (pe_callTy h1 g1 hb.mg hb.bt pWA g3 g2 he hpl).w (h.run hn σ R H s _ fun vs R1 H1 ks Γ1 s1 e1 r1 ⟨xs, gx, px⟩ => ?_)
  exact h2 Γ1 σ R1 H1 xs vs _ s1 (r1.wks s1 gx) px Q fun u R' H' z s' e' r' p' => q u R' H' z Γ1 s' (e1.trans e') r' p'
theorem wo_bty {id : String} {P : List D → (OB → Prop) → Prop} {Post : OB → SL → Prop} (hb : Blt X nm (.type id)) (ho : DCallO X n c (.type id) P) (j : Nat) (h : WA X n c Γ (e :: es) fun ks Γ1 => ∃ xs, gets Γ1 ks = some xs ∧ P xs fun z => Post z Γ1)
    (hj : n.GN[j]? = some nm := by rfl) (he : starEach (e :: es) X.env = (false, eval e X.env) :: starEach es X.env := by exact se_c rfl) (hpl : (backTo pos (starEach es X.env)).any (·.1) = false := by exact se_any rfl) : WO X n c Γ (.Call (.Name nm p) (e :: es) [] pos) Post := .mk fun hn σ R H s Q q => by
  obtain ⟨r, h1, h2⟩ := ho hn
  obtain ⟨g1, g2, g3⟩ := hn.gl j nm hj
  refine (pe_callTy h1 g1 hb.mg hb.bt pWA g3 g2 he hpl).w (h.run hn σ R H s _ fun vs R1 H1 ks Γ1 s1 e1 r1 ⟨xs, gx, px⟩ => ?_)
  exact h2 Γ1 σ R1 H1 xs vs _ s1 (r1.wks s1 gx) px Q fun u R' H' z s' e' r' p' => q u R' H' z Γ1 s' (e1.trans e') r' p'
theorem ev_blt {id : String} {P : List D → (D → Prop) → Prop} (hb : Blt X nm (.builtin id)) (ho : DCall X n c (.builtin id) P) (j : Nat) (ha : EA X n c Γ (e :: es) ks) (hp : ∀ Post : D → Prop, Post z → P xs Post) (hg : gets Γ ks = some xs := by rfl)
    (hj : n.GN[j]? = some nm := by rfl) (he : starEach (e :: es) X.env = (false, eval e X.env) :: starEach es X.env := by exact se_c rfl) (hpl : (backTo pos (starEach es X.env)).any (·.1) = false := by exact se_any rfl) : EV X n c Γ (.Call (.Name nm p) (e :: es) [] pos) z :=
  we_blt hb ho j (wa_of ha ⟨xs, hg, hp _ ⟨rfl, rfl⟩⟩) hj he hpl
theorem ev_bty {id : String} {P : List D → (D → Prop) → Prop} (hb : Blt X nm (.type id)) (ho : DCall X n c (.type id) P) (j : Nat) (ha : EA X n c Γ (e :: es) ks) (hp : ∀ Post : D → Prop, Post z → P xs Post) (hg : gets Γ ks = some xs := by rfl)
    (hj : n.GN[j]? = some nm := by rfl) (he : starEach (e :: es) X.env = (false, eval e X.env) :: starEach es X.env := by exact se_c rfl) (hpl : (backTo pos (starEach es X.env)).any (·.1) = false := by exact se_any rfl) : EV X n c Γ (.Call (.Name nm p) (e :: es) [] pos) z :=
  we_bty hb ho j (wa_of ha ⟨xs, hg, hp _ ⟨rfl, rfl⟩⟩) hj he hpl
theorem eo_bty {id : String} {o : OB} {P : List D → (OB → Prop) → Prop} (hb : Blt X nm (.type id)) (ho : DCallO X n c (.type id) P) (j : Nat) (ha : EA X n c Γ (e :: es) ks) (hp : ∀ Post : OB → Prop, Post o → P xs Post) (hg : gets Γ ks = some xs := by rfl)
    (hj : n.GN[j]? = some nm := by rfl) (he : starEach (e :: es) X.env = (false, eval e X.env) :: starEach es X.env := by exact se_c rfl) (hpl : (backTo pos (starEach es X.env)).any (·.1) = false := by exact se_any rfl) : EO X n c Γ (.Call (.Name nm p) (e :: es) [] pos) o :=
  wo_bty hb ho j (wa_of ha ⟨xs, hg, hp _ ⟨rfl, rfl⟩⟩) hj he hpl
/-- len -/
def D.len : D → Option Nat
  | .lst xs => some xs.length
  | .tup xs => some xs.length
  | .str x => some x.length
  | _ => none
def PLen : List D → (D → Prop) → Prop := fun xs Post => ∃ x m, xs = [x] ∧ x.len = some m ∧ (∀ z, x = .str z → z.length ≤ sizeLine) ∧ Post (.int (m : Int))
theorem dc_len : DCall X n c (.builtin "len") PLen := fun _ => ⟨_, call_len, fun Γ σ R H xs vs Post s hx ⟨x, m, e1, e2, hz, p⟩ Q q => by
  subst e1
  obtain ⟨v, rfl, h1⟩ := hx.get1
  refine ⟨v, m, rfl, ?_, q (.int (m : Int)) R H (.int (m : Int)) s (Ex.refl _) rfl p⟩
  cases x with
  | lst xs => obtain ⟨a, vs, rfl, h2, h3⟩ := h1.lst s.rh; cases e2; exact .inl ⟨vs, .inl (.inl h2), h3.length⟩
  | tup xs => obtain ⟨a, vs, rfl, h2, h3⟩ := h1.tup s.rh; cases e2; exact .inr ⟨vs, h2, h3.length⟩
  | str y => cases h1.str; cases e2; exact ⟨hz y rfl, rfl⟩
  | _ => cases e2⟩
theorem ev_len {m : Nat} (hb : Blt X "len" (.builtin "len")) (j : Nat) (ha : EK X n c Γ e k) (hm : x.len = some m := by rfl) (hz : ∀ z, x = .str z → z.length ≤ sizeLine := by intro _ h; cases h) (hg : k.get Γ = some x := by rfl) (hj : n.GN[j]? = some ("len" : Str) := by rfl)
    (he : starEach [e] X.env = (false, eval e X.env) :: starEach [] X.env := by exact se_c rfl) (hpl : (backTo pos (starEach [] X.env)).any (·.1) = false := by exact se_any rfl) : EV X n c Γ (.Call (.Name "len" p) [e] [] pos) (.int (m : Int)) :=
  ev_blt hb dc_len j (ea_cons ha ea_nil he) (xs := [x]) (fun _ p => ⟨x, m, rfl, hm, hz, p⟩) (by simp [gets, hg]) hj he hpl
/-- abs, max, min, int -/
theorem dc_abs : DCall X n c (.builtin "abs") (fun xs Post => ∃ i, xs = [.int i] ∧ Post (.int (if i < 0 then -i else i))) := fun _ => ⟨_, call_abs, fun Γ σ R H xs vs Post s hx ⟨i, e1, p⟩ Q q => by
  subst e1
  obtain ⟨v, rfl, h1⟩ := hx.get1
  cases h1.int
  exact ⟨i, rfl, q (.int (if i < 0 then -i else i)) R H (.int (if i < 0 then -i else i)) s (Ex.refl _) rfl p⟩⟩
theorem dc_max (hh : n.hot = false := by rfl) : DCall X n c (.builtin "max") (fun xs Post => ∃ i j, xs = [.int i, .int j] ∧ Post (.int (if j > i then j else i))) := fun hn => ⟨_, call_max2 (hn.calm hh), fun Γ σ R H xs vs Post s hx ⟨i, j, e1, p⟩ Q q => by
  subst e1
  obtain ⟨v, w, rfl, h1, h2⟩ := hx.get2
  cases h1.int; cases h2.int
  exact ⟨i, j, rfl, q (.int (if j > i then j else i)) R H (.int (if j > i then j else i)) s (Ex.refl _) rfl p⟩⟩
theorem dc_int : DCall X n c (.type "int") (fun xs Post => (∃ i, xs = [.int i] ∧ Post (.int i)) ∨ ∃ b, xs = [.bl b] ∧ Post (.int (if b then 1 else 0))) := fun hn => ⟨_, call_int1, fun Γ σ R H xs vs Post s hx hp Q q => by
  rcases hp with ⟨i, e1, p⟩ | ⟨b, e1, p⟩
  · subst e1
    obtain ⟨v, rfl, h1⟩ := hx.get1
    cases h1.int
    exact .inl ⟨i, rfl, q (.int i) R H (.int i) s (Ex.refl _) rfl p⟩
  · subst e1
    obtain ⟨v, rfl, h1⟩ := hx.get1
    cases h1.bl
    exact .inr ⟨b, rfl, q (.int (if b then 1 else 0)) R H (.int (if b then 1 else 0)) s (Ex.refl _) rfl p⟩⟩
theorem ev_abs (hb : Blt X "abs" (.builtin "abs")) (j : Nat) (ha : EV X n c Γ e (.int i)) (hj : n.GN[j]? = some ("abs" : Str) := by rfl) (he : starEach [e] X.env = (false, eval e X.env) :: starEach [] X.env := by exact se_c rfl) (hpl : (backTo pos (starEach [] X.env)).any (·.1) = false := by exact se_any rfl) : EV X n c Γ (.Call (.Name "abs" p) [e] [] pos) (.int (if i < 0 then -i else i)) :=
  ev_blt hb dc_abs j (ea_cons (ek_d ha) ea_nil he) (fun _ p => ⟨i, rfl, p⟩) rfl hj he hpl
theorem ev_max {jj : Int} (hb : Blt X "max" (.builtin "max")) (j : Nat) (ha : EV X n c Γ a (.int i)) (hb' : EV X n c Γ b (.int jj)) (hj : n.GN[j]? = some ("max" : Str) := by rfl) (hh : n.hot = false := by rfl) (he : starEach [a, b] X.env = (false, eval a X.env) :: starEach [b] X.env := by exact se_c rfl) (he2 : starEach [b] X.env = (false, eval b X.env) :: starEach [] X.env := by exact se_c rfl) (hpl : (backTo pos (starEach [b] X.env)).any (·.1) = false := by exact se_any rfl) :
    EV X n c Γ (.Call (.Name "max" p) [a, b] [] pos) (.int (if jj > i then jj else i)) := ev_blt hb (dc_max hh) j (ea_cons (ek_d ha) (ea_cons (ek_d hb') ea_nil he2) he) (fun _ p => ⟨i, jj, rfl, p⟩) rfl hj he hpl
theorem ev_toint (hb : Blt X "int" (.type "int")) (j : Nat) (ha : EV X n c Γ e (.int i)) (hj : n.GN[j]? = some ("int" : Str) := by rfl) (he : starEach [e] X.env = (false, eval e X.env) :: starEach [] X.env := by exact se_c rfl) (hpl : (backTo pos (starEach [] X.env)).any (·.1) = false := by exact se_any rfl) : EV X n c Γ (.Call (.Name "int" p) [e] [] pos) (.int i) :=
  ev_bty hb dc_int j (ea_cons (ek_d ha) ea_nil he) (fun _ p => .inl ⟨i, rfl, p⟩) rfl hj he hpl
theorem ev_tointb {bb : Bool} (hb : Blt X "int" (.type "int")) (j : Nat) (ha : EV X n c Γ e (.bl bb)) (hj : n.GN[j]? = some ("int" : Str) := by rfl) (he : starEach [e] X.env = (false, eval e X.env) :: starEach [] X.env := by exact se_c rfl) (hpl : (backTo pos (starEach [] X.env)).any (·.1) = false := by exact se_any rfl) : EV X n c Γ (.Call (.Name "int" p) [e] [] pos) (.int (if bb then 1 else 0)) :=
  ev_bty hb dc_int j (ea_cons (ek_d ha) ea_nil he) (fun _ p => .inr ⟨bb, rfl, p⟩) rfl hj he hpl
/-- list(xs), tuple(xs) -/
def D.seq : D → Option (List D)
  | .lst xs => some xs
  | .tup xs => some xs
  | _ => none
theorem dc_list : DCallO X n c (.type "list") (fun xs Post => ∃ x ds, xs = [x] ∧ x.seq = some ds ∧ Post (.lst ds)) := fun hn => ⟨_, call_list_of, fun Γ σ R H xs vs Post s hx ⟨x, ds, e1, e2, p⟩ Q q => by
  subst e1
  obtain ⟨v, rfl, h1⟩ := hx.get1
  have fin : ∀ (us : List V), RpL X.K R ds us → ∀ l, H l = none → Q (.ref l) (upd H l (.lst us)) := fun us hu l hl => by
    have g := s.newOwn (.lst us) hl
    refine q _ R _ (.lst ds) (s.grow g) (Ex.refl _) ⟨l, rfl, ⟨us, upd_same, hu⟩, s.rh.back hl, ?_, fun i o z1 z2 => ?_⟩ p
    · cases z : c.H0 l with
      | none => rfl
      | some u => exact absurd hl (s.pr l (by rw [z]; simp))
    · obtain ⟨w, u1, b, u2, u3, _⟩ := s.sl i _ z1
      rw [z2] at u1; cases u1; cases u2
      exact u3.there hl
  cases x with
  | lst xs => obtain ⟨a, us, rfl, h2, h3⟩ := h1.lst s.rh; cases e2; exact ⟨a, us, rfl, .inl (.inl (.inl h2)), fin us h3⟩
  | tup xs => obtain ⟨a, us, rfl, h2, h3⟩ := h1.tup s.rh; cases e2; exact ⟨a, us, rfl, .inr h2, fin us h3⟩
  | _ => cases e2⟩
theorem dc_tuple : DCall X n c (.type "tuple") (fun xs Post => ∃ x ds, xs = [x] ∧ x.seq = some ds ∧ Post (.tup ds)) := fun hn => ⟨_, call_tuple_of, fun Γ σ R H xs vs Post s hx ⟨x, ds, e1, e2, p⟩ Q q => by
  subst e1
  obtain ⟨v, rfl, h1⟩ := hx.get1
  cases x with
  | lst xs =>
    obtain ⟨a, us, rfl, h2, h3⟩ := h1.lst s.rh; cases e2
    refine ⟨a, us, rfl, .inl ⟨.inl (.inl h2), fun l hl => ?_⟩⟩
    have g := s.new (.tup us) hl
    exact q _ _ _ (.tup ds) (s.grow g) g.r ⟨l, us, rfl, .inl (.inl upd_same), h3.mono g.r⟩ p
  | tup xs =>
    rcases h1 with ⟨a, us, rfl, h2, h3⟩ | ⟨a, us, es, h1, h2, _⟩ | ⟨a, us, es, h1, h2, _⟩ | ⟨a, dx, us, nm, fs, h1, h2, _⟩
    · cases e2; exact ⟨a, us, rfl, .inr ⟨ex_t s.rh h2, q _ R H (.tup ds) s (Ex.refl _) ⟨a, us, rfl, h2, h3⟩ p⟩⟩
    · cases h2
    · cases h2
    · cases h2
  | _ => cases e2⟩
theorem eo_list {ds : List D} (hb : Blt X "list" (.type "list")) (j : Nat) (ha : EK X n c Γ e k) (hs : x.seq = some ds := by rfl) (hg : k.get Γ = some x := by rfl) (hj : n.GN[j]? = some ("list" : Str) := by rfl) (he : starEach [e] X.env = (false, eval e X.env) :: starEach [] X.env := by exact se_c rfl) (hpl : (backTo pos (starEach [] X.env)).any (·.1) = false := by exact se_any rfl) :
    EO X n c Γ (.Call (.Name "list" p) [e] [] pos) (.lst ds) := eo_bty hb dc_list j (ea_cons ha ea_nil he) (xs := [x]) (fun _ p => ⟨x, ds, rfl, hs, p⟩) (by simp [gets, hg]) hj he hpl
theorem ev_tuple {ds : List D} (hb : Blt X "tuple" (.type "tuple")) (j : Nat) (ha : EK X n c Γ e k) (hs : x.seq = some ds := by rfl) (hg : k.get Γ = some x := by rfl) (hj : n.GN[j]? = some ("tuple" : Str) := by rfl) (he : starEach [e] X.env = (false, eval e X.env) :: starEach [] X.env := by exact se_c rfl) (hpl : (backTo pos (starEach [] X.env)).any (·.1) = false := by exact se_any rfl) :
    EV X n c Γ (.Call (.Name "tuple" p) [e] [] pos) (.tup ds) := ev_bty hb dc_tuple j (ea_cons ha ea_nil he) (xs := [x]) (fun _ p => ⟨x, ds, rfl, hs, p⟩) (by simp [gets, hg]) hj he hpl

/-! ### subscripts -/
def DIx (X : Cx) (n : Nm) (c : Cc) (P : D → D → (D → Prop) → Prop) : Prop := NOk X n c → ∃ r, IxR X r ∧
  ∀ Γ σ R H x y v w Post, SOk X.K c Γ σ R H → Wk X.K R H x v → Wk X.K R H y w → P x y Post → ∀ Q : VK,
    (∀ u R' H' z, SOk X.K c Γ σ R' H' → Ex R R' → Rp X.K R' z u → Post z → Q u H') → r v w H Q
theorem we_ix {P : D → D → (D → Prop) → Prop} {Post : D → SL → Prop} (ho : DIx X n c P) (h : WK X n c Γ a fun k Γ1 => WK X n c Γ1 b fun l Γ2 => ∃ x y, k.get Γ2 = some x ∧ l.get Γ2 = some y ∧ P x y fun z => Post z Γ2) (hs : PlainIx b := by intro _ _; rfl) : WE X n c Γ (.Subscript a b pos) Post := .mk fun hn σ R H s Q q => by
  obtain ⟨r, h1, h2⟩ := ho hn
  refine (pe_ix h1 pW pW hs).w (h.run hn σ R H s _ fun v R1 H1 k Γ1 s1 e1 r1 p1 => p1.run hn σ R1 H1 s1 _ fun w R2 H2 l Γ2 s2 e2 r2 ⟨x, y, g1, g2, p2⟩ => ?_)
  exact h2 Γ2 σ R2 H2 x y v w _ s2 ((r1.mono e2).wk s2 g1) (r2.wk s2 g2) p2 Q fun u R' H' z s' e' r' p' => q u R' H' z Γ2 s' (e1.trans (e2.trans e')) r' p'
theorem atI_rp {K : PySem.W.Frag} {R : Hp} {ds : List D} {vs : List V} {i : Int} {d : D} (h : RpL K R ds vs) (e : atI ds i = some d) : ∃ v, atI vs i = some v ∧ Rp K R d v := by
  unfold atI at e ⊢
  rw [← h.length]
  obtain ⟨j, e1, e2⟩ := Option.bind_eq_some_iff.mp e
  obtain ⟨v, h1, h2⟩ := h.get e2
  exact ⟨v, by rw [e1]; exact h1, h2⟩
def D.at (x : D) (i : Int) : Option D := match x with
  | .lst ds => atI ds i
  | .tup ds => atI ds i
  | .str z => if z.length ≤ sizeLine then (atI z.cps.toList i).map fun c => .str ⟨#[c]⟩ else none
  | _ => none
def PIx : D → D → (D → Prop) → Prop := fun x y Post => ∃ i z, y = .int i ∧ x.at i = some z ∧ Post z
theorem di_seq : DIx X n c PIx := fun _ => ⟨_, ix_seq, fun Γ σ R H x y v w Post s hx hy ⟨i, z, e1, e2, p⟩ Q q => by
  subst e1
  cases hy.int
  cases x with
  | lst ds =>
    obtain ⟨a, vs, rfl, h2, h3⟩ := hx.lst s.rh
    obtain ⟨u, h4, h5⟩ := atI_rp h3 e2
    exact .inl ⟨a, vs, i, u, rfl, rfl, .inl (.inl h2), h4, q u R H z s (Ex.refl _) h5 p⟩
  | tup ds =>
    obtain ⟨a, vs, rfl, h2, h3⟩ := hx.tup s.rh
    obtain ⟨u, h4, h5⟩ := atI_rp h3 e2
    exact .inr (.inl ⟨a, vs, i, u, rfl, rfl, h2, h4, q u R H z s (Ex.refl _) h5 p⟩)
  | str y =>
    cases hx.str
    have e3 : (if y.length ≤ sizeLine then (atI y.cps.toList i).map fun c => D.str ⟨#[c]⟩ else none) = some z := e2
    split at e3
    · rename_i hz
      obtain ⟨c, e4, e5⟩ := Option.map_eq_some_iff.mp e3
      subst e5
      exact .inr (.inr ⟨y, i, c, rfl, rfl, hz, e4, q (.str ⟨#[c]⟩) R H (.str ⟨#[c]⟩) s (Ex.refl _) rfl p⟩)
    · cases e3
  | _ => cases e2⟩
theorem ev_ix (ha : EK X n c Γ a k) (hb : EV X n c Γ b (.int i)) (h : x.at i = some z) (hg : k.get Γ = some x := by rfl) (hs : PlainIx b := by intro _ _; rfl) : EV X n c Γ (.Subscript a b pos) z :=
  we_ix di_seq (wk_ek ha (wk_ek (ek_d hb) ⟨x, _, hg, rfl, i, z, rfl, h, rfl, rfl⟩)) hs
/-- t[0], t[1], .. of a written tuple -/
theorem ev_ixt (ha : EV X n c Γ a x) (hb : EV X n c Γ b (.int i)) (h : x.at i = some z := by rfl) (hs : PlainIx b := by intro _ _; rfl) : EV X n c Γ (.Subscript a b pos) z := ev_ix (ek_d ha) hb h rfl hs

/-! ### displays -/
def dats : List AK → Option (List D)
  | [] => some []
  | .d x :: ks => (dats ks).map (x :: ·)
  | _ => none
theorem dats_ok {K : PySem.W.Frag} {R : Hp} {σ : St} : ∀ {ks : List AK} {vs : List V} {xs : List D}, AksOk K R σ ks vs → dats ks = some xs → RpL K R xs vs
  | [], _, _, h, e => by cases e; exact h
  | k :: ks, _, _, ⟨v, ws, h1, h2, h3⟩, e => by
    cases k with
    | d x => obtain ⟨ys, e1, e2⟩ := Option.map_eq_some_iff.mp e; subst e2; exact ⟨v, ws, h1, h2, dats_ok h3 e1⟩
    | _ => cases e
theorem we_tup {x1} {Post : D → SL → Prop} (h : WA X n c Γ es fun ks Γ' => ∃ xs, dats ks = some xs ∧ xs.length ≤ 1000 ∧ Post (.tup xs) Γ') : WE X n c Γ (.Tuple es x1 pos) Post := .mk fun hn σ R H s Q q =>
  (pe_tup pWA).w (h.run hn σ R H s _ fun vs R1 H1 ks Γ1 s1 e1 r1 ⟨xs, hx, hz, px⟩ => by
    have hr := dats_ok r1 hx
    refine ⟨by have := hr.length; rw [sizeLine_eq]; omega, fun l hl => ?_⟩
    have g := s1.new (.tup vs) hl
    exact q _ _ _ (.tup xs) Γ1 (s1.grow g) (e1.trans g.r) ⟨l, vs, rfl, .inl (.inl upd_same), hr.mono g.r⟩ px)
theorem VOk.fresh {K : PySem.W.Frag} {σ : St} {R H : Hp} {l : Addr} {ob : OB} (s : SOk K c Γ σ R H) {o : HO} (hl : H l = none) (h : OBOk K R (upd H l o) l ob) : VOk K c Γ σ R (upd H l o) (.own ob) (.ref l) := by
  refine ⟨l, rfl, h, s.rh.back hl, ?_, fun i o z1 z2 => ?_⟩
  · cases z : c.H0 l with
    | none => rfl
    | some u => exact absurd hl (s.pr l (by rw [z]; simp))
  · obtain ⟨w, u1, b, u2, u3, _⟩ := s.sl i _ z1
    rw [z2] at u1; cases u1; cases u2
    exact u3.there hl
theorem wo_lst {Post : OB → SL → Prop} (h : WA X n c Γ es fun ks Γ' => ∃ xs, dats ks = some xs ∧ xs.length ≤ 1000 ∧ Post (.lst xs) Γ') : WO X n c Γ (.List es pos) Post := .mk fun hn σ R H s Q q =>
  (pe_lst pWA).w (h.run hn σ R H s _ fun vs R1 H1 ks Γ1 s1 e1 r1 ⟨xs, hx, hz, px⟩ => by
    have hr := dats_ok r1 hx
    refine ⟨by have := hr.length; rw [sizeLine_eq]; omega, fun l hl => ?_⟩
    have g := s1.newOwn (.lst vs) hl
    exact q _ _ _ (.lst xs) Γ1 (s1.grow g) (e1.trans g.r) (.fresh s1 hl ⟨vs, upd_same, hr⟩) px)
theorem ev_tup {x1} (h : EA X n c Γ es ks) (hx : dats ks = some xs := by rfl) (hz : Nat.ble xs.length 1000 = true := by rfl) : EV X n c Γ (.Tuple es x1 pos) (.tup xs) := we_tup (wa_of h ⟨xs, hx, Nat.le_of_ble_eq_true hz, rfl, rfl⟩)
theorem eo_lst (h : EA X n c Γ es ks) (hx : dats ks = some xs := by rfl) (hz : Nat.ble xs.length 1000 = true := by rfl) : EO X n c Γ (.List es pos) (.lst xs) := wo_lst (wa_of h ⟨xs, hx, Nat.le_of_ble_eq_true hz, rfl, rfl⟩)

/-! ### list + list, slices -/
theorem wo_cat {Post : OB → SL → Prop} (h : WK X n c Γ a fun k Γ1 => WK X n c Γ1 b fun l Γ2 => ∃ xs ys, k.get Γ2 = some (.lst xs) ∧ l.get Γ2 = some (.lst ys) ∧ xs.length + ys.length ≤ 1000000 ∧ Post (.lst (xs ++ ys)) Γ2) : WO X n c Γ (.BinOp a .Add b pos) Post := .mk fun hn σ R H s Q q =>
  (pe_op op_cat pW pW).w (h.run hn σ R H s _ fun v R1 H1 k Γ1 s1 e1 r1 p1 => p1.run hn σ R1 H1 s1 _ fun w R2 H2 l Γ2 s2 e2 r2 ⟨xs, ys, g1, g2, hz, p2⟩ => by
    obtain ⟨a1, vs, rfl, h2, h3⟩ := ((r1.mono e2).wk s2 g1).lst s2.rh
    obtain ⟨a2, ws, rfl, h4, h5⟩ := (r2.wk s2 g2).lst s2.rh
    refine ⟨a1, a2, vs, ws, rfl, rfl, h2, h4, by rw [← h3.length, ← h5.length, sizeLine_eq]; omega, fun m hm => ?_⟩
    have g := s2.newOwn (.lst (vs ++ ws)) hm
    exact q _ _ _ (.lst (xs ++ ys)) Γ2 (s2.grow g) ((e1.trans e2).trans g.r) (.fresh s2 hm ⟨_, upd_same, h3.append h5⟩) p2)
theorem eo_cat {xs ys : List D} (ha : EK X n c Γ a k) (hb : EK X n c Γ b l) (hz : xs.length + ys.length ≤ 1000000) (ga : k.get Γ = some (.lst xs) := by rfl) (gb : l.get Γ = some (.lst ys) := by rfl) : EO X n c Γ (.BinOp a .Add b pos) (.lst (xs ++ ys)) :=
  wo_cat (wk_ek ha (wk_ek hb ⟨xs, ys, ga, gb, hz, rfl, rfl⟩))
def cutD (xs : List D) (lo hi : Option Int) : List D := (xs.drop (HT.sIx xs.length 0 lo)).take (HT.sIx xs.length xs.length hi - HT.sIx xs.length 0 lo)
theorem RpL.cut {K : PySem.W.Frag} {R : Hp} {ds : List D} {vs : List V} (h : RpL K R ds vs) (lo hi : Option Int) : RpL K R (cutD ds lo hi) (cutV vs lo hi) := by
  unfold cutD cutV
  rw [h.length]
  exact (h.drop _).take _
/-- a part of a slice -/
def EP1 (X : Cx) (n : Nm) (c : Cc) (Γ : SL) (e : Option Expr) (o : Option Int) : Prop := match e, o with
  | none, none => True
  | some e, some i => EV X n c Γ e (.int i)
  | _, _ => False
def tP1 (X : Cx) : Option Expr → TO
  | none => tNoPart
  | some e => tPart (tW X e)
theorem pP1 : ∀ {e : Option Expr}, PO X e (tP1 X e)
  | none => po_none
  | some _ => po_some pW
theorem EP1.run {e : Option Expr} {o : Option Int} (h : EP1 X n c Γ e o) (hn : NOk X n c) {σ R H} (s : SOk X.K c Γ σ R H) (Q : Option Int → Hp → Prop) (q : ∀ R' H', SOk X.K c Γ σ R' H' → Ex R R' → Q o H') : tP1 X e σ H Q := by
  cases e with
  | none => cases o with
    | none => exact q R H s (Ex.refl _)
    | some _ => exact h.elim
  | some e => cases o with
    | none => exact h.elim
    | some i => exact (WE.mono (P' := fun y Γ' => y = .int i ∧ Γ' = Γ) h (fun _ _ h => h)).run hn σ R H s _ fun v R' H' x Γ' s' e' r ⟨h1, h2⟩ => by subst h1 h2; exact ⟨i, r, q R' H' s' e'⟩
theorem eo_slice {lo hi : Option Expr} {l1 h1 : Option Int} {p2 : Pos} {xs : List D} (ha : EK X n c Γ a k) (hl : EP1 X n c Γ lo l1) (hh : EP1 X n c Γ hi h1) (ga : k.get Γ = some (.lst xs) := by rfl) : EO X n c Γ (.Subscript a (.Slice lo hi none p2) pos) (.lst (cutD xs l1 h1)) := .mk fun hn σ R H s Q q =>
  (pe_slice sl_list pW pP1 pP1).w (ha.run hn σ R H s _ fun v R1 H1 k' Γ1 s1 e1 r1 ⟨g1, g2⟩ => by
    subst g1 g2
    exact hl.run hn s1 _ fun R2 H2 s2 e2 => hh.run hn s2 _ fun R3 H3 s3 e3 => by
      obtain ⟨a1, vs, rfl, h2, h3⟩ := (((r1.mono e2).mono e3).wk s3 ga).lst s3.rh
      refine ⟨a1, vs, rfl, .inl (.inl h2), fun m hm => ?_⟩
      have g := s3.newOwn (.lst (cutV vs l1 h1)) hm
      exact q _ _ _ (.lst (cutD xs l1 h1)) _ (s3.grow g) (((e1.trans e2).trans e3).trans g.r) (.fresh s3 hm ⟨_, upd_same, h3.cut _ _⟩) ⟨rfl, rfl⟩)
end
end DL

end
section
set_option Elab.async false
set_option linter.all false
set_option autoImplicit true
set_option maxRecDepth 100000
set_option maxHeartbeats 400000
namespace DL
open PySem L2
open PyProof.Rows hiding St

structure DE where
  nx : SL → Prop
  rt : Res → SL → Prop
  bk : SL → Prop := fun _ => False
  ct : SL → Prop := fun _ => False
structure EndsOk (K : PySem.W.Frag) (c : Cc) (R : Hp) (D : DE) (E : Ends) : Prop where
  nx : ∀ σ R' H Γ, SOk K c Γ σ R' H → Ex R R' → D.nx Γ → E.nx σ H
  rt : ∀ v σ R' H Γ r, SOk K c Γ σ R' H → Ex R R' → VOk K c Γ σ R' H r v → D.rt r Γ → E.rt v H
  bk : ∀ σ R' H Γ, SOk K c Γ σ R' H → Ex R R' → D.bk Γ → E.bk σ H
  ct : ∀ σ R' H Γ, SOk K c Γ σ R' H → Ex R R' → D.ct Γ → E.ct σ H
theorem EndsOk.mono {K : PySem.W.Frag} {c : Cc} {R R1 : Hp} {D : DE} {E : Ends} (h : EndsOk K c R D E) (e : Ex R R1) : EndsOk K c R1 D E :=
  ⟨fun σ R' H Γ s e' => h.nx σ R' H Γ s (e.trans e'), fun v σ R' H Γ r s e' => h.rt v σ R' H Γ r s (e.trans e'), fun σ R' H Γ s e' => h.bk σ R' H Γ s (e.trans e'), fun σ R' H Γ s e' => h.ct σ R' H Γ s (e.trans e')⟩
structure WS (X : Cx) (n : Nm) (c : Cc) (Γ : SL) (st : Stmt) (D : DE) : Prop where
  run : NOk X n c → ∀ σ R H, SOk X.K c Γ σ R H → ∀ E : Ends, EndsOk X.K c R D E → tWS X st E σ H
structure WB (X : Cx) (n : Nm) (c : Cc) (Γ : SL) (st : List Stmt) (D : DE) : Prop where
  run : NOk X n c → ∀ σ R H, SOk X.K c Γ σ R H → ∀ E : Ends, EndsOk X.K c R D E → tWB X st E σ H

section
variable {K : PySem.W.Frag} {c : Cc} {Γ : SL} {σ : St} {R H R' H' : Hp}
def OB.isL : OB → Bool
  | .dic _ => false
  | .ins _ _ => false
  | .lstA _ _ => false
  | .lstV _ _ _ => false
  | .dicA _ _ => false
  | _ => true
def Slot.isOwn : Slot → Bool
  | .own _ => true
  | _ => false
/-- a slot is stored to -/
theorem SOk.set (s : SOk K c Γ σ R H) (i : Nat) {v : Option V} {sl : Slot} (hs : sl.isOwn = false) (h : SlotOk K c R H sl v) (hi : i ∉ c.oi.map (·.1)) : SOk K c (Γ.set i sl) (σ.set i v) R H := by
  refine ⟨s.rh, s.r0, s.hm, s.pr, s.un, by simp [s.len], fun j x e => ?_, fun j k a o o' e1 e2 e3 e4 => ?_, fun p hp => ?_⟩
  · by_cases hj : i = j
    · subst hj
      have hl : i < Γ.length := by have := (List.getElem?_eq_some_iff.mp e).1; simpa using this
      rw [List.getElem?_set_self hl] at e; cases e
      exact ⟨v, List.getElem?_set_self (by rw [← s.len]; exact hl), h⟩
    · rw [List.getElem?_set_ne hj] at e ⊢
      exact s.sl j x e
  · have ne : ∀ (j : Nat) (o : OB), (Γ.set i sl)[j]? = some (.own o) → i ≠ j := fun j o e z => by
      subst z
      have hl : i < Γ.length := by have := (List.getElem?_eq_some_iff.mp e).1; simpa using this
      rw [List.getElem?_set_self hl] at e; cases e; cases hs
    have n1 := ne j o e1
    have n2 := ne k o' e2
    rw [List.getElem?_set_ne n1] at e1 e3
    rw [List.getElem?_set_ne n2] at e2 e4
    exact s.dj j k a o o' e1 e2 e3 e4
  · have hn : i ≠ p.1 := fun z => hi (by rw [z]; exact List.mem_map_of_mem hp)
    rw [List.getElem?_set_ne hn, List.getElem?_set_ne hn]
    exact s.oi p hp
theorem SOk.setD (s : SOk K c Γ σ R H) (i : Nat) {v : V} {x : D} (h : Rp K R x v) (hi : i ∉ c.oi.map (·.1)) : SOk K c (Γ.set i (.d x)) (σ.set i (some v)) R H := s.set i (sl := .d x) rfl ⟨v, rfl, h⟩ hi
theorem SOk.setO (s : SOk K c Γ σ R H) (i : Nat) {v : V} {o : OB} (h : VOk K c Γ σ R H (.own o) v) (hi : i ∉ c.oi.map (·.1)) : SOk K c (Γ.set i (.own o)) (σ.set i (some v)) R H := by
  obtain ⟨a, rfl, h2, h3, h4, h5⟩ := h
  refine ⟨s.rh, s.r0, s.hm, s.pr, s.un, by simp [s.len], fun j x e => ?_, fun j k b o1 o2 e1 e2 e3 e4 => ?_, fun p hp => ?_⟩
  · by_cases hj : i = j
    · subst hj
      have hl : i < Γ.length := by have := (List.getElem?_eq_some_iff.mp e).1; simpa using this
      rw [List.getElem?_set_self hl] at e; cases e
      exact ⟨_, List.getElem?_set_self (by rw [← s.len]; exact hl), a, rfl, h2, h3, .inl h4⟩
    · rw [List.getElem?_set_ne hj] at e ⊢
      exact s.sl j x e
  · have at_i : ∀ b, (σ.set i (some (.ref a)))[i]? = some (some (.ref b)) → b = a := fun b e => by
      have hl : i < σ.length := by have := (List.getElem?_eq_some_iff.mp e).1; simpa using this
      rw [List.getElem?_set_self hl] at e; cases e; rfl
    by_cases hj : i = j
    · by_cases hk : i = k
      · exact hj.symm.trans hk
      · subst hj
        have := at_i b e3; subst this
        rw [List.getElem?_set_ne hk] at e2 e4
        exact absurd e4 (h5 k o2 e2)
    · by_cases hk : i = k
      · subst hk
        have := at_i b e4; subst this
        rw [List.getElem?_set_ne hj] at e1 e3
        exact absurd e3 (h5 j o1 e1)
      · rw [List.getElem?_set_ne hj] at e1 e3
        rw [List.getElem?_set_ne hk] at e2 e4
        exact s.dj j k b o1 o2 e1 e2 e3 e4
  · have hn : i ≠ p.1 := fun z => hi (by rw [z]; exact List.mem_map_of_mem hp)
    rw [List.getElem?_set_ne hn, List.getElem?_set_ne hn]
    exact s.oi p hp
/-- what slot i owns is changed -/
theorem SOk.mut (s : SOk K c Γ σ R H) (i : Nat) {a : Addr} {ob ob' : OB} {o : HO} (hΓ : Γ[i]? = some (.own ob)) (hσ : σ[i]? = some (some (.ref a))) (h : OBOk K R (upd H a o) a ob') : SOk K c (Γ.set i (.own ob')) σ R (upd H a o) := by
  obtain ⟨w, w1, b, w2, w3, w4, w5⟩ := s.sl i _ hΓ
  rw [hσ] at w1; cases w1; cases w2
  have hl : i < Γ.length := (List.getElem?_eq_some_iff.mp hΓ).1
  have un : ∀ (j : Nat) (o : OB), (Γ.set i (.own ob'))[j]? = some (.own o) → ∃ o, Γ[j]? = some (.own o) := fun j o e => by
    by_cases hj : i = j
    · subst hj; exact ⟨_, hΓ⟩
    · rw [List.getElem?_set_ne hj] at e; exact ⟨o, e⟩
  refine ⟨fun b u e => ?_, s.r0, fun b u n e => ?_, fun b n => ?_, s.un, by simp [s.len], fun j x e => ?_, fun j k b o1 o2 e1 e2 e3 e4 => ?_, fun p hp => ?_⟩
  · rw [upd_ne (fun z => by rw [z, w4] at e; cases e)]; exact s.rh b u e
  · rw [upd_ne (fun z => by
      rcases w5 with w5 | w5
      · rw [z, w5] at e; cases e
      · exact n (z ▸ w5))]
    exact s.hm b u n e
  · by_cases z : b = a
    · subst z; rw [upd_same]; simp
    · rw [upd_ne z]; exact s.pr b n
  · by_cases hj : i = j
    · subst hj
      rw [List.getElem?_set_self hl] at e; cases e
      exact ⟨_, hσ, a, rfl, h, w4, w5⟩
    · rw [List.getElem?_set_ne hj] at e
      obtain ⟨u, u1, u2⟩ := s.sl j x e
      refine ⟨u, u1, ?_⟩
      cases x with
      | no => exact u2
      | any => exact u2
      | d x => exact u2
      | sc ns => exact u2
      | ex _ _ _ => exact u2
      | bx _ _ _ => exact u2
      | tn _ _ _ => exact u2
      | lk _ => exact u2
      | w x => obtain ⟨v, z1, z2⟩ := u2; exact ⟨v, z1, z2.mono (Ex.refl _) fun b o nb q => by rw [upd_ne (fun z => nb (by rw [z]; exact w5))]; exact q⟩
      | own o2 =>
        obtain ⟨b, z1, z2, z3, z4⟩ := u2
        subst z1
        refine ⟨b, rfl, z2.mono (Ex.refl _) fun o q => ?_, z3, z4⟩
        rw [upd_ne (fun z => by subst z; exact hj (s.dj i j b ob o2 hΓ e hσ u1))]; exact q
  · obtain ⟨u, z1⟩ := un j o1 e1
    obtain ⟨u', z2⟩ := un k o2 e2
    exact s.dj j k b u u' z1 z2 e3 e4
  · obtain ⟨w1, o, w2⟩ := s.oi p hp
    refine ⟨w1, ?_⟩
    by_cases hj : i = p.1
    · rw [← hj, List.getElem?_set_self hl]; exact ⟨_, rfl⟩
    · rw [List.getElem?_set_ne hj]; exact ⟨o, w2⟩
end

section
variable {X : Cx} {n : Nm} {c : Cc} {Γ : SL} {e a b : Expr} {x y z : D} {pos p : Pos} {nm : Str} {es : List Expr} {k l : AK} {ks : List AK} {xs : List D} {st : Stmt} {rest : List Stmt} {D : DE}
theorem NOk.noi (hn : NOk X n c) {i : Nat} (h : n.oi.contains i = false) : i ∉ c.oi.map (·.1) := fun z => by
  rw [hn.oi] at z
  rw [List.contains_eq_mem] at h
  simp [z] at h
theorem wb_nil (h : D.nx Γ) : WB X n c Γ [] D := .mk fun hn σ R H s E ok => pss_nil.w (ok.nx σ R H Γ s (Ex.refl _) h)
theorem wb_cons (h : WS X n c Γ st { D with nx := fun Γ' => WB X n c Γ' rest D }) : WB X n c Γ (st :: rest) D := .mk fun hn σ R H s E ok =>
  (pss_cons pWS pWB).w (h.run hn σ R H s _ ⟨fun σ' R' H' Γ' s' e w => w.run hn σ' R' H' s' E (ok.mono e), ok.rt, ok.bk, ok.ct⟩)
theorem wb_cut (Mid : SL → Prop) (h : WS X n c Γ st { D with nx := Mid }) (h2 : ∀ Γ', Mid Γ' → WB X n c Γ' rest D) : WB X n c Γ (st :: rest) D := .mk fun hn σ R H s E ok =>
  (pss_cons pWS pWB).w (h.run hn σ R H s _ ⟨fun σ' R' H' Γ' s' e w => (h2 Γ' w).run hn σ' R' H' s' E (ok.mono e), ok.rt, ok.bk, ok.ct⟩)
theorem wb_one (h : WS X n c Γ st D) : WB X n c Γ [st] D := wb_cons (by
  refine .mk fun hn σ R H s E ok => ?_
  exact h.run hn σ R H s E ⟨fun σ' R' H' Γ' s' e w => ok.nx σ' R' H' Γ' s' e (wb_nil w), ok.rt, ok.bk, ok.ct⟩)
theorem WB.mono {sts : List Stmt} {D D' : DE} (h : WB X n c Γ sts D) (h1 : ∀ Γ, D.nx Γ → D'.nx Γ) (h2 : ∀ r Γ, D.rt r Γ → D'.rt r Γ) (h3 : ∀ Γ, D.bk Γ → D'.bk Γ) (h4 : ∀ Γ, D.ct Γ → D'.ct Γ) : WB X n c Γ sts D' := .mk fun hn σ R H s E ok =>
  h.run hn σ R H s E ⟨fun σ' R' H' Γ' s' e w => ok.nx σ' R' H' Γ' s' e (h1 _ w), fun v σ' R' H' Γ' r s' e ro w => ok.rt v σ' R' H' Γ' r s' e ro (h2 _ _ w), fun σ' R' H' Γ' s' e w => ok.bk σ' R' H' Γ' s' e (h3 _ w), fun σ' R' H' Γ' s' e w => ok.ct σ' R' H' Γ' s' e (h4 _ w)⟩
/-- name = data, name = a fresh thing -/
theorem ws_set (i : Nat) {p' : Pos} (h : WE X n c Γ e fun x Γ' => D.nx (Γ'.set i (.d x))) (hi : n.N[i]? = some nm := by rfl) (ha : n.as.contains i = true := by rfl) (ho : n.oi.contains i = false := by rfl) (hs : swapsWith e (some (.Name nm p')) pos.line X.env = pure false := by rfl) :
    WS X n c Γ (.Assign [.Name nm p'] e pos) D := .mk fun hn σ R H s E ok => by
  obtain ⟨l1, l2⟩ := hn.loc i nm ha hi
  exact (ps_set (by rw [hn.eq]; exact hn.nd) (by rw [hn.eq]; exact hi) l1 pW hs l2).w (h.run hn σ R H s _ fun v R' H' x Γ' s' e' r p => ok.nx _ R' H' _ (s'.setD i r (hn.noi ho)) e' p)
theorem ws_setO (i : Nat) {p' : Pos} (h : WO X n c Γ e fun o Γ' => D.nx (Γ'.set i (.own o))) (hi : n.N[i]? = some nm := by rfl) (ha : n.as.contains i = true := by rfl) (ho : n.oi.contains i = false := by rfl) (hs : swapsWith e (some (.Name nm p')) pos.line X.env = pure false := by rfl) :
    WS X n c Γ (.Assign [.Name nm p'] e pos) D := .mk fun hn σ R H s E ok => by
  obtain ⟨l1, l2⟩ := hn.loc i nm ha hi
  exact (ps_set (by rw [hn.eq]; exact hn.nd) (by rw [hn.eq]; exact hi) l1 pW hs l2).w (h.run hn σ R H s _ fun v R' H' x Γ' s' e' r p => ok.nx _ R' H' _ (s'.setO i r (hn.noi ho)) e' p)
/-- e as a statement -/
theorem ws_expr (h : WE X n c Γ e fun _ Γ' => D.nx Γ') (hs : swapsWith e none pos.line X.env = pure false := by rfl) : WS X n c Γ (.Expr e pos) D := .mk fun hn σ R H s E ok =>
  (ps_expr pW hs).w (h.run hn σ R H s _ fun v R' H' x Γ' s' e' r p => ok.nx σ R' H' Γ' s' e' p)
theorem ws_ret (h : WE X n c Γ e fun x Γ' => D.rt (.d x) Γ') : WS X n c Γ (.Return (some e) pos) D := .mk fun hn σ R H s E ok =>
  (ps_ret pW).w (h.run hn σ R H s _ fun v R' H' x Γ' s' e' r p => ok.rt v σ R' H' Γ' (.d x) s' e' r p)
theorem ws_retO (h : WO X n c Γ e fun x Γ' => D.rt (.own x) Γ') : WS X n c Γ (.Return (some e) pos) D := .mk fun hn σ R H s E ok =>
  (ps_ret pW).w (h.run hn σ R H s _ fun v R' H' x Γ' s' e' r p => ok.rt v σ R' H' Γ' (.own x) s' e' r p)
/-- return of a name that owns: it is given away -/
theorem ws_retS (i : Nat) {o : OB} (h : D.rt (.own o) (Γ.set i .any)) (hg : Γ[i]? = some (.own o) := by rfl) (hi : n.N[i]? = some nm := by rfl) (hv : n.V.contains i = true := by rfl) (ho : n.oi.contains i = false := by rfl) : WS X n c Γ (.Return (some (.Name nm p)) pos) D := .mk fun hn σ R H s E ok => by
  obtain ⟨h1, h2⟩ := hn.dbg i nm hi
  refine (ps_ret (pe_var (i := i) (by rw [hn.eq]; exact hi) (hn.vis i nm hv hi) h1 h2)).w ?_
  obtain ⟨w, e1, a, e2, w3, w4, w5⟩ := s.sl i _ hg
  subst e2
  have hl : i < Γ.length := (List.getElem?_eq_some_iff.mp hg).1
  have s2 : SOk X.K c (Γ.set i .any) (σ.set i (some (.ref a))) R H := s.set i (v := some (.ref a)) rfl trivial (hn.noi ho)
  have es : σ.set i (some (.ref a)) = σ := by
    apply List.ext_getElem?
    intro j
    by_cases hj : i = j
    · subst hj; rw [List.getElem?_set_self (by rw [← s.len]; exact hl), e1]
    · rw [List.getElem?_set_ne hj]
  rw [es] at s2
  refine ⟨_, e1, ok.rt _ σ R H _ (.own o) s2 (Ex.refl _) ⟨a, rfl, w3, w4, ?_, fun j o' z1 z2 => ?_⟩ h⟩
  · rcases w5 with w5 | w5
    · exact w5
    · obtain ⟨j, hj⟩ := hn.cm a w5
      obtain ⟨z1, o', z2⟩ := s.oi _ hj
      have := s.dj i j a o o' hg z2 e1 z1
      exact absurd (by rw [this]; exact List.mem_map_of_mem hj) (hn.noi ho)
  · by_cases hj : i = j
    · subst hj; rw [List.getElem?_set_self hl] at z1; cases z1
    · rw [List.getElem?_set_ne hj] at z1
      exact hj (s.dj i j a o o' hg z1 e1 z2)
theorem ws_if {t : Expr} {A B : List Stmt} (h : WT X n c Γ t fun b Γ' => (b = true → WB X n c Γ' A D) ∧ (b = false → WB X n c Γ' B D)) : WS X n c Γ (.If t A B pos) D := .mk fun hn σ R H s E ok =>
  (ps_if pWT pWB pWB).w (h.run hn σ R H s _ fun R' H' b Γ' s' e' ⟨p1, p2⟩ => by
    cases b with
    | true => exact (p1 rfl).run hn σ R' H' s' E (ok.mono e')
    | false => exact (p2 rfl).run hn σ R' H' s' E (ok.mono e'))
theorem ws_ifE {t : Expr} {A B : List Stmt} {q : Bool} (h : ET X n c Γ t q) (h1 : q = true → WB X n c Γ A D) (h2 : q = false → WB X n c Γ B D) : WS X n c Γ (.If t A B pos) D := ws_if (wt_of h ⟨h1, h2⟩)
/-! ### what a slot owns is changed by a method, by an item's store -/
def DMt (X : Cx) (id : String) (P : List DL.D → List DL.D → (DL.D → List DL.D → Prop) → Prop) : Prop := ∃ r, MtR X id r ∧ ∀ R H a ds vs as ws Post, H a = some (.lst vs) → RpL X.K R ds vs → RpL X.K R as ws → P ds as Post → ∀ Q : VK,
  (∀ u us z zs, RpL X.K R zs us → Rp X.K R z u → Post z zs → Q u (upd H a (.lst us))) → r (.ref a) ws H Q
theorem dm_append : DMt X "list.append" (fun ds as Post => ∃ x, as = [x] ∧ ds.length < 1000000 ∧ Post .non (ds ++ [x])) := ⟨_, mt_append, fun R H a ds vs as ws Post h1 h2 h3 ⟨x, e, hz, p⟩ Q q => by
  subst e
  obtain ⟨v, w, rfl, h4, h5⟩ := h3
  cases (show w = [] from h5)
  exact ⟨a, vs, v, rfl, rfl, h1, by rw [← h2.length, sizeLine_eq]; omega, q _ _ .non _ (h2.append (.one h4)) rfl p⟩⟩
theorem dm_pop : DMt X "list.pop" (fun ds as Post => ∃ x, as = [] ∧ ds[ds.length - 1]? = some x ∧ Post x ds.dropLast) := ⟨_, mt_pop, fun R H a ds vs as ws Post h1 h2 h3 ⟨x, e, hx, p⟩ Q q => by
  subst e
  cases (show ws = [] from h3)
  obtain ⟨v, h4, h5⟩ := h2.get hx
  exact ⟨a, vs, v, rfl, rfl, h1, by rw [← h2.length]; exact h4, q _ _ x _ h2.dropLast h5 p⟩⟩
variable {id : String} {P : List DL.D → List DL.D → (DL.D → List DL.D → Prop) → Prop} {meth : Str} {ap : Pos}
theorem we_meth (i : Nat) {Post : DL.D → SL → Prop} (hm : DMt X id P) (pa : PlainAttrs "list") (slot : PySem.Slot "list" meth id) (hty : typeOf (.builtin id) = pure (.type "method_descriptor"))
    (h : WA X n c Γ (e :: es) fun ks Γ' => ∃ as ds, dats ks = some as ∧ Γ'[i]? = some (.own (.lst ds)) ∧ P ds as fun z zs => Post z (Γ'.set i (.own (.lst zs)))) {o0 : OB} (hg : Γ[i]? = some (.own o0) := by rfl) (hL : o0.isL = true := by rfl) (hi : n.N[i]? = some nm := by rfl) (hv : n.V.contains i = true := by rfl)
    (hbase : attributeBase (.Name nm p) meth X.env (eval (.Name nm p) X.env) = eval (.Name nm p) X.env := by rfl)
    (hfew : ((backTo pos (starEach (e :: es) X.env)).all (fun x => !x.1) && (backToKw pos (keywordEach [] X.env)).all (fun x => x.1.isSome)
      && decide ((e :: es).length + ([] : List Keyword).length + (if ([] : List Keyword).isEmpty then 0 else 1) < 30)) = true := by rfl)
    (hline : (ap.endLine == pos.line) = true := by rfl) (hs : starEach (e :: es) X.env = (false, eval e X.env) :: starEach es X.env := by exact se_c rfl) (hplain : (backTo pos (starEach es X.env)).any (·.1) = false := by exact se_any rfl) :
    WE X n c Γ (.Call (.Attribute (.Name nm p) meth ap) (e :: es) [] pos) Post := .mk fun hn σ R H s Q q => by
  obtain ⟨h1, h2⟩ := hn.dbg i nm hi
  obtain ⟨r, m1, m2⟩ := hm
  refine (pe_bm pa slot hty m1 (pe_var (i := i) (by rw [hn.eq]; exact hi) (hn.vis i nm hv hi) h1 h2) pWA hbase hfew hline hs hplain).w ?_
  obtain ⟨w, e1, a, e2, w3, w4, w5⟩ := s.sl i _ hg
  subst e2
  have hT : tyV X.K "list" (.ref a) H := by
    cases o0 with
    | lst ds => obtain ⟨vs, q1, _⟩ := w3; exact .inl ⟨rfl, _, .inl (.inl q1)⟩
    | sto => obtain ⟨_, _, _, _, _, _, _, vs, q1, _⟩ := w3; exact .inl ⟨rfl, _, .inl (.inl q1)⟩
    | dic ds => cases hL
    | ins _ _ => cases hL
    | lstA _ _ => cases hL
    | lstV _ _ _ => cases hL
    | dicA _ _ => cases hL
  refine ⟨_, e1, hT, h.run hn σ R H s _ fun vs R' H' ks Γ' s' e' r' ⟨as, ds, hd, hg', hp⟩ => ?_⟩
  obtain ⟨w', u1, b, u2, ⟨us, u3, u6⟩, u4, u5⟩ := s'.sl i _ hg'
  rw [e1] at u1; cases u1; cases u2
  refine m2 R' H' a ds us as vs _ u3 u6 (dats_ok r' hd) hp Q fun u us' z zs hz hu hP => ?_
  exact q u R' _ z _ (s'.mut (ob' := .lst zs) i hg' e1 ⟨us', upd_same, hz⟩) e' hu hP
end
end DL

end
section
set_option Elab.async false
set_option linter.all false
set_option autoImplicit true
set_option maxRecDepth 100000
set_option maxHeartbeats 400000
namespace DL
open PySem L2
open PyProof.Rows hiding St

section
variable {X : Cx} {n : Nm} {c : Cc} {Γ : SL} {e a b : Expr} {x y z : D} {pos p : Pos} {nm : Str} {es : List Expr} {k l : AK} {ks : List AK} {xs : List D} {st : Stmt} {rest : List Stmt} {De : DE}
variable {id : String} {P : List D → List D → (D → List D → Prop) → Prop} {meth : Str} {ap : Pos}
theorem we_meth0 (i : Nat) {Post : D → SL → Prop} {ds : List D} (hm : DMt X id P) (pa : PlainAttrs "list") (slot : PySem.Slot "list" meth id) (hty : typeOf (.builtin id) = pure (.type "method_descriptor"))
    (h : P ds [] fun z zs => Post z (Γ.set i (.own (.lst zs)))) (hg : Γ[i]? = some (.own (.lst ds)) := by rfl) (hi : n.N[i]? = some nm := by rfl) (hv : n.V.contains i = true := by rfl)
    (hbase : attributeBase (.Name nm p) meth X.env (eval (.Name nm p) X.env) = eval (.Name nm p) X.env := by rfl) (hline : (ap.endLine == pos.line) = true := by rfl) : WE X n c Γ (.Call (.Attribute (.Name nm p) meth ap) [] [] pos) Post := .mk fun hn σ R H s Q q => by
  obtain ⟨h1, h2⟩ := hn.dbg i nm hi
  obtain ⟨r, m1, m2⟩ := hm
  refine (pe_bm0 pa slot hty m1 (pe_var (i := i) (by rw [hn.eq]; exact hi) (hn.vis i nm hv hi) h1 h2) hbase hline).w ?_
  obtain ⟨w, e1, a, e2, ⟨us, u3, u6⟩, w4, w5⟩ := s.sl i _ hg
  subst e2
  refine ⟨_, e1, .inl ⟨rfl, _, .inl (.inl u3)⟩, ?_⟩
  refine m2 R H a ds us [] [] _ u3 u6 rfl h Q fun u us' z zs hz hu hP => ?_
  exact q u R _ z _ (s.mut (ob' := .lst zs) i hg e1 ⟨us', upd_same, hz⟩) (Ex.refl _) hu hP
/-- xs[i] = e -/
theorem ws_setIx (i : Nat) {tpos : Pos} (h : WE X n c Γ e fun x Γ1 => WE X n c Γ1 b fun y Γ2 => ∃ ds j m, Γ2[i]? = some (.own (.lst ds)) ∧ y = .int j ∧ ixN ds.length j = some m ∧ De.nx (Γ2.set i (.own (.lst (ds.set m x)))))
    {s0 : Slot} (hi : n.N[i]? = some nm := by rfl) (hv : n.V.contains i = true := by rfl) (hg : Γ[i]? = some s0 := by rfl) (hss : s0.isOwn = true := by rfl)
    (ha : ∀ v, assign (.Subscript (.Name nm p) b tpos) X.env v = (do
      let ov ← holding [v] (eval (.Name nm p) X.env)
      let iv ← holding [v, ov] (eval b X.env)
      standAt tpos
      holding [v, ov, iv] (setItem ov iv v)
      release [v, ov, iv] []) := by intro _; rfl) (hs : swapsWithSole [.Subscript (.Name nm p) b tpos] e pos.line X.env = pure false := by rfl) (hw : swappedStores [.Subscript (.Name nm p) b tpos] e X.env = pure none := by rfl)
    (h1 : (assignEach [.Subscript (.Name nm p) b tpos] X.env).map (·.2) = [assign (.Subscript (.Name nm p) b tpos) X.env] := by rfl) :
    WS X n c Γ (.Assign [.Subscript (.Name nm p) b tpos] e pos) De := .mk fun hn σ R H s E ok => by
  obtain ⟨d1, d2⟩ := hn.dbg i nm hi
  refine (ps_asg pW (pg_sub (pe_var (i := i) (by rw [hn.eq]; exact hi) (hn.vis i nm hv hi) d1 d2) pW set_list ha) hs hw h1).w (h.run hn σ R H s _ fun v R1 H1 x Γ1 s1 e1 r1 p1 => ?_)
  obtain ⟨w, w1, w2⟩ := s.sl i _ hg
  have ⟨a0, hw0⟩ : ∃ a, w = some (.ref a) := by
    cases s0 with
    | own o => obtain ⟨a, q, _⟩ := w2; exact ⟨a, q⟩
    | _ => cases hss
  subst hw0
  refine ⟨_, w1, p1.run hn σ R1 H1 s1 _ fun u R2 H2 y Γ2 s2 e2 r2 ⟨ds, j, m, q1, q2, q3, q4⟩ => ?_⟩
  subst q2
  obtain ⟨w', u1, a1, u2, ⟨us, u3, u6⟩, u4, u5⟩ := s2.sl i _ q1
  rw [w1] at u1; cases u1; cases u2
  refine ⟨_, us, j, m, rfl, r2, u3, by rw [← u6.length]; exact q3, ok.nx σ R2 _ _ (s2.mut (ob' := .lst (ds.set m x)) i q1 w1 ⟨_, upd_same, u6.set m (Rp.mono e2 _ _ r1)⟩) (e1.trans e2) q4⟩
/-! ### what a slot owns is kept for good -/
/-! ### loops -/
/-- what a body is to reach: the next turn, the loop's end, a return -/
def turnE (De : DE) (N : SL → Prop) : DE := { nx := N, rt := De.rt, bk := De.nx, ct := N }
theorem turnE_ok {K : PySem.W.Frag} {R R1 : Hp} {E : Ends} {Nv : SL → Prop} {Pv : St → Hp → Prop} (ok : EndsOk K c R De E) (e : Ex R R1) (hP : ∀ σ R' H Γ, SOk K c Γ σ R' H → Ex R1 R' → Nv Γ → Pv σ H) :
    EndsOk K c R1 (turnE De Nv) { E with nx := Pv, ct := Pv, bk := E.nx } :=
  ⟨fun σ R' H Γ s e' w => hP σ R' H Γ s e' w, fun v σ R' H Γ r s e' => ok.rt v σ R' H Γ r s (e.trans e'), fun σ R' H Γ s e' w => ok.nx σ R' H Γ s (e.trans e') w, fun σ R' H Γ s e' w => hP σ R' H Γ s e' w⟩
theorem ws_forL (j : Nat) {body : List Stmt} {tp : Pos} (Inv : Nat → SL → Prop) (ds : List D) (h : WE X n c Γ e fun x Γ1 => x = .lst ds ∧ Inv 0 Γ1)
    (hs : ∀ i Γ' d, ds[i]? = some d → Inv i Γ' → WB X n c (Γ'.set j (.d d)) body (turnE De (Inv (i + 1)))) (hd : ∀ Γ', Inv ds.length Γ' → De.nx Γ') (hj : n.N[j]? = some nm := by rfl) (hh : n.hot = false := by rfl) (ha : n.as.contains j = true := by rfl) (hoi : n.oi.contains j = false := by rfl)
    (hf : ∀ x, foldedSetIterable e X.env x = pure x := by intro _; rfl) : WS X n c Γ (.For (.Name nm tp) e body [] pos) De := .mk fun hn σ R H s E ok => by
  obtain ⟨l1, l2⟩ := hn.loc j nm ha hj
  refine (ps_for hn.po (hn.calm hh) (pi_list pW) (pg_name (by rw [hn.eq]; exact hn.nd) (by rw [hn.eq]; exact hj) l1 l2) pWB hf).w (h.run hn σ R H s _ fun v R1 H1 x Γ1 s1 e1 r1 ⟨hx, p1⟩ => ?_)
  subst hx
  obtain ⟨a, vs, rfl, ha', hr⟩ := r1
  refine ⟨a, rfl, ⟨vs, .inl (.inl (s1.rh a _ ha'))⟩, for_list (xs := vs) (fun i σ' H' => ∃ R' Γ', SOk X.K c Γ' σ' R' H' ∧ Ex R1 R' ∧ Inv i Γ') ⟨R1, Γ1, s1, Ex.refl _, p1⟩ (fun i σ' H' _ ⟨R', Γ', s', e', _⟩ => .inl (.inl (s'.rh a _ (e' a _ ha')))) (fun i v σ' H' hi ⟨R', Γ', s', e', p'⟩ => ?_) (fun σ' H' ⟨R', Γ', s', e', p'⟩ => ?_)⟩
  · obtain ⟨d, hd1, hd2⟩ := hr.get' hi
    exact (hs i Γ' d hd1 p').run hn _ R' H' (s'.setD j (Rp.mono e' _ _ hd2) (hn.noi hoi)) _ (turnE_ok ok (e1.trans e') fun σ2 R2 H2 Γ2 s2 e2 w => ⟨R2, Γ2, s2, e'.trans e2, w⟩)
  · rw [← hr.length] at p'
    exact ok.nx σ' R' H' Γ' s' (e1.trans e') (hd Γ' p')
theorem ws_forT (j : Nat) {body : List Stmt} {tp : Pos} (Inv : Nat → SL → Prop) (ds : List D) (h : WE X n c Γ e fun x Γ1 => x = .tup ds ∧ Inv 0 Γ1)
    (hs : ∀ i Γ' d, ds[i]? = some d → Inv i Γ' → WB X n c (Γ'.set j (.d d)) body (turnE De (Inv (i + 1)))) (hd : ∀ Γ', Inv ds.length Γ' → De.nx Γ') (hj : n.N[j]? = some nm := by rfl) (hh : n.hot = false := by rfl) (ha : n.as.contains j = true := by rfl) (hoi : n.oi.contains j = false := by rfl)
    (hf : ∀ x, foldedSetIterable e X.env x = pure x := by intro _; rfl) : WS X n c Γ (.For (.Name nm tp) e body [] pos) De := .mk fun hn σ R H s E ok => by
  obtain ⟨l1, l2⟩ := hn.loc j nm ha hj
  refine (ps_for hn.po (hn.calm hh) (pi_tup pW) (pg_name (by rw [hn.eq]; exact hn.nd) (by rw [hn.eq]; exact hj) l1 l2) pWB hf).w (h.run hn σ R H s _ fun v R1 H1 x Γ1 s1 e1 r1 ⟨hx, p1⟩ => ?_)
  subst hx
  obtain ⟨a, vs, rfl, ha', hr⟩ := r1
  refine ⟨a, rfl, ⟨vs, ex_t s1.rh ha'⟩, for_tup (xs := vs) (fun i σ' H' => ∃ R' Γ', SOk X.K c Γ' σ' R' H' ∧ Ex R1 R' ∧ Inv i Γ') ⟨R1, Γ1, s1, Ex.refl _, p1⟩ (fun i σ' H' _ ⟨R', Γ', s', e', _⟩ => ex_t s'.rh (ex_t e' ha')) (fun i v σ' H' hi ⟨R', Γ', s', e', p'⟩ => ?_) (fun σ' H' ⟨R', Γ', s', e', p'⟩ => ?_)⟩
  · obtain ⟨d, hd1, hd2⟩ := hr.get' hi
    exact (hs i Γ' d hd1 p').run hn _ R' H' (s'.setD j (Rp.mono e' _ _ hd2) (hn.noi hoi)) _ (turnE_ok ok (e1.trans e') fun σ2 R2 H2 Γ2 s2 e2 w => ⟨R2, Γ2, s2, e'.trans e2, w⟩)
  · rw [← hr.length] at p'
    exact ok.nx σ' R' H' Γ' s' (e1.trans e') (hd Γ' p')
theorem ws_forR1 (j : Nat) {body : List Stmt} {tp p2 : Pos} (Inv : Nat → SL → Prop) (m : Nat) (hb : Blt X "range" (.type "range")) (jr : Nat) (h : WE X n c Γ a fun x Γ1 => ∃ i : Int, x = .int i ∧ i.toNat = m ∧ i < 2 ^ 62 ∧ -(2 ^ 62) ≤ i ∧ Inv 0 Γ1)
    (hs : ∀ i Γ', i < m → Inv i Γ' → WB X n c (Γ'.set j (.d (.int (i : Int)))) body (turnE De (Inv (i + 1)))) (hd : ∀ Γ', Inv m Γ' → De.nx Γ') (hjr : n.GN[jr]? = some ("range" : Str) := by rfl) (hh : n.hot = false := by rfl) (hj : n.N[j]? = some nm := by rfl) (ha : n.as.contains j = true := by rfl) (hoi : n.oi.contains j = false := by rfl)
    (hst : starEach [a] X.env = [(false, eval a X.env)] := by exact se_1 rfl) (hf : ∀ x, foldedSetIterable (.Call (.Name "range" p) [a] [] p2) X.env x = pure x := by intro _; rfl) : WS X n c Γ (.For (.Name nm tp) (.Call (.Name "range" p) [a] [] p2) body [] pos) De := .mk fun hn σ R H s E ok => by
  obtain ⟨l1, l2⟩ := hn.loc j nm ha hj
  obtain ⟨g1, g2, g3⟩ := hn.gl jr _ hjr
  refine (ps_for hn.po (hn.calm hh) (pi_range1 g1 hb.mg (pa_cons pW pa_nil hst) hst) (pg_name (by rw [hn.eq]; exact hn.nd) (by rw [hn.eq]; exact hj) l1 l2) pWB hf).w (h.run hn σ R H s _ fun v R1 H1 x Γ1 s1 e1 r1 ⟨i, hx, h1, h2, h3, p1⟩ => ?_)
  subst hx
  cases (show v = .int i from r1)
  refine ⟨i, rfl, h3, h2, ?_⟩
  rw [h1]
  refine for_range (lo := 0) (n := m) (fun i σ' H' => ∃ R' Γ', SOk X.K c Γ' σ' R' H' ∧ Ex R1 R' ∧ Inv i Γ') ⟨R1, Γ1, s1, Ex.refl _, p1⟩ (fun i σ' H' hi ⟨R', Γ', s', e', p'⟩ => ?_) (fun σ' H' ⟨R', Γ', s', e', p'⟩ => ok.nx σ' R' H' Γ' s' (e1.trans e') (hd Γ' p'))
  have e0 : (0 : Int) + (i : Int) = (i : Int) := Int.zero_add _
  rw [e0]
  exact (hs i Γ' hi p').run hn _ R' H' (s'.setD j (x := .int (i : Int)) rfl (hn.noi hoi)) _ (turnE_ok ok (e1.trans e') fun σ2 R2 H2 Γ2 s2 e2 w => ⟨R2, Γ2, s2, e'.trans e2, w⟩)
/-! ### the store, opened -/
theorem wb_open (i : Nat) {sts : List Stmt} (hg : Γ[i]? = some (.own .sto)) (h : ∀ ns place great st left cnt, StoreB ns place great st left cnt → WB X n c (Γ.set i (.own (.lst (stoD ns place great st left cnt)))) sts De) : WB X n c Γ sts De := .mk fun hn σ R H s E ok => by
  obtain ⟨w, e1, a, e2, ⟨ns, place, great, st, left, cnt, hB, vs, h1, h2⟩, w4, w5⟩ := s.sl i _ hg
  subst e2
  have s2 := s.mut (ob' := .lst (stoD ns place great st left cnt)) (o := .lst vs) i hg e1 ⟨vs, upd_same, h2⟩
  have e : upd H a (.lst vs) = H := by
    funext b
    by_cases hb : b = a
    · subst hb; rw [upd_same, h1]
    · rw [upd_ne hb]
  rw [e] at s2
  exact (h ns place great st left cnt hB).run hn σ R H s2 E ok
end
/-- what is lent may be told as a store again -/
def OB.le : OB → OB → Prop := fun o o' => o = o' ∨ (o' = .sto ∧ ∃ ns place great st left cnt, o = .lst (stoD ns place great st left cnt) ∧ StoreB ns place great st left cnt)
theorem OB.le.ok {K : PySem.W.Frag} {R H : Hp} {a : Addr} {o o' : OB} (h : o.le o') (k : OBOk K R H a o) : OBOk K R H a o' := by
  rcases h with rfl | ⟨rfl, ns, p, g, st, l, n, rfl, hB⟩
  · exact k
  · obtain ⟨vs, h1, h2⟩ := k
    exact ⟨ns, p, g, st, l, n, hB, vs, h1, h2⟩

/-! ### a def -/
def Par.slot : Par → Slot
  | .d x => .d x
  | .w x => .w x
  | .own o => .own o
  | .sc ns => .sc ns
def parOi : Nat → List Par → List Nat
  | _, [] => []
  | i, .own _ :: ps => i :: parOi (i + 1) ps
  | i, _ :: ps => parOi (i + 1) ps
/-- what is lent, at the end: the slots' things as they are told back -/
def Backs (Γ : SL) : List Nat → List OB → Prop
  | [], os => os = []
  | i :: is, os => ∃ o o' os', os = o' :: os' ∧ Γ[i]? = some (.own o) ∧ o.le o' ∧ Backs Γ is os'
/-- a return value may be told as a store, too -/
def Res.le : Res → Res → Prop
  | .own o, .own o' => o.le o'
  | r, r' => r = r'
def fnD (oi : List Nat) (Post : Res → List OB → Prop) : DE where
  nx := fun Γ => ∃ os, Backs Γ oi os ∧ Post (.d .non) os
  rt := fun r Γ => ∃ r' os, r.le r' ∧ Backs Γ oi os ∧ Post r' os

theorem OwnsOk.of {K : PySem.W.Frag} {c : Cc} {Γ : SL} {σ : St} {R H : Hp} (s : SOk K c Γ σ R H) : ∀ {oi : List (Nat × Addr)} {os : List OB}, (∀ p ∈ oi, p ∈ c.oi) → Backs Γ (oi.map (·.1)) os → OwnsOk K R H (oi.map (·.2)) os
  | [], _, _, h => h
  | p :: oi, _, hs, ⟨o, o', os', e, h1, h2, h3⟩ => by
    subst e
    obtain ⟨w1, _⟩ := s.oi p (hs p List.mem_cons_self)
    obtain ⟨w, u1, a, u2, u3, _⟩ := s.sl p.1 _ h1
    rw [w1] at u1; cases u1; cases u2
    exact ⟨o', os', rfl, h2.ok u3, OwnsOk.of s (fun q hq => hs q (List.mem_cons_of_mem _ hq)) h3⟩
def oiOf : Nat → List Par → List V → List (Nat × Addr)
  | i, .own _ :: ps, v :: vs => (i, adr v) :: oiOf (i + 1) ps vs
  | i, _ :: ps, _ :: vs => oiOf (i + 1) ps vs
  | _, _, _ => []
theorem oiOf_ad : ∀ {ps : List Par} {vs : List V} {i : Nat}, (oiOf i ps vs).map (·.2) = ownAd ps vs
  | [], _, _ => by simp [oiOf, ownAd]
  | p :: ps, [], _ => by cases p <;> simp [oiOf, ownAd]
  | p :: ps, v :: vs, i => by cases p <;> simp [oiOf, ownAd, oiOf_ad]
theorem oiOf_ix {K : PySem.W.Frag} {M : Addr → Prop} {R H : Hp} : ∀ {ps : List Par} {vs : List V} {i : Nat}, ParsOk K M R H ps vs → (oiOf i ps vs).map (·.1) = parOi i ps
  | [], _, _, h => by simp [oiOf, parOi]
  | p :: ps, _, i, ⟨v, ws, e, h1, h2⟩ => by subst e; cases p <;> simp [oiOf, parOi, oiOf_ix h2]
theorem parsOk_len {K : PySem.W.Frag} {M : Addr → Prop} {R H : Hp} : ∀ {ps : List Par} {vs : List V}, ParsOk K M R H ps vs → ps.length = vs.length
  | [], _, h => by cases (show _ = _ from h); rfl
  | p :: ps, _, ⟨v, ws, e, h1, h2⟩ => by subst e; simp [parsOk_len h2]
theorem oiOf_mem {K : PySem.W.Frag} {M : Addr → Prop} {R H : Hp} : ∀ {ps : List Par} {vs : List V} {i : Nat}, ParsOk K M R H ps vs → ∀ p ∈ oiOf i ps vs, ∃ j o, p.1 = i + j ∧ ps[j]? = some (.own o) ∧ vs[j]? = some (.ref p.2) ∧ OBOk K R H p.2 o ∧ R p.2 = none
  | [], _, _, h, q, hq => by simp [oiOf] at hq
  | p :: ps, _, i, ⟨v, ws, e, h1, h2⟩, q, hq => by
    subst e
    have tl : q ∈ oiOf (i + 1) ps ws → ∃ j o, q.1 = i + j ∧ (p :: ps)[j]? = some (.own o) ∧ (v :: ws)[j]? = some (.ref q.2) ∧ OBOk K R H q.2 o ∧ R q.2 = none := fun hq => by
      obtain ⟨j, o, a, b, d, e⟩ := oiOf_mem h2 q hq
      exact ⟨j + 1, o, by omega, by simpa using b, by simpa using d, e⟩
    cases p with
    | own o =>
      rcases List.mem_cons.mp hq with rfl | hq
      · obtain ⟨a, rfl, h3, h4⟩ := h1
        exact ⟨0, o, rfl, rfl, rfl, h3, h4⟩
      · exact tl hq
    | _ => exact tl hq
theorem ownAd_mem {K : PySem.W.Frag} {M : Addr → Prop} {R H : Hp} : ∀ {ps : List Par} {vs : List V} {j : Nat} {o : OB}, ParsOk K M R H ps vs → ps[j]? = some (.own o) → ∃ a, vs[j]? = some (.ref a) ∧ a ∈ ownAd ps vs ∧ OBOk K R H a o ∧ R a = none
  | [], _, j, o, h, e => by simp at e
  | p :: ps, _, 0, o, ⟨v, ws, e, h1, h2⟩, q => by
    subst e
    have q' : p = .own o := by simpa using q
    subst q'
    obtain ⟨a, rfl, h3, h4⟩ := h1
    exact ⟨a, rfl, by simp [ownAd, adr], h3, h4⟩
  | p :: ps, _, j + 1, o, ⟨v, ws, e, h1, h2⟩, q => by
    subst e
    obtain ⟨a, h3, h4, h5⟩ := ownAd_mem (j := j) h2 (by simpa using q)
    exact ⟨a, by simpa using h3, by cases p <;> simp [ownAd, h4], h5⟩
theorem parOk_at {K : PySem.W.Frag} {M : Addr → Prop} {R H : Hp} : ∀ {ps : List Par} {vs : List V} {j : Nat} {p : Par}, ParsOk K M R H ps vs → ps[j]? = some p → ∃ v, vs[j]? = some v ∧ ParOk K M R H p v
  | [], _, j, o, h, e => by simp at e
  | p :: ps, _, 0, o, ⟨v, ws, e, h1, h2⟩, q => by
    subst e
    have q' : p = o := by simpa using q
    subst q'
    exact ⟨v, rfl, h1⟩
  | p :: ps, _, j + 1, o, ⟨v, ws, e, h1, h2⟩, q => by
    subst e
    obtain ⟨a, h3, h4⟩ := parOk_at (j := j) h2 (by simpa using q)
    exact ⟨a, by simpa using h3, h4⟩
theorem ad_inj : ∀ {ps : List Par} {vs : List V} {i j : Nat} {a : Addr} {o o' : OB}, (ownAd ps vs).Nodup → ps[i]? = some (.own o) → ps[j]? = some (.own o') → vs[i]? = some (.ref a) → vs[j]? = some (.ref a) → i = j
  | [], _, i, j, a, o, o', _, e, _, _, _ => by simp at e
  | p :: ps, [], i, j, a, o, o', _, _, _, e, _ => by simp at e
  | p :: ps, v :: vs, 0, 0, a, o, o', _, _, _, _, _ => rfl
  | p :: ps, v :: vs, 0, j + 1, a, o, o', nd, e1, e2, e3, e4 => by
    have q : p = .own o := by simpa using e1
    have q2 : v = .ref a := by simpa using e3
    subst q q2
    have : a ∈ ownAd ps vs := by
      have : ∀ {ps : List Par} {vs : List V} {j : Nat}, ps[j]? = some (.own o') → vs[j]? = some (.ref a) → a ∈ ownAd ps vs := by
        intro ps
        induction ps with
        | nil => intro vs j h; simp at h
        | cons p ps ih =>
          intro vs j h1 h2
          cases vs with
          | nil => simp at h2
          | cons v vs =>
            cases j with
            | zero =>
              have q : p = .own o' := by simpa using h1
              have q2 : v = .ref a := by simpa using h2
              subst q q2
              simp [ownAd, adr]
            | succ j =>
              have := ih (vs := vs) (j := j) (by simpa using h1) (by simpa using h2)
              cases p <;> simp [ownAd, this]
      exact this (by simpa using e2) (by simpa using e4)
    simp [ownAd, adr] at nd
    exact absurd this nd.1
  | p :: ps, v :: vs, i + 1, 0, a, o, o', nd, e1, e2, e3, e4 => by
    exact (ad_inj (ps := p :: ps) (vs := v :: vs) (i := 0) (j := i + 1) nd e2 e1 e4 e3).symm
  | p :: ps, v :: vs, i + 1, j + 1, a, o, o', nd, e1, e2, e3, e4 => by
    have nd' : (ownAd ps vs).Nodup := by
      cases p with
      | own o => exact (List.nodup_cons.mp nd).2
      | _ => exact nd
    have ij : i = j := ad_inj (ps := ps) (vs := vs) (a := a) (o := o) (o' := o') nd' (by simpa using e1) (by simpa using e2) (by simpa using e3) (by simpa using e4)
    rw [ij]
termination_by ps vs i j => (i + j, if i = 0 then 0 else 1)
/-- the slots at a def's entry -/
def entry (N : List Str) (ps : List Par) : SL := ps.map Par.slot ++ List.replicate (N.length - ps.length) .no
theorem entry_ok {K : PySem.W.Frag} {R H : Hp} {N : List Str} {ps : List Par} {vs : List V} (e : Ex R H) (h : ParsOk K (fun a => a ∈ ownAd ps vs) R H ps vs) (nd : (ownAd ps vs).Nodup) :
    SOk K ⟨R, H, fun a => a ∈ ownAd ps vs, oiOf 0 ps vs, xw⟩ (entry N ps) (L2.start N vs) R H := by
  have hl := parsOk_len h
  have at_ : ∀ (i : Nat) (s : Slot), (entry N ps)[i]? = some s → (∃ p, ps[i]? = some p ∧ s = p.slot) ∨ (ps.length ≤ i ∧ s = .no ∧ (L2.start N vs)[i]? = some none) := fun i s q => by
    unfold entry at q
    by_cases hi : i < ps.length
    · rw [List.getElem?_append_left (by simpa using hi), List.getElem?_map] at q
      obtain ⟨p, q1, q2⟩ := Option.map_eq_some_iff.mp q
      exact .inl ⟨p, q1, q2.symm⟩
    · rw [List.getElem?_append_right (by simpa using hi), List.getElem?_replicate] at q
      split at q
      · rename_i hlt
        refine .inr ⟨by omega, (Option.some.inj q).symm, ?_⟩
        unfold L2.start
        rw [List.getElem?_append_right (by simp; omega), List.getElem?_replicate, if_pos (by simp at hlt ⊢; omega)]
      · cases q
  have st : ∀ i v, vs[i]? = some v → (L2.start N vs)[i]? = some (some v) := fun i v q => by
    unfold L2.start
    rw [List.getElem?_append_left (by have := (List.getElem?_eq_some_iff.mp q).1; simpa using this), List.getElem?_map, q]; rfl
  have own_ : ∀ (i : Nat) (o : OB), (entry N ps)[i]? = some (.own o) → ps[i]? = some (.own o) := fun i o q => by
    rcases at_ i _ q with ⟨p, q1, q2⟩ | ⟨_, q2, _⟩
    · cases p <;> cases q2; exact q1
    · cases q2
  refine ⟨e, Ex.refl _, fun _ _ _ h => h, fun _ h => h, fun _ _ h => h, by simp [entry, L2.start, hl], fun i s q => ?_, fun i j a o o' q1 q2 q3 q4 => ?_, fun p hp => ?_⟩
  · rcases at_ i s q with ⟨p, q1, q2⟩ | ⟨_, q2, q3⟩
    · obtain ⟨v, w1, w2⟩ := parOk_at h q1
      refine ⟨_, st i v w1, ?_⟩
      subst q2
      cases p with
      | d x => exact ⟨v, rfl, w2⟩
      | w x => exact ⟨v, rfl, w2.noM fun a o h1 h2 h3 => by
          rcases h3 with h3 | h3
          · have h3' : H a = none := h3; rw [h1] at h3'; cases h3'
          · exact h2 h3⟩
      | sc ns => obtain ⟨a, rfl, w3⟩ := w2; exact ⟨a, rfl, w3⟩
      | own o =>
        obtain ⟨a, z1, z2, z3, z4⟩ := ownAd_mem h q1
        rw [w1] at z1; cases z1
        exact ⟨a, rfl, z3, z4, .inr z2⟩
    · subst q2; exact ⟨none, q3, rfl⟩
  · have p1 := own_ i o q1
    have p2 := own_ j o' q2
    obtain ⟨b, z1, _⟩ := ownAd_mem h p1
    obtain ⟨b', z2, _⟩ := ownAd_mem h p2
    rw [st i _ z1] at q3; cases q3
    rw [st j _ z2] at q4; cases q4
    exact ad_inj nd p1 p2 z1 z2
  · obtain ⟨j, o, h1, h2, h3, h4, h5⟩ := oiOf_mem h p hp
    have hj : p.1 = j := by omega
    rw [hj]
    refine ⟨st j _ h3, o, ?_⟩
    unfold entry
    rw [List.getElem?_append_left (by have := (List.getElem?_eq_some_iff.mp h2).1; simpa using this), List.getElem?_map, h2]; rfl
/-- the scope of a def, as NOk wants it -/
structure ScOk (sc : Scope) (n : Nm) : Prop where
  nd : n.N.Nodup
  vis : ∀ (i : Nat) (x : Str), n.V.contains i = true → n.N[i]? = some x → sc.names.lookup x = some .local ∨ sc.names.lookup x = some .cell
  dbg : ∀ (i : Nat) (x : Str), n.N[i]? = some x → (x == ("__debug__" : Str)) = false ∧ (x == ("__classdict__" : Str)) = false
  gl : ∀ (i : Nat) (x : Str), n.GN[i]? = some x → sc.names.lookup x = some .globalImplicit ∧ (x == ("__debug__" : Str)) = false ∧ x ≠ ("__name__" : Str)
  lc : ∀ (i : Nat) (x : Str), n.lc.contains i = true → n.N[i]? = some x → sc.names.lookup x = some .local
  as : ∀ (i : Nat), n.as.contains i = true → n.V.contains i = true
def scB (sc : Scope) (n : Nm) : Bool :=
  decide n.N.Nodup && (List.range n.N.length).all (fun i => match n.N[i]? with
    | some x => (!n.V.contains i || (sc.names.lookup x == some .local || sc.names.lookup x == some .cell)) && !(x == ("__debug__" : Str)) && !(x == ("__classdict__" : Str)) && (!n.lc.contains i || sc.names.lookup x == some .local)
    | none => true) && n.GN.all (fun x => sc.names.lookup x == some .globalImplicit && !(x == ("__debug__" : Str)) && !(x == ("__name__" : Str))) && n.as.all (fun i => n.V.contains i)
theorem scOk_of {sc : Scope} {n : Nm} (h : scB sc n = true) : ScOk sc n := by
  unfold scB at h
  simp only [Bool.and_eq_true, decide_eq_true_eq, List.all_eq_true, List.mem_range] at h
  obtain ⟨⟨⟨h1, h2⟩, h3⟩, h4⟩ := h
  have at_ : ∀ (i : Nat) (x : Str), n.N[i]? = some x → ((!n.V.contains i || (sc.names.lookup x == some .local || sc.names.lookup x == some .cell)) && !(x == ("__debug__" : Str)) && !(x == ("__classdict__" : Str)) && (!n.lc.contains i || sc.names.lookup x == some .local)) = true := fun i x e => by
    have := h2 i (List.getElem?_eq_some_iff.mp e).1
    rw [e] at this; exact this
  refine ⟨h1, fun i x hv e => ?_, fun i x e => ?_, fun i x e => ?_, fun i x hv e => ?_, fun i hi => ?_⟩
  · have := at_ i x e
    simp only [Bool.and_eq_true, hv, Bool.not_true, Bool.false_or, Bool.or_eq_true, beq_iff_eq] at this
    exact this.1.1.1
  · have := at_ i x e
    simp only [Bool.and_eq_true, Bool.not_eq_true'] at this
    exact ⟨this.1.1.2, this.1.2⟩
  · have := h3 x (List.mem_of_getElem? e)
    simp only [Bool.and_eq_true, beq_iff_eq, Bool.not_eq_true'] at this
    exact ⟨this.1.1, this.1.2, by intro z; subst z; simp at this⟩
  · have := at_ i x e
    simp only [Bool.and_eq_true, hv, Bool.not_true, Bool.false_or, beq_iff_eq] at this
    exact this.2
  · rw [List.contains_iff_mem] at hi
    exact h4 i hi
/-- THE RULE: a def keeps its promise -/
theorem fn_body {P : Program} {w : World} {K : PySem.W.Frag} {mg : Str → Option Value} {base : Heap} {qual : Str} {st : Stmt} {f : Addr} {qs : List Str} {n : Nm} {S : Sg} {G : Around → Prop} (sc : FnScope n.N qs (defScope st)) (sb : ScOk (defScope st) n) (hsc : n.sc = none ∨ n.sc = some (defScope st))
    (hS : ∀ ps Post, S ps Post → ps.length = qs.length ∧ parOi 0 ps = n.oi)
    (body : ∀ (X : Cx) (c : Cc), X.prog = P ∧ X.w = w ∧ X.K = K ∧ X.mg = mg ∧ X.base = base ∧ Room n.k X.A → G X.A → ∀ ps Post, S ps Post → WB X n c (entry n.N ps) (defBody st) (fnD n.oi Post))
    (cdv : Value) (A : Around) (outer : List Env) (s : Shared) (H : Hp) (vs : List V) (Q : VK) (E : XK) (hr : Room n.k (A.deeper (envOfC qual (defScope st) s.heap.objs.size f cdv))) (hG : G (A.deeper (envOfC qual (defScope st) s.heap.objs.size f cdv))) (h : spOf K S vs H Q E) :
    ∃ t, PSs (cxOf CX0 P w K mg base n.N qual (defScope st) f cdv A outer s H E).nox (defBody st) t ∧ t { nx := fun _ H' => Q .non H', rt := Q } (start n.N vs) H := by
  obtain ⟨R, ps, Post, e, hp, nd, hs, q⟩ := h
  obtain ⟨hq1, hq2⟩ := hS ps Post hs
  refine ⟨_, pWB, ?_⟩
  refine (body _ ⟨R, H, fun a => a ∈ ownAd ps vs, oiOf 0 ps vs, fun _ _ _ => False⟩ ⟨rfl, rfl, rfl, rfl, rfl, hr⟩ hG ps Post hs).run ?_ _ R H (entry_ok e hp nd) _ ?_
  · refine ⟨rfl, sc.nd, fun i x hv hi => ?_, fun i x ha hi => ?_, sb.dbg, sb.gl, sc.kind, fun s0 e0 => ?_, fun _ => rfl, L2H.roomH_of hr, PassesOwn.never, sb.lc, ?_, fun a ha => ?_, takes_no rfl, fun _ => ⟨rfl, rfl⟩⟩
    · rcases sb.vis i x hv hi with h | h
      · exact .inl h
      · exact .inr (.inl h)
    · refine ⟨?_, .inl rfl⟩
      rcases sb.vis i x (sb.as i ha) hi with h | h
      · exact .inl h
      · exact .inr h
    · rcases hsc with h | h
      · rw [h] at e0; cases e0
      · rw [h] at e0; cases e0; rfl
    · rw [← hq2]; exact oiOf_ix hp
    · have ha' : a ∈ (oiOf 0 ps vs).map (·.2) := by rw [oiOf_ad]; exact ha
      obtain ⟨p, hp1, hp2⟩ := List.mem_map.mp ha'
      exact ⟨p.1, by rw [← hp2]; exact hp1⟩
  · have fin : ∀ {σ : St} {R' H' : Hp} {Γ : SL} {v : V} {r r' : Res} {os : List OB}, SOk K ⟨R, H, fun a => a ∈ ownAd ps vs, oiOf 0 ps vs, fun _ _ _ => False⟩ Γ σ R' H' → VOk K ⟨R, H, fun a => a ∈ ownAd ps vs, oiOf 0 ps vs, fun _ _ _ => False⟩ Γ σ R' H' r v → r.le r' → Backs Γ n.oi os → Post r' os → Q v H' :=
      fun {σ R' H' Γ v r r' os} s ro le bk po => by
        refine q v R' H' r' os ⟨s.r0, s.rh, fun a o na h => s.hm a o na h, s.pr, s.un⟩ ?_ ?_ po
        · cases r with
          | d x =>
            cases r' with
            | d y => cases (show Res.d x = Res.d y from le); exact ro
            | own o => exact absurd (show Res.d x = Res.own o from le) (by intro z; cases z)
            | bx _ _ _ _ => exact absurd (show Res.d x = Res.bx _ _ _ _ from le) (by intro z; cases z)
          | own o =>
            cases r' with
            | d y => exact absurd (show Res.own o = Res.d y from le) (by intro z; cases z)
            | own o' => obtain ⟨a, h1, h2, h3, h4, _⟩ := ro; exact ⟨a, h1, OB.le.ok le h2, h3, h4⟩
            | bx _ _ _ _ => exact absurd (show Res.own o = Res.bx _ _ _ _ from le) (by intro z; cases z)
          | bx x b xs o =>
            cases r' with
            | d y => exact absurd (show Res.bx x b xs o = Res.d y from le) (by intro z; cases z)
            | own o' => exact absurd (show Res.bx x b xs o = Res.own o' from le) (by intro z; cases z)
            | bx x' b' xs' o' => cases (show Res.bx x b xs o = Res.bx x' b' xs' o' from le); obtain ⟨h1, h2, h3, h4, _⟩ := ro; exact ⟨h1, h2, h3, h4⟩
        · rw [← oiOf_ad (i := 0)]
          exact OwnsOk.of s (fun _ h => h) (by rw [oiOf_ix hp, hq2]; exact bk)
    exact ⟨fun σ R' H' Γ s e' ⟨os, h1, h2⟩ => fin (v := .non) (r := .d .non) (r' := .d .non) s rfl rfl h1 h2, fun v σ R' H' Γ r s e' ro ⟨r', os, h1, h2, h3⟩ => fin s ro h1 h2 h3, fun σ R' H' Γ s e' h => h.elim, fun σ R' H' Γ s e' h => h.elim⟩
theorem fn_ok {P : Program} {w : World} {K : PySem.W.Frag} {mg : Str → Option Value} {base : Heap} {x qual : Str} {st : Stmt} {f : Addr} {fd : FuncData} {qs : List Str} {n : Nm} {S : Sg} (F : Fun K x qual st f fd) (sc : FnScope n.N qs (defScope st)) (sb : ScOk (defScope st) n) (hsc : n.sc = none ∨ n.sc = some (defScope st))
    (hS : ∀ ps Post, S ps Post → ps.length = qs.length ∧ parOi 0 ps = n.oi)
    (body : ∀ (X : Cx) (c : Cc), X.prog = P ∧ X.w = w ∧ X.K = K ∧ X.mg = mg ∧ X.base = base ∧ Room n.k X.A → ∀ ps Post, S ps Post → WB X n c (entry n.N ps) (defBody st) (fnD n.oi Post)) : FnOk P w K mg base CX0 (n.k + 1) f fd qs (spOf K S) := by
  refine F.ok sc (fun vs H Q E h => ?_) (fun cdv A outer s H vs Q E hr h => fn_body (G := fun _ => True) sc sb hsc hS (fun X c e _ => body X c e) cdv A outer s H vs Q E hr trivial h)
  obtain ⟨R, ps, Post, e, hp, nd, hs, _⟩ := h
  rw [← parsOk_len hp]; exact (hS ps Post hs).1
end DL

end
section
set_option Elab.async false
set_option linter.all false
set_option autoImplicit true
set_option maxRecDepth 100000
set_option maxHeartbeats 400000
namespace DL
open PySem L2
open PyProof.Rows hiding St

/-! ### comprehensions: within, lists and dicts that slots own are only read; a store may be drawn from -/
def Slot.inn : Slot → Slot
  | .own .sto => .own .sto
  | .own (.lst ds) => .w (.lst ds)
  | .own (.dic ds) => .w (.dic ds)
  | .own (.ins nm fs) => .w (.ins nm fs)
  | .own (.lstA _ ds) => .w (.lst ds)
  | .own (.lstV _ _ ds) => .w (.lst ds)
  | .own (.dicA _ ds) => .w (.dic ds)
  | s => s
def stoAd (Γ : SL) (σ : St) (a : Addr) : Prop := ∃ i : Nat, Γ[i]? = some (.own .sto) ∧ σ[i]? = some (some (.ref a))
def Slot.isSto : Slot → Bool
  | .own .sto => true
  | _ => false
theorem isSto_eq {s : Slot} (h : s.isSto = true) : s = .own .sto := by
  cases s with
  | own o => cases o with
    | sto => rfl
    | _ => cases h
  | _ => cases h
def stoIx (Γ : SL) : List Nat := (List.range Γ.length).filter fun i => match Γ[i]? with
  | some s => s.isSto
  | none => false
def inn (Γ : SL) (σ : St) (R H : Hp) : Cc := ⟨R, H, stoAd Γ σ, (stoIx Γ).map fun i => (i, adr ((σ[i]?.bind id).getD .non)), fun _ _ _ => False⟩
section
variable {K : PySem.W.Frag} {c : Cc} {Γ : SL} {σ : St} {R H R' H' : Hp}
theorem mem_stoIx {i : Nat} : i ∈ stoIx Γ ↔ Γ[i]? = some (.own .sto) := by
  unfold stoIx
  rw [List.mem_filter, List.mem_range]
  constructor
  · rintro ⟨h1, h2⟩
    split at h2
    · rename_i s e
      rw [e, isSto_eq h2]
    · cases h2
  · intro h
    refine ⟨(List.getElem?_eq_some_iff.mp h).1, ?_⟩
    rw [h]; rfl
theorem inn_at {i : Nat} {s : Slot} (h : (Γ.map Slot.inn)[i]? = some s) : ∃ s0, Γ[i]? = some s0 ∧ s = s0.inn := by
  rw [List.getElem?_map] at h
  obtain ⟨s0, h1, h2⟩ := Option.map_eq_some_iff.mp h
  exact ⟨s0, h1, h2.symm⟩
theorem inn_own {s0 : Slot} {o : OB} (h : s0.inn = .own o) : s0 = .own .sto ∧ o = .sto := by
  cases s0 with
  | own ob => cases ob with
    | sto => cases h; exact ⟨rfl, rfl⟩
    | lst _ => cases h
    | dic _ => cases h
    | ins _ _ => cases h
    | lstA _ _ => cases h
    | lstV _ _ _ => cases h
    | dicA _ _ => cases h
  | _ => cases h
theorem SOk.enter (s : SOk K c Γ σ R H) (j : Nat) {x : D} {v : V} (hr : Rp K R x v) (hj : ∀ o, Γ[j]? ≠ some (.own o)) : SOk K (inn Γ σ R H) ((Γ.map Slot.inn).set j (.d x)) (σ.set j (some v)) R H := by
  have s1 : SOk K (inn Γ σ R H) (Γ.map Slot.inn) σ R H := by
    refine ⟨s.rh, Ex.refl _, fun _ _ _ h => h, fun _ h => h, fun _ _ h => h, by simp [s.len], fun i sl e => ?_, fun i k a o o' e1 e2 e3 e4 => ?_, fun p hp => ?_⟩
    · obtain ⟨s0, e1, e2⟩ := inn_at e
      obtain ⟨o, q1, q2⟩ := s.sl i s0 e1
      refine ⟨o, q1, ?_⟩
      subst e2
      have nsto : ∀ a, (∃ ds, s0 = .own ds ∧ ds ≠ .sto) → o = some (.ref a) → ¬ (inn Γ σ R H).M a := fun a ⟨ds, z1, z2⟩ z3 ⟨k, w1, w2⟩ => by
        subst z1 z3
        have := s.dj i k a ds .sto e1 w1 q1 w2
        subst this
        rw [e1] at w1; cases w1; exact z2 rfl
      cases s0 with
      | no => exact q2
      | any => exact q2
      | d y => exact q2
      | sc ns => exact q2
      | ex _ _ _ => exact q2
      | bx _ _ _ => exact q2
      | tn _ _ _ => exact q2
      | lk kvs =>
        obtain ⟨a, ws, od, z1, z2, z3, z4⟩ := q2
        refine ⟨a, ws, od, z1, s.hm a _ z3 z2, fun ⟨k, w1, w2⟩ => ?_, z4⟩
        obtain ⟨u', t1, b, t2, t3, t4, t5⟩ := s.sl k _ w1
        rw [w2] at t1; cases t1; cases t2
        rcases t5 with t5 | t5
        · rw [z2] at t5; cases t5
        · exact z3 t5
      | w y =>
        obtain ⟨u, z1, z2⟩ := q2
        refine ⟨u, z1, z2.noM fun a o' w1 w2 w3 => ?_⟩
        rcases w3 with w3 | ⟨k, w4, w5⟩
        · have w3' : H a = none := w3; rw [w3'] at w1; cases w1
        · obtain ⟨u', t1, b, t2, t3, t4, t5⟩ := s.sl k _ w4
          rw [w5] at t1; cases t1; cases t2
          exact w2 t5
      | own ob =>
        obtain ⟨a, z1, z2, z3, z4⟩ := q2
        cases ob with
        | sto => exact ⟨a, z1, z2, z3, .inr ⟨i, e1, by rw [q1, z1]⟩⟩
        | lst ds =>
          obtain ⟨vs, w1, w2⟩ := z2
          refine ⟨_, z1, .inr (.inl ⟨a, vs, ds, rfl, rfl, fun m => ?_, w1, w2⟩)⟩
          rcases m with m | m
          · have m' : H a = none := m; rw [m'] at w1; cases w1
          · exact nsto a ⟨_, rfl, by simp⟩ z1 m
        | dic ds =>
          obtain ⟨vs, w1, w2⟩ := z2
          refine ⟨_, z1, .inr (.inr (.inl ⟨a, vs, ds, rfl, rfl, fun m => ?_, w1, w2⟩))⟩
          rcases m with m | m
          · have m' : H a = none := m; rw [m'] at w1; cases w1
          · exact nsto a ⟨_, rfl, by simp⟩ z1 m
        | lstA _ ds =>
          obtain ⟨_, vs, w1, w2⟩ := z2
          refine ⟨_, z1, .inr (.inl ⟨a, vs, ds, rfl, rfl, fun m => ?_, w1, w2⟩)⟩
          rcases m with m | m
          · have m' : H a = none := m; rw [m'] at w1; cases w1
          · exact nsto a ⟨_, rfl, by simp⟩ z1 m
        | lstV _ vs ds =>
          obtain ⟨_, w1, w2⟩ := z2
          refine ⟨_, z1, .inr (.inl ⟨a, vs, ds, rfl, rfl, fun m => ?_, w1, w2⟩)⟩
          rcases m with m | m
          · have m' : H a = none := m; rw [m'] at w1; cases w1
          · exact nsto a ⟨_, rfl, by simp⟩ z1 m
        | dicA _ ds =>
          obtain ⟨_, vs, w1, w2⟩ := z2
          refine ⟨_, z1, .inr (.inr (.inl ⟨a, vs, ds, rfl, rfl, fun m => ?_, w1, w2⟩))⟩
          rcases m with m | m
          · have m' : H a = none := m; rw [m'] at w1; cases w1
          · exact nsto a ⟨_, rfl, by simp⟩ z1 m
        | ins nm fs =>
          obtain ⟨dx, vs, w1, w2⟩ := z2
          refine ⟨_, z1, .inr (.inr (.inr ⟨a, dx, vs, nm, fs, rfl, rfl, fun m => ?_, w1, w2⟩))⟩
          rcases m with m | m
          · have m' : H a = none := m; rw [m'] at w1; cases w1
          · exact nsto a ⟨_, rfl, by simp⟩ z1 m
    · obtain ⟨s0, f1, f2⟩ := inn_at e1
      obtain ⟨s1, g1, g2⟩ := inn_at e2
      obtain ⟨r1, _⟩ := inn_own f2.symm
      obtain ⟨r2, _⟩ := inn_own g2.symm
      subst r1 r2
      exact s.dj i k a .sto .sto f1 g1 e3 e4
    · obtain ⟨i, hi, e⟩ := List.mem_map.mp hp
      subst e
      have h1 := mem_stoIx.mp hi
      obtain ⟨u', t1, b, t2, t3, t4, t5⟩ := s.sl i _ h1
      subst t2
      refine ⟨?_, .sto, ?_⟩
      · show σ[i]? = some (some (.ref (adr ((σ[i]?.bind id).getD .non))))
        rw [t1]; rfl
      · show (Γ.map Slot.inn)[i]? = _
        rw [List.getElem?_map, h1]; rfl
  refine s1.setD j hr fun z => ?_
  obtain ⟨p, hp, e⟩ := List.mem_map.mp z
  obtain ⟨i, hi, e'⟩ := List.mem_map.mp hp
  subst e'
  have h1 := mem_stoIx.mp hi
  have e : i = j := e
  subst e
  exact hj _ h1
theorem SOk.leave (s : SOk K c Γ σ R H) (j : Nat) {x : D} {v : Option V} (hj : ∀ o, Γ[j]? ≠ some (.own o)) (s' : SOk K (inn Γ σ R H) ((Γ.map Slot.inn).set j (.d x)) (σ.set j v) R' H') : SOk K c Γ σ R' H' := by
  have noM : ∀ a, ¬ (c.H0 a = none ∨ c.M a) → ¬ (inn Γ σ R H).M a := fun a h ⟨k, w4, w5⟩ => by
    obtain ⟨u', t1, b, t2, t3, t4, t5⟩ := s.sl k _ w4
    rw [w5] at t1; cases t1; cases t2
    exact h t5
  have un : ∀ a, H a ≠ none → R a = none → R' a = none := s'.un
  refine ⟨s'.rh, s.r0.trans s'.r0, fun a o n h => ?_, fun a h => s'.pr a (s.pr a h), fun a h1 h2 => un a (s.pr a h1) (s.un a h1 h2), s.len, fun i sl e => ?_, s.dj, s.oi⟩
  · refine s'.hm a o (noM a fun z => ?_) (s.hm a o n h)
    rcases z with z | z
    · rw [z] at h; cases h
    · exact n z
  · obtain ⟨o, q1, q2⟩ := s.sl i sl e
    refine ⟨o, q1, ?_⟩
    cases sl with
    | no => exact q2
    | any => exact q2
    | d y => obtain ⟨u, z1, z2⟩ := q2; exact ⟨u, z1, Rp.mono s'.r0 _ _ z2⟩
    | sc ns => obtain ⟨u, z1, z2⟩ := q2; exact ⟨u, z1, ex_l s'.r0 z2⟩
    | ex _ _ _ => exact ⟨q2.1, q2.2.mono s'.r0⟩
    | bx _ _ _ => obtain ⟨v, z1, z2⟩ := q2; exact ⟨v, z1, z2.mono s'.r0⟩
    | tn _ _ _ => obtain ⟨v, z1, z2⟩ := q2; exact ⟨v, z1, Rp.mono (ex_u s'.r0) _ _ z2⟩
    | lk _ => obtain ⟨b, ws, od, z1, z2, z3, z4⟩ := q2; exact ⟨b, ws, od, z1, z2, z3, z4.mono s'.r0⟩
    | w y => obtain ⟨u, z1, z2⟩ := q2; exact ⟨u, z1, z2.mono s'.r0 fun a o h1 h2 => s'.hm a o (noM a h1) h2⟩
    | own ob =>
      obtain ⟨a, z1, z2, z3, z4⟩ := q2
      refine ⟨a, z1, ?_, un a z2.there z3, z4⟩
      have keep : ob ≠ .sto → ∀ o, H a = some o → H' a = some o := fun hne o ho => s'.hm a o (fun ⟨k, w4, w5⟩ => by
        subst z1
        have := s.dj i k a ob .sto e w4 q1 w5
        subst this
        rw [e] at w4; cases w4; exact hne rfl) ho
      cases ob with
      | lst ds => exact z2.mono s'.r0 (keep (by simp))
      | dic ds => exact z2.mono s'.r0 (keep (by simp))
      | ins nm fs => exact z2.mono s'.r0 (keep (by simp))
      | lstA _ _ => exact z2.mono s'.r0 (keep (by simp))
      | lstV _ _ _ => exact z2.mono s'.r0 (keep (by simp))
      | dicA _ _ => exact z2.mono s'.r0 (keep (by simp))
      | sto =>
        have hij : j ≠ i := fun z => hj _ (z ▸ e)
        obtain ⟨u, t1, b, t2, t3, t4, t5⟩ := s'.sl i (.own .sto) (by rw [List.getElem?_set_ne hij, List.getElem?_map, e]; rfl)
        rw [List.getElem?_set_ne hij, q1] at t1
        cases t1; subst z1; cases t2
        exact t3
/-- a pending list grows -/
theorem SOk.pend (s : SOk K c Γ σ R H) {a : Addr} {ob ob' : OB} {o : HO} (h : VOk K c Γ σ R H (.own ob) (.ref a)) (h' : OBOk K R (upd H a o) a ob') : SOk K c Γ σ R (upd H a o) ∧ VOk K c Γ σ R (upd H a o) (.own ob') (.ref a) := by
  obtain ⟨b, e, h2, h3, h4, h5⟩ := h
  cases e
  refine ⟨⟨fun b u e => ?_, s.r0, fun b u n e => ?_, fun b n => ?_, s.un, s.len, fun i x e => ?_, s.dj, s.oi⟩, a, rfl, h', h3, h4, h5⟩
  · rw [upd_ne (fun z => by rw [z, h3] at e; cases e)]; exact s.rh b u e
  · rw [upd_ne (fun z => by rw [z, h4] at e; cases e)]; exact s.hm b u n e
  · by_cases z : b = a
    · subst z; rw [upd_same]; simp
    · rw [upd_ne z]; exact s.pr b n
  · obtain ⟨u, u1, u2⟩ := s.sl i x e
    refine ⟨u, u1, ?_⟩
    cases x with
    | no => exact u2
    | any => exact u2
    | d x => exact u2
    | sc ns => exact u2
    | ex _ _ _ => exact u2
    | bx _ _ _ => exact u2
    | tn _ _ _ => exact u2
    | lk _ => exact u2
    | w x => obtain ⟨v, z1, z2⟩ := u2; exact ⟨v, z1, z2.mono (Ex.refl _) fun b o nb q => by rw [upd_ne (fun z => nb (by rw [z]; exact .inl h4))]; exact q⟩
    | own o2 =>
      obtain ⟨b, z1, z2, z3, z4⟩ := u2
      refine ⟨b, z1, z2.mono (Ex.refl _) fun o q => ?_, z3, z4⟩
      rw [upd_ne (fun z => by subst z; exact h5 i o2 e (by rw [u1, z1]))]; exact q
end

/-- X' runs a comprehension's block of X -/
def BlkX (X X' : Cx) (scope : Scope) : Prop := ∃ s H C cl fp, X' = X.blk s H scope (compEnvC scope cl C X.env) fp
theorem CalF.blk {X X' : Cx} {sc : Scope} {k : Nat} {nm : Str} {S : Sg} (b : BlkX X X' sc) (h : CalF X k nm S) : CalF X' k nm S := by
  obtain ⟨s, H, C, cl, fp, rfl⟩ := b
  exact ⟨h.rm, h.ex⟩
theorem Blt.blk {X X' : Cx} {sc : Scope} {nm : Str} {f : Value} (b : BlkX X X' sc) (h : Blt X nm f) : Blt X' nm f := by
  obtain ⟨s, H, C, cl, fp, rfl⟩ := b
  exact ⟨h.mg, h.bt⟩
theorem Con.blk {X X' : Cx} {sc : Scope} {nm : Str} {x : D} (b : BlkX X X' sc) (h : Con X nm x) : Con X' nm x := by
  obtain ⟨s, H, C, cl, fp, rfl⟩ := b
  exact ⟨h.ex⟩
theorem lookup_mapV {g : Str → NameKind → NameKind} : ∀ {names : List (Str × NameKind)} {x : Str}, ((names.map fun p => (p.1, g p.1 p.2)).lookup x) = (names.lookup x).map (g x)
  | [], x => rfl
  | (m, k) :: r, x => by
    have ih := @lookup_mapV g r x
    rw [List.map_cons]
    by_cases e : x = m
    · subst e; simp [List.lookup]
    · have e' : (x == m) = false := by simpa using e
      simp only [List.lookup, e']; exact ih
theorem lookup_rel {env : Env} {names : List (Str × NameKind)} {x : Str} : ((names.map fun (n, k) => if (k == NameKind.free && env.scope.kind == .function && env.kindOf n == some .cell) then (n, NameKind.cell) else (n, k)).lookup x) = (names.lookup x).map fun k => if (k == NameKind.free && env.scope.kind == .function && env.kindOf x == some .cell) then NameKind.cell else k := by
  rw [← lookup_mapV (g := fun n k => if (k == NameKind.free && env.scope.kind == .function && env.kindOf n == some .cell) then NameKind.cell else k)]
  congr 2
  funext ⟨m, k⟩
  dsimp only
  split <;> rfl
def scC (scope : Scope) (n : Nm) : Bool :=
  ((List.range n.N.length).all (fun i => match n.N[i]? with
    | some x => (!n.V.contains i || (scope.names.lookup x == some .local || scope.names.lookup x == some .cell || scope.names.lookup x == some .free)) && (!n.as.contains i || (scope.names.lookup x == some .local || scope.names.lookup x == some .cell))
    | none => true)) && n.GN.all (fun x => scope.names.lookup x == some .globalImplicit && !(x == ("__debug__" : Str)) && !(x == ("__name__" : Str)))
theorem nok_blk {X X' : Cx} {n n' : Nm} {c c' : Cc} {scope : Scope} (xw : c'.xw = fun _ _ _ => False) (b : BlkX X X' scope) (hk : scope.kind = .function) (hn : NOk X n c) (h : scC scope n' = true) (e1 : n'.N = n.N) (e2 : n'.k = n.k) (e3 : n'.lc = []) (e4 : n'.sc = none) (h0 : n.hot = false) (oi : c'.oi.map (·.1) = n'.oi) (cm : ∀ a, c'.M a → ∃ j, (j, a) ∈ c'.oi) : NOk X' n' c' := by
  obtain ⟨s, H, C, cl, fp, rfl⟩ := b
  unfold scC at h
  simp only [Bool.and_eq_true, List.all_eq_true, List.mem_range] at h
  obtain ⟨h2, h3⟩ := h
  have at_ : ∀ (i : Nat) (x : Str), n'.N[i]? = some x → ((!n'.V.contains i || (scope.names.lookup x == some .local || scope.names.lookup x == some .cell || scope.names.lookup x == some .free)) && (!n'.as.contains i || (scope.names.lookup x == some .local || scope.names.lookup x == some .cell))) = true := fun i x e => by
    have := h2 i (List.getElem?_eq_some_iff.mp e).1
    rw [e] at this; exact this
  have lk : ∀ x, (compEnvC scope cl C X.env).scope.names.lookup x = (scope.names.lookup x).map fun k => if (k == NameKind.free && X.env.scope.kind == .function && X.env.kindOf x == some .cell) then NameKind.cell else k := fun x => lookup_rel
  refine ⟨hn.eq.trans e1.symm, by rw [e1]; exact hn.nd, fun i x hv e => ?_, fun i x ha e => ?_, fun i x e => hn.dbg i x (e1 ▸ e), fun i x e => ?_, hk, fun s0 z => ?_, fun _ => hn.calm h0, by rw [e2]; exact hn.room, PassesOwn.never, fun i x hl => ?_, oi, cm, takes_no xw, fun z => absurd e3 z⟩
  · have := at_ i x e
    simp only [Bool.and_eq_true, hv, Bool.not_true, Bool.false_or, Bool.or_eq_true, beq_iff_eq] at this
    unfold Vis
    show (compEnvC scope cl C X.env).scope.names.lookup x = _ ∨ (compEnvC scope cl C X.env).scope.names.lookup x = _ ∨ (compEnvC scope cl C X.env).scope.names.lookup x = _
    rw [lk x]
    rcases this.1 with (q | q) | q
    · rw [q]; exact .inl rfl
    · rw [q]; exact .inr (.inl rfl)
    · rw [q]
      by_cases cc : ((NameKind.free == NameKind.free) && X.env.scope.kind == .function && X.env.kindOf x == some .cell) = true
      · exact .inr (.inl (by simp only [Option.map_some, cc, if_true]))
      · exact .inr (.inr (by simp only [Option.map_some, cc]; rfl))
  · have := at_ i x e
    simp only [Bool.and_eq_true, ha, Bool.not_true, Bool.false_or, Bool.or_eq_true, beq_iff_eq] at this
    rcases this.2 with t | t
    · have q : (compEnvC scope cl C X.env).scope.names.lookup x = some .local := by rw [lk x, t]; rfl
      exact ⟨.inl q, .inr q⟩
    · have q : (compEnvC scope cl C X.env).scope.names.lookup x = some .cell := by rw [lk x, t]; rfl
      exact ⟨.inr q, .inl (by show (scope.names.lookup x == some .cell) = true; rw [t]; rfl)⟩
  · have := h3 x (List.mem_of_getElem? e)
    simp only [Bool.and_eq_true, beq_iff_eq, Bool.not_eq_true'] at this
    refine ⟨?_, this.1.2, by intro z; subst z; simp at this⟩
    show (compEnvC scope cl C X.env).scope.names.lookup x = _
    rw [lk x, this.1.1]; rfl
  · rw [e4] at z; cases z
  · rw [e3] at hl; cases hl

section
variable {X : Cx} {n : Nm} {c : Cc} {Γ : SL} {e a b : Expr} {x y z : D} {pos p p2 : Pos} {nm : Str} {k : AK} {iter elt : Expr} {scope : Scope} {n' : Nm} {ds : List D}
/-- a comprehension's tests -/
def WTs (X : Cx) (n : Nm) (c : Cc) (Γ : SL) (ifs : List Expr) (Post : Bool → SL → Prop) : Prop := match ifs with
  | [] => Post true Γ
  | [t] => WT X n c Γ t Post
  | _ => False
def tTs (X : Cx) : List Expr → TT
  | [] => tYes
  | [t] => tWT X t
  | _ => tYes
theorem pts_of {X : Cx} : ∀ {ifs : List Expr}, ifs.length ≤ 1 → PTs X ifs (tTs X ifs)
  | [], _ => pts_nil
  | [t], _ => pts_one pWT
  | _ :: _ :: _, h => by simp at h
theorem sto_cm {σ : St} {R H : Hp} : (∀ a, (inn Γ σ R H).M a → ∃ j, (j, a) ∈ (inn Γ σ R H).oi) ∧ (inn Γ σ R H).oi.map (·.1) = stoIx Γ := by
  refine ⟨fun a ⟨i, h1, h2⟩ => ⟨i, List.mem_map.mpr ⟨i, mem_stoIx.mpr h1, by rw [h2]; rfl⟩⟩, ?_⟩
  show ((stoIx Γ).map _).map _ = _
  rw [List.map_map]
  exact List.map_id _
theorem lc_bk {X : Cx} {n : Nm} {c : Cc} {s0 scope : Scope} {own : List (Str × Nat)} (hn : NOk X n c) (e0 : n.sc = some s0) (hb : blkC n.N s0 scope own = true) : BlkOk X.N X.env.scope scope own := by rw [hn.eq, hn.scp s0 e0]; exact blkOk_by hb
/-- what a comprehension's block is: its scope, its names -/
structure LcOk (X : Cx) (n n' : Nm) (Γ : SL) (scope : Scope) (nm : Str) (j : Nat) : Prop where
  sc : ∀ c, NOk X n c → BlkOk X.N X.env.scope scope [(nm, j)]
  in_ : scC scope n' = true
  eN : n'.N = n.N
  ek : n'.k = n.k
  el : n'.lc = []
  es : n'.sc = none
  eo : n'.oi = stoIx Γ
  as : n'.as.contains j = true
  hj : n.N[j]? = some nm
  no : ∀ o, Γ[j]? ≠ some (.own o)
  hot : n.hot = false
def lcT (X : Cx) (scope : Scope) (ifs : List Expr) : TT := fun σ H Q => ∀ s H0 C cl fp, tTs (X.blk s H0 scope (compEnvC scope cl C X.env) fp) ifs σ H Q
def lcE (X : Cx) (scope : Scope) (elt : Expr) : TE := fun σ H Q => ∀ s H0 C cl fp, tW (X.blk s H0 scope (compEnvC scope cl C X.env) fp) elt σ H Q
/-- the rule's parts that hang on the block alone -/
theorem lc_pe (j : Nat) {ifs : List Expr} {tp : Pos} {wi : TI} (L : LcOk X n n' Γ scope nm j) (hn : NOk X n c) (hi : PI X (.Name nm tp) iter wi) (hifs : ifs.length ≤ 1) (hs : ∀ x, foldedSetIterable iter X.env x = pure x) :
    PE X (.ListComp elt [⟨.Name nm tp, iter, ifs, 0⟩] scope pos) (tLc wi (gName j) (lcT X scope ifs) (lcE X scope elt) [j]) := by
  have bk : BlkOk X.N X.env.scope scope [(nm, j)] := L.sc _ hn
  have hN : X.N.Nodup := by rw [hn.eq]; exact hn.nd
  refine pe_lc (own := [(nm, j)]) (hn.calm L.hot) hN hi bk ?_ ?_ ?_ hs
  · intro s1 H1 C cl fp
    have := nok_blk (c' := ⟨H1, H1, fun _ => False, n'.oi.map fun i => (i, 0), fun _ _ _ => False⟩) rfl ⟨s1, H1, C, cl, fp, rfl⟩ bk.kind hn L.in_ L.eN L.ek L.el L.es L.hot (by simp [List.map_map, Function.comp_def]) (fun _ h => h.elim)
    obtain ⟨l1, l2⟩ := this.loc j nm L.as (by rw [L.eN]; exact L.hj)
    exact pg_name hN (by rw [hn.eq]; exact L.hj) l1 l2
  · intro s1 H1 C cl fp
    exact ⟨fun pins s2 σ2 H2 Q2 I h => (pts_of hifs).run pins s2 σ2 H2 Q2 I (h s1 H1 C cl fp)⟩
  · intro s1 H1 C cl fp
    exact ⟨fun pins s2 σ2 H2 Q2 I h => pW.run pins s2 σ2 H2 Q2 I (h s1 H1 C cl fp)⟩
/-- .. stored to a name at once -/
theorem lc_ps (j iy : Nat) {ifs : List Expr} {tp py spos : Pos} {ny : Str} {wi : TI} (L : LcOk X n n' Γ scope nm j) (hn : NOk X n c) (hi : PI X (.Name nm tp) iter wi) (hifs : ifs.length ≤ 1) (hs : ∀ x, foldedSetIterable iter X.env x = pure x)
    (hy : n.N[iy]? = some ny) (hyl : n.lc.contains iy = true) (hln : (py.line == pos.line) = true) (hany : (scope.names.any fun (m, k) => m == ny && (k == .local || k == .cell)) = false) :
    PS X (.Assign [.Name ny py] (.ListComp elt [⟨.Name nm tp, iter, ifs, 0⟩] scope pos) spos) (tAsg (tLc wi (gName j) (lcT X scope ifs) (lcE X scope elt) [j]) (gName iy)) := by
  have bk : BlkOk X.N X.env.scope scope [(nm, j)] := L.sc _ hn
  have hN : X.N.Nodup := by rw [hn.eq]; exact hn.nd
  have hl := hn.lc iy ny hyl hy
  refine ps_setLc (own := [(nm, j)]) (hn.calm L.hot) hN (by rw [hn.eq]; exact hy) hl (sw_true hn.kind hl hln hany) hi bk ?_ ?_ ?_ hs
  · intro s1 H1 C cl fp
    have := nok_blk (c' := ⟨H1, H1, fun _ => False, n'.oi.map fun i => (i, 0), fun _ _ _ => False⟩) rfl ⟨s1, H1, C, cl, fp, rfl⟩ bk.kind hn L.in_ L.eN L.ek L.el L.es L.hot (by simp [List.map_map, Function.comp_def]) (fun _ h => h.elim)
    obtain ⟨l1, l2⟩ := this.loc j nm L.as (by rw [L.eN]; exact L.hj)
    exact pg_name hN (by rw [hn.eq]; exact L.hj) l1 l2
  · intro s1 H1 C cl fp
    exact ⟨fun pins s2 σ2 H2 Q2 I h => (pts_of hifs).run pins s2 σ2 H2 Q2 I (h s1 H1 C cl fp)⟩
  · intro s1 H1 C cl fp
    exact ⟨fun pins s2 σ2 H2 Q2 I h => pW.run pins s2 σ2 H2 Q2 I (h s1 H1 C cl fp)⟩
/-- what stands between two turns -/
def LcInv (K : PySem.W.Frag) (c : Cc) (Γ : SL) (σ : St) (R1 : Hp) (Dl : Addr) (Keep : Hp → Prop) (Acc : Nat → List D → Prop) (i : Nat) (H : Hp) : Prop :=
  ∃ R acc, SOk K c Γ σ R H ∧ Ex R1 R ∧ Keep H ∧ VOk K c Γ σ R H (.own (.lst acc)) (.ref Dl) ∧ acc.length ≤ i ∧ Acc i acc
theorem lc_step (j : Nat) {ifs : List Expr} {Acc : Nat → List D → Prop} {Tst : Bool → Prop} {i : Nat} {d : D} {v : V} {σ : St} {R1 H : Hp} {Dl : Addr} {Keep : Hp → Prop} (L : LcOk X n n' Γ scope nm j) (hn : NOk X n c) (hi : i < 1000000) (hkeep : ∀ H H', (∀ b o, b ≠ Dl → ¬ stoAd Γ σ b → H b = some o → H' b = some o) → Keep H → Keep H')
    (hd : Rp X.K R1 d v) (h : LcInv X.K c Γ σ R1 Dl Keep Acc i H) (ht : ∀ X' c', BlkX X X' scope → WTs X' n' c' ((Γ.map Slot.inn).set j (.d d)) ifs fun q Γ2 => Γ2 = (Γ.map Slot.inn).set j (.d d) ∧ Tst q)
    (he : ∀ X' c', BlkX X X' scope → Tst true → ∀ acc, Acc i acc → acc.length ≤ i → WE X' n' c' ((Γ.map Slot.inn).set j (.d d)) elt fun y Γ3 => Γ3 = (Γ.map Slot.inn).set j (.d d) ∧ Acc (i + 1) (acc ++ [y]))
    (hf : Tst false → ∀ acc, Acc i acc → Acc (i + 1) acc) (hifs : ifs.length ≤ 1) :
    gName j v (wipe σ [j]) H fun σ2 H2 => wipe σ2 [j] = wipe σ [j] ∧ (lcT X scope ifs σ2 H2 fun b H3 =>
      if b = true then (lcE X scope elt σ2 H3 fun y H4 => ∃ acc, H4 Dl = some (.lst acc) ∧ acc.length < sizeLine ∧ LcInv X.K c Γ σ R1 Dl Keep Acc (i + 1) (upd H4 Dl (.lst (acc ++ [y])))) else LcInv X.K c Γ σ R1 Dl Keep Acc (i + 1) H3) := by
  have bk : BlkOk X.N X.env.scope scope [(nm, j)] := L.sc _ hn
  have w0 : wipe σ [j] = σ.set j none := rfl
  have w1 : (wipe σ [j]).set j (some v) = σ.set j (some v) := by rw [w0, List.set_set]
  have w2 : wipe (σ.set j (some v)) [j] = wipe σ [j] := by show (σ.set j (some v)).set j none = σ.set j none; rw [List.set_set]
  obtain ⟨R, acc, s, e1, kp, ⟨aa, ea, ⟨accV, hA1, hA2⟩, hA3, hA4, hA5⟩, hl, ha⟩ := h
  cases ea
  have nsto : ¬ stoAd Γ σ Dl := fun ⟨i, w1, w2⟩ => hA5 i _ w1 w2
  have sin := s.enter j (Rp.mono e1 _ _ hd) L.no
  obtain ⟨o1, o2⟩ := sto_cm (Γ := Γ) (σ := σ) (R := R) (H := H)
  have nk : ∀ X', BlkX X X' scope → NOk X' n' (inn Γ σ R H) := fun X' b => nok_blk rfl b bk.kind hn L.in_ L.eN L.ek L.el L.es L.hot (o2.trans L.eo.symm) o1
  have at4 : ∀ R4 H4, SOk X.K (inn Γ σ R H) ((Γ.map Slot.inn).set j (.d d)) (σ.set j (some v)) R4 H4 → SOk X.K c Γ σ R4 H4 ∧ VOk X.K c Γ σ R4 H4 (.own (.lst acc)) (.ref Dl) ∧ H4 Dl = some (.lst accV) ∧ RpL X.K R4 acc accV ∧ Keep H4 := fun R4 H4 s4 => by
    have hD : H4 Dl = some (.lst accV) := s4.hm Dl _ nsto hA1
    have hR : RpL X.K R4 acc accV := hA2.mono s4.r0
    exact ⟨s.leave j L.no s4, ⟨Dl, rfl, ⟨accV, hD, hR⟩, s4.un Dl (by show H Dl ≠ none; rw [hA1]; simp) hA3, hA4, hA5⟩, hD, hR, hkeep H H4 (fun b o _ nb hb => s4.hm b o nb hb) kp⟩
  unfold gName
  rw [w1]
  refine ⟨w2, fun s1 H1 C cl fp => ?_⟩
  have go : ∀ (b : Bool) (R3 H3 : Hp), SOk X.K (inn Γ σ R H) ((Γ.map Slot.inn).set j (.d d)) (σ.set j (some v)) R3 H3 → Tst b →
      if b = true then (∀ s H0 C cl fp, tW (X.blk s H0 scope (compEnvC scope cl C X.env) fp) elt (σ.set j (some v)) H3 fun y H4 => ∃ acc, H4 Dl = some (.lst acc) ∧ acc.length < sizeLine ∧ LcInv X.K c Γ σ R1 Dl Keep Acc (i + 1) (upd H4 Dl (.lst (acc ++ [y])))) else LcInv X.K c Γ σ R1 Dl Keep Acc (i + 1) H3 := by
    intro b R3 H3 s3 tb
    cases b with
    | true =>
      rw [if_pos rfl]
      intro s2 H2 C2 cl2 fp2
      refine (he _ (inn Γ σ R H) ⟨s2, H2, C2, cl2, fp2, rfl⟩ tb acc ha hl).run (nk _ ⟨s2, H2, C2, cl2, fp2, rfl⟩) _ R3 H3 s3 _ fun u R4 H4 y Γ4 s4 e4 r4 ⟨g1, g2⟩ => ?_
      subst g1
      obtain ⟨v1, v2, v3, v4, v5⟩ := at4 R4 H4 s4
      refine ⟨accV, v3, by have := v4.length; rw [sizeLine_eq]; omega, ?_⟩
      obtain ⟨t1, t2⟩ := v1.pend (ob' := .lst (acc ++ [y])) (o := .lst (accV ++ [u])) v2 ⟨_, upd_same, v4.append (.one r4)⟩
      exact ⟨R4, acc ++ [y], t1, e1.trans s4.r0, hkeep H4 _ (fun b o nb _ hb => by rw [upd_ne nb]; exact hb) v5, t2, by simp; omega, g2⟩
    | false =>
      rw [if_neg Bool.false_ne_true]
      obtain ⟨v1, v2, v3, v4, v5⟩ := at4 R3 H3 s3
      exact ⟨R3, acc, v1, e1.trans s3.r0, v5, v2, by omega, hf tb acc ha⟩
  have hT := ht _ (inn Γ σ R H) ⟨s1, H1, C, cl, fp, rfl⟩
  match ifs, hifs, hT with
  | [], _, hT => exact go true R H sin hT.2
  | [t], _, hT =>
    exact (WT.run (show WT _ _ _ _ t _ from hT)) (nk _ ⟨s1, H1, C, cl, fp, rfl⟩) _ R H sin _ fun R3 H3 b Γ3 s3 e3 ⟨g1, g2⟩ => by
      subst g1
      exact go b R3 H3 s3 g2
theorem lc_fin {Acc : Nat → List D → Prop} {σ : St} {R1 H : Hp} {Dl : Addr} {Keep : Hp → Prop} {m : Nat} {Q : VK} (h : LcInv X.K c Γ σ R1 Dl Keep Acc m H) (q : ∀ v R' H' o Γ', SOk X.K c Γ' σ R' H' → Ex R1 R' → VOk X.K c Γ' σ R' H' (.own o) v → (Γ' = Γ ∧ ∃ out, o = .lst out ∧ Acc m out) → Q v H') : Q (.ref Dl) H := by
  obtain ⟨R, acc, s, e1, kp, vo, hl, ha⟩ := h
  exact q _ R H _ Γ s e1 vo ⟨rfl, acc, rfl, ha⟩
theorem lc_start {Acc : Nat → List D → Prop} {σ : St} {R H : Hp} {Dl : Addr} {Keep : Hp → Prop} (s : SOk X.K c Γ σ R H) (hD : H Dl = none) (kp : Keep (upd H Dl (.lst []))) (h0 : Acc 0 []) : LcInv X.K c Γ σ R Dl Keep Acc 0 (upd H Dl (.lst [])) :=
  ⟨R, [], s.grow (s.newOwn (.lst []) hD), Ex.refl _, kp, .fresh s hD ⟨[], upd_same, .nil⟩, Nat.le_refl _, h0⟩
/-- what is read is no store -/
theorem no_sto {K : PySem.W.Frag} {σ : St} {R H : Hp} {a : Addr} (s : SOk K c Γ σ R H) (r : AkOk K R σ k (.ref a)) (hg : k.get Γ = some (.lst ds)) : ¬ stoAd Γ σ a := fun ⟨i, w1, w2⟩ => by
  obtain ⟨u', t1, b, t2, ⟨ns, pl, gr, st, lf, ct, hB, us, t3, t4⟩, t5, t6⟩ := s.sl i _ w1
  rw [w2] at t1; cases t1; cases t2
  have frz : Rp K R (.lst ds) (.ref a) → False := fun h => by
    obtain ⟨b, ws, q1, q2, q3⟩ := h; cases q1; rw [t5] at q2; cases q2
  have slot : ∀ (i' : Nat) (sl : Slot), Γ[i']? = some sl → sl.data = some (.lst ds) → σ[i']? = some (some (.ref a)) → False := fun i' sl e1 e2 e3 => by
    obtain ⟨o, q1, q2⟩ := s.sl i' sl e1
    rw [e3] at q1; cases q1
    cases sl with
    | d y => cases e2; obtain ⟨v, z1, z2⟩ := q2; cases z1; exact frz z2
    | w y =>
      cases e2
      obtain ⟨v, z1, z2⟩ := q2; cases z1
      rcases z2 with z2 | ⟨b, vs, ds, z3, z4, z5, _⟩ | ⟨b, vs, ds, z3, z4, z5, _⟩ | ⟨b, dx, vs, nm, ds, z3, z4, z5, _⟩
      · exact frz z2
      · cases z3; exact z5 t6
      · cases z3; exact z5 t6
      · cases z3; exact z5 t6
    | own ob =>
      have := s.dj i i' a .sto ob w1 e1 w2 e3
      subst this
      rw [w1] at e1; cases e1; cases e2
    | _ => cases e2
  cases k with
  | d y => cases hg; exact frz r
  | v y => cases hg; exact frz r
  | s i' => obtain ⟨sl, e1, e2⟩ := Option.bind_eq_some_iff.mp hg; exact slot i' sl e1 e2 r
  | o i' => obtain ⟨sl, e1, e2⟩ := Option.bind_eq_some_iff.mp hg; exact slot i' sl e1 e2 r
/-- [elt for name in a list (if ..)]: Acc tells what is made so far, Tst what a test's answer tells -/
theorem rd_lcL (j : Nat) {ifs : List Expr} {Post : OB → SL → Prop} (Acc : Nat → List D → Prop) (Tst : Nat → D → Bool → Prop) (L : LcOk X n n' Γ scope nm j) (hk : EK X n c Γ iter k) (hg : k.get Γ = some (.lst ds)) (hz : ds.length ≤ 100000) (h0 : Acc 0 [])
    (ht : ∀ X' c', BlkX X X' scope → ∀ i d, ds[i]? = some d → WTs X' n' c' ((Γ.map Slot.inn).set j (.d d)) ifs fun q Γ2 => Γ2 = (Γ.map Slot.inn).set j (.d d) ∧ Tst i d q)
    (he : ∀ X' c', BlkX X X' scope → ∀ i d acc, ds[i]? = some d → Tst i d true → Acc i acc → acc.length ≤ i → WE X' n' c' ((Γ.map Slot.inn).set j (.d d)) elt fun y Γ3 => Γ3 = (Γ.map Slot.inn).set j (.d d) ∧ Acc (i + 1) (acc ++ [y]))
    (hf : ∀ i d acc, ds[i]? = some d → Tst i d false → Acc i acc → Acc (i + 1) acc) (hd : ∀ out, Acc ds.length out → Post (.lst out) Γ)
    (hifs : ifs.length ≤ 1) (hn : NOk X n c) {σ : St} {R H : Hp} (s : SOk X.K c Γ σ R H) (Q : VK)
    (q : ∀ v R' H' o Γ', SOk X.K c Γ' σ R' H' → Ex R R' → VOk X.K c Γ' σ R' H' (.own o) v → Post o Γ' → Q v H') : tLc (iList X.K (tW X iter)) (gName j) (lcT X scope ifs) (lcE X scope elt) [j] σ H Q := by
  refine hk.run hn σ R H s _ fun v R1 H1 k1 Γ1 s1 e1 r1 ⟨g1, g2⟩ => ?_
  subst g1
  rw [g2] at s1
  obtain ⟨a, vs, rfl, hA, hr⟩ := (r1.wk s1 hg).lst s1.rh
  have nst : ¬ stoAd Γ σ a := no_sto s1 r1 hg
  refine ⟨a, rfl, ⟨vs, .inl (.inl hA)⟩, fun Dl hD => ?_⟩
  have nDa : a ≠ Dl := fun z => by rw [z, hD] at hA; cases hA
  refine lc_list (K := X.K) (a := a) (xs := vs) (g := gName j) (tt := lcT X scope ifs) (te := lcE X scope elt) (vs := [j]) (σ := σ) (Qd := fun H => Q (.ref Dl) H) (LcInv X.K c Γ σ R1 Dl (fun H' => H' a = some (.lst vs)) Acc) (lc_start s1 hD (by rw [upd_ne nDa]; exact hA) h0) (fun i H' _ ⟨_, _, _, _, kp, _⟩ => .inl (.inl kp)) (fun i x H' hi h => ?_) (fun H' h => ?_)
  · obtain ⟨d, hd1, hd2⟩ := hr.get' hi
    have hlt := (List.getElem?_eq_some_iff.mp hd1).1
    exact lc_step j (Tst := Tst i d) L hn (by omega) (fun H H' k kp => k a _ nDa nst kp) hd2 h (fun X' c' b => ht X' c' b i d hd1) (fun X' c' b tb acc ha hl => he X' c' b i d acc hd1 tb ha hl) (fun tb acc ha => hf i d acc hd1 tb ha) hifs
  · rw [← hr.length] at h
    exact lc_fin h fun v R' H' o Γ' s' e' vo ⟨g1, out, g3, g4⟩ => by
      subst g1 g3
      exact q v R' H' _ _ s' (e1.trans e') vo (hd out g4)
theorem wo_lcL (j : Nat) {ifs : List Expr} {tp : Pos} {Post : OB → SL → Prop} (Acc : Nat → List D → Prop) (Tst : Nat → D → Bool → Prop) (L : LcOk X n n' Γ scope nm j) (hk : EK X n c Γ iter k) (hg : k.get Γ = some (.lst ds)) (hz : ds.length ≤ 100000) (h0 : Acc 0 [])
    (ht : ∀ X' c', BlkX X X' scope → ∀ i d, ds[i]? = some d → WTs X' n' c' ((Γ.map Slot.inn).set j (.d d)) ifs fun q Γ2 => Γ2 = (Γ.map Slot.inn).set j (.d d) ∧ Tst i d q)
    (he : ∀ X' c', BlkX X X' scope → ∀ i d acc, ds[i]? = some d → Tst i d true → Acc i acc → acc.length ≤ i → WE X' n' c' ((Γ.map Slot.inn).set j (.d d)) elt fun y Γ3 => Γ3 = (Γ.map Slot.inn).set j (.d d) ∧ Acc (i + 1) (acc ++ [y]))
    (hf : ∀ i d acc, ds[i]? = some d → Tst i d false → Acc i acc → Acc (i + 1) acc) (hd : ∀ out, Acc ds.length out → Post (.lst out) Γ)
    (hifs : ifs.length ≤ 1 := by decide) (hs : ∀ x, foldedSetIterable iter X.env x = pure x := by intro _; rfl) : WO X n c Γ (.ListComp elt [⟨.Name nm tp, iter, ifs, 0⟩] scope pos) Post := .mk fun hn σ R H s Q q => by
  exact (lc_pe j L hn (pi_list pW) hifs hs).w (rd_lcL j Acc Tst L hk hg hz h0 ht he hf hd hifs hn s Q q)
/-- .. in a tuple -/
theorem rd_lcT (j : Nat) {ifs : List Expr} {Post : OB → SL → Prop} (Acc : Nat → List D → Prop) (Tst : Nat → D → Bool → Prop) (L : LcOk X n n' Γ scope nm j) (hk : EV X n c Γ iter (.tup ds)) (hz : ds.length ≤ 100000) (h0 : Acc 0 [])
    (ht : ∀ X' c', BlkX X X' scope → ∀ i d, ds[i]? = some d → WTs X' n' c' ((Γ.map Slot.inn).set j (.d d)) ifs fun q Γ2 => Γ2 = (Γ.map Slot.inn).set j (.d d) ∧ Tst i d q)
    (he : ∀ X' c', BlkX X X' scope → ∀ i d acc, ds[i]? = some d → Tst i d true → Acc i acc → acc.length ≤ i → WE X' n' c' ((Γ.map Slot.inn).set j (.d d)) elt fun y Γ3 => Γ3 = (Γ.map Slot.inn).set j (.d d) ∧ Acc (i + 1) (acc ++ [y]))
    (hf : ∀ i d acc, ds[i]? = some d → Tst i d false → Acc i acc → Acc (i + 1) acc) (hd : ∀ out, Acc ds.length out → Post (.lst out) Γ)
    (hifs : ifs.length ≤ 1) (hn : NOk X n c) {σ : St} {R H : Hp} (s : SOk X.K c Γ σ R H) (Q : VK)
    (q : ∀ v R' H' o Γ', SOk X.K c Γ' σ R' H' → Ex R R' → VOk X.K c Γ' σ R' H' (.own o) v → Post o Γ' → Q v H') : tLc (iTup X.K (tW X iter)) (gName j) (lcT X scope ifs) (lcE X scope elt) [j] σ H Q := by
  refine hk.run hn σ R H s _ fun v R1 H1 k1 Γ1 s1 e1 r1 ⟨g1, g2⟩ => ?_
  subst g1
  rw [g2] at s1
  obtain ⟨a, vs, rfl, hA, hr⟩ := r1
  refine ⟨a, rfl, ⟨vs, ex_t s1.rh hA⟩, fun Dl hD => ?_⟩
  refine lc_tup (K := X.K) (a := a) (xs := vs) (g := gName j) (tt := lcT X scope ifs) (te := lcE X scope elt) (vs := [j]) (σ := σ) (Qd := fun H => Q (.ref Dl) H) (LcInv X.K c Γ σ R1 Dl (fun H' => True) Acc) (lc_start s1 hD trivial h0) (fun i H' _ ⟨_, _, s', e', _⟩ => ex_t s'.rh (ex_t e' hA)) (fun i x H' hi h => ?_) (fun H' h => ?_)
  · obtain ⟨d, hd1, hd2⟩ := hr.get' hi
    have hlt := (List.getElem?_eq_some_iff.mp hd1).1
    exact lc_step j (Tst := Tst i d) L hn (by omega) (fun H H' k kp => trivial) hd2 h (fun X' c' b => ht X' c' b i d hd1) (fun X' c' b tb acc ha hl => he X' c' b i d acc hd1 tb ha hl) (fun tb acc ha => hf i d acc hd1 tb ha) hifs
  · rw [← hr.length] at h
    exact lc_fin h fun v R' H' o Γ' s' e' vo ⟨g1, out, g3, g4⟩ => by
      subst g1 g3
      exact q v R' H' _ _ s' (e1.trans e') vo (hd out g4)
theorem wo_lcT (j : Nat) {ifs : List Expr} {tp : Pos} {Post : OB → SL → Prop} (Acc : Nat → List D → Prop) (Tst : Nat → D → Bool → Prop) (L : LcOk X n n' Γ scope nm j) (hk : EV X n c Γ iter (.tup ds)) (hz : ds.length ≤ 100000) (h0 : Acc 0 [])
    (ht : ∀ X' c', BlkX X X' scope → ∀ i d, ds[i]? = some d → WTs X' n' c' ((Γ.map Slot.inn).set j (.d d)) ifs fun q Γ2 => Γ2 = (Γ.map Slot.inn).set j (.d d) ∧ Tst i d q)
    (he : ∀ X' c', BlkX X X' scope → ∀ i d acc, ds[i]? = some d → Tst i d true → Acc i acc → acc.length ≤ i → WE X' n' c' ((Γ.map Slot.inn).set j (.d d)) elt fun y Γ3 => Γ3 = (Γ.map Slot.inn).set j (.d d) ∧ Acc (i + 1) (acc ++ [y]))
    (hf : ∀ i d acc, ds[i]? = some d → Tst i d false → Acc i acc → Acc (i + 1) acc) (hd : ∀ out, Acc ds.length out → Post (.lst out) Γ)
    (hifs : ifs.length ≤ 1 := by decide) (hs : ∀ x, foldedSetIterable iter X.env x = pure x := by intro _; rfl) : WO X n c Γ (.ListComp elt [⟨.Name nm tp, iter, ifs, 0⟩] scope pos) Post := .mk fun hn σ R H s Q q => by
  exact (lc_pe j L hn (pi_tup pW) hifs hs).w (rd_lcT j Acc Tst L hk hz h0 ht he hf hd hifs hn s Q q)
/-- .. in range(m) -/
theorem rd_lcR1 (j : Nat) {ifs : List Expr} {Post : OB → SL → Prop} (Acc : Nat → List D → Prop) (Tst : Nat → Bool → Prop) (m : Nat) (L : LcOk X n n' Γ scope nm j) (hb : Blt X "range" (.type "range")) (jr : Nat) (hk : WE X n c Γ a fun x Γ1 => ∃ i : Int, x = .int i ∧ i.toNat = m ∧ i < 2 ^ 62 ∧ -(2 ^ 62) ≤ i ∧ Γ1 = Γ) (hz : m ≤ 100000) (h0 : Acc 0 [])
    (ht : ∀ X' c', BlkX X X' scope → ∀ i, i < m → WTs X' n' c' ((Γ.map Slot.inn).set j (.d (.int (i : Int)))) ifs fun q Γ2 => Γ2 = (Γ.map Slot.inn).set j (.d (.int (i : Int))) ∧ Tst i q)
    (he : ∀ X' c', BlkX X X' scope → ∀ i acc, i < m → Tst i true → Acc i acc → acc.length ≤ i → WE X' n' c' ((Γ.map Slot.inn).set j (.d (.int (i : Int)))) elt fun y Γ3 => Γ3 = (Γ.map Slot.inn).set j (.d (.int (i : Int))) ∧ Acc (i + 1) (acc ++ [y]))
    (hf : ∀ i acc, i < m → Tst i false → Acc i acc → Acc (i + 1) acc) (hd : ∀ out, Acc m out → Post (.lst out) Γ)
    (hjr : n.GN[jr]? = some ("range" : Str)) (hst : starEach [a] X.env = [(false, eval a X.env)])
    (hifs : ifs.length ≤ 1) (hn : NOk X n c) {σ : St} {R H : Hp} (s : SOk X.K c Γ σ R H) (Q : VK)
    (q : ∀ v R' H' o Γ', SOk X.K c Γ' σ R' H' → Ex R R' → VOk X.K c Γ' σ R' H' (.own o) v → Post o Γ' → Q v H') : tLc (iRng1 (tCons (tW X a) tNil)) (gName j) (lcT X scope ifs) (lcE X scope elt) [j] σ H Q := by
  obtain ⟨g1, g2, g3⟩ := hn.gl jr _ hjr
  refine hk.run hn σ R H s _ fun v R1 H1 x Γ1 s1 e1 r1 ⟨i, hx, h1, h2, h3, g4⟩ => ?_
  subst hx
  rw [g4] at s1
  cases (show v = .int i from r1)
  refine ⟨i, rfl, h3, h2, fun Dl hD => ?_⟩
  rw [h1]
  refine lc_range (lo := 0) (n := m) (g := gName j) (tt := lcT X scope ifs) (te := lcE X scope elt) (vs := [j]) (σ := σ) (Qd := fun H => Q (.ref Dl) H) (LcInv X.K c Γ σ R1 Dl (fun H' => True) Acc) (lc_start s1 hD trivial h0) (fun i H' hi h => ?_) (fun H' h => ?_)
  · have e0 : (0 : Int) + (i : Int) = (i : Int) := Int.zero_add _
    rw [e0]
    exact lc_step j (Tst := Tst i) (d := .int (i : Int)) L hn (by omega) (fun H H' k kp => trivial) rfl h (fun X' c' b => ht X' c' b i hi) (fun X' c' b tb acc ha hl => he X' c' b i acc hi tb ha hl) (fun tb acc ha => hf i acc hi tb ha) hifs
  · exact lc_fin h fun v R' H' o Γ' s' e' vo ⟨q1, out, q3, q4⟩ => by
      rw [q1] at s' vo; subst q3
      exact q v R' H' _ _ s' (e1.trans e') vo (hd out q4)
theorem ws_lcR1 (j : Nat) {ifs : List Expr} {tp p2 : Pos} {De : DE} {py spos : Pos} {ny : Str} (iy : Nat) (Acc : Nat → List D → Prop) (Tst : Nat → Bool → Prop) (m : Nat) (L : LcOk X n n' Γ scope nm j) (hb : Blt X "range" (.type "range")) (jr : Nat) (hk : WE X n c Γ a fun x Γ1 => ∃ i : Int, x = .int i ∧ i.toNat = m ∧ i < 2 ^ 62 ∧ -(2 ^ 62) ≤ i ∧ Γ1 = Γ) (hz : m ≤ 100000) (h0 : Acc 0 [])
    (ht : ∀ X' c', BlkX X X' scope → ∀ i, i < m → WTs X' n' c' ((Γ.map Slot.inn).set j (.d (.int (i : Int)))) ifs fun q Γ2 => Γ2 = (Γ.map Slot.inn).set j (.d (.int (i : Int))) ∧ Tst i q)
    (he : ∀ X' c', BlkX X X' scope → ∀ i acc, i < m → Tst i true → Acc i acc → acc.length ≤ i → WE X' n' c' ((Γ.map Slot.inn).set j (.d (.int (i : Int)))) elt fun y Γ3 => Γ3 = (Γ.map Slot.inn).set j (.d (.int (i : Int))) ∧ Acc (i + 1) (acc ++ [y]))
    (hf : ∀ i acc, i < m → Tst i false → Acc i acc → Acc (i + 1) acc) (hd : ∀ out, Acc m out → De.nx (Γ.set iy (.own (.lst out))))
    (hjr : n.GN[jr]? = some ("range" : Str) := by rfl) (hst : starEach [a] X.env = [(false, eval a X.env)] := by exact se_1 rfl)
    (hifs : ifs.length ≤ 1 := by decide) (hs : ∀ x, foldedSetIterable (.Call (.Name "range" p) [a] [] p2) X.env x = pure x := by intro _; rfl) 
    (hy : n.N[iy]? = some ny := by rfl) (hyl : n.lc.contains iy = true := by rfl) (hyo : n.oi.contains iy = false := by rfl) (hln : (py.line == pos.line) = true := by rfl) (hany : (scope.names.any fun (m, k) => m == ny && (k == .local || k == .cell)) = false := by decide +kernel) : WS X n c Γ (.Assign [.Name ny py] (.ListComp elt [⟨.Name nm tp, .Call (.Name "range" p) [a] [] p2, ifs, 0⟩] scope pos) spos) De := .mk fun hn σ R H s E ok => by
  obtain ⟨g1, g2, g3⟩ := hn.gl jr _ hjr
  refine (lc_ps j iy L hn (pi_range1 g1 hb.mg (pa_cons pW pa_nil hst) hst) hifs hs hy hyl hln hany).w ?_
  show tLc _ _ _ _ _ σ H fun x H1 => gName iy x σ H1 E.nx
  exact rd_lcR1 (Post := fun o Γ' => De.nx (Γ'.set iy (.own o))) j Acc Tst m L hb jr hk hz h0 ht he hf (fun out ho => hd out ho) hjr hst hifs hn s _ fun v R' H' o Γ' s' e' vo p' => ok.nx _ R' H' _ (s'.setO iy vo (hn.noi hyo)) e' p'

end
end DL

end
section
set_option Elab.async false
set_option linter.all false
set_option autoImplicit true
set_option maxRecDepth 100000
set_option maxHeartbeats 400000
namespace DL
open PySem L2
open PyProof.Rows hiding St

/-! ### isinstance against the built-in kinds -/
def D.ty : D → String
  | .non => "NoneType"
  | .bl _ => "bool"
  | .int _ => "int"
  | .str _ => "str"
  | .lst _ => "list"
  | .tup _ => "tuple"
  | .dic _ => "dict"
  | .ins _ _ => "object"
def tyB (a b : String) : Bool := a == b || (a == "bool" && b == "int")
def tys : List String := ["bool", "int", "str", "list", "tuple", "dict"]
def rowB (a : String) : Option (List Bool) := (PySem.fastBuiltinMro a).map fun l => tys.map fun b => l.contains (Value.type b)
theorem kit_meta : (tys.all fun b => PySem.W.kitMeta b) = true := by decide +kernel
theorem row_non : rowB "NoneType" = some (tys.map (tyB "NoneType")) := by decide +kernel
theorem row_bool : rowB "bool" = some (tys.map (tyB "bool")) := by decide +kernel
theorem row_int : rowB "int" = some (tys.map (tyB "int")) := by decide +kernel
theorem row_str : rowB "str" = some (tys.map (tyB "str")) := by decide +kernel
theorem row_list : rowB "list" = some (tys.map (tyB "list")) := by decide +kernel
theorem row_tuple : rowB "tuple" = some (tys.map (tyB "tuple")) := by decide +kernel
theorem row_dict : rowB "dict" = some (tys.map (tyB "dict")) := by decide +kernel
theorem row_object : rowB "object" = some (tys.map (tyB "object")) := by decide +kernel
theorem D.row (x : D) : rowB x.ty = some (tys.map (tyB x.ty)) := by
  cases x
  · exact row_non
  · exact row_bool
  · exact row_int
  · exact row_str
  · exact row_list
  · exact row_tuple
  · exact row_dict
  · exact row_object
theorem kitB_of (x : D) {T : String} (h : T ∈ ["bool", "int", "str", "list", "tuple", "dict"]) : kitB x.ty T = some (tyB x.ty T) := by
  have hm : PySem.W.kitMeta T = true := List.all_eq_true.mp kit_meta T h
  unfold kitB
  by_cases e : (Value.type x.ty == Value.type T) = true
  · rw [if_pos e]
    have e' : x.ty = T := by simpa using e
    rw [e']; simp [tyB]
  · rw [if_neg e, if_pos hm]
    obtain ⟨l, h1, h2⟩ := Option.map_eq_some_iff.mp x.row
    rw [h1, Option.map_some]
    exact congrArg some (List.map_inj_left.mp h2 T h)
theorem Wk.tyX {K : PySem.W.Frag} {R H : Hp} {x : D} {v : V} (e : Ex R H) (h : Wk K R H x v) : ∃ t, TyX K H v t ∧ ∀ T ∈ (["bool", "int", "str", "list", "tuple", "dict"] : List String), PySem.W.kitOne K t (.type T) = some (tyB x.ty T) := by
  have kt : ∀ T ∈ (["bool", "int", "str", "list", "tuple", "dict"] : List String), PySem.W.kitOne K (.type x.ty) (.type T) = some (tyB x.ty T) := fun T hT => kit_ty (kitB_of x hT)
  cases x with
  | non => cases h.non; exact ⟨_, .base .non, kt⟩
  | bl b => cases h.bl; exact ⟨_, .base (.bl b), kt⟩
  | int i => cases h.int; exact ⟨_, .base (.int i), kt⟩
  | str z => cases h.str; exact ⟨_, .base (.str z), kt⟩
  | lst ds => obtain ⟨a, vs, rfl, h2, _⟩ := h.lst e; exact ⟨_, .base (.lst h2), kt⟩
  | dic ds => obtain ⟨a, vs, rfl, h2, _⟩ := h.dic e; exact ⟨_, .base (.dK h2), kt⟩
  | ins nm fs =>
    obtain ⟨a, dx, ws, rfl, h2, ⟨h3, _⟩, _⟩ := h.ins e
    refine ⟨_, .base (.ins h2 h3.cl h3.ha h3.hn h3.ht h3.hm), fun T hT => (h3.no T hT).trans (congrArg some ?_)⟩
    simp only [List.mem_cons, List.not_mem_nil, or_false] at hT
    rcases hT with rfl | rfl | rfl | rfl | rfl | rfl <;> rfl
  | tup ds =>
    obtain ⟨a, vs, rfl, h2, _⟩ := h.tup e
    rcases h2 with (h2 | ⟨o, h2⟩) | ⟨o, its, m, h2, h3, _⟩
    · exact ⟨_, .base (.tup h2), kt⟩
    · exact ⟨_, .fTuple h2, kt⟩
    · exact ⟨_, .kTuple h2 h3, kt⟩
section
variable {X : Cx} {n : Nm} {c : Cc} {Γ : SL} {e a b : Expr} {x y z : D} {pos p p2 : Pos} {nm tn : Str} {k : AK}
theorem we_isi {T : String} {Post : D → SL → Prop} (hb : Blt X "isinstance" (.builtin "isinstance")) (ht : Blt X tn (.type T)) (j j2 : Nat) (h : WK X n c Γ e fun k Γ1 => ∃ x, k.get Γ1 = some x ∧ Post (.bl (tyB x.ty T)) Γ1) (hT : T ∈ ["bool", "int", "str", "list", "tuple", "dict"] := by decide)
    (hj : n.GN[j]? = some ("isinstance" : Str) := by rfl) (hj2 : n.GN[j2]? = some tn := by rfl) (he : starEach [e, .Name tn p2] X.env = (false, eval e X.env) :: starEach [.Name tn p2] X.env := by exact se_c rfl) (he2 : starEach [.Name tn p2] X.env = (false, eval (.Name tn p2) X.env) :: starEach [] X.env := by exact se_c rfl) (hpl : (backTo pos (starEach [.Name tn p2] X.env)).any (·.1) = false := by exact se_any rfl) :
    WE X n c Γ (.Call (.Name "isinstance" p) [e, .Name tn p2] [] pos) Post := .mk fun hn σ R H s Q q => by
  obtain ⟨g1, g2, g3⟩ := hn.gl j _ hj
  obtain ⟨g4, g5, g6⟩ := hn.gl j2 _ hj2
  refine (pe_callB call_isi g1 hb.mg hb.bt (pa_cons pW (pa_cons (pe_bltn (v := .ty T) g4 ht.mg ht.bt rfl g6 g5) pa_nil he2) he) g3 g2 he hpl).w (h.run hn σ R H s _ fun v R1 H1 k Γ1 s1 e1 r1 ⟨x, gx, px⟩ => ?_)
  obtain ⟨t, ty, kt⟩ := (r1.wk s1 gx).tyX s1.rh
  exact ⟨v, .ty T, t, .type T, _, rfl, .ty T, ty, kt T hT, q (.bl (tyB x.ty T)) R1 H1 (.bl (tyB x.ty T)) Γ1 s1 e1 rfl px⟩
theorem ev_isi {T : String} (hb : Blt X "isinstance" (.builtin "isinstance")) (ht : Blt X tn (.type T)) (j j2 : Nat) (ha : EK X n c Γ e k) (hg : k.get Γ = some x := by rfl) (hT : T ∈ ["bool", "int", "str", "list", "tuple", "dict"] := by decide)
    (hj : n.GN[j]? = some ("isinstance" : Str) := by rfl) (hj2 : n.GN[j2]? = some tn := by rfl) (he : starEach [e, .Name tn p2] X.env = (false, eval e X.env) :: starEach [.Name tn p2] X.env := by exact se_c rfl) (he2 : starEach [.Name tn p2] X.env = (false, eval (.Name tn p2) X.env) :: starEach [] X.env := by exact se_c rfl) (hpl : (backTo pos (starEach [.Name tn p2] X.env)).any (·.1) = false := by exact se_any rfl) :
    EV X n c Γ (.Call (.Name "isinstance" p) [e, .Name tn p2] [] pos) (.bl (tyB x.ty T)) := we_isi hb ht j j2 (wk_ek ha ⟨x, hg, rfl, rfl⟩) hT hj hj2 he he2 hpl
theorem et_isi {T : String} (hb : Blt X "isinstance" (.builtin "isinstance")) (ht : Blt X tn (.type T)) (j j2 : Nat) (ha : EK X n c Γ e k) (hg : k.get Γ = some x := by rfl) (hT : T ∈ ["bool", "int", "str", "list", "tuple", "dict"] := by decide)
    (hj : n.GN[j]? = some ("isinstance" : Str) := by rfl) (hj2 : n.GN[j2]? = some tn := by rfl) (he : starEach [e, .Name tn p2] X.env = (false, eval e X.env) :: starEach [.Name tn p2] X.env := by exact se_c rfl) (he2 : starEach [.Name tn p2] X.env = (false, eval (.Name tn p2) X.env) :: starEach [] X.env := by exact se_c rfl) (hpl : (backTo pos (starEach [.Name tn p2] X.env)).any (·.1) = false := by exact se_any rfl) :
    ET X n c Γ (.Call (.Name "isinstance" p) [e, .Name tn p2] [] pos) (tyB x.ty T) := et_val (ev_isi hb ht j j2 ha hg hT hj hj2 he he2 hpl)
/-! ### numbers in lists and tuples: x in xs -/
end
end DL

end
section
set_option Elab.async false
set_option linter.all false
set_option autoImplicit true
set_option maxRecDepth 10000
set_option maxHeartbeats 400000
namespace DL
open PySem L2
/-! ### rationals: plain laws -/
abbrev qD (q : Rat) : D := .tup [.int q.num, .int (q.den : Int)]
/-- a fraction of so many bits below the line, of eight times so many above -/
def Sz (k : Nat) (q : Rat) : Prop := q.num.natAbs < 2 ^ (8 * k) ∧ q.den < 2 ^ k
theorem Sz.mono {j k : Nat} {q : Rat} (h : Sz j q) (e : j ≤ k) : Sz k q :=
  ⟨Nat.lt_of_lt_of_le h.1 (Nat.pow_le_pow_right (by decide) (by omega)), Nat.lt_of_lt_of_le h.2 (Nat.pow_le_pow_right (by decide) e)⟩
theorem den_pos' (q : Rat) : (0 : Int) < (q.den : Int) := by have := q.den_pos; omega
/-- a number of so many bits -/
def Bt (k : Nat) (i : Int) : Prop := i.natAbs < 2 ^ k
theorem Sz.n {k : Nat} {q : Rat} (h : Sz k q) : Bt (8 * k) q.num := h.1
theorem Sz.d {k : Nat} {q : Rat} (h : Sz k q) : Bt k (q.den : Int) := by show ((q.den : Int)).natAbs < _; simpa using h.2
theorem Bt.mono {j k : Nat} {i : Int} (h : Bt j i) (e : j ≤ k) : Bt k i := Nat.lt_of_lt_of_le h (Nat.pow_le_pow_right (by decide) e)
theorem Bt.mul {j k : Nat} {a b : Int} (h : Bt j a) (h' : Bt k b) : Bt (j + k) (a * b) := wide_lt h h'
theorem Bt.add {k : Nat} {a b : Int} (h : Bt k a) (h' : Bt k b) : Bt (k + 1) (a + b) := by
  unfold Bt at *
  have := Int.natAbs_add_le a b
  rw [Nat.pow_succ]; omega
theorem Bt.sub {k : Nat} {a b : Int} (h : Bt k a) (h' : Bt k b) : Bt (k + 1) (a - b) := by
  unfold Bt at *
  have := Int.natAbs_sub_le a b
  rw [Nat.pow_succ]; omega
theorem Bt.neg {k : Nat} {a : Int} (h : Bt k a) : Bt k (-a) := by unfold Bt at *; rwa [Int.natAbs_neg]
theorem Bt.le {k : Nat} {a b : Int} (h : Bt k a) (e : b.natAbs ≤ a.natAbs) : Bt k b := Nat.lt_of_le_of_lt e h
theorem log2_le_of {a : Int} {k : Nat} (h : Bt k a) : a.natAbs.log2 ≤ k := by
  by_cases z : a.natAbs = 0
  · rw [z]; simp
  · have := (Nat.log2_lt z).mpr (show a.natAbs < 2 ^ k from h); omega
theorem Bt.cm {j k : Nat} {a b : Int} (h : Bt j a) (h' : Bt k b) (e : j + k < 1000000) : CMulW a b := by
  have h1 := log2_le_of h; have h2 := log2_le_of h'
  unfold CMulW; omega
theorem Bt.cd {k : Nat} {a b : Int} (h : Bt k b) (h0 : b ≠ 0) (e : k < 9000) : CDivA a b := ⟨h0, by have := log2_le_of h; omega⟩
/-! the parts of sums and products -/
theorem Sz.add {j k : Nat} {a b : Rat} (h : Sz j a) (h' : Sz k b) : Sz (j + k + 1) (a + b) := by
  have hn : Bt (8 * (j + k + 1)) (a.num * (b.den : Int) + b.num * (a.den : Int)) := (((h.n.mul h'.d).mono (show 8 * j + k ≤ 8 * (j + k) by omega)).add ((h'.n.mul h.d).mono (by omega))).mono (by omega)
  have hd : Bt (j + k) ((a.den * b.den : Nat) : Int) := by rw [Int.natCast_mul]; exact h.d.mul h'.d
  constructor
  · rw [Rat.num_add]
    refine Nat.lt_of_le_of_lt ?_ hn
    rw [Int.natAbs_ediv_of_dvd (Int.ofNat_dvd_left.2 (Nat.gcd_dvd_left ..))]
    exact Nat.div_le_self _ _
  · rw [Rat.den_add]
    refine Nat.lt_of_le_of_lt (Nat.div_le_self _ _) ?_
    have : a.den * b.den < 2 ^ (j + k) := by unfold Bt at hd; rwa [Int.natAbs_natCast] at hd
    exact Nat.lt_of_lt_of_le this (Nat.pow_le_pow_right (by decide) (by omega))
theorem Sz.neg {k : Nat} {a : Rat} (h : Sz k a) : Sz k (-a) := ⟨by rw [Rat.neg_num, Int.natAbs_neg]; exact h.1, h.2⟩
theorem Sz.sub {j k : Nat} {a b : Rat} (h : Sz j a) (h' : Sz k b) : Sz (j + k + 1) (a - b) := by rw [Rat.sub_eq_add_neg]; exact h.add h'.neg
theorem Sz.mul {j k : Nat} {a b : Rat} (h : Sz j a) (h' : Sz k b) : Sz (j + k) (a * b) := by
  constructor
  · rw [Rat.num_mul]
    rw [show 8 * (j + k) = 8 * j + 8 * k by omega]
    refine Nat.lt_of_le_of_lt ?_ (h.n.mul h'.n)
    rw [Int.natAbs_ediv_of_dvd (Int.ofNat_dvd_left.2 (Nat.gcd_dvd_left ..))]
    exact Nat.div_le_self _ _
  · rw [Rat.den_mul]
    refine Nat.lt_of_le_of_lt (Nat.div_le_self _ _) ?_
    have : Bt (j + k) ((a.den * b.den : Nat) : Int) := by rw [Int.natCast_mul]; exact h.d.mul h'.d
    unfold Bt at this; rwa [Int.natAbs_natCast] at this
theorem fdiv_ediv {a : Int} {b : Nat} (h : b ≠ 0) : Int.fdiv a (b : Int) = a / (b : Int) := Int.fdiv_eq_ediv_of_nonneg _ (by omega)
/-- n over d in lowest terms, d of either sign -/
def fr (n d : Int) : Rat := Rat.divInt n d
theorem fr_sz {n d : Int} {k : Nat} (hn : Bt (8 * k) n) (hd : Bt k d) (h0 : d ≠ 0) : Sz k (fr n d) := by
  have hg : (Int.gcd d n) ≠ 0 := by
    intro z
    exact h0 (Int.gcd_eq_zero_iff.mp z).1
  constructor
  · unfold fr
    rw [Rat.num_divInt]
    refine Nat.lt_of_le_of_lt ?_ hn
    have : (d.sign * n).natAbs = n.natAbs := by rw [Int.natAbs_mul, Int.natAbs_sign_of_ne_zero h0, Nat.one_mul]
    have h2 : (d.sign * n / ((Int.gcd d n : Nat) : Int)).natAbs ≤ (d.sign * n).natAbs := by
      rw [Int.natAbs_ediv_of_dvd (Int.dvd_mul_of_dvd_right (Int.gcd_dvd_right ..))]
      exact Nat.div_le_self _ _
    omega
  · unfold fr
    rw [Rat.den_divInt, if_neg h0]
    exact Nat.lt_of_le_of_lt (Nat.div_le_self _ _) hd
theorem lt_num {a b : Rat} : a < b ↔ a.num * (b.den : Int) < b.num * (a.den : Int) := Rat.lt_iff a b
/-! ### calls of pure defs -/
section
variable {X : Cx} {n : Nm} {c : Cc} {Γ : SL} {e a b d : Expr} {x y z : D} {pos p : Pos} {nm : Str} {S : Sg} {k l m : AK} {ps : List Par}
theorem ev_call1 (hc : CalF X n.k nm S) (j : Nat) (ha : EK X n c Γ a k) (h : ∀ Post : Res → List OB → Prop, Post (.d z) [] → S ps Post) (hp : pars Γ [k] = some ps := by rfl) (ho : ownIx [k] = [] := by rfl) (hj : n.GN[j]? = some nm := by rfl)
    (he : starEach [a] X.env = (false, eval a X.env) :: starEach [] X.env := by exact se_c rfl) (hpl : (backTo pos (starEach [] X.env)).any (·.1) = false := by exact se_any rfl) : EV X n c Γ (.Call (.Name nm p) [a] [] pos) z :=
  we_call hc j (wa_of (ea_cons ha ea_nil he) ⟨ps, hp, by rw [ho]; exact List.nodup_nil, by rw [ho]; simp, h _ ⟨z, rfl, rfl, by rw [ho]; rfl⟩⟩) hj he hpl
theorem ev_call2 (hc : CalF X n.k nm S) (j : Nat) (ha : EK X n c Γ a k) (hb : EK X n c Γ b l) (h : ∀ Post : Res → List OB → Prop, Post (.d z) [] → S ps Post) (hp : pars Γ [k, l] = some ps := by rfl) (ho : ownIx [k, l] = [] := by rfl) (hj : n.GN[j]? = some nm := by rfl)
    (he : starEach [a, b] X.env = (false, eval a X.env) :: starEach [b] X.env := by exact se_c rfl) (he2 : starEach [b] X.env = (false, eval b X.env) :: starEach [] X.env := by exact se_c rfl) (hpl : (backTo pos (starEach [b] X.env)).any (·.1) = false := by exact se_any rfl) : EV X n c Γ (.Call (.Name nm p) [a, b] [] pos) z :=
  we_call hc j (wa_of (ea_cons ha (ea_cons hb ea_nil he2) he) ⟨ps, hp, by rw [ho]; exact List.nodup_nil, by rw [ho]; simp, h _ ⟨z, rfl, rfl, by rw [ho]; rfl⟩⟩) hj he hpl
theorem ev_call3 (hc : CalF X n.k nm S) (j : Nat) (ha : EK X n c Γ a k) (hb : EK X n c Γ b l) (hd : EK X n c Γ d m) (h : ∀ Post : Res → List OB → Prop, Post (.d z) [] → S ps Post) (hp : pars Γ [k, l, m] = some ps := by rfl) (ho : ownIx [k, l, m] = [] := by rfl) (hj : n.GN[j]? = some nm := by rfl)
    (he : starEach [a, b, d] X.env = (false, eval a X.env) :: starEach [b, d] X.env := by exact se_c rfl) (he2 : starEach [b, d] X.env = (false, eval b X.env) :: starEach [d] X.env := by exact se_c rfl) (he3 : starEach [d] X.env = (false, eval d X.env) :: starEach [] X.env := by exact se_c rfl) (hpl : (backTo pos (starEach [b, d] X.env)).any (·.1) = false := by exact se_any rfl) : EV X n c Γ (.Call (.Name nm p) [a, b, d] [] pos) z :=
  we_call hc j (wa_of (ea_cons ha (ea_cons hb (ea_cons hd ea_nil he3) he2) he) ⟨ps, hp, by rw [ho]; exact List.nodup_nil, by rw [ho]; simp, h _ ⟨z, rfl, rfl, by rw [ho]; rfl⟩⟩) hj he hpl
end
/-! ### defs that draw from a store: it comes back as a store -/
section
variable {X : Cx} {n : Nm} {c : Cc} {Γ : SL} {e a b d : Expr} {x y z : D} {pos p p1 : Pos} {nm sn : Str} {S : Sg} {es : List Expr}
theorem set_same {i : Nat} {s : Slot} (h : Γ[i]? = some s) : Γ.set i s = Γ := by
  apply List.ext_getElem?
  intro j
  by_cases hj : i = j
  · subst hj; rw [List.getElem?_set_self (List.getElem?_eq_some_iff.mp h).1, h]
  · rw [List.getElem?_set_ne hj]
/-- every promise of a def that gives its store back whole -/
def StoS (S : Sg) (ps : List Par) (P : Res → Prop) : Prop := ∀ Post : Res → List OB → Prop, (∀ r, P r → Post r [.sto]) → S (.own .sto :: ps) Post
theorem sto_args {Post : Res → SL → Prop} (i : Nat) (hg : Γ[i]? = some (.own .sto)) (hi : n.N[i]? = some sn) (hv : n.V.contains i = true)
    (h : WA X n c Γ es fun ks Γ1 => Γ1 = Γ ∧ ∃ ps, pars Γ ks = some ps ∧ ownIx ks = [] ∧ i ∉ readIx ks ∧ StoS S ps fun r => Post r Γ)
    (he : starEach (.Name sn p1 :: es) X.env = (false, eval (.Name sn p1) X.env) :: starEach es X.env) :
    WA X n c Γ (.Name sn p1 :: es) fun ks Γ1 => ∃ ps, pars Γ1 ks = some ps ∧ (ownIx ks).Nodup ∧ (∀ i ∈ readIx ks, i ∉ ownIx ks) ∧ S ps fun r os => Post r (updOwn Γ1 (ownIx ks) os) := by
  refine wa_cons (wk_ek (ek_o i hg rfl hi hv) (h.mono ?_)) he
  rintro ks Γ1 ⟨rfl, ps, h1, h2, h3, h4⟩
  refine ⟨.own .sto :: ps, ?_, ?_, ?_, ?_⟩
  · show (match AK.par Γ1 (.o i), pars Γ1 ks with | some x, some xs => some (x :: xs) | _, _ => none) = _
    rw [h1]
    simp only [AK.par, hg]
  · show (i :: ownIx ks).Nodup; rw [h2]; simp
  · intro j hj
    show j ∉ i :: ownIx ks
    rw [h2]
    have hj' : j ∈ readIx ks := hj
    intro z
    have : j = i := by simpa using z
    subst this; exact h3 hj'
  · refine h4 _ fun r pr => ?_
    show Post r (updOwn Γ1 (i :: ownIx ks) [.sto])
    rw [h2]
    show Post r (Γ1.set i (.own .sto))
    rw [set_same hg]; exact pr
theorem we_sto (hc : CalF X n.k nm S) (j i : Nat) {Post : D → SL → Prop} (h : WA X n c Γ es fun ks Γ1 => Γ1 = Γ ∧ ∃ ps, pars Γ ks = some ps ∧ ownIx ks = [] ∧ i ∉ readIx ks ∧ StoS S ps fun r => ∃ x, r.data = some x ∧ Post x Γ)
    (hg : Γ[i]? = some (.own .sto) := by rfl) (hi : n.N[i]? = some sn := by rfl) (hv : n.V.contains i = true := by rfl)
    (hj : n.GN[j]? = some nm := by rfl) (he : starEach (.Name sn p1 :: es) X.env = (false, eval (.Name sn p1) X.env) :: starEach es X.env := by exact se_c rfl) (hpl : (backTo pos (starEach es X.env)).any (·.1) = false := by exact se_any rfl) : WE X n c Γ (.Call (.Name nm p) (.Name sn p1 :: es) [] pos) Post :=
  we_call hc j (sto_args (Post := fun r Γ' => ∃ x, r.data = some x ∧ Post x Γ') i hg hi hv h he) hj he hpl
/-- f(.., x, ..) by told arguments behind the store -/
theorem sto_ea {ks : List AK} {ps : List Par} {Q : Res → Prop} {i : Nat} (h : EA X n c Γ es ks) (hq : StoS S ps Q) (hp : pars Γ ks = some ps := by rfl) (ho : ownIx ks = [] := by rfl) (hr : i ∉ readIx ks := by decide) :
    WA X n c Γ es fun ks Γ1 => Γ1 = Γ ∧ ∃ ps, pars Γ ks = some ps ∧ ownIx ks = [] ∧ i ∉ readIx ks ∧ StoS S ps Q := wa_of h ⟨rfl, ps, hp, ho, hr, hq⟩
end
/-- a def as the top has left it -/
structure DefAt (K : PySem.W.Frag) (mg : Str → Option Value) (nm : Str) (st : Stmt) (ps : List Str) where
  a : Addr
  fd : FuncData
  F : Fun K nm nm st a fd
  m : mg nm = some (.ref a)
  bb : ∀ us : List Value, us.length = ps.length → bindArgs fd ⟨us, []⟩ = pure (ps.zip us)
theorem DefAt.b {K : PySem.W.Frag} {mg : Str → Option Value} {nm : Str} {st : Stmt} {ps : List Str} (d : DefAt K mg nm st ps) : Binds K d.fd ps [] := .all d.bb
theorem DefAt.cal {X : Cx} {nm : Str} {st : Stmt} {ps : List Str} {k k0 : Nat} {S : Sg} (d : DefAt X.K X.mg nm st ps) (F : FnOk X.prog X.w X.K X.mg X.base CX0 k0 d.a d.fd ps (spOf X.K S)) (h : k0 ≤ k) (rm : Room k X.A) : CalF X k nm S :=
  ⟨rm, d.a, d.fd, ps, k0, F, h, d.m, d.F.kp, d.b⟩
end DL

end
section
set_option Elab.async false
set_option linter.all false
set_option autoImplicit true
set_option maxRecDepth 10000
set_option maxHeartbeats 400000
namespace DL
open PySem L2
/-! ### what every law shares: the script's store and the draws -/
theorem atI_nat {α : Type} {xs : List α} {i : Nat} {z : α} (h : xs[i]? = some z) : atI xs (i : Int) = some z := by
  have hi := (List.getElem?_eq_some_iff.mp h).1
  unfold atI ixN
  have e1 : ¬ ((i : Int) < 0) := by omega
  have e2 : (i : Int) < (xs.length : Int) := by omega
  simp [e1, e2, h]
theorem at_lst {xs : List D} {i : Nat} {z : D} (h : xs[i]? = some z) : (D.lst xs).at (i : Int) = some z := atI_nat h
theorem at_tup {xs : List D} {i : Nat} {z : D} (h : xs[i]? = some z) : (D.tup xs).at (i : Int) = some z := atI_nat h
section
variable {X : Cx} {n : Nm} {c : Cc} {Γ : SL} {e a b d : Expr} {x y z : D} {pos p p1 : Pos} {nm sn : Str} {S : Sg} {es : List Expr}
/-- list(script) -/
theorem eo_listSc {ns : List Int} (hb : Blt X "list" (.type "list")) (j : Nat) (i : Nat) (hg : Γ[i]? = some (.sc ns) := by rfl) (hi : n.N[i]? = some nm := by rfl) (hv : n.V.contains i = true := by rfl) (hj : n.GN[j]? = some ("list" : Str) := by rfl)
    (he : starEach [.Name nm p1] X.env = (false, eval (.Name nm p1) X.env) :: starEach [] X.env := by exact se_c rfl) (hpl : (backTo pos (starEach [] X.env)).any (·.1) = false := by exact se_any rfl) :
    EO X n c Γ (.Call (.Name "list" p) [.Name nm p1] [] pos) (.lst (ns.map .int)) := by
  have ho : NOk X n c → ∃ r, CallR X (.type "list") r ∧ ∀ Γ σ R H vs (Post : OB → Prop), SOk X.K c Γ σ R H → (∃ a, vs = [.ref a] ∧ SqL X.K R a (ns.map V.int)) → Post (.lst (ns.map .int)) → ∀ Q : VK, (∀ v R' H' o, SOk X.K c Γ σ R' H' → Ex R R' → VOk X.K c Γ σ R' H' (.own o) v → Post o → Q v H') → r vs H Q := fun hn => ⟨_, call_list_of, fun Γ σ R H vs Post s hx p Q q => by
    obtain ⟨a, rfl, h1⟩ := hx
    refine ⟨a, ns.map V.int, rfl, .inl (ex_l s.rh h1), fun l hl => ?_⟩
    have g := s.newOwn (.lst (ns.map V.int)) hl
    refine q _ R _ (.lst (ns.map .int)) (s.grow g) (Ex.refl _) ⟨l, rfl, ⟨_, upd_same, .ints⟩, s.rh.back hl, ?_, fun i o z1 z2 => ?_⟩ p
    · cases z : c.H0 l with
      | none => rfl
      | some u => exact absurd hl (s.pr l (by rw [z]; simp))
    · obtain ⟨w, u1, b, u2, u3, _⟩ := s.sl i _ z1
      rw [z2] at u1; cases u1; cases u2
      exact u3.there hl⟩
  exact .mk fun hn σ R H s Q q => by
    obtain ⟨r, h1, h2⟩ := ho hn
    obtain ⟨g1, g2, g3⟩ := hn.gl j _ hj
    refine (pe_callTy h1 g1 hb.mg hb.bt pWA g3 g2 he hpl).w ((ea_cons (ek_s i hg rfl hi hv) ea_nil he).run hn σ R H s _ fun vs R1 H1 ks Γ1 s1 e1 r1 ⟨xs, gx⟩ => ?_)
    subst xs gx
    obtain ⟨v, ws, rfl, r2, r3⟩ := r1
    cases (show ws = [] from r3)
    obtain ⟨o, w1, a, w2, w3⟩ := s1.sl i _ hg
    have r2' : σ[i]? = some (some v) := r2
    rw [r2'] at w1; cases w1; cases w2
    exact h2 Γ1 σ R1 H1 _ _ s1 ⟨a, rfl, w3⟩ ⟨rfl, rfl⟩ Q fun u R' H' z s' e' r' p' => q u R' H' z Γ1 s' (e1.trans e') r' p'
/-! the promises of the draws -/
def ST_store : Sg := fun ps Post => ∃ ns : List Int, ps = [.sc ns] ∧ ns.length ≤ 63 ∧ Post (.own .sto) []
def ST_feed : Sg := fun ps Post => ∃ (ns : List Int) (pl : Nat) (great st left cnt : Int), ps = [.own (.lst (stoD ns pl great st left cnt))] ∧ StoreB ns pl great st left cnt ∧ pl < ns.length ∧ Post (.d .non) [.sto]
def ST_mixed : Sg := fun ps Post => ∃ (ns : List Int) (place great st left cnt : Int), ps = [.own (.lst (stoD ns place great st left cnt))] ∧ StoreB ns place great st left cnt ∧ ∀ m : Int, 0 ≤ m → m < 1000000009 → Post (.d (.int m)) [.sto]
def ST_take : Sg := fun ps Post => ∃ many : Int, ps = [.own .sto, .d (.int many)] ∧ Bt 8000 many ∧ ∀ k : Int, 0 ≤ k → k < (if many > 1 then many else 1) → Post (.d (.int k)) [.sto]
def ST_pick : Sg := fun ps Post => ∃ (x : D) (m : Nat), ps = [.own .sto, .w x] ∧ x.len = some m ∧ (∀ z, x = .str z → z.length ≤ sizeLine) ∧ 0 < m ∧ m < 2 ^ 64 ∧ (∀ k : Nat, k < m → ∃ y, x.at k = some y) ∧ ∀ (k : Nat) y, k < m → x.at k = some y → Post (.d y) [.sto]
def ST_size : Sg := fun ps Post => ∃ lo hi : Int, ps = [.own .sto, .d (.int lo), .d (.int hi)] ∧ lo ≤ hi ∧ Bt 7000 lo ∧ Bt 7000 hi ∧ ∀ k : Int, lo ≤ k → k ≤ hi → Post (.d (.int k)) [.sto]
theorem we_st1 {Post : D → SL → Prop} (hc : CalF X n.k nm S) (j i : Nat) (h : WE X n c Γ e fun x Γ1 => Γ1 = Γ ∧ StoS S [.d x] fun r => ∃ y, r.data = some y ∧ Post y Γ)
    (hg : Γ[i]? = some (.own .sto) := by rfl) (hi : n.N[i]? = some sn := by rfl) (hv : n.V.contains i = true := by rfl) (hj : n.GN[j]? = some nm := by rfl)
    (he : starEach (.Name sn p1 :: [e]) X.env = (false, eval (.Name sn p1) X.env) :: starEach [e] X.env := by exact se_c rfl) (he2 : starEach [e] X.env = (false, eval e X.env) :: starEach [] X.env := by exact se_c rfl) (hpl : (backTo pos (starEach [e] X.env)).any (·.1) = false := by exact se_any rfl) : WE X n c Γ (.Call (.Name nm p) [.Name sn p1, e] [] pos) Post :=
  we_sto hc j i (wa_cons (wk_e (h.mono fun x Γ1 ⟨e1, h1⟩ => by
    subst e1
    exact wa_nil ⟨rfl, [.d x], rfl, rfl, by simp [readIx], h1⟩)) he2) hg hi hv hj he hpl
/-- a draw below m -/
theorem we_take {Post : D → SL → Prop} (hc : CalF X n.k nm ST_take) (j i : Nat) (h : WE X n c Γ e fun x Γ1 => Γ1 = Γ ∧ ∃ m : Nat, x = .int (m : Int) ∧ 0 < m ∧ Bt 8000 (m : Int) ∧ ∀ k : Nat, k < m → Post (.int (k : Int)) Γ)
    (hg : Γ[i]? = some (.own .sto) := by rfl) (hi : n.N[i]? = some sn := by rfl) (hv : n.V.contains i = true := by rfl) (hj : n.GN[j]? = some nm := by rfl)
    (he : starEach (.Name sn p1 :: [e]) X.env = (false, eval (.Name sn p1) X.env) :: starEach [e] X.env := by exact se_c rfl) (he2 : starEach [e] X.env = (false, eval e X.env) :: starEach [] X.env := by exact se_c rfl) (hpl : (backTo pos (starEach [e] X.env)).any (·.1) = false := by exact se_any rfl) : WE X n c Γ (.Call (.Name nm p) [.Name sn p1, e] [] pos) Post :=
  we_st1 hc j i (h.mono fun x Γ1 ⟨e1, m, e2, h0, hB, hP⟩ => ⟨e1, fun Q q => by
    subst e2
    refine ⟨m, rfl, hB, fun k k0 k1 => q _ ⟨_, rfl, ?_⟩⟩
    have hk : k < (m : Int) := by split at k1 <;> omega
    have := hP k.toNat (by omega)
    rwa [show ((k.toNat : Nat) : Int) = k by omega] at this⟩) hg hi hv hj he he2 hpl
/-- .. of a written number -/
theorem we_takeI {Post : D → SL → Prop} {m : Nat} {jj q1} (hc : CalF X n.k nm ST_take) (j i : Nat) (h : ∀ k : Nat, k < m → Post (.int (k : Int)) Γ) (h0 : 0 < m := by decide) (hB : m < 2 ^ 64 := by decide)
    (hg : Γ[i]? = some (.own .sto) := by rfl) (hi : n.N[i]? = some sn := by rfl) (hv : n.V.contains i = true := by rfl) (hj : n.GN[j]? = some nm := by rfl)
    (he : starEach (.Name sn p1 :: [.Constant (.int (m : Int)) jj q1]) X.env = (false, eval (.Name sn p1) X.env) :: starEach [.Constant (.int (m : Int)) jj q1] X.env := by exact se_c rfl) (he2 : starEach [.Constant (.int (m : Int)) jj q1] X.env = (false, eval (.Constant (.int (m : Int)) jj q1) X.env) :: starEach [] X.env := by exact se_c rfl) (hpl : (backTo pos (starEach [.Constant (.int (m : Int)) jj q1] X.env)).any (·.1) = false := by rfl) : WE X n c Γ (.Call (.Name nm p) [.Name sn p1, .Constant (.int (m : Int)) jj q1] [] pos) Post :=
  we_take hc j i (we_of ev_int ⟨rfl, m, rfl, h0, (show Bt 64 (m : Int) by unfold Bt; omega).mono (by decide), h⟩) hg hi hv hj he he2 hpl
theorem bt64 {m : Nat} (h : m < 2 ^ 64) : Bt 8000 (m : Int) := (show Bt 64 (m : Int) by unfold Bt; omega).mono (by decide)
/-- a draw out of a list or tuple -/
theorem we_pickK {Post : D → SL → Prop} (hc : CalF X n.k nm ST_pick) (j i : Nat) (h : WK X n c Γ e fun k Γ1 => Γ1 = Γ ∧ i ∉ readIx [k] ∧ ∃ x m, pars Γ [k] = some [.w x] ∧ ownIx [k] = [] ∧ x.len = some m ∧ (∀ z, x = .str z → z.length ≤ sizeLine) ∧ 0 < m ∧ m < 2 ^ 64 ∧ (∀ k : Nat, k < m → ∃ y, x.at k = some y) ∧ ∀ (k : Nat) y, k < m → x.at k = some y → Post y Γ)
    (hg : Γ[i]? = some (.own .sto) := by rfl) (hi : n.N[i]? = some sn := by rfl) (hv : n.V.contains i = true := by rfl) (hj : n.GN[j]? = some nm := by rfl)
    (he : starEach (.Name sn p1 :: [e]) X.env = (false, eval (.Name sn p1) X.env) :: starEach [e] X.env := by exact se_c rfl) (he2 : starEach [e] X.env = (false, eval e X.env) :: starEach [] X.env := by exact se_c rfl) (hpl : (backTo pos (starEach [e] X.env)).any (·.1) = false := by exact se_any rfl) : WE X n c Γ (.Call (.Name nm p) [.Name sn p1, e] [] pos) Post :=
  we_sto hc j i (wa_cons (h.mono fun k Γ1 ⟨e1, hr, x, m, h1, h2, h3, h4, h5, h6, h7, h8⟩ => by
    subst e1
    exact wa_nil ⟨rfl, [.w x], h1, h2, hr, fun Q q => ⟨x, m, rfl, h3, h4, h5, h6, h7, fun k y hk hy => q _ ⟨_, rfl, h8 k y hk hy⟩⟩⟩) he2) hg hi hv hj he hpl
/-- .. a written list -/
theorem we_pick {Post : D → SL → Prop} (hc : CalF X n.k nm ST_pick) (j i : Nat) (h : WE X n c Γ e fun x Γ1 => Γ1 = Γ ∧ ∃ ds, x = .lst ds ∧ ds ≠ [] ∧ ds.length < 2 ^ 64 ∧ ∀ y ∈ ds, Post y Γ)
    (hg : Γ[i]? = some (.own .sto) := by rfl) (hi : n.N[i]? = some sn := by rfl) (hv : n.V.contains i = true := by rfl) (hj : n.GN[j]? = some nm := by rfl)
    (he : starEach (.Name sn p1 :: [e]) X.env = (false, eval (.Name sn p1) X.env) :: starEach [e] X.env := by exact se_c rfl) (he2 : starEach [e] X.env = (false, eval e X.env) :: starEach [] X.env := by exact se_c rfl) (hpl : (backTo pos (starEach [e] X.env)).any (·.1) = false := by exact se_any rfl) : WE X n c Γ (.Call (.Name nm p) [.Name sn p1, e] [] pos) Post :=
  we_pickK hc j i (wk_v (h.mono fun x Γ1 ⟨e1, ds, e2, h1, h2, h3⟩ => by
    subst e2
    refine ⟨e1, by simp [readIx], .lst ds, ds.length, rfl, rfl, rfl, fun z e => (by cases e), List.length_pos_iff.mpr h1, h2, fun k hk => ⟨_, at_lst (List.getElem?_eq_getElem hk)⟩, fun k y hk hy => ?_⟩
    rw [at_lst (List.getElem?_eq_getElem hk)] at hy
    cases hy
    exact h3 _ (List.getElem_mem hk))) hg hi hv hj he he2 hpl
/-- .. a list in a slot -/
theorem we_pickS {Post : D → SL → Prop} {s2 : Slot} {ds : List D} {q1 : Pos} {tn : Str} (hc : CalF X n.k nm ST_pick) (j i l : Nat) (hs : Γ[l]? = some s2) (hd : s2.data = some (.lst ds)) (hil : l ≠ i) (h1 : ds ≠ []) (h2 : ds.length < 2 ^ 64) (h3 : ∀ y ∈ ds, Post y Γ) (hv2 : s2.set = true := by rfl) (hns : ∀ ns, s2 ≠ .sc ns := by intro _ z; cases z)
    (hl : n.N[l]? = some tn := by rfl) (hvl : n.V.contains l = true := by rfl)
    (hg : Γ[i]? = some (.own .sto) := by rfl) (hi : n.N[i]? = some sn := by rfl) (hv : n.V.contains i = true := by rfl) (hj : n.GN[j]? = some nm := by rfl)
    (he : starEach (.Name sn p1 :: [.Name tn q1]) X.env = (false, eval (.Name sn p1) X.env) :: starEach [.Name tn q1] X.env := by exact se_c rfl) (he2 : starEach [.Name tn q1] X.env = (false, eval (.Name tn q1) X.env) :: starEach [] X.env := by exact se_c rfl) (hpl : (backTo pos (starEach [.Name tn q1] X.env)).any (·.1) = false := by exact se_any rfl) : WE X n c Γ (.Call (.Name nm p) [.Name sn p1, .Name tn q1] [] pos) Post :=
  we_pickK hc j i (wk_ek (ek_s l hs hv2 hl hvl) ⟨rfl, by simp [readIx]; exact fun z => hil z.symm, .lst ds, ds.length, by
    show (match AK.par Γ (.s l), some [] with | some x, some xs => some (x :: xs) | _, _ => none) = _
    simp only [AK.par, hs]
    cases s2 with
    | sc ns => exact absurd rfl (hns ns)
    | _ => rw [hd]; rfl, rfl, rfl, fun z e => (by cases e), List.length_pos_iff.mpr h1, h2, fun k hk => ⟨_, at_lst (List.getElem?_eq_getElem hk)⟩, fun k y hk hy => by
    rw [at_lst (List.getElem?_eq_getElem hk)] at hy
    cases hy
    exact h3 _ (List.getElem_mem hk)⟩) hg hi hv hj he he2 hpl
end
end DL

end
section
set_option Elab.async false
set_option linter.all false
set_option autoImplicit true
set_option maxRecDepth 10000
set_option maxHeartbeats 400000
namespace DL
open PySem L2
/-! ### plain things: free of dicts, of so much depth -/
def D.pl : Nat → D → Prop
  | _, .non => True
  | _, .bl _ => True
  | _, .int _ => True
  | _, .str _ => True
  | k + 1, .lst ds => ds.length ≤ 100000 ∧ ∀ d ∈ ds, D.pl k d
  | k + 1, .tup ds => ds.length ≤ 100000 ∧ ∀ d ∈ ds, D.pl k d
  | _, _ => False
theorem D.pl.mono : ∀ {j k : Nat} {d : D}, j ≤ k → D.pl j d → D.pl k d
  | j, k, .non, _, _ => by cases k <;> trivial
  | j, k, .bl _, _, _ => by cases k <;> trivial
  | j, k, .int _, _, _ => by cases k <;> trivial
  | j, k, .str _, _, _ => by cases k <;> trivial
  | 0, k, .lst _, _, h => h.elim
  | 0, k, .tup _, _, h => h.elim
  | j, k, .dic _, _, h => by cases j <;> exact h.elim
  | j, k, .ins _ _, _, h => by cases j <;> exact h.elim
  | j + 1, 0, .lst ds, e, h => by omega
  | j + 1, 0, .tup ds, e, h => by omega
  | j + 1, k + 1, .lst ds, e, h => ⟨h.1, fun d hd => D.pl.mono (Nat.le_of_succ_le_succ e) (h.2 d hd)⟩
  | j + 1, k + 1, .tup ds, e, h => ⟨h.1, fun d hd => D.pl.mono (Nat.le_of_succ_le_succ e) (h.2 d hd)⟩
/-! ### texts, compared -/
theorem Wk.strV {K : PySem.W.Frag} {R H : Hp} {x : Str} {v : V} : Wk K R H (.str x) v → v = .str x
  | .inl h => h
  | .inr (.inl ⟨a, vs, es, h1, h2, h3, h4, h5⟩) => by cases h2
  | .inr (.inr (.inl ⟨a, vs, es, h1, h2, h3, h4, h5⟩)) => by cases h2
  | .inr (.inr (.inr ⟨a, dx, ws, nm, fs, h1, h2, _⟩)) => by cases h2
section
variable {X : Cx} {n : Nm} {c : Cc} {Γ : SL} {a b : Expr} {pos : Pos} {k l : AK} {u w : Str}
theorem dop_eqS : DOp X n c (compareOp .Eq) (fun x y Post => ∃ u b : Str, x = .str u ∧ y = .str b ∧ Post (.bl (decide (u = b)))) := fun _ => ⟨_, op_eq, fun Γ σ R H x y v w Post s hx hy ⟨u, b, e1, e2, p⟩ Q q => by
  subst e1 e2
  cases hx.strV; cases hy.strV
  exact ⟨rfl, q _ R H _ s (Ex.refl _) (by simp [Rp]) p⟩⟩
theorem ev_eqS (ha : EK X n c Γ a k) (hb : EK X n c Γ b l) (ga : k.get Γ = some (.str u) := by rfl) (gb : l.get Γ = some (.str w) := by rfl) : EV X n c Γ (.Compare a [.Eq] [b] pos) (.bl (decide (u = w))) := ev_cmp dop_eqS ha hb (fun _ p => ⟨u, w, rfl, rfl, p⟩) ga gb (nomark _)
end
def D.isI : D → Bool
  | .int _ => true
  | _ => false
theorem isI_ty (x : D) : (tyB x.ty "int" && !tyB x.ty "bool") = x.isI := by cases x <;> simp [tyB, D.ty, D.isI]
def ST_isint : Sg := fun ps Post => ∃ x, ps = [.w x] ∧ Post (.d (.bl x.isI)) []
theorem atB {α : Type} {xs : List α} {i : Nat} (h : i < xs.length) : xs[i]? = some xs[i] := List.getElem?_eq_getElem h
theorem take_succ {α : Type} {xs ys : List α} {i : Nat} (h : xs.take i = ys.take i) (e : xs[i]? = ys[i]?) : xs.take (i + 1) = ys.take (i + 1) := by
  rw [List.take_succ, List.take_succ, h, e]
theorem ty_non {x : D} (h : x.isN = true) : x = .non := by cases x <;> first | rfl | cases h
theorem ty_bool {x : D} (h : tyB x.ty "bool" = true) : ∃ b, x = .bl b := by cases x <;> simp [tyB, D.ty] at h ⊢
theorem ty_int {x : D} (h : tyB x.ty "int" = true) (h2 : tyB x.ty "bool" = false) : ∃ b, x = .int b := by cases x <;> simp [tyB, D.ty] at h h2 ⊢
theorem ty_str {x : D} (h : tyB x.ty "str" = true) : ∃ b, x = .str b := by cases x <;> simp [tyB, D.ty] at h ⊢
theorem ty_dict {x : D} (h : tyB x.ty "dict" = true) : ∃ b, x = .dic b := by cases x <;> simp [tyB, D.ty] at h ⊢
theorem ty_list {x : D} (h : tyB x.ty "list" = true) : ∃ b, x = .lst b := by cases x <;> simp [tyB, D.ty] at h ⊢
theorem ty_tuple {x : D} (h : tyB x.ty "tuple" = true) : ∃ b, x = .tup b := by cases x <;> simp [tyB, D.ty] at h ⊢
theorem isI_of {x : D} (h : x.isI = true) : ∃ b, x = .int b := by cases x <;> simp [D.isI] at h ⊢
theorem ScOk.k {sc : Scope} {n : Nm} (h : ScOk sc n) (k : Nat) : ScOk sc { n with k := k } := ⟨h.1, h.2, h.3, h.4, h.5, h.6⟩
/-! numbers: a fraction's parts, its signs -/
theorem fr_eq {n d : Int} (h : d ≠ 0) : (fr n d).num = d.sign * n / (Int.gcd d n : Nat) ∧ (fr n d).den = d.natAbs / Int.gcd d n := by
  unfold fr
  rw [Rat.num_divInt, Rat.den_divInt, if_neg h]
  exact ⟨rfl, rfl⟩
theorem qD_fr {n d : Int} (hd : 0 < d) (h : Int.gcd d n = 1) : D.tup [.int n, .int d] = qD (fr n d) := by
  obtain ⟨e1, e2⟩ := fr_eq (n := n) (d := d) (by omega)
  rw [h] at e1 e2
  rw [Int.sign_eq_one_of_pos hd, Int.one_mul] at e1
  have e1' : (fr n d).num = n := by rw [e1]; simp
  have e2' : ((fr n d).den : Int) = d := by rw [e2]; simp; omega
  rw [qD, e1', e2']
theorem fr_one (n : Int) : fr n 1 = (n : Rat) := by
  have := Rat.num_divInt_den (n : Rat)
  simpa [fr] using this
section
variable {X : Cx} {n : Nm} {c : Cc} {Γ : SL} {e a b d : Expr} {x y z : D} {pos p p1 : Pos} {nm sn : Str} {S : Sg} {es : List Expr}
theorem we_add {Post : D → SL → Prop} (h : WE X n c Γ a fun x Γ1 => ∃ i, x = .int i ∧ WE X n c Γ1 b fun y Γ2 => ∃ j, y = .int j ∧ Post (.int (i + j)) Γ2) : WE X n c Γ (.BinOp a .Add b pos) Post :=
  we_bin dop_add (wk_e (h.mono fun x Γ1 ⟨i, e1, h1⟩ => wk_e (h1.mono fun y Γ2 ⟨j, e2, h2⟩ => ⟨x, y, rfl, rfl, i, j, e1, e2, trivial, h2⟩)))
/-- c + a draw -/
theorem we_addL {Post : D → SL → Prop} {i : Int} (ha : EV X n c Γ a (.int i)) (h : WE X n c Γ b fun y Γ2 => ∃ j, y = .int j ∧ Post (.int (i + j)) Γ2) : WE X n c Γ (.BinOp a .Add b pos) Post := we_add (we_of ha ⟨i, rfl, h⟩)
theorem we_call2v {Post : D → SL → Prop} (hc : CalF X n.k nm S) (j : Nat) (h : WE X n c Γ a fun x Γ1 => WE X n c Γ1 b fun y Γ2 => S [.w x, .w y] fun r os => ∃ z, r.data = some z ∧ Post z Γ2) (hj : n.GN[j]? = some nm := by rfl)
    (he : starEach [a, b] X.env = (false, eval a X.env) :: starEach [b] X.env := by exact se_c rfl) (he2 : starEach [b] X.env = (false, eval b X.env) :: starEach [] X.env := by exact se_c rfl) (hpl : (backTo pos (starEach [b] X.env)).any (·.1) = false := by exact se_any rfl) : WE X n c Γ (.Call (.Name nm p) [a, b] [] pos) Post :=
  we_call hc j (wa_cons (wk_v (h.mono fun x Γ1 h1 => wa_cons (wk_v (h1.mono fun y Γ2 h2 => wa_nil ⟨[.w x, .w y], rfl, List.nodup_nil, by simp [readIx], h2⟩)) he2)) he) hj he hpl
end
theorem bt_of {k : Nat} {i : Int} (h1 : -(2 ^ k : Int) < i) (h2 : i < (2 ^ k : Int)) : Bt k i := by
  unfold Bt
  have e : ((2 ^ k : Nat) : Int) = (2 : Int) ^ k := by simp
  omega
section
variable {X : Cx} {n : Nm} {c : Cc} {Γ : SL} {e a b d : Expr} {pos p p1 : Pos} {nm sn : Str} {S : Sg}
end
section
variable {X : Cx} {n : Nm} {c : Cc} {Γ : SL} {e a b d : Expr} {pos p p1 : Pos} {nm sn : Str} {S : Sg} {x : D}
/-- a name whose thing can not be changed by anyone -/
def D.fix : D → Bool
  | .lst _ => false
  | .dic _ => false
  | .ins _ _ => false
  | _ => true
theorem ev_fix (i : Nat) {sl : Slot} (hg : Γ[i]? = some sl := by rfl) (hs : sl.data = some x := by rfl) (hf : x.fix = true := by rfl) (hi : n.N[i]? = some nm := by rfl) (hv : n.V.contains i = true := by rfl) : EV X n c Γ (.Name nm pos) x := .mk fun hn σ R H s Q q => by
  obtain ⟨h1, h2⟩ := hn.dbg i nm hi
  refine (pe_var (i := i) (by rw [hn.eq]; exact hi) (hn.vis i nm hv hi) h1 h2).w ?_
  obtain ⟨o, e1, h⟩ := s.sl i _ hg
  obtain ⟨v, e2, r⟩ := h.wk hs
  subst e2
  refine ⟨v, e1, q v R H x Γ s (Ex.refl _) ?_ ⟨rfl, rfl⟩⟩
  rcases r with r | ⟨a, vs, es, h3, h4, _⟩ | ⟨a, vs, es, h3, h4, _⟩ | ⟨a, dx, vs, ns, es, h3, h4, _⟩
  · exact r
  · subst h4; cases hf
  · subst h4; cases hf
  · subst h4; cases hf
end
/-! ### courses -/
abbrev Pc := Rat × Rat × Rat
abbrev pD (p : Pc) : D := .tup [qD p.1, qD p.2.1, qD p.2.2]
abbrev cD (c : List Pc) : D := .lst (c.map pD)
def pline (p : Pc) (t : Rat) : Rat := p.2.1 + p.2.2 * (t - p.1)
/-- sizes of a course: starts, readings, paces -/
def Cz (s t r : Nat) (c : List Pc) : Prop := ∀ p ∈ c, Sz s p.1 ∧ Sz t p.2.1 ∧ Sz r p.2.2
end DL

end
section
set_option Elab.async false
set_option linter.all false
set_option autoImplicit true
set_option maxRecDepth 10000
set_option maxHeartbeats 400000
namespace DL
open PySem L2
section
variable {X : Cx} {n : Nm} {c : Cc} {Γ : SL} {e a b d : Expr} {pos p p1 ap pos2 : Pos} {nm sn : Str} {S : Sg} {x : D} {De : DE}
theorem ws_append (i : Nat) {ob : OB} (h : WE X n c Γ e fun x Γ' => ∃ ds, Γ'[i]? = some (.own (.lst ds)) ∧ ds.length < 1000000 ∧ De.nx (Γ'.set i (.own (.lst (ds ++ [x]))))) (hg : Γ[i]? = some (.own ob) := by rfl) (hL : ob.isL = true := by rfl) (hi : n.N[i]? = some nm := by rfl) (hv : n.V.contains i = true := by rfl)
    (hbase : attributeBase (.Name nm p) "append" X.env (eval (.Name nm p) X.env) = eval (.Name nm p) X.env := by rfl)
    (hline : (ap.endLine == pos.line) = true := by rfl) (hst : isStar e = false := by rfl)
    (hs : swapsWith (.Call (.Attribute (.Name nm p) "append" ap) [e] [] pos) none pos2.line X.env = pure false := by rfl) : WS X n c Γ (.Expr (.Call (.Attribute (.Name nm p) "append" ap) [e] [] pos) pos2) De :=
  ws_expr (we_meth i dm_append PySem.F.plainAttrs_list PySem.F.slot_list_append PySem.F.type_list_append (wa_cons (wk_e (h.mono fun x Γ' ⟨ds, h1, h2, h3⟩ => wa_nil ⟨[x], ds, rfl, h1, x, rfl, h2, h3⟩)) (se_c hst)) hg hL hi hv hbase (by rw [se_c hst]; rfl) hline (se_c hst) rfl) hs
end
theorem scC_k {sc : Scope} {n : Nm} (k : Nat) (h : scC sc { n with k := k } = true) : scC sc n = true := h
/-! ### pieces side by side -/
def prs : List Pc → List (Pc × Pc)
  | p :: q :: r => (p, q) :: prs (q :: r)
  | _ => []
theorem prs_len : ∀ c : List Pc, (prs c).length = c.length - 1
  | [] => rfl
  | [_] => rfl
  | p :: q :: r => by simp [prs, prs_len (q :: r)]
theorem prs_at : ∀ {c : List Pc} {i : Nat} {p q : Pc}, c[i]? = some p → c[i + 1]? = some q → (prs c)[i]? = some (p, q)
  | [], i, p, q, h, _ => by simp at h
  | [_], i, p, q, _, h => by simp at h
  | u :: v :: r, 0, p, q, h, h' => by simp at h h'; subst h h'; rfl
  | u :: v :: r, i + 1, p, q, h, h' => by
    simp only [prs, List.getElem?_cons_succ]
    exact prs_at (by simpa using h) (by simpa using h')
def jmp (p q : Pc) : Rat := q.2.1 - pline p q.1
def jF (x : Pc × Pc) : Option (Rat × Rat) := if jmp x.1 x.2 = 0 then none else some (x.2.1, jmp x.1 x.2)
def tF (x : Pc × Pc) : Option Pc := if x.2.2.2 = x.1.2.2 ∧ jmp x.1 x.2 = 0 then none else some x.2
def jumpsQ (c : List Pc) : List (Rat × Rat) := (prs c).filterMap jF
def tidyQ (c : List Pc) : List Pc := c.take 1 ++ (prs c).filterMap tF
/-- a def of the program over a course -/
def Cw (s t r : Nat) (c : List Pc) : Prop := Cz s t r c ∧ 8 * s + 3 * t + 3 * r + 60 ≤ 7900 ∧ c.length ≤ 100000
theorem Cz.at {s t r : Nat} {c : List Pc} {i : Nat} {p : Pc} (h : Cz s t r c) (e : c[i]? = some p) : Sz s p.1 ∧ Sz t p.2.1 ∧ Sz r p.2.2 := h p (List.mem_of_getElem? e)
theorem pline_sz {s t r w : Nat} {p : Pc} {x : Rat} (h : Sz s p.1 ∧ Sz t p.2.1 ∧ Sz r p.2.2) (hx : Sz w x) : Sz (t + (r + (w + s + 1)) + 1) (pline p x) := h.2.1.add (h.2.2.mul (hx.sub h.1))
/-! what a course shows at a time -/
def oD : Option Rat → D
  | none => .non
  | some q => qD q
def past (t : Rat) (p : Pc) : Bool := !decide (t < p.1)
def nowQ (c : List Pc) (t : Rat) : Option Rat := ((c.filter (past t)).getLast?).map fun p => pline p t
def Asc (c : List Pc) : Prop := c.Pairwise fun p q => p.1 < q.1
theorem asc_past {c : List Pc} (ha : Asc c) {i : Nat} {p : Pc} {t : Rat} (hp : c[i]? = some p) (h1 : p.1 ≤ t) (h2 : ∀ q, c[i + 1]? = some q → t < q.1) : c.filter (past t) = c.take (i + 1) := by
  have e : c = c.take (i + 1) ++ c.drop (i + 1) := (List.take_append_drop _ _).symm
  have hi := (List.getElem?_eq_some_iff.mp hp).1
  have hpw := ha
  unfold Asc at hpw
  rw [List.pairwise_iff_getElem] at hpw
  have ep : c[i] = p := (List.getElem?_eq_some_iff.mp hp).2
  conv => lhs; rw [e]
  rw [List.filter_append, List.filter_eq_self.mpr, List.filter_eq_nil_iff.mpr, List.append_nil]
  · intro q hq
    obtain ⟨k, hk, e2⟩ := List.mem_iff_getElem.mp hq
    rw [List.getElem_drop] at e2
    have hk' : i + 1 + k < c.length := by rw [List.length_drop] at hk; omega
    have h3 : t < q.1 := by
      have h4 := h2 _ (atB (xs := c) (i := i + 1) (by omega))
      rcases Nat.eq_zero_or_pos k with z | z
      · subst z; rw [← e2]; exact h4
      · have := hpw (i + 1) (i + 1 + k) (by omega) hk' (by omega)
        rw [e2] at this
        grind
    simp [past, h3]
  · intro q hq
    obtain ⟨k, hk, e2⟩ := List.mem_iff_getElem.mp hq
    rw [List.getElem_take] at e2
    have hk' : k < i + 1 := by rw [List.length_take] at hk; omega
    have h3 : q.1 ≤ p.1 := by
      rcases Nat.lt_or_ge k i with z | z
      · have := hpw k i (by omega) hi z
        rw [e2, ep] at this
        grind
      · have : k = i := by omega
        subst this
        rw [← e2, ep]; grind
    have : ¬ t < q.1 := by grind
    simp [past, this]
theorem now_at {c : List Pc} (ha : Asc c) {i : Nat} {p : Pc} {t : Rat} (hp : c[i]? = some p) (h1 : p.1 ≤ t) (h2 : ∀ q, c[i + 1]? = some q → t < q.1) : nowQ c t = some (pline p t) := by
  have hi := (List.getElem?_eq_some_iff.mp hp).1
  unfold nowQ
  rw [asc_past ha hp h1 h2, List.take_succ, hp]
  simp
theorem asc_lt {c : List Pc} (ha : Asc c) {i j : Nat} {p q : Pc} (hp : c[i]? = some p) (hq : c[j]? = some q) (h : i < j) : p.1 < q.1 := by
  have hpw := ha
  unfold Asc at hpw
  rw [List.pairwise_iff_getElem] at hpw
  obtain ⟨a1, a2⟩ := List.getElem?_eq_some_iff.mp hp
  obtain ⟨b1, b2⟩ := List.getElem?_eq_some_iff.mp hq
  have := hpw i j a1 b1 h
  rwa [a2, b2] at this
/-! the law's own readings of a course -/
/-- does piece i + 1 go on where piece i leads? -/
def cf (c : List Pc) (i : Nat) : Bool := match (prs c)[i]? with
  | some x => (tF x).isNone
  | none => false
def contI (c : List Pc) : List Int := ((List.range (c.length - 1)).filter (cf c)).map fun (i : Nat) => (i : Int) + 1
theorem cont_mem {c : List Pc} {i : Nat} : ((i : Int) + 1) ∈ contI c ↔ cf c i = true ∧ i < c.length - 1 := by
  unfold contI
  simp only [List.mem_map, List.mem_filter, List.mem_range]
  constructor
  · rintro ⟨j, ⟨h1, h2⟩, h3⟩
    have : j = i := by omega
    subst this; exact ⟨h2, h1⟩
  · rintro ⟨h1, h2⟩; exact ⟨i, ⟨h2, h1⟩, rfl⟩
end DL

end
section
set_option Elab.async false
set_option linter.all false
set_option autoImplicit true
set_option maxRecDepth 10000
set_option maxHeartbeats 400000
namespace DL
open PySem L2
def Up (qs : List Rat) : Prop := qs.Pairwise (· < ·)
theorem up_lt {out : List Rat} (h : Up out) {i j : Nat} {p q : Rat} (hp : out[i]? = some p) (hq : out[j]? = some q) (hij : i < j) : p < q := by
  unfold Up at h
  rw [List.pairwise_iff_getElem] at h
  obtain ⟨a1, a2⟩ := List.getElem?_eq_some_iff.mp hp
  obtain ⟨b1, b2⟩ := List.getElem?_eq_some_iff.mp hq
  have := h i j a1 b1 hij
  rwa [a2, b2] at this
/-- so many are below x -/
def Spot (out : List Rat) (x : Rat) (k s : Nat) : Prop := s ≤ k ∧ ∀ j q, j < k → out[j]? = some q → (q < x ↔ j < s)
theorem Spot.zero {out : List Rat} {x : Rat} : Spot out x 0 0 := ⟨Nat.le_refl _, fun j q h => absurd h (by omega)⟩
theorem Spot.no {out : List Rat} {x y : Rat} {k s : Nat} (h : Spot out x k s) (hy : out[k]? = some y) (hl : ¬ y < x) : Spot out x (k + 1) s := by
  refine ⟨by have := h.1; omega, fun j q hj hq => ?_⟩
  rcases Nat.lt_or_ge j k with z | z
  · exact h.2 j q z hq
  · have : j = k := by omega
    subst this; rw [hy] at hq; cases hq
    exact ⟨fun z => absurd z hl, fun z => absurd z (by have := h.1; omega)⟩
theorem Spot.ins {out : List Rat} {x : Rat} {s : Nat} (hu : Up out) (h : Spot out x out.length s) (hx : ∀ y, out[s]? = some y → y ≠ x) : Up (out.take s ++ [x] ++ out.drop s) := by
  unfold Up
  have e : out = out.take s ++ out.drop s := (List.take_append_drop _ _).symm
  have h1 : ∀ y ∈ out.take s, y < x := fun y hy => by
    obtain ⟨j, hj, e2⟩ := List.mem_iff_getElem.mp hy
    rw [List.length_take] at hj
    rw [List.getElem_take] at e2
    have hj2 : out[j]? = some y := by rw [← e2]; exact atB (by omega)
    exact (h.2 j y (by omega) hj2).mpr (by omega)
  have h2 : ∀ y ∈ out.drop s, x < y := fun y hy => by
    obtain ⟨j, hj, e2⟩ := List.mem_iff_getElem.mp hy
    rw [List.length_drop] at hj
    rw [List.getElem_drop] at e2
    have hj2 : out[s + j]? = some y := by rw [← e2]; exact atB (by omega)
    have h0 := atB (xs := out) (i := s) (by omega)
    have a1 : ¬ out[s] < x := fun z => absurd ((h.2 s _ (by omega) h0).mp z) (by omega)
    have a2 := hx _ h0
    have a3 : x < out[s] := by grind
    rcases Nat.eq_zero_or_pos j with z | z
    · subst z; rw [Nat.add_zero, h0] at hj2; cases hj2; exact a3
    · have := up_lt hu h0 hj2 (by omega); grind
  have hp := hu
  unfold Up at hp
  rw [e, List.pairwise_append] at hp
  rw [List.append_assoc, List.pairwise_append]
  refine ⟨hp.1, ?_, fun a ha b hb => ?_⟩
  · show List.Pairwise (· < ·) (x :: out.drop s)
    rw [List.pairwise_cons]
    exact ⟨h2, hp.2.1⟩
  · have hb' : b = x ∨ b ∈ out.drop s := by simpa using hb
    rcases hb' with rfl | hb'
    · exact h1 a ha
    · have := h1 a ha; have := h2 b hb'; grind
theorem up_last {out : List Rat} (hu : Up out) {z q : Rat} (hz : out[out.length - 1]? = some z) (hq : q ∈ out) : q ≤ z := by
  obtain ⟨j, hj, e⟩ := List.mem_iff_getElem.mp hq
  have h1 : out[j]? = some q := by rw [← e]; exact atB hj
  rcases Nat.lt_or_ge j (out.length - 1) with h | h
  · have := up_lt hu h1 hz h; grind
  · have : j = out.length - 1 := by omega
    rw [← this, h1] at hz; cases hz; grind
end DL

end
section
set_option Elab.async false
set_option linter.all false
set_option autoImplicit true
set_option maxRecDepth 10000
set_option maxHeartbeats 400000
namespace DL
open PySem L2
/-! ### fractions over a common line -/
def Sd (N n : Nat) (q : Rat) : Prop := q.den ∣ N ∧ Bt n q.num
theorem fr_dvd {n d : Int} {N : Nat} (h : d ≠ 0) (hd : d.natAbs ∣ N) : (fr n d).den ∣ N := by
  rw [(fr_eq (n := n) h).2]
  exact Nat.dvd_trans (Nat.div_dvd_of_dvd (Nat.gcd_dvd_left _ _)) hd
theorem over_N {q : Rat} {N : Nat} (h : q.den ∣ N) (h0 : N ≠ 0) : ∃ x : Int, q = fr x (N : Int) := by
  obtain ⟨m, rfl⟩ := h
  refine ⟨q.num * m, ?_⟩
  have hm : (m : Int) ≠ 0 := by
    intro z
    have : m = 0 := by omega
    subst this; simp at h0
  unfold fr
  have := Rat.divInt_mul_right (n := q.num) (d := (q.den : Int)) hm
  rw [Int.natCast_mul, this, Rat.num_divInt_den]
theorem add_den {a b : Rat} {N : Nat} (ha : a.den ∣ N) (hb : b.den ∣ N) (h0 : N ≠ 0) : (a + b).den ∣ N := by
  obtain ⟨x, rfl⟩ := over_N ha h0
  obtain ⟨y, rfl⟩ := over_N hb h0
  have hN : (N : Int) ≠ 0 := by omega
  have e : fr x (N : Int) + fr y (N : Int) = fr (x + y) (N : Int) := by
    unfold fr
    rw [Rat.divInt_add_divInt _ _ hN hN, ← Int.add_mul, Rat.divInt_mul_right hN]
  rw [e]
  exact fr_dvd hN (by simp)
theorem Sd.add {N n m k L : Nat} {a b : Rat} (ha : Sd N n a) (hb : Sd N m b) (h0 : N ≠ 0) (hL : N < 2 ^ L) (hn : n ≤ k) (hm : m ≤ k) : Sd N (k + L + 1) (a + b) := by
  refine ⟨add_den ha.1 hb.1 h0, ?_⟩
  have bd : ∀ {q : Rat}, q.den ∣ N → Bt L (q.den : Int) := fun h => by
    have := Nat.le_of_dvd (by omega) h
    show ((_ : Nat) : Int).natAbs < _
    rw [Int.natAbs_natCast]; omega
  have hn : Bt (k + L + 1) (a.num * (b.den : Int) + b.num * (a.den : Int)) := ((ha.2.mono hn).mul (bd hb.1)).add ((hb.2.mono hm).mul (bd ha.1))
  refine Nat.lt_of_le_of_lt ?_ hn
  rw [Rat.num_add, Int.natAbs_ediv_of_dvd (Int.ofNat_dvd_left.2 (Nat.gcd_dvd_left ..))]
  exact Nat.div_le_self _ _
theorem Sd.neg {N n : Nat} {a : Rat} (h : Sd N n a) : Sd N n (-a) := ⟨h.1, by rw [Rat.neg_num]; exact h.2.neg⟩
theorem Sd.sub {N n m k L : Nat} {a b : Rat} (ha : Sd N n a) (hb : Sd N m b) (h0 : N ≠ 0) (hL : N < 2 ^ L) (hn : n ≤ k) (hm : m ≤ k) : Sd N (k + L + 1) (a - b) := by
  rw [Rat.sub_eq_add_neg]; exact ha.add hb.neg h0 hL hn hm
theorem Sd.mul {N M n m : Nat} {a b : Rat} (ha : Sd N n a) (hb : Sd M m b) : Sd (N * M) (n + m) (a * b) := by
  refine ⟨?_, ?_⟩
  · rw [Rat.den_mul]
    exact Nat.dvd_trans (Nat.div_dvd_of_dvd (Nat.gcd_dvd_right ..)) (Nat.mul_dvd_mul ha.1 hb.1)
  · refine Nat.lt_of_le_of_lt ?_ (ha.2.mul hb.2)
    rw [Rat.num_mul, Int.natAbs_ediv_of_dvd (Int.ofNat_dvd_left.2 (Nat.gcd_dvd_left ..))]
    exact Nat.div_le_self _ _
theorem Sd.mono {N M n m : Nat} {a : Rat} (h : Sd N n a) (hN : N ∣ M) (hn : n ≤ m) : Sd M m a := ⟨Nat.dvd_trans h.1 hN, h.2.mono hn⟩
theorem Sd.sz {N n k : Nat} {a : Rat} (h : Sd N n a) (h0 : N ≠ 0) (hN : N < 2 ^ k) (hn : n ≤ 8 * k) : Sz k a := ⟨h.2.mono hn, by have := Nat.le_of_dvd (by omega) h.1; omega⟩
/-- drawn times, steps, paces -/
def PPart (q : Rat) : Prop := Sd 60 24 q
def PStep (q : Rat) : Prop := Sd 60 24 q ∧ 0 < q
def PPace (q : Rat) : Prop := Sd 27720 32 q ∧ 0 < q
abbrev N2 : Nat := 26611200
theorem Asc.snoc {c : List Pc} {p : Pc} (h : Asc c) (hp : ∀ x ∈ c, x.1 < p.1) : Asc (c ++ [p]) := by
  unfold Asc
  rw [List.pairwise_append]
  exact ⟨h, List.pairwise_singleton _ _, fun a ha b hb => by
    have : b = p := by simpa using hb
    rw [this]; exact hp a ha⟩
/-- a piece is put behind piece i, on its line -/
def CutS (c d : List Pc) : Prop := ∃ (i : Nat) (p : Pc) (w : Rat), c[i]? = some p ∧ p.1 < w ∧ (∀ q, c[i + 1]? = some q → w < q.1) ∧ d = c.take (i + 1) ++ [(w, pline p w, p.2.2)] ++ c.drop (i + 1)
theorem CutS.len {c d : List Pc} (h : CutS c d) : d.length = c.length + 1 := by
  obtain ⟨i, p, w, h1, _, _, rfl⟩ := h
  have := (List.getElem?_eq_some_iff.mp h1).1
  simp only [List.length_append, List.length_take, List.length_drop, List.length_singleton]; omega
theorem CutS.asc {c d : List Pc} (ha : Asc c) (h : CutS c d) : Asc d := by
  obtain ⟨i, p, w, h1, h2, h3, rfl⟩ := h
  have hp := ha
  unfold Asc at hp ⊢
  rw [← List.take_append_drop (i + 1) c, List.pairwise_append] at hp
  rw [List.append_assoc, List.pairwise_append]
  have a1 : ∀ y ∈ c.take (i + 1), y.1 < w := fun y hy => by
    obtain ⟨j, hj, e2⟩ := List.mem_iff_getElem.mp hy
    rw [List.length_take] at hj
    rw [List.getElem_take] at e2
    have hj2 : c[j]? = some y := by rw [← e2]; exact atB (by omega)
    rcases Nat.lt_or_ge j i with z | z
    · have := asc_lt ha hj2 h1 z; grind
    · have : j = i := by omega
      rw [this, h1] at hj2; cases hj2; exact h2
  have a2 : ∀ y ∈ c.drop (i + 1), w < y.1 := fun y hy => by
    obtain ⟨j, hj, e2⟩ := List.mem_iff_getElem.mp hy
    rw [List.length_drop] at hj
    rw [List.getElem_drop] at e2
    have hj2 : c[i + 1 + j]? = some y := by rw [← e2]; exact atB (by omega)
    have h0 := atB (xs := c) (i := i + 1) (by omega)
    have h4 := h3 _ h0
    rcases Nat.eq_zero_or_pos j with z | z
    · rw [z, Nat.add_zero, h0] at hj2; cases hj2; exact h4
    · have := asc_lt ha h0 hj2 (by omega); grind
  refine ⟨hp.1, ?_, fun a hx b hb => ?_⟩
  · show List.Pairwise _ (_ :: c.drop (i + 1))
    exact List.pairwise_cons.mpr ⟨a2, hp.2.1⟩
  · have hb' : b = (w, pline p w, p.2.2) ∨ b ∈ c.drop (i + 1) := by simpa using hb
    rcases hb' with rfl | hb'
    · exact a1 a hx
    · have := a1 a hx; have := a2 b hb'; grind
theorem CutS.mem {c d : List Pc} (h : CutS c d) : ∃ (p : Pc) (w : Rat), p ∈ c ∧ d.Perm ((w, pline p w, p.2.2) :: c) := by
  obtain ⟨i, p, w, h1, h2, h3, rfl⟩ := h
  refine ⟨p, w, List.mem_of_getElem? h1, ?_⟩
  rw [List.append_assoc]
  refine List.perm_middle.trans ?_
  show (_ :: (c.take (i + 1) ++ c.drop (i + 1))).Perm _
  rw [List.take_append_drop]
end DL

end
section
set_option Elab.async false
set_option linter.all false
set_option autoImplicit true
set_option maxRecDepth 10000
set_option maxHeartbeats 400000
namespace DL
open PySem L2
/-! ### plain law: tidied courses -/
/-- on one line -/
def SLn (p q : Pc) : Prop := q.2.2 = p.2.2 ∧ ∀ t, pline p t = pline q t
theorem SLn.symm {p q : Pc} (h : SLn p q) : SLn q p := ⟨h.1.symm, fun t => (h.2 t).symm⟩
theorem sln_of {p q : Pc} (h1 : q.2.2 = p.2.2) (h2 : jmp p q = 0) : SLn p q := ⟨h1, fun t => by
  unfold jmp at h2
  unfold pline at h2 ⊢
  rw [h1]; grind⟩
theorem SLn.jmp {p q : Pc} (h : SLn p q) : jmp p q = 0 := by
  unfold DL.jmp
  rw [h.2 q.1]
  unfold pline
  grind
theorem SLn.j {p p' q : Pc} (h : SLn p p') : DL.jmp p q = DL.jmp p' q := by unfold DL.jmp; rw [h.2]
theorem SLn.tF {p p' q : Pc} (h : SLn p p') : tF (p, q) = DL.tF (p', q) := by unfold DL.tF; rw [h.j, h.1]
theorem SLn.jF {p p' q : Pc} (h : SLn p p') : jF (p, q) = DL.jF (p', q) := by unfold DL.jF; rw [h.j]
theorem SLn.t0 {p q : Pc} (h : SLn p q) : DL.tF (p, q) = none := by unfold DL.tF; simp [h.1, h.jmp]
theorem SLn.j0 {p q : Pc} (h : SLn p q) : DL.jF (p, q) = none := by unfold DL.jF; simp [h.jmp]
theorem t0_sln {p q : Pc} (h : DL.tF (p, q) = none) : SLn p q := by
  unfold DL.tF at h
  split at h
  · rename_i h'; exact sln_of h'.1 h'.2
  · cases h
theorem tF_some {p q x : Pc} (h : DL.tF (p, q) = some x) : x = q := by
  unfold DL.tF at h
  split at h
  · cases h
  · cases h; rfl
def tq (p : Pc) (r : List Pc) : List Pc := (prs (p :: r)).filterMap tF
theorem tq_cons (p q : Pc) (r : List Pc) : tq p (q :: r) = (tF (p, q)).toList ++ tq q r := by
  unfold tq
  simp only [prs, List.filterMap_cons]
  cases tF (p, q) <;> rfl
theorem tq_sln {p p' : Pc} (h : SLn p p') : ∀ r, tq p r = tq p' r
  | [] => rfl
  | q :: r => by rw [tq_cons, tq_cons, h.tF]
theorem tq_idem : ∀ (r : List Pc) (p : Pc), tq p (tq p r) = tq p r
  | [], p => rfl
  | q :: r, p => by
    rw [tq_cons]
    cases e : tF (p, q) with
    | none =>
      show tq p (tq q r) = tq q r
      rw [tq_sln (t0_sln e).symm, tq_idem r p]
    | some x =>
      have := tF_some e
      subst this
      show tq p (x :: tq x r) = x :: tq x r
      rw [tq_cons, e, tq_idem r x]; rfl
theorem tq_sub : ∀ (r : List Pc) (p : Pc), (tq p r).Sublist r
  | [], p => List.Sublist.refl _
  | q :: r, p => by
    rw [tq_cons]
    cases e : tF (p, q) with
    | none => exact (tq_sub r q).cons _
    | some x =>
      have := tF_some e
      subst this
      exact (tq_sub r x).cons_cons _
theorem now_app (a b : List Pc) (t : Rat) : nowQ (a ++ b) t = (nowQ b t).or (nowQ a t) := by
  unfold nowQ
  rw [List.filter_append, List.getLast?_append]
  cases (b.filter (past t)).getLast? <;> rfl
theorem now_two {p q : Pc} (h : SLn p q) (hl : p.1 < q.1) (t : Rat) : nowQ [p, q] t = nowQ [p] t := by
  unfold nowQ
  by_cases h1 : t < p.1
  · have h2 : t < q.1 := by grind
    simp [past, h1, h2]
  · by_cases h2 : t < q.1
    · simp [past, h1, h2]
    · simp [past, h1, h2, h.2]
theorem now_tq : ∀ (r : List Pc) (p : Pc) (t : Rat), Asc (p :: r) → nowQ (p :: tq p r) t = nowQ (p :: r) t
  | [], p, t, _ => rfl
  | q :: r, p, t, ha => by
    obtain ⟨h1, h2⟩ := List.pairwise_cons.mp ha
    rw [tq_cons]
    have e2 : nowQ (p :: q :: r) t = (nowQ (q :: r) t).or (nowQ [p] t) := now_app [p] (q :: r) t
    cases e : tF (p, q) with
    | none =>
      show nowQ (p :: tq q r) t = _
      have hs := t0_sln e
      obtain ⟨h3, h4⟩ := List.pairwise_cons.mp h2
      have ha' : Asc (p :: r) := List.pairwise_cons.mpr ⟨fun x hx => h1 x (List.mem_cons_of_mem _ hx), h4⟩
      rw [tq_sln hs.symm, now_tq r p t ha']
      have e3 : nowQ (p :: q :: r) t = (nowQ r t).or (nowQ [p, q] t) := now_app [p, q] r t
      have e4 : nowQ (p :: r) t = (nowQ r t).or (nowQ [p] t) := now_app [p] r t
      rw [e3, e4, now_two hs (h1 q List.mem_cons_self)]
    | some x =>
      have := tF_some e
      subst this
      show nowQ (p :: x :: tq x r) t = _
      have e5 : nowQ (p :: x :: tq x r) t = (nowQ (x :: tq x r) t).or (nowQ [p] t) := now_app [p] (x :: tq x r) t
      rw [e5, e2, now_tq r x t h2]
theorem tidy_cons (p : Pc) (r : List Pc) : tidyQ (p :: r) = p :: tq p r := rfl
theorem tidy_idem {c : List Pc} : tidyQ (tidyQ c) = tidyQ c := by
  cases c with
  | nil => rfl
  | cons p r => rw [tidy_cons, tidy_cons, tq_idem]
theorem now_tidy {c : List Pc} (ha : Asc c) (t : Rat) : nowQ (tidyQ c) t = nowQ c t := by
  cases c with
  | nil => rfl
  | cons p r => rw [tidy_cons]; exact now_tq r p t ha
theorem tidy_sub (c : List Pc) : (tidyQ c).Sublist c := by
  cases c with
  | nil => exact List.Sublist.refl _
  | cons p r => rw [tidy_cons]; exact (tq_sub r p).cons_cons _
theorem fm_all {α β : Type} {f : α → Option β} : ∀ {xs : List α}, (xs.filterMap f).length = xs.length → ∀ x ∈ xs, (f x).isNone = false
  | [], _, x, hx => by cases hx
  | y :: xs, h, x, hx => by
    have hl := List.length_filterMap_le f xs
    cases e : f y with
    | none =>
      rw [List.filterMap_cons, e] at h
      simp only [List.length_cons] at h; omega
    | some z =>
      rw [List.filterMap_cons, e] at h
      simp only [List.length_cons] at h
      rcases List.mem_cons.mp hx with rfl | hx
      · rw [e]; rfl
      · exact fm_all (by omega) x hx
theorem cont_tidy {c : List Pc} : contI (tidyQ c) = [] := by
  cases c with
  | nil => rfl
  | cons p r =>
    rw [tidy_cons]
    have hl : ((prs (p :: tq p r)).filterMap tF).length = (prs (p :: tq p r)).length := by
      show (tq p (tq p r)).length = _
      rw [tq_idem, prs_len]; rfl
    have ha := fm_all hl
    unfold contI
    rw [List.map_eq_nil_iff, List.filter_eq_nil_iff]
    intro i _
    unfold cf
    cases e : (prs (p :: tq p r))[i]? with
    | none => simp
    | some x =>
      have := ha x (List.mem_of_getElem? e)
      simp [this]
/-! from one place on, every reading moved by so much -/
def turn (c : List Pc) (k : Nat) (by_ : Rat) : List Pc := c.take k ++ (c.drop k).map fun p => (p.1, p.2.1 + by_, p.2.2)
end DL

end
section
set_option Elab.async false
set_option linter.all false
set_option autoImplicit true
set_option maxRecDepth 10000
set_option maxHeartbeats 400000
namespace DL
open PySem L2
/-! ### courses as data -/
/-! ### from one place on moved -/
end DL

end
section
set_option Elab.async false
set_option linter.all false
set_option autoImplicit true
set_option maxRecDepth 100000
set_option maxHeartbeats 400000
namespace DL
open PySem L2
/-! ### what the top has written -/
theorem law_end {P : Program} {w : World} {K : PySem.W.Frag} {mg : Str → Option Value} {fa : Addr} {nm x : Str} {st : Stmt} {lev : Nat} {S : Sg} (d : DefAt K mg nm st [x]) (hm : mg nm = some (.ref fa)) (ok : ∀ base : Heap, FnOk P w K mg base CX0 lev d.a d.fd [x] (spOf K S)) :
    ∃ fd : FuncData, (∀ (s : Shared) (v : Value), BindsTo s fd ⟨[v], []⟩ [(x, v)]) ∧ ∀ base : Heap, K.In base → base.Ns mainGlobals mg → FnOk P w K mg base CX0 lev fa fd [x] (spOf K S) := by
  have e : some (Value.ref d.a) = some (Value.ref fa) := d.m.symm.trans hm
  have e2 : d.a = fa := by cases e; rfl
  exact ⟨d.fd, fun s v => .of_eq (d.bb [v] rfl), fun base _ _ => e2 ▸ ok base⟩
theorem sp_law {S : Sg} {m : Nat} (hS : ∀ ns : List Int, ns.length ≤ m → S [.sc ns] fun r _ => r = .d (.bl true)) (K : PySem.W.Frag) (H : Hp) (a : Addr) (ns : List Int) (hl : ns.length ≤ m) (_ : Only H) (hq : SqL K H a (ns.map V.int)) : spOf K S [.ref a] H (fun v _ => v = .bl true) fun _ _ _ => False :=
  ⟨H, [.sc ns], _, Ex.refl _, ⟨.ref a, [], rfl, ⟨a, rfl, hq⟩, rfl⟩, List.nodup_nil, hS ns hl, fun v R' H' r os _ hr _ e => by subst e; exact hr⟩
end DL

end
section
set_option Elab.async false
set_option linter.all false
set_option autoImplicit true
set_option maxRecDepth 10000
set_option maxHeartbeats 400000
namespace DL
open PySem L2
/-! ### the times at which a course shows a reading -/
theorem fr_inv {b : Rat} : fr (b.den : Int) b.num = b⁻¹ := (Rat.inv_def b).symm
theorem div_eq {a b : Rat} : a * b⁻¹ = a / b := (Rat.div_def a b).symm
theorem gcd_nd (b : Rat) : Int.gcd b.num (b.den : Int) = 1 := by
  have := b.reduced
  simpa [Int.gcd, Nat.Coprime] using this
theorem inv_pos {b : Rat} (h : 0 < b.num) : D.tup [.int (b.den : Int), .int b.num] = qD b⁻¹ := by
  rw [qD_fr h (gcd_nd b), fr_inv]
def tmP (p : Pc) (r : Rat) : Rat := p.1 + (r - p.2.1) / p.2.2
theorem tmP_sz {s t r v w : Nat} {p : Pc} {x : Rat} (h : Sz s p.1 ∧ Sz t p.2.1 ∧ Sz r p.2.2) (hv : Sz v p.2.2⁻¹) (hx : Sz w x) : Sz (s + (w + t + 1 + v) + 1) (tmP p x) := by
  unfold tmP
  rw [← div_eq]
  exact h.1.add ((hx.sub h.2.1).mul hv)
section
open PyProof.Rows hiding St
variable {X : Cx} {n : Nm} {c : Cc} {Γ : SL} {e a b : Expr} {x y z : DL.D} {pos p : Pos} {nm : Str} {D : DE}
/-- what a slot holds is forgotten -/
theorem wb_any (i : Nat) {sts : List Stmt} {s0 : Slot} (h : WB X n c (Γ.set i .any) sts D) (hg : Γ[i]? = some s0 := by rfl) (hoi : n.oi.contains i = false := by rfl) : WB X n c Γ sts D := .mk fun hn σ R H s E ok => by
  obtain ⟨w, e1, -⟩ := s.sl i _ hg
  have hl : i < Γ.length := (List.getElem?_eq_some_iff.mp hg).1
  have es : σ.set i w = σ := by
    apply List.ext_getElem?
    intro j
    by_cases hj : i = j
    · subst hj; rw [List.getElem?_set_self (by rw [← s.len]; exact hl), e1]
    · rw [List.getElem?_set_ne hj]
  have s2 : SOk X.K c (Γ.set i .any) (σ.set i w) R H := s.set i (v := w) rfl trivial (hn.noi hoi)
  rw [es] at s2
  exact h.run hn σ R H s2 E ok
end
end DL

end
section
set_option Elab.async false
set_option linter.all false
set_option autoImplicit true
set_option maxRecDepth 10000
set_option maxHeartbeats 400000
namespace DL
open PySem L2
open PyProof.Rows hiding St
/-! ### xs.count(x) of fractions -/
section
variable {X : Cx} {n : Nm} {c : Cc} {Γ : SL} {e a b : Expr} {pos ap : Pos}
end
theorem ixN_nat {m k : Nat} (h : k < m) : ixN m (k : Int) = some k := by
  unfold ixN
  rw [if_pos (by omega), if_pos (by omega)]; simp
end DL

end
section
set_option Elab.async false
set_option linter.all false
set_option autoImplicit true
set_option maxRecDepth 10000
set_option maxHeartbeats 400000
namespace DL
open PySem L2
section
open PyProof.Rows hiding St
variable {X : Cx} {n : Nm} {c : Cc} {Γ : SL} {e a b : Expr} {x y z : DL.D} {pos p : Pos} {nm : Str} {D : DE} {k : AK}
/-- t[lo:hi] -/
theorem ev_sliceT {lo hi : Option Expr} {l1 h1 : Option Int} {p2 : Pos} {xs : List DL.D} (ha : EK X n c Γ a k) (hl : EP1 X n c Γ lo l1) (hh : EP1 X n c Γ hi h1) (hw : ¬ (HT.sIx xs.length 0 l1 = 0 ∧ HT.sIx xs.length xs.length h1 = xs.length)) (ga : k.get Γ = some (.tup xs) := by rfl) : EV X n c Γ (.Subscript a (.Slice lo hi none p2) pos) (.tup (cutD xs l1 h1)) := .mk fun hn σ R H s Q q =>
  (pe_slice sl_tup pW pP1 pP1).w (ha.run hn σ R H s _ fun v R1 H1 k' Γ1 s1 e1 r1 ⟨g1, g2⟩ => by
    subst g1 g2
    exact hl.run hn s1 _ fun R2 H2 s2 e2 => hh.run hn s2 _ fun R3 H3 s3 e3 => by
      obtain ⟨a1, vs, rfl, h2, h3⟩ := (((r1.mono e2).mono e3).wk s3 ga).tup s3.rh
      refine ⟨a1, vs, rfl, h2, by rw [← h3.length]; exact hw, fun m hm => ?_⟩
      have g := s3.new (.tup (cutV vs l1 h1)) hm
      exact q _ _ _ (.tup (cutD xs l1 h1)) _ (s3.grow g) (((e1.trans e2).trans e3).trans g.r) ⟨m, _, rfl, .inl (.inl upd_same), (h3.cut _ _).mono g.r⟩ ⟨rfl, rfl⟩)
theorem ev_call4 {d f : Expr} {l m q : AK} {ps : List Par} {S : Sg} (hc : CalF X n.k nm S) (j : Nat) (ha : EK X n c Γ a k) (hb : EK X n c Γ b l) (hd : EK X n c Γ d m) (hf : EK X n c Γ f q) (h : ∀ Post : Res → List OB → Prop, Post (.d z) [] → S ps Post) (hp : pars Γ [k, l, m, q] = some ps := by rfl) (ho : ownIx [k, l, m, q] = [] := by rfl) (hj : n.GN[j]? = some nm := by rfl)
    (he : starEach [a, b, d, f] X.env = (false, eval a X.env) :: starEach [b, d, f] X.env := by exact se_c rfl) (he2 : starEach [b, d, f] X.env = (false, eval b X.env) :: starEach [d, f] X.env := by exact se_c rfl) (he3 : starEach [d, f] X.env = (false, eval d X.env) :: starEach [f] X.env := by exact se_c rfl) (he4 : starEach [f] X.env = (false, eval f X.env) :: starEach [] X.env := by exact se_c rfl) (hpl : (backTo pos (starEach [b, d, f] X.env)).any (·.1) = false := by exact se_any rfl) : EV X n c Γ (.Call (.Name nm p) [a, b, d, f] [] pos) z :=
  we_call hc j (wa_of (ea_cons ha (ea_cons hb (ea_cons hd (ea_cons hf ea_nil he4) he3) he2) he) ⟨ps, hp, by rw [ho]; exact List.nodup_nil, by rw [ho]; simp, h _ ⟨z, rfl, rfl, by rw [ho]; rfl⟩⟩) hj he hpl
end
/-! ### spans -/
abbrev Spn := Option Rat × Option Rat
def SzO (k : Nat) (o : Option Rat) : Prop := ∀ q, o = some q → Sz k q
def SzS (k : Nat) (s : Spn) : Prop := SzO k s.1 ∧ SzO k s.2
theorem SzO.mono {j k : Nat} {o : Option Rat} (h : SzO j o) (e : j ≤ k) : SzO k o := fun q hq => (h q hq).mono e
theorem SzS.mono {j k : Nat} {s : Spn} (h : SzS j s) (e : j ≤ k) : SzS k s := ⟨h.1.mono e, h.2.mono e⟩
def OrdS (s : Spn) : Prop := ∀ a b, s.1 = some a → s.2 = some b → ¬ b < a
def loIn (o : Option Rat) (t : Rat) : Bool := match o with
  | none => true
  | some a => !decide (t < a)
def hiIn (o : Option Rat) (t : Rat) : Bool := match o with
  | none => true
  | some a => !decide (a < t)
def inS (s : Spn) (t : Rat) : Bool := loIn s.1 t && hiIn s.2 t
def maxQ (a b : Rat) : Rat := if a < b then b else a
def minQ (a b : Rat) : Rat := if b < a then b else a
def inO (o : Option Spn) (t : Rat) : Bool := match o with
  | none => false
  | some s => inS s t
/-- all ends -/
def endsQ (ss : List Spn) : List Rat := ss.flatMap fun s => s.1.toList ++ s.2.toList
def PSpare (q : Rat) : Prop := Sd 60 24 q ∧ ¬ q < 0
end DL

end
section
set_option Elab.async false
set_option linter.all false
set_option autoImplicit true
set_option maxRecDepth 100000
set_option maxHeartbeats 1000000
/-! own exceptions whose __init__ begins with super().__init__(text) -/
namespace DL
open PySem L2 NdefX
open PyProof.Rows hiding St
/-- what the written part says of such a class and its __init__ -/
structure SupC (P : Program) (K : PySem.W.Frag) (mg : Str → Option Value) (C fI cc cda : Addr) : Prop where
  T : OexC K C
  cell : ∃ cl cld csl, K.lookup cc = some ⟨cl, cld, .cell (some (.ref C)), csl⟩
  code : ∃ ccl cdd vs ccs file tf, K.lookup cda = some ⟨ccl, cdd, .fields vs, ccs⟩ ∧ vs[2]? = some (.str file tf) ∧ ((P.main.file : Str) == file) = true
  cls : (PySem.W.clsIn K C).isSome = true
  sub : PySem.W.mroIn K C (.ref C) = some true
  sup : mg "super" = none
  tp : PySem.W.nsIn K cStatics "thirdparty.any" = some none
  ini : PySem.W.ks_superIn K C C "__init__" = some (some (.builtin "ValueError.__init__"))
  ve : PySem.W.subIn K (.ref C) (.type "ValueError") = some true
  top : (P.main.scope.names.lookup ("super" : Str)).isSome = false
section
variable {X : Cx} {σ : L2.St} {H : Hp} {s : Shared} {a C fI cc cda : Addr}
end
section
variable {P : Program} {w : World} {K : PySem.W.Frag} {mg : Str → Option Value} {base : Heap} {CX : CXT}
end
end DL

end
section
set_option Elab.async false
set_option linter.all false
set_option autoImplicit true
set_option maxRecDepth 100000
set_option maxHeartbeats 400000
/-! defs that raise own exceptions -/
namespace DL
open PySem L2
open PyProof.Rows hiding St
abbrev SgX := List Par → (Res → Prop) → (Addr → List (Str × D) → Prop) → Prop
def spOfX (K : PySem.W.Frag) (S : SgX) : Sp := fun vs H Q E => ∃ (R : Hp) (ps : List Par) (Post : Res → Prop) (Xp : Addr → List (Str × D) → Prop), Ex R H ∧ ParsOk K (fun a => a ∈ ownAd ps vs) R H ps vs ∧ parOi 0 ps = [] ∧ S ps Post Xp ∧
  (∀ v R' H' r, After K [] R H R' H' → RetOk K H R' H' r v → Post r → Q v H') ∧ ∀ C d fs R' H', After K [] R H R' H' → XdOk K R' H' H d fs → Xp C fs → E (.ref C) d H'
structure CalX (X : Cx) (k : Nat) (nm : Str) (S : SgX) : Prop where
  rm : Room k X.A
  ex : ∃ f fd ps k0, FnOk X.prog X.w X.K X.mg X.base (L2N.CX X.prog X.w) k0 f fd ps (spOfX X.K S) ∧ k0 ≤ k ∧ X.mg nm = some (.ref f) ∧ PySem.W.keepIn X.K (.ref f) = true ∧ Binds X.K fd ps []
theorem CalX.mono {X : Cx} {j k : Nat} {nm : Str} {S : SgX} (h : CalX X j nm S) (e : j ≤ k) (rm : Room k X.A) : CalX X k nm S :=
  let ⟨f, fd, ps, k0, a, b, c⟩ := h.ex; ⟨rm, f, fd, ps, k0, a, Nat.le_trans b e, c⟩
section
variable {X : Cx} {n : Nm} {c : Cc} {Γ : SL} {e a b : Expr} {x y z : D} {pos p : Pos} {nm : Str} {S : SgX} {es : List Expr}
end
end DL

end
section
set_option Elab.async false
set_option linter.all false
set_option autoImplicit true
set_option maxRecDepth 100000
set_option maxHeartbeats 1000000
/-! except suites: isinstance, fields, calls there; try .. except X as n -/
namespace DL
open PySem L2
open PyProof.Rows hiding St
end DL
namespace PySem.W
open PySem PySem.Spec PySem.Calls PyProof.Rows
section
variable {prog : Program} {w : World} {A : Around} {E : Value → Shared → Prop} {s : Shared} {K : Frag} {x D : Addr} {ox : Obj} {od : Option Obj}
end
end PySem.W
namespace DL
open PySem L2
open PyProof.Rows hiding St
/-- a class by its name: an own one or a built-in one -/
structure KCls (X : Cx) (nm : Str) (cv : Value) : Prop where
  nm : (∃ C, X.mg nm = some (.ref C) ∧ cv = .ref C) ∨ (X.mg nm = none ∧ ∃ T, bootBuiltins nm = some (.type T) ∧ cv = .type T)
section
variable {X : Cx} {n : Nm} {c : Cc} {Γ : SL} {e : Expr} {es : List Expr} {x : D} {pos p p1 p2 : Pos} {nm en cn : Str} {a C : Addr} {d : Option Addr} {fs : List (Str × D)} {cv : Value} {b : Bool} {De : DE}
end
/-! ### defs called in a suite with the exception -/
section
variable {X : Cx} {n : Nm} {c : Cc} {Γ : SL} {e : Expr} {es : List Expr} {x : D} {pos p p1 p2 : Pos} {nm en cn : Str} {a C : Addr} {d : Option Addr} {fs : List (Str × D)} {cv : Value} {b : Bool} {De : DE} {S : Addr → Bool → Prop}
end
/-! ### try .. except X as n -/
abbrev Nm.ht (n : Nm) : Nm := { n with hot := true }
abbrev Cc.xws (c : Cc) (f : Addr → List (Str × D) → List Slot → Prop) : Cc := { c with xw := f }
abbrev Cc.tr (c : Cc) (R : Hp) (f : Addr → List (Str × D) → List Slot → Prop) : Cc := { c with R0 := R, xw := f }
abbrev Cc.nox (c : Cc) : Cc := c.xws fun _ _ _ => False
def DE.at (De : DE) (i : Nat) : DE where
  nx := fun Γ => De.nx (Γ.set i .no)
  rt := De.rt
  bk := fun Γ => De.bk (Γ.set i .no)
  ct := fun Γ => De.ct (Γ.set i .no)
section
variable {K : PySem.W.Frag} {c : Cc} {Γ : SL} {σ : L2.St} {R H : Hp} {f : Addr → List (Str × D) → List Slot → Prop}
theorem SOk.xws (s : SOk K c Γ σ R H) : SOk K (c.xws f) Γ σ R H := ⟨s.rh, s.r0, s.hm, s.pr, s.un, s.len, fun i x e => by
  obtain ⟨o, h1, h2⟩ := s.sl i x e
  refine ⟨o, h1, ?_⟩
  cases x <;> exact h2, s.dj, s.oi⟩
theorem SOk.unxws (s : SOk K (c.xws f) Γ σ R H) : SOk K c Γ σ R H := ⟨s.rh, s.r0, s.hm, s.pr, s.un, s.len, fun i x e => by
  obtain ⟨o, h1, h2⟩ := s.sl i x e
  refine ⟨o, h1, ?_⟩
  cases x <;> exact h2, s.dj, s.oi⟩
theorem VOk.unxws {r : Res} {v : V} (s : VOk K (c.xws f) Γ σ R H r v) : VOk K c Γ σ R H r v := by cases r <;> exact s
theorem SOk.tr (s : SOk K c Γ σ R H) : SOk K (c.tr R f) Γ σ R H := ⟨s.rh, Ex.refl _, s.hm, s.pr, fun _ _ h => h, s.len, fun i x e => by
  obtain ⟨o, h1, h2⟩ := s.sl i x e
  refine ⟨o, h1, ?_⟩
  cases x <;> exact h2, s.dj, s.oi⟩
theorem SOk.untr {Γ0 : SL} {σ0 : L2.St} {R0 H0 : Hp} (s : SOk K (c.tr R0 f) Γ σ R H) (s0 : SOk K c Γ0 σ0 R0 H0) : SOk K c Γ σ R H := ⟨s.rh, s0.r0.trans s.r0, s.hm, s.pr, fun a h1 h2 => s.un a h1 (s0.un a h1 h2), s.len, fun i x e => by
  obtain ⟨o, h1, h2⟩ := s.sl i x e
  refine ⟨o, h1, ?_⟩
  cases x <;> exact h2, s.dj, s.oi⟩
theorem VOk.untr {R0 : Hp} {r : Res} {v : V} (s : VOk K (c.tr R0 f) Γ σ R H r v) : VOk K c Γ σ R H r v := by cases r <;> exact s
theorem EndsOk.tr {De : DE} {E : Ends} (h : EndsOk K c R De E) (s0 : SOk K c Γ σ R H) : EndsOk K (c.tr R f) R De E :=
  ⟨fun σ R' H Γ s => h.nx σ R' H Γ (s.untr s0), fun v σ R' H Γ r s e ro => h.rt v σ R' H Γ r (s.untr s0) e ro.untr, fun σ R' H Γ s => h.bk σ R' H Γ (s.untr s0), fun σ R' H Γ s => h.ct σ R' H Γ (s.untr s0)⟩
theorem EndsOk.xws {De : DE} {E : Ends} (h : EndsOk K c R De E) : EndsOk K (c.xws f) R De E :=
  ⟨fun σ R' H Γ s => h.nx σ R' H Γ s.unxws, fun v σ R' H Γ r s e ro => h.rt v σ R' H Γ r s.unxws e ro.unxws, fun σ R' H Γ s => h.bk σ R' H Γ s.unxws, fun σ R' H Γ s => h.ct σ R' H Γ s.unxws⟩
end
section
variable {X : Cx} {n : Nm} {c : Cc} {Γ : SL} {nm en cn : Str} {cv : Value} {De : DE} {body suite : List Stmt} {b₀ : Stmt} {np pos pos' : Pos}
end
end DL

end
section
set_option Elab.async false
set_option linter.all false
set_option autoImplicit true
set_option maxRecDepth 100000
set_option maxHeartbeats 1000000
/-! own __init__s with one field, with two; class facts -/
namespace DL
open PySem L2 NdefX
open PyProof.Rows hiding St
section
variable {P : Program} {w : World} {K : PySem.W.Frag} {mg : Str → Option Value} {base : Heap}
end
/-! ### in a try's body, in its suite -/
section
variable {X : Cx} {pn : List (Addr × Obj)} {xe : Value → Shared → Prop} {k : Nat} {nm : Str} {a : Addr}
theorem CalF.tr {S : Sg} (h : CalF X k nm S) : CalF (X.tr pn xe) k nm S := ⟨h.rm, h.ex⟩
theorem CalX.tr {S : SgX} (h : CalX X k nm S) : CalX (X.tr pn xe) k nm S := ⟨h.rm, h.ex⟩
theorem Blt.tr {f : Value} (h : Blt X nm f) : Blt (X.tr pn xe) nm f := ⟨h.mg, h.bt⟩
theorem Con.tr {x : D} (h : Con X nm x) : Con (X.tr pn xe) nm x := ⟨h.ex⟩
end
/-! ### class facts -/
/-- an own class that a name stands for -/
structure ClsAt (K : PySem.W.Frag) (mg : Str → Option Value) (nm : Str) (C : Addr) : Prop where
  m : mg nm = some (.ref C)
  hd : PySem.W.hasDictIn K C = true
  ty : PySem.W.typeIn K (.ref C) = some (.type "type")
theorem ClsAt.k {X : Cx} {nm : Str} {C : Addr} (h : ClsAt X.K X.mg nm C) : KCls X nm (.ref C) := ⟨.inl ⟨C, h.m, rfl⟩⟩
/-- a class of errors: its instances may be asked for their class and fields -/
structure ErrC (K : PySem.W.Frag) (mg : Str → Option Value) (nm : Str) (fns : List Str) (C : Addr) : Prop where
  m : mg nm = some (.ref C)
  e : ExcC K C
  ve : PySem.W.kitOne K (.ref C) (.type "ValueError") = some true
  no : ∀ f ∈ fns, PySem.W.findIn K (.ref C) f = some none
/-- what the top has written of a class of errors with its own __init__ -/
structure RaiseAt (P : Program) (K : PySem.W.Frag) (mg : Str → Option Value) (nm qual : Str) (st : Stmt) (ps fns : List Str) where
  C : Addr
  fI : Addr
  cc : Addr
  cda : Addr
  fd : FuncData
  e : ErrC K mg nm fns C
  S : SupC P K mg C fI cc cda
  iC : PySem.W.findIn K (.ref C) "__init__" = some (some (.ref fI))
  tI : PySem.W.typeIn K (.ref fI) = some (.type "function")
  lk : ∃ (oc kV doc pm ctv : Value) (od an : Option Addr) (osl : Array (Option Value)), fd = PySem.W.fnX "__init__" qual (defArgs st) (defBody st) (defScope st) [(("__class__" : Str), cc)] .none kV doc pm an (.ref cda) ctv ∧ K.lookup fI = some ⟨oc, od, .func fd, osl⟩
  cd : PySem.W.codeIn K (.ref cda) qual = true
  b : Binds K fd ps []
theorem RaiseAt.k {P : Program} {K : PySem.W.Frag} {mg : Str → Option Value} {nm qual : Str} {st : Stmt} {ps fns : List Str} (R : RaiseAt P K mg nm qual st ps fns) : ClsAt K mg nm R.C := ⟨R.e.m, R.e.e.hd, R.S.T.tyC⟩
section
variable {X : Cx} {n : Nm} {c : Cc} {Γ : SL} {e b : Expr} {pos ap : Pos}
end
end DL

end
section
set_option Elab.async false
set_option linter.all false
set_option autoImplicit true
set_option maxRecDepth 100000
set_option maxHeartbeats 1000000
/-! the head by one kernel run, its facts by names -/
namespace DL
open PySem L2 NdefX He
open PyProof.Rows hiding St
theorem all_at {l : List Bool} (h : l.all id = true) (i : Nat) {b : Bool} (e : l[i]? = some b := by rfl) : b = true := List.all_eq_true.mp h b (List.mem_of_getElem? e)
/-! ### a class of errors -/
structure InD where
  nm : Str
  qual : Str
  st : Stmt
  ps : List Str
  fns : List Str
abbrev InV : Type := Option (Str × Str × Arguments × FuncBody × Scope × Addr × Value × Addr × List Str)
def inObs (K : PySem.W.Frag) (nm : Str) : InV := match K.lookup (ma K (ga K nm) "__init__") with
  | some ⟨_, _, .func fd, _⟩ => some (fd.name, fd.qualname, fd.params, fd.body, fd.scope, fd.globals, fd.defaults, fd.builtins, fd.closure.map (·.1))
  | _ => none
def InD.val (e : InD) : InV := some (("__init__" : Str), e.qual, defArgs e.st, .stmts (defBody e.st), defScope e.st, mainGlobals, .none, builtinsNs, [("__class__" : Str)])
def clsB (K : PySem.W.Frag) (C : Addr) : Bool := match K.lookup C with
  | some ⟨.type "type", _, .cls cd, sl⟩ => (match cd.mro, sl.toList with
    | .ref C' :: bm, [_, _, _, _, some (.builtin n), _] => C' == C && (n == "ValueError.__new__" && (!cd.hasDel && (cd.hasDict && PySem.HandSPX.refsVE bm)))
    | _, _ => false)
  | _ => false
def ccAd (K : PySem.W.Frag) (f : Addr) : Addr := match K.lookup f with
  | some ⟨_, _, .func fd, _⟩ => (match fd.closure with
    | [(_, c)] => c
    | _ => 0)
  | _ => 0
def cdAd (K : PySem.W.Frag) (f : Addr) : Value := match K.lookup f with
  | some ⟨_, _, .func fd, _⟩ => fd.code
  | _ => .none
def cellB (K : PySem.W.Frag) (c C : Addr) : Bool := match K.lookup c with
  | some ⟨_, _, .cell (some (.ref D)), _⟩ => decide (D = C)
  | _ => false
def codeB (mf : Str) (K : PySem.W.Frag) (v : Value) : Bool := match v with
  | .ref c => (match K.lookup c with
    | some ⟨_, _, .fields vs, _⟩ => (match (vs[2]? : Option Value) with
      | some (.str f _) => mf == f
      | _ => false)
    | _ => false)
  | _ => false
def exL (mf : Str) (K : PySem.W.Frag) (e : InD) : List Bool :=
  [eqO (PySem.W.nsIn K mainGlobals e.nm) (some (some (.ref (ga K e.nm)))), clsB K (ga K e.nm), eqO (PySem.W.findIn K (.ref (ga K e.nm)) "__init__") (some (some (.ref (ma K (ga K e.nm) "__init__")))),
    eqO (PySem.W.findIn K (.ref (ga K e.nm)) "__getattribute__") (some (some (.builtin "BaseException.__getattribute__"))), eqO (PySem.W.findIn K (.ref (ga K e.nm)) "__getattr__") (some none), decide (PySem.W.subIn K (.ref (ga K e.nm)) (.type "BaseException") = some true),
    PySem.W.hasDictIn K (ga K e.nm), eqO (PySem.W.findIn K (.ref (ga K e.nm)) "__class__") (some (some (.builtin "object.__class__"))), eqO (PySem.W.specialIn K (.builtin "object.__class__") "__get__") (some (some (.builtin "getset_descriptor.__get__"))),
    decide (PySem.W.takesIn K (.builtin "object.__class__") = some true), decide (PySem.W.mroIn K (ga K e.nm) (.type "object") = some true), decide (PySem.W.subIn K (.ref (ga K e.nm)) (.type "ValueError") = some true),
    eqO (PySem.W.findIn K (.ref (ga K e.nm)) "__setattr__") (some (some (.builtin "object.__setattr__"))), decide (PySem.W.typeIn K (.ref (ga K e.nm)) = some (.type "type")), PySem.W.keepIn K (.ref (ga K e.nm)),
    cellB K (ccAd K (ma K (ga K e.nm) "__init__")) (ga K e.nm), codeB mf K (cdAd K (ma K (ga K e.nm) "__init__")), decide (PySem.W.mroIn K (ga K e.nm) (.ref (ga K e.nm)) = some true), eqO (PySem.W.nsIn K mainGlobals "super") (some none), eqO (PySem.W.nsIn K cStatics "thirdparty.any") (some none),
    eqO (PySem.W.ks_superIn K (ga K e.nm) (ga K e.nm) "__init__") (some (some (.builtin "ValueError.__init__"))), decide (PySem.W.typeIn K (.ref (ma K (ga K e.nm) "__init__")) = some (.type "function")), PySem.W.codeIn K (cdAd K (ma K (ga K e.nm) "__init__")) e.qual,
    e.fns.all fun f => eqO (PySem.W.findIn K (.ref (ga K e.nm)) f) (some none)]
/-! ### facts by names -/
inductive Fx where
  | fa (f : Fa)
  | cls (x : Str)
  | sub (x y : Str) (b : Bool)
  | bex (x : Str)
  | qd (x : Str) (i j : Int)
  | ci (x : Str) (i : Int)
  | ct (x t : Str)
def numB (K : PySem.W.Frag) (x : Str) (i : Int) : Bool := match PySem.W.nsIn K mainGlobals x with
  | some (some (.int j _)) => decide (j = i)
  | _ => false
def txtB (K : PySem.W.Frag) (x t : Str) : Bool := match PySem.W.nsIn K mainGlobals x with
  | some (some (.str s _)) => decide (s = t)
  | _ => false
def Fx.ok (K : PySem.W.Frag) : Fx → Bool
  | .fa f => f.ok K
  | .cls x => [eqO (PySem.W.nsIn K mainGlobals x) (some (some (.ref (ga K x)))), PySem.W.hasDictIn K (ga K x), decide (PySem.W.typeIn K (.ref (ga K x)) = some (.type "type"))].all id
  | .sub x y b => decide (PySem.W.subIn K (.ref (ga K x)) (.ref (ga K y)) = some b)
  | .bex x => decide (PySem.W.subIn K (.ref (ga K x)) (.type "BaseException") = some true)
  | .qd x i j => [eqO (PySem.W.nsIn K mainGlobals x) (some (some (.ref (ga K x)))), tupB K x [.int i, .int j]].all id
  | .ci x i => numB K x i
  | .ct x t => txtB K x t
theorem fx_ci {K : PySem.W.Frag} {h : Heap} {mg : Str → Option Value} (X : K.In h) (G : h.Ns mainGlobals mg) {x : Str} {i : Int} (c : (Fx.ci x i).ok K = true) : ∃ v u, mg x = some u ∧ RelV v u ∧ ∀ R, Rp K R (.int i) v := by
  have c : numB K x i = true := c
  unfold numB at c
  split at c
  · next j t e =>
    cases of_decide_eq_true c
    exact ⟨.int i, _, PySem.W.mg_of X G e, ⟨t, rfl⟩, fun R => rfl⟩
  · cases c
theorem fx_ct {K : PySem.W.Frag} {h : Heap} {mg : Str → Option Value} (X : K.In h) (G : h.Ns mainGlobals mg) {x s : Str} (c : (Fx.ct x s).ok K = true) : ∃ v u, mg x = some u ∧ RelV v u ∧ ∀ R, Rp K R (.str s) v := by
  have c : txtB K x s = true := c
  unfold txtB at c
  split at c
  · next j t e =>
    cases of_decide_eq_true c
    exact ⟨.str s, _, PySem.W.mg_of X G e, ⟨t, rfl⟩, fun R => rfl⟩
  · cases c
theorem fx_free {K : PySem.W.Frag} {h : Heap} {mg : Str → Option Value} (X : K.In h) (G : h.Ns mainGlobals mg) {x : Str} (c : (Fx.fa (.free x)).ok K = true) : mg x = none := He.free_ok X G (x := x) c
/-! ### the Hook -/
structure TopD where
  mf : Str
  nm : List Str
  fx : List Fx
  fn : List FnD
  ex : List InD
abbrev AlX : Type := Bool × List FnV × List InV
def obsX (T : TopD) (K : PySem.W.Frag) : AlX := ([T.fx.all fun f => f.ok K, T.fn.all fun d => (Fa.code d.at_ d.qual).ok K && PySem.W.keepIn K (.ref (fAd K d.at_)), T.ex.all fun e => (exL T.mf K e).all id].all id, T.fn.map fun d => fnObs K d.at_, T.ex.map fun e => inObs K e.nm)
def valX (T : TopD) : AlX := (true, T.fn.map FnD.val, T.ex.map InD.val)
def SaysX (T : TopD) (K : PySem.W.Frag) : Prop := obsX T K = valX T
/-- what an object at a names -/
def refsAt (g : Addr → Option Obj) (a : Addr) : List Addr := match g a with
  | some o => refsD o
  | none => []
/-- the addresses of the names, what they name; of the classes of errors what their __init__ names -/
def asX (g : Addr → Option Obj) (nms exs : List Str) : List Addr :=
  cStatics :: mainGlobals :: ((nms.map (ga (frG g [mainGlobals]))) ++ ((nms.map (ga (frG g [mainGlobals]))).flatMap (refsAt g) ++ (((exs.map (ga (frG g [mainGlobals]))).flatMap (refsAt g)).flatMap (refsAt g) ++ (((exs.map (ga (frG g [mainGlobals]))).flatMap (refsAt g)).flatMap (refsAt g)).flatMap (refsAt g))))
def KX (T : TopD) (g : Addr → Option Obj) : PySem.W.Frag := frG g (asX g T.nm (T.ex.map (·.nm)))
def obsXG (T : TopD) (g : Addr → Option Obj) : AlX := obsX T (KX T g)
def hookX (T : TopD) : PySem.W.Hook where
  α := AlX
  obs := fun s => obsXG T s.heap.get?
  val := fun _ => valX T
  says := fun _ h => ∃ K : PySem.W.Frag, K.In h ∧ SaysX T K
  of := fun _ _ e => ⟨_, frG_in, e⟩
  keeps := fun _ _ _ ⟨K, hK, c⟩ k => ⟨K, PySem.W.Frag.In.keeps hK k, c⟩
theorem obsXG_eq {T : TopD} {g : Addr → Option Obj} {s : Shared} (h : ∀ a, g a = s.heap.get? a) : obsXG T g = (hookX T).obs s := by
  have e : g = s.heap.get? := funext h
  rw [e] <;> rfl
/-! ### the run in pieces: each piece runs anew -/
def obFx (T : TopD) (l : List Fx) (s : PySem.W.SharedT) : Bool := l.all fun f => f.ok (KX T (HandSHeadRun.getT s))
def obFn (T : TopD) (l : List FnD) (s : PySem.W.SharedT) : Bool × List FnV := (l.all fun d => (Fa.code d.at_ d.qual).ok (KX T (HandSHeadRun.getT s)) && PySem.W.keepIn (KX T (HandSHeadRun.getT s)) (.ref (fAd (KX T (HandSHeadRun.getT s)) d.at_)), l.map fun d => fnObs (KX T (HandSHeadRun.getT s)) d.at_)
def obEx (T : TopD) (l : List InD) (s : PySem.W.SharedT) : Bool × List InV := (l.all fun e => (exL T.mf (KX T (HandSHeadRun.getT s)) e).all id, l.map fun e => inObs (KX T (HandSHeadRun.getT s)) e.nm)
open PySem.W PySem.Calls in
noncomputable abbrev endS (r : OpenRow) (M : Nat) (w : World) (os : OsState) : Option SharedT := HandSHeadRun.endF (HandSHeadRun.stepQ (HandSHeadRun.denQ HandSHeadRun.tabQ) r.prog w) M r.prog w os
open PySem.W PySem.Calls in
noncomputable abbrev lookS (r : OpenRow) (q : Program) (loose : List PySem.Str) (w : World) (s : SharedT) := (HandSHeadRun.looksF r.prog (boot_heap w.params) s.abs, HandSHeadRun.seenQ q loose (importedModules r.prog.main.body) (fun s => xlAt q [] s && recOk r.toRowW.records s) s.abs)
theorem ob3 {a : Bool} {α β : Type} {x : α} {y : β} {b c : Bool} (h1 : a = true) (h2 : b = true) (h3 : c = true) : ([a, b, c].all id, x, y) = (true, x, y) := by subst h1 h2 h3; rfl
open PySem.W PySem.Calls in
theorem run_split {r : OpenRow} {q : Program} {T : TopD} {M : Nat} {loose : List PySem.Str} {w : World} {fA fB : List Fx} (hf : T.fx = fA ++ fB)
    (h0 : ∀ os : OsState, (endS r M w os).map (lookS r q loose w) = some (true, openGood q loose)) (hA : ∀ os : OsState, (endS r M w os).map (obFx T fA) = some true) (hB : ∀ os : OsState, (endS r M w os).map (fun s => (obFx T fB s, obFn T T.fn s, obEx T T.ex s)) = some (true, (true, T.fn.map FnD.val), (true, T.ex.map InD.val))) :
    HandSHeadRun.RunEq r q (hookX T) (fun s => obsXG T (HandSHeadRun.getT s)) M loose w := fun os => by
  obtain ⟨s, hs, p0⟩ := Option.map_eq_some_iff.mp (h0 os)
  have e1 := hA os
  have e2 := hB os
  rw [hs] at e1 e2
  have e1 : obFx T fA s = true := Option.some.inj e1
  have e2 : (obFx T fB s, obFn T T.fn s, obEx T T.ex s) = (true, (true, T.fn.map FnD.val), (true, T.ex.map InD.val)) := Option.some.inj e2
  have a1 : obFx T fB s = true := congrArg (fun z => z.1) e2
  have a2 : obFn T T.fn s = (true, T.fn.map FnD.val) := congrArg (fun z => z.2.1) e2
  have a3 : obEx T T.ex s = (true, T.ex.map InD.val) := congrArg (fun z => z.2.2) e2
  have b0 : (T.fx.all fun f => f.ok (KX T (HandSHeadRun.getT s))) = true := by
    rw [hf, List.all_append]
    exact Bool.and_eq_true_iff.mpr ⟨e1, a1⟩
  have b1 := congrArg (fun z => z.1) a2
  have b2 := congrArg (fun z => z.2) a2
  have b3 := congrArg (fun z => z.1) a3
  have b4 := congrArg (fun z => z.2) a3
  have eo : obsXG T (HandSHeadRun.getT s) = valX T := by
    refine (ob3 b0 b1 b3).trans ?_
    exact congrArg (Prod.mk true) (Prod.ext b2 b4)
  have hp1 := congrArg (fun z => z.1) p0
  have hp2 := congrArg (fun z => z.2) p0
  show (endS r M w os).map _ = _
  rw [hs]
  exact congrArg some (Prod.ext hp1 (Prod.ext hp2 eo))
open PySem.W PySem.Calls in
theorem run_nil {r : OpenRow} {q : Program} {T : TopD} {M : Nat} {loose : List PySem.Str} {w : World} (h0 : ∀ os : OsState, (endS r M w os).map (lookS r q loose w) = some (true, openGood q loose)) : ∀ os : OsState, (endS r M w os).map (obFx T []) = some true := fun os => by
  obtain ⟨s, hs, _⟩ := Option.map_eq_some_iff.mp (h0 os)
  rw [hs]; rfl
section
variable {T : TopD} {K : PySem.W.Frag}
theorem SaysX.fact (c : SaysX T K) (i : Nat) {f : Fx} (h : T.fx[i]? = some f := by rfl) : f.ok K = true := by
  have c1 := all_at (show [T.fx.all fun f => f.ok K, T.fn.all fun d => (Fa.code d.at_ d.qual).ok K && PySem.W.keepIn K (.ref (fAd K d.at_)), T.ex.all fun e => (exL T.mf K e).all id].all id = true from congrArg (fun z : AlX => z.1) c) 0
  exact List.all_eq_true.mp c1 f (List.mem_of_getElem? h)
theorem SaysX.def_ (c : SaysX T K) (i : Nat) {x : Str} {st : Stmt} (h : T.fn[i]? = some ⟨(x, none), x, x, defArgs st, defBody st, defScope st⟩ := by rfl) : ∃ fd, Fun K x x st (ga K x) fd := by
  have c1 := all_at (show [T.fx.all fun f => f.ok K, T.fn.all fun d => (Fa.code d.at_ d.qual).ok K && PySem.W.keepIn K (.ref (fAd K d.at_)), T.ex.all fun e => (exL T.mf K e).all id].all id = true from congrArg (fun z : AlX => z.1) c) 1
  have c2 := Bool.and_eq_true_iff.mp (List.all_eq_true.mp c1 _ (List.mem_of_getElem? h))
  have e : T.fn.map (fun d => fnObs K d.at_) = T.fn.map FnD.val := congrArg (fun z : AlX => z.2.1) c
  have e2 : (T.fn.map fun d => fnObs K d.at_)[i]? = (T.fn.map FnD.val)[i]? := by rw [e]
  rw [List.getElem?_map, List.getElem?_map, h] at e2
  obtain ⟨oc, od, osl, kV, doc, pm, an, cdv, ct, lk, hcd⟩ := He.fn_ok (Option.some.inj e2) c2.1
  exact ⟨_, ⟨oc, od, kV, doc, pm, an, cdv, ct, osl, rfl, lk, hcd⟩, c2.2⟩
theorem SaysX.err (c : SaysX T K) (i : Nat) {e : InD} (h : T.ex[i]? = some e := by rfl) : inObs K e.nm = e.val ∧ (exL T.mf K e).all id = true := by
  have c1 := all_at (show [T.fx.all fun f => f.ok K, T.fn.all fun d => (Fa.code d.at_ d.qual).ok K && PySem.W.keepIn K (.ref (fAd K d.at_)), T.ex.all fun e => (exL T.mf K e).all id].all id = true from congrArg (fun z : AlX => z.1) c) 2
  have e0 : T.ex.map (fun e => inObs K e.nm) = T.ex.map InD.val := congrArg (fun z : AlX => z.2.2) c
  have e2 : (T.ex.map fun e => inObs K e.nm)[i]? = (T.ex.map InD.val)[i]? := by rw [e0]
  rw [List.getElem?_map, List.getElem?_map, h] at e2
  exact ⟨Option.some.inj e2, List.all_eq_true.mp c1 _ (List.mem_of_getElem? h)⟩
/-- a def as the top has left it -/
noncomputable def defX {h : Heap} {mg : Str → Option Value} (X : K.In h) (G : h.Ns mainGlobals mg) {nm : Str} {st : Stmt} {ps : List Str} (F : ∃ fd, Fun K nm nm st (ga K nm) fd) (g : (Fx.fa (.glo nm)).ok K = true)
    (hb : ∀ (kV doc pm : Value) (an : Option Addr) (cdv ct : Value) (us : List Value), us.length = ps.length → bindArgs (PySem.W.fnOf nm nm (defArgs st) (defBody st) (defScope st) .none kV doc pm an cdv ct) ⟨us, []⟩ = pure (ps.zip us)) : DefAt K mg nm st ps :=
  ⟨ga K nm, Classical.choose F, Classical.choose_spec F, glo_ok X G g, fun us hl => by
    obtain ⟨oc, od, kV, doc, pm, an, cdv, ct, osl, e, _⟩ := (Classical.choose_spec F).ex
    rw [e]; exact hb kV doc pm an cdv ct us hl⟩
end
end DL

end
section
set_option Elab.async false
set_option linter.all false
set_option autoImplicit true
set_option maxRecDepth 10000
set_option maxHeartbeats 400000
/-! the piece in force, the worst error -/
namespace DL
open PySem L2
open PyProof.Rows hiding St
def absQ (q : Rat) : Rat := if q < 0 then -q else q
theorem absQ_nn (q : Rat) : 0 ≤ absQ q := by unfold absQ; grind
theorem neg_num {q : Rat} : q.num < 0 ↔ q < 0 := by
  have := lt_num (a := q) (b := 0)
  simp at this; exact this.symm
/-! ### the piece in force -/
def placeN (c : List Pc) (t : Rat) : Nat := ((c.drop 1).takeWhile fun p => decide (p.1 ≤ t)).length
theorem tw_len {α : Type} {f : α → Bool} : ∀ {l : List α} {i : Nat}, (∀ j x, j < i → l[j]? = some x → f x = true) → i ≤ l.length → (∀ x, l[i]? = some x → f x = false) → (l.takeWhile f).length = i
  | [], i, _, h, _ => by simp at h; subst h; rfl
  | x :: l, 0, _, _, h => by
    rw [List.takeWhile_cons, h x rfl]; rfl
  | x :: l, i + 1, h1, h2, h3 => by
    rw [List.takeWhile_cons, h1 0 x (by omega) rfl]
    simp only [if_true, List.length_cons]
    rw [tw_len (i := i) (fun j y hj hy => h1 (j + 1) y (by omega) (by simpa using hy)) (by simpa using h2) fun y hy => h3 y (by simpa using hy)]
theorem tw_all {α : Type} {f : α → Bool} : ∀ {l : List α} {j : Nat} {x : α}, j < (l.takeWhile f).length → l[j]? = some x → f x = true
  | [], _, _, _, h => by simp at h
  | y :: l, j, x, h1, h2 => by
    rw [List.takeWhile_cons] at h1
    split at h1
    · rename_i hy
      cases j with
      | zero => cases h2; exact hy
      | succ j => exact tw_all (l := l) (by simpa using h1) (by simpa using h2)
    · simp at h1
theorem tw_stop {α : Type} {f : α → Bool} : ∀ {l : List α} {x : α}, l[(l.takeWhile f).length]? = some x → f x = false
  | [], _, h => by simp at h
  | y :: l, x, h => by
    rw [List.takeWhile_cons] at h
    split at h
    · exact tw_stop (l := l) (by simpa using h)
    · rename_i hy; simp at h; subst h; simpa using hy
theorem tw_le {α : Type} {f : α → Bool} (l : List α) : (l.takeWhile f).length ≤ l.length := (List.takeWhile_prefix f).length_le
theorem place_eq {c : List Pc} {t : Rat} {i : Nat} (h1 : ∀ j p, 0 < j → j ≤ i → c[j]? = some p → p.1 ≤ t) (h2 : i + 1 ≤ c.length) (h3 : ∀ p, c[i + 1]? = some p → t < p.1) : placeN c t = i := by
  unfold placeN
  refine tw_len (fun j x hj hx => ?_) (by rw [List.length_drop]; omega) fun x hx => ?_
  · rw [List.getElem?_drop] at hx
    exact decide_eq_true (h1 (1 + j) x (by omega) (by omega) hx)
  · rw [List.getElem?_drop, Nat.add_comm] at hx
    exact decide_eq_false (fun z => absurd (h3 x hx) (by grind))
/-- what it says, of a course that has begun -/
theorem place_at {c : List Pc} {t : Rat} {p0 : Pc} (ha : Asc c) (h0 : c[0]? = some p0) (hs : p0.1 ≤ t) : ∃ p, c[placeN c t]? = some p ∧ p.1 ≤ t ∧ ∀ q, c[placeN c t + 1]? = some q → t < q.1 := by
  have hl : placeN c t ≤ (c.drop 1).length := tw_le _
  have hlen : 0 < c.length := (List.getElem?_eq_some_iff.mp h0).1
  rw [List.length_drop] at hl
  have e := atB (xs := c) (i := placeN c t) (by omega)
  generalize c[placeN c t] = p at e
  refine ⟨p, e, ?_, fun q hq => ?_⟩
  · cases hp : placeN c t with
    | zero => rw [hp] at e; rw [h0] at e; cases e; exact hs
    | succ j =>
      have e2 : (c.drop 1)[j]? = some p := by rw [List.getElem?_drop, Nat.add_comm, ← hp]; exact e
      have := tw_all (f := fun p : Pc => decide (p.1 ≤ t)) (l := c.drop 1) (j := j) (by show j < placeN c t; omega) e2
      exact of_decide_eq_true this
  · have e2 : (c.drop 1)[((c.drop 1).takeWhile fun p : Pc => decide (p.1 ≤ t)).length]? = some q := by
      rw [List.getElem?_drop, Nat.add_comm]; exact hq
    have := of_decide_eq_false (tw_stop (f := fun p : Pc => decide (p.1 ≤ t)) e2)
    grind
/-! ### the worst error -/
theorem sz_zero {k : Nat} : Sz (k + 1) 0 := ⟨Nat.pow_pos (by decide), Nat.one_lt_two_pow (by omega)⟩
/-! ### the law's distances -/
section
variable {c : List Pc} {s e vs ve : Rat} {p0 : Pc}
end
/-! ### q not in qs -/
section
variable {X : Cx} {n : Nm} {c : Cc} {Γ : SL} {a b : Expr} {pos : Pos} {k l : AK} {q : Rat} {qs : List Rat}
end
theorem same_of {Q : Res → List OB → Prop} {v d : DL.D} {b : Bool} (e : v = d) (hb : b = true ↔ v = d) (z : Q (.d (.bl true)) []) : Q (.d (.bl b)) [] := by
  have := hb.mpr e
  subst this; exact z
section
variable {X : Cx} {n : Nm} {c : Cc} {Γ : SL} {a b d : Expr} {k l m : AK} {ps : List Par} {S : Sg} {nm : Str} {p pos : Pos}
end
end DL

end
section
set_option Elab.async false
set_option linter.all false
set_option autoImplicit true
set_option maxRecDepth 10000
set_option maxHeartbeats 400000
namespace DL
open PySem L2
/-! ### is True, is not True -/
section
variable {X : Cx} {n : Nm} {c : Cc} {Γ : SL} {a b : Expr} {pos : Pos} {k l : AK} {p q : Bool}
theorem dop_notB : DOp X n c (compareOp .IsNot) (fun x y Post => ∃ a b : Bool, x = .bl a ∧ y = .bl b ∧ Post (.bl (!decide (a = b)))) := fun _ => ⟨_, op_notBl, fun Γ σ R H x y v w Post s hx hy ⟨a, b, e1, e2, p⟩ Q q => by
  subst e1 e2
  exact ⟨a, b, hx.bl, hy.bl, q (.bl (!decide (a = b))) R H (.bl (!decide (a = b))) s (Ex.refl _) rfl p⟩⟩
theorem et_notB (ha : EV X n c Γ a (.bl p)) (hb : EV X n c Γ b (.bl q)) (hm : behindInMarks .IsNot b = false := by first | exact nomark _ | rfl) : ET X n c Γ (.Compare a [.IsNot] [b] pos) (!decide (p = q)) := et_cmp dop_notB (ek_d ha) (ek_d hb) (fun _ z => ⟨p, q, rfl, rfl, z⟩) rfl rfl hm
end
/-! ### sizes -/
theorem Sz.inv {k : Nat} {q : Rat} (h : Sz k q) (h0 : q ≠ 0) : Sz (8 * k) q⁻¹ := by
  have e : q⁻¹ = fr (q.den : Int) q.num := fr_inv.symm
  rw [e]
  exact fr_sz ((show Bt (8 * k) (q.den : Int) from h.d.mono (by omega)).mono (by omega)) h.n (fun z => h0 (Rat.num_eq_zero.mp z))
theorem szPart {q : Rat} (h : PPart q) : Sz 6 q := Sd.sz h (by decide) (show 60 < 2 ^ 6 by decide) (by decide)
theorem szSpare {q : Rat} (h : PSpare q) : Sz 6 q := Sd.sz h.1 (by decide) (show 60 < 2 ^ 6 by decide) (by decide)
theorem szPace {q : Rat} (h : PPace q) : Sz 15 q := Sd.sz h.1 (by decide) (show 27720 < 2 ^ 15 by decide) (by decide)
/-! ### the elapsed time -/
def Betw (lo top g d : Rat) : Prop := (0 ≤ g → lo * g ≤ d ∧ d ≤ top * g) ∧ (g ≤ 0 → top * g ≤ d ∧ d ≤ lo * g)
theorem Betw.neg {lo top g d : Rat} (h : Betw lo top g d) : Betw lo top (-g) (-d) := ⟨fun z => by
  have := h.2 (by grind); grind, fun z => by
  have := h.1 (by grind); grind⟩
/-! ### a course of steady rates -/
def Stdy (c : List Pc) : Prop := ∀ (i : Nat) (p q : Pc), c[i]? = some p → c[i + 1]? = some q → q.2.1 = pline p q.1
def Rates (lo top : Rat) (c : List Pc) : Prop := ∀ p ∈ c, ¬ p.2.2 < lo ∧ ¬ top < p.2.2
theorem Asc.first {c : List Pc} (ha : Asc c) {p0 p : Pc} {i : Nat} (h0 : c[0]? = some p0) (h : c[i]? = some p) : p0.1 ≤ p.1 := by
  cases i with
  | zero => rw [h0] at h; cases h; exact Rat.le_refl
  | succ i => exact Rat.le_of_lt (asc_lt ha h0 h (by omega))
theorem Stdy.snoc {c : List Pc} {p : Pc} (h : Stdy c) (hp : ∀ q, c[c.length - 1]? = some q → c ≠ [] → p.2.1 = pline q p.1) : Stdy (c ++ [p]) := by
  intro i a b h1 h2
  have hl := (List.getElem?_eq_some_iff.mp h2).1
  rw [List.length_append] at hl
  have hl : i + 1 < c.length + 1 := hl
  rw [List.getElem?_append_left (by omega)] at h1
  by_cases z : i + 1 < c.length
  · rw [List.getElem?_append_left z] at h2
    exact h i a b h1 h2
  · have e : i + 1 = c.length := by omega
    rw [e, List.getElem?_append_right (Nat.le_refl _), Nat.sub_self] at h2
    cases h2
    exact hp a (by rw [show c.length - 1 = i by omega]; exact h1) (fun z => by rw [z] at e; simp at e)
theorem Rates.snoc {lo top : Rat} {c : List Pc} {p : Pc} (h : Rates lo top c) (hp : ¬ p.2.2 < lo ∧ ¬ top < p.2.2) : Rates lo top (c ++ [p]) := fun q hq => by
  rcases List.mem_append.mp hq with hq | hq
  · exact h q hq
  · have : q = p := by simpa using hq
    subst this; exact hp
theorem Cz.snoc {s t r : Nat} {c : List Pc} {p : Pc} (h : Cz s t r c) (hp : Sz s p.1 ∧ Sz t p.2.1 ∧ Sz r p.2.2) : Cz s t r (c ++ [p]) := fun q hq => by
  rcases List.mem_append.mp hq with hq | hq
  · exact h q hq
  · have : q = p := by simpa using hq
    subst this; exact hp
theorem fr_div {n d : Int} : fr n d = (n : Rat) / (d : Rat) := Rat.divInt_eq_div n d
end DL

end
section
set_option Elab.async false
set_option linter.all false
set_option autoImplicit true
set_option maxRecDepth 100000
set_option maxHeartbeats 4000000
/-! several except clauses with names; calls with keywords -/
namespace L2
open PySem PySem.Spec PyProof.Rows
section
variable {X : Cx} {n : Str} {i : Nat} {body : List Stmt} {h₀ : ExceptHandler} {hds : List ExceptHandler} {l : List (Value × (Addr → Value → Option Addr → TS))} {pos : Pos} {tb : WX → TS} {Wout : WX}
end
section
variable {X : Cx} {CX : CXT} {k n : Nat} {f : Addr} {fd : FuncData} {ps ks : List Str} {sp : Sp} {E : St → XK} {x : Str} {p pos : Pos} {e : Expr} {es : List Expr} {kws : List Keyword} {t tk : TA} {g : List Value → List Value → List Value} {gV : List V → List V → List V}
end
end L2
namespace DL
open PySem L2
variable {X : Cx} {n : Nm} {c : Cc} {Γ : SL} {nm en cn cn2 : Str} {cv cv2 : Value} {De : DE} {body suite suite2 : List Stmt} {b₀ b₁ : Stmt} {np np2 pos pos' pos2 : Pos}
theorem KCls.names {X : Cx} {cn : Str} {cv : Value} (kc : KCls X cn cv) {n : Nm} {c : Cc} (hn : NOk X n c) (j : Nat) (hj : n.GN[j]? = some cn) : Names X cn cv := by
  obtain ⟨g1, g2, g3⟩ := hn.gl j cn hj
  rcases kc.nm with ⟨C, m1, rfl⟩ | ⟨m1, T, m2, rfl⟩
  · exact ⟨g1, g2, .inl m1⟩
  · exact ⟨g1, g2, .inr ⟨m1, m2, g3⟩⟩
/-! ### calls with keywords -/
structure CalK (X : Cx) (k : Nat) (nm : Str) (m : Nat) (ks : List Str) (S : SgX) : Prop where
  rm : Room k X.A
  ex : ∃ f fd ps k0, FnOk X.prog X.w X.K X.mg X.base (L2N.CX X.prog X.w) k0 f fd ps (spOfX X.K S) ∧ k0 ≤ k ∧ X.mg nm = some (.ref f) ∧ PySem.W.keepIn X.K (.ref f) = true ∧ KBn X.K fd ps m ks (fun us ws => us ++ ws) (fun vs zs => vs ++ zs)
theorem CalK.tr {X : Cx} {k : Nat} {nm : Str} {m : Nat} {ks : List Str} {S : SgX} {pn : List (Addr × Obj)} {xe : Value → Shared → Prop} (h : CalK X k nm m ks S) : CalK (X.tr pn xe) k nm m ks S := ⟨h.rm, h.ex⟩
/-- keywords whose values are data -/
def EKws (X : Cx) (n : Nm) (c : Cc) (Γ : SL) : List Keyword → List D → Prop
  | [], [] => True
  | kw :: r, x :: xs => EV X n c Γ kw.value x ∧ EKws X n c Γ r xs
  | _, _ => False
def tKw (X : Cx) : List Keyword → TA
  | [] => tNil
  | kw :: r => tCons (tW X kw.value) (tKw X r)
theorem EKws.run {X : Cx} {n : Nm} {c : Cc} {Γ : SL} (hn : NOk X n c) {σ : L2.St} : ∀ {kws : List Keyword} {xs : List D} {R H : Hp}, EKws X n c Γ kws xs → SOk X.K c Γ σ R H → ∀ Q : List V → Hp → Prop, (∀ zs R' H', SOk X.K c Γ σ R' H' → Ex R R' → AksOk X.K R' σ (xs.map AK.d) zs → Q zs H') → tKw X kws σ H Q
  | [], [], R, H, _, s, Q, q => q [] R H s (Ex.refl _) rfl
  | kw :: r, x :: xs, R, H, ⟨h1, h2⟩, s, Q, q => h1.run hn σ R H s _ fun v R1 H1 y Γ1 s1 e1 r1 ⟨ey, eg⟩ => by
    subst ey eg
    exact EKws.run hn h2 s1 _ fun zs R2 H2 s2 e2 r2 => q (v :: zs) R2 H2 s2 (e1.trans e2) ⟨v, zs, rfl, Rp.mono e2 _ _ r1, r2⟩
section
variable {X : Cx} {n : Nm} {c : Cc} {Γ : SL} {e : Expr} {es : List Expr} {kws : List Keyword} {nm : Str} {m : Nat} {kns : List Str} {S : SgX} {p pos : Pos}
end
end DL

end
section
set_option Elab.async false
set_option linter.all false
set_option autoImplicit true
set_option maxRecDepth 10000
set_option maxHeartbeats 400000
namespace DL
open PySem L2
/-! ### a steered display's bound, lap by lap -/
def PStep6 (q : Rat) : Prop := PStep q ∧ fr 1 6 ≤ q
def SlewP (s d : Rat) : Prop := 0 < s ∧ s < 1 ∧ 0 ≤ d ∧ d < s ∧ fr 1 160 ≤ s - d ∧ Sz 6 s ∧ Sz 12 d
def GoodB (b h l : Rat) : Prop := ¬ b < 0 ∧ ¬ h < 0 ∧ 0 < l
def BadB (b h l e : Rat) : Prop := (b < 0 ∧ e = b) ∨ (¬ b < 0 ∧ h < 0 ∧ e = h) ∨ (¬ b < 0 ∧ ¬ h < 0 ∧ ¬ 0 < l ∧ e = l)
def GoodS (s d : Rat) : Prop := 0 < s ∧ s < 1 ∧ ¬ d < 0 ∧ d < s
def BadS (s d e : Rat) : Prop := ((¬ 0 < s ∨ ¬ s < 1) ∧ e = s) ∨ (0 < s ∧ s < 1 ∧ (d < 0 ∨ ¬ d < s) ∧ e = d)
structure LA where
  b : Rat
  h : Rat
  l : Rat
  s : Rat
  d : Rat
  g : Rat
def LA.D (a : LA) : DL.D := .lst [qD a.b, qD a.h, qD a.l, qD a.s, qD a.d, qD a.g]
def LA.sz (a : LA) : Prop := Sz 600 a.b ∧ Sz 60 a.h ∧ Sz 60 a.l ∧ Sz 60 a.s ∧ Sz 60 a.d ∧ Sz 250 a.g
def LA.good (a : LA) : Prop := GoodB a.b a.h a.l ∧ GoodS a.s a.d
def behQ (b h l s d : Rat) : Rat := d * l + maxQ (b - s * l) h
def flQ (q : Rat) : Int := q.num.fdiv (q.den : Int)
theorem fl_le (q : Rat) : ((flQ q : Int) : Rat) ≤ q ∧ q < ((flQ q : Int) : Rat) + 1 := by
  have hd := den_pos' q
  have h : flQ q = q.num / (q.den : Int) := fdiv_ediv (by have := q.den_nz; omega)
  have h1 := Int.ediv_mul_le q.num (show (q.den : Int) ≠ 0 by omega)
  have h2 := Int.lt_ediv_add_one_mul_self q.num hd
  rw [← h] at h1 h2
  have le : ∀ m : Int, (m : Rat) ≤ q ↔ m * (q.den : Int) ≤ q.num := fun m => by
    rw [Rat.le_iff, Rat.num_intCast, Rat.den_intCast]; simp
  refine ⟨(le _).mpr h1, ?_⟩
  by_cases z : q < ((flQ q : Int) : Rat) + 1
  · exact z
  · have : (((flQ q + 1 : Int)) : Rat) ≤ q := by
      rw [Rat.intCast_add]
      have e : ((1 : Int) : Rat) = 1 := rfl
      rw [e]; grind
    have := (le _).mp this
    omega
theorem natI (n : Nat) : (((n : Nat) : Int) : Rat) = (n : Rat) := Rat.intCast_natCast n
theorem SlewP.good {s d : Rat} (h : SlewP s d) : GoodS s d := ⟨h.1, h.2.1, by have := h.2.2.1; grind, h.2.2.2.1⟩
def BadL (b h l s d : Rat) (nm : Str) (e : Rat) : Prop := Sz 60 b ∧ Sz 60 h ∧ Sz 60 l ∧ Sz 60 s ∧ Sz 60 d ∧ ((nm = "BadBound" ∧ BadB b h l e) ∨ (nm = "BadRate" ∧ GoodB b h l ∧ BadS s d e))
theorem ep0 {X : Cx} {n : Nm} {c : Cc} {Γ : SL} : EP1 X n c Γ none none := trivial
theorem ep1 {X : Cx} {n : Nm} {c : Cc} {Γ : SL} {e : Expr} {i : Int} (h : EV X n c Γ e (.int i)) : EP1 X n c Γ (some e) (some i) := h
section
variable {X : Cx} {n : Nm} {c : Cc} {Γ : SL} {a b d f h : Expr} {k l m q r : AK} {ps : List Par} {S : Sg} {nm : Str} {p pos : Pos} {z : DL.D}
end
theorem list5 {α : Type} {us : List α} (h : us.length = 5) : ∃ a b c d e, us = [a, b, c, d, e] := by
  match us, h with
  | [a, b, c, d, e], _ => exact ⟨a, b, c, d, e, rfl⟩
def kindOf (i : Nat) : Str := if i < 3 then "BadBound" else "BadRate"
/-- the first wrong argument -/
structure LapInv (m : Nat) (os ws as : List Rat) (due : D) (i : Nat) : Prop where
  len : as.length = 5
  rest : ∀ j, i ≤ j → as[j]? = os[j]?
  due : (due = .tup [] ∧ as = os ∧ ∀ j, j < i → m / 2 ^ j % 2 = 0) ∨ ∃ k w, k < i ∧ k < 5 ∧ ws[k]? = some w ∧ as[k]? = some w ∧ due = .tup [.str (kindOf k), qD w] ∧ ∀ j, j < k → as[j]? = os[j]?
  sz : ∀ q ∈ as, Sz 20 q
theorem LapInv.first {m : Nat} {os ws as : List Rat} {i : Nat} {w : Rat} (h : LapInv m os ws as (.tup []) i) (hi : i < 5) (hw : ws[i]? = some w) (zw : Sz 20 w) : LapInv m os ws (as.set i w) (.tup [.str (kindOf i), qD w]) (i + 1) := by
  have hos : as = os := by
    rcases h.due with ⟨_, h2, _⟩ | ⟨k, w, _, _, _, _, z, _⟩
    · exact h2
    · cases z
  refine ⟨by rw [List.length_set]; exact h.len, fun j hj => ?_, .inr ⟨i, w, by omega, hi, hw, ?_, rfl, fun j hj => ?_⟩, fun q hq => ?_⟩
  · rw [List.getElem?_set_ne (by omega)]; exact h.rest j (by omega)
  · rw [List.getElem?_set_self (by rw [h.len]; exact hi)]
  · rw [List.getElem?_set_ne (by omega), hos]
  · rcases List.mem_or_eq_of_mem_set hq with z | rfl
    · exact h.sz q z
    · exact zw
/-- what is told of it -/
theorem LapInv.end {m : Nat} {b h l s d b' h' l' s' d' : Rat} {as : List Rat} {due : D} (I : LapInv m [b, h, l, s, d] [b', h', l', s', d'] as due 5) (m1 : 1 ≤ m) (m2 : m ≤ 31) (gb : GoodB b h l) (gs : GoodS s d) (hb : b' < 0) (hh : h' < 0) (hl : ¬ 0 < l') (hs : ¬ 0 < s' ∨ ¬ s' < 1) (hd : d' < 0 ∨ ¬ d' < s) :
    ∃ a0 a1 a2 a3 a4 nm e, as = [a0, a1, a2, a3, a4] ∧ due = .tup [.str nm, qD e] ∧ BadL a0 a1 a2 a3 a4 nm e := by
  obtain ⟨a0, a1, a2, a3, a4, rfl⟩ := list5 I.len
  have z : ∀ q ∈ [a0, a1, a2, a3, a4], Sz 60 q := fun q hq => (I.sz q hq).mono (by decide)
  have z0 := z a0 (by simp)
  have z1 := z a1 (by simp)
  have z2 := z a2 (by simp)
  have z3 := z a3 (by simp)
  have z4 := z a4 (by simp)
  rcases I.due with ⟨_, _, h3⟩ | ⟨k, w, h1, h2, h3, h4, h5, h6⟩
  · exfalso
    have e0 := h3 0 (by omega)
    have e1 := h3 1 (by omega)
    have e2 := h3 2 (by omega)
    have e3 := h3 3 (by omega)
    have e4 := h3 4 (by omega)
    simp at e0 e1 e2 e3 e4
    omega
  · refine ⟨a0, a1, a2, a3, a4, kindOf k, w, rfl, h5, z0, z1, z2, z3, z4, ?_⟩
    have hk : k = 0 ∨ k = 1 ∨ k = 2 ∨ k = 3 ∨ k = 4 := by omega
    obtain ⟨g1, g2, g3⟩ := gb
    obtain ⟨t1, t2, t3, t4⟩ := gs
    rcases hk with rfl | rfl | rfl | rfl | rfl
    · cases h3; cases h4
      exact .inl ⟨rfl, .inl ⟨hb, rfl⟩⟩
    · have f0 := h6 0 (by omega)
      cases h3; cases h4; cases f0
      exact .inl ⟨rfl, .inr (.inl ⟨g1, hh, rfl⟩)⟩
    · have f0 := h6 0 (by omega)
      have f1 := h6 1 (by omega)
      cases h3; cases h4; cases f0; cases f1
      exact .inl ⟨rfl, .inr (.inr ⟨g1, g2, hl, rfl⟩)⟩
    · have f0 := h6 0 (by omega)
      have f1 := h6 1 (by omega)
      have f2 := h6 2 (by omega)
      cases h3; cases h4; cases f0; cases f1; cases f2
      exact .inr ⟨rfl, ⟨g1, g2, g3⟩, .inl ⟨hs, rfl⟩⟩
    · have f0 := h6 0 (by omega)
      have f1 := h6 1 (by omega)
      have f2 := h6 2 (by omega)
      have f3 := h6 3 (by omega)
      cases h3; cases h4; cases f0; cases f1; cases f2; cases f3
      exact .inr ⟨rfl, ⟨g1, g2, g3⟩, .inr ⟨t1, t2, hd, rfl⟩⟩
end DL

end
section
set_option Elab.async false
set_option linter.all false
set_option autoImplicit true
set_option maxRecDepth 100000
set_option maxHeartbeats 4000000
/-! defs called in a suite with the exception, that give a fresh list -/
namespace DL
open PySem L2 PySem.Spec PyProof.Rows
section
variable {X : Cx} {n : Nm} {c : Cc} {Γ : SL} {pos p p1 : Pos} {nm en : Str} {a C : Addr} {d : Option Addr} {fs : List (Str × D)} {xs : List D} {S : Addr → List D → Prop}
end
/-! ### a, b, c, d, e = a list's five things -/
section
variable {X : Cx} {n : Nm} {c : Cc} {Γ : SL} {e : Expr} {pos : Pos} {De : DE}
end
/-! ### bounds lap by lap, drifts -/
structure L5 where
  b : Rat
  h : Rat
  l : Rat
  s : Rat
  d : Rat
def L5.D (a : L5) : DL.D := .lst [qD a.b, qD a.h, qD a.l, qD a.s, qD a.d]
def L5.la (a : L5) : LA := ⟨a.b, a.h, a.l, a.s, a.d, 0⟩
def L5.sz (a : L5) : Prop := Sz 60 a.b ∧ Sz 60 a.h ∧ Sz 60 a.l ∧ Sz 60 a.s ∧ Sz 60 a.d
def L5.good (a : L5) : Prop := GoodB a.b a.h a.l ∧ GoodS a.s a.d
theorem ones_sz : Sz 1 (1 : Rat) := ⟨by decide, by decide⟩
end DL

end
section
set_option Elab.async false
set_option linter.all false
set_option autoImplicit true
set_option maxRecDepth 100000
set_option maxHeartbeats 400000
/-! instances of own classes: attributes, methods, properties, making -/
namespace DL
open PySem L2
open PyProof.Rows hiding St

section
variable {X : Cx} {n : Nm} {c : Cc} {Γ : SL} {e o : Expr} {es : List Expr} {x : D} {pos p p1 p2 apos : Pos} {nm cls f m : Str} {k : AK} {fs : List (Str × D)} {De : DE} {S : Sg}
/-- a method known by its promise -/
structure CalM (X : Cx) (k : Nat) (cls m : Str) (S : Sg) : Prop where
  rm : Room k X.A
  ic : InsC X.K cls
  ex : ∃ f fd ps k0, FnOk X.prog X.w X.K X.mg X.base CX0 k0 f fd ps (spOf X.K S) ∧ k0 ≤ k ∧ Meth X.K (He.ga X.K cls) m f ∧ Binds X.K fd ps []
theorem CalM.blk {X X' : Cx} {sc : Scope} {k : Nat} {cls m : Str} {S : Sg} (b : BlkX X X' sc) (h : CalM X k cls m S) : CalM X' k cls m S := by
  obtain ⟨s, H, C, cl, fp, rfl⟩ := b
  exact ⟨h.rm, h.ic, h.ex⟩
/-- a property known by its getter's promise -/
structure CalP (X : Cx) (k : Nat) (cls f : Str) (S : Sg) : Prop where
  rm : Room k X.A
  ic : InsC X.K cls
  ex : ∃ p g fd ps k0, FnOk X.prog X.w X.K X.mg X.base CX0 k0 g fd ps (spOf X.K S) ∧ k0 + 1 ≤ k ∧ PropOf X.K (He.ga X.K cls) f p g ∧ Binds X.K fd ps []
end
/-- an own class called: np positional values, keywords ks; G puts them and the defaults in order -/
structure CalN (X : Cx) (k : Nat) (cls : Str) (np : Nat) (kns : List Str) (G : List Par → List Par → List Par) (S : Sg) : Prop where
  rm : Room k X.A
  ic : InsC X.K cls
  mg : X.mg cls = some (.ref (He.ga X.K cls))
  ex : ∃ f fd ps k0 g gV, Mk X.K (He.ga X.K cls) f ∧ FnOk X.prog X.w X.K X.mg X.base CX0 k0 f fd ps (spOf X.K S) ∧ k0 + 1 ≤ k ∧ KBn X.K fd ps (np + 1) kns g gV ∧
    ∀ M R H vs zs pv pz v, ParsOk X.K M R H pv vs → ParsOk X.K M R H pz zs → pv.length = np → pz.length = kns.length → parOi 0 pv = [] → parOi 0 pz = [] → ∃ us, gV (v :: vs) zs = v :: us ∧ ParsOk X.K M R H (G pv pz) us ∧ parOi 0 (G pv pz) = []
section
variable {X : Cx} {n : Nm} {c : Cc} {Γ : SL} {e : Expr} {es : List Expr} {kws : List Keyword} {pos p : Pos} {cls : Str} {np : Nat} {kns : List Str} {G : List Par → List Par → List Par} {S : Sg}
end
end DL

end
section
set_option Elab.async false
set_option linter.all false
set_option autoImplicit true
set_option maxRecDepth 100000
set_option maxHeartbeats 1000000
/-! the head by one kernel run, with own classes: methods, getters, defaults -/
namespace DL
open PySem L2 NdefX He
open PyProof.Rows hiding St
/-- where a def stands -/
inductive At where
  | glo (x : Str) | meth (x m : Str) | get (x f : Str) | sta (x m : Str)
def propG (K : PySem.W.Frag) (C : Addr) (f : Str) : Addr := match PySem.W.recIn K (ma K C f) "property" with
  | some (.ref g :: _) => g
  | _ => 0
def At.ad (K : PySem.W.Frag) : At → Addr
  | .glo x => ga K x
  | .meth x m => ma K (ga K x) m
  | .get x f => propG K (ga K x) f
  | .sta x m => He5.wf K (ga K x) "staticmethod" m
structure FnZ where
  at_ : At
  name : Str
  qual : Str
  st : Stmt
  dfl : List Dv := []
  kwd : List (Str × Dv) := []
def fnZ (K : PySem.W.Frag) (p : At) : FnW := match K.lookup (p.ad K) with
  | some ⟨_, _, .func fd, _⟩ => some (fd.name, fd.qualname, fd.params, fd.body, fd.scope, fd.globals, fd.closure, fd.builtins)
  | _ => none
def FnZ.val (d : FnZ) : FnW := some (d.name, d.qual, defArgs d.st, .stmts (defBody d.st), defScope d.st, mainGlobals, [], builtinsNs)
def FnZ.dvs (K : PySem.W.Frag) (d : FnZ) : List V := d.dfl.map (Dv.v K)
def FnZ.kws (K : PySem.W.Frag) (d : FnZ) : List (Str × V) := d.kwd.map fun q => (q.1, q.2.v K)
def FnZ.ok (K : PySem.W.Frag) (d : FnZ) : Bool := PySem.W.keepIn K (.ref (d.at_.ad K)) && (match K.lookup (d.at_.ad K) with
  | some ⟨_, _, .func fd, _⟩ => PySem.W.codeIn K fd.code d.qual && (dflB K fd.defaults (d.dvs K) && kwdB K fd.kwdefaults (d.kws K))
  | _ => false)
theorem FnZ.funD {K : PySem.W.Frag} {d : FnZ} (e : fnZ K d.at_ = d.val) (c : d.ok K = true) : ∃ fd, FunD K d.name d.qual (defArgs d.st) (defBody d.st) (defScope d.st) (d.dvs K) (d.kws K) (d.at_.ad K) fd := by
  obtain ⟨kp, c2⟩ := ba c
  unfold fnZ at e
  cases q : K.lookup (d.at_.ad K) with
  | none => rw [q] at c2; cases c2
  | some o =>
    obtain ⟨oc, od, dt, osl⟩ := o
    rw [q] at c2 e
    cases dt with
    | func fd =>
      obtain ⟨n1, n2, n3, n4, n5, n6, n7, n8, n9, n10, n11, n12, n13, n14, n15⟩ := fd
      have e2 : (some (n1, n2, n3, n4, n5, n6, n7, n15) : FnW) = some (d.name, d.qual, defArgs d.st, .stmts (defBody d.st), defScope d.st, mainGlobals, [], builtinsNs) := e
      simp only [Option.some.injEq, Prod.mk.injEq] at e2
      obtain ⟨h1, h2, h3, h4, h5, h6, h7, h8⟩ := e2
      subst h1 h2 h3 h4 h5 h6 h7 h8
      have c3 : (PySem.W.codeIn K n13 d.qual && (dflB K n8 (d.dvs K) && kwdB K n9 (d.kws K))) = true := c2
      obtain ⟨k1, k2⟩ := ba c3
      obtain ⟨k3, k4⟩ := ba k2
      exact ⟨_, ⟨oc, od, n8, n9, n10, n11, n12, n13, n14, osl, rfl, q, k1, dflB_ok k3, kwdB_ok k4⟩, kp⟩
    | _ => cases c2
theorem funD_fun {K : PySem.W.Frag} {x qual : Str} {st : Stmt} {kws : List (Str × V)} {f : Addr} {fd : FuncData} (F : FunD K x qual (defArgs st) (defBody st) (defScope st) [] kws f fd) : Fun K x qual st f fd := by
  obtain ⟨oc, od, dV, kV, doc, pm, an, cdv, ct, osl, e, lk, hcd, hD, _⟩ := F.ex
  rcases hD with ⟨_, rfl⟩ | ⟨h, _⟩
  · exact ⟨⟨oc, od, kV, doc, pm, an, cdv, ct, osl, e, lk, hcd⟩, F.kp⟩
  · exact absurd rfl h
def tupA (K : PySem.W.Frag) (a : Addr) (vs : List Dv) : Bool := match K.lookup a with
  | some ⟨.type c, _, .seq its _, _⟩ => decide (c = "tuple") && (decide (its.size ≤ sizeLine) && relAll (vs.map (Dv.v K)) its.toList)
  | _ => false
inductive Fy where
  | fx (f : Fx)
  | ins (x : Str)
  | prop (x f : Str)
  | tup (p : PySem.W.Frag → Addr) (vs : List Dv)
  | con (x f : Str) (i : Int)
  | cval (x f : Str) (i : Int)
  | first (x : Str)
  | sta (x m : Str)
def conB (K : PySem.W.Frag) (x f : Str) (i : Int) : Bool := match PySem.W.findIn K (.ref (ga K x)) f with
  | some (some (.int j u)) => decide (j = i) && eqO (PySem.W.specialIn K (.int j u) "__get__") (some none)
  | _ => false
def cvalB (K : PySem.W.Frag) (x f : Str) (i : Int) : Bool := match PySem.W.findCls K (.ref (ga K x)) (.type "type") f with
  | some (.val (.int j _)) => decide (j = i)
  | _ => false
def Fy.ok (K : PySem.W.Frag) : Fy → Bool
  | .fx f => f.ok K
  | .ins x => [(Fa.cls x).ok K, eqO (PySem.W.findIn K (.ref (ga K x)) "__class__") (some (some (.builtin "object.__class__"))), eqO (PySem.W.specialIn K (.builtin "object.__class__") "__get__") (some (some (.builtin "getset_descriptor.__get__"))),
    decide (PySem.W.takesIn K (.builtin "object.__class__") = some true), decide (PySem.W.mroIn K (ga K x) (.type "object") = some true), (["bool", "int", "str", "list", "tuple", "dict"] : List String).all fun T => decide (PySem.W.kitOne K (.ref (ga K x)) (.type T) = some false)].all id
  | .prop x f => [eqO (PySem.W.findIn K (.ref (ga K x)) f) (some (some (.ref (ma K (ga K x) f)))), eqO (PySem.W.specialIn K (.ref (ma K (ga K x) f)) "__get__") (some (some (.builtin "property.__get__"))), decide (PySem.W.takesIn K (.ref (ma K (ga K x) f)) = some true),
    (match PySem.W.recIn K (ma K (ga K x) f) "property" with
      | some (.ref _ :: _) => true
      | _ => false)].all id
  | .tup p vs => tupA K (p K) vs
  | .con x f i => conB K x f i
  | .cval x f i => [PySem.W.readsIn K (ga K x) (.type "type"), eqO (PySem.W.specialIn K (.ref (ga K x)) "__getattribute__") (some (some (.builtin "type.__getattribute__"))),
    cvalB K x f i].all id
  | .first x => PySem.W.selfFirst K (ga K x)
  | .sta x m => [PySem.W.readsIn K (ga K x) (.type "type"), eqO (PySem.W.specialIn K (.ref (ga K x)) "__getattribute__") (some (some (.builtin "type.__getattribute__"))), He5.wrapB K (ga K x) "staticmethod" "staticmethod.__get__" m].all id
/-! ### the Hook -/
structure TopE where
  mf : Str
  nm : List Str
  cl : List Str
  fx : List Fy
  fn : List FnZ
  ex : List InD
abbrev AlE : Type := Bool × List FnW × List InV
def obsE (T : TopE) (K : PySem.W.Frag) : AlE := ([T.fx.all fun f => f.ok K, T.fn.all fun d => d.ok K, T.ex.all fun e => (exL T.mf K e).all id].all id, T.fn.map fun d => fnZ K d.at_, T.ex.map fun e => inObs K e.nm)
def valE (T : TopE) : AlE := (true, T.fn.map FnZ.val, T.ex.map InD.val)
def SaysE (T : TopE) (K : PySem.W.Frag) : Prop := obsE T K = valE T
/-- what they name, n steps deep -/
def reach (g : Addr → Option Obj) : Nat → List Addr → List Addr
  | 0, as => as
  | n + 1, as => as ++ reach g n (as.flatMap (refsAt g))
section
variable {T : TopE} {K : PySem.W.Frag}
theorem SaysE.fact (c : SaysE T K) (i : Nat) {f : Fy} (h : T.fx[i]? = some f := by rfl) : f.ok K = true := by
  have c1 := all_at (show [T.fx.all fun f => f.ok K, T.fn.all fun d => d.ok K, T.ex.all fun e => (exL T.mf K e).all id].all id = true from congrArg (fun z : AlE => z.1) c) 0
  exact List.all_eq_true.mp c1 f (List.mem_of_getElem? h)
theorem SaysE.def_ (c : SaysE T K) (i : Nat) {d : FnZ} (h : T.fn[i]? = some d := by rfl) : ∃ fd, FunD K d.name d.qual (defArgs d.st) (defBody d.st) (defScope d.st) (d.dvs K) (d.kws K) (d.at_.ad K) fd := by
  have c1 := all_at (show [T.fx.all fun f => f.ok K, T.fn.all fun d => d.ok K, T.ex.all fun e => (exL T.mf K e).all id].all id = true from congrArg (fun z : AlE => z.1) c) 1
  have c2 := List.all_eq_true.mp c1 _ (List.mem_of_getElem? h)
  have e : T.fn.map (fun d => fnZ K d.at_) = T.fn.map FnZ.val := congrArg (fun z : AlE => z.2.1) c
  have e2 : (T.fn.map fun d => fnZ K d.at_)[i]? = (T.fn.map FnZ.val)[i]? := by rw [e]
  rw [List.getElem?_map, List.getElem?_map, h] at e2
  exact FnZ.funD (Option.some.inj e2) c2
theorem SaysE.err (c : SaysE T K) (i : Nat) {e : InD} (h : T.ex[i]? = some e := by rfl) : inObs K e.nm = e.val ∧ (exL T.mf K e).all id = true := by
  have c1 := all_at (show [T.fx.all fun f => f.ok K, T.fn.all fun d => d.ok K, T.ex.all fun e => (exL T.mf K e).all id].all id = true from congrArg (fun z : AlE => z.1) c) 2
  have e0 : T.ex.map (fun e => inObs K e.nm) = T.ex.map InD.val := congrArg (fun z : AlE => z.2.2) c
  have e2 : (T.ex.map fun e => inObs K e.nm)[i]? = (T.ex.map InD.val)[i]? := by rw [e0]
  rw [List.getElem?_map, List.getElem?_map, h] at e2
  exact ⟨Option.some.inj e2, List.all_eq_true.mp c1 _ (List.mem_of_getElem? h)⟩
/-- a def of the module's, as Fun -/
theorem SaysE.fn (c : SaysE T K) (i : Nat) {x : Str} {st : Stmt} (h : T.fn[i]? = some ⟨.glo x, x, x, st, [], []⟩ := by rfl) : ∃ fd, Fun K x x st (ga K x) fd := (c.def_ i h).imp fun _ F => funD_fun F
end
/-! ### methods, getters, classes as the top has left them -/
/-- a method without defaults -/
structure MethAt (K : PySem.W.Frag) (cls m : Str) (qual : Str) (st : Stmt) (ps : List Str) where
  fd : FuncData
  F : Fun K m qual st (ma K (ga K cls) m) fd
  m : Meth K (ga K cls) m (ma K (ga K cls) m)
  b : Binds K fd ps []
  ic : InsC K cls
structure GetAt (K : PySem.W.Frag) (cls f : Str) (qual : Str) (st : Stmt) (ps : List Str) where
  fd : FuncData
  F : Fun K f qual st (propG K (ga K cls) f) fd
  p : PropOf K (ga K cls) f (ma K (ga K cls) f) (propG K (ga K cls) f)
  b : Binds K fd ps []
  ic : InsC K cls
theorem MethAt.cal {X : Cx} {cls m qual : Str} {st : Stmt} {ps : List Str} {k k0 : Nat} {S : Sg} (d : MethAt X.K cls m qual st ps) (F : FnOk X.prog X.w X.K X.mg X.base CX0 k0 (ma X.K (ga X.K cls) m) d.fd ps (spOf X.K S)) (h : k0 ≤ k) (rm : Room k X.A) : CalM X k cls m S :=
  ⟨rm, d.ic, _, d.fd, ps, k0, F, h, d.m, d.b⟩
theorem GetAt.cal {X : Cx} {cls f qual : Str} {st : Stmt} {ps : List Str} {k k0 : Nat} {S : Sg} (d : GetAt X.K cls f qual st ps) (F : FnOk X.prog X.w X.K X.mg X.base CX0 k0 (propG X.K (ga X.K cls) f) d.fd ps (spOf X.K S)) (h : k0 + 1 ≤ k) (rm : Room k X.A) : CalP X k cls f S :=
  ⟨rm, d.ic, _, _, d.fd, ps, k0, F, h, d.p, d.b⟩
/-- an own class that is called: its __init__, keyword defaults kws that are the data kwD -/
structure InitAt (K : PySem.W.Frag) (mg : Str → Option Value) (cls qual : Str) (st : Stmt) (ps : List Str) (kws : List (Str × V)) where
  fd : FuncData
  F : FunD K "__init__" qual (defArgs st) (defBody st) (defScope st) [] kws (ma K (ga K cls) "__init__") fd
  mak : Mk K (ga K cls) (ma K (ga K cls) "__init__")
  mg : mg cls = some (.ref (ga K cls))
  ic : InsC K cls
theorem parsOk_app {K : PySem.W.Frag} {M : Addr → Prop} {R H : Hp} : ∀ {ps qs : List Par} {vs ws : List V}, ParsOk K M R H ps vs → ParsOk K M R H qs ws → ParsOk K M R H (ps ++ qs) (vs ++ ws)
  | [], _, _, _, h, h2 => by cases (show _ = _ from h); exact h2
  | p :: ps, _, _, _, ⟨v, us, e, h1, h2⟩, h3 => by subst e; exact ⟨v, _, rfl, h1, parsOk_app h2 h3⟩
theorem parOi_sh : ∀ {ps : List Par} {i j : Nat}, parOi i ps = [] → parOi j ps = []
  | [], _, _, _ => rfl
  | p :: ps, i, j, h => by
    cases p with
    | own o => cases h
    | d x => exact parOi_sh (ps := ps) (i := i + 1) (j := j + 1) h
    | w x => exact parOi_sh (ps := ps) (i := i + 1) (j := j + 1) h
    | sc x => exact parOi_sh (ps := ps) (i := i + 1) (j := j + 1) h
theorem parOi_app : ∀ {ps qs : List Par} {i : Nat}, parOi i ps = [] → parOi i qs = [] → parOi i (ps ++ qs) = []
  | [], _, _, _, h => h
  | p :: ps, qs, i, h, h2 => by
    cases p with
    | own o => cases h
    | d x => exact parOi_app (ps := ps) (i := i + 1) h (parOi_sh h2)
    | w x => exact parOi_app (ps := ps) (i := i + 1) h (parOi_sh h2)
    | sc x => exact parOi_app (ps := ps) (i := i + 1) h (parOi_sh h2)
theorem parOi_d : ∀ {xs : List D} {i : Nat}, parOi i (xs.map Par.d) = []
  | [], _ => rfl
  | x :: xs, i => parOi_d (xs := xs) (i := i + 1)
theorem parsOk_d {K : PySem.W.Frag} {M : Addr → Prop} {R H : Hp} : ∀ {xs : List D} {vs : List V}, RpL K R xs vs → ParsOk K M R H (xs.map Par.d) vs
  | [], _, h => by cases (show _ = _ from h); rfl
  | x :: xs, _, ⟨v, ws, e, h1, h2⟩ => by subst e; exact ⟨v, ws, rfl, h1, parsOk_d h2⟩
theorem ParsOk.take {K : PySem.W.Frag} {M : Addr → Prop} {R H : Hp} : ∀ {ps : List Par} {vs : List V} (i : Nat), ParsOk K M R H ps vs → ParsOk K M R H (ps.take i) (vs.take i)
  | [], _, i, h => by cases (show _ = _ from h); simp [ParsOk]
  | p :: ps, _, 0, h => by simp [ParsOk]
  | p :: ps, _, i + 1, ⟨v, ws, e, h1, h2⟩ => by subst e; exact ⟨v, _, rfl, h1, h2.take i⟩
theorem ParsOk.drop {K : PySem.W.Frag} {M : Addr → Prop} {R H : Hp} : ∀ {ps : List Par} {vs : List V} (i : Nat), ParsOk K M R H ps vs → ParsOk K M R H (ps.drop i) (vs.drop i)
  | [], _, i, h => by cases (show _ = _ from h); simp [ParsOk]
  | p :: ps, _, 0, h => h
  | p :: ps, _, i + 1, ⟨v, ws, e, h1, h2⟩ => by subst e; exact h2.drop i
theorem parOi_take : ∀ {ps : List Par} {i j k : Nat}, parOi i ps = [] → parOi k (ps.take j) = []
  | [], _, j, _, _ => by simp [parOi]
  | p :: ps, _, 0, _, _ => by simp [parOi]
  | p :: ps, i, j + 1, k, h => by
    cases p with
    | own o => cases h
    | d x => exact parOi_take (ps := ps) (i := i + 1) (k := k + 1) h
    | w x => exact parOi_take (ps := ps) (i := i + 1) (k := k + 1) h
    | sc x => exact parOi_take (ps := ps) (i := i + 1) (k := k + 1) h
theorem parOi_drop : ∀ {ps : List Par} {i j k : Nat}, parOi i ps = [] → parOi k (ps.drop j) = []
  | [], _, j, _, _ => by simp [parOi]
  | p :: ps, i, 0, k, h => parOi_sh h
  | p :: ps, i, j + 1, k, h => by
    cases p with
    | own o => cases h
    | d x => exact parOi_drop (ps := ps) (i := i + 1) h
    | w x => exact parOi_drop (ps := ps) (i := i + 1) h
    | sc x => exact parOi_drop (ps := ps) (i := i + 1) h
/-- the keywords that lack stand behind the first i of those that are written -/
theorem InitAt.cal {X : Cx} {cls qual : Str} {st : Stmt} {ps kns : List Str} {kws ms : List (Str × V)} {k k0 np : Nat} {S : Sg} (d : InitAt X.K X.mg cls qual st ps kws) (i : Nat) (F : FnOk X.prog X.w X.K X.mg X.base CX0 k0 (ma X.K (ga X.K cls) "__init__") d.fd ps (spOf X.K S)) (h : k0 + 1 ≤ k) (rm : Room k X.A)
    (kb : ∃ mv : List Value, KBn X.K d.fd ps (np + 1) kns (fun us ws => us ++ (ws.take i ++ (mv ++ ws.drop i))) (fun vs zs => vs ++ (zs.take i ++ (ms.map (·.2) ++ zs.drop i)))) (msD : List D) (hms : ∀ R, RpL X.K R msD (ms.map (·.2))) : CalN X k cls np kns (fun pv pz => pv ++ (pz.take i ++ (msD.map Par.d ++ pz.drop i))) S := by
  obtain ⟨mv, kb⟩ := kb
  refine ⟨rm, d.ic, d.mg, _, d.fd, ps, k0, _, _, d.mak, F, h, kb, fun M R H vs zs pv pz v h1 h2 _ _ h5 h6 => ⟨vs ++ (zs.take i ++ (ms.map (·.2) ++ zs.drop i)), rfl, parsOk_app h1 (parsOk_app (h2.take i) (parsOk_app (parsOk_d (hms R)) (h2.drop i))), parOi_app h5 (parOi_app (parOi_take h6) (parOi_app parOi_d (parOi_drop h6)))⟩⟩
end DL

end
section
set_option Elab.async false
set_option linter.all false
set_option autoImplicit true
set_option maxRecDepth 100000
set_option maxHeartbeats 400000
/-! steering: what a display holds, its answers -/
namespace DL
open PySem L2
open PyProof.Rows hiding St
structure StQ where
  slew : Rat
  drift : Rat
  step : Option Rat
  at_ : Rat
  ps : List Pc
  bound : Rat
  half : Rat
  aim : Option Rat
def StQ.fs (s : StQ) : List (Str × D) := [("slew_told", qD s.slew), ("drift_told", qD s.drift), ("step_told", oD s.step), ("steered_at", qD s.at_), ("steered_pieces", cD s.ps), ("steered_bound", qD s.bound), ("steered_half", qD s.half), ("steered_aim", oD s.aim)]
abbrev StQ.D (s : StQ) : DL.D := .ins "Steering" s.fs
abbrev StQ.O (s : StQ) : OB := .ins "Steering" s.fs
/-- what a course shows at t -/
def atQ (c : List Pc) (t : Rat) : Rat := match c[placeN c t]? with
  | some p => pline p t
  | none => 0
def farQ (lo hi t : Rat) : Rat := maxQ (absQ (t - lo)) (absQ (t - hi))
def rateQ (shown aim slew : Rat) : Rat := if shown < aim then 1 + slew else 1 - slew
def lenQ (shown aim slew : Rat) : Rat := absQ (aim - shown) / slew
def towardsQ (raw shown aim slew : Rat) : List Pc := if aim = shown then [(raw, shown, 1)] else [(raw, shown, rateQ shown aim slew), (raw + lenQ shown aim slew, aim + lenQ shown aim slew, 1)]
def StQ.err (s : StQ) (r : Rat) : Rat := behQ s.bound s.half (r - s.at_) s.slew s.drift
/-- behind a call of steer with no closed span; with one that is followed from lo to hi -/
def StQ.idle (s : StQ) (raw : Rat) : StQ := { s with at_ := raw, ps := tidyQ (s.ps.filter (fun p => decide (p.1 < raw)) ++ [(raw, atQ s.ps raw, 1)]), bound := s.err raw, half := s.err raw, aim := none }
def StQ.jumps (s : StQ) (shown aim : Rat) : Bool := match s.step with
  | some d => decide (d < aim - shown)
  | none => false
def StQ.plan (s : StQ) (raw lo hi : Rat) : List Pc := if s.jumps (atQ s.ps raw) ((lo + hi) * fr 1 2) then [(raw, (lo + hi) * fr 1 2, 1)] else towardsQ raw (atQ s.ps raw) ((lo + hi) * fr 1 2) s.slew
def StQ.goto (s : StQ) (raw lo hi : Rat) : StQ := { s with at_ := raw, ps := tidyQ (s.ps.filter (fun p => decide (p.1 < raw)) ++ s.plan raw lo hi), bound := if s.jumps (atQ s.ps raw) ((lo + hi) * fr 1 2) then (hi - lo) / fr 2 1 else farQ lo hi (atQ s.ps raw), half := (hi - lo) / fr 2 1, aim := some ((lo + hi) * fr 1 2) }
/-- sizes of a steering -/
structure StQ.sz (s : StQ) : Prop where
  za : Sz 300 s.at_
  zp : Cz 300 300 70 s.ps
  np : s.ps.length ≤ 1000
  zb : Sz 700 s.bound
  zh : Sz 700 s.half
  zs : Sz 60 s.slew
  zd : Sz 60 s.drift
  zo : SzO 300 s.step
def stQ0 (raw shown err slew drift : Rat) (step : Option Rat) : StQ := ⟨slew, drift, step, raw, [(raw, shown, 1)], err, err, none⟩
def GoodO (o : Option Rat) : Prop := ∀ d, o = some d → ¬ d < 0
def closeQ (lo hi shown bound : Rat) : Rat × Rat := if minQ hi (shown + bound) < maxQ lo (shown - bound) then (lo, hi) else (maxQ lo (shown - bound), minQ hi (shown + bound))
def StQ.after (s : StQ) (raw : Rat) (sp : Option Spn) : StQ := match sp with
  | some (some lo, some hi) => s.goto raw (closeQ lo hi (atQ s.ps raw) (s.err raw)).1 (closeQ lo hi (atQ s.ps raw) (s.err raw)).2
  | _ => s.idle raw
def StQ.planO (s : StQ) (raw : Rat) (sp : Option Spn) : List Pc := match sp with
  | some (some lo, some hi) => s.plan raw (closeQ lo hi (atQ s.ps raw) (s.err raw)).1 (closeQ lo hi (atQ s.ps raw) (s.err raw)).2
  | _ => [(raw, atQ s.ps raw, 1)]
def opnB : Option Spn → Bool
  | some (some _, some _) => false
  | _ => true
theorem opn_after {s : StQ} {raw : Rat} {sp : Option Spn} (h : opnB sp = true) : s.after raw sp = s.idle raw ∧ s.planO raw sp = [(raw, atQ s.ps raw, 1)] := by
  unfold StQ.after StQ.planO
  split
  · cases h
  · exact ⟨rfl, rfl⟩
theorem opn_no {sp : Option Spn} (h : opnB sp = false) : ∃ lo hi, sp = some (some lo, some hi) := by
  unfold opnB at h
  split at h
  · exact ⟨_, _, rfl⟩
  · cases h
end DL

end
section
set_option Elab.async false
set_option linter.all false
set_option autoImplicit true
set_option maxRecDepth 100000
set_option maxHeartbeats 400000
/-! k34: the law's own reading of a steering -/
namespace DL
open PySem L2
open PyProof.Rows hiding St
/-- the state of a display: steered at, shown, its rate, how long, the bound, half -/
structure KS where
  at_ : Rat
  y : Rat
  r : Rat
  len : Rat
  b : Rat
  h : Option Rat
abbrev KS.D (k : KS) : DL.D := .tup [qD k.at_, qD k.y, qD k.r, qD k.len, qD k.b, oD k.h]
def KS.now (k : KS) (raw : Rat) : Rat := (k.y + k.r * (if raw - k.at_ < k.len then raw - k.at_ else k.len)) + ((raw - k.at_) - (if raw - k.at_ < k.len then raw - k.at_ else k.len))
structure KS.sz (k : KS) : Prop where
  za : Sz 300 k.at_
  zy : Sz 300 k.y
  zr : Sz 70 k.r
  zl : Sz 300 k.len
  zb : Sz 700 k.b
  zh : SzO 700 k.h
/-- what a steering begins with -/
structure KA where
  first : Rat
  y : Rat
  err : Rat
  slew : Rat
  drift : Rat
  step : Option Rat
abbrev KA.D (a : KA) : DL.D := .lst [qD a.first, qD a.y, qD a.err, qD a.slew, qD a.drift, oD a.step]
structure KA.sz (a : KA) : Prop where
  zf : Sz 300 a.first
  zy : Sz 300 a.y
  ze : Sz 300 a.err
  zs : Sz 60 a.slew
  zd : Sz 60 a.drift
  zo : SzO 300 a.step
def KS.bnd (k : KS) (slew drift raw : Rat) : Rat := match k.h with
  | none => k.b + drift * (raw - k.at_)
  | some h => drift * (raw - k.at_) + (if k.b - slew * (raw - k.at_) < h then h else k.b - slew * (raw - k.at_))
/-- a drawn step_over -/
def OverP (o : Option Rat) : Prop := ∀ q, o = some q → Sd 60 24 q ∧ ¬ q < 0
def KA.good (a : KA) : Prop := ¬ a.err < 0 ∧ GoodS a.slew a.drift ∧ GoodO a.step
def KA.st (a : KA) : StQ := stQ0 a.first a.y a.err a.slew a.drift a.step
end DL

end
section
set_option Elab.async false
set_option linter.all false
set_option autoImplicit true
set_option maxRecDepth 100000
set_option maxHeartbeats 400000
/-! None in a span; a method of a list that no name holds; k34: what the law finds behind a call -/
namespace DL
open PySem L2
open PyProof.Rows hiding St
section
variable {X : Cx} {n : Nm} {c : Cc} {Γ : SL} {e a b o : Expr} {x y z : DL.D} {pos p ap pos2 : Pos} {nm meth : Str} {es : List Expr} {k l : AK} {De : DE}
variable {mid : String} {P : List DL.D → List DL.D → (DL.D → List DL.D → Prop) → Prop}
end
/-! ### what the law finds -/
def KA.k0 (a : KA) : KS := ⟨a.first, a.y, 1, 0, a.err, none⟩
def KA.over (a : KA) (gap : Rat) : Bool := match a.step with
  | some d => decide (d < gap)
  | none => false
def KA.pace (a : KA) (gap : Rat) : Rat := if gap = 0 then 1 else 1 + (if 0 < gap then a.slew else 0 - a.slew)
structure Turn where
  k : KS
  aim : Option Rat
  j : Bool
abbrev Turn.D (t : Turn) : DL.D := .tup [t.k.D, oD t.aim, .bl t.j]
def KA.go (a : KA) (raw now lo hi : Rat) : Turn :=
  if a.over ((lo + hi) * fr 1 2 - now) = true then ⟨⟨raw, (lo + hi) * fr 1 2, 1, 0, (lo + hi) * fr 1 2 - lo, some ((lo + hi) * fr 1 2 - lo)⟩, some ((lo + hi) * fr 1 2), true⟩
  else ⟨⟨raw, now, a.pace ((lo + hi) * fr 1 2 - now), absQ ((lo + hi) * fr 1 2 - now) / a.slew, absQ ((lo + hi) * fr 1 2 - now) + ((lo + hi) * fr 1 2 - lo), some ((lo + hi) * fr 1 2 - lo)⟩, some ((lo + hi) * fr 1 2), false⟩
def turnQ (a : KA) (k : KS) (raw : Rat) (sp : Option Spn) : Turn := match sp with
  | some (some lo, some hi) => a.go raw (k.now raw) (closeQ lo hi (k.now raw) (k.bnd a.slew a.drift raw)).1 (closeQ lo hi (k.now raw) (k.bnd a.slew a.drift raw)).2
  | _ => ⟨⟨raw, k.now raw, 1, 0, k.bnd a.slew a.drift raw, none⟩, none, false⟩
theorem turn_opn {a : KA} {k : KS} {raw : Rat} {sp : Option Spn} (h : opnB sp = true) : turnQ a k raw sp = ⟨⟨raw, k.now raw, 1, 0, k.bnd a.slew a.drift raw, none⟩, none, false⟩ := by
  unfold turnQ
  split
  · cases h
  · rfl
structure TurnZ (a : KA) (k : KS) (raw : Rat) (sp : Option Spn) : Prop where
  za : a.sz
  zk : k.sz
  zr : Sz 60 raw
  zn : Sz 40 (k.now raw)
  zb : Sz 40 (k.bnd a.slew a.drift raw)
  b0 : 0 ≤ k.bnd a.slew a.drift raw
  s0 : 0 < a.slew
  zc : ∀ lo hi, sp = some (some lo, some hi) → lo ≤ hi ∧ Sz 80 lo ∧ Sz 80 hi
def dueQ (a : KA) (k : KS) (j : Bool) : List Pc :=
  if j = false ∧ k.len = 0 then [(a.first, a.y, 1)]
  else (if k.at_ = a.first then [] else [(a.first, a.y, 1)]) ++ [(k.at_, k.y, k.r)] ++ (if j = true then [] else [(k.at_ + k.len, k.now (k.at_ + k.len), 1)])
/-! ### the plain law -/
theorem num_pos_iff {q : Rat} : 0 < q.num ↔ 0 < q := by
  have h := neg_num (q := -q)
  rw [Rat.neg_num] at h
  constructor
  · intro z
    have := h.mp (by omega)
    grind
  · intro z
    have := h.mpr (by grind)
    omega
theorem now_atQ {cs : List Pc} {p0 : Pc} {t : Rat} (ha : Asc cs) (h0 : cs[0]? = some p0) (h : ¬ t < p0.1) : nowQ cs t = some (atQ cs t) := by
  obtain ⟨p, hp, h1, h2⟩ := place_at ha h0 (by grind : p0.1 ≤ t)
  rw [now_at ha hp h1 h2]
  unfold atQ
  rw [hp]
theorem k0_now {a : KA} {raw : Rat} (h : ¬ raw < a.first) : a.k0.now raw = a.y + (raw - a.first) := by
  unfold KS.now KA.k0
  have : ¬ raw - a.first < 0 := by grind
  simp only
  rw [if_neg this]
  grind
theorem st_at {a : KA} {raw : Rat} : atQ a.st.ps raw = a.y + (raw - a.first) := by
  show pline (a.first, a.y, 1) raw = _
  unfold pline
  grind
theorem beh_same {b l s d : Rat} (h : 0 ≤ l) (hs : 0 < s) : behQ b b l s d = d * l + b := by
  unfold behQ maxQ
  have := Rat.mul_nonneg (Rat.le_of_lt hs) h
  by_cases e : b - s * l < b
  · rw [if_pos e]
  · rw [if_neg e]; grind
theorem st_err {a : KA} {raw : Rat} (h : ¬ raw < a.first) (hs : 0 < a.slew) : a.st.err raw = a.k0.bnd a.slew a.drift raw := by
  show behQ a.err a.err (raw - a.first) a.slew a.drift = _
  rw [beh_same (by grind) hs]
  unfold KS.bnd KA.k0
  grind
theorem k0_bnd {a : KA} {raw : Rat} : a.k0.bnd a.slew a.drift raw = a.err + a.drift * (raw - a.first) := rfl
theorem close_le {lo hi x b : Rat} (h : lo ≤ hi) : (closeQ lo hi x b).1 ≤ (closeQ lo hi x b).2 := by
  unfold closeQ
  split
  · exact h
  · simp only; grind
theorem half_eq (lo hi : Rat) : (hi - lo) / fr 2 1 = (lo + hi) * fr 1 2 - lo := by
  have e1 : fr 2 1 = 2 := by decide +kernel
  have e2 : fr 1 2 = 1 / 2 := by decide +kernel
  rw [e1, e2]; grind
theorem far_eq {lo hi x : Rat} (h : lo ≤ hi) : farQ lo hi x = absQ ((lo + hi) * fr 1 2 - x) + ((lo + hi) * fr 1 2 - lo) := by
  have e2 : fr 1 2 = 1 / 2 := by decide +kernel
  rw [e2]
  unfold farQ maxQ absQ
  grind
theorem len_zero {g s : Rat} (hs : 0 < s) : absQ g / s = 0 ↔ g = 0 := by
  constructor
  · intro h
    have : absQ g = 0 := by
      have e : absQ g = absQ g / s * s := by grind
      rw [e, h]; grind
    unfold absQ at this
    grind
  · intro h
    rw [h]
    have : absQ 0 = 0 := by decide +kernel
    rw [this]; grind
theorem tidy_1 (p : Pc) : tidyQ [p] = [p] := rfl
theorem tidy_2 (p q : Pc) : tidyQ [p, q] = p :: (tF (p, q)).toList := by
  show [p] ++ [(p, q)].filterMap tF = _
  cases h : tF (p, q) <;> simp [h]
theorem tidy_3 (p q r : Pc) : tidyQ [p, q, r] = p :: ((tF (p, q)).toList ++ (tF (q, r)).toList) := by
  show [p] ++ [(p, q), (q, r)].filterMap tF = _
  cases h : tF (p, q) <;> cases h2 : tF (q, r) <;> simp [h, h2]
theorem tF_rate {p q : Pc} (h : q.2.2 ≠ p.2.2) : tF (p, q) = some q := by
  unfold tF; rw [if_neg (fun z => h z.1)]
theorem tF_jmp {p q : Pc} (h : jmp p q ≠ 0) : tF (p, q) = some q := by
  unfold tF; rw [if_neg (fun z => h z.2)]
theorem tF_no {p q : Pc} (h : q.2.2 = p.2.2) (h2 : jmp p q = 0) : tF (p, q) = none := by
  unfold tF; rw [if_pos ⟨h, h2⟩]
theorem flt_st (a : KA) (raw : Rat) : a.st.ps.filter (fun p => decide (p.1 < raw)) = if a.first < raw then [(a.first, a.y, 1)] else [] := by
  show [(a.first, a.y, (1 : Rat))].filter _ = _
  by_cases h : a.first < raw <;> simp [h]
/-- what the plan leads to, tidied behind the beginning -/
theorem tidy_still {a : KA} {raw : Rat} (h : ¬ raw < a.first) : tidyQ (a.st.ps.filter (fun p => decide (p.1 < raw)) ++ [(raw, a.y + (raw - a.first), 1)]) = [(a.first, a.y, 1)] := by
  rw [flt_st]
  by_cases e : a.first < raw
  · rw [if_pos e]
    show tidyQ [_, _] = _
    rw [tidy_2, tF_no (p := (a.first, a.y, 1)) (q := (raw, a.y + (raw - a.first), 1)) rfl (by unfold jmp pline; grind)]
    rfl
  · rw [if_neg e]
    have : raw = a.first := by grind
    subst this
    show tidyQ [_] = _
    rw [tidy_1]
    have : a.y + (a.first - a.first) = a.y := by grind
    rw [this]
theorem tidy_jump {a : KA} {raw y : Rat} (h : ¬ raw < a.first) (hy : y ≠ a.y + (raw - a.first)) : tidyQ (a.st.ps.filter (fun p => decide (p.1 < raw)) ++ [(raw, y, 1)]) = (if raw = a.first then [] else [(a.first, a.y, 1)]) ++ [(raw, y, 1)] := by
  rw [flt_st]
  by_cases e : a.first < raw
  · rw [if_pos e, if_neg (by grind)]
    show tidyQ [_, _] = _
    rw [tidy_2, tF_jmp (by unfold jmp pline; grind)]
    rfl
  · rw [if_neg e, if_pos (by grind)]
    rfl
theorem tidy_turn {a : KA} {raw r w z : Rat} (h : ¬ raw < a.first) (hr : r ≠ 1) : tidyQ (a.st.ps.filter (fun p => decide (p.1 < raw)) ++ [(raw, a.y + (raw - a.first), r), (w, z, 1)]) = (if raw = a.first then [] else [(a.first, a.y, 1)]) ++ [(raw, a.y + (raw - a.first), r)] ++ [(w, z, 1)] := by
  rw [flt_st]
  by_cases e : a.first < raw
  · rw [if_pos e, if_neg (by grind)]
    show tidyQ [_, _, _] = _
    rw [tidy_3, tF_rate (by simpa using hr), tF_rate (by simpa using Ne.symm hr)]
    rfl
  · rw [if_neg e, if_pos (by grind)]
    show tidyQ [_, _] = _
    rw [tidy_2, tF_rate (by simpa using Ne.symm hr)]
    rfl
theorem turn_end {w aim slew : Rat} (s0 : 0 < slew) : w + rateQ w aim slew * (absQ (aim - w) / slew) = aim + absQ (aim - w) / slew := by
  have e1 : slew * (absQ (aim - w) / slew) = absQ (aim - w) := by grind
  generalize absQ (aim - w) / slew = L at *
  unfold rateQ
  unfold absQ at e1
  split <;> grind
/-- what is asked of a call of steer behind the beginning -/
structure Go (a : KA) (raw : Rat) (sp : Option Spn) : Prop where
  r0 : ¬ raw < a.first
  s0 : 0 < a.slew
  d0 : ¬ a.drift < 0
  o0 : ∀ d, a.step = some d → ¬ d < 0
  c0 : ∀ lo hi, sp = some (some lo, some hi) → lo ≤ hi
structure Steered (a : KA) (raw : Rat) (s : StQ) (t : Turn) : Prop where
  ps : s.ps = dueQ a t.k t.j
  at1 : s.at_ = raw
  at2 : t.k.at_ = raw
  aim : s.aim = t.aim
  er : ∀ x, ¬ x < raw → s.err x = t.k.bnd a.slew a.drift x
  sl : s.slew = a.slew
  dr : s.drift = a.drift
  st : s.step = a.step
  le : 0 ≤ t.k.len
  bd : s.bound = t.k.b
  hf : s.half = t.k.h.getD t.k.b
theorem steered_idle {a : KA} {raw : Rat} {sp : Option Spn} (g : Go a raw sp) (h : opnB sp = true) : Steered a raw (a.st.after raw sp) (turnQ a a.k0 raw sp) := by
  rw [(opn_after h).1, turn_opn h]
  refine ⟨?_, rfl, rfl, rfl, fun x hx => ?_, rfl, rfl, rfl, Rat.le_refl, st_err g.r0 g.s0, st_err g.r0 g.s0⟩
  · show tidyQ (a.st.ps.filter (fun p => decide (p.1 < raw)) ++ [(raw, atQ a.st.ps raw, 1)]) = _
    rw [st_at, tidy_still g.r0]
    unfold dueQ
    rw [if_pos ⟨rfl, rfl⟩]
  · show behQ (a.st.err raw) (a.st.err raw) (x - raw) a.slew a.drift = a.k0.bnd a.slew a.drift raw + a.drift * (x - raw)
    rw [beh_same (by grind) g.s0, st_err g.r0 g.s0]
    grind
theorem steered {a : KA} {raw : Rat} {sp : Option Spn} (g : Go a raw sp) : Steered a raw (a.st.after raw sp) (turnQ a a.k0 raw sp) := by
  by_cases ho : opnB sp = true
  · exact steered_idle g ho
  obtain ⟨lo, hi, rfl⟩ := opn_no (by simpa using ho)
  have hle := g.c0 lo hi rfl
  have en := k0_now g.r0
  have eb := st_err g.r0 g.s0
  have ea : a.st.after raw (some (some lo, some hi)) = a.st.goto raw (closeQ lo hi (atQ a.st.ps raw) (a.st.err raw)).1 (closeQ lo hi (atQ a.st.ps raw) (a.st.err raw)).2 := rfl
  have et : turnQ a a.k0 raw (some (some lo, some hi)) = a.go raw (a.k0.now raw) (closeQ lo hi (a.k0.now raw) (a.k0.bnd a.slew a.drift raw)).1 (closeQ lo hi (a.k0.now raw) (a.k0.bnd a.slew a.drift raw)).2 := rfl
  rw [ea, et, st_at, en, eb]
  have cl := close_le (x := a.y + (raw - a.first)) (b := a.k0.bnd a.slew a.drift raw) hle
  generalize (closeQ lo hi (a.y + (raw - a.first)) (a.k0.bnd a.slew a.drift raw)).1 = f1 at *
  generalize (closeQ lo hi (a.y + (raw - a.first)) (a.k0.bnd a.slew a.drift raw)).2 = f2 at *
  have hh := half_eq f1 f2
  have hf := far_eq (x := a.y + (raw - a.first)) cl
  have ej : ∀ x y, a.st.jumps x y = a.over (y - x) := fun x y => rfl
  unfold StQ.goto StQ.plan KA.go
  rw [st_at, ej, hh, hf]
  generalize (f1 + f2) * fr 1 2 = aim at *
  by_cases hj : a.over (aim - (a.y + (raw - a.first))) = true
  · rw [if_pos hj, if_pos hj, if_pos hj]
    have hne : aim ≠ a.y + (raw - a.first) := by
      unfold KA.over at hj
      split at hj
      · rename_i d hd
        have := g.o0 d hd
        have := of_decide_eq_true hj
        grind
      · cases hj
    refine ⟨?_, rfl, rfl, rfl, fun x hx => ?_, rfl, rfl, rfl, Rat.le_refl, rfl, rfl⟩
    · show tidyQ (a.st.ps.filter (fun p => decide (p.1 < raw)) ++ [(raw, aim, 1)]) = _
      rw [tidy_jump g.r0 hne]
      show _ = dueQ a ⟨raw, aim, 1, 0, aim - f1, some (aim - f1)⟩ true
      unfold dueQ
      rw [if_neg (show ¬ ((true = false) ∧ (0 : Rat) = 0) from fun z => by cases z.1), if_pos (rfl : true = true), List.append_nil]
    · show behQ (aim - f1) (aim - f1) (x - raw) a.slew a.drift = _
      rfl
  · rw [if_neg hj, if_neg hj, if_neg hj]
    have hlen : 0 ≤ absQ (aim - (a.y + (raw - a.first))) / a.slew := by
      rw [Rat.div_def]
      exact Rat.mul_nonneg (absQ_nn _) (Rat.le_of_lt (Rat.inv_pos.mpr g.s0))
    refine ⟨?_, rfl, rfl, rfl, fun x hx => rfl, rfl, rfl, rfl, hlen, rfl, rfl⟩
    show tidyQ (a.st.ps.filter (fun p => decide (p.1 < raw)) ++ towardsQ raw (a.y + (raw - a.first)) aim a.slew) = _
    unfold towardsQ dueQ
    by_cases h0 : aim = a.y + (raw - a.first)
    · rw [if_pos h0, tidy_still g.r0, if_pos ⟨rfl, (len_zero g.s0).mpr (by grind)⟩]
    · have hl0 : ¬ (false = false ∧ absQ (aim - (a.y + (raw - a.first))) / a.slew = 0) := fun z => h0 (by have := (len_zero g.s0).mp z.2; grind)
      rw [if_neg h0, if_neg hl0, if_neg (by decide : ¬ (false = true))]
      have er : a.pace (aim - (a.y + (raw - a.first))) = rateQ (a.y + (raw - a.first)) aim a.slew := by
        unfold KA.pace rateQ
        rw [if_neg (by grind)]
        by_cases q : a.y + (raw - a.first) < aim
        · rw [if_pos q, if_pos (by grind)]
        · rw [if_neg q, if_neg (by grind)]; grind
      have hr : rateQ (a.y + (raw - a.first)) aim a.slew ≠ 1 := by
        have := g.s0
        unfold rateQ; split <;> grind
      rw [tidy_turn g.r0 hr, er]
      unfold lenQ
      have ex := turn_end (w := a.y + (raw - a.first)) (aim := aim) g.s0
      have ey : KS.now ⟨raw, a.y + (raw - a.first), rateQ (a.y + (raw - a.first)) aim a.slew, absQ (aim - (a.y + (raw - a.first))) / a.slew, absQ (aim - (a.y + (raw - a.first))) + (aim - f1), some (aim - f1)⟩ (raw + absQ (aim - (a.y + (raw - a.first))) / a.slew) = aim + absQ (aim - (a.y + (raw - a.first))) / a.slew := by
        rw [← ex]
        unfold KS.now
        simp only
        generalize absQ (aim - (a.y + (raw - a.first))) / a.slew = L at *
        have eL : raw + L - raw = L := by grind
        rw [eL, if_neg (by grind)]
        grind
      rw [ey]
/-! ### sizes -/
/-- a span that is drawn -/
def SpanP (sp : Option Spn) : Prop := ∀ s, sp = some s → SzS 80 s ∧ ∀ lo hi, s = (some lo, some hi) → lo ≤ hi
structure BegZ (a : KA) : Prop where
  zf : Sz 7 a.first
  zy : Sz 14 a.y
  ze : Sz 6 a.err
  e0 : ¬ a.err < 0
  zs : Sz 6 a.slew
  zi : Sz 48 a.slew⁻¹
  zd : Sz 12 a.drift
  gs : GoodS a.slew a.drift
  zo : SzO 300 a.step
  o0 : GoodO a.step
theorem BegZ.sz {a : KA} (h : BegZ a) : a.sz := ⟨h.zf.mono (by decide), h.zy.mono (by decide), h.ze.mono (by decide), h.zs.mono (by decide), h.zd.mono (by decide), h.zo⟩
theorem BegZ.good {a : KA} (h : BegZ a) : a.good := ⟨h.e0, h.gs, h.o0⟩
theorem BegZ.s0 {a : KA} (h : BegZ a) : 0 < a.slew := h.gs.1
/-- .. steered at raw -/
structure RawZ (a : KA) (raw : Rat) : Prop where
  b : BegZ a
  p : ∃ p, PSpare p ∧ raw = a.first + p
theorem RawZ.ge {a : KA} {raw : Rat} (h : RawZ a raw) : ¬ raw < a.first := by
  obtain ⟨p, hp, e⟩ := h.p
  have := hp.2
  grind
theorem RawZ.zr {a : KA} {raw : Rat} (h : RawZ a raw) : Sz 14 raw := by
  obtain ⟨p, hp, e⟩ := h.p
  rw [e]; exact (h.b.zf.add (szSpare hp)).mono (by decide)
theorem RawZ.zn {a : KA} {raw : Rat} (h : RawZ a raw) : Sz 21 (a.k0.now raw) := by
  rw [k0_now h.ge]
  obtain ⟨p, hp, e⟩ := h.p
  have : raw - a.first = p := by grind
  rw [this]
  exact (h.b.zy.add (szSpare hp)).mono (by decide)
theorem RawZ.zb {a : KA} {raw : Rat} (h : RawZ a raw) : Sz 25 (a.k0.bnd a.slew a.drift raw) := by
  rw [k0_bnd]
  obtain ⟨p, hp, e⟩ := h.p
  have : raw - a.first = p := by grind
  rw [this]
  exact (h.b.ze.add (h.b.zd.mul (szSpare hp))).mono (by decide)
theorem RawZ.b0 {a : KA} {raw : Rat} (h : RawZ a raw) : 0 ≤ a.k0.bnd a.slew a.drift raw := by
  rw [k0_bnd]
  have h1 := h.ge
  have h2 := h.b.e0
  have h3 := h.b.gs.2.2.1
  have := Rat.mul_nonneg (show 0 ≤ a.drift by grind) (show 0 ≤ raw - a.first by grind)
  grind
theorem k0_sz {a : KA} (h : BegZ a) : a.k0.sz := ⟨h.zf.mono (by decide), h.zy.mono (by decide), ones_sz.mono (by decide), (sz_zero (k := 0)).mono (by decide), h.ze.mono (by decide), fun q z => by cases z⟩
theorem RawZ.turn {a : KA} {raw : Rat} (h : RawZ a raw) {sp : Option Spn} (hs : SpanP sp) : TurnZ a a.k0 raw sp :=
  ⟨h.b.sz, k0_sz h.b, h.zr.mono (by decide), h.zn.mono (by decide), h.zb.mono (by decide), h.b0, h.b.s0, fun lo hi e => by
    obtain ⟨h1, h2⟩ := hs _ e
    exact ⟨h2 lo hi rfl, h1.1 lo rfl, h1.2 hi rfl⟩⟩
theorem RawZ.go {a : KA} {raw : Rat} (h : RawZ a raw) {sp : Option Spn} (hs : SpanP sp) : Go a raw sp :=
  ⟨h.ge, h.b.s0, h.b.gs.2.2.1, h.b.o0, fun lo hi e => (hs _ e).2 lo hi rfl⟩
end DL

end
section
set_option Elab.async false
set_option linter.all false
set_option autoImplicit true
set_option maxRecDepth 100000
set_option maxHeartbeats 400000
/-! steering, call after call: fractions on a grid, the law's state and the program's -/
namespace DL
open PySem L2
open PyProof.Rows hiding St
/-! ### fractions on a grid, within a bound -/
structure La (N : Nat) (m q : Rat) : Prop where
  n0 : N ≠ 0
  d : q.den ∣ N
  lo : -m ≤ q
  hi : q ≤ m
theorem La.m0 {N : Nat} {m q : Rat} (h : La N m q) : 0 ≤ m := by have := h.lo; have := h.hi; grind
theorem La.mono {N M : Nat} {m m' q : Rat} (h : La N m q) (e : N ∣ M) (n : M ≠ 0) (k : m ≤ m') : La M m' q := ⟨n, Nat.dvd_trans h.d e, by have := h.lo; grind, by have := h.hi; grind⟩
theorem La.up {N : Nat} {m m' q : Rat} (h : La N m q) (k : m ≤ m') : La N m' q := h.mono (Nat.dvd_refl _) h.n0 k
theorem La.add {N : Nat} {m m' a b : Rat} (h : La N m a) (h' : La N m' b) : La N (m + m') (a + b) :=
  ⟨h.n0, add_den h.d h'.d h.n0, by have := h.lo; have := h'.lo; grind, by have := h.hi; have := h'.hi; grind⟩
theorem La.neg {N : Nat} {m a : Rat} (h : La N m a) : La N m (-a) := ⟨h.n0, by simpa using h.d, by have := h.hi; grind, by have := h.lo; grind⟩
theorem La.sub {N : Nat} {m m' a b : Rat} (h : La N m a) (h' : La N m' b) : La N (m + m') (a - b) := by
  rw [Rat.sub_eq_add_neg]; exact h.add h'.neg
theorem La.abs {N : Nat} {m a : Rat} (h : La N m a) : La N m (absQ a) := by
  unfold absQ; split; exact h.neg; exact h
theorem La.max {N : Nat} {m a b : Rat} (h : La N m a) (h' : La N m b) : La N m (maxQ a b) := by unfold maxQ; split <;> assumption
theorem La.min {N : Nat} {m a b : Rat} (h : La N m a) (h' : La N m b) : La N m (minQ a b) := by unfold minQ; split <;> assumption
theorem La.mul {N M : Nat} {m m' a b : Rat} (h : La N m a) (h' : La M m' b) : La (N * M) (m * m') (a * b) := by
  have h1 := h.lo
  have h2 := h.hi
  have h3 := h'.lo
  have h4 := h'.hi
  refine ⟨Nat.mul_ne_zero h.n0 h'.n0, ?_, ?_, ?_⟩
  · rw [Rat.den_mul]
    exact Nat.dvd_trans (Nat.div_dvd_of_dvd (Nat.gcd_dvd_right ..)) (Nat.mul_dvd_mul h.d h'.d)
  · have x1 := Rat.mul_nonneg (show 0 ≤ m + a by grind) (show 0 ≤ m' + b by grind)
    have x2 := Rat.mul_nonneg (show 0 ≤ m - a by grind) (show 0 ≤ m' - b by grind)
    grind
  · have x1 := Rat.mul_nonneg (show 0 ≤ m + a by grind) (show 0 ≤ m' - b by grind)
    have x2 := Rat.mul_nonneg (show 0 ≤ m - a by grind) (show 0 ≤ m' + b by grind)
    grind
theorem La.half {N : Nat} {m a : Rat} (h : La N m a) : La (2 * N) m (a * fr 1 2) := by
  have e : La 2 1 (fr 1 2) := ⟨by decide, by decide +kernel, by decide +kernel, by decide +kernel⟩
  have := h.mul e
  rw [Nat.mul_comm N 2] at this
  exact this.up (by grind)
theorem num_le {q : Rat} {m : Rat} {k : Nat} (h1 : -m ≤ q) (h2 : q ≤ m) (hk : m * (q.den : Rat) < ((2 ^ k : Nat) : Rat)) : q.num.natAbs < 2 ^ k := by
  have d0 : 0 ≤ (q.den : Rat) := by exact_mod_cast Nat.zero_le q.den
  have e : q * (q.den : Rat) = (q.num : Rat) := by
    have hd : ((q.den : Int)) ≠ 0 := by have := q.den_nz; omega
    have h1 := Rat.divInt_mul_divInt q.num (q.den : Int) (d₁ := (q.den : Int)) (d₂ := 1)
    have h2 : fr (q.den : Int) 1 = ((q.den : Int) : Rat) := fr_one _
    have h3 : fr q.num 1 = ((q.num : Int) : Rat) := fr_one _
    rw [← natI, ← h2, ← h3]
    have h4 := Rat.divInt_mul_right (n := q.num) (d := 1) hd
    rw [Int.mul_comm 1] at h4
    unfold fr
    rw [← h4, ← h1, Rat.num_divInt_den]
  have u1 := Rat.mul_nonneg (show 0 ≤ m - q by grind) d0
  have u2 := Rat.mul_nonneg (show 0 ≤ m + q by grind) d0
  have v1 : (q.num : Rat) < (((2 ^ k : Nat) : Int) : Rat) := by rw [natI]; grind
  have v2 : ((-q.num : Int) : Rat) < (((2 ^ k : Nat) : Int) : Rat) := by rw [natI, Rat.intCast_neg]; grind
  have w1 := Rat.intCast_lt_intCast.mp v1
  have w2 := Rat.intCast_lt_intCast.mp v2
  omega
theorem La.sz {N j : Nat} {m q : Rat} (h : La N m q) (hN : N < 2 ^ j) (hm : m ≤ ((2 ^ (7 * j) : Nat) : Rat)) : Sz j q := by
  have dl : q.den ≤ N := Nat.le_of_dvd (Nat.pos_of_ne_zero h.n0) h.d
  refine ⟨?_, by omega⟩
  show q.num.natAbs < 2 ^ (8 * j)
  refine num_le h.lo h.hi ?_
  have e : (2 ^ (8 * j) : Nat) = 2 ^ (7 * j) * 2 ^ j := by rw [← Nat.pow_add]; congr 1; omega
  have e2 : ((2 ^ (8 * j) : Nat) : Rat) = ((2 ^ (7 * j) : Nat) : Rat) * ((2 ^ j : Nat) : Rat) := by rw [e, Rat.natCast_mul]
  have a1 : (q.den : Rat) < ((2 ^ j : Nat) : Rat) := by
    rw [← natI, ← natI]
    exact Rat.intCast_lt_intCast.mpr (by omega)
  have a2 : (0 : Rat) < ((2 ^ (7 * j) : Nat) : Rat) := by
    rw [← natI]
    exact Rat.intCast_lt_intCast.mpr (by have := Nat.pow_pos (n := 7 * j) (show 0 < 2 by decide); show (0 : Int) < ((2 ^ (7 * j) : Nat) : Int); omega)
  have d0 : 0 ≤ (q.den : Rat) := by rw [← natI]; exact Rat.intCast_nonneg.mpr (by omega)
  have x1 := Rat.mul_nonneg (show 0 ≤ ((2 ^ (7 * j) : Nat) : Rat) - m by grind) d0
  have x2 := Rat.mul_pos a2 (show 0 < ((2 ^ j : Nat) : Rat) - (q.den : Rat) by grind)
  rw [e2]
  grind
/-! ### the program's steering and the law's state -/
structure Ag (a : KA) (s : StQ) (k : KS) : Prop where
  asc : Asc s.ps
  p0 : ∃ p, s.ps[0]? = some p ∧ p.1 = a.first
  ff : ¬ s.at_ < a.first
  at_ : k.at_ = s.at_
  sh : ∀ t, ¬ t < s.at_ → nowQ s.ps t = some (k.now t)
  er : ∀ t, ¬ t < s.at_ → s.err t = k.bnd a.slew a.drift t
  sl : s.slew = a.slew
  dr : s.drift = a.drift
  st : s.step = a.step
  ti : tidyQ s.ps = s.ps
  le : 0 ≤ k.len
structure GoG (a : KA) (sp : Option Spn) : Prop where
  s0 : 0 < a.slew
  o0 : ∀ d, a.step = some d → ¬ d < 0
  c0 : ∀ lo hi, sp = some (some lo, some hi) → lo ≤ hi
theorem Ag.ne {a : KA} {s : StQ} {k : KS} (A : Ag a s k) : s.ps ≠ [] := by
  obtain ⟨p, hp, _⟩ := A.p0
  intro z; rw [z] at hp; cases hp
theorem Ag.p1 {a : KA} {s : StQ} {k : KS} (A : Ag a s k) {t : Rat} (h : ¬ t < a.first) : ∃ p, s.ps[0]? = some p ∧ ¬ t < p.1 := by
  obtain ⟨p, hp, e⟩ := A.p0
  exact ⟨p, hp, by rw [e]; exact h⟩
theorem Ag.at1 {a : KA} {s : StQ} {k : KS} (A : Ag a s k) {t : Rat} (h : ¬ t < a.first) : nowQ s.ps t = some (atQ s.ps t) := by
  obtain ⟨p, hp, q⟩ := A.p1 h
  exact now_atQ A.asc hp q
theorem Ag.atK {a : KA} {s : StQ} {k : KS} (A : Ag a s k) {t : Rat} (h : ¬ t < s.at_) : atQ s.ps t = k.now t := by
  have h1 := A.at1 (t := t) (by have := A.ff; grind)
  rw [A.sh t h] at h1
  exact (Option.some.inj h1).symm
theorem now_app1 {kp pl : List Pc} {t : Rat} (h : pl.filter (past t) ≠ []) : nowQ (kp ++ pl) t = nowQ pl t := by
  unfold nowQ
  rw [List.filter_append, List.getLast?_append]
  cases e : (pl.filter (past t)).getLast? with
  | none => exact absurd (List.getLast?_eq_none_iff.mp e) h
  | some p => rfl
theorem now_app0 {kp pl : List Pc} {t : Rat} (h : pl.filter (past t) = []) : nowQ (kp ++ pl) t = nowQ kp t := by
  unfold nowQ
  rw [List.filter_append, h, List.append_nil]
theorem now_kept {c : List Pc} {raw t : Rat} (h : t < raw) : nowQ (c.filter (fun p => decide (p.1 < raw))) t = nowQ c t := by
  unfold nowQ
  rw [List.filter_filter]
  congr 3
  funext p
  unfold past
  by_cases q : t < p.1
  · simp [q]
  · have : p.1 < raw := by grind
    simp [q, this]
/-- what is planned from raw on -/
structure PlanOk (P : List Pc) (raw : Rat) (k : KS) : Prop where
  hd : ∃ p, P[0]? = some p ∧ p.1 = raw
  ge : ∀ p ∈ P, ¬ p.1 < raw
  asc : Asc P
  now : ∀ x, ¬ x < raw → nowQ P x = some (k.now x)
theorem PlanOk.past {P : List Pc} {raw x : Rat} {k : KS} (h : PlanOk P raw k) (q : ¬ x < raw) : P.filter (DL.past x) ≠ [] := by
  intro z
  have := h.now x q
  unfold nowQ at this
  rw [z] at this
  cases this
theorem asc_flt {c : List Pc} {f : Pc → Bool} (h : Asc c) : Asc (c.filter f) := List.Pairwise.sublist List.filter_sublist h
/-! ### on the grid -/
/-- behind a call of steer -/
structure TL (a : KA) (N : Nat) (m : Rat) (u : Nat) (raw : Rat) (t : Turn) : Prop where
  y : La (2 * N) (2 * m) t.k.y
  aim : ∀ q, t.aim = some q → La (2 * N) (2 * m) q
  b : La (2 * N) (7 * m) t.k.b
  h : ∀ q, t.k.h = some q → La (2 * N) (4 * m) q
  len : La (2 * N * u) (192 * m) t.k.len
  z : ∃ z, La (2 * N) (2 * m) z ∧ ∀ x, 0 ≤ x → t.k.now (raw + x) = if x < t.k.len then t.k.y + t.k.r * x else z + x
  r : t.k.r = 1 ∨ t.k.r = 1 + a.slew ∨ t.k.r = 1 - a.slew
/-! ### what the defs ask of sizes -/
structure BigZ (N u : Nat) (m : Rat) : Prop where
  n : 2 * N * u < 2 ^ 280
  m : 200 * m ≤ ((2 ^ (7 * 280) : Nat) : Rat)
theorem BigZ.sz {N u : Nat} {m : Rat} (h : BigZ N u m) (m0 : 0 ≤ m) (u0 : u ≠ 0) {q : Rat} (hq : La (2 * N * u) (200 * m) q) : Sz 300 q := (hq.sz h.n h.m).mono (by decide)
theorem BigZ.s2 {N u : Nat} {m c : Rat} (h : BigZ N u m) (m0 : 0 ≤ m) (u0 : u ≠ 0) {q : Rat} (hq : La (2 * N) (c * m) q) (hc : c ≤ 200 := by decide +kernel) : Sz 300 q :=
  h.sz m0 u0 (hq.mono (Nat.dvd_mul_right _ _) (Nat.mul_ne_zero hq.n0 u0) (by have := Rat.mul_nonneg (show 0 ≤ 200 - c by grind) m0; grind))
theorem BigZ.s1 {N u : Nat} {m : Rat} (h : BigZ N u m) (m0 : 0 ≤ m) (u0 : u ≠ 0) {q : Rat} (hq : La N m q) : Sz 300 q :=
  h.s2 (c := 1) m0 u0 (hq.mono (Nat.dvd_mul_left _ _) (by have := hq.n0; omega) (by grind))
/-- sizes of slew, drift, step -/
structure SdZ (a : KA) : Prop where
  zs : Sz 6 a.slew
  zi : Sz 60 a.slew⁻¹
  zd : Sz 60 a.drift
  zo : SzO 300 a.step
end DL

end
section
set_option Elab.async false
set_option linter.all false
set_option autoImplicit true
set_option maxRecDepth 100000
set_option maxHeartbeats 400000
/-! k79: steering comes in -/
namespace DL
open PySem L2
open PyProof.Rows hiding St
/-- a pair of numbers, not in lowest terms -/
def IsP (j : Nat) (x : DL.D) (q : Rat) : Prop := ∃ n d : Int, x = .tup [.int n, .int d] ∧ fr n d = q ∧ Bt (8 * j) n ∧ Bt j d
theorem Sz.q {j : Nat} {q : Rat} (h : Sz j q) : IsP j (qD q) q := ⟨q.num, (q.den : Int), rfl, Rat.num_divInt_den q, h.n, h.d⟩
/-! ### one lap -/
/-! ### the drawn case -/
theorem den_mulQ (q : Rat) : q * (q.den : Rat) = (q.num : Rat) := by
  have hd : ((q.den : Int)) ≠ 0 := by have := q.den_nz; omega
  have h1 := Rat.divInt_mul_divInt q.num (q.den : Int) (d₁ := (q.den : Int)) (d₂ := 1)
  have h2 : fr (q.den : Int) 1 = ((q.den : Int) : Rat) := fr_one _
  have h3 : fr q.num 1 = ((q.num : Int) : Rat) := fr_one _
  rw [← natI, ← h2, ← h3]
  have h4 := Rat.divInt_mul_right (n := q.num) (d := 1) hd
  rw [Int.mul_comm 1] at h4
  unfold fr
  rw [← h4, ← h1, Rat.num_divInt_den]
theorem den_ge1 (q : Rat) : (1 : Rat) ≤ (q.den : Rat) := by
  have h : (1 : Int) ≤ ((q.den : Nat) : Int) := by have := q.den_nz; omega
  have := Rat.intCast_le_intCast.mpr h
  rw [natI] at this
  exact this
theorem sd_la {N n : Nat} {q : Rat} (h : Sd N n q) (h0 : N ≠ 0) : La N ((2 ^ n : Nat) : Rat) q := by
  have e := den_mulQ q
  have d1 := den_ge1 q
  have b : q.num.natAbs < 2 ^ n := h.2
  have u1 : (q.num : Rat) ≤ ((2 ^ n : Nat) : Rat) := by
    rw [← natI]
    exact Rat.intCast_le_intCast.mpr (by omega)
  have u2 : -((2 ^ n : Nat) : Rat) ≤ (q.num : Rat) := by
    rw [← natI, ← Rat.intCast_neg]
    exact Rat.intCast_le_intCast.mpr (by omega)
  have z : (0 : Rat) ≤ ((2 ^ n : Nat) : Rat) := by rw [← natI]; exact Rat.intCast_nonneg.mpr (Int.natCast_nonneg _)
  refine ⟨h0, h.1, ?_, ?_⟩
  · by_cases q0 : 0 ≤ q
    · grind
    · have := Rat.mul_nonneg (show 0 ≤ -q by grind) (show 0 ≤ (q.den : Rat) - 1 by grind)
      grind
  · by_cases q0 : q ≤ 0
    · grind
    · have := Rat.mul_nonneg (show 0 ≤ q by grind) (show 0 ≤ (q.den : Rat) - 1 by grind)
      grind
theorem inv_la {s : Rat} (h : Sz 6 s) (s0 : 0 < s) : La s⁻¹.den 64 s⁻¹ := by
  have i0 : 0 < s⁻¹ := Rat.inv_pos.mpr s0
  refine ⟨s⁻¹.den_nz, Nat.dvd_refl _, by grind, ?_⟩
  have e := den_mulQ s
  have n1 : (1 : Rat) ≤ (s.num : Rat) := by
    have : (1 : Int) ≤ s.num := by have := num_pos_iff.mpr s0; omega
    exact Rat.intCast_le_intCast.mpr this
  have d64 : (s.den : Rat) ≤ 64 := by
    have h2 := h.2
    have : ((s.den : Nat) : Int) ≤ 64 := by omega
    have := Rat.intCast_le_intCast.mpr this
    rw [natI] at this
    exact this
  have m1 := Rat.mul_nonneg (Rat.le_of_lt s0) (show 0 ≤ 64 - (s.den : Rat) by grind)
  have m2 := Rat.mul_nonneg (Rat.le_of_lt i0) (show 0 ≤ s * 64 - 1 by grind)
  have m3 : s⁻¹ * s = 1 := Rat.inv_mul_cancel s (by grind)
  grind
def LA.N (c : LA) : Nat := 240 * (c.s.den * c.d.den)
structure K79 (c : LA) : Prop where
  sp : SlewP c.s c.d
  hl : PStep6 c.l
  hh : PSpare c.h
  b0 : ¬ c.b < 0
  lb : La c.N 268435456 c.b
  zb : Sz 60 c.b
abbrev m24 : Rat := 16777216
section
variable {c : LA} (h : K79 c)
include h
theorem K79.s0 : 0 < c.s := h.sp.1
theorem K79.s1 : c.s < 1 := h.sp.2.1
theorem K79.d0 : 0 ≤ c.d := h.sp.2.2.1
theorem K79.d1 : c.d < c.s := h.sp.2.2.2.1
theorem K79.N0 : c.N ≠ 0 := by unfold LA.N; exact Nat.mul_ne_zero (by decide) (Nat.mul_ne_zero c.s.den_nz c.d.den_nz)
theorem K79.l0 : 0 < c.l := h.hl.1.2
theorem K79.h0 : 0 ≤ c.h := by have := h.hh.2; grind
theorem K79.ls : La c.s.den 1 c.s := ⟨c.s.den_nz, Nat.dvd_refl _, by have := h.s0; grind, by have := h.s1; grind⟩
theorem K79.ld : La c.d.den 1 c.d := ⟨c.d.den_nz, Nat.dvd_refl _, by have := h.d0; grind, by have := h.d1; have := h.s1; grind⟩
theorem K79.ll : La 60 m24 c.l := sd_la h.hl.1.1 (by decide)
theorem K79.lh : La 60 m24 c.h := sd_la h.hh.1 (by decide)
theorem K79.up {M : Nat} {m q : Rat} (hq : La M m q) (k : Nat) (e : c.N = M * k) : La c.N m q := hq.mono ⟨k, e⟩ h.N0 Rat.le_refl
theorem K79.lhN : La c.N m24 c.h := h.up h.lh (4 * (c.s.den * c.d.den)) (by unfold LA.N; omega)
theorem K79.lsl : La c.N m24 (c.s * c.l) := (h.up (h.ls.mul h.ll) (4 * c.d.den) (by unfold LA.N; grind)).up (by grind)
theorem K79.ldl : La c.N m24 (c.d * c.l) := (h.up (h.ld.mul h.ll) (4 * c.s.den) (by unfold LA.N; grind)).up (by grind)
theorem K79.good : c.good := ⟨⟨h.b0, h.hh.2, h.l0⟩, h.sp.good⟩
theorem K79.lu : La c.s⁻¹.den 64 c.s⁻¹ := inv_la h.sp.2.2.2.2.2.1 h.s0
end
def bQ (c : LA) : Nat → Rat
  | 0 => c.b
  | n + 1 => behQ (bQ c n) c.h c.l c.s c.d
def mQ (n : Nat) : Rat := ((8 ^ n * 2 ^ 30 : Nat) : Rat)
theorem mQ_succ (n : Nat) : mQ (n + 1) = 8 * mQ n := by
  unfold mQ
  have : 8 ^ (n + 1) * 2 ^ 30 = 8 * (8 ^ n * 2 ^ 30) := by rw [Nat.pow_succ]; omega
  rw [this, Rat.natCast_mul]
  rfl
theorem mQ_ge : ∀ n, 1073741824 ≤ mQ n
  | 0 => by decide +kernel
  | n + 1 => by have := mQ_ge n; rw [mQ_succ]; grind
theorem mQ_le {n : Nat} (h : n ≤ 7) : mQ n ≤ mQ 7 := by
  have : ∀ k, mQ (7 - k) ≤ mQ 7 := fun k => by
    induction k with
    | zero => exact Rat.le_refl
    | succ k ih =>
      by_cases q : 7 ≤ k
      · have e : 7 - (k + 1) = 7 - k := by omega
        rw [e]; exact ih
      · have e : 7 - k = 7 - (k + 1) + 1 := by omega
        rw [e, mQ_succ] at ih
        have := mQ_ge (7 - (k + 1))
        grind
  have := this (7 - n)
  have e : 7 - (7 - n) = n := by omega
  rw [e] at this
  exact this
theorem bq_la {c : LA} (h : K79 c) : ∀ n, La c.N (mQ n) (bQ c n)
  | 0 => h.lb.up (by decide +kernel)
  | n + 1 => by
    have ih := bq_la h n
    have g := mQ_ge n
    have e := mQ_succ n
    show La c.N _ (c.d * c.l + maxQ (bQ c n - c.s * c.l) c.h)
    have h1 : La c.N (mQ n + m24) (bQ c n - c.s * c.l) := ih.sub h.lsl
    have h2 : La c.N (mQ n + m24) c.h := h.lhN.up (by grind)
    exact (h.ldl.add (h1.max h2)).up (by grind)
theorem N_lt {c : LA} (h : K79 c) : c.N < 2 ^ 26 := by
  have h1 : c.s.den < 2 ^ 6 := h.sp.2.2.2.2.2.1.2
  have h2 : c.d.den < 2 ^ 12 := h.sp.2.2.2.2.2.2.2
  have h3 : c.s.den * c.d.den ≤ 2 ^ 6 * 2 ^ 12 := Nat.mul_le_mul (by omega) (by omega)
  unfold LA.N
  omega
theorem la_300 {c : LA} (h : K79 c) {n : Nat} (hn : n ≤ 7) {q : Rat} (hq : La (2 ^ n * c.N) (mQ 7) q) : Sz 300 q := by
  have h1 := N_lt h
  have h3 : 2 ^ n ≤ 2 ^ 7 := Nat.pow_le_pow_right (by decide) hn
  have h4 : 2 ^ n * c.N ≤ 2 ^ 7 * 2 ^ 26 := Nat.mul_le_mul h3 (by omega)
  exact (hq.sz (j := 280) (Nat.lt_of_le_of_lt h4 (by decide)) (by decide +kernel)).mono (by decide)
/-- what the law makes a steering of -/
structure A79 (c : LA) (a : KA) : Prop where
  es : a.slew = c.s
  ed : a.drift = c.d
  ee : a.err = c.b
  pf : PPart a.first
  py : PPart a.y
  ov : OverP a.step
section
variable {c : LA} {a : KA} (h : K79 c) (g : A79 c a)
include h g
theorem A79.sdz : SdZ a := ⟨by rw [g.es]; exact h.sp.2.2.2.2.2.1, by rw [g.es]; have s0 := h.s0; exact (Sz.inv h.sp.2.2.2.2.2.1 (by grind)).mono (by decide), by rw [g.ed]; exact h.sp.2.2.2.2.2.2.mono (by decide), fun q e => (show Sz 6 q from Sd.sz (g.ov q e).1 (by decide) (show 60 < 2 ^ 6 by decide) (by decide)).mono (by decide)⟩
theorem A79.go {lo hi : Rat} (hl : lo ≤ hi) : GoG a (some (some lo, some hi)) := ⟨by rw [g.es]; exact h.s0, fun d e => (g.ov d e).2, fun a b e => by cases e; exact hl⟩
theorem A79.sz : a.sz := ⟨(szPart g.pf).mono (by decide), (szPart g.py).mono (by decide), by rw [g.ee]; exact h.zb.mono (by decide), (A79.sdz h g).zs.mono (by decide), (A79.sdz h g).zd, (A79.sdz h g).zo⟩
theorem A79.good : a.good := ⟨by rw [g.ee]; exact h.b0, by rw [g.es, g.ed]; exact h.sp.good, fun d e => (g.ov d e).2⟩
end
structure Lap (c : LA) (a : KA) (n : Nat) (raw T : Rat) (s : StQ) (k : KS) : Prop where
  ag : Ag a s k
  z : s.sz
  ln : s.ps.length ≤ 2 * n + 1
  ge : ¬ raw < s.at_
  tr : absQ (k.now raw - T) ≤ k.bnd a.slew a.drift raw
  bd : k.bnd a.slew a.drift raw ≤ bQ c n
  lr : La (2 ^ n * c.N) (mQ n) raw
  lt : La (2 ^ n * c.N) (mQ n - 268435456) T
  lw : La (2 ^ n * c.N) (mQ n) (k.now raw)
  lb : La (2 ^ n * c.N) (mQ n) (k.bnd a.slew a.drift raw)
/-- what _law_within asks of its values -/
structure WithinZ (s : StQ) (r T b : Rat) : Prop where
  z : s.sz
  zr : Sz 300 r
  zt : Sz 300 T
  zb : Sz 300 b
  ge : ¬ r < s.at_
  p0 : ∃ p, s.ps[0]? = some p ∧ ¬ r < p.1
  ze : Sz 300 (s.err r)
  zw : Sz 300 (atQ s.ps r)
  eb : s.err r ≤ b
  wt : absQ (atQ s.ps r - T) ≤ s.err r
theorem within_of {c : LA} {a : KA} {n : Nat} {r T b : Rat} {s : StQ} {k : KS} (h : K79 c) (hn : n ≤ 7) (A : Ag a s k) (z : s.sz) (ge : ¬ r < s.at_) (tr : absQ (k.now r - T) ≤ k.bnd a.slew a.drift r) (bd : k.bnd a.slew a.drift r ≤ b)
    (lr : La (2 ^ n * c.N) (mQ 7) r) (lt : La (2 ^ n * c.N) (mQ 7) T) (lw : La (2 ^ n * c.N) (mQ 7) (k.now r)) (lb : La (2 ^ n * c.N) (mQ 7) (k.bnd a.slew a.drift r)) (lm : La (2 ^ n * c.N) (mQ 7) b) : WithinZ s r T b := by
  have e1 := A.atK ge
  have e2 := A.er r ge
  exact ⟨z, la_300 h hn lr, la_300 h hn lt, la_300 h hn lm, ge, A.p1 (by have := A.ff; grind), by rw [e2]; exact la_300 h hn lb, by rw [e1]; exact la_300 h hn lw, by rw [e2]; exact bd, by rw [e1, e2]; exact tr⟩
theorem n_up {c : LA} (h : K79 c) {n : Nat} {m m' q : Rat} (hq : La c.N m q) (hm : m ≤ m') : La (2 ^ n * c.N) m' q := hq.mono (Nat.dvd_mul_left _ _) (Nat.mul_ne_zero (by have := Nat.pow_pos (n := n) (show 0 < 2 by decide); omega) h.N0) hm
theorem Lap.within {c : LA} {a : KA} {n : Nat} {raw T : Rat} {s : StQ} {k : KS} (h : K79 c) (hn : n ≤ 7) (L : Lap c a n raw T s k) : WithinZ s raw T (bQ c n) := by
  have e := mQ_le hn
  exact within_of h hn L.ag L.z L.ge L.tr L.bd (L.lr.up e) (L.lt.up (by grind)) (L.lw.up e) (L.lb.up e) (n_up h (bq_la h n) e)
/-! ### promises -/
theorem fr4_la {k : Nat} (h : k ≤ 8) : La 4 2 (fr (k : Int) 4) := by
  have : k = 0 ∨ k = 1 ∨ k = 2 ∨ k = 3 ∨ k = 4 ∨ k = 5 ∨ k = 6 ∨ k = 7 ∨ k = 8 := by omega
  rcases this with rfl | rfl | rfl | rfl | rfl | rfl | rfl | rfl | rfl <;> exact ⟨by decide, by decide +kernel, by decide +kernel, by decide +kernel⟩
theorem K79.round {c : LA} (h : K79 c) {k : Nat} (hk : k ≤ 8) : La c.N 33554432 (c.h * fr (k : Int) 4) := (h.up (h.lh.mul (fr4_la hk)) (c.s.den * c.d.den) (by unfold LA.N; omega)).up (by decide +kernel)
end DL

end
section
set_option Elab.async false
set_option linter.all false
set_option autoImplicit true
set_option maxRecDepth 100000
set_option maxHeartbeats 400000
/-! k35: never back -/
namespace DL
open PySem L2
open PyProof.Rows hiding St
section
variable {X : Cx} {n : Nm} {c : Cc} {Γ : SL} {a b : Expr} {x y : DL.D} {pos : Pos} {k l : AK}
end
/-! ### jumps -/
def RateOk (a : KA) (r : Rat) : Prop := r = 1 ∨ r = 1 + a.slew ∨ r = 1 - a.slew
structure Jm (a : KA) (ps : List Pc) (at_ : Rat) (J : List Rat) : Prop where
  rates : ∀ p ∈ ps, RateOk a p.2.2
  js : (jumpsQ ps).map (·.1) = J
  big : ∀ x ∈ jumpsQ ps, ∃ d, a.step = some d ∧ d < x.2
  le : ∀ x ∈ jumpsQ ps, x.1 ≤ at_
/-! ### on the grid -/
structure C35 (a : KA) (u D : Nat) : Prop where
  sd : SdZ a
  gs : GoodS a.slew a.drift
  o0 : GoodO a.step
  lu : La u 64 a.slew⁻¹
  ls : La D 1 a.slew
  ld : La D 1 a.drift
  u6 : u < 2 ^ 6
  d9 : D < 2 ^ 9
  sz : a.sz
  lf : La (120 * D) 4398046511104 a.first
  ly : La (120 * D) 4398046511104 a.y
  le : La (120 * D) 4398046511104 a.err
  e0 : ¬ a.err < 0
def mC (n : Nat) : Rat := ((2048 ^ n * 2 ^ 42 : Nat) : Rat)
def NC (c D n : Nat) : Nat := c ^ n * (120 * D)
/-- what stands between two calls -/
structure NB (a : KA) (u D c n : Nat) (s : StQ) (k : KS) (aim : Option Rat) (J : List Rat) : Prop where
  ag : Ag a s k
  z : s.sz
  ln : s.ps.length ≤ 2 * n + 1
  tl : TL a (NC c D n) (mC n) u k.at_ ⟨k, aim, false⟩
  aim : s.aim = aim
  la : La (NC c D n) (mC n) k.at_
  nb : 0 ≤ k.b
  nh : ∀ h, k.h = some h → 0 ≤ h
  jm : Jm a s.ps s.at_ J
  lj : J.length ≤ n
def SpanL (N : Nat) (m : Rat) (sp : Option Spn) : Prop := ∀ s, sp = some s → (∀ q, s.1 = some q → La N m q) ∧ (∀ q, s.2 = some q → La N m q) ∧ ∀ lo hi, s = (some lo, some hi) → lo ≤ hi
/-! ### promises -/
structure CourseZ (a : KA) (cs : List Pc) (J : List Rat) : Prop where
  za : a.sz
  zc : Cz 300 300 70 cs
  asc : Asc cs
  p0 : ∃ p, cs[0]? = some p ∧ p.1 = a.first
  ti : tidyQ cs = cs
  rates : ∀ p ∈ cs, RateOk a p.2.2
  js : (jumpsQ cs).map (·.1) = J
  big : ∀ x ∈ jumpsQ cs, ∃ d, a.step = some d ∧ d < x.2
  o0 : GoodO a.step
  lc : cs.length ≤ 1000
  lj : J.length ≤ 1000
theorem NB.course {a : KA} {u D c n : Nat} {s : StQ} {k : KS} {aim : Option Rat} {J : List Rat} (C : C35 a u D) (hn : n ≤ 100) (B : NB a u D c n s k aim J) : CourseZ a s.ps J :=
  ⟨C.sz, B.z.zp, B.ag.asc, B.ag.p0, B.ag.ti, B.jm.rates, B.jm.js, B.jm.big, C.o0, B.z.np, by have := B.lj; omega⟩
theorem CourseZ.next {a : KA} {cs : List Pc} {J : List Rat} (h : CourseZ a cs J) {i : Nat} {p q : Pc} (hp : cs[i]? = some p) (hq : cs[i + 1]? = some q) : p.1 < q.1 ∧ (jmp p q = 0 ∨ ∃ d, a.step = some d ∧ d < jmp p q ∧ 0 < jmp p q) ∧ ¬ (q.2.2 = p.2.2 ∧ jmp p q = 0) := by
  have hx := prs_at hp hq
  refine ⟨asc_lt h.asc hp hq (by omega), ?_, fun z => ?_⟩
  · by_cases z : jmp p q = 0
    · exact .inl z
    · have : (q.1, jmp p q) ∈ jumpsQ cs := by
        unfold jumpsQ
        exact List.mem_filterMap.mpr ⟨(p, q), List.mem_of_getElem? hx, by unfold jF; simp [z]⟩
      obtain ⟨d, h1, h2⟩ := h.big _ this
      exact .inr ⟨d, h1, h2, by have := h.o0 d h1; grind⟩
  · have e : tF (p, q) = none := tF_no z.1 z.2
    have c0 : contI cs = [] := by rw [← h.ti]; exact cont_tidy
    have : ((i : Int) + 1) ∈ contI cs := cont_mem.mpr ⟨by unfold cf; rw [hx]; simp [e], by have := (List.getElem?_eq_some_iff.mp hq).1; omega⟩
    rw [c0] at this
    cases this
/-! ### the law's own readings -/
theorem SpanL.mono {N : Nat} {m m' : Rat} {sp : Option Spn} (h : SpanL N m sp) (e : m ≤ m') : SpanL N m' sp := fun s q => by
  obtain ⟨h1, h2, h3⟩ := h s q
  exact ⟨fun x z => (h1 x z).up e, fun x z => (h2 x z).up e, h3⟩
theorem at_sz {s : StQ} {t : Rat} (h : s.sz) (ht : Sz 300 t) : Sz 1000 (atQ s.ps t) := by
  unfold atQ
  cases e : s.ps[placeN s.ps t]? with
  | none => exact (sz_zero (k := 0)).mono (by decide)
  | some p => exact (pline_sz (h.zp.at e) ht).mono (by decide)
end DL

end
section
set_option Elab.async false
set_option linter.all false
set_option autoImplicit true
set_option maxRecDepth 100000
set_option maxHeartbeats 400000
/-! methods that raise -/
namespace DL
open PySem L2
open PyProof.Rows hiding St
/-- a method that may raise, by its promise -/
structure CalMX (X : Cx) (k : Nat) (cls m : Str) (S : SgX) : Prop where
  rm : Room k X.A
  ic : InsC X.K cls
  ex : ∃ f fd ps k0, FnOk X.prog X.w X.K X.mg X.base (L2N.CX X.prog X.w) k0 f fd ps (spOfX X.K S) ∧ k0 ≤ k ∧ Meth X.K (He.ga X.K cls) m f ∧ Binds X.K fd ps []
theorem CalMX.tr {X : Cx} {k : Nat} {cls m : Str} {S : SgX} {pn : List (Addr × Obj)} {xe : Value → Shared → Prop} (h : CalMX X k cls m S) : CalMX (X.tr pn xe) k cls m S := ⟨h.rm, h.ic, h.ex⟩
section
variable {X : Cx} {n : Nm} {c : Cc} {Γ : SL} {e o : Expr} {es : List Expr} {pos p apos : Pos} {cls m : Str} {k : AK} {fs : List (Str × DL.D)} {S : SgX}
end
/-! steer and display, where they raise -/
end DL

end
section
set_option Elab.async false
set_option linter.all false
set_option autoImplicit true
set_option maxRecDepth 100000
set_option maxHeartbeats 400000
/-! k78: the display is a course -/
namespace DL
open PySem L2
open PyProof.Rows hiding St
section
variable {X : Cx} {n : Nm} {c : Cc} {Γ : SL} {e : Expr} {pos : Pos} {nm : Str} {De : DE}
/-- for x in e, where e's list is told when it is there, and stays in mind -/
theorem ws_forLD (j : Nat) {body : List Stmt} {tp : Pos} (Inv : List DL.D → Nat → SL → Prop) (h : WE X n c Γ e fun x Γ1 => ∃ ds, x = .lst ds ∧ Inv ds 0 Γ1)
    (hs : ∀ ds i Γ' d, ds[i]? = some d → Inv ds i Γ' → WB X n c (Γ'.set j (.d d)) body (turnE De (Inv ds (i + 1)))) (hd : ∀ ds Γ', Inv ds ds.length Γ' → De.nx Γ') (hj : n.N[j]? = some nm := by rfl) (hh : n.hot = false := by rfl) (ha : n.as.contains j = true := by rfl) (hoi : n.oi.contains j = false := by rfl)
    (hf : ∀ x, foldedSetIterable e X.env x = pure x := by intro _; rfl) : WS X n c Γ (.For (.Name nm tp) e body [] pos) De := .mk fun hn σ R H s E ok => by
  obtain ⟨l1, l2⟩ := hn.loc j nm ha hj
  refine (ps_for hn.po (hn.calm hh) (pi_list pW) (pg_name (by rw [hn.eq]; exact hn.nd) (by rw [hn.eq]; exact hj) l1 l2) pWB hf).w (h.run hn σ R H s _ fun v R1 H1 x Γ1 s1 e1 r1 ⟨ds, hx, p1⟩ => ?_)
  subst hx
  obtain ⟨a, vs, rfl, ha', hr⟩ := r1
  refine ⟨a, rfl, ⟨vs, .inl (.inl (s1.rh a _ ha'))⟩, for_list (xs := vs) (fun i σ' H' => ∃ R' Γ', SOk X.K c Γ' σ' R' H' ∧ Ex R1 R' ∧ Inv ds i Γ') ⟨R1, Γ1, s1, Ex.refl _, p1⟩ (fun i σ' H' _ ⟨R', Γ', s', e', _⟩ => .inl (.inl (s'.rh a _ (e' a _ ha')))) (fun i v σ' H' hi ⟨R', Γ', s', e', p'⟩ => ?_) (fun σ' H' ⟨R', Γ', s', e', p'⟩ => ?_)⟩
  · obtain ⟨d, hd1, hd2⟩ := hr.get' hi
    exact (hs ds i Γ' d hd1 p').run hn _ R' H' (s'.setD j (Rp.mono e' _ _ hd2) (hn.noi hoi)) _ (turnE_ok ok (e1.trans e') fun σ2 R2 H2 Γ2 s2 e2 w => ⟨R2, Γ2, s2, e'.trans e2, w⟩)
  · rw [← hr.length] at p'
    exact ok.nx σ' R' H' Γ' s' (e1.trans e') (hd ds Γ' p')
end
def stepQ (g s : Rat) : Rat := if absQ g < s then absQ g else s
/-! ### the calls -/
/-! ### promises -/
structure TidyZ (cs : List Pc) (f : Rat) : Prop where
  zc : Cz 300 300 70 cs
  zf : Sz 300 f
  asc : Asc cs
  p0 : ∃ p, cs[0]? = some p ∧ p.1 = f
  ti : tidyQ cs = cs
  rates : ∀ p ∈ cs, 0 < p.2.2
  lc : cs.length ≤ 1000
theorem TidyZ.next {cs : List Pc} {f : Rat} (h : TidyZ cs f) {i : Nat} {p q : Pc} (hp : cs[i]? = some p) (hq : cs[i + 1]? = some q) : p.1 < q.1 ∧ ¬ (pline p q.1 = q.2.1 ∧ p.2.2 = q.2.2) := by
  have hx := prs_at hp hq
  refine ⟨asc_lt h.asc hp hq (by omega), fun z => ?_⟩
  have e : tF (p, q) = none := tF_no z.2.symm (by unfold jmp; grind)
  have c0 : contI cs = [] := by rw [← h.ti]; exact cont_tidy
  have : ((i : Int) + 1) ∈ contI cs := cont_mem.mpr ⟨by unfold cf; rw [hx]; simp [e], by have := (List.getElem?_eq_some_iff.mp hq).1; omega⟩
  rw [c0] at this
  cases this
/-- starts that are small -/
def Sta (cs : List Pc) : Prop := ∀ p ∈ cs, Sz 100 p.1
end DL

end
section
set_option Elab.async false
set_option linter.all false
set_option autoImplicit true
set_option maxRecDepth 100000
set_option maxHeartbeats 400000
/-! defs called in an except suite -/
namespace DL
open PySem L2
open PyProof.Rows hiding St
section
variable {X : Cx} {n : Nm} {c : Cc} {Γ : SL} {e a b : Expr} {es : List Expr} {pos p : Pos} {nm : Str} {k l : AK} {S : Sg} {z : DL.D} {ps : List Par}
variable {De : DE}
end
end DL

end
section
set_option Elab.async false
set_option linter.all false
set_option autoImplicit true
set_option maxRecDepth 100000
set_option maxHeartbeats 400000
/-! k78: calls, one after another -/
namespace DL
open PySem L2
open PyProof.Rows hiding St
end DL

end
section
set_option Elab.async false
set_option linter.all false
set_option autoImplicit true
set_option maxRecDepth 100000
set_option maxHeartbeats 400000
/-! an own class called, whose __init__ raises -/
namespace L2
open PySem PySem.Spec PyProof.Rows
section
variable {X : Cx} {CX : CXT} {k n : Nat} {f C : Addr} {fd : FuncData} {ps ks : List Str} {sp : Sp} {E : L2.St → XK} {x : Str} {p pos : Pos} {e : Expr} {es : List Expr} {kws : List Keyword} {t tk : TA} {g : List Value → List Value → List Value} {gV : List V → List V → List V}
end
end L2
namespace DL
open PySem L2
open PyProof.Rows hiding St
/-- an own class called, that may raise -/
structure CalNX (X : Cx) (k : Nat) (cls : Str) (np : Nat) (kns : List Str) (G : List Par → List Par → List Par) (S : SgX) : Prop where
  rm : Room k X.A
  ic : InsC X.K cls
  mg : X.mg cls = some (.ref (He.ga X.K cls))
  ex : ∃ f fd ps k0 g gV, Mk X.K (He.ga X.K cls) f ∧ FnOk X.prog X.w X.K X.mg X.base (L2N.CX X.prog X.w) k0 f fd ps (spOfX X.K S) ∧ k0 + 1 ≤ k ∧ KBn X.K fd ps (np + 1) kns g gV ∧
    ∀ M R H vs zs pv pz v, ParsOk X.K M R H pv vs → ParsOk X.K M R H pz zs → pv.length = np → pz.length = kns.length → parOi 0 pv = [] → parOi 0 pz = [] → ∃ us, gV (v :: vs) zs = v :: us ∧ ParsOk X.K M R H (G pv pz) us ∧ parOi 0 (G pv pz) = []
theorem CalNX.tr {X : Cx} {k : Nat} {cls : Str} {np : Nat} {kns : List Str} {G : List Par → List Par → List Par} {S : SgX} {pn : List (Addr × Obj)} {xe : Value → Shared → Prop} (h : CalNX X k cls np kns G S) : CalNX (X.tr pn xe) k cls np kns G S := ⟨h.rm, h.ic, h.mg, h.ex⟩
section
variable {X : Cx} {n : Nm} {c : Cc} {Γ : SL} {e : Expr} {es : List Expr} {kws : List Keyword} {pos p : Pos} {cls : Str} {np : Nat} {kns : List Str} {G : List Par → List Par → List Par} {S : SgX}
end
/-! the classes of an error, told -/
end DL

end
section
set_option Elab.async false
set_option linter.all false
set_option autoImplicit true
set_option maxRecDepth 100000
set_option maxHeartbeats 400000
/-! k36: what is refused -/
namespace DL
open PySem L2
open PyProof.Rows hiding St
section
variable {X : Cx} {n : Nm} {c : Cc} {Γ : SL} {e : Expr} {pos p ap : Pos} {nm : Str}
end
end DL

end
section
set_option Elab.async false
set_option linter.all false
set_option autoImplicit true
set_option maxRecDepth 100000
set_option maxHeartbeats 2000000
/-! own error classes without a field -/
namespace L2
open PySem PySem.Spec PyProof.Rows
end L2
namespace DL
open PySem L2 NdefX
open PyProof.Rows hiding St
section
variable {X : Cx} {n : Nm} {c : Cc} {Γ : SL} {p pos pos2 : Pos} {nm : Str} {De : DE} {C : Addr}
end
section
variable {P : Program} {w : World} {K : PySem.W.Frag} {mg : Str → Option Value} {base : Heap}
end
end DL

end
section
set_option Elab.async false
set_option linter.all false
set_option autoImplicit true
set_option maxRecDepth 100000
set_option maxHeartbeats 400000
/-! def f(*xs) -/
namespace DL
open PySem L2
open PyProof.Rows hiding St
abbrev SgV := List DL.D → (Res → Prop) → Prop
def spV (K : PySem.W.Frag) (S : SgV) : Sp := fun vs H Q _ => ∃ (R : Hp) (xs : List DL.D) (Post : Res → Prop), Ex R H ∧ RpL K R xs vs ∧ xs.length ≤ 1000 ∧ S xs Post ∧ ∀ v R' H' r, After K [] R H R' H' → RetOk K H R' H' r v → Post r → Q v H'
structure CalV (X : Cx) (k : Nat) (nm : Str) (S : SgV) : Prop where
  rm : Room k X.A
  ex : ∃ f k0, FnR X.prog X.w X.K X.mg X.base CX0 k0 f (spV X.K S) ∧ k0 ≤ k ∧ X.mg nm = some (.ref f) ∧ PySem.W.keepIn X.K (.ref f) = true
/-- a def with one *parameter as the top has left it -/
structure DefAtV (K : PySem.W.Frag) (mg : Str → Option Value) (nm : Str) (st : Stmt) (pv : Str) where
  a : Addr
  fd : FuncData
  F : Fun K nm nm st a fd
  m : mg nm = some (.ref a)
  bb : ∀ rest : List Value, bindArgs fd ⟨rest, []⟩ = (newTuple rest >>= fun t => pure [(pv, t)])
theorem DefAtV.cal {X : Cx} {nm : Str} {st : Stmt} {pv : Str} {k k0 : Nat} {S : SgV} (d : DefAtV X.K X.mg nm st pv) (F : FnR X.prog X.w X.K X.mg X.base CX0 k0 d.a (spV X.K S)) (h : k0 ≤ k) (rm : Room k X.A) : CalV X k nm S :=
  ⟨rm, d.a, k0, F, h, d.m, d.F.kp⟩
section
variable {X : Cx} {CX : CXT} {k : Nat} {f : Addr} {sp : Sp} {E : XK} {x : Str} {p pos : Pos} {e : Expr} {es : List Expr} {t : TA}
end
section
variable {X : Cx} {n : Nm} {c : Cc} {Γ : SL} {e : Expr} {es : List Expr} {pos p : Pos} {nm : Str} {S : SgV} {z : DL.D} {ks : List AK} {xs : List DL.D}
end
end DL

end
section
set_option Elab.async false
set_option linter.all false
set_option autoImplicit true
set_option maxRecDepth 100000
set_option maxHeartbeats 400000
/-! k01: exact arithmetic -/
namespace DL
open PySem L2
open PyProof.Rows hiding St
end DL

end
section
set_option Elab.async false
set_option linter.all false
set_option autoImplicit true
set_option maxRecDepth 100000
set_option maxHeartbeats 400000
/-! list.index among integers -/
namespace DL
open PySem L2
open PyProof.Rows hiding St
section
variable {X : Cx} {n : Nm} {c : Cc} {Γ : SL} {e : Expr} {pos p ap : Pos} {nm : Str}
end
end DL

end
section
set_option Elab.async false
set_option linter.all false
set_option autoImplicit true
set_option maxRecDepth 100000
set_option maxHeartbeats 400000
/-! k01: totals, a drawn order -/
namespace DL
open PySem L2
open PyProof.Rows hiding St
end DL

end
section
set_option Elab.async false
set_option linter.all false
set_option autoImplicit true
set_option maxRecDepth 100000
set_option maxHeartbeats 1000000
/-! iteration over own instances whose __iter__ gives an iterator over a list or a tuple of theirs -/
namespace DL
open PySem PySem.Spec L2
open PyProof.Rows hiding St
/-- an iterator over the tuple (b) or list at l, its next place is i -/
def itrT : Bool → String
  | true => "tuple_iterator"
  | false => "list_iterator"
def itrObj (b : Bool) (l : Addr) (i : Nat) : Obj := { cls := .type (itrT b), data := .fields #[.ref l, .int i 0] }
def ItB (b : Bool) (l it : Addr) (i : Nat) : HO := .ext fun h => h.get? it = some (itrObj b l i)
def SqB (K : PySem.W.Frag) (b : Bool) (H : Hp) (l : Addr) (xs : List V) : Prop := if b = true then SqT K H l xs else SqL K H l xs
section
variable {X : Cx} {pins : List (Addr × Obj)} {σ : L2.St} {H : Hp} {s : Shared} {l it m : Addr} {i : Nat} {b : Bool}
end
/-- what __iter__ promises when it is entered at s: a fresh iterator over its field f -/
def spItr (K : PySem.W.Frag) (C : Addr) (f : Str) (b : Bool) (s : Shared) : Sp := fun vs H Q _ => ∃ (a dx : Addr) (fs : List (Str × V)) (l : Addr) (xs : List V), vs = [.ref a] ∧ H a = some (.ins C dx fs) ∧ fs.lookup f = some (.ref l) ∧ SqB K b H l xs ∧
  ∀ it, H it = Option.none → s.heap.objs.size ≤ it → Q (.ref it) (upd H it (ItB b l it 0))
/-- a def that is known by a promise for each state of entry -/
structure FnAt (P : Program) (w : World) (K : PySem.W.Frag) (mg : Str → Option Value) (base : Heap) (k : Nat) (f : Addr) (fd : FuncData) (ps : List Str) (sp : Shared → Sp) : Prop where
  run : ∀ (A : Around) (outer : List Env) (s : Shared) (H : Hp) (args : Args) (us : List Value) (vs : List V) (Q : VK) (E : XK), Room k A → Env0 P w K mg base A outer s H → BindsTo s fd args (ps.zip us) → Vals vs us → vs.length = ps.length → sp s vs H Q E →
    codeAny (model P w) A (.call (.ref f) args) (CR CX0 outer P w H s Q E) s
/-- an own class whose instances are walked by an iterator over their field f -/
structure CalIt (X : Cx) (k : Nat) (cls f : Str) (b : Bool) : Prop where
  rm : Room k X.A
  ic : InsC X.K cls
  ex : ∃ fi fd k0, FnAt X.prog X.w X.K X.mg X.base k0 fi fd ["self"] (spItr X.K (He.ga X.K cls) f b) ∧ k0 + 2 ≤ k ∧ Meth X.K (He.ga X.K cls) "__iter__" fi ∧ Binds X.K fd ["self"] []
  nl : NoAttr X.K (He.ga X.K cls) "__len__"
  nh : NoAttr X.K (He.ga X.K cls) "__length_hint__"
theorem CalIt.blk {X X' : Cx} {sc : Scope} {k : Nat} {cls m : Str} {b : Bool} (bb : BlkX X X' sc) (h : CalIt X k cls m b) : CalIt X' k cls m b := by
  obtain ⟨s, H, C, cl, fp, rfl⟩ := bb
  exact ⟨h.rm, h.ic, h.ex, h.nl, h.nh⟩
section
variable {X : Cx} {pins : List (Addr × Obj)} {σ : L2.St} {H : Hp} {s : Shared} {C fi a l : Addr} {fd : FuncData} {fl : Str} {b : Bool} {k0 : Nat} {A1 : Around} {dx : Addr} {fs : List (Str × V)} {xs : List V}
end
/-! ### list(o) -/
section
variable {X : Cx} {pins : List (Addr × Obj)} {σ : L2.St} {H : Hp} {l it q : Addr} {b : Bool} {xs : List V} {A1 : Around} {Rs : Result → Shared → Prop}
end
section
variable {X : Cx} {pins : List (Addr × Obj)} {σ : L2.St} {H : Hp} {s : Shared} {C fi a l q : Addr} {fd : FuncData} {fl : Str} {b : Bool} {k0 : Nat} {A1 : Around} {dx : Addr} {fs : List (Str × V)} {xs : List V}
end
section
variable {X : Cx} {n : Nm} {c : Cc} {Γ : SL} {e : Expr} {pos p : Pos} {cls fl nm : Str} {k : AK} {fs : List (Str × D)} {De : DE} {b : Bool} {ds : List D}
end
end DL

end
section
set_option Elab.async false
set_option linter.all false
set_option autoImplicit true
set_option maxRecDepth 100000
set_option maxHeartbeats 1000000
/-! defs with defaults, classes with defaults, class constants, dicts, for over pairs -/
namespace DL
open PySem L2
open PyProof.Rows hiding St
/-- an own class that is called: its __init__, positional defaults dvs -/
structure InitAtD (K : PySem.W.Frag) (mg : Str → Option Value) (cls qual : Str) (st : Stmt) (ps : List Str) (dvs : List V) where
  fd : FuncData
  F : FunD K "__init__" qual (defArgs st) (defBody st) (defScope st) dvs [] (He.ma K (He.ga K cls) "__init__") fd
  mak : Mk K (He.ga K cls) (He.ma K (He.ga K cls) "__init__")
  mg : mg cls = some (.ref (He.ga K cls))
  ic : InsC K cls
theorem kbn_of {K : PySem.W.Frag} {fd : FuncData} {ps : List Str} {ds : List Value} {dvs : List V} {n : Nat} (b : Binds K fd ps ds) (d : Vals dvs ds) (hl : n + ds.length = ps.length) : KBn K fd ps n [] (fun us _ => us ++ ds) (fun vs _ => vs ++ dvs) :=
  ⟨fun s us ws X h1 h2 => by
    have : ws = [] := List.eq_nil_of_length_eq_zero h2
    subst this
    exact b s us X (by rw [List.length_append]; omega), fun r1 r2 => r1.append d⟩
theorem InitAtD.cal {X : Cx} {cls qual : Str} {st : Stmt} {ps : List Str} {dvs : List V} {k k0 np : Nat} {S : Sg} (d : InitAtD X.K X.mg cls qual st ps dvs) (F : FnOk X.prog X.w X.K X.mg X.base CX0 k0 (He.ma X.K (He.ga X.K cls) "__init__") d.fd ps (spOf X.K S)) (h : k0 + 1 ≤ k) (rm : Room k X.A)
    (j : Nat) (b : ∃ ds, Vals (dvs.drop j) ds ∧ Binds X.K d.fd ps ds) (hl : (np + 1) + (dvs.drop j).length = ps.length) (dD : List DL.D) (hd : ∀ R, RpL X.K R dD (dvs.drop j)) : CalN X k cls np [] (fun pv _ => pv ++ dD.map Par.d) S := by
  obtain ⟨ds, d1, d2⟩ := b
  refine ⟨rm, d.ic, d.mg, _, d.fd, ps, k0, _, _, d.mak, F, h, kbn_of d2 d1 (by rw [← d1.length]; exact hl), fun M R H vs zs pv pz v h1 h2 _ _ h5 h6 => ⟨vs ++ dvs.drop j, rfl, parsOk_app h1 (parsOk_d (hd R)), parOi_app h5 parOi_d⟩⟩
section
variable {X : Cx} {n : Nm} {c : Cc} {Γ : SL} {e a b o : Expr} {es : List Expr} {x y z : DL.D} {pos p p1 p2 apos : Pos} {nm cls f m : Str} {k l : AK} {fs : List (Str × DL.D)} {De : DE} {S : Sg} {G : List Par → List Par → List Par}
end
end DL

end
section
set_option Elab.async false
set_option linter.all false
set_option autoImplicit true
set_option maxRecDepth 100000
set_option maxHeartbeats 1000000
/-! for over pairs, dicts, sorted -/
namespace DL
open PySem L2
open PyProof.Rows hiding St
section
variable {X : Cx} {n : Nm} {c : Cc} {Γ : SL} {e a b o : Expr} {es : List Expr} {x y z : DL.D} {pos p p1 p2 apos ap : Pos} {nm nx ny cls f m : Str} {k l : AK} {fs : List (Str × DL.D)} {De : DE}
end
/-! ### dicts -/
def kD : Key → DL.D
  | .inl i => .int i
  | .inr x => .str x
theorem kD_rp {K : PySem.W.Frag} {R : Hp} {k : Key} {v : V} (h : Rp K R (kD k) v) : v = kV k := by
  cases k <;> exact h
def valD (kvs : List (Key × DL.D)) (k : Key) : Option DL.D := (kvs.find? fun kv => decide (kv.1 = k)).map (·.2)
theorem valD_pos {p : Key × DL.D} {r : List (Key × DL.D)} {k : Key} (e : p.1 = k) : valD (p :: r) k = some p.2 := by simp [valD, List.find?_cons, e]
theorem valD_neg {p : Key × DL.D} {r : List (Key × DL.D)} {k : Key} (e : ¬ p.1 = k) : valD (p :: r) k = valD r k := by simp [valD, List.find?_cons, e]
def putD' (kvs : List (Key × DL.D)) (k : Key) (v : DL.D) : List (Key × DL.D) := if (kvs.any fun kv => decide (kv.1 = k)) = true then kvs.map (fun kv => if kv.1 = k then (kv.1, v) else kv) else kvs ++ [(k, v)]
theorem rpk_any {K : PySem.W.Frag} {R : Hp} (k : Key) : ∀ {kvs : List (Key × DL.D)} {ws : List (Key × V)}, RpK K R kvs ws → (ws.any fun kv => decide (kv.1 = k)) = (kvs.any fun kv => decide (kv.1 = k))
  | [], _, h => by cases (show _ = _ from h); rfl
  | (k', d) :: r, _, ⟨v, ws', e, h1, h2⟩ => by
    subst e
    rw [List.any_cons, List.any_cons, rpk_any k h2]
theorem rpk_map {K : PySem.W.Frag} {R : Hp} {k : Key} {x : DL.D} {v : V} (hx : Rp K R x v) : ∀ {kvs : List (Key × DL.D)} {ws : List (Key × V)}, RpK K R kvs ws → RpK K R (kvs.map (fun kv => if kv.1 = k then (kv.1, x) else kv)) (ws.map (fun kv => if kv.1 = k then (kv.1, v) else kv))
  | [], _, h => by cases (show _ = _ from h); rfl
  | (k', d) :: r, _, ⟨u, ws', e, h1, h2⟩ => by
    subst e
    rw [List.map_cons, List.map_cons]
    by_cases hk : k' = k
    · rw [if_pos hk, if_pos hk]; exact ⟨v, _, rfl, hx, rpk_map hx h2⟩
    · rw [if_neg hk, if_neg hk]; exact ⟨u, _, rfl, h1, rpk_map hx h2⟩
theorem rpk_snoc {K : PySem.W.Frag} {R : Hp} {k : Key} {x : DL.D} {v : V} (hx : Rp K R x v) : ∀ {kvs : List (Key × DL.D)} {ws : List (Key × V)}, RpK K R kvs ws → RpK K R (kvs ++ [(k, x)]) (ws ++ [(k, v)])
  | [], _, h => by cases (show _ = _ from h); exact ⟨v, [], rfl, hx, rfl⟩
  | (k', d) :: r, _, ⟨u, ws', e, h1, h2⟩ => by
    subst e
    exact ⟨u, _, rfl, h1, rpk_snoc hx h2⟩
theorem rpk_put {K : PySem.W.Frag} {R : Hp} {k : Key} {x : DL.D} {v : V} {kvs : List (Key × DL.D)} {ws : List (Key × V)} (hx : Rp K R x v) (h : RpK K R kvs ws) : RpK K R (putD' kvs k x) (putK ws k v) := by
  unfold putD' putK
  rw [rpk_any k h]
  split
  · exact rpk_map hx h
  · exact rpk_snoc hx h
theorem rpk_len {K : PySem.W.Frag} {R : Hp} : ∀ {kvs : List (Key × DL.D)} {ws : List (Key × V)}, RpK K R kvs ws → ws.length = kvs.length
  | [], _, h => by cases (show _ = _ from h); rfl
  | (k', d) :: r, _, ⟨u, ws', e, h1, h2⟩ => by subst e; simp [rpk_len h2]
theorem rpk_val {K : PySem.W.Frag} {R : Hp} (k : Key) : ∀ {kvs : List (Key × DL.D)} {ws : List (Key × V)}, RpK K R kvs ws → (∀ x, valD kvs k = some x → ∃ v, valV ws k = some v ∧ Rp K R x v) ∧ (valD kvs k = none → valV ws k = none)
  | [], _, h => by cases (show _ = _ from h); exact ⟨fun x z => (by cases z), fun _ => rfl⟩
  | (k', d) :: r, _, ⟨v, ws', e, h1, h2⟩ => by
    subst e
    obtain ⟨i1, i2⟩ := rpk_val k h2
    by_cases hk : k' = k
    · rw [valD_pos hk, valV_pos hk]
      exact ⟨fun x z => by cases z; exact ⟨v, rfl, h1⟩, fun z => by cases z⟩
    · rw [valD_neg hk, valV_neg hk]
      exact ⟨i1, i2⟩
section
variable {X : Cx} {n : Nm} {c : Cc} {Γ : SL} {e a b d o : Expr} {es : List Expr} {x y z : DL.D} {pos p p1 p2 apos ap : Pos} {nm cls f m : Str} {k l : AK} {fs : List (Str × DL.D)} {De : DE} {kvs : List (Key × DL.D)} {ky : Key}
/-- {} -/
theorem eo_dnew : EO X n c Γ (.Dict [] [] pos) (.dic []) := .mk fun hn σ R H s Q q => (pe_dnewK (X := X)).w fun p' hp => q _ R _ (.dic []) Γ (s.grow (s.newOwn _ hp)) (Ex.refl _) (.fresh s hp ⟨[], upd_same, rfl⟩) ⟨rfl, rfl⟩
/-- d[k] = e -/
theorem ws_dput (i : Nat) {tpos : Pos} (h : WE X n c Γ e fun x Γ1 => WE X n c Γ1 b fun y Γ2 => ∃ kvs ky, Γ2[i]? = some (.own (.dic kvs)) ∧ y = kD ky ∧ kvs.length < 100000 ∧ De.nx (Γ2.set i (.own (.dic (putD' kvs ky x)))))
    {s0 : Slot} (hi : n.N[i]? = some nm := by rfl) (hv : n.V.contains i = true := by rfl) (hg : Γ[i]? = some s0 := by rfl) (hss : s0.isOwn = true := by rfl)
    (hs : swapsWith e (some (.Subscript (.Name nm p) b tpos)) pos.line X.env = pure false := by rfl) :
    WS X n c Γ (.Assign [.Subscript (.Name nm p) b tpos] e pos) De := .mk fun hn σ R H s E ok => by
  obtain ⟨d1, d2⟩ := hn.dbg i nm hi
  have hu : X.A.units + 1 < cLine := by have := hn.units; omega
  refine (ps_dput hu (pe_var (i := i) (by rw [hn.eq]; exact hi) (hn.vis i nm hv hi) d1 d2) pW pW hs).w (h.run hn σ R H s _ fun v R1 H1 x Γ1 s1 e1 r1 p1 => ?_)
  obtain ⟨w, w1, h2⟩ := s.sl i _ hg
  have hw : ∃ a, w = some (.ref a) := by
    cases s0 with
    | own ob => obtain ⟨a, h3, _⟩ := h2; exact ⟨a, h3⟩
    | _ => cases hss
  obtain ⟨a, ea⟩ := hw
  subst ea
  refine ⟨.ref a, w1, p1.run hn σ R1 H1 s1 _ fun yv R2 H2 y Γ2 s2 e2 r2 ⟨kvs, ky, hg2, ey, hl, hx⟩ => ?_⟩
  subst ey
  obtain rfl := kD_rp r2
  obtain ⟨w', w1', a', ea', ⟨ws, h5, h6⟩, h7, h8⟩ := s2.sl i _ hg2
  rw [w1] at w1'; cases w1'; cases ea'
  have hl2 : ws.length < sizeLine := by rw [rpk_len h6, sizeLine_eq]; omega
  exact ⟨a, _, rfl, DPut.k h5 hl2, ok.nx σ R2 _ _ (s2.mut (ob' := .dic (putD' kvs ky x)) i hg2 w1 ⟨_, upd_same, rpk_put (Rp.mono e2 _ _ r1) h6⟩) (e1.trans e2) hx⟩
theorem dic_at {K : PySem.W.Frag} {R H : Hp} {v : V} (e : Ex R H) (h : Wk K R H (.dic kvs) v) (ky : Key) : ∃ a o, v = .ref a ∧ DGet H a (kV ky) o ∧ (∀ x, valD kvs ky = some x → ∃ u, o = some u ∧ Rp K R x u) ∧ (valD kvs ky = none → o = none) ∧ IsD H a := by
  obtain ⟨a, ws, rfl, h2, h3⟩ := h.dic e
  obtain ⟨i1, i2⟩ := rpk_val ky h3
  exact ⟨a, _, rfl, DGet.k h2, i1, i2, .inl ⟨ws, .inl h2⟩⟩
/-- d[k], k stands in d -/
theorem ev_dix (ha : EK X n c Γ a k) (hb : EV X n c Γ b (kD ky)) (ga : k.get Γ = some (.dic kvs)) (hx : valD kvs ky = some x) (hs : NoSl b := by intro _ _; rfl) : EV X n c Γ (.Subscript a b pos) x := .mk fun hn σ R H s Q q => by
  have hu : X.A.units + 1 < cLine := by have := hn.units; omega
  refine (pe_dget hu pW pW hs).w (ha.run hn σ R H s _ fun v R1 H1 k' Γ1 s1 e1 r1 ⟨g1, g2⟩ => hb.run hn σ R1 H1 (g2 ▸ s1) _ fun w R2 H2 y Γ2 s2 e2 r2 ⟨g3, g4⟩ => ?_)
  subst g1 g2 g3 g4
  obtain rfl := kD_rp r2
  obtain ⟨aa, o, rfl, h1, h2, h3, _⟩ := dic_at s2.rh ((r1.mono e2).wk s2 ga) ky
  obtain ⟨u, rfl, ru⟩ := h2 x hx
  exact ⟨aa, u, rfl, h1, q u R2 H2 x _ s2 (e1.trans e2) ru ⟨rfl, rfl⟩⟩
end
/-! ### sorted -/
section
variable {X : Cx} {n : Nm} {c : Cc} {Γ : SL}
end
/-! ### sorted of pairs of integers -/
section
variable {X : Cx} {n : Nm} {c : Cc}
end
end DL

end
section
set_option Elab.async false
set_option linter.all false
set_option autoImplicit true
set_option maxRecDepth 100000
set_option maxHeartbeats 1000000
/-! sorted, one result; leap tables (k46) -/
namespace DL
open PySem L2
open PyProof.Rows hiding St
abbrev LeP (p q : Int × Int) : Prop := SrtO.lexB q p = false
theorem leP_iff {p q : Int × Int} : LeP p q ↔ p.1 < q.1 ∨ (p.1 = q.1 ∧ p.2 ≤ q.2) := by
  show SrtO.lexB q p = false ↔ _
  rw [SrtO.lexB_no]; omega
def srtP (ps : List (Int × Int)) : List (Int × Int) := ps.mergeSort fun p q => !SrtO.lexB q p
theorem srtP_perm (ps : List (Int × Int)) : (srtP ps).Perm ps := List.mergeSort_perm ps _
theorem srtP_le (ps : List (Int × Int)) : (srtP ps).Pairwise LeP := by
  have h0 : ∀ p q : Int × Int, (!SrtO.lexB q p) = true ↔ LeP p q := fun p q => by
    show (!SrtO.lexB q p) = true ↔ SrtO.lexB q p = false
    cases SrtO.lexB q p <;> simp
  have := List.pairwise_mergeSort (le := fun p q : Int × Int => !SrtO.lexB q p) (fun a b c h1 h2 => by rw [h0, leP_iff] at *; omega) (fun a b => by
    rw [Bool.or_eq_true, h0, h0, leP_iff, leP_iff]; omega) ps
  exact this.imp fun h => (h0 _ _).mp h
section
variable {X : Cx} {n : Nm} {c : Cc} {Γ : SL} {e a b : Expr} {es : List Expr} {pos p : Pos} {nm : Str} {k : AK}
end
/-! ### leap tables -/
def lkp (ps : List (Int × Int)) (d : Int) : Option Int := (ps.find? fun p => decide (p.1 = d)).map (·.2)
/-- no bad leap -/
structure GoodK (ps : List (Int × Int)) : Prop where
  nd : (ps.map (·.1)).Nodup
  k1 : ∀ p ∈ ps, p.2 = 1 ∨ p.2 = -1
def badK (k : Int) : Prop := ¬ (k = 1 ∨ k = -1)
theorem GoodK.snoc {ps : List (Int × Int)} {p : Int × Int} (h : GoodK ps) (h1 : ¬ badK p.2) (h2 : p.1 ∉ ps.map (·.1)) : GoodK (ps ++ [p]) := by
  refine ⟨?_, fun q hq => ?_⟩
  · rw [List.map_append, List.nodup_append]
    refine ⟨h.nd, by simp, fun a ha b hb z => ?_⟩
    have : b = p.1 := by simpa using hb
    subst z this; exact h2 ha
  · rcases List.mem_append.mp hq with z | z
    · exact h.k1 q z
    · have : q = p := by simpa using z
      rw [this]; exact Decidable.not_not.mp h1
theorem GoodK.take {ps : List (Int × Int)} (h : GoodK ps) (i : Nat) : GoodK (ps.take i) := ⟨by rw [List.map_take]; exact h.nd.sublist (List.take_sublist _ _), fun p hp => h.k1 p (List.mem_of_mem_take hp)⟩
theorem GoodK.sub {ps qs : List (Int × Int)} (h : GoodK ps) (s : qs.Sublist ps) : GoodK qs := ⟨h.nd.sublist (s.map _), fun p hp => h.k1 p (s.subset hp)⟩
theorem lkp_mem {ps : List (Int × Int)} (nd : (ps.map (·.1)).Nodup) {p : Int × Int} (h : p ∈ ps) : lkp ps p.1 = some p.2 := by
  induction ps with
  | nil => cases h
  | cons q qs ih =>
    unfold lkp
    rw [List.find?_cons]
    have nd' := List.nodup_cons.mp (show (q.1 :: qs.map (·.1)).Nodup from nd)
    by_cases e : q.1 = p.1
    · rw [decide_eq_true e]
      rcases List.mem_cons.mp h with z | z
      · rw [z]; rfl
      · exact absurd (List.mem_map.mpr ⟨p, z, e.symm⟩) nd'.1
    · rw [decide_eq_false e]
      rcases List.mem_cons.mp h with z | z
      · rw [z] at e; exact absurd rfl e
      · exact ih nd'.2 z
theorem lkp_none {ps : List (Int × Int)} {d : Int} (h : d ∉ ps.map (·.1)) : lkp ps d = none := by
  unfold lkp
  rw [List.find?_eq_none.mpr fun p hp => by
    simp only [decide_eq_true_eq]
    exact fun z => h (List.mem_map.mpr ⟨p, hp, z⟩)]
  rfl
def dayL (ps : List (Int × Int)) (d : Int) : Int := 86400 + (lkp ps d).getD 0
theorem CalN.tr {X : Cx} {k : Nat} {cls : Str} {np : Nat} {kns : List Str} {G : List Par → List Par → List Par} {S : Sg} {pn : List (Addr × Obj)} {xe : Value → Shared → Prop} (h : CalN X k cls np kns G S) : CalN (X.tr pn xe) k cls np kns G S := ⟨h.rm, h.ic, h.mg, h.ex⟩
theorem cut_toM {xs : List DL.D} {k : Nat} : cutD xs none (some (k : Int)) = xs.take k := by
  unfold cutD
  rw [HT.sIx_nat]
  show (xs.drop 0).take (min k xs.length - 0) = xs.take k
  rw [List.drop_zero, Nat.sub_zero]
  by_cases h : k ≤ xs.length
  · rw [Nat.min_eq_left h]
  · rw [Nat.min_eq_right (by omega), List.take_of_length_le (Nat.le_refl _), List.take_of_length_le (by omega)]
theorem cut_fromM {xs : List DL.D} {k : Nat} : cutD xs (some (k : Int)) none = xs.drop k := by
  unfold cutD
  rw [HT.sIx_nat]
  show (xs.drop (min k xs.length)).take (xs.length - min k xs.length) = xs.drop k
  by_cases h : k ≤ xs.length
  · rw [Nat.min_eq_left h, List.take_of_length_le (by rw [List.length_drop]; omega)]
  · rw [Nat.min_eq_right (by omega), List.drop_of_length_le (Nat.le_refl _), List.drop_of_length_le (by omega), List.take_nil]
theorem len_srtP (qs : List (Int × Int)) : (srtP qs).length = qs.length := (srtP_perm qs).length_eq
end DL

end
section
set_option Elab.async false
set_option linter.all false
set_option autoImplicit true
set_option maxRecDepth 100000
set_option maxHeartbeats 1000000
/-! methods with defaults and keywords, that may raise -/
namespace L2
open PySem PySem.Spec PyProof.Rows
end L2
namespace DL
open PySem L2
open PyProof.Rows hiding St
/-- a method called with np positional values and keywords kns, by its promise; it may raise -/
structure CalMK (X : Cx) (k : Nat) (cls m : Str) (np : Nat) (kns : List Str) (G : List Par → List Par → List Par) (S : SgX) : Prop where
  rm : Room k X.A
  ic : InsC X.K cls
  ex : ∃ f fd ps k0 g gV, FnOk X.prog X.w X.K X.mg X.base (L2N.CX X.prog X.w) k0 f fd ps (spOfX X.K S) ∧ k0 ≤ k ∧ Meth X.K (He.ga X.K cls) m f ∧ KBn X.K fd ps (np + 1) kns g gV ∧
    ∀ M R H vs zs pv pz v, ParsOk X.K M R H pv vs → ParsOk X.K M R H pz zs → pv.length = np → pz.length = kns.length → parOi 0 pv = [] → parOi 0 pz = [] → ∃ us, gV (v :: vs) zs = v :: us ∧ ParsOk X.K M R H (G pv pz) us ∧ parOi 0 (G pv pz) = []
theorem CalMK.tr {X : Cx} {k : Nat} {cls m : Str} {np : Nat} {kns : List Str} {G : List Par → List Par → List Par} {S : SgX} {pn : List (Addr × Obj)} {xe : Value → Shared → Prop} (h : CalMK X k cls m np kns G S) : CalMK (X.tr pn xe) k cls m np kns G S := ⟨h.rm, h.ic, h.ex⟩
section
variable {X : Cx} {n : Nm} {c : Cc} {Γ : SL} {e o : Expr} {es : List Expr} {kws : List Keyword} {pos p apos : Pos} {cls m : Str} {k : AK} {fs : List (Str × DL.D)} {np : Nat} {kns : List Str} {G : List Par → List Par → List Par} {S : SgX}
end
end DL

end
section
set_option Elab.async false
set_option linter.all false
set_option autoImplicit true
set_option maxRecDepth 100000
set_option maxHeartbeats 1000000
/-! labels (k43) -/
namespace DL
open PySem L2
open PyProof.Rows hiding St
section
variable {X : Cx} {n : Nm} {c : Cc} {Γ : SL} {e o a b : Expr} {pos apos : Pos} {cls m : Str} {k l : AK} {fs : List (Str × DL.D)} {S : Sg} {z : DL.D}
end
/-! ### the start of a day -/
def ctb (p : Int × Int) (d : Int) : Int := if 0 ≤ p.1 ∧ p.1 < d then p.2 else if d ≤ p.1 ∧ p.1 < 0 then -p.2 else 0
def ctbs : List (Int × Int) → Int → Int
  | [], _ => 0
  | p :: ps, d => ctb p d + ctbs ps d
def opn (qs : List (Int × Int)) (d : Int) : Int := 86400 * d + ctbs qs d
theorem ctbs_bd {d : Int} : ∀ {qs : List (Int × Int)}, (∀ p ∈ qs, p.2 = 1 ∨ p.2 = -1) → -(qs.length : Int) ≤ ctbs qs d ∧ ctbs qs d ≤ (qs.length : Int)
  | [], _ => by simp [ctbs]
  | p :: ps, h => by
    have h1 := ctbs_bd (d := d) (qs := ps) fun q hq => h q (List.mem_cons_of_mem _ hq)
    have h2 := h p (List.mem_cons_self ..)
    have h3 : -1 ≤ ctb p d ∧ ctb p d ≤ 1 := by unfold ctb; split <;> (try split) <;> omega
    have h4 : ctbs (p :: ps) d = ctb p d + ctbs ps d := rfl
    rw [h4, List.length_cons]; omega
theorem ctb_succ (p : Int × Int) (d : Int) : ctb p (d + 1) = ctb p d + if p.1 = d then p.2 else 0 := by
  unfold ctb
  split <;> split <;> (try split) <;> (try split) <;> (try split) <;> omega
theorem lkp_cons {p : Int × Int} {ps : List (Int × Int)} {d : Int} : lkp (p :: ps) d = if p.1 = d then some p.2 else lkp ps d := by
  unfold lkp
  rw [List.find?_cons]
  by_cases e : p.1 = d
  · rw [decide_eq_true e, if_pos e]; rfl
  · rw [decide_eq_false e, if_neg e]
theorem ctbs_succ {d : Int} : ∀ {qs : List (Int × Int)}, (qs.map (·.1)).Nodup → ctbs qs (d + 1) = ctbs qs d + (lkp qs d).getD 0
  | [], _ => rfl
  | p :: ps, h => by
    have nd := List.nodup_cons.mp (show (p.1 :: ps.map (·.1)).Nodup from h)
    have ih := ctbs_succ (d := d) nd.2
    show ctb p (d + 1) + ctbs ps (d + 1) = ctb p d + ctbs ps d + _
    rw [ih, ctb_succ, lkp_cons]
    by_cases e : p.1 = d
    · rw [if_pos e, if_pos e, lkp_none (by rw [← e]; exact nd.1)]
      simp; omega
    · rw [if_neg e, if_neg e]; omega
theorem opn_succ {qs : List (Int × Int)} (h : GoodK qs) (d : Int) : opn qs (d + 1) = opn qs d + dayL qs d := by
  unfold opn dayL
  rw [ctbs_succ h.nd]; omega
theorem dayL_bd {qs : List (Int × Int)} (h : GoodK qs) (d : Int) : 86399 ≤ dayL qs d ∧ dayL qs d ≤ 86401 := by
  unfold dayL
  cases e : lkp qs d with
  | none => simp
  | some k =>
    have : k = 1 ∨ k = -1 := by
      unfold lkp at e
      obtain ⟨p, hp, rfl⟩ := Option.map_eq_some_iff.mp e
      exact h.k1 p (List.mem_of_find?_eq_some hp)
    show 86399 ≤ 86400 + k ∧ 86400 + k ≤ 86401
    omega
theorem opn_add {qs : List (Int × Int)} (h : GoodK qs) (d : Int) : ∀ n : Nat, opn qs d + 86399 * (n : Int) ≤ opn qs (d + (n : Int))
  | 0 => by simp
  | n + 1 => by
    have ih := opn_add h d n
    have e := opn_succ h (d + (n : Int))
    have b := dayL_bd h (d + (n : Int))
    have e2 : d + ((n + 1 : Nat) : Int) = d + (n : Int) + 1 := by omega
    rw [e2, e]; omega
theorem opn_le {qs : List (Int × Int)} (h : GoodK qs) {d e : Int} (le : d ≤ e) : opn qs d + 86399 * (e - d) ≤ opn qs e := by
  have := opn_add h d (e - d).toNat
  have e1 : ((e - d).toNat : Int) = e - d := by omega
  rw [e1, show d + (e - d) = e by omega] at this
  exact this
def DyB (d : Int) : Prop := -7000000 ≤ d ∧ d ≤ 7000000
def DyC (d : Int) : Prop := -6000000 ≤ d ∧ d ≤ 6000000
theorem opn_bd {qs : List (Int × Int)} (h : GoodK qs) (hl : qs.length ≤ 60) (d : Int) : 86400 * d - 60 ≤ opn qs d ∧ opn qs d ≤ 86400 * d + 60 := by
  have := ctbs_bd (d := d) h.k1
  unfold opn; omega
theorem DyB.bt {d : Int} (h : DyB d) : Bt 60 d := by have := h.1; have := h.2; exact bt_of (by omega) (by omega)
theorem sz_int {i : Int} (h : Bt 48 i) : Sz 6 ((i : Int) : Rat) := ⟨by rw [Rat.num_intCast]; exact h, by rw [Rat.den_intCast]; decide⟩
theorem sz_opn {qs : List (Int × Int)} (h : GoodK qs) (hl : qs.length ≤ 60) {d w : Int} (hd : DyC d) (h1 : opn qs d ≤ w) (h2 : w < opn qs (d + 1)) : Sz 6 ((w : Int) : Rat) := by
  have b1 := opn_bd h hl d
  have b2 := opn_bd h hl (d + 1)
  have := hd.1; have := hd.2
  exact sz_int (bt_of (by omega) (by omega))
def HasS (qs : List (Int × Int)) (d s : Int) : Prop := 0 ≤ s ∧ s < dayL qs d
def HasP (p : Rat) : Prop := ¬ p < 0 ∧ p < 1
instance (qs : List (Int × Int)) (d s : Int) : Decidable (HasS qs d s) := inferInstanceAs (Decidable (_ ∧ _))
instance (p : Rat) : Decidable (HasP p) := inferInstanceAs (Decidable (_ ∧ _))
theorem DyC.b {d : Int} (h : DyC d) : DyB d := ⟨by have := h.1; omega, by have := h.2; omega⟩
theorem DyC.b1 {d : Int} (h : DyC d) : DyB (d + 1) := ⟨by have := h.1; omega, by have := h.2; omega⟩
end DL

end
section
set_option Elab.async false
set_option linter.all false
set_option autoImplicit true
set_option maxRecDepth 100000
set_option maxHeartbeats 1000000
/-! defs with defaults that are all given; smeared readings (k45) -/
namespace DL
open PySem L2
open PyProof.Rows hiding St
structure DefAtD (K : PySem.W.Frag) (mg : Str → Option Value) (nm : Str) (st : Stmt) (ps : List Str) (dvs : List V) where
  a : Addr
  fd : FuncData
  F : FunD K nm nm (defArgs st) (defBody st) (defScope st) dvs [] a fd
  m : mg nm = some (.ref a)
  b : Binds K fd ps []
theorem DefAtD.cal {X : Cx} {nm : Str} {st : Stmt} {ps : List Str} {dvs : List V} {k k0 : Nat} {S : Sg} (d : DefAtD X.K X.mg nm st ps dvs) (F : FnOk X.prog X.w X.K X.mg X.base CX0 k0 d.a d.fd ps (spOf X.K S)) (h : k0 ≤ k) (rm : Room k X.A) : CalF X k nm S :=
  ⟨rm, d.a, d.fd, ps, k0, F, h, d.m, d.F.kp, d.b⟩
/-! ### bends -/
/-! ### smeared readings -/
def WinOk (w : Int) : Prop := 2 ≤ w ∧ w ≤ 43200
instance (w : Int) : Decidable (WinOk w) := inferInstanceAs (Decidable (_ ∧ _))
def kdD (qs : List (Int × Int)) (d : Int) : Int := (lkp qs d).getD 0
theorem dayL_kd (qs : List (Int × Int)) (d : Int) : dayL qs d = 86400 + kdD qs d := rfl
def edQ (qs : List (Int × Int)) (w d : Int) : Rat := ((dayL qs d - w : Int) : Rat)
def rtQ (qs : List (Int × Int)) (w d : Int) : Rat := fr (w - kdD qs d) w
theorem kd_bd {qs : List (Int × Int)} (h : GoodK qs) (d : Int) : -1 ≤ kdD qs d ∧ kdD qs d ≤ 1 := by
  have := dayL_bd h d
  rw [dayL_kd] at this; omega
theorem rt_mul {qs : List (Int × Int)} {w d : Int} (hw : WinOk w) : rtQ qs w d * ((w : Int) : Rat) = ((w - kdD qs d : Int) : Rat) := by
  unfold rtQ fr
  rw [Rat.divInt_eq_div]
  exact Rat.div_mul_cancel (by
    have := hw.1
    intro z
    have : w = 0 := Rat.intCast_inj.mp (by rw [z]; rfl)
    omega)
theorem rt_pos {qs : List (Int × Int)} (h : GoodK qs) {w d : Int} (hw : WinOk w) : 0 < rtQ qs w d := by
  have k := kd_bd h d
  have w1 := hw.1
  unfold rtQ fr
  rw [Rat.divInt_eq_div, Rat.div_def]
  refine Rat.mul_pos ?_ (Rat.inv_pos.mpr ?_)
  · exact Rat.intCast_pos.mpr (by omega)
  · exact Rat.intCast_pos.mpr (by omega)
theorem w_pos {w : Int} (hw : WinOk w) : (0 : Rat) < ((w : Int) : Rat) := Rat.intCast_pos.mpr (by have := hw.1; omega)
theorem ed_top {qs : List (Int × Int)} {w d : Int} (hw : WinOk w) : edQ qs w d + ((w : Int) : Rat) * rtQ qs w d = ((86400 : Int) : Rat) := by
  rw [Rat.mul_comm, rt_mul hw]
  unfold edQ
  rw [← Rat.intCast_add, dayL_kd]
  congr 1; omega
theorem ed_len (qs : List (Int × Int)) (w d : Int) : edQ qs w d + ((w : Int) : Rat) = ((dayL qs d : Int) : Rat) := by
  unfold edQ
  rw [← Rat.intCast_add]
  congr 1; omega
theorem rt_sz {qs : List (Int × Int)} (h : GoodK qs) {w : Int} (hw : WinOk w) (d : Int) : Sz 17 (rtQ qs w d) := by
  have := kd_bd h d
  have w1 := hw.1; have w2 := hw.2
  exact fr_sz ((show Bt 17 _ from bt_of (by omega) (by omega)).mono (by decide)) (bt_of (by omega) (by omega)) (by omega)
theorem sz_d {d : Int} (h : DyC d) : Sz 6 ((86400 * d : Int) : Rat) := by
  have := h.1; have := h.2
  exact sz_int (bt_of (by omega) (by omega))
theorem sz_o {qs : List (Int × Int)} (h : GoodK qs) (hl : qs.length ≤ 60) {d : Int} (hd : DyC d) : Sz 6 ((opn qs d : Int) : Rat) := by
  have := opn_succ h d
  have := dayL_bd h d
  exact sz_opn h hl hd (by omega) (by omega)
theorem i864 (d : Int) : ((86400 * d : Int) : Rat) + ((86400 : Int) : Rat) = ((86400 * (d + 1) : Int) : Rat) := by
  rw [← Rat.intCast_add]; congr 1; omega
/-- within the day -/
def InDay (qs : List (Int × Int)) (d : Int) (u : Rat) : Prop := 0 ≤ u ∧ u < ((dayL qs d : Int) : Rat)
def InRd (g : Rat) : Prop := 0 ≤ g ∧ g < ((86400 : Int) : Rat)
theorem fl_ge {q : Rat} {i : Int} (h : ((i : Int) : Rat) ≤ q) : i ≤ flQ q := by
  obtain ⟨h1, h2⟩ := fl_le q
  have : ((i : Int) : Rat) < ((flQ q + 1 : Int) : Rat) := by
    rw [Rat.intCast_add]
    have o : ((1 : Int) : Rat) = 1 := rfl
    rw [o]; grind
  have := Rat.intCast_lt_intCast.mp this
  omega
theorem fl_lt {q : Rat} {i : Int} (h : q < ((i : Int) : Rat)) : flQ q < i := by
  obtain ⟨h1, h2⟩ := fl_le q
  have : ((flQ q : Int) : Rat) < ((i : Int) : Rat) := by grind
  exact Rat.intCast_lt_intCast.mp this
/-- the day of a time -/
def OnDay (qs : List (Int × Int)) (d : Int) (t : Rat) : Prop := InDay qs d (t - ((opn qs d : Int) : Rat))
theorem OnDay.fl {qs : List (Int × Int)} (h : GoodK qs) {d : Int} {t : Rat} (o : OnDay qs d t) : opn qs d ≤ flQ t ∧ flQ t < opn qs (d + 1) := by
  have o1 := o.1; have o2 := o.2
  refine ⟨fl_ge (by grind), ?_⟩
  rw [opn_succ h]
  refine fl_lt ?_
  rw [Rat.intCast_add]
  grind
/-- the day of a reading -/
def RdDay (d : Int) (v : Rat) : Prop := InRd (v - ((86400 * d : Int) : Rat))
theorem RdDay.fl {d : Int} {v : Rat} (o : RdDay d v) : (flQ v).fdiv 86400 = d := by
  have o1 := o.1; have o2 := o.2
  have h1 : 86400 * d ≤ flQ v := fl_ge (by grind)
  have h2 : flQ v < 86400 * d + 86400 := fl_lt (by rw [Rat.intCast_add]; grind)
  rw [Int.fdiv_eq_ediv_of_nonneg _ (by decide)]
  omega
/-! ### promises -/
end DL

end
section
set_option Elab.async false
set_option linter.all false
set_option autoImplicit true
set_option maxRecDepth 100000
set_option maxHeartbeats 1000000
/-! methods that may raise and give a fresh thing; the smear course (k80) -/
namespace DL
open PySem L2
open PyProof.Rows hiding St
section
variable {X : Cx} {n : Nm} {c : Cc} {Γ : SL} {e o : Expr} {es : List Expr} {kws : List Keyword} {pos p apos : Pos} {cls m : Str} {k : AK} {fs : List (Str × DL.D)} {np : Nat} {kns : List Str} {G : List Par → List Par → List Par} {S : SgX}
end
/-! ### the smear course -/
def pcA (qs : List (Int × Int)) (w : Int) (p : Int × Int) : Pc := (((opn qs p.1 + (dayL qs p.1 - w) : Int) : Rat), ((86400 * p.1 + (dayL qs p.1 - w) : Int) : Rat), fr (w - p.2) w)
def pcL (qs : List (Int × Int)) (d : Int) : Pc := (((opn qs d : Int) : Rat), ((86400 * d : Int) : Rat), ((1 : Int) : Rat))
def inFL (f l : Int) (p : Int × Int) : Bool := decide (f ≤ p.1) && decide (p.1 ≤ l)
def scR (qs : List (Int × Int)) (w : Int) : List (Int × Int) → List Pc
  | [] => []
  | p :: ps => pcA qs w p :: pcL qs (p.1 + 1) :: scR qs w ps
def smC (qs : List (Int × Int)) (w f l : Int) : List Pc := pcL qs f :: scR qs w ((srtP qs).filter (inFL f l))
theorem scR_len (qs : List (Int × Int)) (w : Int) : ∀ ps, (scR qs w ps).length = 2 * ps.length
  | [] => rfl
  | q :: ps => by
    show (scR qs w ps).length + 1 + 1 = _
    rw [scR_len qs w ps, List.length_cons]; omega
theorem pcL_opn {qs : List (Int × Int)} {d : Int} : (pcL qs d).1 = ((opn qs d : Int) : Rat) := rfl
/-- the rows of a part of the table, ascending -/
structure Rws (qs : List (Int × Int)) (D l : Int) (rs : List (Int × Int)) : Prop where
  asc : rs.Pairwise fun p q => p.1 < q.1
  lo : ∀ p ∈ rs, D ≤ p.1 ∧ p.1 ≤ l
  mem : ∀ p ∈ rs, kdD qs p.1 = p.2 ∧ p.2 ≠ 0
  all : ∀ x, D ≤ x → x ≤ l → kdD qs x ≠ 0 → ∃ p ∈ rs, p.1 = x
theorem Rws.tl {qs : List (Int × Int)} {D l : Int} {p : Int × Int} {rs : List (Int × Int)} (h : Rws qs D l (p :: rs)) : Rws qs (p.1 + 1) l rs := by
  have a := List.pairwise_cons.mp h.asc
  refine ⟨a.2, fun q hq => ⟨by have := a.1 q hq; omega, (h.lo q (List.mem_cons_of_mem _ hq)).2⟩, fun q hq => h.mem q (List.mem_cons_of_mem _ hq), fun x h1 h2 h3 => ?_⟩
  obtain ⟨q, hq, e⟩ := h.all x (by have := (h.lo p (List.mem_cons_self ..)).1; omega) h2 h3
  rcases List.mem_cons.mp hq with z | z
  · subst z; omega
  · exact ⟨q, z, e⟩
theorem kd_mem {qs : List (Int × Int)} (h : GoodK qs) {p : Int × Int} (hp : p ∈ qs) : kdD qs p.1 = p.2 := by
  unfold kdD; rw [lkp_mem h.nd hp]; rfl
theorem kd_some {qs : List (Int × Int)} {d : Int} (h : kdD qs d ≠ 0) : ∃ p ∈ qs, p.1 = d := by
  unfold kdD lkp at h
  cases e : qs.find? (fun p => decide (p.1 = d)) with
  | none => rw [e] at h; exact absurd rfl h
  | some p => exact ⟨p, List.mem_of_find?_eq_some e, by have := List.find?_some e; simpa using this⟩
theorem rws_of {qs : List (Int × Int)} (h : GoodK qs) (f l : Int) : Rws qs f l ((srtP qs).filter (inFL f l)) := by
  have hp := srtP_perm qs
  refine ⟨?_, fun p hp1 => ?_, fun p hp1 => ?_, fun x h1 h2 h3 => ?_⟩
  · refine List.Pairwise.filter _ ?_
    have nd : ((srtP qs).map (·.1)).Nodup := ((hp.map (·.1)).nodup_iff).mpr h.nd
    have nd' : (srtP qs).Pairwise fun p q => p.1 ≠ q.1 := List.pairwise_map.mp nd
    refine ((srtP_le qs).and nd').imp fun {a b} ⟨h1, h2⟩ => ?_
    rw [leP_iff] at h1
    omega
  · have := (List.mem_filter.mp hp1).2
    unfold inFL at this
    simpa using this
  · have hm := hp.mem_iff.mp (List.mem_filter.mp hp1).1
    exact ⟨kd_mem h hm, by rcases h.k1 p hm with z | z <;> omega⟩
  · obtain ⟨p, hm, e⟩ := kd_some h3
    exact ⟨p, List.mem_filter.mpr ⟨hp.mem_iff.mpr hm, by unfold inFL; simp; omega⟩, e⟩
theorem gap_opn {qs : List (Int × Int)} (h : GoodK qs) (D : Int) : ∀ n : Nat, (∀ x, D ≤ x → x < D + (n : Int) → kdD qs x = 0) → opn qs (D + (n : Int)) = opn qs D + 86400 * (n : Int)
  | 0, _ => by simp
  | n + 1, hz => by
    have ih := gap_opn h D n fun x h1 h2 => hz x h1 (by omega)
    have e := opn_succ h (D + (n : Int))
    have k := hz (D + (n : Int)) (by omega) (by omega)
    rw [dayL_kd, k] at e
    have e2 : D + ((n + 1 : Nat) : Int) = D + (n : Int) + 1 := by omega
    rw [e2, e]; omega
theorem gap_to {qs : List (Int × Int)} (h : GoodK qs) {D d : Int} (le : D ≤ d) (hz : ∀ x, D ≤ x → x < d → kdD qs x = 0) : opn qs d = opn qs D + 86400 * (d - D) := by
  have := gap_opn h D (d - D).toNat fun x h1 h2 => hz x h1 (by omega)
  have e : ((d - D).toNat : Int) = d - D := by omega
  rw [e, show D + (d - D) = d by omega] at this
  exact this
/-- the line from day D shows day d, without a leap between -/
theorem line_day {qs : List (Int × Int)} (h : GoodK qs) {D d : Int} (le : D ≤ d) (hz : ∀ x, D ≤ x → x < d → kdD qs x = 0) (u : Rat) : pline (pcL qs D) (((opn qs d : Int) : Rat) + u) = ((86400 * d : Int) : Rat) + u := by
  have e := gap_to h le hz
  unfold pline pcL
  have c1 : ((opn qs d : Int) : Rat) = ((opn qs D : Int) : Rat) + ((86400 * (d - D) : Int) : Rat) := by rw [← Rat.intCast_add, e]
  have c2 : ((86400 * d : Int) : Rat) = ((86400 * D : Int) : Rat) + ((86400 * (d - D) : Int) : Rat) := by
    rw [← Rat.intCast_add]; congr 1; omega
  have o : ((1 : Int) : Rat) = 1 := rfl
  show ((86400 * D : Int) : Rat) + ((1 : Int) : Rat) * (((opn qs d : Int) : Rat) + u - ((opn qs D : Int) : Rat)) = _
  rw [c1, c2, o]; grind
theorem rt_row {qs : List (Int × Int)} {w : Int} {p : Int × Int} (h : kdD qs p.1 = p.2) : fr (w - p.2) w = rtQ qs w p.1 := by unfold rtQ; rw [h]
theorem line_A {qs : List (Int × Int)} {w : Int} {p : Int × Int} (hk : kdD qs p.1 = p.2) (u : Rat) : pline (pcA qs w p) (((opn qs p.1 : Int) : Rat) + u) = ((86400 * p.1 : Int) : Rat) + (edQ qs w p.1 + (u - edQ qs w p.1) * rtQ qs w p.1) := by
  unfold pline pcA
  rw [rt_row hk]
  show ((86400 * p.1 + (dayL qs p.1 - w) : Int) : Rat) + rtQ qs w p.1 * (((opn qs p.1 : Int) : Rat) + u - ((opn qs p.1 + (dayL qs p.1 - w) : Int) : Rat)) = _
  rw [Rat.intCast_add (86400 * p.1), Rat.intCast_add (opn qs p.1)]
  unfold edQ
  grind
theorem pcA_1 {qs : List (Int × Int)} {w : Int} {p : Int × Int} : (pcA qs w p).1 = ((opn qs p.1 : Int) : Rat) + edQ qs w p.1 := by
  unfold pcA edQ
  exact Rat.intCast_add ..
theorem ed_pos {qs : List (Int × Int)} (h : GoodK qs) {w d : Int} (hw : WinOk w) : 0 < edQ qs w d := by
  have := dayL_bd h d
  have w1 := hw.2
  exact Rat.intCast_pos.mpr (by omega)
theorem opn_le_q {qs : List (Int × Int)} (h : GoodK qs) {a b : Int} (le : a ≤ b) : ((opn qs a : Int) : Rat) ≤ ((opn qs b : Int) : Rat) := Rat.intCast_le_intCast.mpr (by have := opn_le h le; omega)
theorem opn_next {qs : List (Int × Int)} (h : GoodK qs) (a : Int) : ((opn qs (a + 1) : Int) : Rat) = ((opn qs a : Int) : Rat) + ((dayL qs a : Int) : Rat) := by rw [opn_succ h, Rat.intCast_add]
theorem ed_lt {qs : List (Int × Int)} {w d : Int} (hw : WinOk w) : edQ qs w d < ((dayL qs d : Int) : Rat) := by
  have := ed_len qs w d
  have := w_pos hw
  grind
theorem scR_gt {qs : List (Int × Int)} (h : GoodK qs) {w : Int} (hw : WinOk w) : ∀ {rs : List (Int × Int)} {D : Int}, (∀ p ∈ rs, D ≤ p.1) → ∀ x ∈ scR qs w rs, ((opn qs D : Int) : Rat) < x.1
  | [], _, _, x, hx => by cases hx
  | p :: rs, D, hl, x, hx => by
    have h1 := opn_le_q h (hl p (List.mem_cons_self ..))
    have h2 := ed_pos h hw (d := p.1)
    have h3 := ed_lt (qs := qs) (d := p.1) hw
    have h4 := opn_next h p.1
    rcases List.mem_cons.mp hx with e | hx
    · rw [e, pcA_1]; grind
    · rcases List.mem_cons.mp hx with e | hx
      · rw [e, pcL_opn]; grind
      · exact scR_gt h hw (fun q hq => hl q (List.mem_cons_of_mem _ hq)) x hx
theorem scR_asc {qs : List (Int × Int)} (h : GoodK qs) {w l : Int} (hw : WinOk w) : ∀ {rs : List (Int × Int)} {D : Int}, Rws qs D l rs → Asc (pcL qs D :: scR qs w rs)
  | [], D, _ => List.pairwise_cons.mpr ⟨fun x hx => (by cases hx), List.Pairwise.nil⟩
  | p :: rs, D, hr => by
    have ih := scR_asc h hw hr.tl
    have g := scR_gt h hw (D := p.1 + 1) (fun q hq => (hr.tl.lo q hq).1)
    have h3 := ed_lt (qs := qs) (d := p.1) hw
    have h4 := opn_next h p.1
    refine List.pairwise_cons.mpr ⟨fun x hx => ?_, List.pairwise_cons.mpr ⟨fun x hx => ?_, ih⟩⟩
    · exact scR_gt h hw (fun q hq => (hr.lo q hq).1) x hx
    · rw [pcA_1]
      rcases List.mem_cons.mp hx with e | hx
      · rw [e, pcL_opn]; grind
      · have := g x hx; grind
theorem smC_len {qs : List (Int × Int)} (hl : qs.length ≤ 60) (w f l : Int) : (smC qs w f l).length ≤ 121 := by
  unfold smC
  rw [List.length_cons, scR_len]
  have := List.length_filter_le (inFL f l) (srtP qs)
  rw [len_srtP] at this
  omega
theorem scR_sz {qs : List (Int × Int)} (h : GoodK qs) (hl : qs.length ≤ 60) {w l : Int} (hw : WinOk w) : ∀ {rs : List (Int × Int)} {D : Int}, DyC D → l ≤ 5999998 → Rws qs D l rs → Cz 6 6 17 (pcL qs D :: scR qs w rs)
  | rs, D, hD, hl', hr => fun x hx => by
    have one : Sz 17 ((1 : Int) : Rat) := (sz_int (bt_of (by decide) (by decide))).mono (by decide)
    rcases List.mem_cons.mp hx with e | hx
    · rw [e]; exact ⟨sz_o h hl hD, sz_d hD, one⟩
    · match rs, hr, hx with
      | p :: rs, hr, hx =>
        have pl := hr.lo p (List.mem_cons_self ..)
        have pk := hr.mem p (List.mem_cons_self ..)
        have dp : DyC p.1 := ⟨by have := hD.1; omega, by omega⟩
        have dn : DyC (p.1 + 1) := ⟨by have := hD.1; omega, by omega⟩
        have d1 := dp.1; have d2 := dp.2
        have b := opn_bd h hl p.1
        have L := dayL_bd h p.1
        have w1 := hw.1; have w2 := hw.2
        rcases List.mem_cons.mp hx with e | hx
        · rw [e]
          refine ⟨sz_int (bt_of (by omega) (by omega)), sz_int (bt_of (by omega) (by omega)), ?_⟩
          show Sz 17 (fr (w - p.2) w)
          rw [rt_row pk.1]; exact rt_sz h hw p.1
        · exact scR_sz h hl hw dn hl' hr.tl x hx
theorem smC_cw {qs : List (Int × Int)} (h : GoodK qs) (hl : qs.length ≤ 60) {w f l : Int} (hw : WinOk w) (hf : DyC f) (hl' : l ≤ 5999998) : Cz 6 6 17 (smC qs w f l) ∧ Cw 6 6 17 (smC qs w f l) := by
  have z := scR_sz h hl hw hf hl' (rws_of h f l)
  exact ⟨z, z, by decide, by have := smC_len hl w f l; omega⟩
/-! promises -/
def FLok (f l : Int) : Prop := -730119 ≤ f ∧ l ≤ 2921939
end DL

end
section
set_option Elab.async false
set_option linter.all false
set_option autoImplicit true
set_option maxRecDepth 100000
set_option maxHeartbeats 1000000
/-! covers: lists of spans in normal form -/
namespace DL
open PySem L2
open PyProof.Rows hiding St
def gapS (a b : Spn) : Prop := ∃ h l, a.2 = some h ∧ b.1 = some l ∧ h < l
structure Nrm (r : List Spn) : Prop where
  ord : ∀ s ∈ r, OrdS s
  gap : r.Pairwise gapS
def memS (r : List Spn) (t : Rat) : Bool := r.any (inS · t)
theorem Nrm.tl {a : Spn} {r : List Spn} (h : Nrm (a :: r)) : Nrm r := ⟨fun s hs => h.ord s (List.mem_cons_of_mem _ hs), (List.pairwise_cons.mp h.gap).2⟩
theorem Nrm.nil : Nrm [] := ⟨fun s hs => (by cases hs), List.Pairwise.nil⟩
/-! ### the walk of union_rows -/
def bgB (a b : Spn) : Bool := match a.1, b.1 with
  | none, _ => true
  | some _, none => false
  | some x, some y => decide (x ≤ y)
def SzR (k : Nat) (r : List Spn) : Prop := ∀ s ∈ r, SzS k s
theorem Nrm.drop {a : List Spn} (h : Nrm a) (i : Nat) : Nrm (a.drop i) := ⟨fun s hs => h.ord s (List.mem_of_mem_drop hs), h.gap.sublist (List.drop_sublist i a)⟩
structure UInv (a b rows : List Spn) (i j : Nat) : Prop where
  n : Nrm rows
  m : ∀ t, (memS rows t || (memS (a.drop i) t || memS (b.drop j) t)) = (memS a t || memS b t)
  bg : ∀ r, rows.getLast? = some r → ∀ x, (x ∈ a.drop i ∨ x ∈ b.drop j) → bgB r x = true
theorem UInv.swap {a b rows : List Spn} {i j : Nat} (h : UInv a b rows i j) : UInv b a rows j i := ⟨h.n, fun t => by rw [Bool.or_comm (memS (b.drop j) t), h.m, Bool.or_comm], fun r hr x hx => h.bg r hr x hx.symm⟩
theorem UInv.zero (a b : List Spn) : UInv a b [] 0 0 := ⟨Nrm.nil, fun t => rfl, fun r hr => by cases hr⟩
/-! promises -/
/-! any, the last item -/
section
variable {X : Cx} {n : Nm} {c : Cc} {Γ : SL} {e : Expr} {pos p : Pos} {k : AK}
end
end DL

end
section
set_option Elab.async false
set_option linter.all false
set_option autoImplicit true
set_option maxRecDepth 100000
set_option maxHeartbeats 1000000
/-! comprehensions over a range with a step -/
namespace DL
open PySem L2
open PyProof.Rows hiding St
section
variable {X : Cx} {n n' : Nm} {c : Cc} {Γ : SL} {a b d elt : Expr} {nm : Str} {scope : Scope} {pos p : Pos} {lo hi cc : Int}
end
/-! ### runs that are merged two by two -/
end DL

end
section
set_option Elab.async false
set_option linter.all false
set_option autoImplicit true
set_option maxRecDepth 100000
set_option maxHeartbeats 1000000
/-! covers: the law's side -/
namespace DL
open PySem L2
open PyProof.Rows hiding St
theorem SzR.mono {j k : Nat} {r : List Spn} (h : SzR j r) (e : j ≤ k) : SzR k r := fun s hs => (h s hs).mono e
theorem SzR.ends {k : Nat} {r : List Spn} (h : SzR k r) : ∀ q ∈ endsQ r, Sz k q := fun q hq => by
  obtain ⟨s, hs, hm⟩ := List.mem_flatMap.mp hq
  have := h s hs
  rcases List.mem_append.mp hm with hm | hm
  · exact this.1 q (by simpa using hm)
  · exact this.2 q (by simpa using hm)
theorem SzR.app {k : Nat} {a b : List Spn} (ha : SzR k a) (hb : SzR k b) : SzR k (a ++ b) := fun s hs => (List.mem_append.mp hs).elim (ha s) (hb s)
theorem sw_cell {env : Env} {e : Expr} {nm : Str} {p : Pos} {l : Nat} (h : env.kindOf nm = some .cell) : swapsWith e (some (.Name nm p)) l env = pure false := by
  unfold swapsWith
  have ne : (NameKind.cell == NameKind.local) = false := by decide
  cases e <;> first | rfl | simp [h, ne]
/-- name = a fresh thing, where a comprehension sees the name -/
theorem ws_setC {X : Cx} {n : Nm} {c : Cc} {Γ : SL} {e : Expr} {nm : Str} {pos : Pos} {De : DE} {s0 : Scope} (i : Nat) {p' : Pos} (h : WO X n c Γ e fun o Γ' => De.nx (Γ'.set i (.own o))) (hk : s0.names.lookup nm = some .cell) (hsc : n.sc = some s0 := by rfl) (hi : n.N[i]? = some nm := by rfl) (ha : n.as.contains i = true := by rfl) (ho : n.oi.contains i = false := by rfl) :
    WS X n c Γ (.Assign [.Name nm p'] e pos) De := .mk fun hn σ R H s E ok => by
  have hs : swapsWith e (some (.Name nm p')) pos.line X.env = pure false := sw_cell (by show X.env.scope.names.lookup nm = _; rw [hn.scp s0 hsc]; exact hk)
  exact (ws_setO i h hi ha ho hs).run hn σ R H s E ok
section
variable {X : Cx} {n : Nm} {c : Cc} {Γ : SL} {e a : Expr} {es : List Expr} {pos p : Pos} {cls : Str} {np : Nat} {G : List Par → List Par → List Par} {S : Sg}
end
end DL

end
section
set_option Elab.async false
set_option linter.all false
set_option autoImplicit true
set_option maxRecDepth 100000
set_option maxHeartbeats 1000000
/-! texts; drawn loops; operators and static methods of own classes -/
namespace DL
open PySem L2
open PyProof.Rows hiding St
section
variable {X : Cx} {n : Nm} {c : Cc} {Γ : SL} {a b e : Expr} {pos p p2 : Pos} {nm : Str} {De : DE} {k l : AK}
/-- for x in range(a number that is drawn) -/
theorem ws_forR1d (j : Nat) {body : List Stmt} {tp : Pos} (Inv : Nat → SL → Prop) (M : Nat → Prop) (hb : Blt X "range" (.type "range")) (jr : Nat) (h : WE X n c Γ a fun x Γ1 => ∃ m : Nat, x = .int (m : Int) ∧ m < 2 ^ 62 ∧ M m ∧ Inv 0 Γ1)
    (hs : ∀ m, M m → ∀ i Γ', i < m → Inv i Γ' → WB X n c (Γ'.set j (.d (.int (i : Int)))) body (turnE De (Inv (i + 1)))) (hd : ∀ m Γ', M m → Inv m Γ' → De.nx Γ') (hjr : n.GN[jr]? = some ("range" : Str) := by rfl) (hh : n.hot = false := by rfl) (hj : n.N[j]? = some nm := by rfl) (ha : n.as.contains j = true := by rfl) (hoi : n.oi.contains j = false := by rfl)
    (hst : starEach [a] X.env = [(false, eval a X.env)] := by exact se_1 rfl) (hf : ∀ x, foldedSetIterable (.Call (.Name "range" p) [a] [] p2) X.env x = pure x := by intro _; rfl) : WS X n c Γ (.For (.Name nm tp) (.Call (.Name "range" p) [a] [] p2) body [] pos) De := .mk fun hn σ R H s E ok => by
  obtain ⟨l1, l2⟩ := hn.loc j nm ha hj
  obtain ⟨g1, g2, g3⟩ := hn.gl jr _ hjr
  refine (ps_for hn.po (hn.calm hh) (pi_range1 g1 hb.mg (pa_cons pW pa_nil hst) hst) (pg_name (by rw [hn.eq]; exact hn.nd) (by rw [hn.eq]; exact hj) l1 l2) pWB hf).w (h.run hn σ R H s _ fun v R1 H1 x Γ1 s1 e1 r1 ⟨m, hx, h1, hM, p1⟩ => ?_)
  subst hx
  cases (show v = .int (m : Int) from r1)
  refine ⟨(m : Int), rfl, by omega, by omega, ?_⟩
  rw [show ((m : Nat) : Int).toNat = m from Int.toNat_natCast m]
  refine for_range (lo := 0) (n := m) (fun i σ' H' => ∃ R' Γ', SOk X.K c Γ' σ' R' H' ∧ Ex R1 R' ∧ Inv i Γ') ⟨R1, Γ1, s1, Ex.refl _, p1⟩ (fun i σ' H' hi ⟨R', Γ', s', e', p'⟩ => ?_) (fun σ' H' ⟨R', Γ', s', e', p'⟩ => ok.nx σ' R' H' Γ' s' (e1.trans e') (hd m Γ' hM p'))
  have e0 : (0 : Int) + (i : Int) = (i : Int) := Int.zero_add _
  rw [e0]
  exact (hs m hM i Γ' hi p').run hn _ R' H' (s'.setD j (x := .int (i : Int)) rfl (hn.noi hoi)) _ (turnE_ok ok (e1.trans e') fun σ2 R2 H2 Γ2 s2 e2 w => ⟨R2, Γ2, s2, e'.trans e2, w⟩)
/-! ### texts -/
theorem dop_addS : DOp X n c (binaryOp .Add) (fun x y Post => ∃ u w : Str, x = .str u ∧ y = .str w ∧ u.length + w.length ≤ sizeLine ∧ Post (.str (u ++ w))) := fun _ => ⟨_, op_add_str, fun Γ σ R H x y v w Post s hx hy ⟨i, j, e1, e2, hc, p⟩ Q q => by
  subst e1 e2
  exact ⟨i, j, hx.strV, hy.strV, hc, q _ R H (.str (i ++ j)) s (Ex.refl _) rfl p⟩⟩
theorem ev_addS {u w : Str} (ha : EV X n c Γ a (.str u)) (hb : EV X n c Γ b (.str w)) (hz : u.length + w.length ≤ sizeLine) : EV X n c Γ (.BinOp a .Add b pos) (.str (u ++ w)) :=
  ev_bin dop_addS (ek_d ha) (ek_d hb) rfl rfl fun _ z => ⟨u, w, rfl, rfl, hz, z⟩
theorem we_sliceS {lo hi : Option Expr} {l1 h1 : Option Int} {Post : DL.D → SL → Prop} (ha : WK X n c Γ a fun k Γ1 => ∃ u, k.get Γ1 = some (.str u) ∧ u.length ≤ sizeLine ∧ EP1 X n c Γ1 lo l1 ∧ EP1 X n c Γ1 hi h1 ∧ Post (.str (cutS u l1 h1)) Γ1) : WE X n c Γ (.Subscript a (.Slice lo hi none p2) pos) Post := .mk fun hn σ R H s Q q =>
  (pe_slice sl_str pW pP1 pP1).w (ha.run hn σ R H s _ fun v R1 H1 k' Γ1 s1 e1 r1 ⟨u, ga, hz, hl, hh, hp⟩ => by
    exact hl.run hn s1 _ fun R2 H2 s2 e2 => hh.run hn s2 _ fun R3 H3 s3 e3 => by
      have := (((r1.mono e2).mono e3).wk s3 ga).strV
      subst this
      exact ⟨u, rfl, hz, q _ R3 H3 (.str (cutS u l1 h1)) _ s3 ((e1.trans e2).trans e3) rfl hp⟩)
theorem ev_sliceS {lo hi : Option Expr} {l1 h1 : Option Int} {u : Str} (ha : EV X n c Γ a (.str u)) (hz : u.length ≤ sizeLine) (hl : EP1 X n c Γ lo l1) (hh : EP1 X n c Γ hi h1) : EV X n c Γ (.Subscript a (.Slice lo hi none p2) pos) (.str (cutS u l1 h1)) :=
  we_sliceS (wk_ek (ek_d ha) ⟨u, rfl, hz, hl, hh, rfl, rfl⟩)
end
theorem cutS_len (z : Str) (lo hi : Option Int) : (cutS z lo hi).length ≤ z.length := by
  show (Array.size _) ≤ Array.size _
  unfold cutS
  rw [List.size_toArray, List.length_take, List.length_drop, Array.length_toList]
  exact Nat.le_trans (Nat.min_le_right _ _) (Nat.sub_le _ _)
theorem app_len (u w : Str) : (u ++ w).length = u.length + w.length := by
  show Array.size (u.cps ++ w.cps) = _
  rw [Array.size_append]; rfl
/-! ### a op b by an own class's method -/
/-! ### [e for a, b in xs if t] -/
section
variable {K : PySem.W.Frag} {c : Cc} {Γ Γ2 : SL} {σ σ2 : L2.St} {R H R' H' : Hp}
end
section
variable {X : Cx} {n n' : Nm} {c : Cc} {Γ : SL} {iter elt : Expr} {nx ny : Str} {scope : Scope} {pos px py tp : Pos} {kt : Nat} {k : AK} {ds : List DL.D}
abbrev g2 (K : PySem.W.Frag) (i j : Nat) : TG := gTup K 2 (gCons (gName i) (gCons (gName j) gNil))
end
end DL

end
section
set_option Elab.async false
set_option linter.all false
set_option autoImplicit true
set_option maxRecDepth 100000
set_option maxHeartbeats 1000000
/-! static methods, operators; votes -/
namespace DL
open PySem L2
open PyProof.Rows hiding St
/-- a static method without parameters, by its promise -/
structure CalS (X : Cx) (k : Nat) (cls m : Str) (S : Sg) : Prop where
  rm : Room k X.A
  mg : X.mg cls = some (.ref (He.ga X.K cls))
  rd : ClX.CRead X.K (He.ga X.K cls) (.type "type")
  ex : ∃ p g fd ps k0, FnOk X.prog X.w X.K X.mg X.base CX0 k0 g fd ps (spOf X.K S) ∧ k0 ≤ k ∧ PySem.W.findCls X.K (.ref (He.ga X.K cls)) (.type "type") m = some (.get (.builtin "staticmethod.__get__") (.ref p) .none (.ref (He.ga X.K cls))) ∧ (∃ rest, PySem.W.recIn X.K p "staticmethod" = some (.ref g :: rest)) ∧ PySem.W.keepIn X.K (.ref g) = true ∧ Binds X.K fd ps []
structure StatAt (K : PySem.W.Frag) (mg : Str → Option Value) (cls m : Str) (qual : Str) (st : Stmt) (ps : List Str) where
  fd : FuncData
  F : Fun K m qual st (He5.wf K (He.ga K cls) "staticmethod" m) fd
  fc : PySem.W.findCls K (.ref (He.ga K cls)) (.type "type") m = some (.get (.builtin "staticmethod.__get__") (.ref (He.ma K (He.ga K cls) m)) .none (.ref (He.ga K cls)))
  rc : ∃ rest, PySem.W.recIn K (He.ma K (He.ga K cls) m) "staticmethod" = some (.ref (He5.wf K (He.ga K cls) "staticmethod" m) :: rest)
  rd : ClX.CRead K (He.ga K cls) (.type "type")
  mg : mg cls = some (.ref (He.ga K cls))
  b : Binds K fd ps []
theorem StatAt.cal {X : Cx} {cls m qual : Str} {st : Stmt} {ps : List Str} {k k0 : Nat} {S : Sg} (d : StatAt X.K X.mg cls m qual st ps) (F : FnOk X.prog X.w X.K X.mg X.base CX0 k0 (He5.wf X.K (He.ga X.K cls) "staticmethod" m) d.fd ps (spOf X.K S)) (h : k0 ≤ k) (rm : Room k X.A) : CalS X k cls m S :=
  ⟨rm, d.mg, d.rd, _, _, d.fd, ps, k0, F, h, d.fc, d.rc, d.F.kp, d.b⟩
section
variable {X : Cx} {n : Nm} {c : Cc} {Γ : SL} {a b e : Expr} {pos p apos : Pos} {cls m : Str} {S : Sg} {k l : AK} {fs gs : List (Str × DL.D)}
end
/-! ### votes -/
abbrev Vt := Str × Spn
def dep (vs : List Vt) (t : Rat) : Nat := (vs.filter fun v => inS v.2 t).length
def VtOk (k : Nat) (vs : List Vt) : Prop := ∀ v ∈ vs, OrdS v.2 ∧ SzS k v.2 ∧ v.1.length ≤ 100
def cnt (E : List (Bool × Rat)) (t : Rat) : Int := match E with
  | [] => 0
  | (true, x) :: E => (if x ≤ t then 1 else 0) + cnt E t
  | (false, y) :: E => (if y < t then -1 else 0) + cnt E t
def Asn (qs : List Rat) : Prop := qs.Pairwise fun a b => a ≤ b
theorem Asn.ge {a : Rat} {qs : List Rat} (h : Asn (a :: qs)) : ∀ x ∈ a :: qs, a ≤ x := fun x hx => by
  rcases List.mem_cons.mp hx with e | hx
  · rw [e]; exact Rat.le_refl
  · exact (List.pairwise_cons.mp h).1 x hx
/-! promises -/
/-! helpers -/
theorem VtOk.mono {j k : Nat} {vs : List Vt} (h : VtOk j vs) (e : j ≤ k) : VtOk k vs := fun v hv => ⟨(h v hv).1, (h v hv).2.1.mono e, (h v hv).2.2⟩
theorem str_at {w : Str} {k : Nat} (h : k < w.length) (hz : w.length ≤ sizeLine) : ∃ ch : Str, (DL.D.str w).at (k : Int) = some (.str ch) ∧ ch.length = 1 := by
  obtain ⟨z, hz2⟩ : ∃ z, w.cps.toList[k]? = some z := ⟨_, List.getElem?_eq_getElem (by rw [Array.length_toList]; exact h)⟩
  refine ⟨⟨#[z]⟩, ?_, rfl⟩
  show (if w.length ≤ sizeLine then (atI w.cps.toList (k : Int)).map fun c => DL.D.str ⟨#[c]⟩ else none) = _
  rw [if_pos hz, atI_nat hz2]; rfl
section
variable {X : Cx} {n : Nm} {c : Cc} {Γ : SL} {e : Expr} {pos p p1 : Pos} {nm sn : Str}
end
end DL

end
section
set_option Elab.async false
set_option linter.all false
set_option autoImplicit true
set_option maxRecDepth 100000
set_option maxHeartbeats 1000000
/-! probes that tell all; the greatest depth -/
namespace DL
open PySem L2
open PyProof.Rows hiding St
/-! ### probes -/
def Tells (qs ts : List Rat) : Prop := ∀ x : Rat, ∃ t ∈ ts, ∀ q ∈ qs, (q < x ↔ q < t) ∧ (x < q ↔ t < q)
theorem fr12_eq : fr 1 2 = (1 / 2 : Rat) := by rw [fr_div]; rfl
structure PrOk (out ts : List Rat) (j : Nat) : Prop where
  e : ∀ i z, i < j → out[i]? = some z → z ∈ ts
  m : ∀ i a b, i < j → out[i]? = some a → out[i + 1]? = some b → (a + b) * fr 1 2 ∈ ts
  lo : ∀ a, out[0]? = some a → a - fr 1 1 ∈ ts
theorem PrOk.nil {out : List Rat} {y : Rat} (h : out[0]? = some y) : PrOk out [y - fr 1 1] 0 := ⟨fun i z hi => absurd hi (Nat.not_lt_zero _), fun i a b hi => absurd hi (Nat.not_lt_zero _), fun a ha => by
  rw [h] at ha
  rw [← Option.some.inj ha]; exact List.mem_cons_self ..⟩
theorem Tells.sub {a b ts : List Rat} (h : Tells b ts) (e : ∀ q ∈ a, q ∈ b) : Tells a ts := fun x => by
  obtain ⟨t, ht, hq⟩ := h x
  exact ⟨t, ht, fun q hq' => hq q (e q hq')⟩
/-! ### spans in lists -/
section
variable {X : Cx} {n : Nm} {c : Cc} {Γ : SL} {a b : Expr} {pos : Pos} {k l : AK}
end
section
variable {X : Cx} {n n' : Nm} {c : Cc} {Γ : SL} {iter elt : Expr} {nx ny : Str} {scope : Scope} {pos px py tp : Pos} {kt : Nat} {k : AK} {ds : List DL.D}
end
/-! ### the greatest depth -/
def Gr (vs : List Vt) (N : Nat) : Prop := (∀ t, dep vs t ≤ N) ∧ ∃ t, dep vs t = N
theorem Gr.mem {vs : List Vt} {N : Nat} (h : Gr vs N) (t : Rat) : decide ((N : Int) ≤ (dep vs t : Int)) = decide ((dep vs t : Int) = (N : Int)) := by
  have := h.1 t
  exact decide_eq_decide.mpr (by omega)
theorem Gr.ne {vs : List Vt} {N : Nat} {r : List Spn} (h : Gr vs N) (m : ∀ t, memS r t = decide ((N : Int) ≤ (dep vs t : Int))) : r ≠ [] := fun z => by
  obtain ⟨t, ht⟩ := h.2
  have := m t
  rw [z, ht, decide_eq_true (Int.le_refl _)] at this
  cases this
end DL

end
section
set_option Elab.async false
set_option linter.all false
set_option autoImplicit true
set_option maxRecDepth 100000
set_option maxHeartbeats 1000000
/-! names that differ; sorted names; a comprehension over an own instance; outliers -/
namespace DL
open PySem L2
open PyProof.Rows hiding St
/-! ### texts by their code points -/
def cL (s : Str) : List Nat := s.cps.toList
theorem app_cL (a b : Str) : cL (a ++ b) = cL a ++ cL b := Array.toList_append
theorem cL_len (s : Str) : (cL s).length = s.length := Array.length_toList
theorem str_at' {w : Str} {k : Nat} (h : k < w.length) (hz : w.length ≤ sizeLine) : ∃ z : Nat, (cL w)[k]? = some z ∧ (DL.D.str w).at (k : Int) = some (.str ⟨#[z]⟩) := by
  obtain ⟨z, hz2⟩ : ∃ z, w.cps.toList[k]? = some z := ⟨_, List.getElem?_eq_getElem (by rw [Array.length_toList]; exact h)⟩
  refine ⟨z, hz2, ?_⟩
  show (if w.length ≤ sizeLine then (atI w.cps.toList (k : Int)).map fun c => DL.D.str ⟨#[c]⟩ else none) = _
  rw [if_pos hz, atI_nat hz2]; rfl
/-! ### names -/
def sgN (big : Bool) (mu : Str) (fi sp i : Nat) : List Nat := ((cL mu)[(fi + i * sp) % mu.length]?).toList ++ (if big then [48 + i / mu.length] else [])
def NmAt (P : Str) (big : Bool) (mu : Str) (fi sp : Nat) (i : Nat) (s : Str) : Prop := (∃ T, cL s = cL P ++ sgN big mu fi sp i ++ T) ∨ (i = 0 ∧ s = P)
structure NmsOk (P : Str) (big : Bool) (mu : Str) (fi sp m : Nat) (ns : List Str) : Prop where
  len : ns.length = m
  sz : ∀ s ∈ ns, s.length ≤ 40
  at_ : ∀ i s, ns[i]? = some s → NmAt P big mu fi sp i s
theorem NmsOk.nil {P : Str} {big : Bool} {mu : Str} {fi sp : Nat} : NmsOk P big mu fi sp 0 [] := ⟨rfl, fun s h => (by cases h), fun i s h => by cases h⟩
theorem NmsOk.snoc {P : Str} {big : Bool} {mu : Str} {fi sp m : Nat} {ns : List Str} {s : Str} (h : NmsOk P big mu fi sp m ns) (hs : s.length ≤ 40) (ha : NmAt P big mu fi sp m s) : NmsOk P big mu fi sp (m + 1) (ns ++ [s]) := by
  refine ⟨by rw [List.length_append, h.len]; rfl, fun x hx => ?_, fun i x hx => ?_⟩
  · rcases List.mem_append.mp hx with z | z
    · exact h.sz x z
    · rw [List.mem_singleton.mp z]; exact hs
  · rcases Nat.lt_or_ge i ns.length with c | c
    · rw [List.getElem?_append_left c] at hx; exact h.at_ i x hx
    · rw [List.getElem?_append_right c] at hx
      have hi : i - ns.length = 0 := by
        have := (List.getElem?_eq_some_iff.mp hx).1
        rw [List.length_singleton] at this; omega
      rw [hi] at hx
      cases hx
      have : i = m := by rw [← h.len]; omega
      rw [this]; exact ha
/-! ### sorted -/
theorem lt_trans : ∀ {a b c : List Nat}, Spec.ltCps b a = false → Spec.ltCps c b = false → Spec.ltCps c a = false
  | [], _, [], _, _ => rfl
  | [], _, _ :: _, _, _ => rfl
  | _ :: _, [], _, h, _ => by cases h
  | _ :: _, _ :: _, [], _, h => by cases h
  | x :: a, y :: b, z :: c, h, g => by
    simp only [Spec.ltCps, Bool.or_eq_false_iff, Bool.and_eq_false_iff, decide_eq_false_iff_not, beq_eq_false_iff_ne] at h g ⊢
    refine ⟨by omega, ?_⟩
    by_cases e : z = x
    · right
      exact lt_trans (h.2.resolve_left (by omega)) (g.2.resolve_left (by omega))
    · exact .inl e
section
variable {X : Cx} {n : Nm} {c : Cc} {Γ : SL}
end
/-! ### a comprehension over an own instance -/
section
variable {X : Cx} {n n' : Nm} {c : Cc} {Γ : SL} {iter elt : Expr} {nm : Str} {scope : Scope} {pos : Pos} {k : AK} {ds : List DL.D} {cls fl : Str} {fs : List (Str × DL.D)}
end
/-! ### outliers -/
end DL

end
section
set_option Elab.async false
set_option linter.all false
set_option autoImplicit true
set_option maxRecDepth 100000
set_option maxHeartbeats 1000000
/-! operators of covers: meeting rows, the nearest time, sizes -/
namespace DL
open PySem L2
open PyProof.Rows hiding St
theorem Nrm.snoc {rows : List Spn} {m : Spn} (h : Nrm rows) (om : OrdS m) (g : ∀ r, rows.getLast? = some r → gapS r m) : Nrm (rows ++ [m]) := by
  rcases List.eq_nil_or_concat rows with e | ⟨rs, r, e⟩
  · subst e
    exact ⟨fun s hs => by rw [List.mem_singleton.mp hs]; exact om, List.pairwise_singleton ..⟩
  · rw [List.concat_eq_append] at e
    subst e
    have gr := g r (by simp)
    have pw := List.pairwise_append.mp h.gap
    refine ⟨fun s hs => ?_, List.pairwise_append.mpr ⟨h.gap, List.pairwise_singleton .., fun s hs x hx => ?_⟩⟩
    · rcases List.mem_append.mp hs with z | z
      · exact h.ord s z
      · rw [List.mem_singleton.mp z]; exact om
    · rw [List.mem_singleton.mp hx]
      rcases List.mem_append.mp hs with z | z
      · obtain ⟨h1, l1, e1, e2, lt1⟩ := pw.2.2 s z r (by simp)
        obtain ⟨h2, l2, e3, e4, lt2⟩ := gr
        have := h.ord r (by simp) l1 h2 e2 e3
        exact ⟨h1, l2, e1, e4, by grind⟩
      · rw [List.mem_singleton.mp z]; exact gr
structure MInv (a b rows : List Spn) (i j : Nat) : Prop where
  n : Nrm rows
  m : ∀ t, (memS rows t || (memS (a.drop i) t && memS (b.drop j) t)) = (memS a t && memS b t)
  bg : ∀ r, rows.getLast? = some r → ∀ x ∈ a.drop i, ∀ y ∈ b.drop j, gapS r x ∨ gapS r y
theorem MInv.swap {a b rows : List Spn} {i j : Nat} (h : MInv a b rows i j) : MInv b a rows j i :=
  ⟨h.n, fun t => by rw [Bool.and_comm (memS (b.drop j) t), Bool.and_comm (memS b t)]; exact h.m t, fun r hr x hx y hy => (h.bg r hr y hy x hx).symm⟩
theorem MInv.zero (a b : List Spn) : MInv a b [] 0 0 := ⟨Nrm.nil, fun t => rfl, fun r h => by cases h⟩
/-! the normal form of both, of one -/
/-! moved rows -/
/-! sizes -/
/-! the nearest time -/
end DL

end
section
set_option Elab.async false
set_option linter.all false
set_option autoImplicit true
set_option maxRecDepth 100000
set_option maxHeartbeats 1000000
/-! operators of own classes as values; promises of k05 -/
namespace DL
open PySem L2
open PyProof.Rows hiding St
section
variable {X : Cx} {n : Nm} {c : Cc} {Γ : SL} {a b e o : Expr} {pos p apos : Pos} {cls m : Str} {S : Sg} {k l : AK} {fs gs : List (Str × DL.D)} {z : DL.D}
end
theorem Nrm.take {r : List Spn} (h : Nrm r) (i : Nat) : Nrm (r.take i) := ⟨fun s hs => h.ord s (List.mem_of_mem_take hs), h.gap.sublist (List.take_sublist i r)⟩
end DL

end
section
set_option Elab.async false
set_option linter.all false
set_option autoImplicit true
set_option maxRecDepth 100000
set_option maxHeartbeats 1000000
/-! pairs (number, text) in order; sum; del xs[i] -/
namespace DL
open PySem L2
open PyProof.Rows hiding St
section
variable {X : Cx} {n : Nm} {c : Cc} {Γ : SL} {a b e : Expr} {pos p : Pos} {k l : AK}
/-! max of a list of such pairs -/
end
section
variable {X : Cx} {n n' : Nm} {c : Cc} {Γ : SL} {iter elt : Expr} {nx ny : Str} {scope : Scope} {pos px py tp : Pos} {kt : Nat} {k : AK} {ds : List DL.D}
variable {e1' e2' : Expr} {k1 k2 : AK} {p pos2 : Pos} {d1s d2s : List DL.D}
end
section
variable {X : Cx} {n : Nm} {c : Cc} {Γ : SL} {b : Expr} {nm : Str} {p pos : Pos} {De : DE}
end
/-! ### global defs with keyword-only defaults -/
structure CalG (X : Cx) (k : Nat) (nm : Str) (np : Nat) (kns : List Str) (G : List Par → List Par → List Par) (S : SgX) : Prop where
  rm : Room k X.A
  ex : ∃ f fd ps k0 g gV, FnOk X.prog X.w X.K X.mg X.base (L2N.CX X.prog X.w) k0 f fd ps (spOfX X.K S) ∧ k0 ≤ k ∧ X.mg nm = some (.ref f) ∧ PySem.W.keepIn X.K (.ref f) = true ∧ KBn X.K fd ps np kns g gV ∧
    ∀ M R H vs zs pv pz, ParsOk X.K M R H pv vs → ParsOk X.K M R H pz zs → pv.length = np → pz.length = kns.length → parOi 0 pv = [] → parOi 0 pz = [] → ∃ us, gV vs zs = us ∧ ParsOk X.K M R H (G pv pz) us ∧ parOi 0 (G pv pz) = []
theorem CalG.tr {X : Cx} {k : Nat} {nm : Str} {np : Nat} {kns : List Str} {G : List Par → List Par → List Par} {S : SgX} {pn : List (Addr × Obj)} {xe : Value → Shared → Prop} (h : CalG X k nm np kns G S) : CalG (X.tr pn xe) k nm np kns G S := ⟨h.rm, h.ex⟩
section
variable {X : Cx} {n : Nm} {c : Cc} {Γ : SL} {e : Expr} {es : List Expr} {kws : List Keyword} {pos p : Pos} {nm : Str} {np : Nat} {kns : List Str} {G : List Par → List Par → List Par} {S : SgX}
end
end DL

end
section
set_option Elab.async false
set_option linter.all false
set_option autoImplicit true
set_option maxRecDepth 100000
set_option maxHeartbeats 1000000
/-! votes with two ends: thinned, weighed -/
namespace DL
open PySem L2
open PyProof.Rows hiding St
abbrev FV := Str × Rat × Rat
def midF (f : FV) : Rat := (f.2.1 + f.2.2) * fr 1 2
/-! ### whole numbers over a common line -/
/-! ### the middle that balances -/
end DL

end
section
set_option Elab.async false
set_option linter.all false
set_option autoImplicit true
set_option maxRecDepth 100000
set_option maxHeartbeats 1000000
/-! k30: sizes, promises -/
namespace DL
open PySem L2
open PyProof.Rows hiding St
section
variable {X : Cx} {n : Nm} {c : Cc} {Γ : SL} {e : Expr} {k : AK} {ds : List DL.D}
end
abbrev BB : Rat := 8589934592
def EndG (b : Rat) (s : Spn) : Prop := (∀ x, s.1 = some x → La 120 b x) ∧ ∀ x, s.2 = some x → La 120 b x
def VtG (b : Rat) (vs : List Vt) : Prop := ∀ v ∈ vs, OrdS v.2 ∧ EndG b v.2 ∧ v.1.length ≤ 100
def HalfQ (b : Nat) (q : Rat) : Prop := ∃ i : Int, q = fr i 2 ∧ -(b : Int) ≤ i ∧ i ≤ (b : Int)
def HalfS (b : Nat) (s : Spn) : Prop := (∀ x, s.1 = some x → HalfQ b x) ∧ ∀ x, s.2 = some x → HalfQ b x
def FG (fs : List FV) : Prop := ∀ f ∈ fs, f.2.1 ≤ f.2.2 ∧ La 120 BB f.2.1 ∧ La 120 BB f.2.2
theorem La.s7 {q : Rat} (h : La 120 BB q) : Sz 7 q := h.sz (by decide) (by
  show (8589934592 : Rat) ≤ ((2 ^ 49 : Nat) : Rat)
  decide +kernel)
theorem VtG.sz {vs : List Vt} (h : VtG BB vs) {v : Vt} (hv : v ∈ vs) : SzS 7 v.2 := ⟨fun x hx => ((h v hv).2.1.1 x hx).s7, fun x hx => ((h v hv).2.1.2 x hx).s7⟩
theorem FG.sub {a b : List FV} (h : FG b) (s : ∀ f ∈ a, f ∈ b) : FG a := fun f hf => h f (s f hf)
theorem half_la : La 2 1 (fr 1 2) := ⟨by decide, by decide +kernel, by decide +kernel, by decide +kernel⟩
theorem FG.mid {fs : List FV} (h : FG fs) {f : FV} (hf : f ∈ fs) : La 240 BB (midF f) := by
  obtain ⟨h1, h2, h3⟩ := h f hf
  have e := (h2.add h3).mul half_la
  exact ⟨by decide, e.d, by have := h2.lo; have := h3.lo; unfold midF; rw [fr12_eq]; grind, by have := h2.hi; have := h3.hi; unfold midF; rw [fr12_eq]; grind⟩
/-- the whole numbers of the middles -/
structure MidI (c : Rat) (fs : List FV) (ns : List Int) : Prop where
  c0 : 0 < c
  e : ns.map (fun n => ((n : Int) : Rat)) = fs.map fun f => c * midF f
theorem MidI.len {c : Rat} {fs : List FV} {ns : List Int} (h : MidI c fs ns) : ns.length = fs.length := by
  have := congrArg List.length h.e
  rwa [List.length_map, List.length_map] at this
theorem MidI.at {c : Rat} {fs : List FV} {ns : List Int} (h : MidI c fs ns) {i : Nat} {f : FV} (hi : fs[i]? = some f) : ∃ n, ns[i]? = some n ∧ ((n : Int) : Rat) = c * midF f := by
  have h1 : (ns.map (fun n => ((n : Int) : Rat)))[i]? = some (c * midF f) := by rw [h.e, List.getElem?_map, hi]; rfl
  rw [List.getElem?_map] at h1
  obtain ⟨n, e1, e2⟩ := Option.map_eq_some_iff.mp h1
  exact ⟨n, e1, e2⟩
/-! sizes of the middle that balances -/
end DL

end
section
set_option Elab.async false
set_option linter.all false
set_option autoImplicit true
set_option maxRecDepth 100000
set_option maxHeartbeats 1000000
/-! k30: promises -/
namespace DL
open PySem L2
open PyProof.Rows hiding St
def HalfO (b : Nat) (o : Option Rat) : Prop := ∀ q, o = some q → HalfQ b q
def HalfR (b : Nat) (ss : List Spn) : Prop := ∀ s ∈ ss, HalfS b s
theorem HalfQ.mono {b c : Nat} {q : Rat} (h : HalfQ b q) (e : b ≤ c) : HalfQ c q := by
  obtain ⟨i, h1, h2, h3⟩ := h
  exact ⟨i, h1, by omega, by omega⟩
theorem HalfO.mono {b c : Nat} {o : Option Rat} (h : HalfO b o) (e : b ≤ c) : HalfO c o := fun q hq => (h q hq).mono e
theorem HalfS.mono {b c : Nat} {s : Spn} (h : HalfS b s) (e : b ≤ c) : HalfS c s := ⟨fun q hq => (h.1 q hq).mono e, fun q hq => (h.2 q hq).mono e⟩
theorem HalfR.mono {b c : Nat} {s : List Spn} (h : HalfR b s) (e : b ≤ c) : HalfR c s := fun x hx => (h x hx).mono e
theorem HalfQ.sz {b : Nat} {q : Rat} (h : HalfQ b q) (e : b ≤ 5000000) : Sz 24 q := by
  obtain ⟨i, rfl, h2, h3⟩ := h
  exact fr_sz ((show Bt 24 i from bt_of (by omega) (by omega)).mono (by decide)) (bt_of (by decide) (by decide)) (by decide)
theorem HalfQ.add {b : Nat} {q : Rat} {t : Nat} (h : HalfQ b q) (ht : t ≤ 4) : HalfQ (b + 4) (q + fr (t : Int) 2) := by
  obtain ⟨i, rfl, h2, h3⟩ := h
  refine ⟨i + t, ?_, by omega, by omega⟩
  unfold fr
  rw [Rat.divInt_add_divInt _ _ (by decide) (by decide), ← Int.add_mul, Rat.divInt_mul_right (by decide)]
/-! the law's own thinning -/
/-! the law -/
end DL

end
section
set_option Elab.async false
set_option linter.all false
set_option autoImplicit true
set_option maxRecDepth 100000
set_option maxHeartbeats 1000000
/-! k31: the met cover walked along the probes -/
namespace DL
open PySem L2
open PyProof.Rows hiding St
/-- two probes that follow each other -/
def WkI (qs : List Rat) (x y : Rat) : Prop := x < y ∧ (∀ q ∈ qs, ¬ (x < q ∧ q < y)) ∧ (x ∉ qs ∨ y ∉ qs)
theorem WkI.sub {qs us : List Rat} {x y : Rat} (h : WkI qs x y) (e : ∀ q, q ∈ us ↔ q ∈ qs) : WkI us x y :=
  ⟨h.1, fun q hq => h.2.1 q ((e q).mp hq), h.2.2.elim (fun z => .inl fun q => z ((e x).mp q)) fun z => .inr fun q => z ((e y).mp q)⟩
structure PrbOk (qs ts : List Rat) : Prop where
  ne : ts ≠ []
  ch : ∀ i x y, ts[i]? = some x → ts[i + 1]? = some y → WkI qs x y
  lo : ∀ x, ts[0]? = some x → ∀ q ∈ qs, x < q
  hi : ∀ x, ts[ts.length - 1]? = some x → ∀ q ∈ qs, q < x
theorem PrbOk.sub {qs us ts : List Rat} (h : PrbOk qs ts) (e : ∀ q, q ∈ us ↔ q ∈ qs) : PrbOk us ts :=
  ⟨h.ne, fun i x y h1 h2 => (h.ch i x y h1 h2).sub e, fun x hx q hq => h.lo x hx q ((e q).mp hq), fun x hx q hq => h.hi x hx q ((e q).mp hq)⟩
theorem PrbOk.one {x : Rat} {qs : List Rat} (h : qs = []) : PrbOk qs [x] := by
  subst h
  exact ⟨by simp, fun i a b h1 h2 => (by simp at h2), fun a _ q hq => (by cases hq), fun a _ q hq => (by cases hq)⟩
structure PrC (out ts : List Rat) (j : Nat) : Prop where
  ne : ts ≠ []
  ch : ∀ i x y, ts[i]? = some x → ts[i + 1]? = some y → WkI out x y
  lo : ∀ x, ts[0]? = some x → ∀ q ∈ out, x < q
  la : ∀ z, ts[ts.length - 1]? = some z → (∀ y, out[j]? = some y → WkI out z y ∧ z ∉ out) ∧ (out[j]? = none → out[out.length - 1]? = some z)
theorem at_last {ts : List Rat} (h : ts ≠ []) : ∃ z, ts[ts.length - 1]? = some z := by
  have := List.length_pos_iff.mpr h
  exact ⟨_, List.getElem?_eq_getElem (by omega)⟩
theorem ch_snoc {P : Rat → Rat → Prop} {ts : List Rat} {x : Rat} (h : ∀ i a b, ts[i]? = some a → ts[i + 1]? = some b → P a b) (hl : ∀ z, ts[ts.length - 1]? = some z → P z x) : ∀ i a b, (ts ++ [x])[i]? = some a → (ts ++ [x])[i + 1]? = some b → P a b := by
  intro i a b h1 h2
  by_cases c : i + 1 < ts.length
  · rw [List.getElem?_append_left (by omega)] at h1
    rw [List.getElem?_append_left c] at h2
    exact h i a b h1 h2
  · by_cases c2 : i + 1 = ts.length
    · rw [List.getElem?_append_left (by omega)] at h1
      rw [List.getElem?_append_right (by omega), c2, Nat.sub_self] at h2
      cases h2
      exact hl a (by rw [← c2]; exact h1)
    · rw [List.getElem?_eq_none (by rw [List.length_append, List.length_singleton]; omega)] at h2
      cases h2
theorem app0 {ts us : List Rat} (h : ts ≠ []) : (ts ++ us)[0]? = ts[0]? := List.getElem?_append_left (List.length_pos_iff.mpr h)
theorem snoc_last (ts : List Rat) (x : Rat) : (ts ++ [x])[(ts ++ [x]).length - 1]? = some x := by
  rw [List.length_append, List.length_singleton, Nat.add_sub_cancel, List.getElem?_append_right (Nat.le_refl _), Nat.sub_self]; rfl
theorem PrC.nil {out : List Rat} {y : Rat} (hu : Up out) (h : out[0]? = some y) : PrC out [y - fr 1 1] 0 := by
  have h1 : fr 1 1 = (1 : Rat) := by decide +kernel
  have ge : ∀ q ∈ out, y ≤ q := fun q hq => by
    obtain ⟨i, hi⟩ := List.getElem?_of_mem hq
    by_cases c : i = 0
    · subst c; rw [h] at hi; cases hi; grind
    · have := up_lt hu h hi (by omega); grind
  refine ⟨by simp, fun i a b h1 h2 => (by simp at h2), fun x hx q hq => ?_, fun z hz => ⟨fun y' hy => ?_, fun z => (by rw [h] at z; cases z)⟩⟩
  · cases hx
    have := ge q hq
    grind
  · rw [h] at hy; cases hy
    cases hz
    have n : y - fr 1 1 ∉ out := fun q => by have := ge _ q; grind
    exact ⟨⟨by grind, fun q hq c => by have := ge q hq; grind, .inl n⟩, n⟩
theorem PrC.fin {out ts : List Rat} {y : Rat} (hu : Up out) (h : PrC out ts out.length) (e1 : out[out.length - 1]? = some y) : PrbOk out (ts ++ [y + fr 1 1]) := by
  have h1 : fr 1 1 = (1 : Rat) := by decide +kernel
  have le : ∀ q ∈ out, q ≤ y := fun q hq => up_last hu e1 hq
  refine ⟨by simp, ch_snoc h.ch fun z hz => ?_, fun x hx => ?_, fun x hx q hq => ?_⟩
  · have := (h.la z hz).2 (List.getElem?_eq_none (Nat.le_refl _))
    rw [e1] at this; cases this
    exact ⟨by grind, fun q hq c => by have := le q hq; grind, .inr fun q => by have := le _ q; grind⟩
  · rw [app0 h.ne] at hx; exact h.lo x hx
  · rw [snoc_last] at hx; cases hx
    have := le q hq; grind
/-! how many hold a time, between probes -/
/-- a cover told by tests along the probes -/
structure GW (g : Rat → Bool) (ts : List Rat) : Prop where
  ne : ts ≠ []
  ch : ∀ i x y, ts[i]? = some x → ts[i + 1]? = some y → x < y ∧ ∀ t, x < t → t < y → g t = (g x && g y)
  lo : ∀ x, ts[0]? = some x → ∀ t, t ≤ x → g t = g x
  hi : ∀ x, ts[ts.length - 1]? = some x → ∀ t, x ≤ t → g t = g x
/-! the rows that the walk writes -/
structure RowI (g : Rat → Bool) (ts : List Rat) (k : Nat) (R : List Spn) : Prop where
  n : Nrm R
  m0 : k = 0 → R = []
  m : ∀ i z, i + 1 = k → ts[i]? = some z → ∀ t, memS R t = if t ≤ z then g t else g z
  on : ∀ i z, i + 1 = k → ts[i]? = some z → g z = true → ∃ P a, R = P ++ [(a, none)] ∧ ∀ b, a = some b → b ≤ z
  off : ∀ i z, i + 1 = k → ts[i]? = some z → g z = false → ∀ s ∈ R, ∃ h, s.2 = some h ∧ h ≤ z
theorem RowI.zero {g : Rat → Bool} {ts : List Rat} : RowI g ts 0 [] := ⟨Nrm.nil, fun _ => rfl, fun i z h => (by omega), fun i z h => (by omega), fun i z h => (by omega)⟩
theorem nrm_one {a b : Option Rat} (h : OrdS (a, b)) : Nrm [(a, b)] := ⟨fun s hs => by rw [List.mem_singleton.mp hs]; exact h, List.pairwise_singleton ..⟩
theorem RowI.on0 {g : Rat → Bool} {ts : List Rat} (w : GW g ts) {z : Rat} (hz : ts[0]? = some z) (hg : g z = true) : RowI g ts 1 [(none, none)] := by
  refine ⟨nrm_one fun a b h => (by cases h), fun h => (by cases h), fun i x hi hx t => ?_, fun i x hi hx _ => ⟨[], none, rfl, fun b h => (by cases h)⟩, fun i x hi hx hf => ?_⟩
  · have : i = 0 := by omega
    subst this
    rw [hz] at hx; cases hx
    have e : memS [(none, none)] t = true := rfl
    rw [e]
    split
    · rename_i c; rw [w.lo z hz t c, hg]
    · exact hg.symm
  · have : i = 0 := by omega
    subst this
    rw [hz] at hx; cases hx
    rw [hg] at hf; cases hf
section
variable {g : Rat → Bool} {ts : List Rat} {k : Nat} {R : List Spn} {x z : Rat}
theorem RowI.onon (w : GW g ts) (h : RowI g ts (k + 1) R) (hx : ts[k]? = some x) (hz : ts[k + 1]? = some z) (gx : g x = true) (gz : g z = true) : RowI g ts (k + 2) R := by
  obtain ⟨lt, bt⟩ := w.ch k x z hx hz
  have at1 : ∀ i y, i + 1 = k + 2 → ts[i]? = some y → y = z := fun i y hi hy => by
    have : i = k + 1 := by omega
    subst this
    rw [hz] at hy; cases hy; rfl
  refine ⟨h.n, fun c => (by cases c), fun i y hi hy t => ?_, fun i y hi hy _ => ?_, fun i y hi hy hf => ?_⟩
  · rw [at1 i y hi hy, h.m k x rfl hx t, gx, gz]
    by_cases c1 : t ≤ x
    · rw [if_pos c1, if_pos (by grind)]
    · rw [if_neg c1]
      by_cases c2 : t ≤ z
      · rw [if_pos c2]
        by_cases c3 : t = z
        · rw [c3, gz]
        · rw [bt t (by grind) (by grind), gx, gz]; rfl
      · rw [if_neg c2]
  · obtain ⟨P, a, e, hb⟩ := h.on k x rfl hx gx
    exact ⟨P, a, e, fun b e2 => by rw [at1 i y hi hy]; have := hb b e2; grind⟩
  · rw [at1 i y hi hy, gz] at hf; cases hf
theorem RowI.fin (w : GW g ts) (h : RowI g ts ts.length R) : ∀ t, memS R t = g t := fun t => by
  obtain ⟨z, hz⟩ := at_last w.ne
  have := List.length_pos_iff.mpr w.ne
  rw [h.m (ts.length - 1) z (by omega) hz t]
  by_cases c : t ≤ z
  · rw [if_pos c]
  · rw [if_neg c, w.hi z hz t (by grind)]
end
end DL

end
section
set_option Elab.async false
set_option linter.all false
set_option autoImplicit true
set_option maxRecDepth 100000
set_option maxHeartbeats 1000000
/-! k31: the choice, its reach; promises -/
namespace DL
open PySem L2
open PyProof.Rows hiding St
/-! ends, one after another -/
theorem VtG.ok {vs : List Vt} (h : VtG BB vs) : VtOk 7 vs := fun v hv => ⟨(h v hv).1, h.sz hv, (h v hv).2.2⟩
/-! promises -/
theorem GW.all {g : Rat → Bool} {ts : List Rat} (w : GW g ts) (h : ∀ z ∈ ts, g z = true) (t : Rat) : g t = true := by
  have key : ∀ k, k < ts.length → RowI g ts (k + 1) [(none, none)] := by
    intro k
    induction k with
    | zero => exact fun hk => RowI.on0 w (List.getElem?_eq_getElem hk) (h _ (List.getElem_mem hk))
    | succ k ih => exact fun hk => (ih (by omega)).onon w (List.getElem?_eq_getElem (show k < ts.length by omega)) (List.getElem?_eq_getElem hk) (h _ (List.getElem_mem _)) (h _ (List.getElem_mem hk))
  have l := List.length_pos_iff.mpr w.ne
  have k := key (ts.length - 1) (by omega)
  rw [show ts.length - 1 + 1 = ts.length by omega] at k
  exact (k.fin w t).symm
end DL

end
section
set_option Elab.async false
set_option linter.all false
set_option autoImplicit true
set_option maxRecDepth 100000
set_option maxHeartbeats 400000
/-! courses one behind the other: plain law of chained -/
namespace DL
open PySem L2
open PyProof.Rows hiding St
/-! ### a course that tells a function -/
/-- f runs straight from t on, up to e -/
def LinOn (f : Rat → Rat) (r t : Rat) (e : Option Rat) : Prop := ∀ x, t ≤ x → (∀ s, e = some s → x < s) → f x = f t + r * (x - t)
def nxE (c : List Pc) (e : Option Rat) : Option Rat := match c with
  | [] => e
  | q :: _ => some q.1
/-- the pieces tell f, the last one up to e -/
def Tel (f : Rat → Rat) : List Pc → Option Rat → Prop
  | [], _ => True
  | p :: c, e => (p.2.1 = f p.1 ∧ 0 < p.2.2 ∧ LinOn f p.2.2 p.1 (nxE c e) ∧ ∀ s, nxE c e = some s → p.1 < s) ∧ Tel f c e
theorem Tel.snoc {f : Rat → Rat} {s y r : Rat} {e : Option Rat} (hy : y = f s) (hr : 0 < r) (hl : LinOn f r s e) (he : ∀ s', e = some s' → s < s') : ∀ {c : List Pc}, Tel f c (some s) → Tel f (c ++ [(s, y, r)]) e
  | [], _ => ⟨⟨hy, hr, hl, he⟩, trivial⟩
  | [p], ⟨h, _⟩ => ⟨h, ⟨hy, hr, hl, he⟩, trivial⟩
  | p :: q :: c, ⟨h, h'⟩ => ⟨h, Tel.snoc hy hr hl he (c := q :: c) h'⟩
theorem Tel.asc {f : Rat → Rat} : ∀ {c : List Pc} {e : Option Rat}, Tel f c e → Asc c
  | [], _, _ => List.Pairwise.nil
  | [p], _, _ => List.pairwise_singleton _ _
  | p :: q :: c, e, ⟨⟨_, _, _, h4⟩, h'⟩ => by
    have ih := Tel.asc (c := q :: c) h'
    have h5 : p.1 < q.1 := h4 q.1 rfl
    unfold Asc at ih ⊢
    rw [List.pairwise_cons]
    refine ⟨fun x hx => ?_, ih⟩
    rcases List.mem_cons.mp hx with rfl | hx
    · exact h5
    · have := (List.pairwise_cons.mp ih).1 x hx
      grind
theorem Tel.pos {f : Rat → Rat} : ∀ {c : List Pc} {e : Option Rat}, Tel f c e → ∀ p ∈ c, 0 < p.2.2
  | [], _, _, p, hp => by cases hp
  | q :: c, e, ⟨⟨_, h2, _, _⟩, h'⟩, p, hp => by
    rcases List.mem_cons.mp hp with rfl | hp
    · exact h2
    · exact Tel.pos h' p hp
theorem now_hd' {h : Pc} {r : List Pc} {t : Rat} (h1 : h.1 ≤ t) (h2 : ∀ x ∈ r, t < x.1) : nowQ (h :: r) t = some (pline h t) := by
  unfold nowQ
  have e : r.filter (past t) = [] := by
    rw [List.filter_eq_nil_iff]
    intro x hx
    simp [past, h2 x hx]
  have : past t h = true := by
    have : ¬ t < h.1 := by grind
    simp [past, this]
  rw [List.filter_cons, if_pos this, e]; rfl
theorem now_tl' {h q : Pc} {r : List Pc} {t : Rat} (h1 : q.1 ≤ t) : nowQ (h :: q :: r) t = nowQ (q :: r) t := by
  have hq : past t q = true := by
    have : ¬ t < q.1 := by grind
    simp [past, this]
  have e : nowQ ([h] ++ (q :: r)) t = nowQ (q :: r) t := by
    rw [now_app]
    unfold nowQ
    rw [List.filter_cons, if_pos hq]
    cases z : (q :: r.filter (past t)).getLast? with
    | none => simp at z
    | some x => rfl
  exact e
theorem Tel.now {f : Rat → Rat} : ∀ {c : List Pc} {p : Pc} {t : Rat}, Tel f (p :: c) none → p.1 ≤ t → nowQ (p :: c) t = some (f t)
  | [], p, t, ⟨⟨h1, h2, h3, h4⟩, _⟩, h => by
    rw [now_hd' h (fun x hx => by cases hx), h3 t h (fun s z => by cases z)]
    unfold pline; rw [h1]
  | q :: c, p, t, H, h => by
    by_cases hq : q.1 ≤ t
    · rw [now_tl' hq]
      exact Tel.now H.2 hq
    · have ha := Tel.asc H.2
      obtain ⟨⟨h1, h2, h3, h4⟩, _⟩ := H
      rw [now_hd' h (fun x hx => ?_), h3 t h (fun s z => ?_)]
      · unfold pline; rw [h1]
      · have : q.1 = s := by simpa [nxE] using z
        grind
      · rcases List.mem_cons.mp hx with rfl | hx
        · grind
        · have := (List.pairwise_cons.mp ha).1 x hx
          grind
/-- a course that shows what never falls has no fall -/
theorem no_fall {c : List Pc} {f : Rat → Rat} {t0 : Rat} (ha : Asc c) (hn : ∀ t, t0 ≤ t → nowQ c t = some (f t)) (hm : ∀ x y, t0 ≤ x → x ≤ y → f x ≤ f y) {i : Nat} {p q : Pc} (hp : c[i]? = some p) (hq : c[i + 1]? = some q) (h0 : t0 ≤ p.1) (hr : 0 < p.2.2) : pline p q.1 ≤ q.2.1 := by
  have hpq := asc_lt ha hp hq (by omega)
  have f1 : ∀ x, p.1 ≤ x → x < q.1 → f x = pline p x := fun x h1 h2 => by
    have := now_at ha hp h1 (fun q' e => by rw [hq] at e; cases e; exact h2)
    rw [hn x (by grind)] at this
    exact Option.some.inj this
  have f2 : f q.1 = q.2.1 := by
    have := now_at ha hq (t := q.1) Rat.le_refl (fun q' e => asc_lt ha hq e (by omega))
    rw [hn q.1 (by grind)] at this
    have := Option.some.inj this
    rw [this]; unfold pline; grind
  apply Classical.byContradiction
  intro hc
  have hc' : q.2.1 < pline p q.1 := by grind
  have hL : pline p q.1 = p.2.1 + p.2.2 * (q.1 - p.1) := rfl
  have e0 : f p.1 = p.2.1 := by rw [f1 p.1 Rat.le_refl hpq]; unfold pline; grind
  have m1 : p.2.1 ≤ q.2.1 := by rw [← e0, ← f2]; exact hm _ _ h0 (by grind)
  -- a reading in between
  have hd : 0 < pline p q.1 - q.2.1 := by grind
  have n2 : p.2.2 * 2 ≠ 0 := by grind
  have hx : ∃ x, p.1 ≤ x ∧ x < q.1 ∧ q.2.1 < pline p x := by
    refine ⟨q.1 - (pline p q.1 - q.2.1) / (p.2.2 * 2), ?_, ?_, ?_⟩
    · have h2 : (pline p q.1 - q.2.1) / (p.2.2 * 2) * (p.2.2 * 2) = pline p q.1 - q.2.1 := Rat.div_mul_cancel n2
      generalize (pline p q.1 - q.2.1) / (p.2.2 * 2) = z at h2 ⊢
      apply Classical.byContradiction
      intro hz
      have hz' : 0 < z - (q.1 - p.1) := by grind
      have h3 := Rat.mul_pos hz' hr
      have h4 := Rat.mul_pos (show 0 < q.1 - p.1 by grind) hr
      grind
    · have h2 : (pline p q.1 - q.2.1) / (p.2.2 * 2) * (p.2.2 * 2) = pline p q.1 - q.2.1 := Rat.div_mul_cancel n2
      generalize (pline p q.1 - q.2.1) / (p.2.2 * 2) = z at h2 ⊢
      apply Classical.byContradiction
      intro hz
      have hz' : 0 ≤ -z := by grind
      have h3 := Rat.mul_nonneg hz' (Rat.le_of_lt hr)
      grind
    · have h2 : (pline p q.1 - q.2.1) / (p.2.2 * 2) * (p.2.2 * 2) = pline p q.1 - q.2.1 := Rat.div_mul_cancel n2
      have e3 : pline p (q.1 - (pline p q.1 - q.2.1) / (p.2.2 * 2)) = pline p q.1 - p.2.2 * ((pline p q.1 - q.2.1) / (p.2.2 * 2)) := by
        unfold pline; grind
      rw [e3]
      generalize (pline p q.1 - q.2.1) / (p.2.2 * 2) = z at h2 ⊢
      grind
  obtain ⟨x, x1, x2, x3⟩ := hx
  have := hm x q.1 (by grind) (by grind)
  rw [f1 x x1 x2, f2] at this
  grind
/-! ### one behind the other -/
def chQ (is os : List Pc) (t : Rat) : Rat := atQ os (atQ is t)
theorem at_of {c : List Pc} (ha : Asc c) {i : Nat} {p : Pc} {t : Rat} (hp : c[i]? = some p) (h1 : p.1 ≤ t) (h2 : ∀ q, c[i + 1]? = some q → t < q.1) : atQ c t = pline p t := by
  have hi := (List.getElem?_eq_some_iff.mp hp).1
  have e : placeN c t = i := place_eq (fun j q hj hji hq => ?_) (by omega) h2
  · unfold atQ; rw [e, hp]
  · by_cases z : j = i
    · subst z; rw [hp] at hq; cases hq; exact h1
    · have := asc_lt ha hq hp (by omega); grind
theorem ch_at {is os : List Pc} (ai : Asc is) (ao : Asc os) {i k : Nat} {p o : Pc} {x : Rat} (hp : is[i]? = some p) (ho : os[k]? = some o) (h1 : p.1 ≤ x) (h2 : ∀ q, is[i + 1]? = some q → x < q.1) (h3 : o.1 ≤ pline p x) (h4 : ∀ q, os[k + 1]? = some q → pline p x < q.1) : chQ is os x = pline o (pline p x) := by
  unfold chQ
  rw [at_of ai hp h1 h2, at_of ao ho h3 h4]
/-- where the piece ends, or reaches the next start of the outer course -/
def endE (p : Pc) (stop : Option Rat) (nx : Option Pc) : Option Rat := match nx with
  | none => stop
  | some o => match stop with
    | none => some (tmP p o.1)
    | some s => if tmP p o.1 < s then some (tmP p o.1) else some s
theorem tm_line {p : Pc} {v : Rat} (h : 0 < p.2.2) : pline p (tmP p v) = v := by
  have n : p.2.2 ≠ 0 := by grind
  have : (v - p.2.1) / p.2.2 * p.2.2 = v - p.2.1 := Rat.div_mul_cancel n
  unfold pline tmP
  generalize (v - p.2.1) / p.2.2 = z at *
  grind
theorem line_lt {p : Pc} {x y : Rat} (h : 0 < p.2.2) : pline p x < pline p y ↔ x < y := by
  unfold pline
  constructor
  · intro z
    apply Classical.byContradiction
    intro hc
    have := Rat.mul_nonneg (show 0 ≤ x - y by grind) (Rat.le_of_lt h)
    grind
  · intro z
    have := Rat.mul_pos (show 0 < y - x by grind) h
    grind
theorem line_le {p : Pc} {x y : Rat} (h : 0 < p.2.2) : pline p x ≤ pline p y ↔ x ≤ y := by
  have := line_lt (p := p) (x := y) (y := x) h
  constructor
  · intro z; apply Classical.byContradiction; intro hc; have := this.mpr (by grind); grind
  · intro z; apply Classical.byContradiction; intro hc; have := this.mp (by grind); grind
theorem end_stop {p : Pc} {stop : Option Rat} {nx : Option Pc} {x : Rat} (h : ∀ s, endE p stop nx = some s → x < s) : ∀ s, stop = some s → x < s := fun s e => by
  subst e
  unfold endE at h
  cases nx with
  | none => exact h s rfl
  | some o =>
    simp only at h
    by_cases q : tmP p o.1 < s
    · rw [if_pos q] at h; have := h _ rfl; grind
    · rw [if_neg q] at h; exact h s rfl
theorem end_nx {p : Pc} (hr : 0 < p.2.2) {stop : Option Rat} {nx : Option Pc} {x : Rat} (h : ∀ s, endE p stop nx = some s → x < s) : ∀ o, nx = some o → pline p x < o.1 := fun o e => by
  subst e
  have : x < tmP p o.1 := by
    unfold endE at h
    cases stop with
    | none => exact h _ rfl
    | some s =>
      simp only at h
      by_cases q : tmP p o.1 < s
      · rw [if_pos q] at h; exact h _ rfl
      · rw [if_neg q] at h; have := h s rfl; grind
  have := (line_lt (p := p) hr).mpr this
  rwa [tm_line hr] at this
theorem end_gt {p : Pc} (hr : 0 < p.2.2) {stop : Option Rat} {nx : Option Pc} {x : Rat} (h1 : ∀ s, stop = some s → x < s) (h2 : ∀ o, nx = some o → pline p x < o.1) : ∀ s, endE p stop nx = some s → x < s := fun s e => by
  unfold endE at e
  cases nx with
  | none => exact h1 s e
  | some o =>
    have h3 : x < tmP p o.1 := by
      have := h2 o rfl
      rw [← tm_line (p := p) (v := o.1) hr] at this
      exact (line_lt hr).mp this
    cases stop with
    | none => cases e; exact h3
    | some s' =>
      simp only at e
      by_cases q : tmP p o.1 < s'
      · rw [if_pos q] at e; cases e; exact h3
      · rw [if_neg q] at e; cases e; exact h1 _ rfl
/-- a row that is written: from x on the course shows o behind p -/
theorem ch_row {is os : List Pc} (ai : Asc is) (ao : Asc os) {i k : Nat} {p o : Pc} {x : Rat} (hp : is[i]? = some p) (ho : os[k]? = some o) (pp : 0 < p.2.2) (h1 : p.1 ≤ x) (h2 : ∀ s, (is[i + 1]?).map (·.1) = some s → x < s) (h3 : o.1 ≤ pline p x) (h4 : ∀ q, os[k + 1]? = some q → pline p x < q.1) :
    pline o (pline p x) = chQ is os x ∧ LinOn (chQ is os) (p.2.2 * o.2.2) x (endE p ((is[i + 1]?).map (·.1)) os[k + 1]?) ∧ ∀ s, endE p ((is[i + 1]?).map (·.1)) os[k + 1]? = some s → x < s := by
  have e1 := ch_at ai ao hp ho h1 (fun q e => h2 q.1 (by rw [e]; rfl)) h3 h4
  refine ⟨e1.symm, fun y hy he => ?_, end_gt pp h2 h4⟩
  have a1 := end_stop he
  have a2 := end_nx pp he
  have e2 := ch_at (x := y) ai ao hp ho (by grind) (fun q e => a1 q.1 (by rw [e]; rfl)) (by have := (line_le (p := p) pp).mpr hy; grind) a2
  rw [e2, e1]
  unfold pline
  grind
/-! ### falls -/
def fallQ (c : List Pc) : Option Rat := ((jumpsQ c).find? fun x => decide (x.2 < 0)).map (·.1)
theorem fall_none {c : List Pc} (h : fallQ c = none) {i : Nat} {p q : Pc} (hp : c[i]? = some p) (hq : c[i + 1]? = some q) : pline p q.1 ≤ q.2.1 := by
  unfold fallQ at h
  have h' := List.find?_eq_none.mp (Option.map_eq_none_iff.mp h)
  apply Classical.byContradiction
  intro hc
  have hj : jmp p q < 0 := by unfold jmp; grind
  have hm : (q.1, jmp p q) ∈ jumpsQ c := by
    unfold jumpsQ
    rw [List.mem_filterMap]
    refine ⟨(p, q), List.mem_of_getElem? (prs_at hp hq), ?_⟩
    unfold jF
    simp only
    rw [if_neg (by grind)]
  have := h' _ hm
  simp only [decide_eq_true_eq] at this
  exact this hj
theorem fall_nn {c : List Pc} (h : ∀ x ∈ jumpsQ c, ¬ x.2 < 0) : fallQ c = none := by
  unfold fallQ
  rw [Option.map_eq_none_iff, List.find?_eq_none]
  intro x hx
  simpa using h x hx
/-- a course that never falls shows what never falls -/
theorem at_mono {c : List Pc} {p0 : Pc} (ha : Asc c) (h0 : c[0]? = some p0) (hr : ∀ p ∈ c, 0 < p.2.2) (hf : fallQ c = none) : ∀ x y, p0.1 ≤ x → x ≤ y → atQ c x ≤ atQ c y := by
  have step : ∀ (n i : Nat) (p : Pc) (x y : Rat), c.length - i ≤ n → c[i]? = some p → p.1 ≤ x → (∀ q, c[i + 1]? = some q → x < q.1) → x ≤ y → pline p x ≤ atQ c y := by
    intro n
    induction n with
    | zero =>
      intro i p x y hn hp _ _ _
      have := (List.getElem?_eq_some_iff.mp hp).1
      omega
    | succ n ih =>
      intro i p x y hn hp h1 h2 hxy
      have pp := hr p (List.mem_of_getElem? hp)
      cases e : c[i + 1]? with
      | none =>
        rw [at_of ha hp (t := y) (by grind) (fun q z => by rw [e] at z; cases z)]
        exact (line_le pp).mpr hxy
      | some q =>
        by_cases hy : y < q.1
        · rw [at_of ha hp (t := y) (by grind) (fun q' z => by rw [e] at z; cases z; exact hy)]
          exact (line_le pp).mpr hxy
        · have f1 := fall_none hf hp e
          have hx := h2 q e
          have f2 : pline p x ≤ pline p q.1 := (line_le pp).mpr (by grind)
          have f3 : q.2.1 = pline q q.1 := by unfold pline; grind
          have f4 := ih (i + 1) q q.1 y (by omega) e Rat.le_refl (fun q' z => asc_lt ha e z (by omega)) (by grind)
          grind
  intro x y hx hxy
  obtain ⟨p, hp, h1, h2⟩ := place_at ha h0 hx
  rw [at_of ha hp h1 h2]
  exact step c.length _ p x y (by omega) hp h1 h2 hxy
/-! ### promises -/
/-- what chained wants of its courses -/
structure ChZ (is os : List Pc) (s t r v s' t' r' : Nat) : Prop where
  ni : ∃ p, is[0]? = some p
  no : ∃ p, os[0]? = some p
  ai : Asc is
  ao : Asc os
  ri : ∀ p ∈ is, 0 < p.2.2
  ro : ∀ p ∈ os, 0 < p.2.2
  zi : Cz s t r is
  zo : Cz s' t' r' os
  zv : ∀ p ∈ is, Sz v (p.2.2)⁻¹
  zz : 8 * (s + s' + t + v + 2) + 3 * (t' + r' + t + s' + 2) + 3 * (r + r') + 60 ≤ 7900
  zw : 8 * s + 3 * t + 3 * r + 60 ≤ 7900
  ln : is.length + os.length ≤ 50000
/-- what it tells -/
structure ChR (is os : List Pc) (s t r v s' t' r' : Nat) (rs : List Pc) : Prop where
  hd : rs.head?.map (·.1) = is.head?.map (·.1)
  tel : Tel (chQ is os) rs none
  zr : Cz (s + s' + t + v + 2) (t' + r' + t + s' + 2) (r + r') rs
  ln : rs.length ≤ is.length + os.length
/-- the rows behind i pieces -/
structure ChI (is os : List Pc) (s t r v s' t' r' : Nat) (i k : Nat) (rs : List Pc) : Prop where
  hk : k < os.length
  hd : rs.head?.map (·.1) = if i = 0 then none else is.head?.map (·.1)
  lo : ∀ o p, os[k]? = some o → is[i]? = some p → o.1 ≤ p.2.1
  tel : Tel (chQ is os) rs ((is[i]?).map (·.1))
  zr : Cz (s + s' + t + v + 2) (t' + r' + t + s' + 2) (r + r') rs
  ln : rs.length ≤ i + k
/-- the rows within a piece: the last one begins at x -/
structure ChJ (is os : List Pc) (s t r v s' t' r' : Nat) (i k : Nat) (p : Pc) (rs : List Pc) : Prop where
  hk : k < os.length
  hd : rs.head?.map (·.1) = is.head?.map (·.1)
  at_ : ∃ x, p.1 ≤ x ∧ (∀ q, (is[i + 1]?).map (·.1) = some q → x < q) ∧ (∀ o, os[k]? = some o → o.1 ≤ pline p x) ∧ ∀ q, os[k + 1]? = some q → pline p x < q.1
  tel : Tel (chQ is os) rs (endE p ((is[i + 1]?).map (·.1)) os[k + 1]?)
  zr : Cz (s + s' + t + v + 2) (t' + r' + t + s' + 2) (r + r') rs
  ln : rs.length ≤ i + 1 + k
theorem cz_snoc {s t r : Nat} {c : List Pc} {p : Pc} (h : Cz s t r c) (h1 : Sz s p.1) (h2 : Sz t p.2.1) (h3 : Sz r p.2.2) : Cz s t r (c ++ [p]) := fun q hq => by
  rcases List.mem_append.mp hq with hq | hq
  · exact h q hq
  · rw [List.mem_singleton] at hq; subst hq; exact ⟨h1, h2, h3⟩
section
variable {is os : List Pc} {s t r v s' t' r' : Nat}
theorem hd_snoc {c : List Pc} {p : Pc} {h : Option Rat} (e : c.head?.map (·.1) = h) (hn : h ≠ none) : (c ++ [p]).head?.map (·.1) = h := by
  cases c with
  | nil => exact absurd e.symm hn
  | cons a b => exact e
/-- the first row of a piece -/
theorem ChI.row (Z : ChZ is os s t r v s' t' r') {i k k' : Nat} {rs : List Pc} {p o : Pc} (I : ChI is os s t r v s' t' r' i k rs) (hp : is[i]? = some p) (hkk : k ≤ k') (ho : os[k']? = some o) (h1 : o.1 ≤ p.2.1) (h2 : ∀ q, os[k' + 1]? = some q → p.2.1 < q.1) :
    ChJ is os s t r v s' t' r' i k' p (rs ++ [(p.1, pline o p.2.1, p.2.2 * o.2.2)]) := by
  have hi := (List.getElem?_eq_some_iff.mp hp).1
  have hk' := (List.getElem?_eq_some_iff.mp ho).1
  have pp := Z.ri p (List.mem_of_getElem? hp)
  have po := Z.ro o (List.mem_of_getElem? ho)
  have zp := Z.zi p (List.mem_of_getElem? hp)
  have zo := Z.zo o (List.mem_of_getElem? ho)
  have e0 : pline p p.1 = p.2.1 := by unfold pline; grind
  have g2 : ∀ q, (is[i + 1]?).map (·.1) = some q → p.1 < q := fun q e => by
    obtain ⟨q', e1, rfl⟩ := Option.map_eq_some_iff.mp e
    exact asc_lt Z.ai hp e1 (by omega)
  obtain ⟨c1, c2, c3⟩ := ch_row (x := p.1) Z.ai Z.ao hp ho pp Rat.le_refl g2 (by rw [e0]; exact h1) (by rw [e0]; exact h2)
  rw [e0] at c1
  have tl := I.tel
  rw [hp] at tl
  refine ⟨hk', ?_, ⟨p.1, Rat.le_refl, g2, fun o' e => ?_, fun q e => ?_⟩, Tel.snoc c1 (Rat.mul_pos pp po) c2 c3 tl, cz_snoc I.zr (zp.1.mono (by omega)) ?_ (zp.2.2.mul zo.2.2), ?_⟩
  · have hd := I.hd
    cases i with
    | zero =>
      rw [if_pos rfl] at hd
      cases rs with
      | nil => show some p.1 = _; rw [List.head?_eq_getElem?, hp]; rfl
      | cons a b => cases hd
    | succ j =>
      rw [if_neg (by omega)] at hd
      obtain ⟨p0, hp0⟩ := Z.ni
      exact hd_snoc hd (by rw [List.head?_eq_getElem?, hp0]; simp)
  · rw [ho] at e; cases e; rw [e0]; exact h1
  · rw [e0]; exact h2 q e
  · exact (zo.2.1.add (zo.2.2.mul (zp.2.1.sub zo.1))).mono (by omega)
  · have := I.ln
    rw [List.length_append]; show rs.length + 1 ≤ _; omega
/-- a further one, where the piece reaches the next start -/
theorem ChJ.row (Z : ChZ is os s t r v s' t' r') {i k : Nat} {rs : List Pc} {p o : Pc} (J : ChJ is os s t r v s' t' r' i k p rs) (hp : is[i]? = some p) (ho : os[k + 1]? = some o) (h : ∀ q, (is[i + 1]?).map (·.1) = some q → tmP p o.1 < q) :
    ChJ is os s t r v s' t' r' i (k + 1) p (rs ++ [(tmP p o.1, o.2.1, p.2.2 * o.2.2)]) := by
  have hk' := (List.getElem?_eq_some_iff.mp ho).1
  have pp := Z.ri p (List.mem_of_getElem? hp)
  have po := Z.ro o (List.mem_of_getElem? ho)
  have zp := Z.zi p (List.mem_of_getElem? hp)
  have zo := Z.zo o (List.mem_of_getElem? ho)
  have zv := Z.zv p (List.mem_of_getElem? hp)
  obtain ⟨x, x1, x2, x3, x4⟩ := J.at_
  have e0 := tm_line (p := p) (v := o.1) pp
  have hx : x < tmP p o.1 := by
    have := x4 o ho
    rw [← e0] at this
    exact (line_lt pp).mp this
  have g4 : ∀ q, os[k + 1 + 1]? = some q → pline p (tmP p o.1) < q.1 := fun q e => by rw [e0]; exact asc_lt Z.ao ho e (by omega)
  obtain ⟨c1, c2, c3⟩ := ch_row (x := tmP p o.1) Z.ai Z.ao hp ho pp (by grind) h (by rw [e0]; exact Rat.le_refl) g4
  have e1 : pline o (pline p (tmP p o.1)) = o.2.1 := by rw [e0]; unfold pline; grind
  rw [e1] at c1
  have tl := J.tel
  have ee : endE p ((is[i + 1]?).map (·.1)) os[k + 1]? = some (tmP p o.1) := by
    rw [ho]
    unfold endE
    cases z : (is[i + 1]?).map (·.1) with
    | none => rfl
    | some q => simp only; rw [if_pos (h q z)]
  rw [ee] at tl
  obtain ⟨p0, hp0⟩ := Z.ni
  refine ⟨hk', hd_snoc J.hd (by rw [List.head?_eq_getElem?, hp0]; simp), ⟨tmP p o.1, by grind, h, fun o' e => ?_, g4⟩, Tel.snoc c1 (Rat.mul_pos pp po) c2 c3 tl, cz_snoc J.zr ?_ (zo.2.1.mono (by omega)) (zp.2.2.mul zo.2.2), ?_⟩
  · rw [ho] at e; cases e; rw [e0]; exact Rat.le_refl
  · exact (tmP_sz zp zv zo.1).mono (by omega)
  · have := J.ln
    rw [List.length_append]; show rs.length + 1 ≤ _; omega
/-- the piece is told -/
theorem ChJ.done (Z : ChZ is os s t r v s' t' r') (hf : fallQ is = none) {i k : Nat} {rs : List Pc} {p : Pc} (J : ChJ is os s t r v s' t' r' i k p rs) (hp : is[i]? = some p) (h : ∀ o, os[k + 1]? = some o → ∃ q, (is[i + 1]?).map (·.1) = some q ∧ ¬ tmP p o.1 < q) :
    ChI is os s t r v s' t' r' (i + 1) k rs := by
  have pp := Z.ri p (List.mem_of_getElem? hp)
  obtain ⟨x, x1, x2, x3, x4⟩ := J.at_
  refine ⟨J.hk, by rw [if_neg (by omega)]; exact J.hd, fun o q ho hq => ?_, ?_, J.zr, J.ln⟩
  · have h1 := x3 o ho
    have h2 := x2 q.1 (by rw [hq]; rfl)
    have h3 := (line_lt (p := p) pp).mpr h2
    have h4 := fall_none hf hp hq
    grind
  · have tl := J.tel
    have : endE p ((is[i + 1]?).map (·.1)) os[k + 1]? = (is[i + 1]?).map (·.1) := by
      cases e : os[k + 1]? with
      | none => rfl
      | some o =>
        obtain ⟨q, e1, e2⟩ := h o e
        unfold endE
        rw [e1]
        simp only
        rw [if_neg e2]
    rwa [this] at tl
theorem ChI.first (Z : ChZ is os s t r v s' t' r') {p o : Pc} (hp : is[0]? = some p) (ho : os[0]? = some o) (h : ¬ p.2.1 < o.1) : ChI is os s t r v s' t' r' 0 0 [] := by
  refine ⟨(List.getElem?_eq_some_iff.mp ho).1, rfl, fun o' p' e1 e2 => ?_, trivial, (fun q hq => by cases hq), Nat.zero_le _⟩
  rw [ho] at e1; rw [hp] at e2; cases e1; cases e2; grind
end
end DL

end
section
set_option Elab.async false
set_option linter.all false
set_option autoImplicit true
set_option maxRecDepth 100000
set_option maxHeartbeats 400000
/-! civil displays: the smear course behind a steering's course -/
namespace DL
open PySem L2
open PyProof.Rows hiding St
/-! ### the smear course never falls, goes on at rate 1 -/
theorem jmp_run {qs : List (Int × Int)} (h : GoodK qs) {w l : Int} (hw : WinOk w) : ∀ {rs : List (Int × Int)} {D : Int}, Rws qs D l rs → ∀ x ∈ prs (pcL qs D :: scR qs w rs), jmp x.1 x.2 = 0
  | [], _, _, x, hx => by cases hx
  | p :: rs, D, hr, x, hx => by
    have pl := hr.lo p (List.mem_cons_self ..)
    have pk := hr.mem p (List.mem_cons_self ..)
    have gapz : ∀ x, D ≤ x → x < p.1 → kdD qs x = 0 := fun x h1 h2 => by
      by_cases q : kdD qs x = 0
      · exact q
      · obtain ⟨y, hy, e⟩ := hr.all x h1 (by omega) q
        rcases List.mem_cons.mp hy with z | z
        · subst z; omega
        · have := (List.pairwise_cons.mp hr.asc).1 y z; omega
    rcases List.mem_cons.mp (show x ∈ (pcL qs D, pcA qs w p) :: prs (pcA qs w p :: pcL qs (p.1 + 1) :: scR qs w rs) from hx) with e | hx
    · subst e
      unfold jmp
      simp only
      rw [pcA_1, line_day h pl.1 gapz]
      show ((86400 * p.1 + (dayL qs p.1 - w) : Int) : Rat) - _ = 0
      rw [Rat.intCast_add]
      unfold edQ
      grind
    · rcases List.mem_cons.mp (show x ∈ (pcA qs w p, pcL qs (p.1 + 1)) :: prs (pcL qs (p.1 + 1) :: scR qs w rs) from hx) with e | hx
      · subst e
        unfold jmp
        simp only
        rw [pcL_opn, opn_next h, line_A pk.1]
        show ((86400 * (p.1 + 1) : Int) : Rat) - _ = 0
        have e1 := ed_top (qs := qs) (d := p.1) hw
        have e2 := ed_len qs w p.1
        have e3 := i864 p.1
        grind
      · exact jmp_run h hw hr.tl x hx
theorem fall_sm {qs : List (Int × Int)} (h : GoodK qs) {w f l : Int} (hw : WinOk w) : fallQ (smC qs w f l) = none := fall_nn fun x hx => by
  obtain ⟨y, h1, h2⟩ := List.mem_filterMap.mp hx
  have := jmp_run h hw (rws_of h f l) y h1
  unfold jF at h2
  rw [if_pos this] at h2
  cases h2
theorem sm_pos {qs : List (Int × Int)} (h : GoodK qs) {w : Int} (hw : WinOk w) : ∀ {rs : List (Int × Int)} {D l : Int}, Rws qs D l rs → ∀ p ∈ pcL qs D :: scR qs w rs, 0 < p.2.2
  | [], D, l, hr, p, hp => by
    rw [List.mem_cons] at hp
    rcases hp with rfl | hp
    · show (0 : Rat) < ((1 : Int) : Rat); decide
    · cases hp
  | q :: rs, D, l, hr, p, hp => by
    have pk := hr.mem q (List.mem_cons_self ..)
    rcases List.mem_cons.mp hp with rfl | hp
    · show (0 : Rat) < ((1 : Int) : Rat); decide
    · rcases List.mem_cons.mp (show p ∈ pcA qs w q :: (pcL qs (q.1 + 1) :: scR qs w rs) from hp) with rfl | hp
      · show 0 < fr (w - q.2) w
        rw [rt_row pk.1]
        exact rt_pos h hw
      · exact sm_pos h hw hr.tl p hp
/-! ### a steering's course is small -/
def StaV (cs : List Pc) : Prop := ∀ p ∈ cs, Sz 100 p.1 ∧ Sz 100 p.2.1
theorem StaV.sta {cs : List Pc} (h : StaV cs) : Sta cs := fun p hp => (h p hp).1
/-! ### the chain -/
/-- the course of a display, a smear course that starts ahead of what it shows first -/
structure CvZ (is : List Pc) (qs : List (Int × Int)) (w f l : Int) (raw : Rat) : Prop where
  hg : GoodK qs
  hl : qs.length ≤ 60
  hw : WinOk w
  fl : FLok f l
  le : f ≤ l
  p0 : ∃ p, is[0]? = some p ∧ p.1 = raw ∧ ((opn qs f : Int) : Rat) ≤ p.2.1
  ai : Asc is
  ri : ∀ p ∈ is, 0 < p.2.2
  zi : Cz 100 100 8 is
  zv : ∀ p ∈ is, Sz 64 (p.2.2)⁻¹
  nf : fallQ is = none
  ln : is.length ≤ 300
theorem CvZ.asm {is : List Pc} {qs : List (Int × Int)} {w f l : Int} {raw : Rat} (h : CvZ is qs w f l raw) : Asc (smC qs w f l) := scR_asc h.hg h.hw (rws_of h.hg f l)
theorem CvZ.ge {is : List Pc} {qs : List (Int × Int)} {w f l : Int} {raw : Rat} (h : CvZ is qs w f l raw) : ∀ p ∈ is, raw ≤ p.1 := fun q hq => by
  obtain ⟨p, hp, e1, _⟩ := h.p0
  obtain ⟨i, hi⟩ := List.getElem?_of_mem hq
  cases i with
  | zero => rw [hp] at hi; cases hi; grind
  | succ i => have := asc_lt h.ai hp hi (by omega); grind
theorem CvZ.shown {is : List Pc} {qs : List (Int × Int)} {w f l : Int} {raw t : Rat} (h : CvZ is qs w f l raw) (ht : raw ≤ t) (zt : Sz 620 t) : nowQ is t = some (atQ is t) ∧ Sz 850 (atQ is t) ∧ ((opn qs f : Int) : Rat) ≤ atQ is t := by
  obtain ⟨p, hp, e1, e2⟩ := h.p0
  have m1 := at_mono h.ai hp h.ri h.nf
  refine ⟨now_atQ h.ai hp (by rw [e1]; grind), ?_, ?_⟩
  · obtain ⟨q, hq, h1, h2⟩ := place_at h.ai hp (t := t) (by rw [e1]; exact ht)
    rw [at_of h.ai hq h1 h2]
    exact (pline_sz (h.zi.at hq) zt).mono (by decide)
  · have e3 : atQ is p.1 = p.2.1 := by
      rw [at_of h.ai hp Rat.le_refl (fun q hq => asc_lt h.ai hp hq (by omega))]
      unfold pline; grind
    have := m1 p.1 t Rat.le_refl (by rw [e1]; exact ht)
    rw [e3] at this
    grind
theorem ch_z {is : List Pc} {qs : List (Int × Int)} {w f l : Int} (hg : GoodK qs) (hl : qs.length ≤ 60) (hw : WinOk w) (fl : FLok f l) (le : f ≤ l) (p0 : ∃ p, is[0]? = some p) (ai : Asc is) (ri : ∀ p ∈ is, 0 < p.2.2) (zi : Cz 100 100 8 is) (zv : ∀ p ∈ is, Sz 64 (p.2.2)⁻¹) (ln : is.length ≤ 1000) : ChZ is (smC qs w f l) 100 100 8 64 6 6 17 where
  ni := p0
  no := ⟨pcL qs f, rfl⟩
  ai := ai
  ao := scR_asc hg hw (rws_of hg f l)
  ri := ri
  ro := sm_pos hg hw (rws_of hg f l)
  zi := zi
  zo := (smC_cw hg hl hw ⟨by have := fl.1; omega, by have := fl.2; omega⟩ (by have := fl.2; omega)).1
  zv := zv
  zz := by decide
  zw := by decide
  ln := by have := smC_len hl w f l; omega
theorem CvZ.ch {is : List Pc} {qs : List (Int × Int)} {w f l : Int} {raw : Rat} (h : CvZ is qs w f l raw) : ChZ is (smC qs w f l) 100 100 8 64 6 6 17 :=
  ch_z h.hg h.hl h.hw h.fl h.le (let ⟨p, hp, _⟩ := h.p0; ⟨p, hp⟩) h.ai h.ri h.zi h.zv (by have := h.ln; omega)
/-- what is shown, and how -/
structure CvT (is : List Pc) (qs : List (Int × Int)) (w f l : Int) (raw : Rat) (cs : List Pc) : Prop where
  td : TidyZ cs raw
  nf : ∀ {i : Nat} {p q : Pc}, cs[i]? = some p → cs[i + 1]? = some q → pline p q.1 ≤ q.2.1
  sh : ∀ t, raw ≤ t → nowQ cs t = some (chQ is (smC qs w f l) t)
theorem CvT.ge {is : List Pc} {qs : List (Int × Int)} {w f l : Int} {raw : Rat} {cs : List Pc} (h : CvT is qs w f l raw cs) : ∀ p ∈ cs, raw ≤ p.1 := fun q hq => by
  obtain ⟨p, hp, e1⟩ := h.td.p0
  obtain ⟨i, hi⟩ := List.getElem?_of_mem hq
  cases i with
  | zero => rw [hp] at hi; cases hi; grind
  | succ i => have := asc_lt h.td.asc hp hi (by omega); grind
theorem CvZ.told {is : List Pc} {qs : List (Int × Int)} {w f l : Int} {raw : Rat} (h : CvZ is qs w f l raw) {rs : List Pc} (R : ChR is (smC qs w f l) 100 100 8 64 6 6 17 rs) : CvT is qs w f l raw (tidyQ rs) := by
  obtain ⟨p, hp, e1, e2⟩ := h.p0
  have hd := R.hd
  rw [List.head?_eq_getElem? (l := is), hp] at hd
  cases rs with
  | nil => cases hd
  | cons r0 rs =>
  have hr0 : r0.1 = raw := by
    have : r0.1 = p.1 := by simpa using hd
    rw [this, e1]
  have ar := R.tel.asc
  have sub := tidy_sub (r0 :: rs)
  have at2 : Asc (tidyQ (r0 :: rs)) := List.Pairwise.sublist sub ar
  have sh : ∀ t, raw ≤ t → nowQ (tidyQ (r0 :: rs)) t = some (chQ is (smC qs w f l) t) := fun t ht => by
    rw [now_tidy ar]
    exact R.tel.now (by rw [hr0]; exact ht)
  have h0 : (tidyQ (r0 :: rs))[0]? = some r0 := by rw [tidy_cons]; rfl
  have lo : ∀ q ∈ tidyQ (r0 :: rs), raw ≤ q.1 := fun q hq => by
    rw [tidy_cons] at hq at2
    rcases List.mem_cons.mp hq with z | z
    · rw [z, hr0]; exact Rat.le_refl
    · have := (List.pairwise_cons.mp at2).1 q z
      grind
  have rp : ∀ q ∈ tidyQ (r0 :: rs), 0 < q.2.2 := fun q hq => R.tel.pos q (sub.mem hq)
  refine ⟨⟨fun q hq => ?_, ?_, at2, ⟨r0, h0, hr0⟩, tidy_idem, rp, ?_⟩, fun {i p' q'} hp' hq' => ?_, sh⟩
  · obtain ⟨z1, z2, z3⟩ := R.zr q (sub.mem hq)
    exact ⟨z1.mono (by decide), z2.mono (by decide), z3.mono (by decide)⟩
  · rw [← e1]; exact (h.zi.at hp).1.mono (by decide)
  · have := sub.length_le
    have := R.ln
    have := smC_len h.hl w f l
    have := h.ln
    omega
  · refine no_fall (t0 := raw) at2 sh (fun x y hx hxy => ?_) hp' hq' (lo _ (List.mem_of_getElem? hp')) (rp _ (List.mem_of_getElem? hp'))
    have m1 := at_mono h.ai hp h.ri h.nf
    have m2 := at_mono h.asm (p0 := pcL qs f) rfl (sm_pos h.hg h.hw (rws_of h.hg f l)) (fall_sm h.hg h.hw)
    unfold chQ
    refine m2 _ _ ?_ (m1 _ _ (by rw [e1]; exact hx) hxy)
    have e3 : atQ is p.1 = p.2.1 := by
      rw [at_of h.ai hp Rat.le_refl (fun q hq => asc_lt h.ai hp hq (by omega))]
      unfold pline; grind
    have := m1 p.1 x Rat.le_refl (by rw [e1]; exact hx)
    rw [e3] at this
    rw [pcL_opn]; grind
/-! ### promises -/
end DL

end
section
set_option Elab.async false
set_option linter.all false
set_option autoImplicit true
set_option maxRecDepth 100000
set_option maxHeartbeats 400000
/-! a tuple that holds a fresh list: its list is owned by a slot of its own, that no name of the def sees (a ghost) -/
namespace DL
open PySem L2
open PyProof.Rows hiding St
section
variable {X : Cx} {n : Nm} {c : Cc} {Γ : SL} {e a b o : Expr} {x y z : DL.D} {pos p ap pos2 : Pos} {nm meth : Str} {es : List Expr} {k l : AK} {De : DE} {S : Sg} {SX : SgX}
/-- an expression that gives a tuple with a fresh thing in it -/
structure WX (X : Cx) (n : Nm) (c : Cc) (Γ : SL) (e : Expr) (Post : List DL.D → Addr → List DL.D → OB → SL → Prop) : Prop where
  run : NOk X n c → ∀ σ R H, SOk X.K c Γ σ R H → ∀ Q : VK,
  (∀ v R' H' pre b post o Γ', SOk X.K c Γ' σ R' H' → Ex R R' → VOk X.K c Γ' σ R' H' (.bx pre b post o) v → Post pre b post o Γ' → Q v H') → tW X e σ H Q
theorem SOk.same {K : PySem.W.Frag} {σ : L2.St} {R H : Hp} (s : SOk K c Γ σ R H) {i : Nat} {v : Option V} (e : σ[i]? = some v) (hi : i ∉ c.oi.map (·.1)) {sl : DL.Slot} (hs : sl.isOwn = false) (h : SlotOk K c R H sl v) : SOk K c (Γ.set i sl) σ R H := by
  have s2 := s.set i (v := v) hs h hi
  have es : σ.set i v = σ := by
    apply List.ext_getElem?
    intro j
    by_cases hj : i = j
    · subst hj; rw [List.getElem?_set_self (List.getElem?_eq_some_iff.mp e).1, e]
    · rw [List.getElem?_set_ne hj]
  rw [es] at s2
  exact s2
/-! ### its things -/
variable {mid : String} {P : List DL.D → List DL.D → (DL.D → List DL.D → Prop) → Prop}
end
end DL

end
section
set_option Elab.async false
set_option linter.all false
set_option autoImplicit true
set_option maxRecDepth 100000
set_option maxHeartbeats 400000
/-! chained courses: the law's own looks -/
namespace DL
open PySem L2
open PyProof.Rows hiding St
/-- sizes: s t r v of the inner one, s' t' r' of the outer one -/
structure C62 (is os : List Pc) : Prop where
  z : ChZ is os 18 188 15 120 264 188 15
  li : is.length ≤ 12
  lo : os.length ≤ 12
/-- no refusal is due -/
def Fit (is os : List Pc) : Prop := fallQ is = none ∧ ∀ p o, is[0]? = some p → os[0]? = some o → ¬ p.2.1 < o.1
/-- what is told -/
structure T62 (is os cs : List Pc) : Prop where
  zc : Cz 592 657 30 cs
  asc : Asc cs
  hd : ∃ p q, cs[0]? = some q ∧ is[0]? = some p ∧ q.1 = p.1
  ti : tidyQ cs = cs
  rates : ∀ p ∈ cs, 0 < p.2.2
  lc : cs.length ≤ 24
  sh : ∀ p t, is[0]? = some p → p.1 ≤ t → nowQ cs t = some (chQ is os t)
theorem C62.told {is os : List Pc} (h : C62 is os) {rs : List Pc} (R : ChR is os 18 188 15 120 264 188 15 rs) : T62 is os (tidyQ rs) := by
  obtain ⟨p, hp⟩ := h.z.ni
  have hd := R.hd
  rw [List.head?_eq_getElem? (l := is), hp] at hd
  cases rs with
  | nil => cases hd
  | cons r0 rs =>
  have hr0 : r0.1 = p.1 := by simpa using hd
  have ar := R.tel.asc
  have sub := tidy_sub (r0 :: rs)
  refine ⟨fun q hq => ?_, List.Pairwise.sublist sub ar, ⟨p, r0, by rw [tidy_cons]; rfl, hp, hr0⟩, tidy_idem, fun q hq => R.tel.pos q (sub.mem hq), ?_, fun p' t hp' ht => ?_⟩
  · exact R.zr q (sub.mem hq)
  · have := sub.length_le
    have := R.ln
    have := h.li
    have := h.lo
    omega
  · rw [hp] at hp'; cases hp'
    rw [now_tidy ar]
    exact R.tel.now (by rw [hr0]; exact ht)
/-- the place of the piece in force -/
def PlcI (c : List Pc) (t : Rat) (i : Int) : Prop := (i = -1 ∧ ∀ p ∈ c, t < p.1) ∨ ∃ (k : Nat) (p : Pc), i = (k : Int) ∧ c[k]? = some p ∧ p.1 ≤ t ∧ ∀ q, c[k + 1]? = some q → t < q.1
theorem plc_u {c : List Pc} {t : Rat} {i : Int} (ha : Asc c) (h : PlcI c t i) {k : Nat} {p : Pc} (hp : c[k]? = some p) (h1 : p.1 ≤ t) (h2 : ∀ q, c[k + 1]? = some q → t < q.1) : i = (k : Int) := by
  rcases h with ⟨_, h⟩ | ⟨m, q, rfl, hq, h3, h4⟩
  · have := h p (List.mem_of_getElem? hp); grind
  · rcases Nat.lt_trichotomy m k with a | a | a
    · have hk := (List.getElem?_eq_some_iff.mp hp).1
      obtain ⟨r, hr⟩ : ∃ r, c[m + 1]? = some r := ⟨_, atB (by omega)⟩
      have h5 := h4 r hr
      by_cases z : m + 1 = k
      · subst z; rw [hp] at hr; cases hr; grind
      · have := asc_lt ha hr hp (by omega); grind
    · rw [a]
    · have hk := (List.getElem?_eq_some_iff.mp hq).1
      obtain ⟨r, hr⟩ : ∃ r, c[k + 1]? = some r := ⟨_, atB (by omega)⟩
      have h5 := h2 r hr
      by_cases z : k + 1 = m
      · subst z; rw [hq] at hr; cases hr; grind
      · have := asc_lt ha hr hq (by omega); grind
theorem at_pl {c : List Pc} {p0 : Pc} {t : Rat} (ha : Asc c) (h0 : c[0]? = some p0) (h : p0.1 ≤ t) : ∃ (k : Nat) (p : Pc), c[k]? = some p ∧ p.1 ≤ t ∧ atQ c t = pline p t ∧ ∀ i, PlcI c t i → i = (k : Int) := by
  obtain ⟨p, hp, h1, h2⟩ := place_at ha h0 h
  exact ⟨_, p, hp, h1, at_of ha hp h1 h2, fun i hi => plc_u ha hi hp h1 h2⟩
theorem at_0 {c : List Pc} {i : Nat} {p : Pc} (ha : Asc c) (hp : c[i]? = some p) : atQ c p.1 = p.2.1 := by
  rw [at_of ha hp Rat.le_refl fun q hq => asc_lt ha hp hq (by omega)]
  unfold pline; grind
/-- the inner one is at or past the outer one's start -/
theorem C62.go {is os : List Pc} (C : C62 is os) (F : Fit is os) {p0 o0 : Pc} (hp : is[0]? = some p0) (ho : os[0]? = some o0) {t : Rat} (h : p0.1 ≤ t) : o0.1 ≤ atQ is t := by
  have h1 := at_mono C.z.ai hp C.z.ri F.1 p0.1 t Rat.le_refl h
  rw [at_0 C.z.ai hp] at h1
  have h2 := F.2 p0 o0 hp ho
  grind
structure V62 (is os cs : List Pc) (t : Rat) (i k m : Nat) (p o q : Pc) : Prop where
  hp : is[i]? = some p
  ho : os[k]? = some o
  hq : cs[m]? = some q
  ip : ∀ j, PlcI is t j → j = (i : Int)
  io : ∀ j, PlcI os (pline p t) j → j = (k : Int)
  iq : ∀ j, PlcI cs t j → j = (m : Int)
  e : pline q t = pline o (pline p t)
theorem C62.val {is os cs : List Pc} (C : C62 is os) (F : Fit is os) (T : T62 is os cs) {p0 : Pc} {t : Rat} (hp0 : is[0]? = some p0) (h : p0.1 ≤ t) : ∃ i k m p o q, V62 is os cs t i k m p o q := by
  obtain ⟨p', q0, hq0, hp', e0⟩ := T.hd
  rw [hp0] at hp'; cases hp'
  obtain ⟨o0, ho0⟩ := C.z.no
  obtain ⟨i, p, hp, h1, h2, h3⟩ := at_pl C.z.ai hp0 h
  obtain ⟨m, q, hq, g1, g2, g3⟩ := at_pl T.asc hq0 (t := t) (by rw [e0]; exact h)
  have hg := C.go F hp0 ho0 h
  rw [h2] at hg
  obtain ⟨k, o, ho, f1, f2, f3⟩ := at_pl C.z.ao ho0 hg
  refine ⟨i, k, m, p, o, q, hp, ho, hq, h3, f3, g3, ?_⟩
  have e := T.sh p0 t hp0 h
  rw [now_atQ T.asc hq0 (by rw [e0]; grind), g2] at e
  have e' := Option.some.inj e
  unfold chQ at e'
  rw [h2, f2] at e'
  exact e'
theorem C62.shown {is os cs : List Pc} (C : C62 is os) (F : Fit is os) (T : T62 is os cs) {p0 : Pc} {t : Rat} (hp0 : is[0]? = some p0) (h : p0.1 ≤ t) : atQ cs t = atQ os (atQ is t) := by
  obtain ⟨p', q0, hq0, hp', e0⟩ := T.hd
  rw [hp0] at hp'; cases hp'
  have e := T.sh p0 t hp0 h
  rw [now_atQ T.asc hq0 (by rw [e0]; grind)] at e
  exact Option.some.inj e
theorem C62.ge {is os : List Pc} (C : C62 is os) {p0 q : Pc} (hp : is[0]? = some p0) (hq : q ∈ is) : p0.1 ≤ q.1 := by
  obtain ⟨i, hi⟩ := List.getElem?_of_mem hq
  cases i with
  | zero => rw [hp] at hi; cases hi; exact Rat.le_refl
  | succ i => have := asc_lt C.z.ai hp hi (by omega); grind
theorem T62.ge {is os cs : List Pc} (T : T62 is os cs) {p0 q : Pc} (hp : is[0]? = some p0) (hq : q ∈ cs) : p0.1 ≤ q.1 := by
  obtain ⟨p', q0, hq0, hp', e0⟩ := T.hd
  rw [hp] at hp'; cases hp'
  obtain ⟨i, hi⟩ := List.getElem?_of_mem hq
  rw [← e0]
  cases i with
  | zero => rw [hq0] at hi; cases hi; exact Rat.le_refl
  | succ i => have := asc_lt T.asc hq0 hi (by omega); grind
end DL

end
section
set_option Elab.async false
set_option linter.all false
set_option autoImplicit true
set_option maxRecDepth 100000
set_option maxHeartbeats 400000
/-! a tuple with a fresh list in it, read as data: for good, or for the time of one call; slewed and stepped courses -/
namespace DL
open PySem L2
open PyProof.Rows hiding St
section
variable {X : Cx} {n : Nm} {c : Cc} {Γ : SL} {e a b o : Expr} {x y z : DL.D} {pos p ap pos2 : Pos} {nm meth : Str} {es : List Expr} {k l : AK} {De : DE} {S : Sg} {SX : SgX}
end
/-! ### the courses -/
def befQ9 (c : List Pc) (t : Rat) : List Pc := c.filter (fun p => decide (p.1 < t))
def slewQ9 (c : List Pc) (t r : Rat) : List Pc := tidyQ (befQ9 c t ++ [(t, atQ c t, r)])
def shQ9 (j : Rat) (p : Pc) : Pc := (p.1, p.2.1 + j, p.2.2)
def stepP9 (c : List Pc) (t j : Rat) (p : Pc) : List Pc := (t, atQ c t + j, p.2.2) :: (c.drop (placeN c t + 1)).map (shQ9 j)
def stepQ9 (c : List Pc) (t j : Rat) (p : Pc) : List Pc := tidyQ (befQ9 c t ++ stepP9 c t j p)
/-- what begins at t -/
structure Cut9 (P : List Pc) (t : Rat) (f : Rat → Rat) : Prop where
  hd : ∃ p, P[0]? = some p ∧ p.1 = t
  ge : ∀ p ∈ P, ¬ p.1 < t
  asc : Asc P
  now : ∀ x, ¬ x < t → nowQ P x = some (f x)
  pos : ∀ p ∈ P, 0 < p.2.2
theorem cut_now {c P : List Pc} {t : Rat} {f : Rat → Rat} (h : Cut9 P t f) (x : Rat) : nowQ (befQ9 c t ++ P) x = if x < t then nowQ c x else some (f x) := by
  by_cases q : x < t
  · rw [if_pos q, now_app0, befQ9, now_kept q]
    rw [List.filter_eq_nil_iff]
    intro p hp
    have := h.ge p hp
    unfold past
    have : x < p.1 := by grind
    simp [this]
  · rw [if_neg q, now_app1, h.now x q]
    intro z
    have := h.now x q
    unfold nowQ at this
    rw [z] at this; cases this
theorem cut_asc {c P : List Pc} {t : Rat} {f : Rat → Rat} (ha : Asc c) (h : Cut9 P t f) : Asc (befQ9 c t ++ P) := by
  refine List.pairwise_append.mpr ⟨asc_flt ha, h.asc, fun p hp q hq => ?_⟩
  have h1 : p.1 < t := by have := (List.mem_filter.mp hp).2; simpa using this
  have h2 := h.ge q hq
  grind
theorem cut_hd {c P : List Pc} {t : Rat} {f : Rat → Rat} {p0 : Pc} (ha : Asc c) (h0 : c[0]? = some p0) (hle : ¬ t < p0.1) (h : Cut9 P t f) : ∃ q, (befQ9 c t ++ P)[0]? = some q ∧ q.1 = p0.1 := by
  cases c with
  | nil => cases h0
  | cons a r =>
    have e0 : a = p0 := Option.some.inj h0
    rw [e0] at ha ⊢
    by_cases q : p0.1 < t
    · refine ⟨p0, ?_, rfl⟩
      unfold befQ9
      rw [List.filter_cons_of_pos (by simpa using q)]; rfl
    · have e : befQ9 (p0 :: r) t = [] := by
        unfold befQ9
        rw [List.filter_eq_nil_iff]
        intro p hp
        have : p0.1 ≤ p.1 := by
          rcases List.mem_cons.mp hp with rfl | hp
          · exact Rat.le_refl
          · have := (List.pairwise_cons.mp ha).1 p hp; grind
        have : ¬ p.1 < t := by grind
        simpa using this
      obtain ⟨p, hp, e1⟩ := h.hd
      exact ⟨p, by rw [e]; exact hp, by rw [e1]; grind⟩
theorem now_one {p : Pc} {x : Rat} (h : ¬ x < p.1) : nowQ [p] x = some (pline p x) := by
  unfold nowQ past; simp [h]
theorem cut_slew {t y r : Rat} (hr : 0 < r) : Cut9 [(t, y, r)] t (fun x => y + r * (x - t)) where
  hd := ⟨_, rfl, rfl⟩
  ge := fun p hp => by rw [List.mem_singleton] at hp; subst hp; exact Rat.lt_irrefl
  asc := List.pairwise_singleton _ _
  now := fun x hx => now_one hx
  pos := fun p hp => by rw [List.mem_singleton] at hp; subst hp; exact hr
theorem pline_sh {j x : Rat} {p : Pc} : pline (shQ9 j p) x = pline p x + j := by unfold pline shQ9; grind
theorem past_sh {j x : Rat} : (past x) ∘ (shQ9 j) = past x := rfl
theorem now_sh {c : List Pc} {j x : Rat} : nowQ (c.map (shQ9 j)) x = (nowQ c x).map (· + j) := by
  unfold nowQ
  rw [List.filter_map, past_sh, List.getLast?_map]
  cases (c.filter (past x)).getLast? with
  | none => rfl
  | some p => exact congrArg some pline_sh
theorem cut_step {c : List Pc} {t j : Rat} {p p0 : Pc} (ha : Asc c) (h0 : c[0]? = some p0) (hp : c[placeN c t]? = some p) (h1 : p.1 ≤ t) (h2 : ∀ q, c[placeN c t + 1]? = some q → t < q.1) (hpos : ∀ p ∈ c, 0 < p.2.2) : Cut9 (stepP9 c t j p) t (fun x => atQ c x + j) := by
  have ea : atQ c t = pline p t := at_of ha hp h1 h2
  have hlt := (List.getElem?_eq_some_iff.mp hp).1
  have ec : c = c.take (placeN c t) ++ ([p] ++ c.drop (placeN c t + 1)) := by
    conv => lhs; rw [← List.take_append_drop (placeN c t) c]
    rw [List.drop_eq_getElem_cons hlt, (List.getElem?_eq_some_iff.mp hp).2]; rfl
  have gr : ∀ q ∈ c.drop (placeN c t + 1), t < q.1 := fun q hq => by
    obtain ⟨i, hi⟩ := List.getElem?_of_mem hq
    rw [List.getElem?_drop] at hi
    cases i with
    | zero => exact h2 q hi
    | succ i =>
      obtain ⟨r, hr⟩ : ∃ r, c[placeN c t + 1]? = some r := ⟨_, atB (by have := (List.getElem?_eq_some_iff.mp hi).1; omega)⟩
      have := h2 r hr
      have := asc_lt ha hr hi (by omega)
      grind
  have ge0 : p0.1 ≤ p.1 := by
    cases hk : placeN c t with
    | zero => rw [hk, h0] at hp; cases hp; exact Rat.le_refl
    | succ i => have := asc_lt ha h0 hp (by omega); grind
  refine ⟨⟨_, rfl, rfl⟩, fun q hq => ?_, ?_, fun x hx => ?_, fun q hq => ?_⟩
  · rcases List.mem_cons.mp hq with rfl | hq
    · exact Rat.lt_irrefl
    · obtain ⟨r, hr, rfl⟩ := List.mem_map.mp hq
      have := gr r hr
      show ¬ r.1 < t
      grind
  · unfold Asc stepP9
    rw [List.pairwise_cons]
    refine ⟨fun q hq => ?_, ?_⟩
    · obtain ⟨r, hr, rfl⟩ := List.mem_map.mp hq
      exact gr r hr
    · rw [List.pairwise_map]
      exact List.Pairwise.sublist (List.drop_sublist _ _) ha
  · have key : nowQ (stepP9 c t j p) x = (nowQ c x).map (· + j) := by
      have pp : [p].filter (past x) ≠ [] := by
        have : ¬ x < p.1 := by grind
        unfold past; simp [this]
      have e1 : nowQ c x = nowQ ([p] ++ c.drop (placeN c t + 1)) x := by
        conv => lhs; rw [ec]
        exact now_app1 (by rw [List.filter_append]; intro z; exact pp (List.append_eq_nil_iff.mp z).1)
      rw [e1]
      show nowQ ([(t, atQ c t + j, p.2.2)] ++ (c.drop (placeN c t + 1)).map (shQ9 j)) x = _
      by_cases q : (c.drop (placeN c t + 1)).filter (past x) = []
      · rw [now_app0 q, now_app0 (by rw [List.filter_map, past_sh, q]; rfl), now_one hx, now_one (by grind)]
        refine congrArg some ?_
        rw [ea]; unfold pline; grind
      · rw [now_app1 q, now_app1 (by rw [List.filter_map, past_sh]; intro z; exact q (List.map_eq_nil_iff.mp z)), now_sh]
    rw [key, now_atQ ha h0 (by grind)]; rfl
  · rcases List.mem_cons.mp hq with rfl | hq
    · exact hpos p (List.mem_of_getElem? hp)
    · obtain ⟨r, hr, rfl⟩ := List.mem_map.mp hq
      exact hpos r (List.mem_of_mem_drop hr)
/-- what is asked of a course -/
structure C9 (V : Nat) (c : List Pc) (p0 : Pc) : Prop where
  h0 : c[0]? = some p0
  z : Cz 41 V 41 c
  asc : Asc c
  pos : ∀ p ∈ c, 0 < p.2.2
  ln : c.length ≤ 200
/-- what is told -/
structure G9 (V T : Nat) (c cs : List Pc) (p0 : Pc) (t : Rat) (f : Rat → Rat) : Prop where
  z : Cz T V T cs
  asc : Asc cs
  hd : ∃ q, cs[0]? = some q ∧ q.1 = p0.1
  ti : tidyQ cs = cs
  pos : ∀ p ∈ cs, 0 < p.2.2
  ln : cs.length ≤ 2 * c.length + 1
  now : ∀ x, nowQ cs x = if x < t then nowQ c x else some (f x)
theorem C9.cz {V T W : Nat} {c P : List Pc} {p0 : Pc} {t : Rat} (C : C9 V c p0) (hT : 41 ≤ T) (hz : Cz T (V + T + W + 90) T P) : Cz T (V + T + W + 90) T (befQ9 c t ++ P) := fun q hq => by
  rcases List.mem_append.mp hq with hq | hq
  · obtain ⟨z1, z2, z3⟩ := C.z q (List.mem_filter.mp hq).1
    exact ⟨z1.mono hT, z2.mono (by omega), z3.mono hT⟩
  · exact hz q hq
theorem C9.told {V T W : Nat} {c P : List Pc} {p0 : Pc} {t : Rat} {f : Rat → Rat} (C : C9 V c p0) (hT : 41 ≤ T) (hle : ¬ t < p0.1) (h : Cut9 P t f) (hz : Cz T (V + T + W + 90) T P) (hl : P.length ≤ c.length + 1) : G9 (V + T + W + 90) T c (tidyQ (befQ9 c t ++ P)) p0 t f := by
  have ha := cut_asc C.asc h
  have sub := tidy_sub (befQ9 c t ++ P)
  have hb : ∀ p ∈ befQ9 c t, p ∈ c := fun p hp => (List.mem_filter.mp hp).1
  refine ⟨fun q hq => C.cz hT hz q (sub.mem hq), List.Pairwise.sublist sub ha, ?_, tidy_idem, fun q hq => ?_, ?_, fun x => by rw [now_tidy ha, cut_now h]⟩
  · obtain ⟨q, hq, e⟩ := cut_hd C.asc C.h0 hle h
    cases hc : befQ9 c t ++ P with
    | nil => rw [hc] at hq; cases hq
    | cons a r => rw [hc] at hq; cases hq; exact ⟨_, by rw [tidy_cons]; rfl, e⟩
  · rcases List.mem_append.mp (sub.mem hq) with hq | hq
    · exact C.pos q (hb q hq)
    · exact h.pos q hq
  · have h1 := sub.length_le
    rw [List.length_append] at h1
    have h2 : (befQ9 c t).length ≤ c.length := List.length_filter_le _ _
    omega
theorem C9.at_sz {V T : Nat} {c : List Pc} {p0 : Pc} {t : Rat} (C : C9 V c p0) (hle : ¬ t < p0.1) (zt : Sz T t) : Sz (V + T + 85) (atQ c t) := by
  obtain ⟨p, hp, h1, h2⟩ := place_at C.asc C.h0 (t := t) (by grind)
  rw [at_of C.asc hp h1 h2]
  exact (pline_sz (C.z.at hp) zt).mono (by omega)
theorem C9.szl {V T : Nat} (W : Nat) {c : List Pc} {p0 : Pc} {t r : Rat} (C : C9 V c p0) (hle : ¬ t < p0.1) (zt : Sz T t) (zr : Sz T r) : Cz T (V + T + W + 90) T [(t, atQ c t, r)] := fun p hp => by
  rw [List.mem_singleton] at hp; subst hp; exact ⟨zt, (C.at_sz hle zt).mono (by omega), zr⟩
theorem C9.szs {V T W : Nat} {c : List Pc} {p p0 : Pc} {t j : Rat} (C : C9 V c p0) (hT : 41 ≤ T) (hle : ¬ t < p0.1) (zt : Sz T t) (zj : Sz W j) (hp : c[placeN c t]? = some p) : Cz T (V + T + W + 90) T (stepP9 c t j p) := fun q hq => by
  rcases List.mem_cons.mp hq with rfl | hq
  · exact ⟨zt, ((C.at_sz hle zt).add zj).mono (by omega), (C.z.at hp).2.2.mono hT⟩
  · obtain ⟨r, hr, rfl⟩ := List.mem_map.mp hq
    obtain ⟨z1, z2, z3⟩ := C.z r (List.mem_of_mem_drop hr)
    exact ⟨z1.mono hT, (z2.add zj).mono (by omega), z3.mono hT⟩
theorem C9.slew {V T : Nat} (W : Nat) {c : List Pc} {p0 : Pc} {t r : Rat} (C : C9 V c p0) (hT : 41 ≤ T) (hle : ¬ t < p0.1) (zt : Sz T t) (zr : Sz T r) (hr : 0 < r) : G9 (V + T + W + 90) T c (slewQ9 c t r) p0 t (fun x => atQ c t + r * (x - t)) :=
  C.told hT hle (cut_slew hr) (C.szl W hle zt zr) (by simp)
theorem slew_last {c : List Pc} {t r : Rat} : ∀ p ∈ slewQ9 c t r, ¬ t < p.1 := fun p hp => by
  rcases List.mem_append.mp ((tidy_sub _).mem hp) with hp | hp
  · have : p.1 < t := by have := (List.mem_filter.mp hp).2; simpa using this
    grind
  · rw [List.mem_singleton] at hp; subst hp; exact Rat.lt_irrefl
theorem C9.step {V T W : Nat} {c : List Pc} {p p0 : Pc} {t j : Rat} (C : C9 V c p0) (hT : 41 ≤ T) (hle : ¬ t < p0.1) (zt : Sz T t) (zj : Sz W j) (hp : c[placeN c t]? = some p) : G9 (V + T + W + 90) T c (stepQ9 c t j p) p0 t (fun x => atQ c x + j) := by
  obtain ⟨p', hp', h1, h2⟩ := place_at C.asc C.h0 (t := t) (by grind)
  rw [hp] at hp'; cases hp'
  refine C.told hT hle (cut_step C.asc C.h0 hp h1 h2 C.pos) (C.szs hT hle zt zj hp) ?_
  unfold stepP9
  rw [List.length_cons, List.length_map, List.length_drop]
  omega
/-! ### promises -/
/-- the change that is asked for: the course, and how it runs from t on -/
def ChgQ (c : List Pc) (t w : Rat) (sl : Bool) (cs : List Pc) : Prop := if sl = true then cs = slewQ9 c t w else ∃ p, c[placeN c t]? = some p ∧ cs = stepQ9 c t w p
def chgF (c : List Pc) (t w : Rat) (sl : Bool) (x : Rat) : Rat := if sl = true then atQ c t + w * (x - t) else atQ c x + w
/-- what a change is asked with -/
structure A9 (V T W : Nat) (c : List Pc) (p0 : Pc) (t w : Rat) (sl : Bool) : Prop where
  c : C9 V c p0
  hT : 41 ≤ T
  hT2 : T ≤ 60
  hV : V + W ≤ 1500
  zt : Sz T t
  zw : Sz W w
  zs : sl = true → Sz T w
def dueD9 (p0 : Pc) (t w : Rat) (sl : Bool) : Option DL.D := if t < p0.1 then some (.tup [.str "BeforeStart", qD t]) else if sl = true ∧ ¬ 0 < w then some (.tup [.str "BadRate", qD w]) else none
theorem due9_none {p0 : Pc} {t w : Rat} {sl : Bool} (h : dueD9 p0 t w sl = none) : ¬ t < p0.1 ∧ (sl = true → 0 < w) := by
  unfold dueD9 at h
  by_cases h1 : t < p0.1
  · rw [if_pos h1] at h; cases h
  · rw [if_neg h1] at h
    by_cases h2 : sl = true ∧ ¬ 0 < w
    · rw [if_pos h2] at h; cases h
    · refine ⟨h1, fun z => ?_⟩
      by_cases h3 : 0 < w
      · exact h3
      · exact absurd ⟨z, h3⟩ h2
theorem A9.told {V T W : Nat} {c cs : List Pc} {p0 : Pc} {t w : Rat} {sl : Bool} (A : A9 V T W c p0 t w sl) (hd : dueD9 p0 t w sl = none) (h : ChgQ c t w sl cs) : G9 (V + T + W + 90) T c cs p0 t (chgF c t w sl) ∧ (sl = true → ∀ p ∈ cs, ¬ t < p.1) := by
  obtain ⟨hle, hw⟩ := due9_none hd
  unfold ChgQ at h
  cases sl with
  | true =>
    rw [if_pos rfl] at h; subst h
    exact ⟨A.c.slew W A.hT hle A.zt (A.zs rfl) (hw rfl), fun _ => slew_last⟩
  | false =>
    rw [if_neg (by decide)] at h
    obtain ⟨p, hp, rfl⟩ := h
    exact ⟨A.c.step A.hT hle A.zt A.zw hp, fun z => by cases z⟩
end DL

end
section
set_option Elab.async false
set_option linter.all false
set_option autoImplicit true
set_option maxRecDepth 100000
set_option maxHeartbeats 1000000
/-! a law that asks repr: the guards around its call are known to be none -/
namespace DL
open PySem L2 PySem.Spec PyProof.Rows
/-! ### repr of data -/
section
variable {X : Cx} {n : Nm} {c : Cc} {Γ : SL} {e : Expr} {x : DL.D} {pos p : Pos} {k : AK}
/-- conditions under which a datum's text is told -/
structure RepOk (x : DL.D) : Prop where
  lay : x.pd.canLay0 = true
  sh : x.pd.showable = true
  dp : x.pd.depth ≤ 60
  sz : x.pd.shown.length ≤ sizeLine
end
end DL

end
section
set_option Elab.async false
set_option linter.all false
set_option autoImplicit true
set_option maxRecDepth 100000
set_option maxHeartbeats 400000
/-! is_course of any value -/
namespace DL
open PySem L2
open PyProof.Rows hiding St
/-! ### what is told at a time -/
/-! ### sizes that grow by sums alone -/
theorem nat_le_rat {a b : Nat} (h : a ≤ b) : ((a : Nat) : Rat) ≤ ((b : Nat) : Rat) := Rat.natCast_le_natCast.mpr h
def Ld (N k : Nat) (q : Rat) : Prop := La N (((k * 2 ^ 60 : Nat)) : Rat) q
theorem Ld.up {N j k : Nat} {a : Rat} (h : Ld N j a) (e : j ≤ k) : Ld N k a := La.up h (nat_le_rat (Nat.mul_le_mul_right _ e))
theorem Ld.add {N j k : Nat} {a b : Rat} (h : Ld N j a) (h' : Ld N k b) : Ld N (j + k) (a + b) := by
  have := La.add h h'
  unfold Ld
  rw [Nat.add_mul, Rat.natCast_add]
  exact this
theorem Ld.sub {N j k : Nat} {a b : Rat} (h : Ld N j a) (h' : Ld N k b) : Ld N (j + k) (a - b) := by
  have := La.sub h h'
  unfold Ld
  rw [Nat.add_mul, Rat.natCast_add]
  exact this
theorem Sd.ld {N n : Nat} {q : Rat} (h : Sd N n q) (hN : N ≠ 0) (hn : n ≤ 60) : Ld N 1 q := by
  have hb : q.num.natAbs < 2 ^ 60 := Nat.lt_of_lt_of_le h.2 (Nat.pow_le_pow_right (by decide) hn)
  have hd := q.den_pos
  have e60 : ((1 * 2 ^ 60 : Nat) : Rat) = ((1152921504606846976 : Int) : Rat) := by decide +kernel
  have hb' : q.num.natAbs < 1152921504606846976 := hb
  refine ⟨hN, h.1, ?_, ?_⟩
  · rw [e60, Rat.le_iff]
    have e1 : (-((1152921504606846976 : Int) : Rat)).num = -1152921504606846976 := by decide +kernel
    have e2 : (-((1152921504606846976 : Int) : Rat)).den = 1 := by decide +kernel
    rw [e1, e2]
    have : (1 : Int) ≤ (q.den : Int) := by omega
    have h2 : (-1152921504606846976 : Int) * (q.den : Int) ≤ -1152921504606846976 * 1 := by omega
    omega
  · rw [e60, Rat.le_iff]
    have e1 : ((1152921504606846976 : Int) : Rat).num = 1152921504606846976 := by decide +kernel
    have e2 : ((1152921504606846976 : Int) : Rat).den = 1 := by decide +kernel
    rw [e1, e2]
    have : (1 : Int) ≤ (q.den : Int) := by omega
    omega
theorem Ld.sz {N k : Nat} {q : Rat} (h : Ld N k q) (hN : N < 2 ^ 25) (hk : k ≤ 1000) : Sz 25 q := La.sz h hN (nat_le_rat (Nat.le_trans (Nat.mul_le_mul_right _ hk) (by decide)))
def GP6 (k : Nat) (p : Pc) : Prop := Ld 60 k p.1 ∧ Ld N2 k p.2.1 ∧ PPace p.2.2
theorem GP6.cz {c : List Pc} (h : ∀ p ∈ c, GP6 200 p) : Cz 25 25 15 c := fun p hp => ⟨(h p hp).1.sz (by decide) (by decide), (h p hp).2.1.sz (by decide) (by decide), szPace (h p hp).2.2⟩
/-! ### what may be shown -/
/-- depth k, weight w -/
structure It (B k w : Nat) (x : DL.D) : Prop where
  lay : x.pd.canLay0 = true
  sh : x.pd.showable = true
  st : x.pd.intsShort B = true
  dp : x.pd.depth ≤ k
  wt : x.pd.weight ≤ w
theorem It.rep {B k w : Nat} {x : DL.D} (h : It B k w x) (hB : 8 ≤ B) (hk : k ≤ 60) (hw : (B + 2) * w + B ≤ 16777216) : RepOk x where
  lay := h.lay
  sh := h.sh
  dp := Nat.le_trans h.dp hk
  sz := by
    have h1 := PyData.shown_le B hB x.pd (PyData.leavesShort_of_canLay0 B x.pd h.lay h.st)
    have h3 : (B + 2) * x.pd.weight ≤ (B + 2) * w := Nat.mul_le_mul_left _ h.wt
    have h4 : sizeLine = 16777216 := rfl
    omega
theorem It.mono {B j k v w : Nat} {x : DL.D} (h : It B j v x) (e : j ≤ k) (f : v ≤ w) : It B k w x := ⟨h.lay, h.sh, h.st, Nat.le_trans h.dp e, Nat.le_trans h.wt f⟩
theorem its : ∀ {B : Nat} {ds : List DL.D} {k w : Nat}, (∀ x ∈ ds, It B k w x) → PyData.canLayAll0 (pdL ds) = true ∧ PyData.showableAll (pdL ds) = true ∧ PyData.intsShortAll B (pdL ds) = true ∧ PyData.depthAll (pdL ds) ≤ k ∧ PyData.weightAll (pdL ds) ≤ ds.length * (w + 1)
  | B, [], k, w, _ => ⟨by simp [pdL, PyData.canLayAll0], by simp [pdL, PyData.showableAll], by simp [pdL, PyData.intsShortAll], by simp [pdL, PyData.depthAll], by simp [pdL, PyData.weightAll]⟩
  | B, x :: ds, k, w, h => by
    obtain ⟨h1, h2, h5, h3, h4⟩ := its (ds := ds) fun y hy => h y (List.mem_cons_of_mem _ hy)
    have hx := h x List.mem_cons_self
    refine ⟨by simp [pdL, PyData.canLayAll0, hx.lay, h1], by simp [pdL, PyData.showableAll, hx.sh, h2], by simp [pdL, PyData.intsShortAll, hx.st, h5], ?_, ?_⟩
    · simp only [pdL, PyData.depthAll]
      have := hx.dp
      omega
    · simp only [pdL, PyData.weightAll, List.length_cons, Nat.add_mul]
      have := hx.wt
      omega
theorem It.lst {B : Nat} {ds : List DL.D} {k w n : Nat} (h : ∀ x ∈ ds, It B k w x) (hn : ds.length ≤ n) : It B (k + 1) (n * (w + 1)) (.lst ds) := by
  obtain ⟨h1, h2, h5, h3, h4⟩ := its h
  refine ⟨by simpa [DL.D.pd, PyData.canLay0] using h1, by simpa [DL.D.pd, PyData.showable] using h2, by simpa [DL.D.pd, PyData.intsShort] using h5, by simpa [DL.D.pd, PyData.depth] using h3, ?_⟩
  have : (DL.D.lst ds).pd.weight = PyData.weightAll (pdL ds) := by simp [DL.D.pd, PyData.weight]
  rw [this]
  exact Nat.le_trans h4 (Nat.mul_le_mul_right _ hn)
theorem It.tup {B : Nat} {ds : List DL.D} {k w n : Nat} (h : ∀ x ∈ ds, It B k w x) (hn : ds.length ≤ n) : It B (k + 1) (n * (w + 1)) (.tup ds) := by
  obtain ⟨h1, h2, h5, h3, h4⟩ := its h
  refine ⟨by simpa [DL.D.pd, PyData.canLay0] using h1, by simpa [DL.D.pd, PyData.showable] using h2, by simpa [DL.D.pd, PyData.intsShort] using h5, by simpa [DL.D.pd, PyData.depth] using h3, ?_⟩
  have : (DL.D.tup ds).pd.weight = PyData.weightAll (pdL ds) := by simp [DL.D.pd, PyData.weight]
  rw [this]
  exact Nat.le_trans h4 (Nat.mul_le_mul_right _ hn)
theorem It.int {i : Int} {m : Nat} (h : i.natAbs < 2 ^ m) (hm : 0 < m) (h2 : m < 1920) : It (m + 8) 0 (m + 1) (.int i) := by
  have hl : i.natAbs.log2 < m := by
    by_cases z : i.natAbs = 0
    · rw [z]; simpa using hm
    · exact (Nat.log2_lt z).mpr h
  refine ⟨by simp [DL.D.pd, PyData.canLay0], by simp [DL.D.pd, PyData.showable]; omega, ?_, by simp [DL.D.pd, PyData.depth], ?_⟩
  · simp only [DL.D.pd, PyData.intsShort, decide_eq_true_eq, PyData.shown]
    have := int_text_length_le (a := i) (k := m) hm hl
    have h2 : (Str.ofString (toString i)).length = (toString i).length := PySem.ofString_length _
    exact decide_eq_true (Nat.le_trans (Nat.le_of_eq h2) (by omega))
  · simp only [DL.D.pd, PyData.weight]
    split <;> omega
theorem It.q {q : Rat} {k : Nat} (h : Sz k q) (hk : 0 < k) (h2 : k ≤ 200) : It (8 * k + 8) 1 (2 * (8 * k + 1 + 1)) (qD q) :=
  It.tup (ds := [.int q.num, .int q.den]) (n := 2) (fun x hx => by
    simp only [List.mem_cons, List.not_mem_nil, or_false] at hx
    rcases hx with rfl | rfl
    · exact It.int h.1 (by omega) (by omega)
    · exact It.int (by simpa using Nat.lt_of_lt_of_le h.2 (Nat.pow_le_pow_right (by decide) (by omega))) (by omega) (by omega)) (by simp)
theorem It.p {p : Pc} {k : Nat} (h : Sz k p.1 ∧ Sz k p.2.1 ∧ Sz k p.2.2) (hk : 0 < k) (h2 : k ≤ 200) : It (8 * k + 8) 2 (3 * (2 * (8 * k + 1 + 1) + 1)) (pD p) :=
  It.tup (ds := [qD p.1, qD p.2.1, qD p.2.2]) (n := 3) (fun x hx => by
    simp only [List.mem_cons, List.not_mem_nil, or_false] at hx
    rcases hx with rfl | rfl | rfl
    · exact It.q h.1 hk h2
    · exact It.q h.2.1 hk h2
    · exact It.q h.2.2 hk h2) (by simp)
section
variable {X : Cx} {n : Nm} {c : Cc} {Γ : SL} {a b e : Expr} {x : DL.D} {pos p : Pos} {k l : AK}
theorem dop_catT : DOp X n c (binaryOp .Add) (fun x y Post => ∃ xs ys, x = .tup xs ∧ y = .tup ys ∧ xs.length + ys.length ≤ 1000 ∧ Post (.tup (xs ++ ys))) := fun hn => ⟨_, op_catA, fun Γ σ R H x y v w Post s hx hy ⟨xs, ys, e1, e2, hz, p⟩ Q q => by
  subst e1 e2
  have r1 : Rp X.K R (.tup xs) v := by
    rcases hx with h | ⟨_, _, _, _, e, _⟩ | ⟨_, _, _, _, e, _⟩ | ⟨_, _, _, _, _, _, e, _⟩
    · exact h
    all_goals cases e
  have r2 : Rp X.K R (.tup ys) w := by
    rcases hy with h | ⟨_, _, _, _, e, _⟩ | ⟨_, _, _, _, e, _⟩ | ⟨_, _, _, _, _, _, e, _⟩
    · exact h
    all_goals cases e
  have r1' := r1
  have r2' := r2
  obtain ⟨a, vs, rfl, t1, l1⟩ := r1'
  obtain ⟨b, ws, rfl, t2, l2⟩ := r2'
  refine ⟨a, b, vs, ws, rfl, rfl, ex_t s.rh t1, ex_t s.rh t2, by rw [← l1.length, ← l2.length, sizeLine_eq]; omega, fun e => ?_, fun _ e => ?_, fun _ _ m hm => ?_⟩
  · have : xs = [] := List.length_eq_zero_iff.mp (by rw [l1.length, e]; rfl)
    subst this
    exact q (.ref b) R H (.tup ys) s (Ex.refl _) r2 p
  · have : ys = [] := List.length_eq_zero_iff.mp (by rw [l2.length, e]; rfl)
    subst this
    rw [List.append_nil] at p
    exact q (.ref a) R H (.tup xs) s (Ex.refl _) r1 p
  · have g := s.new (.tup (vs ++ ws)) hm
    exact q _ _ _ (.tup (xs ++ ys)) (s.grow g) g.r ⟨m, vs ++ ws, rfl, .inl (.inl upd_same), (l1.append l2).mono g.r⟩ p⟩
theorem ev_catT {xs ys : List DL.D} (ha : EK X n c Γ a k) (hb : EK X n c Γ b l) (hz : xs.length + ys.length ≤ 1000) (ga : k.get Γ = some (.tup xs) := by rfl) (gb : l.get Γ = some (.tup ys) := by rfl) : EV X n c Γ (.BinOp a .Add b pos) (.tup (xs ++ ys)) :=
  we_bin dop_catT (wk_ek ha (wk_ek hb ⟨_, _, ga, gb, xs, ys, rfl, rfl, hz, rfl, rfl⟩))
end
/-! ### repr of an empty dict -/
section
variable {X : Cx} {n : Nm} {c : Cc} {Γ : SL} {e : Expr} {x : DL.D} {pos p : Pos} {k : AK}
end
end DL

end
section
set_option Elab.async false
set_option linter.all false
set_option autoImplicit true
set_option maxRecDepth 100000
set_option maxHeartbeats 400000
/-! is_span of any value -/
namespace DL
open PySem L2
open PyProof.Rows hiding St
end DL

end
section
set_option Elab.async false
set_option linter.all false
set_option autoImplicit true
set_option maxRecDepth 100000
set_option maxHeartbeats 1000000
/-! global defs whose parameters default to None; max of four; k03 -/
namespace DL
open PySem L2
open PyProof.Rows hiding St
/-! ### a def by positional values, some of them left out -/
structure CalXN (X : Cx) (k : Nat) (nm : Str) (n : Nat) (S : SgX) : Prop where
  rm : Room k X.A
  ex : ∃ f fd ps k0, FnOk X.prog X.w X.K X.mg X.base (L2N.CX X.prog X.w) k0 f fd ps (spOfX X.K S) ∧ k0 ≤ k ∧ X.mg nm = some (.ref f) ∧ PySem.W.keepIn X.K (.ref f) = true ∧ ∀ j, j ≤ n → ∃ ds, Vals (List.replicate (n - j) V.non) ds ∧ Binds X.K fd ps ds
theorem CalXN.tr {X : Cx} {k : Nat} {nm : Str} {n : Nat} {S : SgX} {pn : List (Addr × Obj)} {xe : Value → Shared → Prop} (h : CalXN X k nm n S) : CalXN (X.tr pn xe) k nm n S := ⟨h.rm, h.ex⟩
section
variable {X : Cx} {n : Nm} {c : Cc} {Γ : SL} {e : Expr} {es : List Expr} {pos p : Pos} {nm : Str} {S : SgX} {ks : List AK} {ps : List Par}
end

/-! ### max of four -/
section
open PySem.P
end
/-! ### k03 -/
end DL

end
section
set_option Elab.async false
set_option linter.all false
set_option autoImplicit true
set_option maxRecDepth 100000
set_option maxHeartbeats 1000000
/-! nested targets, enumerate; boxes taken apart; k19 -/
namespace DL
open PySem L2
open PyProof.Rows hiding St
/-! ### targets -/
def tG (X : Cx) (e : Expr) : TG := fun v σ H Q => ∀ (pins : List (Addr × Obj)) (s : Shared) (u : Value), Inv X pins σ H s → RelV v u → wpAny (model X.prog X.w) X.A (assign e X.env u) (fun _ s' => ∃ σ' H', Inv X pins σ' H' s' ∧ Q σ' H') X.xe s
def tGs (X : Cx) (es : List Expr) : TGs := fun vs σ H Q => ∀ (pins : List (Addr × Obj)) (s : Shared) (us : List Value), Inv X pins σ H s → Vals vs us → wpAny (model X.prog X.w) X.A (assignInOrder ((assignEach es X.env).map (·.2)) us) (fun _ s' => ∃ σ' H', Inv X pins σ' H' s' ∧ Q σ' H') X.xe s
section
variable {X : Cx} {n : Nm} {c : Cc} {Γ : SL} {e a b o : Expr} {es : List Expr} {x y z : DL.D} {xs : List DL.D} {pos p p1 p2 apos ap : Pos} {nm nx ny cls f m : Str} {k l : AK} {fs : List (Str × DL.D)} {De : DE} {v : V} {vs : List V} {σ : L2.St} {H R : Hp} {Q : L2.St → Hp → Prop}
theorem pG : PG X e (tG X e) := ⟨fun pins s σ H v u Q I r h => h pins s u I r⟩
theorem pGs : PGs X es (tGs X es) := ⟨fun pins s σ H vs us Q I r h => h pins s us I r⟩
theorem _root_.L2.PG.w {t : TG} (h : PG X e t) (q : t v σ H Q) : tG X e v σ H Q := fun pins s u I r => h.run pins s σ H v u Q I r q
theorem _root_.L2.PGs.w {t : TGs} (h : PGs X es t) (q : t vs σ H Q) : tGs X es vs σ H Q := fun pins s us I r => h.run pins s σ H vs us Q I r q
/-- data x is stored to a target -/
structure WG (X : Cx) (n : Nm) (c : Cc) (Γ : SL) (e : Expr) (x : DL.D) (Post : SL → Prop) : Prop where
  run : NOk X n c → ∀ σ R H, SOk X.K c Γ σ R H → ∀ v, Rp X.K R x v → ∀ Q : L2.St → Hp → Prop, (∀ σ' Γ', SOk X.K c Γ' σ' R H → Post Γ' → Q σ' H) → tG X e v σ H Q
structure WGs (X : Cx) (n : Nm) (c : Cc) (Γ : SL) (es : List Expr) (xs : List DL.D) (Post : SL → Prop) : Prop where
  run : NOk X n c → ∀ σ R H, SOk X.K c Γ σ R H → ∀ vs, RpL X.K R xs vs → ∀ Q : L2.St → Hp → Prop, (∀ σ' Γ', SOk X.K c Γ' σ' R H → Post Γ' → Q σ' H) → tGs X es vs σ H Q
theorem wg_nm (i : Nat) {Post : SL → Prop} (h : Post (Γ.set i (.d x))) (hi : n.N[i]? = some nm := by rfl) (ha : n.as.contains i = true := by rfl) (ho : n.oi.contains i = false := by rfl) : WG X n c Γ (.Name nm pos) x Post := .mk fun hn σ R H s v r Q q => by
  obtain ⟨l1, l2⟩ := hn.loc i nm ha hi
  exact (pg_name (by rw [hn.eq]; exact hn.nd) (by rw [hn.eq]; exact hi) l1 l2).w (q _ _ (s.setD i r (hn.noi ho)) h)
theorem wgs_nil {Post : SL → Prop} (h : Post Γ) : WGs X n c Γ [] [] Post := .mk fun hn σ R H s vs r Q q => pgs_nil.w ⟨r, q _ _ s h⟩
theorem wgs_cons {Post : SL → Prop} (h : WG X n c Γ e x fun Γ1 => WGs X n c Γ1 es xs Post) (hs : (assignEach (e :: es) X.env).map (·.2) = assign e X.env :: (assignEach es X.env).map (·.2) := by rfl) : WGs X n c Γ (e :: es) (x :: xs) Post := .mk fun hn σ R H s vs ⟨v, ws, ev, r1, r2⟩ Q q => by
  subst ev
  exact (pgs_cons pG pGs hs).w ⟨v, ws, rfl, h.run hn σ R H s v r1 _ fun σ' Γ' s' h' => h'.run hn σ' R H s' ws r2 Q q⟩
theorem wg_tp {kk : Nat} {Post : SL → Prop} (h : WGs X n c Γ es xs Post) (hh : n.hot = false := by rfl) (hl : (assignEach es X.env).length = xs.length := by rfl) (hst : (assignEach es X.env).findIdx? (·.1) = none := by rfl) : WG X n c Γ (.Tuple es kk pos) (.tup xs) Post := .mk fun hn σ R H s v r Q q => by
  obtain ⟨t, vs, rfl, hT, r2⟩ := r
  exact (pg_tup (hn.calm hh) pGs hl hst).w ⟨t, vs, rfl, ex_t s.rh hT, r2.length.symm, h.run hn σ R H s vs r2 Q q⟩
/-- tg = data -/
theorem ws_asgG {tg : Expr} (h : WE X n c Γ e fun x Γ' => WG X n c Γ' tg x De.nx) (hs : swapsWithSole [tg] e pos.line X.env = pure false := by rfl) (hw : swappedStores [tg] e X.env = pure none := by rfl)
    (h5 : (assignEach [tg] X.env).map (·.2) = [assign tg X.env] := by rfl) : WS X n c Γ (.Assign [tg] e pos) De := .mk fun hn σ R H s E ok =>
  (ps_asg pW pG hs hw h5).w (h.run hn σ R H s _ fun v R' H' x Γ' s' e' r p => p.run hn σ R' H' s' v r _ fun σ2 Γ2 s2 p2 => ok.nx σ2 R' H' Γ2 s2 e' p2)
/-! ### boxes taken apart; a list that leaves its name -/
/-- the list that a name holds leaves it -/
theorem wo_mv (i : Nat) {ob : OB} {Post : OB → SL → Prop} (h : Post ob (Γ.set i .any)) (hg : Γ[i]? = some (.own ob) := by rfl) (ho : n.oi.contains i = false := by rfl) (hi : n.N[i]? = some nm := by rfl) (hv : n.V.contains i = true := by rfl) : WO X n c Γ (.Name nm p) Post := .mk fun hn σ R H s Q q => by
  obtain ⟨h1, h2⟩ := hn.dbg i nm hi
  refine (pe_var (i := i) (by rw [hn.eq]; exact hi) (hn.vis i nm hv hi) h1 h2).w ?_
  obtain ⟨w2, f1, b2, f2, f5, f6, f7⟩ := s.sl i _ hg
  subst f2
  have no := hn.noi ho
  refine ⟨_, f1, q _ R H ob _ (s.same f1 no (sl := .any) rfl trivial) (Ex.refl _) ⟨b2, rfl, f5, f6, ?_, fun j o' z1 z2 => ?_⟩ h⟩
  · rcases f7 with f7 | f7
    · exact f7
    · obtain ⟨j, hj⟩ := hn.cm b2 f7
      obtain ⟨z1, o', z2⟩ := s.oi _ hj
      have := s.dj i j b2 _ o' hg z2 f1 z1
      subst this
      exact absurd (List.mem_map_of_mem hj) no
  · have hne : i ≠ j := fun z => by
      subst z
      rw [List.getElem?_set_self (List.getElem?_eq_some_iff.mp hg).1] at z1
      cases z1
    rw [List.getElem?_set_ne hne] at z1
    exact hne (s.dj i j b2 _ o' hg z1 f1 z2)
end
end DL

end
section
set_option Elab.async false
set_option linter.all false
set_option autoImplicit true
set_option maxRecDepth 100000
set_option maxHeartbeats 1000000
/-! k19: difference claims, relaxing, rings: the plain law -/
namespace DL
open PySem L2
open PyProof.Rows hiding St
/-! ### common denominators -/
def denL (qs : List Rat) : Nat := qs.foldl (fun c q => Nat.lcm c q.den) 1
theorem denL_go {N : Nat} : ∀ (qs : List Rat) (c : Nat), c ∣ N → (∀ q ∈ qs, q.den ∣ N) → qs.foldl (fun c q => Nat.lcm c q.den) c ∣ N
  | [], c, h, _ => h
  | q :: qs, c, h, hq => denL_go qs _ (Nat.lcm_dvd h (hq q List.mem_cons_self)) fun p hp => hq p (List.mem_cons_of_mem _ hp)
theorem denL_dvd {N : Nat} {qs : List Rat} (h : ∀ q ∈ qs, q.den ∣ N) : denL qs ∣ N := denL_go qs 1 (Nat.one_dvd _) h
theorem denL_up : ∀ (qs : List Rat) (c : Nat), c ∣ qs.foldl (fun c q => Nat.lcm c q.den) c ∧ ∀ q ∈ qs, q.den ∣ qs.foldl (fun c q => Nat.lcm c q.den) c
  | [], c => ⟨Nat.dvd_refl _, fun q h => by cases h⟩
  | q :: qs, c => by
    obtain ⟨h1, h2⟩ := denL_up qs (Nat.lcm c q.den)
    refine ⟨Nat.dvd_trans (Nat.dvd_lcm_left _ _) h1, fun p hp => ?_⟩
    rcases List.mem_cons.mp hp with rfl | hp
    · exact Nat.dvd_trans (Nat.dvd_lcm_right _ _) h1
    · exact h2 p hp
theorem mul_den_int {q : Rat} {C : Nat} (h : q.den ∣ C) : ((q.num * ((C / q.den : Nat) : Int) : Int) : Rat) = q * ((C : Nat) : Rat) := by
  obtain ⟨k, rfl⟩ := h
  have d0 : q.den ≠ 0 := q.den_nz
  rw [Nat.mul_div_cancel_left _ (Nat.pos_of_ne_zero d0), Rat.intCast_mul, Rat.natCast_mul]
  have e : (q.num : Rat) = q * (q.den : Rat) := (den_mulQ q).symm
  have e2 : (((k : Nat) : Int) : Rat) = ((k : Nat) : Rat) := by exact_mod_cast rfl
  rw [e, e2]; grind
/-! ### claims and edges -/
abbrev Cl := Nat × Nat × Rat × Str
abbrev Ed := Nat × Nat × Int × Nat
def liveB (gone : List Str) (c : Cl) : Bool := !gone.contains c.2.2.2
def edL (C : Nat) (gone : List Str) : Nat → List Cl → List Ed
  | _, [] => []
  | k, c :: cs => (if liveB gone c then [(c.1, c.2.1, c.2.2.1.num * ((C / c.2.2.1.den : Nat) : Int), k)] else []) ++ edL C gone (k + 1) cs
theorem edL_mem {C : Nat} {gone : List Str} {e : Ed} : ∀ (cs : List Cl) (k : Nat), e ∈ edL C gone k cs → ∃ j c, cs[j]? = some c ∧ e = (c.1, c.2.1, c.2.2.1.num * ((C / c.2.2.1.den : Nat) : Int), k + j) ∧ liveB gone c = true
  | [], k, h => by cases h
  | d :: cs, k, h => by
    rcases List.mem_append.mp h with h | h
    · split at h
      · rename_i hl
        exact ⟨0, d, rfl, by simpa using h, hl⟩
      · cases h
    · obtain ⟨j, c, h1, h2, h3⟩ := edL_mem cs (k + 1) h
      exact ⟨j + 1, c, h1, by rw [h2]; congr 3; omega, h3⟩
theorem edL_has {C : Nat} {gone : List Str} {c : Cl} : ∀ (cs : List Cl) (k : Nat), c ∈ cs → liveB gone c = true → ∃ j, (c.1, c.2.1, c.2.2.1.num * ((C / c.2.2.1.den : Nat) : Int), j) ∈ edL C gone k cs
  | d :: cs, k, h, hl => by
    rcases List.mem_cons.mp h with rfl | h
    · exact ⟨k, List.mem_append_left _ (by rw [if_pos hl]; exact List.mem_singleton.mpr rfl)⟩
    · obtain ⟨j, hj⟩ := edL_has cs (k + 1) h hl
      exact ⟨j, List.mem_append_right _ hj⟩
theorem edL_len {C : Nat} {gone : List Str} : ∀ (cs : List Cl) (k : Nat), (edL C gone k cs).length ≤ cs.length
  | [], _ => Nat.le_refl _
  | c :: cs, k => by
    have := edL_len (C := C) (gone := gone) cs (k + 1)
    simp only [edL, List.length_append, List.length_cons]
    split <;> simp <;> omega
/-! ### relaxing -/
def gO {α : Type} (l : List (Option α)) (i : Nat) : Option α := (l[i]?).join
theorem gO_some {α : Type} {l : List (Option α)} {i : Nat} {o : Option α} (h : l[i]? = some o) : gO l i = o := by unfold gO; rw [h]; rfl
theorem gO_of {α : Type} {l : List (Option α)} {i : Nat} {a : α} (h : gO l i = some a) : l[i]? = some (some a) := by
  unfold gO at h
  match e : l[i]?, h with
  | some (some b), h => simpa using h
  | some none, h => simp at h
  | none, h => simp at h
theorem gO_set {α : Type} {l : List (Option α)} {i j : Nat} {o : Option α} (h : i < l.length) : gO (l.set i o) j = if j = i then o else gO l j := by
  unfold gO
  by_cases e : j = i
  · subst e; rw [if_pos rfl, List.getElem?_set_self h]; rfl
  · rw [if_neg e, List.getElem?_set_ne (by omega)]
structure StR where
  s : List (Option Int)
  p : List (Option Ed)
  c : Option Nat
def lowB (r : Int) : Option Int → Bool
  | none => true
  | some y => decide (r < y)
def rlxE (t : StR) (e : Ed) : StR := match gO t.s e.1 with
  | none => t
  | some x => if lowB (x + e.2.2.1) (gO t.s e.2.1) then ⟨t.s.set e.2.1 (some (x + e.2.2.1)), t.p.set e.2.1 (some e), some e.2.1⟩ else t
def rnd (es : List Ed) (t : StR) : StR := es.foldl rlxE { t with c := none }
def Kept (s : List (Option Int)) (e : Ed) : Prop := ∀ x, gO s e.1 = some x → ∃ y, gO s e.2.1 = some y ∧ y ≤ x + e.2.2.1
theorem kept_of {s : List (Option Int)} {e : Ed} {x : Int} (h : gO s e.1 = some x) (hl : ¬ lowB (x + e.2.2.1) (gO s e.2.1) = true) : Kept s e := fun x' hx => by
  rw [h] at hx; cases hx
  match e2 : gO s e.2.1, hl with
  | none, hl => exact absurd rfl hl
  | some y, hl => exact ⟨y, rfl, by have := of_decide_eq_false (Bool.eq_false_iff.mpr hl); omega⟩
structure RInv (n : Nat) (es : List Ed) (r : Nat) (done : List Ed) (t : StR) (T R : Nat → Nat) (k : Nat) : Prop where
  ls : t.s.length = n
  lp : t.p.length = n
  Tk : ∀ b, T b < k
  Rr : ∀ b, R b ≤ r
  pin : ∀ b e, gO t.p b = some e → e ∈ es ∧ e.2.1 = b ∧ ∃ x y, gO t.s e.1 = some x ∧ gO t.s b = some y ∧ x + e.2.2.1 ≤ y ∧ (x + e.2.2.1 < y ∨ T e.1 < T b)
  pre : ∀ b e, gO t.p b = some e → R b ≤ R e.1 + 1
  has : ∀ b, 0 < R b → ∃ e, gO t.p b = some e
  chg : ∀ b, t.c = some b → R b = r ∧ b < n
  kd : ∀ e ∈ done, R e.1 < r → Kept t.s e
  ko : ∀ e ∈ es, R e.1 + 1 < r → Kept t.s e
theorem kept_set {s : List (Option Int)} {e : Ed} {b : Nat} {z : Int} (hb : b < s.length) (h : Kept s e) (hne : e.1 ≠ b) (hl : lowB z (gO s b) = true) : Kept (s.set b (some z)) e := fun x hx => by
  rw [gO_set hb, if_neg hne] at hx
  obtain ⟨y, h1, h2⟩ := h x hx
  rw [gO_set hb]
  by_cases e2 : e.2.1 = b
  · rw [if_pos e2]
    rw [e2] at h1
    rw [h1] at hl
    have : z < y := of_decide_eq_true hl
    exact ⟨z, rfl, by omega⟩
  · rw [if_neg e2]; exact ⟨y, h1, h2⟩
theorem RInv.step {n : Nat} {es : List Ed} {r : Nat} {done : List Ed} {t : StR} {T R : Nat → Nat} {k : Nat} (I : RInv n es r done t T R k) {e : Ed} (he : e ∈ es) (ha : e.1 < n) (hb : e.2.1 < n) : ∃ T' R' k', RInv n es r (done ++ [e]) (rlxE t e) T' R' k' := by
  unfold rlxE
  have same : Kept t.s e → RInv n es r (done ++ [e]) t T R k := fun hk => ⟨I.ls, I.lp, I.Tk, I.Rr, I.pin, I.pre, I.has, I.chg, fun d hd hr => by
    rcases List.mem_append.mp hd with hd | hd
    · exact I.kd d hd hr
    · rw [List.mem_singleton.mp hd]; exact hk, I.ko⟩
  match hx : gO t.s e.1 with
  | none => exact ⟨T, R, k, same fun x h => by rw [hx] at h; cases h⟩
  | some x =>
    by_cases hl : lowB (x + e.2.2.1) (gO t.s e.2.1) = true
    · simp only [hl, if_true]
      have lb : e.2.1 < t.s.length := by rw [I.ls]; exact hb
      have lpb : e.2.1 < t.p.length := by rw [I.lp]; exact hb
      have hR : r ≤ R e.1 + 1 := by
        refine Nat.le_of_not_lt fun h => ?_
        obtain ⟨y, h1, h2⟩ := I.ko e he h x hx
        rw [h1] at hl
        have := of_decide_eq_true hl
        omega
      refine ⟨fun v => if v = e.2.1 then k else T v, fun v => if v = e.2.1 then r else R v, k + 1, by rw [List.length_set]; exact I.ls, by rw [List.length_set]; exact I.lp, fun b => ?_, fun b => ?_, fun b d hd => ?_, fun b d hd => ?_, fun b hb2 => ?_, fun b hb2 => ?_, fun d hd hr => ?_, fun d hd hr => ?_⟩
      · show (if b = e.2.1 then k else T b) < k + 1
        have := I.Tk b
        split <;> omega
      · show (if b = e.2.1 then r else R b) ≤ r
        have := I.Rr b
        split <;> omega
      · simp only [gO_set lpb] at hd
        simp only [gO_set lb]
        by_cases eb : b = e.2.1
        · rw [if_pos eb] at hd
          cases hd
          refine ⟨he, eb.symm, ?_⟩
          rw [if_pos eb]
          by_cases ea : e.1 = e.2.1
          · rw [if_pos ea]
            rw [ea] at hx
            rw [hx] at hl
            have := of_decide_eq_true hl
            exact ⟨_, _, rfl, rfl, by omega, .inl (by omega)⟩
          · rw [if_neg ea]
            refine ⟨x, _, hx, rfl, by omega, .inr ?_⟩
            rw [if_neg ea, if_pos eb]
            exact I.Tk _
        · rw [if_neg eb] at hd
          obtain ⟨d1, d2, x', y', d3, d4, d5, d6⟩ := I.pin b d hd
          refine ⟨d1, d2, ?_⟩
          rw [if_neg eb]
          by_cases ed : d.1 = e.2.1
          · rw [if_pos ed]
            rw [ed] at d3
            rw [d3] at hl
            have := of_decide_eq_true hl
            exact ⟨_, y', rfl, d4, by omega, .inl (by omega)⟩
          · rw [if_neg ed]
            refine ⟨x', y', d3, d4, d5, ?_⟩
            rw [if_neg ed, if_neg eb]
            exact d6
      · simp only [gO_set lpb] at hd
        show (if b = e.2.1 then r else R b) ≤ (if d.1 = e.2.1 then r else R d.1) + 1
        by_cases eb : b = e.2.1
        · rw [if_pos eb] at hd ⊢
          cases hd
          split
          · omega
          · exact hR
        · rw [if_neg eb] at hd ⊢
          have h1 := I.pre b d hd
          have h2 := I.Rr d.1
          split <;> omega
      · simp only [gO_set lpb]
        have hb3 : 0 < (if b = e.2.1 then r else R b) := hb2
        by_cases eb : b = e.2.1
        · rw [if_pos eb]; exact ⟨_, rfl⟩
        · rw [if_neg eb]; rw [if_neg eb] at hb3; exact I.has b hb3
      · cases hb2
        exact ⟨if_pos rfl, hb⟩
      · have hr3 : (if d.1 = e.2.1 then r else R d.1) < r := hr
        by_cases ed : d.1 = e.2.1
        · rw [if_pos ed] at hr3; omega
        rw [if_neg ed] at hr3
        rcases List.mem_append.mp hd with hd | hd
        · exact kept_set lb (I.kd d hd hr3) ed hl
        · rw [List.mem_singleton.mp hd] at ed ⊢
          intro x' hx'
          simp only [gO_set lb] at hx' ⊢
          rw [if_neg ed, hx] at hx'
          cases hx'
          simp only [if_true]
          exact ⟨_, rfl, by omega⟩
      · have hr3 : (if d.1 = e.2.1 then r else R d.1) + 1 < r := hr
        by_cases ed : d.1 = e.2.1
        · rw [if_pos ed] at hr3; omega
        rw [if_neg ed] at hr3
        exact kept_set lb (I.ko d hd hr3) ed hl
    · exact ⟨T, R, k, by simp only [hl]; exact same (kept_of hx hl)⟩
theorem RInv.steps {n : Nat} {es : List Ed} {r : Nat} (hn : ∀ e ∈ es, e.1 < n ∧ e.2.1 < n) : ∀ (rest done : List Ed) {t : StR} {T R : Nat → Nat} {k : Nat}, RInv n es r done t T R k → (∀ e ∈ rest, e ∈ es) → ∃ T' R' k', RInv n es r (done ++ rest) (rest.foldl rlxE t) T' R' k'
  | [], done, t, T, R, k, I, _ => ⟨T, R, k, by rw [List.append_nil]; exact I⟩
  | e :: rest, done, t, T, R, k, I, h => by
    have he := h e List.mem_cons_self
    obtain ⟨T', R', k', I'⟩ := I.step he (hn e he).1 (hn e he).2
    obtain ⟨T2, R2, k2, I2⟩ := RInv.steps hn rest (done ++ [e]) I' fun d hd => h d (List.mem_cons_of_mem _ hd)
    rw [List.append_assoc] at I2
    exact ⟨T2, R2, k2, I2⟩
def RI (n : Nat) (es : List Ed) (r : Nat) (t : StR) : Prop := ∃ T R k, RInv n es r es t T R k
theorem RI.round {n : Nat} {es : List Ed} {r : Nat} {t : StR} (hn : ∀ e ∈ es, e.1 < n ∧ e.2.1 < n) (h : RI n es r t) : RI n es (r + 1) (rnd es t) := by
  obtain ⟨T, R, k, I⟩ := h
  have I0 : RInv n es (r + 1) [] { t with c := none } T R k := ⟨I.ls, I.lp, I.Tk, fun b => Nat.le_succ_of_le (I.Rr b), I.pin, I.pre, I.has, fun b hb => (by cases hb), fun e he => (by cases he), fun e he hr => I.kd e he (by omega)⟩
  obtain ⟨T', R', k', I'⟩ := RInv.steps hn es [] I0 fun e he => he
  exact ⟨T', R', k', I'⟩
def st0 (n : Nat) : StR := ⟨List.replicate n (some 0), List.replicate n none, some 0⟩
theorem gO_rep {α : Type} {n i : Nat} : gO (List.replicate n (none : Option α)) i = none := by
  unfold gO
  by_cases h : i < n
  · rw [List.getElem?_replicate, if_pos h]; rfl
  · rw [List.getElem?_replicate, if_neg h]; rfl
theorem RI.init {n : Nat} {es : List Ed} (n0 : 0 < n) : RI n es 0 (st0 n) :=
  ⟨fun _ => 0, fun _ => 0, 1, List.length_replicate, List.length_replicate, fun b => Nat.lt_succ_self 0, fun b => Nat.le_refl 0, fun b e h => (by rw [show gO (st0 n).p b = none from gO_rep] at h; cases h), fun b e h => (by rw [show gO (st0 n).p b = none from gO_rep] at h; cases h), fun b h => absurd h (Nat.lt_irrefl 0), fun b h => (by cases h; exact ⟨rfl, n0⟩), fun e he h => absurd h (Nat.not_lt_zero _), fun e he h => absurd h (Nat.not_lt_zero _)⟩
/-! ### a round without a change -/
theorem rlx1_none {t : StR} {e : Ed} (h : (rlxE t e).c = none) : rlxE t e = t ∧ Kept t.s e := by
  unfold rlxE at h ⊢
  match hx : gO t.s e.1 with
  | none => exact ⟨rfl, fun x h => by rw [hx] at h; cases h⟩
  | some x =>
    rw [hx] at h
    by_cases hl : lowB (x + e.2.2.1) (gO t.s e.2.1) = true
    · simp only [hl, if_true] at h; cases h
    · simp only [hl]; exact ⟨rfl, kept_of hx hl⟩
theorem rlx_none : ∀ (es : List Ed) {t : StR}, (es.foldl rlxE t).c = none → es.foldl rlxE t = t ∧ ∀ e ∈ es, Kept t.s e
  | [], t, _ => ⟨rfl, fun e h => by cases h⟩
  | e :: es, t, h => by
    obtain ⟨h1, h2⟩ := rlx_none es (t := rlxE t e) h
    have h3 : (rlxE t e).c = none := by rw [← h1]; exact h
    obtain ⟨h4, h5⟩ := rlx1_none h3
    refine ⟨by rw [List.foldl_cons, h1, h4], fun d hd => ?_⟩
    rcases List.mem_cons.mp hd with rfl | hd
    · exact h5
    · have := h2 d hd
      rw [h4] at this
      exact this
theorem rnd_none {es : List Ed} {t : StR} (h : (rnd es t).c = none) : ∀ e ∈ es, Kept (rnd es t).s e := by
  obtain ⟨h1, h2⟩ := rlx_none es (t := { t with c := none }) h
  intro e he
  have := h2 e he
  unfold rnd
  rw [h1]
  exact this
/-! ### sums that are all there -/
def Full (n : Nat) (M : Nat) (t : StR) : Prop := ∃ is : List Int, t.s = is.map some ∧ is.length = n ∧ ∀ x ∈ is, x.natAbs ≤ M
theorem Full.step {n M W : Nat} {t : StR} {e : Ed} (h : Full n M t) (hw : e.2.2.1.natAbs ≤ W) : Full n (M + W) (rlxE t e) := by
  obtain ⟨is, h1, h2, h3⟩ := h
  have keep : Full n (M + W) t := ⟨is, h1, h2, fun x hx => by have := h3 x hx; omega⟩
  unfold rlxE
  match hx : gO t.s e.1 with
  | none => exact keep
  | some x =>
    by_cases hl : lowB (x + e.2.2.1) (gO t.s e.2.1) = true
    · simp only [hl, if_true]
      refine ⟨is.set e.2.1 (x + e.2.2.1), by rw [h1, List.map_set], by rw [List.length_set]; exact h2, fun y hy => ?_⟩
      rcases List.mem_or_eq_of_mem_set hy with hy | rfl
      · have := h3 y hy; omega
      · have hxm := gO_of hx
        rw [h1, List.getElem?_map] at hxm
        obtain ⟨z, hz, hz2⟩ := Option.map_eq_some_iff.mp hxm
        cases hz2
        have := h3 _ (List.mem_of_getElem? hz)
        omega
    · simp only [hl]; exact keep
theorem Full.steps {n W : Nat} : ∀ (es : List Ed) {M : Nat} {t : StR}, Full n M t → (∀ e ∈ es, e.2.2.1.natAbs ≤ W) → Full n (M + es.length * W) (es.foldl rlxE t)
  | [], M, t, h, _ => by simpa using h
  | e :: es, M, t, h, hw => by
    have := Full.steps es (h.step (hw e List.mem_cons_self)) fun d hd => hw d (List.mem_cons_of_mem _ hd)
    rw [List.length_cons, Nat.add_mul, Nat.one_mul, Nat.add_comm (es.length * W) W, ← Nat.add_assoc]
    exact this
theorem Full.round {n W M : Nat} {es : List Ed} {t : StR} (h : Full n M t) (hw : ∀ e ∈ es, e.2.2.1.natAbs ≤ W) : Full n (M + es.length * W) (rnd es t) := Full.steps es (t := { t with c := none }) h hw
theorem Full.init {n : Nat} : Full n 0 (st0 n) := ⟨List.replicate n 0, by simp [st0], List.length_replicate, fun x hx => by rw [(List.mem_replicate.mp hx).2]; exact Nat.le_refl 0⟩
/-! ### rounds -/
def rnds (es : List Ed) : Nat → StR → StR
  | 0, t => t
  | k + 1, t => if (rnd es t).c = none then rnd es t else rnds es k (rnd es t)
structure RndOk (n W : Nat) (es : List Ed) (m : Nat) (t : StR) : Prop where
  full : Full n (m * (es.length * W)) t
  ls : t.s.length = n
  lp : t.p.length = n
  rest : t.c = none → ∀ e ∈ es, Kept t.s e
  ri : RI n es m t
theorem rnds_ok {n W : Nat} {es : List Ed} (hn : ∀ e ∈ es, e.1 < n ∧ e.2.1 < n) (hw : ∀ e ∈ es, e.2.2.1.natAbs ≤ W) : ∀ (k r : Nat) {t : StR}, Full n (r * (es.length * W)) t → RI n es r t → (t.c = none → ∀ e ∈ es, Kept t.s e) → ∃ m, m ≤ r + k ∧ RndOk n W es m (rnds es k t) ∧ ((rnds es k t).c ≠ none → m = r + k)
  | 0, r, t, hf, hr, hk => ⟨r, Nat.le_refl _, ⟨hf, by obtain ⟨_, _, _, I⟩ := hr; exact I.ls, by obtain ⟨_, _, _, I⟩ := hr; exact I.lp, hk, hr⟩, fun _ => rfl⟩
  | k + 1, r, t, hf, hr, _ => by
    have f1 := hf.round hw
    have r1 := hr.round hn
    rw [show r * (es.length * W) + es.length * W = (r + 1) * (es.length * W) by rw [Nat.add_mul, Nat.one_mul]] at f1
    have k1 : (rnd es t).c = none → ∀ e ∈ es, Kept (rnd es t).s e := rnd_none
    unfold rnds
    by_cases h : (rnd es t).c = none
    · rw [if_pos h]
      exact ⟨r + 1, by omega, ⟨f1, by obtain ⟨_, _, _, I⟩ := r1; exact I.ls, by obtain ⟨_, _, _, I⟩ := r1; exact I.lp, k1, r1⟩, fun z => absurd h z⟩
    · rw [if_neg h]
      obtain ⟨m, m1, m2, m3⟩ := rnds_ok hn hw k (r + 1) f1 r1 k1
      exact ⟨m, by omega, m2, fun z => by rw [m3 z]; omega⟩
/-! ### steps back along the pointers -/
def nx (p : List (Option Ed)) (v : Nat) : Nat := match gO p v with
  | some e => e.1
  | none => v
def ix (p : List (Option Ed)) (v : Nat) : Nat := match gO p v with
  | some e => e.2.2.2
  | none => 0
def itN (p : List (Option Ed)) : Nat → Nat → Nat
  | 0, v => v
  | k + 1, v => nx p (itN p k v)
theorem itN_add {p : List (Option Ed)} (v : Nat) : ∀ (i j : Nat), itN p (i + j) v = itN p i (itN p j v)
  | 0, j => by rw [Nat.zero_add]; rfl
  | i + 1, j => by rw [Nat.add_right_comm]; show nx p (itN p (i + j) v) = _; rw [itN_add v i j]; rfl
theorem pigeon : ∀ (n : Nat) (f : Nat → Nat), (∀ k, k ≤ n → f k < n) → ∃ i j, i < j ∧ j ≤ n ∧ f i = f j
  | 0, f, h => absurd (h 0 (Nat.le_refl 0)) (Nat.not_lt_zero _)
  | n + 1, f, h => by
    by_cases c : ∃ i, i ≤ n ∧ f i = f (n + 1)
    · obtain ⟨i, h1, h2⟩ := c
      exact ⟨i, n + 1, by omega, Nat.le_refl _, h2⟩
    · have hne : ∀ k, k ≤ n → f k ≠ f (n + 1) := fun k hk e => c ⟨k, hk, e⟩
      have hl := h (n + 1) (Nat.le_refl _)
      obtain ⟨i, j, h1, h2, h3⟩ := pigeon n (fun k => if f k = n then f (n + 1) else f k) fun k hk => by
        have h1 := h k (by omega)
        have h2 := hne k hk
        show (if f k = n then f (n + 1) else f k) < n
        split <;> omega
      have h3 : (if f i = n then f (n + 1) else f i) = (if f j = n then f (n + 1) else f j) := h3
      have hi := hne i (by omega)
      have hj := hne j (by omega)
      refine ⟨i, j, h1, by omega, ?_⟩
      split at h3 <;> split at h3 <;> omega
theorem back_ok {n : Nat} {es : List Ed} {r : Nat} {t : StR} {T R : Nat → Nat} {k : Nat} (hn : ∀ e ∈ es, e.1 < n ∧ e.2.1 < n) (I : RInv n es r es t T R k) {v : Nat} (hv : v < n) (hR : R v = r) : ∀ j, j ≤ r → r ≤ R (itN t.p j v) + j ∧ itN t.p j v < n
  | 0, _ => ⟨Nat.le_of_eq hR.symm, hv⟩
  | j + 1, h => by
    obtain ⟨h1, h2⟩ := back_ok hn I hv hR j (by omega)
    obtain ⟨e, he⟩ := I.has (itN t.p j v) (by omega)
    have h3 := I.pre _ _ he
    have e1 : itN t.p (j + 1) v = e.1 := by show nx t.p (itN t.p j v) = _; unfold nx; rw [he]
    rw [e1]
    exact ⟨by omega, (hn e (I.pin _ _ he).1).1⟩
/-- a ring of d steps through m -/
structure Cyc (p : List (Option Ed)) (n m d : Nat) : Prop where
  d0 : 0 < d
  dn : d ≤ n
  back : itN p d m = m
  all : ∀ j, ∃ e, gO p (itN p j m) = some e
  lt : ∀ j, itN p j m < n
theorem cyc_of {n : Nat} {es : List Ed} {t : StR} {T R : Nat → Nat} {k : Nat} (hn : ∀ e ∈ es, e.1 < n ∧ e.2.1 < n) (I : RInv n es n es t T R k) {v : Nat} (hv : v < n) (hR : R v = n) : ∃ d, Cyc t.p n (itN t.p n v) d := by
  obtain ⟨i, j, h1, h2, h3⟩ := pigeon n (fun k => itN t.p k v) fun k hk => (back_ok hn I hv hR k hk).2
  have h3 : itN t.p i v = itN t.p j v := h3
  have sh : ∀ x, itN t.p (x + i) v = itN t.p (x + j) v := fun x => by rw [itN_add, itN_add, h3]
  have e1 : itN t.p n v = itN t.p (n - (j - i)) v := by
    have := sh (n - j)
    rw [show n - j + i = n - (j - i) by omega, show n - j + j = n by omega] at this
    exact this.symm
  have bk : itN t.p (j - i) (itN t.p n v) = itN t.p n v := by
    rw [← itN_add]
    have := sh (n - i)
    rw [show n - i + i = n by omega, show n - i + j = j - i + n by omega] at this
    exact this.symm
  have per : ∀ q x, itN t.p (x + q * (j - i)) (itN t.p n v) = itN t.p x (itN t.p n v) := fun q x => by
    induction q with
    | zero => simp
    | succ q ih => rw [Nat.add_mul, Nat.one_mul, ← Nat.add_assoc, itN_add, bk]; exact ih
  have red : ∀ x, ∃ y, y < n ∧ itN t.p x (itN t.p n v) = itN t.p y v := fun x => by
    refine ⟨x % (j - i) + (n - (j - i)), ?_, ?_⟩
    · have := Nat.mod_lt x (show 0 < j - i by omega); omega
    · rw [itN_add (j := n - (j - i)), ← e1, ← per (x / (j - i)) (x % (j - i)), Nat.mod_add_div' x (j - i)]
  refine ⟨j - i, by omega, by omega, bk, fun x => ?_, fun x => ?_⟩
  · obtain ⟨y, y1, y2⟩ := red x
    rw [y2]
    have := (back_ok hn I hv hR y (by omega)).1
    exact I.has _ (by omega)
  · obtain ⟨y, y1, y2⟩ := red x
    rw [y2]
    exact (back_ok hn I hv hR y (by omega)).2
/-- what ring_behind collects, after its first index -/
def ringL (p : List (Option Ed)) (m : Nat) : Nat → Nat → List Nat
  | 0, _ => []
  | f + 1, v => if v = m then [] else ix p v :: ringL p m f (nx p v)
def ringF (p : List (Option Ed)) (m n : Nat) : List Nat := (ix p m :: ringL p m n (nx p m)).reverse
def walkL (p : List (Option Ed)) (m : Nat) (d : Nat) : List Nat := (List.range d).map fun j => ix p (itN p j m)
theorem walkL_succ {p : List (Option Ed)} {m d : Nat} : walkL p m (d + 1) = walkL p m d ++ [ix p (itN p d m)] := by unfold walkL; rw [List.range_succ, List.map_append]; rfl
theorem ringL_eq {p : List (Option Ed)} {n m d : Nat} (C : Cyc p n m d) : ∀ (f j : Nat), d - j ≤ f → j ≤ d → 0 < j → ∃ d', 0 < d' ∧ d' ≤ d ∧ itN p d' m = m ∧ walkL p m j ++ ringL p m f (itN p j m) = walkL p m d'
  | 0, j, hf, hj, j0 => by
    have : j = d := by omega
    subst this
    exact ⟨j, j0, Nat.le_refl _, C.back, by simp [ringL]⟩
  | f + 1, j, hf, hj, j0 => by
    unfold ringL
    by_cases h : itN p j m = m
    · rw [if_pos h]; exact ⟨j, j0, hj, h, by rw [List.append_nil]⟩
    · rw [if_neg h]
      have hne : j ≠ d := fun e => h (by rw [e]; exact C.back)
      obtain ⟨d', h1, h2, h3, h4⟩ := ringL_eq C f (j + 1) (by omega) (by omega) (by omega)
      exact ⟨d', h1, h2, h3, by rw [← h4, walkL_succ, List.append_assoc]; rfl⟩
theorem ringF_eq {p : List (Option Ed)} {n m d : Nat} (C : Cyc p n m d) : ∃ d', 0 < d' ∧ d' ≤ n ∧ itN p d' m = m ∧ ringF p m n = (walkL p m d').reverse := by
  obtain ⟨d', h1, h2, h3, h4⟩ := ringL_eq C n 1 (by have := C.dn; omega) C.d0 (by omega)
  exact ⟨d', h1, Nat.le_trans h2 C.dn, h3, by unfold ringF; rw [← h4]; rfl⟩
/-! ### walks over claims -/
def wlk (cls : List Cl) (gone : List Str) : Nat → Rat → List Nat → Option (Nat × Rat)
  | x, z, [] => some (x, z)
  | x, z, k :: ks => match cls[k]? with
    | some c => if liveB gone c = true ∧ c.1 = x then wlk cls gone c.2.1 (z + c.2.2.1) ks else none
    | none => none
theorem ring_walk {n : Nat} {cls : List Cl} {gone : List Str} {C : Nat} {r : Nat} {t : StR} {T R : Nat → Nat} {k : Nat} {es : List Ed} (hes : es = edL C gone 0 cls) (hC : ∀ c ∈ cls, liveB gone c = true → c.2.2.1.den ∣ C) (I : RInv n es r es t T R k) {m d : Nat} (Y : Cyc t.p n m d) : ∀ j z, ∃ (q : Rat) (W : Int) (x y : Int), wlk cls gone (itN t.p j m) z (walkL t.p m j).reverse = some (m, z + q) ∧ ((W : Int) : Rat) = q * ((C : Nat) : Rat) ∧ gO t.s (itN t.p j m) = some x ∧ gO t.s m = some y ∧ x + W ≤ y ∧ (0 < j → x + W < y ∨ T (itN t.p j m) < T m)
  | 0, z => by
    obtain ⟨e, he⟩ := Y.all 0
    obtain ⟨_, _, x, y, h1, h2, _, _⟩ := I.pin _ _ he
    exact ⟨0, 0, y, y, by show some _ = some _; rw [Rat.add_zero]; rfl, by rw [Rat.zero_mul]; rfl, h2, h2, by omega, fun h => absurd h (Nat.lt_irrefl 0)⟩
  | j + 1, z => by
    obtain ⟨e, he⟩ := Y.all j
    obtain ⟨h0, h1, x, y, h2, h3, h4, h5⟩ := I.pin _ _ he
    have e1 : itN t.p (j + 1) m = e.1 := by show nx t.p (itN t.p j m) = _; unfold nx; rw [he]
    have e2 : ix t.p (itN t.p j m) = e.2.2.2 := by unfold ix; rw [he]
    rw [hes] at h0
    obtain ⟨i, c, c1, c2, c3⟩ := edL_mem cls 0 h0
    obtain ⟨q, W, x', y', g1, g2, g3, g4, g5, g6⟩ := ring_walk hes hC I Y j (z + c.2.2.1)
    rw [h3] at g3
    cases g3
    have w1 : e.2.2.1 = c.2.2.1.num * ((C / c.2.2.1.den : Nat) : Int) := by rw [c2]
    refine ⟨c.2.2.1 + q, e.2.2.1 + W, x, y', ?_, ?_, by rw [e1]; exact h2, g4, by omega, fun _ => ?_⟩
    · rw [walkL_succ, List.reverse_append, e1, e2]
      show wlk cls gone e.1 z (e.2.2.2 :: (walkL t.p m j).reverse) = _
      have i1 : e.2.2.2 = i := by rw [c2]; exact Nat.zero_add i
      have i2 : c.1 = e.1 := by rw [c2]
      have i3 : c.2.1 = itN t.p j m := by rw [← h1, c2]
      unfold wlk
      rw [i1, c1]
      simp only [c3, i2, and_self, if_true]
      rw [i3, g1, Rat.add_assoc]
    · rw [Rat.intCast_add, g2, w1, mul_den_int (hC c (List.mem_of_getElem? c1) c3)]; grind
    · rw [e1]
      by_cases j0 : 0 < j
      · rcases h5 with h5 | h5
        · exact .inl (by omega)
        · rcases g6 j0 with g6 | g6
          · exact .inl (by omega)
          · exact .inr (Nat.lt_trans h5 g6)
      · have : j = 0 := by omega
        subst this
        have hm : itN t.p 0 m = m := rfl
        rw [hm] at h3 h5
        rw [g4] at h3
        cases h3
        rcases h5 with h5 | h5
        · exact .inl (by omega)
        · exact .inr h5
/-! ### what settle finds -/
inductive Ans where
  | world (w : List Rat)
  | ring (l : List Nat)
def comC (gone : List Str) (cls : List Cl) : Nat := denL ((cls.filter (liveB gone)).map fun c => c.2.2.1)
def stN (gone : List Str) (cls : List Cl) (n : Nat) : StR := rnds (edL (comC gone cls) gone 0 cls) n (st0 n)
def sumI (t : StR) : List Int := t.s.map fun o => o.getD 0
def setF (n : Nat) (cls : List Cl) (gone : List Str) : Ans := match (stN gone cls n).c with
  | none => .world ((sumI (stN gone cls n)).map fun x => fr (x - ((sumI (stN gone cls n))[0]?).getD 0) (comC gone cls : Nat))
  | some v => .ring (ringF (stN gone cls n).p (itN (stN gone cls n).p n v) n)
def NmZ (s : Str) : Prop := s.length ≤ 40 ∧ PyData.strOk s = true
structure ClOk (N : Nat) (m : Rat) (n : Nat) (c : Cl) : Prop where
  a : c.1 < n
  b : c.2.1 < n
  q : La N m c.2.2.1
  o : NmZ c.2.2.2
def IsWd (n : Nat) (cls : List Cl) (gone : List Str) (w : List Rat) : Prop := w.length = n ∧ w[0]? = some 0 ∧ ∀ c ∈ cls, liveB gone c = true → ∀ x y, w[c.1]? = some x → w[c.2.1]? = some y → y - x ≤ c.2.2.1
def IsRg (n : Nat) (cls : List Cl) (gone : List Str) (l : List Nat) : Prop := l ≠ [] ∧ l.length ≤ n ∧ ∃ x z, z < 0 ∧ (∃ k, l[0]? = some k ∧ ∃ c, cls[k]? = some c ∧ c.1 = x) ∧ wlk cls gone x 0 l = some (x, z)
def AnsOk (n : Nat) (cls : List Cl) (gone : List Str) : Ans → Prop
  | .world w => IsWd n cls gone w
  | .ring l => IsRg n cls gone l
theorem comC_dvd {gone : List Str} {cls : List Cl} {c : Cl} (h : c ∈ cls) (hl : liveB gone c = true) : c.2.2.1.den ∣ comC gone cls :=
  (denL_up _ 1).2 _ (List.mem_map.mpr ⟨c, List.mem_filter.mpr ⟨h, hl⟩, rfl⟩)
theorem com_N {N : Nat} {m : Rat} {n : Nat} {gone : List Str} {cls : List Cl} (h : ∀ c ∈ cls, ClOk N m n c) : comC gone cls ∣ N := denL_dvd fun q hq => by
  obtain ⟨c, hc, rfl⟩ := List.mem_map.mp hq
  exact (h c (List.mem_filter.mp hc).1).q.d
theorem wlk_head {cls : List Cl} {gone : List Str} {x : Nat} {z : Rat} {k : Nat} {ks : List Nat} {r : Nat × Rat} (h : wlk cls gone x z (k :: ks) = some r) : ∃ c, cls[k]? = some c ∧ liveB gone c = true ∧ c.1 = x ∧ wlk cls gone c.2.1 (z + c.2.2.1) ks = some r := by
  unfold wlk at h
  match e : cls[k]? with
  | none => rw [e] at h; cases h
  | some c =>
    rw [e] at h
    simp only at h
    split at h
    · rename_i h2; exact ⟨c, rfl, h2.1, h2.2, h⟩
    · cases h
theorem wt_le {N : Nat} {m : Rat} {C K : Nat} {q : Rat} (h : La N m q) (hC : q.den ∣ C) (hCN : C ∣ N) (hK : m * (N : Rat) ≤ (K : Rat)) : (q.num * ((C / q.den : Nat) : Int)).natAbs ≤ K := by
  have e := mul_den_int hC
  generalize q.num * ((C / q.den : Nat) : Int) = W at *
  have cn : ((C : Nat) : Rat) ≤ ((N : Nat) : Rat) := by exact_mod_cast Nat.le_of_dvd (Nat.pos_of_ne_zero h.n0) hCN
  have c0 : 0 ≤ ((C : Nat) : Rat) := by exact_mod_cast Nat.zero_le C
  have lo := h.lo
  have hi := h.hi
  have m0 := h.m0
  have u1 := Rat.mul_nonneg (show 0 ≤ m - q by grind) c0
  have u2 := Rat.mul_nonneg (show 0 ≤ m + q by grind) c0
  have u3 := Rat.mul_nonneg m0 (show 0 ≤ ((N : Nat) : Rat) - ((C : Nat) : Rat) by grind)
  have v1 : ((W : Int) : Rat) ≤ ((K : Int) : Rat) := by rw [natI]; grind
  have v2 : ((-W : Int) : Rat) ≤ ((K : Int) : Rat) := by rw [natI, Rat.intCast_neg]; grind
  have w1 := Rat.intCast_le_intCast.mp v1
  have w2 := Rat.intCast_le_intCast.mp v2
  omega
theorem stN_ok {N : Nat} {m : Rat} {n K : Nat} {gone : List Str} {cls : List Cl} (h : ∀ c ∈ cls, ClOk N m n c) (n0 : 0 < n) (hK : m * (N : Rat) ≤ (K : Rat)) : ∃ j, j ≤ n ∧ RndOk n K (edL (comC gone cls) gone 0 cls) j (stN gone cls n) ∧ ((stN gone cls n).c ≠ none → j = n) := by
  have hn : ∀ e ∈ edL (comC gone cls) gone 0 cls, e.1 < n ∧ e.2.1 < n := fun e he => by
    obtain ⟨j, c, h1, h2, h3⟩ := edL_mem cls 0 he
    have := h c (List.mem_of_getElem? h1)
    rw [h2]
    exact ⟨this.a, this.b⟩
  have hw : ∀ e ∈ edL (comC gone cls) gone 0 cls, e.2.2.1.natAbs ≤ K := fun e he => by
    obtain ⟨j, c, h1, h2, h3⟩ := edL_mem cls 0 he
    have hc := List.mem_of_getElem? h1
    rw [h2]
    exact wt_le (h c hc).q (comC_dvd hc h3) (com_N h) hK
  obtain ⟨j, h1, h2, h3⟩ := rnds_ok hn hw n 0 (t := st0 n) (by rw [Nat.zero_mul]; exact Full.init) (RI.init n0) (fun h => by cases h)
  exact ⟨j, by omega, h2, fun z => by rw [h3 z]; omega⟩
theorem sumI_of {t : StR} {is : List Int} (h : t.s = is.map some) : sumI t = is := by
  unfold sumI; rw [h, List.map_map]; exact List.map_id is
theorem setF_ok {N : Nat} {m : Rat} {n K : Nat} {gone : List Str} {cls : List Cl} (h : ∀ c ∈ cls, ClOk N m n c) (n0 : 0 < n) (hK : m * (N : Rat) ≤ (K : Rat)) (N0 : N ≠ 0) : AnsOk n cls gone (setF n cls gone) := by
  obtain ⟨j, j1, O, j2⟩ := stN_ok (gone := gone) h n0 hK
  have hn : ∀ e ∈ edL (comC gone cls) gone 0 cls, e.1 < n ∧ e.2.1 < n := fun e he => by
    obtain ⟨j, c, h1, h2, h3⟩ := edL_mem cls 0 he
    have := h c (List.mem_of_getElem? h1)
    rw [h2]
    exact ⟨this.a, this.b⟩
  have C0 : comC gone cls ≠ 0 := fun z => N0 (by have := com_N (gone := gone) h; rw [z] at this; exact Nat.eq_zero_of_zero_dvd this)
  unfold setF
  match hc : (stN gone cls n).c with
  | none =>
    obtain ⟨is, s1, s2, s3⟩ := O.full
    have kept := O.rest hc
    rw [sumI_of s1]
    have Cp : 0 < ((comC gone cls : Nat) : Rat) := by exact_mod_cast Nat.pos_of_ne_zero C0
    have frc : ∀ x : Int, fr x (comC gone cls : Nat) * ((comC gone cls : Nat) : Rat) = (x : Rat) := fun x => by
      have hz : (((comC gone cls : Nat) : Int)) ≠ 0 := by omega
      rw [← natI]
      have h2 : fr ((comC gone cls : Nat) : Int) 1 = (((comC gone cls : Nat) : Int) : Rat) := fr_one _
      have h3 : fr x 1 = ((x : Int) : Rat) := fr_one _
      rw [← h2, ← h3]
      unfold fr
      rw [Rat.divInt_mul_divInt]
      have h4 := Rat.divInt_mul_right (n := x) (d := 1) hz
      rw [Int.mul_one]
      rw [Int.one_mul] at h4
      exact h4
    refine ⟨by rw [List.length_map]; exact s2, ?_, fun c hc1 hl x y hx hy => ?_⟩
    · match e : is, s2 with
      | [], s2 => simp at s2; omega
      | i :: is, _ =>
        show some (fr (i - i) _) = some 0
        rw [Int.sub_self]
        have := frc 0
        have z : ((0 : Int) : Rat) = 0 := rfl
        rw [z] at this
        rcases Rat.mul_eq_zero.mp this with h | h
        · rw [h]
        · exact absurd h (by grind)
    · rw [List.getElem?_map] at hx hy
      obtain ⟨xi, x1, x2⟩ := Option.map_eq_some_iff.mp hx
      obtain ⟨yi, y1, y2⟩ := Option.map_eq_some_iff.mp hy
      generalize (is[0]?).getD 0 = s0 at x2 y2
      obtain ⟨i, hi⟩ := edL_has (C := comC gone cls) cls 0 hc1 hl
      obtain ⟨y', k1, k2⟩ := kept _ hi xi (gO_some (by rw [s1, List.getElem?_map, x1]; rfl))
      have k3 := gO_of k1
      rw [s1, List.getElem?_map, y1] at k3
      cases k3
      have e1 := mul_den_int (comC_dvd hc1 hl)
      have f1 := frc (xi - s0)
      have f2 := frc (yi - s0)
      rw [x2] at f1
      rw [y2] at f2
      have k4 := Rat.intCast_le_intCast.mpr k2
      rw [Rat.intCast_add] at k4
      have k5 : ((c.2.2.1.num * ((comC gone cls / c.2.2.1.den : Nat) : Int) : Int) : Rat) = c.2.2.1 * ((comC gone cls : Nat) : Rat) := e1
      rw [k5] at k4
      rw [Rat.intCast_sub] at f1 f2
      by_cases hcon : y - x ≤ c.2.2.1
      · exact hcon
      · have := Rat.mul_pos (show 0 < y - x - c.2.2.1 by grind) Cp
        grind
  | some v =>
    have jn := j2 (by rw [hc]; exact fun h => by cases h)
    subst jn
    obtain ⟨T, R, k, I⟩ := O.ri
    obtain ⟨hR, hv⟩ := I.chg v hc
    obtain ⟨d, Y⟩ := cyc_of hn I hv hR
    obtain ⟨d', d1, d2, d3, d4⟩ := ringF_eq Y
    obtain ⟨q, W, x, y, g1, g2, g3, g4, g5, g6⟩ := ring_walk rfl (fun c hc hl => comC_dvd hc hl) I Y d' 0
    rw [d3] at g1 g3 g6
    rw [g3] at g4
    cases g4
    have W0 : W < 0 := by
      rcases g6 d1 with g | g
      · omega
      · exact absurd g (Nat.lt_irrefl _)
    have q0 : q < 0 := by
      have Cp : 0 ≤ ((comC gone cls : Nat) : Rat) := by exact_mod_cast Nat.zero_le _
      have := Rat.intCast_lt_intCast.mpr W0
      rw [g2] at this
      by_cases hq : q < 0
      · exact hq
      · have := Rat.mul_nonneg (show 0 ≤ q by grind) Cp
        have z : ((0 : Int) : Rat) = 0 := rfl
        grind
    have ln : (ringF (stN gone cls j).p (itN (stN gone cls j).p j v) j).length = d' := by rw [d4]; simp [walkL]
    show IsRg j cls gone _
    rw [← d4] at g1
    refine ⟨fun z => by rw [z] at ln; simp at ln; omega, by omega, _, 0 + q, by grind, ?_, g1⟩
    match e : ringF (stN gone cls j).p (itN (stN gone cls j).p j v) j, ln, g1 with
    | [], ln, _ => simp at ln; omega
    | k :: ks, _, g1 =>
      obtain ⟨c, c1, c2, c3, _⟩ := wlk_head g1
      exact ⟨k, rfl, c, c1, c3⟩
/-! ### worlds and rings exclude one another -/
def FitC (cls : List Cl) (gone : List Str) : Prop := ∃ w : Nat → Rat, ∀ c ∈ cls, liveB gone c = true → w c.2.1 - w c.1 ≤ c.2.2.1
theorem IsWd.fit {n : Nat} {cls : List Cl} {gone : List Str} {w : List Rat} {N : Nat} {m : Rat} (h : IsWd n cls gone w) (ho : ∀ c ∈ cls, ClOk N m n c) : FitC cls gone :=
  ⟨fun i => (w[i]?).getD 0, fun c hc hl => by
    have h1 := (ho c hc).a
    have h2 := (ho c hc).b
    rw [← h.1] at h1 h2
    have := h.2.2 c hc hl _ _ (List.getElem?_eq_getElem h1) (List.getElem?_eq_getElem h2)
    show (w[c.2.1]?).getD 0 - (w[c.1]?).getD 0 ≤ _
    rw [List.getElem?_eq_getElem h1, List.getElem?_eq_getElem h2]
    exact this⟩
theorem wlk_fit {cls : List Cl} {gone : List Str} {w : Nat → Rat} (hw : ∀ c ∈ cls, liveB gone c = true → w c.2.1 - w c.1 ≤ c.2.2.1) : ∀ (l : List Nat) {x y : Nat} {z z' : Rat}, wlk cls gone x z l = some (y, z') → w y - w x ≤ z' - z
  | [], x, y, z, z', h => by
    unfold wlk at h
    cases h
    grind
  | k :: ks, x, y, z, z', h => by
    obtain ⟨c, h1, h2, rfl, h4⟩ := wlk_head h
    have a1 := wlk_fit hw ks h4
    have a2 := hw c (List.mem_of_getElem? h1) h2
    grind
theorem IsRg.not {n : Nat} {cls : List Cl} {gone : List Str} {l : List Nat} (h : IsRg n cls gone l) : ¬ FitC cls gone := fun ⟨w, hw⟩ => by
  obtain ⟨_, _, x, z, z0, _, h⟩ := h
  have := wlk_fit hw l h
  grind
theorem FitC.mono {cls : List Cl} {g1 g2 : List Str} (h : FitC cls g1) (hs : ∀ o, g1.contains o = true → g2.contains o = true) : FitC cls g2 := by
  obtain ⟨w, hw⟩ := h
  refine ⟨w, fun c hc hl => hw c hc ?_⟩
  unfold liveB at hl ⊢
  cases e : g1.contains c.2.2.2 with
  | false => rfl
  | true => rw [hs _ e] at hl; cases hl
end DL

end
section
set_option Elab.async false
set_option linter.all false
set_option autoImplicit true
set_option maxRecDepth 100000
set_option maxHeartbeats 1000000
/-! k19: rules and promises -/
namespace DL
open PySem L2
open PyProof.Rows hiding St
/-! ### membership of texts -/
section
variable {X : Cx} {n : Nm} {c : Cc} {Γ : SL} {a b e : Expr} {es : List Expr} {kws : List Keyword} {x y z : DL.D} {pos p : Pos} {nm : Str} {k l : AK}
/-! ### boxes: calls with keyword defaults that give one; calls that read one -/
end
section
variable {X : Cx} {n : Nm} {c : Cc} {Γ : SL} {a : Expr} {pos : Pos}
end
/-! ### texts whose signs are known to be signs -/
def SgS (s : Str) : Prop := ∀ z ∈ cL s, z < 1114112
theorem SgS.ok {s : Str} (h : SgS s) : PyData.strOk s = true := by
  unfold PyData.strOk
  rw [Array.all_eq_true']
  intro z hz
  exact decide_eq_true (h z (Array.mem_toList_iff.mpr hz))
theorem SgS.app {a b : Str} (h : SgS a) (h' : SgS b) : SgS (a ++ b) := fun z hz => by
  rw [app_cL] at hz
  rcases List.mem_append.mp hz with hz | hz
  · exact h z hz
  · exact h' z hz
theorem SgS.sub {a b : Str} (h : SgS a) (hs : ∀ z ∈ cL b, z ∈ cL a) : SgS b := fun z hz => h z (hs z hz)
section
variable {X : Cx} {n : Nm} {c : Cc} {Γ : SL} {e : Expr} {pos p p1 : Pos} {nm sn : Str}
/-- a sign drawn out of a text, with its text -/
theorem we_pickStrZ {Post : DL.D → SL → Prop} (hc : CalF X n.k nm ST_pick) (j i : Nat) (h : WE X n c Γ e fun x Γ1 => Γ1 = Γ ∧ ∃ w : Str, x = .str w ∧ 0 < w.length ∧ w.length ≤ 10000 ∧ ∀ ch : Str, ch.length = 1 → (∀ z ∈ cL ch, z ∈ cL w) → Post (.str ch) Γ)
    (hg : Γ[i]? = some (.own .sto) := by rfl) (hi : n.N[i]? = some sn := by rfl) (hv : n.V.contains i = true := by rfl) (hj : n.GN[j]? = some nm := by rfl)
    (he : starEach (.Name sn p1 :: [e]) X.env = (false, eval (.Name sn p1) X.env) :: starEach [e] X.env := by exact se_c rfl) (he2 : starEach [e] X.env = (false, eval e X.env) :: starEach [] X.env := by exact se_c rfl) (hpl : (backTo pos (starEach [e] X.env)).any (·.1) = false := by exact se_any rfl) : WE X n c Γ (.Call (.Name nm p) [.Name sn p1, e] [] pos) Post :=
  we_pickK hc j i (wk_v (h.mono fun x Γ1 ⟨e1, w, e2, h0, h1, hp⟩ => by
    subst e1 e2
    refine ⟨rfl, by simp [readIx], .str w, w.length, rfl, rfl, rfl, fun z hz => (by cases hz; rw [sizeLine_eq]; omega), h0, by omega, fun k hk => ?_, fun k y hk hy => ?_⟩
    · obtain ⟨ch, h2, _⟩ := str_at hk (by rw [sizeLine_eq]; omega)
      exact ⟨_, h2⟩
    · obtain ⟨z, h2, h3⟩ := str_at' hk (by rw [sizeLine_eq]; omega)
      rw [h3] at hy; cases hy
      refine hp ⟨#[z]⟩ rfl fun y hy => ?_
      have : y = z := by simpa [cL] using hy
      rw [this]; exact List.mem_of_getElem? h2)) hg hi hv hj he he2 hpl
end
theorem cutS_upto {z : Str} {k : Nat} (h : k ≤ z.length) : (cutS z none (some (k : Int))).length = k := by
  have e0 : HT.sIx z.length 0 none = 0 := rfl
  have e1 : HT.sIx z.length z.length (some (k : Int)) = k := by
    unfold HT.sIx
    simp only
    split <;> omega
  show (Array.size _) = k
  unfold cutS
  rw [e0, e1, List.size_toArray, List.length_take, List.length_drop, Array.length_toList]
  have : z.cps.size = z.length := rfl
  omega
/-! ### data -/
def nsD (l : List Nat) : List DL.D := l.map fun (k : Nat) => DL.D.int (k : Int)
def Ans.nm : Ans → Str
  | .world _ => "world"
  | .ring _ => "ring"
def Ans.ds : Ans → List DL.D
  | .world w => w.map qD
  | .ring l => nsD l
def NN : Nat := 9702000
def MM : Rat := ((2 ^ 45 : Nat) : Rat)
def KN : Nat := 2 ^ 69
theorem NN0 : NN ≠ 0 := by decide
theorem mmnn : MM * ((NN : Nat) : Rat) ≤ ((KN : Nat) : Rat) := by decide +kernel
abbrev CO (n : Nat) (c : Cl) : Prop := ClOk NN MM n c
structure CsOk (n : Nat) (cls : List Cl) : Prop where
  n0 : 0 < n
  n1 : n ≤ 17
  ln : cls.length ≤ 42
  ok : ∀ c ∈ cls, CO n c
theorem CsOk.ans {n : Nat} {cls : List Cl} {gone : List Str} (h : CsOk n cls) : AnsOk n cls gone (setF n cls gone) := setF_ok h.ok h.n0 mmnn NN0
theorem CsOk.sums {n : Nat} {cls : List Cl} {gone : List Str} (h : CsOk n cls) : ∃ is : List Int, (stN gone cls n).s = is.map some ∧ is.length = n ∧ ∀ x ∈ is, x.natAbs < 2 ^ 90 := by
  obtain ⟨j, j1, O, _⟩ := stN_ok (gone := gone) h.ok h.n0 mmnn
  obtain ⟨is, h1, h2, h3⟩ := O.full
  refine ⟨is, h1, h2, fun x hx => Nat.lt_of_le_of_lt (h3 x hx) ?_⟩
  have e1 : (edL (comC gone cls) gone 0 cls).length ≤ 42 := Nat.le_trans (edL_len _ _) h.ln
  have e2 : j * ((edL (comC gone cls) gone 0 cls).length * KN) ≤ 17 * (42 * KN) := Nat.mul_le_mul (Nat.le_trans j1 h.n1) (Nat.mul_le_mul_right _ e1)
  exact Nat.lt_of_le_of_lt e2 (by decide)
theorem rlx_len {t : StR} {e : Ed} : (rlxE t e).s.length = t.s.length ∧ (rlxE t e).p.length = t.p.length := by
  unfold rlxE
  split
  · exact ⟨rfl, rfl⟩
  · split
    · exact ⟨List.length_set, List.length_set⟩
    · exact ⟨rfl, rfl⟩
theorem fold_len : ∀ (es : List Ed) {t : StR}, (es.foldl rlxE t).s.length = t.s.length ∧ (es.foldl rlxE t).p.length = t.p.length
  | [], _ => ⟨rfl, rfl⟩
  | e :: es, t => by
    obtain ⟨h1, h2⟩ := fold_len es (t := rlxE t e)
    obtain ⟨h3, h4⟩ := rlx_len (t := t) (e := e)
    exact ⟨h1.trans h3, h2.trans h4⟩
theorem rnd_len {es : List Ed} {t : StR} : (rnd es t).s.length = t.s.length ∧ (rnd es t).p.length = t.p.length := fold_len es
theorem rnds_succ {es : List Ed} {k : Nat} {t : StR} : rnds es (k + 1) t = if (rnd es t).c = none then rnd es t else rnds es k (rnd es t) := rfl
/-! ### what is shown -/
theorem It.str {B : Nat} {s : Str} {m : Nat} (h : s.length ≤ m) (h2 : PyData.strOk s = true) : It B 0 (m + 1) (.str s) := by
  refine ⟨by simp [DL.D.pd, PyData.canLay0, h2], by simp [DL.D.pd, PyData.showable], by simp [DL.D.pd, PyData.intsShort], by simp [DL.D.pd, PyData.depth], ?_⟩
  have h : s.cps.size ≤ m := h
  simp only [DL.D.pd, PyData.weight]
  omega
theorem Sz.it {q : Rat} (h : Sz 25 q) : It 208 1 404 (qD q) := It.q (k := 25) h (by decide) (by decide)
def GoneOk (gone : List Str) : Prop := gone.length ≤ 100 ∧ ∀ g ∈ gone, PyData.strOk g = true
/-! ### promises -/
structure OwnersOk (owners : List Str) : Prop where
  ln : owners.length ≤ 20
  sz : ∀ s ∈ owners, NmZ s
structure ClN (owners : List Str) (n : Nat) (cls : List Cl) : Prop where
  n0 : 0 < n
  n1 : n ≤ 17
  ln : cls.length ≤ 40
  ok : ∀ c ∈ cls, c.1 < n ∧ c.2.1 < n ∧ La (27720 * 7) ((2 ^ 40 : Nat) : Rat) c.2.2.1 ∧ (c.2.2.2 ∈ owners ∨ c.2.2.2 = "")
theorem ClN.cs {owners : List Str} {n : Nat} {cls : List Cl} (h : ClN owners n cls) (ho : OwnersOk owners) : CsOk n cls := ⟨h.n0, h.n1, Nat.le_trans h.ln (by decide), fun c hc => by
  obtain ⟨h1, h2, h3, h4⟩ := h.ok c hc
  refine ⟨h1, h2, h3.mono (by decide) NN0 (by decide +kernel), ?_⟩
  rcases h4 with h4 | h4
  · exact ho.sz _ h4
  · rw [h4]; exact ⟨Nat.le_of_ble_eq_true rfl, by decide +kernel⟩⟩
/-- two further claims of o that make a ring -/
structure Two (n : Nat) (o : Str) (cls l2 : List Cl) : Prop where
  ln : l2.length = cls.length + 2
  ex : ∃ (x y : Nat) (q r : Rat), x < n ∧ y < n ∧ q < r ∧ La NN MM q ∧ La NN MM r ∧ ∀ c, c ∈ l2 ↔ c = (y, x, 0 - r, o) ∨ c = (x, y, q, o) ∨ c ∈ cls
theorem La.neg0 {N : Nat} {m q : Rat} (h : La N m q) : La N m (0 - q) := by
  rw [show (0 : Rat) - q = -q by grind]; exact h.neg
theorem Two.cs {n : Nat} {o : Str} {cls l2 : List Cl} (h : Two n o cls l2) (hc : CsOk n cls) (hl : cls.length ≤ 40) (ho : NmZ o) : CsOk n l2 := by
  obtain ⟨x, y, q, r, h1, h2, h3, h4, h5, h6⟩ := h.ex
  refine ⟨hc.n0, hc.n1, by rw [h.ln]; omega, fun c h => ?_⟩
  rcases (h6 c).mp h with rfl | rfl | h
  · exact ⟨h2, h1, h5.neg0, ho⟩
  · exact ⟨h1, h2, h4, ho⟩
  · exact hc.ok c h
theorem Two.ring {n : Nat} {o : Str} {cls l2 : List Cl} (h : Two n o cls l2) {gone : List Str} (hg : gone.contains o = false) : ¬ FitC l2 gone := fun ⟨w, hw⟩ => by
  obtain ⟨x, y, q, r, h1, h2, h3, h4, h5, h6⟩ := h.ex
  have lv : ∀ a b z, liveB gone ((a, b, z, o) : Cl) = true := fun a b z => by unfold liveB; rw [hg]; rfl
  have a1 := hw _ ((h6 _).mpr (.inl rfl)) (lv _ _ _)
  have a2 := hw _ ((h6 _).mpr (.inr (.inl rfl))) (lv _ _ _)
  simp only at a1 a2
  grind
theorem Two.same {n : Nat} {o : Str} {cls l2 : List Cl} (h : Two n o cls l2) {gone : List Str} (hc : ∀ c ∈ cls, c.2.2.2 ≠ o) : FitC l2 (gone ++ [o]) ↔ FitC cls gone := by
  obtain ⟨x, y, q, r, h1, h2, h3, h4, h5, h6⟩ := h.ex
  have lo : ∀ a b z, liveB (gone ++ [o]) ((a, b, z, o) : Cl) = false := fun a b z => by unfold liveB; simp
  have lc : ∀ c ∈ cls, liveB (gone ++ [o]) c = liveB gone c := fun c hcc => by
    unfold liveB
    have := hc c hcc
    simp [this]
  constructor
  · rintro ⟨w, hw⟩
    exact ⟨w, fun c hcc hl => hw c ((h6 c).mpr (.inr (.inr hcc))) (by rw [lc c hcc]; exact hl)⟩
  · rintro ⟨w, hw⟩
    refine ⟨w, fun c hcc hl => ?_⟩
    rcases (h6 c).mp hcc with rfl | rfl | h
    · rw [lo] at hl; cases hl
    · rw [lo] at hl; cases hl
    · exact hw c h (by rw [← lc c h]; exact hl)
/-- the kind tells whether a world fits -/
theorem CsOk.nm {n : Nat} {cls : List Cl} {gone : List Str} (h : CsOk n cls) : (FitC cls gone → (setF n cls gone).nm = "world") ∧ (¬ FitC cls gone → (setF n cls gone).nm = "ring") := by
  have z := h.ans (gone := gone)
  match setF n cls gone, z with
  | .world w, z => exact ⟨fun _ => rfl, fun h2 => absurd (z.fit h.ok) h2⟩
  | .ring l, z => exact ⟨fun h2 => absurd h2 z.not, fun _ => rfl⟩
/-! ### fractions as they are drawn -/
end DL

end
section
set_option Elab.async false
set_option linter.all false
set_option autoImplicit true
set_option maxRecDepth 100000
set_option maxHeartbeats 1000000
/-! bounds: least sums from a moment, ways back, two scales at once: the plain law -/
namespace DL
open PySem L2
open PyProof.Rows hiding St
/-! ### rounds from any state -/
/-! ### from one moment -/
def stS (n v : Nat) : StR := ⟨(List.replicate n none).set v (some 0), List.replicate n none, some v⟩
/-- what stands in a state that begins at st, w a world -/
structure Src (C : Nat) (w : Nat → Rat) (n st : Nat) (t : StR) : Prop where
  ls : t.s.length = n
  lp : t.p.length = n
  zero : gO t.s st = some 0
  np : gO t.p st = none
  ptr : ∀ u x, gO t.s u = some x → u = st ∨ ∃ e, gO t.p u = some e
  low : ∀ u x, gO t.s u = some x → ((C : Nat) : Rat) * (w u - w st) ≤ ((x : Int) : Rat)
theorem Src.init {C : Nat} {w : Nat → Rat} {n st : Nat} (h : st < n) : Src C w n st (stS n st) := by
  have e : ∀ u, gO (stS n st).s u = if u = st then some 0 else none := fun u => by
    show gO ((List.replicate n none).set st (some 0)) u = _
    rw [gO_set (by simpa using h)]
    by_cases hu : u = st
    · rw [if_pos hu, if_pos hu]
    · rw [if_neg hu, if_neg hu]; exact gO_rep
  refine ⟨by simp [stS], List.length_replicate, by rw [e, if_pos rfl], gO_rep, fun u x hu => ?_, fun u x hu => ?_⟩
  · rw [e] at hu
    by_cases h2 : u = st
    · exact .inl h2
    · rw [if_neg h2] at hu; cases hu
  · rw [e] at hu
    by_cases h2 : u = st
    · rw [if_pos h2] at hu
      cases hu
      rw [h2]
      have z : ((0 : Int) : Rat) = 0 := rfl
      rw [z]; grind
    · rw [if_neg h2] at hu; cases hu
theorem Src.step {C : Nat} {w : Nat → Rat} {n st : Nat} {t : StR} (S : Src C w n st t) {e : Ed} (hb : e.2.1 < n) (he : ((C : Nat) : Rat) * (w e.2.1 - w e.1) ≤ ((e.2.2.1 : Int) : Rat)) : Src C w n st (rlxE t e) := by
  unfold rlxE
  match hx : gO t.s e.1 with
  | none => exact S
  | some x =>
    by_cases hl : lowB (x + e.2.2.1) (gO t.s e.2.1) = true
    · simp only [hl, if_true]
      have lb : e.2.1 < t.s.length := by rw [S.ls]; exact hb
      have lpb : e.2.1 < t.p.length := by rw [S.lp]; exact hb
      have lx := S.low _ _ hx
      have key : ((C : Nat) : Rat) * (w e.2.1 - w st) ≤ ((x + e.2.2.1 : Int) : Rat) := by
        rw [Rat.intCast_add]; grind
      have hne : st ≠ e.2.1 := fun z => by
        rw [← z, S.zero] at hl
        have h1 := of_decide_eq_true hl
        have h2 := Rat.intCast_lt_intCast.mpr h1
        rw [← z] at key
        have z0 : ((0 : Int) : Rat) = 0 := rfl
        grind
      refine ⟨by rw [List.length_set]; exact S.ls, by rw [List.length_set]; exact S.lp, by rw [gO_set lb, if_neg hne]; exact S.zero, by rw [gO_set lpb, if_neg hne]; exact S.np, fun u y hu => ?_, fun u y hu => ?_⟩
      · simp only [gO_set lb] at hu
        simp only [gO_set lpb]
        by_cases h2 : u = e.2.1
        · rw [if_pos h2]; exact .inr ⟨_, rfl⟩
        · rw [if_neg h2] at hu ⊢; exact S.ptr u y hu
      · simp only [gO_set lb] at hu
        by_cases h2 : u = e.2.1
        · rw [if_pos h2] at hu; cases hu; rw [h2]; exact key
        · rw [if_neg h2] at hu; exact S.low u y hu
    · simp only [hl]; exact S
theorem Src.steps {C : Nat} {w : Nat → Rat} {n st : Nat} : ∀ (es : List Ed) {t : StR}, Src C w n st t → (∀ e ∈ es, e.2.1 < n ∧ ((C : Nat) : Rat) * (w e.2.1 - w e.1) ≤ ((e.2.2.1 : Int) : Rat)) → Src C w n st (es.foldl rlxE t)
  | [], t, S, _ => S
  | e :: es, t, S, h => Src.steps es (S.step (h e List.mem_cons_self).1 (h e List.mem_cons_self).2) fun d hd => h d (List.mem_cons_of_mem _ hd)
theorem Src.c {C : Nat} {w : Nat → Rat} {n st : Nat} {t : StR} (S : Src C w n st t) {c : Option Nat} : Src C w n st { t with c := c } := ⟨S.ls, S.lp, S.zero, S.np, S.ptr, S.low⟩
theorem Src.rnds {C : Nat} {w : Nat → Rat} {n st : Nat} {es : List Ed} (h : ∀ e ∈ es, e.2.1 < n ∧ ((C : Nat) : Rat) * (w e.2.1 - w e.1) ≤ ((e.2.2.1 : Int) : Rat)) : ∀ (k : Nat) {t : StR}, Src C w n st t → Src C w n st (rnds es k t)
  | 0, t, S => S
  | k + 1, t, S => by
    have S1 : Src C w n st (rnd es t) := Src.steps es S.c h
    rw [rnds_succ]
    split
    · exact S1
    · exact Src.rnds h k S1
/-! ### the ways back -/
/-! ### least sums -/
/-! ### two scales at once -/
def SimO (C S : Nat) : Option Int → Option Int → Prop
  | none, none => True
  | some x, some y => x * (S : Int) = y * (C : Int)
  | _, _ => False
structure Sim (C S : Nat) (t u : StR) : Prop where
  ls : t.s.length = u.s.length
  s : ∀ v, SimO C S (gO t.s v) (gO u.s v)
  c : t.c = u.c
def SimE (C S : Nat) (e d : Ed) : Prop := e.1 = d.1 ∧ e.2.1 = d.2.1 ∧ e.2.2.1 * (S : Int) = d.2.2.1 * (C : Int)
theorem sim_low {C S : Nat} (C0 : 0 < C) (S0 : 0 < S) {r r' : Int} (h : r * (S : Int) = r' * (C : Int)) {o o' : Option Int} (ho : SimO C S o o') : lowB r o = lowB r' o' := by
  match o, o', ho with
  | none, none, _ => rfl
  | some x, some y, ho =>
    have ho : x * (S : Int) = y * (C : Int) := ho
    show decide (r < x) = decide (r' < y)
    have hS : (0 : Int) < S := by omega
    have hC : (0 : Int) < C := by omega
    have h1 : r < x ↔ r * (S : Int) < x * (S : Int) := (Int.mul_lt_mul_right hS).symm
    have h2 : r' < y ↔ r' * (C : Int) < y * (C : Int) := (Int.mul_lt_mul_right hC).symm
    rw [decide_eq_decide, h1, h2, h, ho]
theorem Sim.step {C S : Nat} (C0 : 0 < C) (S0 : 0 < S) {t u : StR} (h : Sim C S t u) {e d : Ed} (he : SimE C S e d) (hb : e.2.1 < t.s.length) : Sim C S (rlxE t e) (rlxE u d) := by
  obtain ⟨h1, h2, h3⟩ := he
  unfold rlxE
  rw [← h1, ← h2]
  have sa := h.s e.1
  have sb := h.s e.2.1
  match ex : gO t.s e.1, ey : gO u.s e.1, sa with
  | none, none, _ => exact h
  | some x, some y, sa =>
    have sa : x * (S : Int) = y * (C : Int) := sa
    have er : (x + e.2.2.1) * (S : Int) = (y + d.2.2.1) * (C : Int) := by rw [Int.add_mul, Int.add_mul, sa, h3]
    have el := sim_low C0 S0 er sb
    simp only [← el]
    by_cases hl : lowB (x + e.2.2.1) (gO t.s e.2.1) = true
    · simp only [hl, if_true]
      refine ⟨by rw [List.length_set, List.length_set]; exact h.ls, fun v => ?_, rfl⟩
      simp only [gO_set hb, gO_set (show e.2.1 < u.s.length by rw [← h.ls]; exact hb)]
      by_cases hv : v = e.2.1
      · rw [if_pos hv, if_pos hv]; exact er
      · rw [if_neg hv, if_neg hv]; exact h.s v
    · simp only [hl]; exact h
def AllS (C S : Nat) : List Ed → List Ed → Prop
  | [], [] => True
  | e :: es, d :: ds => SimE C S e d ∧ AllS C S es ds
  | _, _ => False
theorem AllS.app {C S : Nat} : ∀ {es ds es' ds' : List Ed}, AllS C S es ds → AllS C S es' ds' → AllS C S (es ++ es') (ds ++ ds')
  | [], [], _, _, _, h => h
  | e :: es, d :: ds, _, _, h, h' => ⟨h.1, AllS.app h.2 h'⟩
theorem Sim.steps {C S : Nat} (C0 : 0 < C) (S0 : 0 < S) {n : Nat} : ∀ {es ds : List Ed} {t u : StR}, Sim C S t u → t.s.length = n → AllS C S es ds → (∀ e ∈ es, e.2.1 < n) → Sim C S (es.foldl rlxE t) (ds.foldl rlxE u)
  | [], [], t, u, h, _, _, _ => h
  | e :: es, d :: ds, t, u, h, hl, hf, hb => by
    have hb1 := hb e List.mem_cons_self
    have h1 := h.step C0 S0 hf.1 (show e.2.1 < t.s.length by omega)
    exact Sim.steps (es := es) (ds := ds) (t := rlxE t e) (u := rlxE u d) C0 S0 h1 (by rw [rlx_len.1]; exact hl) hf.2 fun x hx => hb x (List.mem_cons_of_mem _ hx)
  | [], _ :: _, _, _, _, _, h, _ => h.elim
  | _ :: _, [], _, _, _, _, h, _ => h.elim
theorem Sim.rnd {C S : Nat} (C0 : 0 < C) (S0 : 0 < S) {n : Nat} {es ds : List Ed} {t u : StR} (h : Sim C S t u) (hl : t.s.length = n) (hf : AllS C S es ds) (hb : ∀ e ∈ es, e.2.1 < n) : Sim C S (rnd es t) (rnd ds u) := Sim.steps C0 S0 (t := { t with c := none }) (u := { u with c := none }) ⟨h.ls, h.s, rfl⟩ hl hf hb
theorem Sim.rnds {C S : Nat} (C0 : 0 < C) (S0 : 0 < S) {n : Nat} {es ds : List Ed} (hf : AllS C S es ds) (hb : ∀ e ∈ es, e.2.1 < n) : ∀ (k : Nat) {t u : StR}, Sim C S t u → t.s.length = n → Sim C S (rnds es k t) (rnds ds k u)
  | 0, _, _, h, _ => h
  | k + 1, t, u, h, hl => by
    have h1 := h.rnd C0 S0 hl hf hb
    rw [rnds_succ, rnds_succ, ← h1.c]
    split
    · exact h1
    · exact Sim.rnds C0 S0 hf hb k h1 (by rw [rnd_len.1]; exact hl)
/-! ### rounds that never stop -/
def itR (es : List Ed) : Nat → StR → StR
  | 0, t => t
  | k + 1, t => itR es k (DL.rnd es t)
/-! ### what the law's own passes find -/
end DL

end
section
set_option Elab.async false
set_option linter.all false
set_option autoImplicit true
set_option maxRecDepth 100000
set_option maxHeartbeats 1000000
/-! errors that keep a copy of a list; bounds: promises -/
namespace DL
open PySem L2 NdefX
open PyProof.Rows hiding St
/-! ### an own error whose __init__ keeps list(y) -/
section
variable {P : Program} {w : World} {K : PySem.W.Frag} {mg : Str → Option Value} {base : Heap}
end
section
variable {X : Cx} {n : Nm} {c : Cc} {Γ : SL} {e : Expr} {pos p pos2 : Pos} {nm : Str}
end
/-! ### bounds: promises -/
/-- bounds of the sums -/
def Bnd (M : Nat) (t : StR) : Prop := ∀ v x, gO t.s v = some x → x.natAbs ≤ M
theorem Bnd.step {M W : Nat} {t : StR} {e : Ed} (h : Bnd M t) (hw : e.2.2.1.natAbs ≤ W) (hb : e.2.1 < t.s.length) : Bnd (M + W) (rlxE t e) := by
  have keep : Bnd (M + W) t := fun v x hx => by have := h v x hx; omega
  unfold rlxE
  match hx : gO t.s e.1 with
  | none => exact keep
  | some x =>
    by_cases hl : lowB (x + e.2.2.1) (gO t.s e.2.1) = true
    · simp only [hl, if_true]
      intro v y hy
      simp only [gO_set hb] at hy
      by_cases hv : v = e.2.1
      · rw [if_pos hv] at hy; cases hy
        have := h _ _ hx
        omega
      · rw [if_neg hv] at hy
        have := h _ _ hy
        omega
    · simp only [hl]; exact keep
theorem Bnd.steps {W n : Nat} : ∀ (es : List Ed) {M : Nat} {t : StR}, Bnd M t → t.s.length = n → (∀ e ∈ es, e.2.2.1.natAbs ≤ W ∧ e.2.1 < n) → Bnd (M + es.length * W) (es.foldl rlxE t)
  | [], M, t, h, _, _ => by simpa using h
  | e :: es, M, t, h, hl, hw => by
    have he := hw e List.mem_cons_self
    have := Bnd.steps es (h.step he.1 (by rw [hl]; exact he.2)) (by rw [rlx_len.1]; exact hl) fun d hd => hw d (List.mem_cons_of_mem _ hd)
    rw [List.length_cons, Nat.add_mul, Nat.one_mul, Nat.add_comm (es.length * W) W, ← Nat.add_assoc]
    exact this
theorem Bnd.rounds {W n : Nat} {es : List Ed} (hw : ∀ e ∈ es, e.2.2.1.natAbs ≤ W ∧ e.2.1 < n) : ∀ (k : Nat) {M : Nat} {t : StR}, Bnd M t → t.s.length = n → Bnd (M + k * (es.length * W)) (itR es k t)
  | 0, M, t, h, _ => by simpa [itR] using h
  | k + 1, M, t, h, hl => by
    have h1 : Bnd (M + es.length * W) (DL.rnd es t) := Bnd.steps es (t := { t with c := none }) h hl hw
    have := Bnd.rounds hw k h1 (by rw [rnd_len.1]; exact hl)
    rw [Nat.add_mul, Nat.one_mul, Nat.add_comm (k * _), ← Nat.add_assoc]
    exact this
end DL

end
section
set_option Elab.async false
set_option linter.all false
set_option autoImplicit true
set_option maxRecDepth 100000
set_option maxHeartbeats 1000000
/-! chained comparisons; sums of ways, spans: promises -/
namespace DL
open PySem L2
open PyProof.Rows hiding St
section
variable {X : Cx} {n : Nm} {c : Cc} {Γ : SL} {a b e : Expr} {pos : Pos} {i j k : Int}
end
/-! ### sums of ways -/
end DL

end
section
set_option Elab.async false
set_option linter.all false
set_option autoImplicit true
set_option maxRecDepth 100000
set_option maxHeartbeats 1000000
/-! a dict that is walked itself: it is locked for that time -/
namespace DL
open PySem L2
open PyProof.Rows hiding St
/-- the context while the dict at d is locked -/
def lkC (c : Cc) (d : Addr) (u : HO) : Cc := { c with H0 := upd c.H0 d u, xw := fun _ _ _ => False }
section
variable {K : PySem.W.Frag} {c : Cc} {Γ : SL} {σ : L2.St} {R H R' H' : Hp}
end
theorem NOk.lk {X : Cx} {n : Nm} {c : Cc} (hn : NOk X n c) (d : Addr) (u : HO) : NOk X n (lkC c d u) := ⟨hn.eq, hn.nd, hn.vis, hn.loc, hn.dbg, hn.gl, hn.kind, hn.scp, hn.calm, hn.room, hn.po, hn.lc, hn.oi, hn.cm, takes_no rfl, hn.fr⟩
section
variable {X : Cx} {n : Nm} {c : Cc} {Γ : SL} {De : DE} {nm nm0 : Str} {pos p : Pos} {b : Expr} {x : DL.D}
end
section
variable {K : PySem.W.Frag} {c : Cc} {Γ : SL} {σ : L2.St} {R H : Hp}
end
section
variable {X : Cx} {n n' : Nm} {c : Cc} {Γ : SL} {nm nm0 : Str} {pos p : Pos} {elt : Expr} {scope : Scope}
end
end DL

end
section
set_option Elab.async false
set_option linter.all false
set_option autoImplicit true
set_option maxRecDepth 100000
set_option maxHeartbeats 1000000
/-! how often each claim of a way is used -/
namespace DL
open PySem L2
open PyProof.Rows hiding St
abbrev Us := List (Nat × Nat)
def sumU (f : Nat → Rat) : Us → Rat
  | [] => 0
  | p :: ps => ((p.2 : Nat) : Rat) * f p.1 + sumU f ps
def sumF (f : Nat → Rat) : List Nat → Rat
  | [] => 0
  | k :: ks => f k + sumF f ks
/-- us tells how often each index stands in l -/
structure UsOk (l : List Nat) (us : Us) : Prop where
  nd : (us.map (·.1)).Nodup
  sum : ∀ f, sumU f us = sumF f l
  key : ∀ p ∈ us, p.1 ∈ l
  ln : us.length ≤ l.length
  ct : ∀ p ∈ us, p.2 ≤ l.length
theorem UsOk.nil : UsOk [] [] := ⟨List.nodup_nil, fun _ => rfl, fun p h => (by cases h), Nat.le_refl _, fun p h => (by cases h)⟩
end DL

end
section
set_option Elab.async false
set_option linter.all false
set_option autoImplicit true
set_option maxRecDepth 100000
set_option maxHeartbeats 1000000
/-! in an except suite: lists walked, pairs stored; texts compared; things spread in a display; a list out of a box -/
namespace DL
open PySem L2
open PyProof.Rows hiding St
section
variable {prog : Program} {w : World} {A : Around} {E : Value → Shared → Prop} {s : Shared}
end
section
variable {X : Cx} {n : Nm} {c : Cc} {Γ : SL} {e a b : Expr} {x y z : DL.D} {pos p : Pos} {nm : Str} {es : List Expr} {k l : AK} {De : DE} {S : Sg}
/-! ### texts compared -/
/-! ### spread -/
theorem AksOk.append {K : PySem.W.Frag} {R : Hp} {σ : L2.St} : ∀ {ks ls : List AK} {vs ws : List V}, AksOk K R σ ks vs → AksOk K R σ ls ws → AksOk K R σ (ks ++ ls) (vs ++ ws)
  | [], _, _, _, h, h' => by cases (show _ = _ from h); exact h'
  | k :: ks, _, _, _, ⟨v, us, h1, h2, h3⟩, h' => by subst h1; exact ⟨v, _, rfl, h2, AksOk.append h3 h'⟩
end
end DL

end
section
set_option Elab.async false
set_option linter.all false
set_option autoImplicit true
set_option maxRecDepth 100000
set_option maxHeartbeats 1000000
/-! a world through a time; sets of names; promises of k66 and its kin -/
namespace DL
open PySem L2
open PyProof.Rows hiding St
/-! ### a narrowest span is tight -/
/-! ### sets of names -/
/-! ### promises -/
/-- the names that a scene draws -/
structure NsOk (ns : List Str) : Prop where
  l0 : 1 ≤ ns.length
  l1 : ns.length ≤ 4
  sz : ∀ s ∈ ns, s ≠ "" ∧ NmZ s
structure ScW (ns : List Str) (n : Nat) (cls : List Cl) : Prop where
  n0 : 0 < n
  n1 : n ≤ 9
  ln : cls.length ≤ 24
  ok : ∀ c ∈ cls, c.1 < n ∧ c.2.1 < n ∧ La 27720 ((2 ^ 34 : Nat) : Rat) c.2.2.1 ∧ (c.2.2.2 ∈ ns ∨ c.2.2.2 = "")
theorem ScW.cs {ns : List Str} {n : Nat} {cls : List Cl} (h : ScW ns n cls) (hn : NsOk ns) : CsOk n cls := ⟨h.n0, Nat.le_trans h.n1 (by decide), Nat.le_trans h.ln (by decide), fun c hc => by
  obtain ⟨h1, h2, h3, h4⟩ := h.ok c hc
  refine ⟨h1, h2, h3.mono (by decide) NN0 (by decide +kernel), ?_⟩
  rcases h4 with h4 | h4
  · exact (hn.sz _ h4).2
  · rw [h4]; exact ⟨Nat.le_of_ble_eq_true rfl, by decide +kernel⟩⟩
/-- liars that are passed -/
structure GnOk (ns : List Str) (gone : List Str) : Prop where
  mem : ∀ s ∈ gone, s ∈ ns
  ln : gone.length ≤ 6
theorem GnOk.go {ns gone : List Str} (h : GnOk ns gone) (hn : NsOk ns) : GoneOk gone := ⟨Nat.le_trans h.ln (by decide), fun g hg => (hn.sz g (h.mem g hg)).2.2⟩
theorem GnOk.ne {ns gone : List Str} (h : GnOk ns gone) (hn : NsOk ns) : gone.contains "" = false := by
  rw [List.contains_eq_mem]
  exact decide_eq_false fun hg => (hn.sz _ (h.mem _ hg)).1 rfl
section
variable {X : Cx} {n : Nm} {c : Cc} {Γ : SL} {e a b d : Expr} {x y z : DL.D} {pos p : Pos} {nm : Str} {De : DE}
end
end DL

end
section
set_option Elab.async false
set_option linter.all false
set_option autoImplicit true
set_option maxRecDepth 100000
set_option maxHeartbeats 1000000
/-! f([xs, y]) with an own list xs: what f gives may lean on xs as it is now -/
namespace DL
open PySem L2
open PyProof.Rows hiding St
section
variable {X : Cx} {n : Nm} {c : Cc} {Γ : SL} {e e2 a b d : Expr} {x y z : DL.D} {pos p pi pl pk : Pos} {nm ni nk : Str} {De : DE} {S : Sg} {K : PySem.W.Frag} {σ : L2.St} {R H : Hp}
end
end DL

end
section
set_option Elab.async false
set_option linter.all false
set_option autoImplicit true
set_option maxRecDepth 100000
set_option maxHeartbeats 1000000
/-! a def that a name of another kind holds (alias = def) -/
namespace DL
open PySem L2
open PyProof.Rows hiding St
structure DefAtR (K : PySem.W.Frag) (mg : Str → Option Value) (nm own : Str) (st : Stmt) (ps : List Str) where
  a : Addr
  fd : FuncData
  F : Fun K own own st a fd
  m : mg nm = some (.ref a)
  bb : ∀ us : List Value, us.length = ps.length → bindArgs fd ⟨us, []⟩ = pure (ps.zip us)
theorem DefAtR.b {K : PySem.W.Frag} {mg : Str → Option Value} {nm own : Str} {st : Stmt} {ps : List Str} (d : DefAtR K mg nm own st ps) : Binds K d.fd ps [] := .all d.bb
theorem DefAtR.cal {X : Cx} {nm own : Str} {st : Stmt} {ps : List Str} {k k0 : Nat} {S : Sg} (d : DefAtR X.K X.mg nm own st ps) (F : FnOk X.prog X.w X.K X.mg X.base CX0 k0 d.a d.fd ps (spOf X.K S)) (h : k0 ≤ k) (rm : Room k X.A) : CalF X k nm S :=
  ⟨rm, d.a, d.fd, ps, k0, F, h, d.m, d.F.kp, d.b⟩
section
variable {X : Cx} {n : Nm} {c : Cc} {Γ : SL} {e e2 a b d : Expr} {x y z : DL.D} {pos p pi pl pk : Pos} {nm ni nk : Str} {De : DE} {S : Sg}
end
end DL

end
section
set_option Elab.async false
set_option linter.all false
set_option autoImplicit true
set_option maxRecDepth 100000
set_option maxHeartbeats 1000000
/-! try .. except X without a name; k76: one that stays alone -/
namespace DL
open PySem L2
open PyProof.Rows hiding St
section
variable {X : Cx} {n : Nm} {c : Cc} {Γ : SL} {cn : Str} {cv : Value} {De : DE} {body suite : List Stmt} {b₀ : Stmt} {np pos pos' : Pos}
end
section
variable {X : Cx} {n : Nm} {c : Cc} {Γ : SL} {e a b d : Expr} {x y z : DL.D} {pos p : Pos} {nm ni : Str} {De : DE}
end
/-! ### the claims of those that are not gone -/
/-! a claim of one that is gone tells nothing -/
/-! ### one that stays alone -/
def othN (ns : List Str) (s : Str) : List Str := ns.filter fun t => !decide (t = s)
/-! ### names -/
def NmG (s : Str) : Prop := s ≠ "" ∧ NmZ s
theorem sgs_of {s : Str} (h : PyData.strOk s = true) : SgS s := fun z hz => by
  unfold PyData.strOk at h
  rw [Array.all_eq_true'] at h
  exact of_decide_eq_true (h z (Array.mem_toList_iff.mp hz))
/-! ### promises of k76 -/
/-- names of the voters -/
structure NkOk (ns : List Str) : Prop where
  ln : ns.length ≤ 6
  sz : ∀ s ∈ ns, NmG s
theorem NkOk.oth {ns : List Str} (h : NkOk ns) (s : Str) : GoneOk (othN ns s) := ⟨Nat.le_trans (List.length_filter_le _ _) (Nat.le_trans h.ln (by decide)), fun g hg => (h.sz g (List.mem_filter.mp hg).1).2.2⟩
theorem NkOk.go {ns : List Str} (h : NkOk ns) : GoneOk ns := ⟨Nat.le_trans h.ln (by decide), fun g hg => (h.sz g hg).2.2⟩
end DL

end
section
set_option Elab.async false
set_option linter.all false
set_option autoImplicit true
set_option maxRecDepth 100000
set_option maxHeartbeats 1000000
/-! a[i], a[j] = x, y; plain values that are bent; sealed entries (k47) -/
namespace DL
open PySem L2
open PyProof.Rows hiding St
theorem sw_sub {env : Env} {a b d e x y : Expr} {p1 p2 pt pt2 : Pos} {k k2 : Nat} : swappedStores [.Tuple [.Subscript a b p1, .Subscript d e p2] k pt] (.Tuple [x, y] k2 pt2) env = pure none := by
  unfold swappedStores
  show (if (!(2 == 2 || 2 == 3) || 2 != 2 || env.blockKind != .function) = true then (pure none : Sem (Option (List Str))) else _) = _
  split
  · rfl
  · split
    · rfl
    · rfl
section
variable {X : Cx} {n : Nm} {c : Cc} {Γ : SL} {e b1 b2 x y : Expr} {pos p p1 p2 tp1 tp2 pt pt2 : Pos} {nm : Str} {De : DE}
/-- xs[i], xs[j] = a, b -/
theorem ws_setIx2 (i : Nat) {kt k2 : Nat} (h : WE X n c Γ (.Tuple [x, y] k2 pt2) fun z Γ1 => ∃ u v ds, z = .tup [u, v] ∧ Γ1[i]? = some (.own (.lst ds)) ∧ WE X n c Γ1 b1 fun z1 Γ2 => ∃ j1 m1, z1 = .int j1 ∧ Γ2[i]? = some (.own (.lst ds)) ∧ ixN ds.length j1 = some m1 ∧
      WE X n c (Γ2.set i (.own (.lst (ds.set m1 u)))) b2 fun z2 Γ3 => ∃ j2 m2, z2 = .int j2 ∧ Γ3[i]? = some (.own (.lst (ds.set m1 u))) ∧ ixN ds.length j2 = some m2 ∧ De.nx (Γ3.set i (.own (.lst ((ds.set m1 u).set m2 v)))))
    (hi : n.N[i]? = some nm := by rfl) (hv : n.V.contains i = true := by rfl) (hh : n.hot = false := by rfl)
    (ha : ∀ v, assign (.Subscript (.Name nm p1) b1 tp1) X.env v = (do
      let ov ← holding [v] (eval (.Name nm p1) X.env)
      let iv ← holding [v, ov] (eval b1 X.env)
      standAt tp1
      holding [v, ov, iv] (setItem ov iv v)
      release [v, ov, iv] []) := by intro _; rfl)
    (hb : ∀ v, assign (.Subscript (.Name nm p2) b2 tp2) X.env v = (do
      let ov ← holding [v] (eval (.Name nm p2) X.env)
      let iv ← holding [v, ov] (eval b2 X.env)
      standAt tp2
      holding [v, ov, iv] (setItem ov iv v)
      release [v, ov, iv] []) := by intro _; rfl)
    (hs : swapsWithSole [.Tuple [.Subscript (.Name nm p1) b1 tp1, .Subscript (.Name nm p2) b2 tp2] kt pt] (.Tuple [x, y] k2 pt2) pos.line X.env = pure false := by rfl)
    (h1 : (assignEach [.Tuple [.Subscript (.Name nm p1) b1 tp1, .Subscript (.Name nm p2) b2 tp2] kt pt] X.env).map (·.2) = [assign (.Tuple [.Subscript (.Name nm p1) b1 tp1, .Subscript (.Name nm p2) b2 tp2] kt pt) X.env] := by rfl)
    (hl : (assignEach [.Subscript (.Name nm p1) b1 tp1, .Subscript (.Name nm p2) b2 tp2] X.env).length = 2 := by rfl) (hst : (assignEach [.Subscript (.Name nm p1) b1 tp1, .Subscript (.Name nm p2) b2 tp2] X.env).findIdx? (·.1) = none := by rfl)
    (ho1 : (assignEach (.Subscript (.Name nm p1) b1 tp1 :: [.Subscript (.Name nm p2) b2 tp2]) X.env).map (·.2) = assign (.Subscript (.Name nm p1) b1 tp1) X.env :: (assignEach [.Subscript (.Name nm p2) b2 tp2] X.env).map (·.2) := by rfl)
    (ho2 : (assignEach (.Subscript (.Name nm p2) b2 tp2 :: []) X.env).map (·.2) = assign (.Subscript (.Name nm p2) b2 tp2) X.env :: (assignEach [] X.env).map (·.2) := by rfl) :
    WS X n c Γ (.Assign [.Tuple [.Subscript (.Name nm p1) b1 tp1, .Subscript (.Name nm p2) b2 tp2] kt pt] (.Tuple [x, y] k2 pt2) pos) De := .mk fun hn σ R H s E ok => by
  obtain ⟨d1, d2⟩ := hn.dbg i nm hi
  have pv := fun (q : Pos) => pe_var (X := X) (i := i) (pos := q) (by rw [hn.eq]; exact hi) (hn.vis i nm hv hi) d1 d2
  refine (ps_asg pW (pg_tup (hn.calm hh) (pgs_cons (pg_sub (pv p1) pW set_list ha) (pgs_cons (pg_sub (pv p2) pW set_list hb) pgs_nil ho2) ho1) hl hst) hs sw_sub h1).w (h.run hn σ R H s _ fun v R1 H1 z Γ1 s1 e1 r1 ⟨u, w, ds, hz, hg1, q1⟩ => ?_)
  subst hz
  obtain ⟨t, vs, rfl, hT, v1, vs1, e3, r3, v2, vs2, e4, r4, e5⟩ := r1
  cases (show vs2 = [] from e5)
  subst e4 e3
  refine ⟨t, _, rfl, ex_t s1.rh hT, rfl, v1, [v2], rfl, ?_⟩
  obtain ⟨_, m1, a, m2, _⟩ := s1.sl i _ hg1
  subst m2
  refine ⟨_, m1, q1.run hn σ R1 H1 s1 _ fun u2 R2 H2 y2 Γ2 s2 e2 r2 ⟨j1, k1, hy, hg2, hx, q2⟩ => ?_⟩
  subst hy
  obtain ⟨w', n1, a1, n2, ⟨us, n3, n6⟩, n4, n5⟩ := s2.sl i _ hg2
  rw [m1] at n1; cases n1; cases n2
  refine ⟨_, us, j1, k1, rfl, r2, n3, by rw [← n6.length]; exact hx, ?_⟩
  have s3 := s2.mut (ob' := .lst (ds.set k1 u)) i hg2 m1 ⟨_, upd_same, n6.set k1 (Rp.mono e2 _ _ r3)⟩
  refine ⟨v2, [], rfl, _, m1, q2.run hn σ R2 _ s3 _ fun u4 R4 H4 y4 Γ4 s4 e6 r6 ⟨j2, k2, hy, hg4, hx2, q4⟩ => ?_⟩
  subst hy
  obtain ⟨w', n1, a1, n2, ⟨us2, n3', n6'⟩, n4', n5'⟩ := s4.sl i _ hg4
  rw [m1] at n1; cases n1; cases n2
  refine ⟨_, us2, j2, k2, rfl, r6, n3', by rw [← n6'.length, List.length_set]; exact hx2, rfl, ?_⟩
  exact ok.nx σ R4 _ _ (s4.mut (ob' := .lst ((ds.set k1 u).set k2 w)) i hg4 m1 ⟨_, upd_same, n6'.set k2 (Rp.mono (e2.trans e6) _ _ r4)⟩) (e1.trans (e2.trans e6)) q4
end

/-! ### list(d.keys()) -/
def tLK (td : TE) : TE := fun σ H Q => td σ H fun x H1 => ∃ d kvs, x = .ref d ∧ Rd H1 d (.dK kvs) ∧ ∀ q, H1 q = none → Q (.ref q) (upd H1 q (.lst (kvs.map fun kv => kV kv.1)))
theorem pe_listKeys {X : Cx} {e : Expr} {td : TE} {p pos apos cpos : Pos} (hc : X.calm = true) (hg : Gl X "list") (hm : X.mg "list" = none) (he : PE X e td) (hbase : attributeBase e "keys" X.env (eval e X.env) = eval e X.env := by rfl) (hline : (apos.endLine == cpos.line) = true := by rfl)
    (na : starEach [.Call (.Attribute e "keys" apos) [] [] cpos] X.env = (false, eval (.Call (.Attribute e "keys" apos) [] [] cpos) X.env) :: starEach [] X.env := by rfl) : PE X (.Call (.Name "list" p) [.Call (.Attribute e "keys" apos) [] [] cpos] [] pos) (tLK td) := by
  refine ⟨fun pins s σ H Q I h => ?_⟩
  refine Call_ (ld_blt I hg hm boot_list (PyProof.Rows.callWith_type1 (args_cons ?_ na) na))
  refine wpAny_Call_method (T := "dict") (id := "dict.keys") hbase rfl hline F.plainAttrs_dict F.slot_dict_keys F.type_dict_keys (thn (he.run pins s σ H _ I h) fun u s1 ⟨x, H1, I1, rx, d, kvs, ex, hd, q⟩ => ?_)
  subst ex
  obtain rfl : u = Value.ref d := rx
  obtain ⟨z, lo, vs, rk, hm1⟩ := dk_rd I1.hok hd
  obtain ⟨ep, hat⟩ := hm1.dictAt
  have hl : kvs.length = vs.length := Paired.length rk
  refine ⟨hm1.typeIs, hm1.mapOf.noDict, ?_⟩
  show wpAny _ _ (callWith cpos (.builtin "dict.keys") [.ref d] [] []) _ X.xe s1
  refine method_meetsIn F.slot_dict_keys F.entry_dict_keys rfl (PySem.evalArgs_none ⟨rfl, hm1.typeIs, F.args_dict_keys_1 _, _, PySem.W.kdl_meets_keys (mixKind X.prog X.w) d lo, ⟨vs, hm1⟩, ?_⟩)
  refine args_nil ?_
  have I2 : Inv X pins σ H1 { s1 with heap := s1.heap.push { cls := .type "dict_keys", data := .fields #[.ref d] } } := I1.kept (t' := s1.toks) fun b ob q => Heap.get?_push_of_some _ q
  refine PySem.W.kdl_call (PySem.W.kdl_keys (knd := mixKind X.prog X.w) (r := s1.heap.objs.size) (d := d) (kvs := vs) (ep := ep)) (I1.ok.hd hc) ⟨⟨_, Heap.get?_push_size _ rfl, rfl, rfl⟩, hat.push _⟩ (by rw [← hl]; exact z) fun h' tk acc' c' hkeep hS hacc => ?_
  refine ⟨.ref _, upd H1 _ (.lst (kvs.map fun kv => kV kv.1)), I2.laid hkeep (Nat.le_refl _) (show ObjOk X.prog X.w _ _ _ (.lst (kvs.map fun kv => kV kv.1)) from ⟨?_, acc'.toList, c', ?_, ?_⟩), rfl, q _ (I2.hok.fresh (Nat.le_refl _))⟩
  · rw [List.length_map]; exact z
  · have el : acc'.toList.length = acc'.size := by simp
    refine vals_of_at (by rw [List.length_map, el, hacc.1, hl]) fun j x w h1 h2 => ?_
    obtain ⟨k, y, hky, hi⟩ := hacc.2 j w (by rw [← Array.getElem?_toList]; exact h2)
    have e1 : (kvs.map (·.1))[j]? = some k := by
      rw [KV.keys rk, List.getElem?_map, hky] <;> rfl
    have e2 : (kvs.map fun kv => kV kv.1)[j]? = some (kV k) := by
      have e3 : (kvs.map fun kv => kV kv.1) = (kvs.map (·.1)).map kV := by rw [List.map_map] <;> rfl
      rw [e3, List.getElem?_map, e1] <;> rfl
    rw [e2] at h1
    cases h1
    exact keyIs_rel hi
  · rw [Array.toArray_toList]; exact hS
theorem rpl_keys {K : PySem.W.Frag} {R : Hp} : ∀ {kvs : List (Key × DL.D)} {ws : List (Key × V)}, RpK K R kvs ws → RpL K R (kvs.map fun kv => kD kv.1) (ws.map fun kv => kV kv.1)
  | [], _, h => by cases (show _ = _ from h); exact rfl
  | (k, d) :: r, _, ⟨u, ws, e, h1, h2⟩ => by
    subst e
    refine ⟨kV k, _, rfl, ?_, rpl_keys h2⟩
    cases k <;> rfl
section
variable {X : Cx} {n : Nm} {c : Cc} {Γ : SL} {e : Expr} {pos p apos cpos : Pos} {k : AK}
/-- list(d.keys()) -/
theorem eo_listKeys {kvs : List (Key × DL.D)} (hb : Blt X "list" (.type "list")) (j : Nat) (ha : EK X n c Γ e k) (hgk : k.get Γ = some (.dic kvs) := by rfl) (hj : n.GN[j]? = some ("list" : Str) := by rfl) (hh : n.hot = false := by rfl)
    (hbase : attributeBase e "keys" X.env (eval e X.env) = eval e X.env := by rfl) (hline : (apos.endLine == cpos.line) = true := by rfl)
    (na : starEach [.Call (.Attribute e "keys" apos) [] [] cpos] X.env = (false, eval (.Call (.Attribute e "keys" apos) [] [] cpos) X.env) :: starEach [] X.env := by rfl) : EO X n c Γ (.Call (.Name "list" p) [.Call (.Attribute e "keys" apos) [] [] cpos] [] pos) (.lst (kvs.map fun kv => kD kv.1)) := .mk fun hn σ R H s Q q => by
  obtain ⟨g1, g2, g3⟩ := hn.gl j _ hj
  refine (pe_listKeys (hn.calm hh) g1 hb.mg pW hbase hline na).w (ha.run hn σ R H s _ fun v R1 H1 k' Γ1 s1 e1 r1 ⟨p1, p2⟩ => ?_)
  subst p1 p2
  obtain ⟨a, ws, rfl, h2, h3⟩ := (r1.wk s1 hgk).dic s1.rh
  exact ⟨a, ws, rfl, .inl h2, fun l hl => q _ R1 _ (.lst _) _ (s1.grow (s1.newOwn _ hl)) e1 (.fresh s1 hl ⟨_, upd_same, rpl_keys h3⟩) ⟨rfl, rfl⟩⟩
end
/-! ### one sign in a text; for over a text -/
section
variable {X : Cx} {n : Nm} {c : Cc} {Γ : SL} {e a b : Expr} {pos p : Pos} {nm : Str} {k l : AK} {De : DE}
def sgS (z : Nat) : Str := ⟨#[z]⟩
theorem dop_notInC : DOp X n c (compareOp .NotIn) (fun x y Post => ∃ (z : Nat) (t : Str), x = .str (sgS z) ∧ y = .str t ∧ Post (.bl (!decide (z ∈ t.cps.toList)))) := fun _ => ⟨_, op_notIn_sign, fun Γ σ R H x y v w Post s hx hy ⟨z, t, e1, e2, p⟩ Q q => by
  subst e1 e2
  exact ⟨z, t, hx.str, hy.str, q (.bl (!decide (z ∈ t.cps.toList))) R H (.bl (!decide (z ∈ t.cps.toList))) s (Ex.refl _) rfl p⟩⟩
theorem et_notInC {z : Nat} {t : Str} (ha : EK X n c Γ a k) (hb : EK X n c Γ b l) (ga : k.get Γ = some (.str (sgS z)) := by rfl) (gb : l.get Γ = some (.str t) := by rfl) (hm : behindInMarks .NotIn b = false := by rfl) : ET X n c Γ (.Compare a [.NotIn] [b] pos) (!decide (z ∈ t.cps.toList)) :=
  et_cmp dop_notInC ha hb (fun _ h => ⟨z, t, rfl, rfl, h⟩) ga gb hm
theorem for_text {t : Str} {g : TG} {tb : TS} {D : Ends} {σ : L2.St} {H : Hp} (Pv : Nat → L2.St → Hp → Prop) (h0 : Pv 0 σ H)
    (hs : ∀ i z σ H, t.cps[i]? = some z → Pv i σ H → g (.str (sgS z)) σ H fun σ2 H2 => tb { D with nx := Pv (i + 1), ct := Pv (i + 1), bk := D.nx } σ2 H2) (hd : ∀ σ H, Pv t.cps.size σ H → D.nx σ H) :
    ∃ W : Nat → Nat → L2.St → Hp → Prop, (∃ m, W 0 m σ H) ∧ ∀ i m σ H, W i m σ H →
      ((Its t).stop i H ∧ D.nx σ H) ∨ ((Its t).go i H ∧ ∃ N : L2.St → Hp → Prop, (∀ σ' H', N σ' H' → ∃ m', m' < m ∧ W (i + 1) m' σ' H') ∧ ∀ x H', (Its t).yld i H x H' → g x σ H' fun σ2 H2 => tb { D with nx := N, ct := N, bk := D.nx } σ2 H2) := by
  refine ⟨fun i m σ H => m = t.cps.size - i ∧ i ≤ t.cps.size ∧ Pv i σ H, ⟨t.cps.size, by simp, Nat.zero_le _, h0⟩, ?_⟩
  rintro i m σ H ⟨rfl, hi, p⟩
  by_cases hlt : i < t.cps.size
  · refine .inr ⟨hlt, Pv (i + 1), fun σ' H' p' => ⟨t.cps.size - (i + 1), by omega, rfl, hlt, p'⟩, fun x H' y => ?_⟩
    obtain ⟨e, z, hz, rfl⟩ := y
    subst e
    exact hs i z σ _ hz p
  · have e : i = t.cps.size := by omega
    subst e
    exact .inl ⟨Nat.le_refl _, hd σ H p⟩
theorem ws_forS (j : Nat) {body : List Stmt} (Inv : Nat → SL → Prop) (t : Str) (h : WE X n c Γ e fun x Γ1 => x = .str t ∧ Inv 0 Γ1)
    (hs : ∀ i Γ' z, t.cps[i]? = some z → Inv i Γ' → WB X n c (Γ'.set j (.d (.str (sgS z)))) body (turnE De (Inv (i + 1)))) (hd : ∀ Γ', Inv t.cps.size Γ' → De.nx Γ') (hj : n.N[j]? = some nm := by rfl) (hh : n.hot = false := by rfl) (ha : n.as.contains j = true := by rfl) (hoi : n.oi.contains j = false := by rfl)
    (hf : ∀ x, foldedSetIterable e X.env x = pure x := by intro _; rfl) : WS X n c Γ (.For (.Name nm p) e body [] pos) De := .mk fun hn σ R H s E ok => by
  obtain ⟨l1, l2⟩ := hn.loc j nm ha hj
  refine (ps_for hn.po (hn.calm hh) (pi_str pW) (pg_name (by rw [hn.eq]; exact hn.nd) (by rw [hn.eq]; exact hj) l1 l2) pWB hf).w (h.run hn σ R H s _ fun v R1 H1 x Γ1 s1 e1 r1 ⟨hx, p1⟩ => ?_)
  subst hx
  cases (show v = .str t from r1)
  refine ⟨t, rfl, for_text (fun i σ' H' => ∃ R' Γ', SOk X.K c Γ' σ' R' H' ∧ Ex R1 R' ∧ Inv i Γ') ⟨R1, Γ1, s1, Ex.refl _, p1⟩ (fun i z σ' H' hi ⟨R', Γ', s', e', p'⟩ => ?_) (fun σ' H' ⟨R', Γ', s', e', p'⟩ => ?_)⟩
  · exact (hs i Γ' z hi p').run hn _ R' H' (s'.setD j (x := .str (sgS z)) rfl (hn.noi hoi)) _ (turnE_ok ok (e1.trans e') fun σ2 R2 H2 Γ2 s2 e2 w => ⟨R2, Γ2, s2, e'.trans e2, w⟩)
  · exact ok.nx σ' R' H' Γ' s' (e1.trans e') (hd Γ' p')
end

/-! ### plain things, dicts with texts as keys among them -/
def D.plD : Nat → DL.D → Prop
  | _, .non => True
  | _, .bl _ => True
  | _, .int _ => True
  | _, .str _ => True
  | k + 1, .lst ds => ds.length ≤ 100000 ∧ ∀ d ∈ ds, D.plD k d
  | k + 1, .tup ds => ds.length ≤ 100000 ∧ ∀ d ∈ ds, D.plD k d
  | k + 2, .dic kvs => kvs.length ≤ 1000 ∧ (kvs.map (·.1)).Nodup ∧ (∀ p ∈ kvs, ∃ s : Str, p.1 = .inr s) ∧ ∀ p ∈ kvs, D.plD k p.2
  | _, _ => False
theorem D.pl.toD : ∀ {k : Nat} {d : DL.D}, DL.D.pl k d → DL.D.plD k d
  | k, .non, _ => by cases k <;> trivial
  | k, .bl _, _ => by cases k <;> trivial
  | k, .int _, _ => by cases k <;> trivial
  | k, .str _, _ => by cases k <;> trivial
  | 0, .lst _, h => h.elim
  | 0, .tup _, h => h.elim
  | k + 1, .lst ds, h => ⟨h.1, fun d hd => D.pl.toD (h.2 d hd)⟩
  | k + 1, .tup ds, h => ⟨h.1, fun d hd => D.pl.toD (h.2 d hd)⟩
  | k, .dic _, h => by cases k <;> exact h.elim
  | k, .ins _ _, h => by cases k <;> exact h.elim
theorem D.plD.mono : ∀ {j k : Nat} {d : DL.D}, j ≤ k → DL.D.plD j d → DL.D.plD k d
  | j, k, .non, _, _ => by cases k <;> trivial
  | j, k, .bl _, _, _ => by cases k <;> trivial
  | j, k, .int _, _, _ => by cases k <;> trivial
  | j, k, .str _, _, _ => by cases k <;> trivial
  | 0, k, .lst _, _, h => h.elim
  | 0, k, .tup _, _, h => h.elim
  | 0, k, .dic _, _, h => h.elim
  | 1, k, .dic _, _, h => h.elim
  | j, k, .ins _ _, _, h => by match j, h with | 0, h => exact h.elim | 1, h => exact h.elim | _ + 2, h => exact h.elim
  | j + 1, 0, .lst ds, e, h => by omega
  | j + 1, 0, .tup ds, e, h => by omega
  | j + 2, 0, .dic _, e, h => by omega
  | j + 2, 1, .dic _, e, h => by omega
  | j + 1, k + 1, .lst ds, e, h => ⟨h.1, fun d hd => D.plD.mono (Nat.le_of_succ_le_succ e) (h.2 d hd)⟩
  | j + 1, k + 1, .tup ds, e, h => ⟨h.1, fun d hd => D.plD.mono (Nat.le_of_succ_le_succ e) (h.2 d hd)⟩
  | j + 2, k + 2, .dic kvs, e, h => ⟨h.1, h.2.1, h.2.2.1, fun p hp => D.plD.mono (by omega) (h.2.2.2 p hp)⟩
def ST_sameD (k : Nat) : Sg := fun ps Post => ∃ v d, ps = [.w v, .w d] ∧ DL.D.plD k d ∧ ∀ b : Bool, (b = true ↔ v = d) → Post (.d (.bl b)) []
def ST_copyD (k : Nat) : Sg := fun ps Post => ∃ x, ps = [.w x] ∧ DL.D.plD k x ∧ (∀ ds, x = .lst ds → Post (.own (.lst ds)) []) ∧ ((∀ ds, x ≠ .lst ds) → Post (.d x) [])
theorem same_seqD {v d : DL.D} (h1 : d.isN = false) (h2 : tyB d.ty "bool" = false) (h3 : tyB d.ty "int" = false) (h4 : tyB d.ty "str" = false) (h5 : tyB d.ty "dict" = false) (h6 : (tyB d.ty "list" && !tyB v.ty "list") = false) (h7 : (tyB d.ty "tuple" && !tyB v.ty "tuple") = false) {jp : Nat} (h8 : DL.D.plD jp d) :
    ∃ vs ds : List DL.D, (v = d ↔ vs = ds) ∧ v.len = some vs.length ∧ d.len = some ds.length ∧ (∀ z, v ≠ .str z) ∧ (∀ z, d ≠ .str z) ∧ (∀ (k : Nat) y, vs[k]? = some y → v.at (k : Int) = some y) ∧ (∀ (k : Nat) y, ds[k]? = some y → d.at (k : Int) = some y) ∧ (∀ k, DL.D.plD (k + 1) d → ds.length ≤ 100000 ∧ ∀ y ∈ ds, DL.D.plD k y) ∧ (¬ DL.D.plD 0 d) := by
  cases d with
  | lst ds =>
    have : tyB v.ty "list" = true := by simpa [tyB, DL.D.ty] using h6
    obtain ⟨vs, rfl⟩ := ty_list this
    exact ⟨vs, ds, by simp, rfl, rfl, (fun z e => by cases e), (fun z e => by cases e), fun k y h => at_lst h, fun k y h => at_lst h, fun k h => h, fun h => h⟩
  | tup ds =>
    have : tyB v.ty "tuple" = true := by simpa [tyB, DL.D.ty] using h7
    obtain ⟨vs, rfl⟩ := ty_tuple this
    exact ⟨vs, ds, by simp, rfl, rfl, (fun z e => by cases e), (fun z e => by cases e), fun k y h => at_tup h, fun k y h => at_tup h, fun k h => h, fun h => h⟩
  | ins _ _ => match jp, h8 with | 0, h => exact h.elim | 1, h => exact h.elim | _ + 2, h => exact h.elim
  | _ => simp [tyB, DL.D.ty, DL.D.isN] at h1 h2 h3 h4 h5
theorem plD_dic {j : Nat} {kvs : List (Key × DL.D)} (h : DL.D.plD j (.dic kvs)) : ∃ i, j = i + 2 ∧ kvs.length ≤ 1000 ∧ (kvs.map (·.1)).Nodup ∧ (∀ p ∈ kvs, ∃ s : Str, p.1 = .inr s) ∧ ∀ p ∈ kvs, DL.D.plD i p.2 := by
  match j, h with
  | 0, h => exact h.elim
  | 1, h => exact h.elim
  | i + 2, h => exact ⟨i, rfl, h⟩
theorem valD_nd : ∀ {kvs : List (Key × DL.D)} {i : Nat} {p : Key × DL.D}, (kvs.map (·.1)).Nodup → kvs[i]? = some p → valD kvs p.1 = some p.2
  | [], i, p, _, h => by simp at h
  | q :: r, 0, p, _, h => by
    have : q = p := by simpa using h
    subst this
    exact valD_pos rfl
  | q :: r, i + 1, p, nd, h => by
    rw [List.map_cons, List.nodup_cons] at nd
    have h : r[i]? = some p := h
    have hm := List.mem_of_getElem? h
    rw [valD_neg (fun z => nd.1 (by rw [z]; exact List.mem_map_of_mem hm))]
    exact valD_nd nd.2 h
theorem kD_inj {a b : Key} (h : kD a = kD b) : a = b := by
  cases a <;> cases b <;> simp [kD] at h <;> rw [h]
theorem kDs_inj {a b : List (Key × DL.D)} (h : a.map (fun kv => kD kv.1) = b.map fun kv => kD kv.1) : a.map (·.1) = b.map (·.1) := by
  have e : ∀ l : List (Key × DL.D), (l.map fun kv => kD kv.1) = (l.map (·.1)).map kD := fun l => by rw [List.map_map]; rfl
  rw [e, e] at h
  exact List.map_inj_right (fun _ _ => kD_inj) |>.mp h
theorem kvs_ext {a b : List (Key × DL.D)} (h1 : a.map (·.1) = b.map (·.1)) (h2 : a.map (·.2) = b.map (·.2)) : a = b := by
  have l1 := congrArg List.length h1
  rw [List.length_map, List.length_map] at l1
  apply List.ext_getElem l1
  intro i h h'
  have e1 := congrArg (fun l => l[i]?) h1
  have e2 := congrArg (fun l => l[i]?) h2
  simp only [List.getElem?_map, List.getElem?_eq_getElem h, List.getElem?_eq_getElem h', Option.map_some, Option.some.injEq] at e1 e2
  exact Prod.ext e1 e2
theorem putD_new {kvs : List (Key × DL.D)} {k : Key} {v : DL.D} (h : k ∉ kvs.map (·.1)) : putD' kvs k v = kvs ++ [(k, v)] := by
  unfold putD'
  rw [if_neg]
  intro q
  obtain ⟨p, h1, h2⟩ := List.any_eq_true.mp q
  exact h (by rw [← of_decide_eq_true h2]; exact List.mem_map_of_mem h1)
end DL

end
section
set_option Elab.async false
set_option linter.all false
set_option autoImplicit true
set_option maxRecDepth 100000
set_option maxHeartbeats 1000000
/-! k47: seals -/
namespace DL
open PySem L2
open PyProof.Rows hiding St
/-! ### the modulus is a prime -/
def MP : Nat := 2147483647
def mpChk : Nat → Nat → Bool
  | 0, _ => true
  | k + 1, d => (MP % d != 0) && mpChk k (d + 1)
theorem mpChk_ok : ∀ {k d : Nat}, mpChk k d = true → ∀ e, d ≤ e → e < d + k → MP % e ≠ 0
  | 0, d, _, e, h1, h2 => by omega
  | k + 1, d, h, e, h1, h2 => by
    obtain ⟨h3, h4⟩ := Bool.and_eq_true_iff.mp h
    by_cases q : e = d
    · rw [q]; simpa using h3
    · exact mpChk_ok h4 e (by omega) (by omega)
theorem mp_chk : mpChk 46400 2 = true := by decide +kernel
theorem mp_div {g : Nat} (h : g ∣ MP) (h1 : 1 < g) (h2 : g < MP) : False := by
  obtain ⟨m, hm⟩ := h
  have key : ∀ e, 2 ≤ e → e < 46402 → MP % e ≠ 0 := fun e a b => mpChk_ok mp_chk e a (by omega)
  have m0 : 0 < m := by
    rcases Nat.eq_zero_or_pos m with z | z
    · rw [z, Nat.mul_zero] at hm; exact absurd hm (by decide)
    · exact z
  have m1 : 1 < m := by
    rcases Nat.lt_or_ge 1 m with z | z
    · exact z
    · have : m = 1 := by omega
      rw [this] at hm; omega
  by_cases q : g < 46402
  · exact key g (by omega) q (by rw [hm]; exact Nat.mul_mod_right g m)
  · by_cases r : m < 46402
    · exact key m (by omega) r (by rw [hm]; exact Nat.mul_mod_left g m)
    · have : 46402 * 46402 ≤ g * m := Nat.mul_le_mul (by omega) (by omega)
      have e : MP < 46402 * 46402 := by decide
      omega
theorem mp_cop {a : Nat} (h0 : 0 < a) (h1 : a < MP) : Nat.Coprime MP a := by
  have g1 := Nat.gcd_dvd_left MP a
  have g2 := Nat.gcd_dvd_right MP a
  have g3 := Nat.le_of_dvd h0 g2
  have g4 : 0 < Nat.gcd MP a := Nat.gcd_pos_of_pos_right _ h0
  rcases Nat.lt_or_ge 1 (Nat.gcd MP a) with z | z
  · exact (mp_div g1 z (by omega)).elim
  · show Nat.gcd MP a = 1
    omega
def ZP : Int := 2147483647
theorem zp : ZP = ((MP : Nat) : Int) := rfl
/-- a factor of that kind may be left out -/
theorem zp_cancel {a x : Int} (h0 : 0 < a) (h1 : a < ZP) (h : ZP ∣ x * a) : ZP ∣ x := by
  have c : Nat.Coprime MP a.natAbs := mp_cop (by omega) (by rw [zp] at h1; omega)
  have h2 : MP ∣ x.natAbs * a.natAbs := by
    rw [← Int.natAbs_mul]
    exact Int.natAbs_dvd_natAbs.mpr h
  exact Int.natAbs_dvd_natAbs.mp (c.dvd_of_dvd_mul_right h2)
theorem zp_pow {a x : Int} (h0 : 0 < a) (h1 : a < ZP) : ∀ k : Nat, ZP ∣ x * a ^ k → ZP ∣ x
  | 0, h => by simpa using h
  | k + 1, h => by
    rw [Int.pow_succ, ← Int.mul_assoc] at h
    exact zp_pow h0 h1 k (zp_cancel h0 h1 h)
theorem zp_eq {x y : Int} (h : ZP ∣ x - y) (h1 : x - y < ZP) (h2 : y - x < ZP) : x = y := by
  obtain ⟨c, hc⟩ := h
  have : c = 0 := by
    unfold ZP at *
    omega
  rw [this] at hc
  omega
/-! ### the lastc -/
def hor (key c : Int) (xs : List Int) : Int := xs.foldl (fun s x => s * key + x) c
def horM (key c : Int) (xs : List Int) : Int := xs.foldl (fun s x => (s * key + x) % ZP) c
def sealZ (key c : Int) (xs : List Int) : Int := (horM key c xs * key + xs.length) % ZP
theorem mul_add_mod {a b k x : Int} (h : a % ZP = b % ZP) : (a * k + x) % ZP = (b * k + x) % ZP := by
  rw [Int.add_emod, Int.mul_emod, h, ← Int.mul_emod, ← Int.add_emod]
theorem hor_mod (key : Int) : ∀ (xs : List Int) {a b : Int}, a % ZP = b % ZP → horM key a xs % ZP = hor key b xs % ZP
  | [], a, b, h => h
  | x :: xs, a, b, h => hor_mod key xs (a := (a * key + x) % ZP) (b := b * key + x) (by rw [Int.emod_emod_of_dvd _ (Int.dvd_refl _)]; exact mul_add_mod h)
theorem seal_hor (key c : Int) (xs : List Int) : sealZ key c xs = (hor key c xs * key + xs.length) % ZP := mul_add_mod (hor_mod key xs rfl)
theorem hor_app (key c : Int) (xs ys : List Int) : hor key c (xs ++ ys) = hor key (hor key c xs) ys := List.foldl_append
theorem hor_lin (key : Int) : ∀ (ys : List Int) (c : Int), hor key c ys = c * key ^ ys.length + hor key 0 ys
  | [], c => by simp [hor]
  | y :: ys, c => by
    show hor key (c * key + y) ys = _ + hor key (0 * key + y) ys
    rw [hor_lin key ys (c * key + y), hor_lin key ys (0 * key + y), List.length_cons, Int.pow_succ]
    grind
theorem horM_bd (key : Int) : ∀ (xs : List Int) {c : Int}, 0 ≤ c → c < ZP → 0 ≤ horM key c xs ∧ horM key c xs < ZP
  | [], c, h1, h2 => ⟨h1, h2⟩
  | x :: xs, c, h1, h2 => horM_bd key xs (Int.emod_nonneg _ (by decide)) (Int.emod_lt_of_pos _ (by decide))
theorem seal_bd (key c : Int) (xs : List Int) : 0 ≤ sealZ key c xs ∧ sealZ key c xs < ZP := ⟨Int.emod_nonneg _ (by decide), Int.emod_lt_of_pos _ (by decide)⟩
/-- equal seals of equally many cells -/
theorem seal_inj {key c c' : Int} {xs xs' : List Int} (h0 : 0 < key) (h1 : key < ZP) (hl : xs.length = xs'.length) (h : sealZ key c xs = sealZ key c' xs') : ZP ∣ hor key c xs - hor key c' xs' := by
  rw [seal_hor, seal_hor, hl] at h
  have h2 := Int.emod_emod_of_dvd (hor key c xs * key + xs'.length) (Int.dvd_refl ZP)
  have h3 : ZP ∣ (hor key c xs * key + xs'.length) - (hor key c' xs' * key + xs'.length) := Int.dvd_of_emod_eq_zero (Int.emod_eq_emod_iff_emod_sub_eq_zero.mp h)
  refine zp_cancel h0 h1 ?_
  have e : (hor key c xs - hor key c' xs') * key = (hor key c xs * key + xs'.length) - (hor key c' xs' * key + xs'.length) := by grind
  rw [e]; exact h3
theorem seal_cell {key c a b : Int} {xs ys : List Int} (h0 : 0 < key) (h1 : key < ZP) (a0 : 0 ≤ a) (a1 : a < ZP) (b0 : 0 ≤ b) (b1 : b < ZP) (h : sealZ key c (xs ++ a :: ys) = sealZ key c (xs ++ b :: ys)) : a = b := by
  have h2 := seal_inj h0 h1 (by simp) h
  rw [hor_app, hor_app] at h2
  have e : ∀ z : Int, hor key (hor key c xs) (z :: ys) = (hor key c xs * key + z) * key ^ ys.length + hor key 0 ys := fun z => hor_lin key ys _
  rw [e, e] at h2
  have e2 : (hor key c xs * key + a) * key ^ ys.length + hor key 0 ys - ((hor key c xs * key + b) * key ^ ys.length + hor key 0 ys) = (a - b) * key ^ ys.length := by grind
  rw [e2] at h2
  exact zp_eq (zp_pow h0 h1 _ h2) (by omega) (by omega)
theorem seal_swap {key c a b : Int} {xs ys : List Int} (h0 : 1 < key) (h1 : key < ZP) (a0 : 0 ≤ a) (a1 : a < ZP) (b0 : 0 ≤ b) (b1 : b < ZP) (h : sealZ key c (xs ++ a :: b :: ys) = sealZ key c (xs ++ b :: a :: ys)) : a = b := by
  have h2 := seal_inj (by omega) h1 (by simp) h
  rw [hor_app, hor_app] at h2
  have e : ∀ z w : Int, hor key (hor key c xs) (z :: w :: ys) = ((hor key c xs * key + z) * key + w) * key ^ ys.length + hor key 0 ys := fun z w => hor_lin key ys _
  rw [e, e] at h2
  have e2 : ((hor key c xs * key + a) * key + b) * key ^ ys.length + hor key 0 ys - (((hor key c xs * key + b) * key + a) * key ^ ys.length + hor key 0 ys) = ((a - b) * (key - 1)) * key ^ ys.length := by grind
  rw [e2] at h2
  exact zp_eq (zp_cancel (by omega) (by omega) (zp_pow (by omega) h1 _ h2)) (by omega) (by omega)
theorem seal_count {key c c' : Int} {xs : List Int} (h0 : 0 < key) (h1 : key < ZP) (hc : c - c' < ZP) (hc' : c' - c < ZP) (h : sealZ key c xs = sealZ key c' xs) : c = c' := by
  have h2 := seal_inj h0 h1 rfl h
  rw [hor_lin key xs c, hor_lin key xs c'] at h2
  have e2 : c * key ^ xs.length + hor key 0 xs - (c' * key ^ xs.length + hor key 0 xs) = (c - c') * key ^ xs.length := by grind
  rw [e2] at h2
  exact zp_eq (zp_pow h0 h1 _ h2) hc hc'
/-! the law's own way: powers from the last cell on -/
theorem pow_step {key t w x : Int} {ys : List Int} {k n : Nat} (hk : ys.length = k) (ht : t % ZP = ((n : Int) + key * hor key 0 ys) % ZP) (hw : w % ZP = key ^ (k + 1) % ZP) : ((t + x * w) % ZP) % ZP = ((n : Int) + key * hor key 0 (x :: ys)) % ZP ∧ ((w * key) % ZP) % ZP = key ^ (k + 1 + 1) % ZP := by
  constructor
  · rw [Int.emod_emod_of_dvd _ (Int.dvd_refl _), Int.add_emod, ht, Int.mul_emod, hw, ← Int.mul_emod, ← Int.add_emod]
    have e : hor key 0 (x :: ys) = (0 * key + x) * key ^ ys.length + hor key 0 ys := hor_lin key ys _
    rw [e, hk, Int.pow_succ]
    congr 1
    grind
  · rw [Int.emod_emod_of_dvd _ (Int.dvd_refl _), Int.mul_emod, hw, ← Int.mul_emod, Int.pow_succ key (k + 1)]
theorem pow_end {key c t w : Int} {xs : List Int} (ht : t % ZP = ((xs.length : Int) + key * hor key 0 xs) % ZP) (hw : w % ZP = key ^ (xs.length + 1) % ZP) : (t + c * w) % ZP = sealZ key c xs := by
  rw [seal_hor, hor_lin key xs c, Int.add_emod, ht, Int.mul_emod, hw, ← Int.mul_emod, ← Int.add_emod, Int.pow_succ]
  congr 1
  grind
/-! ### entries -/
def ltrs : List Nat := ("abcdefghijklmnopqrstuvwxyz" : Str).cps.toList
def dgts : List Nat := ("0123456789" : Str).cps.toList
theorem ltdg : ("abcdefghijklmnopqrstuvwxyz0123456789" : Str).cps.toList = ltrs ++ dgts := by decide +kernel
def nmOk (l : List Nat) : Bool := decide (1 ≤ l.length) && decide (l.length ≤ 8) && (match l.head? with | some z => decide (z ∈ ltrs) | none => false) && l.all fun z => decide (z ∈ ltrs ++ dgts)
def isNm : DL.D → Bool
  | .str s => nmOk s.cps.toList
  | _ => false
def isCe : DL.D → Bool
  | .int i => decide (0 ≤ i) && decide (i < ZP)
  | _ => false
def isEn : DL.D → Bool
  | .tup [a, .int c, .tup cs, s] => isNm a && (decide (1 ≤ c) && decide (c ≤ 999)) && (isCe s && cs.all isCe)
  | _ => false
def cInt : DL.D → Int
  | .int i => i
  | _ => 0
def isSe (key : Int) : DL.D → Bool
  | .tup [a, .int c, .tup cs, .int s] => isEn (.tup [a, .int c, .tup cs, .int s]) && decide (s = sealZ key c (cs.map cInt))
  | _ => false
theorem isCe_int {x : DL.D} (h : isCe x = true) : ∃ i : Int, x = .int i ∧ 0 ≤ i ∧ i < ZP := by
  cases x <;> simp [isCe] at h
  exact ⟨_, rfl, h⟩
theorem cells_int {cs : List DL.D} (h : cs.all isCe = true) : cs = (cs.map cInt).map DL.D.int ∧ ∀ i ∈ cs.map cInt, 0 ≤ i ∧ i < ZP := by
  rw [List.all_eq_true] at h
  constructor
  · rw [List.map_map]
    conv => lhs; rw [← List.map_id cs]
    apply List.map_congr_left
    intro x hx
    obtain ⟨i, rfl, _⟩ := isCe_int (h x hx)
    rfl
  · intro i hi
    obtain ⟨x, hx, rfl⟩ := List.mem_map.mp hi
    obtain ⟨i, rfl, hh⟩ := isCe_int (h x hx)
    exact hh
theorem isEn_of {x : DL.D} (h : isEn x = true) : ∃ (a : DL.D) (c : Int) (cs : List Int) (s : Int), x = .tup [a, .int c, .tup (cs.map DL.D.int), .int s] ∧ isNm a = true ∧ 1 ≤ c ∧ c ≤ 999 ∧ (0 ≤ s ∧ s < ZP) ∧ ∀ i ∈ cs, 0 ≤ i ∧ i < ZP := by
  match x, h with
  | .tup [a, .int c, .tup cs, s], h =>
    simp only [isEn, Bool.and_eq_true, decide_eq_true_eq] at h
    obtain ⟨⟨h1, h2, h3⟩, h4, h5⟩ := h
    obtain ⟨i, rfl, h6⟩ := isCe_int h4
    obtain ⟨h7, h8⟩ := cells_int h5
    exact ⟨a, c, cs.map cInt, i, by rw [← h7], h1, h2, h3, h6, h8⟩
/-- an entry's parts -/
structure EnOk (a : Str) (c : Int) (cs : List Int) (s : Int) : Prop where
  nm : isNm (.str a) = true
  c1 : 1 ≤ c
  c2 : c ≤ 999
  cl : ∀ i ∈ cs, 0 ≤ i ∧ i < ZP
  s0 : 0 ≤ s
  s1 : s < ZP
  ln : cs.length ≤ 3100
def enD (a : Str) (c : Int) (cs : List Int) (s : Int) : DL.D := .tup [.str a, .int c, .tup (cs.map DL.D.int), .int s]
theorem cells_all {cs : List Int} (h : ∀ i ∈ cs, 0 ≤ i ∧ i < ZP) : (cs.map DL.D.int).all isCe = true ∧ (cs.map DL.D.int).map cInt = cs := by
  constructor
  · rw [List.all_eq_true]
    intro x hx
    obtain ⟨i, hi, rfl⟩ := List.mem_map.mp hx
    obtain ⟨h1, h2⟩ := h i hi
    simp [isCe, h1, h2]
  · rw [List.map_map]
    conv => rhs; rw [← List.map_id cs]
    rfl
theorem EnOk.en {a : Str} {c : Int} {cs : List Int} {s : Int} (h : EnOk a c cs s) : isEn (enD a c cs s) = true := by
  show (isNm (.str a) && (decide (1 ≤ c) && decide (c ≤ 999)) && (isCe (.int s) && (cs.map DL.D.int).all isCe)) = true
  rw [h.nm, (cells_all h.cl).1]
  simp [isCe, h.c1, h.c2, h.s0, h.s1]
theorem EnOk.se {a : Str} {c : Int} {cs : List Int} {s : Int} (h : EnOk a c cs s) (key : Int) : isSe key (enD a c cs s) = decide (s = sealZ key c cs) := by
  show (isEn (enD a c cs s) && decide (s = sealZ key c ((cs.map DL.D.int).map cInt))) = _
  rw [h.en, (cells_all h.cl).2, Bool.true_and]
/-- one change -/
inductive Chg (c : Int) (cs : List Int) (s : Int) : Int → List Int → Int → Prop
  | cell {xs ys : List Int} {x y : Int} (e : cs = xs ++ x :: ys) (h : x ≠ y) (h0 : 0 ≤ y) (h1 : y < ZP) : Chg c cs s c (xs ++ y :: ys) s
  | swap {xs ys : List Int} {x y : Int} (e : cs = xs ++ x :: y :: ys) (h : x ≠ y) : Chg c cs s c (xs ++ y :: x :: ys) s
  | count {c' : Int} (h : c' ≠ c) (h0 : 1 ≤ c') (h1 : c' ≤ 999) : Chg c cs s c' cs s
  | lastc {s' : Int} (h : s' ≠ s) (h0 : 0 ≤ s') (h1 : s' < ZP) : Chg c cs s c cs s'
theorem Chg.ok {a : Str} {c c' : Int} {cs cs' : List Int} {s s' : Int} (h : Chg c cs s c' cs' s') (ho : EnOk a c cs s) : EnOk a c' cs' s' := by
  cases h with
  | cell e h h0 h1 =>
    subst e
    refine ⟨ho.nm, ho.c1, ho.c2, fun i hi => ?_, ho.s0, ho.s1, by have := ho.ln; simpa using this⟩
    rcases List.mem_append.mp hi with hi | hi
    · exact ho.cl i (List.mem_append_left _ hi)
    · rcases List.mem_cons.mp hi with rfl | hi
      · exact ⟨h0, h1⟩
      · exact ho.cl i (List.mem_append_right _ (List.mem_cons_of_mem _ hi))
  | swap e h =>
    subst e
    refine ⟨ho.nm, ho.c1, ho.c2, fun i hi => ho.cl i ?_, ho.s0, ho.s1, by have := ho.ln; simpa using this⟩
    simp only [List.mem_append, List.mem_cons] at hi ⊢
    rcases hi with h | h | h | h
    · exact .inl h
    · exact .inr (.inr (.inl h))
    · exact .inr (.inl h)
    · exact .inr (.inr (.inr h))
  | count h h0 h1 => exact ⟨ho.nm, h0, h1, ho.cl, ho.s0, ho.s1, ho.ln⟩
  | lastc h h0 h1 => exact ⟨ho.nm, ho.c1, ho.c2, ho.cl, h0, h1, ho.ln⟩
theorem app_inj {xs ys zs : List Int} (h : xs ++ ys = xs ++ zs) : ys = zs := List.append_cancel_left h
theorem Chg.ne {a : Str} {c c' : Int} {cs cs' : List Int} {s s' : Int} (h : Chg c cs s c' cs' s') : enD a c' cs' s' ≠ enD a c cs s := fun q => by
  have q2 : c' = c ∧ cs' = cs ∧ s' = s := by
    unfold enD at q
    simp only [DL.D.tup.injEq, List.cons.injEq, DL.D.int.injEq, and_true, true_and] at q
    exact ⟨q.1, List.map_inj_right (fun _ _ z => by injection z) |>.mp q.2.1, q.2.2⟩
  obtain ⟨q3, q4, q5⟩ := q2
  cases h with
  | cell e h h0 h1 =>
    rw [e] at q4
    have := app_inj q4
    exact h (by simp at this; exact this.symm)
  | swap e h =>
    rw [e] at q4
    have := app_inj q4
    exact h (by simp at this; exact this.1.symm)
  | count h h0 h1 => exact h q3
  | lastc h h0 h1 => exact h q5
theorem Chg.bad {a : Str} {key c c' : Int} {cs cs' : List Int} {s' : Int} (h : Chg c cs (sealZ key c cs) c' cs' s') (ho : EnOk a c cs (sealZ key c cs)) (k0 : 1 < key) (k1 : key < ZP) : isSe key (enD a c' cs' s') = false := by
  have hk := h.ok ho
  rw [hk.se]
  refine decide_eq_false fun q => ?_
  generalize hs : sealZ key c cs = s0 at *
  cases h with
  | cell e h h0 h1 =>
    subst e
    have a0 := ho.cl _ (List.mem_append_right _ List.mem_cons_self)
    exact h (seal_cell (by omega) k1 a0.1 a0.2 h0 h1 (hs.trans q))
  | swap e h =>
    subst e
    have a0 := ho.cl _ (List.mem_append_right _ List.mem_cons_self)
    have b0 := ho.cl _ (List.mem_append_right _ (List.mem_cons_of_mem _ List.mem_cons_self))
    exact h (seal_swap k0 k1 a0.1 a0.2 b0.1 b0.2 (hs.trans q))
  | count h h0 h1 =>
    have := ho.c1; have := ho.c2
    have z : ZP = 2147483647 := rfl
    exact h (seal_count (by omega) k1 (by omega) (by omega) (hs.trans q)).symm
  | lastc h h0 h1 => exact h (q.trans hs)
/-! ### bent values -/
def D.vk (L : Nat) : Nat → DL.D → Prop
  | _, .non => True
  | _, .bl _ => True
  | _, .int _ => True
  | _, .str s => s.length ≤ L ∧ PyData.strOk s = true
  | k + 1, .lst ds => ds.length ≤ L ∧ ∀ d ∈ ds, D.vk L k d
  | k + 1, .tup ds => ds.length ≤ L ∧ ∀ d ∈ ds, D.vk L k d
  | _, _ => False
theorem D.vk.mono {L M : Nat} (hL : L ≤ M) : ∀ {j k : Nat} {d : DL.D}, j ≤ k → DL.D.vk L j d → DL.D.vk M k d
  | j, k, .non, _, _ => by cases k <;> trivial
  | j, k, .bl _, _, _ => by cases k <;> trivial
  | j, k, .int _, _, _ => by cases k <;> trivial
  | j, k, .str _, _, h => by
    have h' : _ ≤ L ∧ _ := (by cases j <;> exact h)
    cases k <;> exact ⟨Nat.le_trans h'.1 hL, h'.2⟩
  | 0, k, .lst _, _, h => h.elim
  | 0, k, .tup _, _, h => h.elim
  | j, k, .dic _, _, h => by cases j <;> exact h.elim
  | j, k, .ins _ _, _, h => by cases j <;> exact h.elim
  | j + 1, 0, .lst ds, e, h => by omega
  | j + 1, 0, .tup ds, e, h => by omega
  | j + 1, k + 1, .lst ds, e, h => ⟨Nat.le_trans h.1 hL, fun d hd => D.vk.mono hL (Nat.le_of_succ_le_succ e) (h.2 d hd)⟩
  | j + 1, k + 1, .tup ds, e, h => ⟨Nat.le_trans h.1 hL, fun d hd => D.vk.mono hL (Nat.le_of_succ_le_succ e) (h.2 d hd)⟩
theorem D.vk.pl {L : Nat} (hL : L ≤ 100000) : ∀ {k : Nat} {d : DL.D}, DL.D.vk L k d → DL.D.pl k d
  | k, .non, _ => by cases k <;> trivial
  | k, .bl _, _ => by cases k <;> trivial
  | k, .int _, _ => by cases k <;> trivial
  | k, .str _, _ => by cases k <;> trivial
  | 0, .lst _, h => h.elim
  | 0, .tup _, h => h.elim
  | k, .dic _, h => by cases k <;> exact h.elim
  | k, .ins _ _, h => by cases k <;> exact h.elim
  | k + 1, .lst ds, h => ⟨Nat.le_trans h.1 hL, fun d hd => D.vk.pl hL (h.2 d hd)⟩
  | k + 1, .tup ds, h => ⟨Nat.le_trans h.1 hL, fun d hd => D.vk.pl hL (h.2 d hd)⟩
theorem lay_all : ∀ {ds : List DL.D}, (∀ d ∈ ds, PyData.canLay0 d.pd = true) → PyData.canLayAll0 (pdL ds) = true
  | [], _ => rfl
  | d :: ds, h => by simp [pdL, PyData.canLayAll0, h d List.mem_cons_self, lay_all fun x hx => h x (List.mem_cons_of_mem _ hx)]
theorem dep_all {m : Nat} : ∀ {ds : List DL.D}, (∀ d ∈ ds, PyData.depth d.pd ≤ m) → PyData.depthAll (pdL ds) ≤ m
  | [], _ => Nat.zero_le _
  | d :: ds, h => by
    simp only [pdL, PyData.depthAll]
    have := h d List.mem_cons_self
    have := dep_all fun x hx => h x (List.mem_cons_of_mem _ hx)
    omega
theorem D.vk.lay {L : Nat} : ∀ {k : Nat} {d : DL.D}, DL.D.vk L k d → PyData.canLay0 d.pd = true ∧ PyData.depth d.pd ≤ k + 1
  | k, .non, _ => ⟨rfl, by simp [DL.D.pd, PyData.depth]⟩
  | k, .bl _, _ => ⟨rfl, by simp [DL.D.pd, PyData.depth]⟩
  | k, .int _, _ => ⟨rfl, by simp [DL.D.pd, PyData.depth]⟩
  | k, .str _, h => by
    have h' : _ ≤ L ∧ _ := (by cases k <;> exact h)
    exact ⟨by simp [DL.D.pd, PyData.canLay0, h'.2], by simp [DL.D.pd, PyData.depth]⟩
  | 0, .lst _, h => h.elim
  | 0, .tup _, h => h.elim
  | k, .dic _, h => by cases k <;> exact h.elim
  | k, .ins _ _, h => by cases k <;> exact h.elim
  | k + 1, .lst ds, h => by
    refine ⟨by simp [DL.D.pd, PyData.canLay0, lay_all fun d hd => (D.vk.lay (h.2 d hd)).1], ?_⟩
    have := dep_all (m := k + 1) fun d hd => (D.vk.lay (h.2 d hd)).2
    simp only [DL.D.pd, PyData.depth]
    omega
  | k + 1, .tup ds, h => by
    refine ⟨by simp [DL.D.pd, PyData.canLay0, lay_all fun d hd => (D.vk.lay (h.2 d hd)).1], ?_⟩
    have := dep_all (m := k + 1) fun d hd => (D.vk.lay (h.2 d hd)).2
    simp only [DL.D.pd, PyData.depth]
    omega
theorem D.vk.shp {L k : Nat} {d : DL.D} (h : DL.D.vk L k d) (hk : k ≤ 60) : d.shp = true := by
  obtain ⟨h1, h2⟩ := h.lay
  show (PyData.canLay0 d.pd && decide (PyData.depth d.pd ≤ 64)) = true
  rw [h1, decide_eq_true (by omega)]; rfl
def kindD : DL.D → Nat
  | .non => 0
  | .bl _ => 1
  | .int _ => 2
  | .str _ => 3
  | .lst _ => 4
  | .tup _ => 5
  | .dic _ => 6
  | .ins _ _ => 7
/-- of another kind, or with a part of another kind -/
inductive Mis : DL.D → DL.D → Prop
  | here {x y : DL.D} (h : kindD x ≠ kindD y) : Mis x y
  | lst {ds : List DL.D} {i : Nat} {d e : DL.D} (h : ds[i]? = some d) (m : Mis d e) : Mis (.lst ds) (.lst (ds.set i e))
  | tup {ds : List DL.D} {i : Nat} {d e : DL.D} (h : ds[i]? = some d) (m : Mis d e) : Mis (.tup ds) (.tup (ds.set i e))
theorem Mis.str {s : Str} {y : DL.D} (h : Mis (.str s) y) : kindD y ≠ 3 := by cases h with | here h => exact fun q => h q.symm
theorem Mis.int {i : Int} {y : DL.D} (h : Mis (.int i) y) : kindD y ≠ 2 := by cases h with | here h => exact fun q => h q.symm
theorem isNm_kind {y : DL.D} (h : kindD y ≠ 3) : isNm y = false := by cases y <;> first | rfl | exact absurd rfl h
theorem isCe_kind {y : DL.D} (h : kindD y ≠ 2) : isCe y = false := by cases y <;> first | rfl | exact absurd rfl h
theorem Mis.cells {cs : List Int} {y : DL.D} (h : Mis (.tup (cs.map DL.D.int)) y) : kindD y ≠ 5 ∨ ∃ es, y = .tup es ∧ es.all isCe = false := by
  cases h with
  | here h => exact .inl fun q => h q.symm
  | tup h m =>
    rw [List.getElem?_map] at h
    obtain ⟨i, h1, rfl⟩ := Option.map_eq_some_iff.mp h
    refine .inr ⟨_, rfl, ?_⟩
    rw [List.all_eq_false]
    refine ⟨_, List.mem_of_getElem? (List.getElem?_set_self (by rw [List.length_map]; exact (List.getElem?_eq_some_iff.mp h1).1)), ?_⟩
    rw [isCe_kind m.int]; simp
theorem Mis.en {a : Str} {c : Int} {cs : List Int} {s : Int} {y : DL.D} (h : Mis (enD a c cs s) y) : isEn y = false := by
  cases h with
  | here h =>
    cases y <;> first | rfl | exact absurd rfl h
  | @tup _ i d e h m =>
    match i, h, m with
    | 0, h, m =>
      obtain rfl : DL.D.str a = d := by injection h
      show (isNm e && _ && _) = false
      rw [isNm_kind m.str]; rfl
    | 1, h, m =>
      obtain rfl : DL.D.int c = d := by injection h
      have := m.int
      show isEn (.tup [.str a, e, .tup (cs.map DL.D.int), .int s]) = false
      cases e <;> first | rfl | exact absurd rfl this
    | 2, h, m =>
      obtain rfl : DL.D.tup (cs.map DL.D.int) = d := by injection h
      show isEn (.tup [.str a, .int c, e, .int s]) = false
      rcases m.cells with q | ⟨es, rfl, q⟩
      · cases e <;> first | rfl | exact absurd rfl q
      · show (_ && (_ && es.all isCe)) = false
        rw [q]; simp
    | 3, h, m =>
      obtain rfl : DL.D.int s = d := by injection h
      show (_ && (isCe e && _)) = false
      rw [isCe_kind m.int]; simp
    | i + 4, h, m => simp at h
theorem isEn_len {ds : List DL.D} (h : ds.length ≠ 4) : isEn (.tup ds) = false := by
  cases e : isEn (.tup ds) with
  | false => rfl
  | true =>
    obtain ⟨a, c, cs, s, e1, _⟩ := isEn_of e
    injection e1 with e1
    rw [e1] at h
    exact absurd rfl h
theorem isEn_ty {x : DL.D} (h : tyB x.ty "tuple" = false) : isEn x = false := by
  cases e : isEn x with
  | false => rfl
  | true =>
    obtain ⟨a, c, cs, s, e1, _⟩ := isEn_of e
    rw [e1] at h
    simp [tyB, DL.D.ty] at h
/-- the parts of four -/
theorem isEn_four {a b d e : DL.D} : isEn (.tup [a, b, d, e]) = (isNm a && b.isI && decide (1 ≤ cInt b) && decide (cInt b ≤ 999) && tyB d.ty "tuple" && isCe e && (match d with | .tup cs => cs.all isCe | _ => false)) := by
  cases b <;> cases d <;> simp [isEn, DL.D.isI, cInt, tyB, DL.D.ty, Bool.and_assoc] <;> rfl
theorem isEn_facts {a b d e : DL.D} (h : isEn (.tup [a, b, d, e]) = true) : isNm a = true ∧ b.isI = true ∧ 1 ≤ cInt b ∧ cInt b ≤ 999 ∧ tyB d.ty "tuple" = true ∧ isCe e = true ∧ ∀ cs, d = .tup cs → cs.all isCe = true := by
  rw [isEn_four] at h
  simp only [Bool.and_eq_true, decide_eq_true_eq] at h
  obtain ⟨⟨⟨⟨⟨⟨h1, h2⟩, h3⟩, h4⟩, h5⟩, h6⟩, h7⟩ := h
  exact ⟨h1, h2, h3, h4, h5, h6, fun cs hc => by subst hc; exact h7⟩
theorem isEn_false {x : DL.D} (h : isEn x = true → False) : isEn x = false := by
  cases q : isEn x with
  | false => rfl
  | true => exact (h q).elim
theorem four_of {ds : List DL.D} (h : ds.length = 4) : ∃ a b d e, ds = [a, b, d, e] := match ds, h with
  | [a, b, d, e], _ => ⟨a, b, d, e, rfl⟩
theorem isSe_en {key : Int} {x : DL.D} (h : isEn x = false) : isSe key x = false := by
  match x with
  | .tup [a, .int c, .tup cs, .int s] =>
    show (isEn _ && _) = false
    rw [h]; rfl
  | .non | .bl _ | .int _ | .str _ | .lst _ | .dic _ | .ins _ _ => rfl
  | .tup ds => 
    unfold isSe
    split
    · next a c cs s e => rw [e] at h; rw [h]; rfl
    · rfl
/-- what may be judged -/
structure JOk (x : DL.D) : Prop where
  pl : DL.D.plD 5 x
  nm : ∀ a r s, x = .tup (a :: r) → a = .str s → s.length ≤ 10000
theorem cut_at {cs : List Int} {k : Nat} (h : k < cs.length) : cs = cs.take k ++ cs[k] :: cs.drop (k + 1) := by
  rw [List.getElem_cons_drop, List.take_append_drop]
theorem cut_at2 {cs : List Int} {k : Nat} (h : k + 1 < cs.length) : cs = cs.take k ++ cs[k] :: cs[k + 1] :: cs.drop (k + 1 + 1) := by
  rw [List.getElem_cons_drop, List.getElem_cons_drop, List.take_append_drop]
theorem set_mid {xs ys : List Int} {x y : Int} {k : Nat} (h : xs.length = k) : (xs ++ x :: ys).set k y = xs ++ y :: ys := by
  rw [List.set_append_right _ _ (by omega), h, Nat.sub_self]; rfl
theorem set_mid2 {xs ys : List Int} {x y p q : Int} {k : Nat} (h : xs.length = k) : ((xs ++ x :: y :: ys).set k p).set (k + 1) q = xs ++ p :: q :: ys := by
  rw [List.set_append_right _ _ (by omega), h, Nat.sub_self, List.set_append_right _ _ (by omega), h, Nat.add_sub_cancel_left]; rfl
/-! ### names that are drawn -/
theorem cL_to {s : Str} {k : Nat} (h : k ≤ s.length) : cL (cutS s none (some (k : Int))) = (cL s).take k := by
  have e0 : HT.sIx s.length 0 none = 0 := rfl
  have e1 : HT.sIx s.length s.length (some (k : Int)) = k := by
    unfold HT.sIx
    simp only
    split <;> omega
  unfold cutS cL
  rw [e0, e1, List.toList_toArray, List.drop_zero, Nat.sub_zero]
theorem cL_from {s : Str} {k : Nat} (h : k ≤ s.length) : cL (cutS s (some (k : Int)) none) = (cL s).drop k := by
  have e0 : HT.sIx s.length 0 (some (k : Int)) = k := by
    unfold HT.sIx
    simp only
    split <;> omega
  have e1 : HT.sIx s.length s.length none = s.length := rfl
  unfold cutS cL
  rw [e0, e1, List.toList_toArray]
  have l : (s.cps.toList).length = s.length := by rw [Array.length_toList]; rfl
  exact List.take_of_length_le (by rw [List.length_drop, l]; exact Nat.le_refl _)
/-- a stem: signs, a letter ahead -/
structure StemOk (l : List Nat) : Prop where
  all : ∀ z ∈ l, z ∈ ltrs ++ dgts
  hd : ∀ z, l[0]? = some z → z ∈ ltrs
theorem StemOk.nil : StemOk [] := ⟨(fun z h => by cases h), (fun z h => by cases h)⟩
theorem StemOk.snoc {l : List Nat} {z : Nat} (h : StemOk l) (hz : z ∈ ltrs ++ dgts) (h0 : l = [] → z ∈ ltrs) : StemOk (l ++ [z]) := by
  refine ⟨fun y hy => ?_, fun y hy => ?_⟩
  · rcases List.mem_append.mp hy with hy | hy
    · exact h.all y hy
    · rw [List.mem_singleton.mp hy]; exact hz
  · match l, h, h0 with
    | [], h, h0 =>
      have : z = y := by simpa using hy
      rw [← this]; exact h0 rfl
    | a :: l, h, h0 => exact h.hd y (by simpa using hy)
theorem StemOk.nm {l : List Nat} (h : StemOk l) (h1 : 1 ≤ l.length) (h8 : l.length ≤ 8) : nmOk l = true := by
  match l, h, h1 with
  | a :: l, h, h1 =>
    unfold nmOk
    rw [decide_eq_true h1, decide_eq_true h8]
    show (true && true && decide (a ∈ ltrs) && _) = true
    rw [decide_eq_true (h.hd a rfl)]
    exact List.all_eq_true.mpr fun z hz => decide_eq_true (h.all z hz)
theorem StemOk.take {l : List Nat} (h : StemOk l) (k : Nat) : StemOk (l.take k) := ⟨fun z hz => h.all z (List.mem_of_mem_take hz), fun z hz => by
  rw [List.getElem?_take] at hz
  split at hz
  · exact h.hd z hz
  · cases hz⟩
theorem StemOk.app {l m : List Nat} (h : StemOk l) (hm : ∀ z ∈ m, z ∈ ltrs ++ dgts) (h0 : l ≠ []) : StemOk (l ++ m) := by
  refine ⟨fun y hy => ?_, fun y hy => ?_⟩
  · rcases List.mem_append.mp hy with hy | hy
    · exact h.all y hy
    · exact hm y hy
  · match l, h, h0 with
    | [], h, h0 => exact absurd rfl h0
    | a :: l, h, h0 => exact h.hd y (by simpa using hy)
def ST_name1 : Sg := fun ps Post => ps = [.own .sto, .d (.int 1)] ∧ ∀ s : Str, isNm (.str s) = true → s.length ≤ 8 → PyData.strOk s = true → Post (.own (.lst [.str s])) [.sto]
theorem stem_sg {s : Str} (h : ∀ z ∈ cL s, z ∈ ltrs ++ dgts) : PyData.strOk s = true := by
  have hb : ∀ z ∈ ltrs ++ dgts, z < 1114112 := by decide +kernel
  exact SgS.ok fun z hz => hb z (h z hz)
theorem nmOk_of {l : List Nat} (h : nmOk l = true) : 1 ≤ l.length ∧ l.length ≤ 8 ∧ (∀ z, l.head? = some z → z ∈ ltrs) ∧ ∀ z ∈ l, z ∈ ltrs ++ dgts := by
  unfold nmOk at h
  obtain ⟨h, h4⟩ := Bool.and_eq_true_iff.mp h
  obtain ⟨h, h3⟩ := Bool.and_eq_true_iff.mp h
  obtain ⟨h1, h2⟩ := Bool.and_eq_true_iff.mp h
  refine ⟨of_decide_eq_true h1, of_decide_eq_true h2, fun z hz => ?_, fun z hz => of_decide_eq_true (List.all_eq_true.mp h4 z hz)⟩
  rw [hz] at h3
  exact of_decide_eq_true h3
theorem nm_false {s : Str} (h : nmOk (cL s) = true → False) : isNm (.str s) = false := by
  show nmOk (cL s) = false
  cases q : nmOk (cL s) with
  | false => rfl
  | true => exact (h q).elim
theorem nm_sign {s : Str} {z : Nat} (hz : z ∈ cL s) (hn : z ∉ ltrs ++ dgts) : isNm (.str s) = false := nm_false fun q => hn ((nmOk_of q).2.2.2 z hz)
theorem nm_long {s : Str} (h : 8 < s.length) : isNm (.str s) = false := nm_false fun q => by
  have := (nmOk_of q).2.1
  rw [cL_len] at this
  omega
/-! ### promises of k47 -/
def KeyOk (key : Int) : Prop := 1 < key ∧ key < ZP
def ST_sealof : Sg := fun ps Post => ∃ (key c : Int) (cs : List Int), ps = [.d (.int key), .d (.int c), .w (.tup (cs.map DL.D.int))] ∧ KeyOk key ∧ 0 ≤ c ∧ c < ZP ∧ (∀ i ∈ cs, 0 ≤ i ∧ i < ZP) ∧ cs.length ≤ 100000 ∧ Post (.d (.int (sealZ key c cs))) []
def ST_sealed : Sg := fun ps Post => ∃ (key c : Int) (a : Str) (cs : List Int), ps = [.d (.int key), .d (.str a), .d (.int c), .w (.tup (cs.map DL.D.int))] ∧ KeyOk key ∧ 0 ≤ c ∧ c < ZP ∧ (∀ i ∈ cs, 0 ≤ i ∧ i < ZP) ∧ cs.length ≤ 100000 ∧ Post (.d (enD a c cs (sealZ key c cs))) []
def ST_isname : Sg := fun ps Post => ∃ x : DL.D, ps = [.w x] ∧ (∀ s, x = .str s → s.length ≤ 10000) ∧ Post (.d (.bl (isNm x))) []
def ST_iscell : Sg := fun ps Post => ∃ x : DL.D, ps = [.w x] ∧ Post (.d (.bl (isCe x))) []
def ST_isentry : Sg := fun ps Post => ∃ x : DL.D, ps = [.w x] ∧ JOk x ∧ Post (.d (.bl (isEn x))) []
def ST_issealed : Sg := fun ps Post => ∃ (key : Int) (x : DL.D), ps = [.d (.int key), .w x] ∧ KeyOk key ∧ JOk x ∧ Post (.d (.bl (isSe key x))) []
def ST_judged47 : Sg := fun ps Post => ∃ (key : Int) (x : DL.D), ps = [.d (.int key), .w x] ∧ KeyOk key ∧ JOk x ∧ Post (.d (.bl true)) []
def ST_changedE : Sg := fun ps Post => ∃ (a : Str) (c : Int) (cs : List Int) (s : Int), ps = [.own .sto, .d (enD a c cs s)] ∧ EnOk a c cs s ∧ ∀ c' cs' s', Chg c cs s c' cs' s' → Post (.d (enD a c' cs' s')) [.sto]
def ST_badname : Sg := fun ps Post => ps = [.own .sto] ∧ ∀ s : Str, isNm (.str s) = false → s.length ≤ 100 → Post (.d (.str s)) [.sto]
def ST_secret : Sg := fun ps Post => ps = [.own .sto] ∧ ∀ key : Int, KeyOk key → Post (.d (.int key)) [.sto]
def ST_cells : Sg := fun ps Post => ∃ m : Nat, ps = [.own .sto, .d (.int (m : Int))] ∧ m ≤ 100 ∧ ∀ cs : List Int, cs.length = m → (∀ i ∈ cs, 0 ≤ i ∧ i < ZP) → Post (.d (.tup (cs.map DL.D.int))) [.sto]
def ST_miskind (k : Nat) : Sg := fun ps Post => ∃ (x : DL.D) (L : Nat), ps = [.own .sto, .d x] ∧ DL.D.vk L k x ∧ 10 ≤ L ∧ kindD x ≠ 1 ∧ ∀ y, DL.D.vk L (k + 1) y → kindD x ≠ kindD y → Post (.d y) [.sto]
def ST_altered (k : Nat) : Sg := fun ps Post => ∃ (x : DL.D) (L : Nat), ps = [.own .sto, .d x] ∧ DL.D.vk L k x ∧ 10 ≤ L ∧ L ≤ 50000 ∧ k ≤ 50 ∧ ∀ y, DL.D.vk (L + 1) (k + 1) y → Post (.d y) [.sto]
/-- no truth values within -/
inductive NoBl : DL.D → Prop
  | int {i : Int} : NoBl (.int i)
  | str {s : Str} : NoBl (.str s)
  | tup {ds : List DL.D} (h : ∀ d ∈ ds, NoBl d) : NoBl (.tup ds)
def ST_bentV (k : Nat) : Sg := fun ps Post => ∃ (x : DL.D) (L : Nat) (b : Bool), ps = [.own .sto, .d x, .d (.bl b)] ∧ DL.D.vk L k x ∧ NoBl x ∧ 10 ≤ L ∧ L ≤ 50000 ∧ k ≤ 50 ∧ ∀ y, DL.D.vk (L + 1) (k + 1) y → (b = true → Mis x y) → Post (.d y) [.sto]
def ST_noentries : Sg := fun ps Post => ∃ (a : Str) (c : Int) (cs : List Int) (s : Int), ps = [.own .sto, .d (enD a c cs s)] ∧ EnOk a c cs s ∧ cs.length ≤ 100 ∧ ∀ vs : List DL.D, vs.length ≤ 50 → (∀ v ∈ vs, JOk v ∧ isEn v = false) → Post (.own (.lst vs)) [.sto]
/-! ### no entries -/
theorem plD_ints {cs : List Int} (h : cs.length ≤ 100000) (k : Nat) : DL.D.plD (k + 1) (.tup (cs.map DL.D.int)) := ⟨by rw [List.length_map]; exact h, fun d hd => by
  obtain ⟨i, _, rfl⟩ := List.mem_map.mp hd
  cases k <;> trivial⟩
theorem plD_intl {cs : List Int} (h : cs.length ≤ 100000) (k : Nat) : DL.D.plD (k + 1) (.lst (cs.map DL.D.int)) := plD_ints h k
theorem plD4 {a : Str} {c s : Int} {d : DL.D} (h : DL.D.plD 4 d) : DL.D.plD 5 (.tup [.str a, .int c, d, .int s]) := ⟨Nat.le_of_ble_eq_true rfl, fun x hx => by
  simp only [List.mem_cons, List.not_mem_nil, or_false] at hx
  rcases hx with rfl | rfl | rfl | rfl
  · trivial
  · trivial
  · exact h
  · trivial⟩
theorem jok4 {a : Str} {c s : Int} {d : DL.D} (h : DL.D.plD 4 d) (ha : a.length ≤ 10000) : JOk (.tup [.str a, .int c, d, .int s]) := ⟨plD4 h, fun x r s' e1 e2 => by
  subst e2
  have : s' = a := by injection e1 with e1; injection e1 with e1 _; injection e1 with e1; exact e1.symm
  rw [this]; exact ha⟩
theorem JOk.ent {a : Str} {c s : Int} {cs : List Int} (ha : a.length ≤ 10000) (h : cs.length ≤ 100000) : JOk (enD a c cs s) := jok4 (plD_ints h 3) ha
theorem EnOk.len {a : Str} {c : Int} {cs : List Int} {s : Int} (h : EnOk a c cs s) : a.length ≤ 8 := by
  have := (nmOk_of (show nmOk (cL a) = true from h.nm)).2.1
  rw [cL_len] at this
  exact this
theorem en_s {a : Str} {c s : Int} {cs : List Int} (h : ¬ (0 ≤ s ∧ s < ZP)) : isEn (enD a c cs s) = false := isEn_false fun q => by
  have := (isEn_facts q).2.2.2.2.2.1
  simp [isCe] at this
  exact h this
theorem en_c {a : Str} {c s : Int} {cs : List Int} (h : ¬ (1 ≤ c ∧ c ≤ 999)) : isEn (enD a c cs s) = false := isEn_false fun q => by
  obtain ⟨_, _, q3, q4, _⟩ := isEn_facts q
  exact h ⟨q3, q4⟩
theorem en_n {a : Str} {c s : Int} {cs : List Int} (h : isNm (.str a) = false) : isEn (enD a c cs s) = false := isEn_false fun q => by
  rw [(isEn_facts q).1] at h; cases h
theorem en_x {a : Str} {c s : Int} {cs : List Int} {i : Int} (hi : i ∈ cs) (h : ¬ (0 ≤ i ∧ i < ZP)) : isEn (enD a c cs s) = false := isEn_false fun q => by
  have := List.all_eq_true.mp ((isEn_facts q).2.2.2.2.2.2 _ rfl) (.int i) (List.mem_map_of_mem hi)
  simp [isCe] at this
  exact h this
theorem JOk.bent {L : Nat} {y : DL.D} (h : DL.D.vk L 4 y) (hL : L ≤ 10000) : JOk y := ⟨((h.pl (by omega)).toD).mono (by decide), fun x r s e1 e2 => by
  subst e1 e2
  have := h.2 (.str s) List.mem_cons_self
  exact Nat.le_trans this.1 hL⟩
theorem vk_ent {a : Str} {c s : Int} {cs : List Int} {L : Nat} (ha : a.length ≤ L) (hs : PyData.strOk a = true) (hl : cs.length ≤ L) (h4 : 4 ≤ L) : DL.D.vk L 2 (enD a c cs s) := ⟨h4, fun x hx => by
  simp only [List.mem_cons, List.not_mem_nil, or_false] at hx
  rcases hx with rfl | rfl | rfl | rfl
  · exact ⟨ha, hs⟩
  · trivial
  · exact ⟨by rw [List.length_map]; exact hl, fun d hd => by
      obtain ⟨i, _, rfl⟩ := List.mem_map.mp hd
      trivial⟩
  · trivial⟩
theorem nobl_ent {a : Str} {c s : Int} {cs : List Int} : NoBl (enD a c cs s) := .tup fun x hx => by
  simp only [List.mem_cons, List.not_mem_nil, or_false] at hx
  rcases hx with rfl | rfl | rfl | rfl
  · exact .str
  · exact .int
  · exact .tup fun d hd => by
      obtain ⟨i, _, rfl⟩ := List.mem_map.mp hd
      exact .int
  · exact .int
end DL

end
section
set_option Elab.async false
set_option linter.all false
set_option autoImplicit true
set_option maxRecDepth 100000
set_option maxHeartbeats 4000000
/-! tuple * int, one time too -/
namespace DL
open PySem PySem.Spec L2
open PyProof.Rows hiding St
theorem tuple_mul1 (l : Addr) (items : Array Value) (n : Nat) (dd : Option Addr) (sl : Array (Option Value)) (u : Tok) :
    Meets (Builtin.«tuple.__mul__» ⟨[.ref l, .int 1 u], []⟩) (fun _ R s => s.heap.get? l = some { cls := .type "tuple", dict := dd, data := .seq items n, slots := sl } ∧ R (.ok (.ret (Value.ref l))) s) :=
  .of_wp fun prog w A R s h => by
    obtain ⟨hp, g, d, tk, os⟩ := s
    obtain ⟨hl, h⟩ := h
    have f1 := AutoSeq1.idx_int
    have c1 : (items.isEmpty || (1 : Int) == 1) = true := by simp
    wp_walk using wpAny_loadPart' hl
    repeat (first
      | (refine wpAny_ite_false (decide_eq_false (by decide)) ?_; wp_walk using wpAny_loadPart' hl)
      | (refine wpAny_ite_true (decide_eq_true c1) ?_; wp_walk using wpAny_loadPart' hl))
    exact ⟨_, rfl, h⟩
theorem op_repT1 {X : Cx} : OpR X (binaryOp .Mult) (fun x y H Q => ∃ l xs, x = .ref l ∧ y = .int 1 ∧ SqT X.K H l xs ∧ Q (.ref l) H) := by
  intro pins s σ H x y v u Q I rx ry h
  obtain ⟨l, xs, rfl, rfl, hT, q⟩ := h
  cases rx
  obtain ⟨t, rfl⟩ := ry
  obtain ⟨its, r, ⟨⟨cls, dd, data, sl⟩, ho, hc, n, hd⟩, hs⟩ := I.tuple hT
  simp only at hc hd
  subst hc hd
  exact wpAny_binaryOp_repeat_ref (T := "tuple") (U := "int") (by decide) ⟨_, ho, rfl⟩ (fun s' => typeIs_int s' 1 t) noFill_tuple_mul F.fills_int_mul F.slot_int_rmul repeat_tuple F.slot_int_index.lookup
    (call_meets F.slot_int_rmul (typeIs_int s 1 t) F.entry_int_rmul (F.args_int_rmul_2 _ _) (int_rmul_tuple 1 t l its.toArray n dd sl)
      ⟨ho, rfl, ⟨_, ho, rfl⟩, call_meets F.slot_tuple_mul ⟨_, ho, rfl⟩ F.entry_tuple_mul (F.args_tuple_mul_2 _ _) (tuple_mul1 l its.toArray n dd sl t) ⟨ho, ⟨.ref l, H, I, rfl, q⟩⟩⟩)
/-- tuple * int, up to 5000 times -/
theorem op_repTM {X : Cx} : OpR X (binaryOp .Mult) (fun x y H Q => ∃ l k xs, x = .ref l ∧ y = .int k ∧ SqT X.K H l xs ∧ xs ≠ [] ∧ 2 ≤ k ∧ k ≤ 5000 ∧ xs.length ≤ 200 ∧ ∀ p, H p = none → Q (.ref p) (upd H p (.tup (List.replicate k.toNat xs).flatten))) := by
  intro pins s σ H x y v u Q I rx ry h
  obtain ⟨l, k, xs, rfl, rfl, hT, hne, h1, h2, hz, q⟩ := h
  cases rx
  obtain ⟨t, rfl⟩ := ry
  obtain ⟨its, r, ⟨⟨cls, dd, data, sl⟩, ho, hc, n, hd⟩, hs⟩ := I.tuple hT
  simp only at hc hd
  subst hc hd
  have hle : its.length = xs.length := r.length.symm
  have hn : its ≠ [] := fun e => hne (List.eq_nil_of_length_eq_zero (by rw [← hle, e]; rfl))
  have hi : its.toArray.isEmpty = false := by
    cases its with
    | nil => exact absurd rfl hn
    | cons a b => rfl
  have hsz0 : its.toArray.size = xs.length := by rw [List.size_toArray, hle]
  have nn : ∀ {P : Prop}, k.toNat * xs.length ≤ 5000 * 200 := fun {_} => Nat.mul_le_mul (by omega) hz
  have hm : ((its.toArray.size : Nat) : Int) * k ≤ 1000000 := by
    rw [hsz0]
    have := Int.mul_le_mul_of_nonneg_right (c := k) (show ((xs.length : Nat) : Int) ≤ 200 by omega) (by omega)
    omega
  have flen : (List.replicate k.toNat its).flatten.length ≤ sizeLine := by
    rw [PyProof.Rows.lm_len_rep_flat, hle, sizeLine_eq]
    have := @nn True
    omega
  have c0 : (decide (k < -(2 ^ 63)) || decide (k ≥ 2 ^ 63)) = false := by
    rw [decide_eq_false (by omega), decide_eq_false (by omega)] <;> rfl
  have c1 : (its.toArray.isEmpty || k == 1) = false := by rw [hi, Bool.false_or]; exact beq_eq_false_iff_ne.mpr (by omega)
  have c2 : (decide (k ≤ 0) || its.toArray.isEmpty) = false := by rw [hi, Bool.or_false]; exact decide_eq_false (by omega)
  have c4 : Builtin.Tuple.tupleTooMany (((its.toArray.size : Nat) : Int) * k) = false := by
    unfold Builtin.Tuple.tupleTooMany
    rw [sizeLine_eq]
    exact decide_eq_false (by omega)
  refine wpAny_binaryOp_repeat_ref (T := "tuple") (U := "int") (by decide) ⟨_, ho, rfl⟩ (fun s' => typeIs_int s' k t) noFill_tuple_mul F.fills_int_mul F.slot_int_rmul repeat_tuple F.slot_int_index.lookup
    (call_meets F.slot_int_rmul (typeIs_int s k t) F.entry_int_rmul (F.args_int_rmul_2 _ _) (int_rmul_tuple k t l its.toArray n dd sl)
      ⟨ho, rfl, ⟨_, ho, rfl⟩, call_meets F.slot_tuple_mul ⟨_, ho, rfl⟩ F.entry_tuple_mul (F.args_tuple_mul_2 _ _) (tuple_mulW l its.toArray n dd sl k t c0 c1 c2 (by omega) c4 (by rw [size_rep, List.size_toArray]; exact flen)) ⟨ho, ?_⟩⟩)
  rw [size_rep]
  refine ⟨.ref s.heap.objs.size, _, I.laid (t' := s.toks) (o := .tup (List.replicate k.toNat xs).flatten) (fun b ob q => Heap.get?_push_of_some _ q) (Nat.le_refl _) ?_, rfl, q _ (I.hok.fresh (Nat.le_refl _))⟩
  exact ⟨by rw [PyProof.Rows.lm_len_rep_flat, sizeLine_eq]; have := @nn True; omega, _, r.rep k.toNat, IsTup.new _ _⟩
section
variable {X : Cx} {n : Nm} {c : Cc} {Γ : SL} {a b : Expr} {pos : Pos}
theorem ev_repT {m : Nat} {xs : List DL.D} (ha : EV X n c Γ a (.tup xs)) (hb : EV X n c Γ b (.int (m : Int))) (h1 : 1 ≤ m) (hm : m ≤ 5000) (hz : xs.length ≤ 200) (hne : xs ≠ []) : EV X n c Γ (.BinOp a .Mult b pos) (.tup (List.replicate m xs).flatten) := by
  by_cases h : m = 1
  · subst h
    refine .mk fun hn σ R H s Q q => ?_
    refine (pe_op op_repT1 pW pW).w (ha.run hn σ R H s _ fun v R1 H1 ob Γ1 s1 e1 r1 ⟨p1, p2⟩ => ?_)
    subst p1 p2
    refine hb.run hn σ R1 H1 s1 _ fun w R2 H2 x2 Γ2 s2 e2 r2 ⟨p1, p2⟩ => ?_
    subst p1 p2
    cases (show w = _ from r2)
    have r3 := Rp.mono e2 _ _ r1
    obtain ⟨t, vs, rfl, hT, hr⟩ := id r3
    refine ⟨t, vs, rfl, rfl, ex_t s2.rh hT, q _ R2 H2 _ _ s2 (e1.trans e2) ?_ ⟨rfl, rfl⟩⟩
    have e : (List.replicate 1 xs).flatten = xs := by simp
    rw [e]; exact r3
  · refine .mk fun hn σ R H s Q q => ?_
    refine (pe_op op_repTM pW pW).w (ha.run hn σ R H s _ fun v R1 H1 ob Γ1 s1 e1 r1 ⟨p1, p2⟩ => ?_)
    subst p1 p2
    refine hb.run hn σ R1 H1 s1 _ fun w R2 H2 x2 Γ2 s2 e2 r2 ⟨p1, p2⟩ => ?_
    subst p1 p2
    cases (show w = _ from r2)
    have r3 := Rp.mono e2 _ _ r1
    obtain ⟨t, vs, rfl, hT, hr⟩ := id r3
    have lv := hr.length
    refine ⟨t, (m : Int), vs, rfl, rfl, ex_t s2.rh hT, fun z => hne (by rw [z] at lv; exact List.eq_nil_of_length_eq_zero lv), by omega, by omega, by omega, fun l hl => ?_⟩
    have g := s2.new (.tup (List.replicate m vs).flatten) hl
    have hf : ∀ k, RpL X.K R2 (List.replicate k xs).flatten (List.replicate k vs).flatten := fun k => by
      induction k with
      | zero => exact RpL.nil
      | succ k ih => rw [List.replicate_succ, List.replicate_succ, List.flatten_cons, List.flatten_cons]; exact hr.append ih
    exact q _ _ _ (.tup (List.replicate m xs).flatten) _ (s2.grow g) ((e1.trans e2).trans g.r) ⟨l, _, rfl, .inl (.inl upd_same), (hf m).mono g.r⟩ ⟨rfl, rfl⟩
end
end DL

end
section
set_option Elab.async false
set_option linter.all false
set_option maxRecDepth 100000
set_option maxHeartbeats 1000000
namespace Lw
open PySem L2 DL
def top (i : Nat) : Stmt := PySem.Challenge.pw_clockverdict_k47_changed_entries.main.body.getD i (.Pass ⟨0, 0, 0, 0⟩)
abbrev v_MODULUS : D := .int 2147483647
abbrev v_LETTERS : D := .str "abcdefghijklmnopqrstuvwxyz"
abbrev v_DIGITS : D := .str "0123456789"

/-! _law_store -/
abbrev s_l_store : Stmt := top 13
abbrev n_l_store : Nm := { N := ["_law_script"], V := [0], as := [0], GN := ["list"], k := 0, oi := [], lc := [0], sc := none }
theorem sc_l_store : FnScope n_l_store.N ["_law_script"] (defScope s_l_store) := ⟨rfl, rfl, rfl, by decide +kernel, rfl, by decide +kernel, by decide +kernel⟩
theorem sb_l_store : ScOk (defScope s_l_store) n_l_store := scOk_of (by decide +kernel)
abbrev S_l_store : Sg := ST_store
theorem bd_l_store {X : Cx} {c : Cc} (b_list : Blt X "list" (.type "list")) : ∀ ps Post, S_l_store ps Post → WB X n_l_store c (entry n_l_store.N ps) (defBody s_l_store) (fnD n_l_store.oi Post) := by
  rintro ps Post ⟨ns, rfl, hz, post⟩
  show WB X n_l_store c [.sc ns] _ _
  refine wb_one (ws_retO (wo_lst (wa_cons (wk_e (we_frz (wo_of (eo_listSc b_list 0 0) ⟨_, rfl, wa_cons (wk_e (we_of ev_int (wa_cons (wk_e (we_of ev_int (wa_cons (wk_e (we_of ev_int (wa_cons (wk_e (we_of ev_int (wa_cons (wk_e (we_of ev_int (wa_nil ?_)))))))))))))))⟩))))))
  refine ⟨_, rfl, Nat.le_of_ble_eq_true rfl, .own .sto, [], .inr ⟨rfl, ns, 0, 0, 1, 0, 0, rfl, ?_⟩, rfl, post⟩
  exact ⟨hz, ⟨by omega, by omega⟩, by omega, ⟨by omega, by omega⟩, ⟨by omega, by omega⟩, by omega⟩


/-! _law_feed -/
abbrev s_l_feed : Stmt := top 14
abbrev n_l_feed : Nm := { N := ["_law_store_here", "_law_cell"], V := [0, 1], as := [0, 1], GN := ["int", "abs"], k := 0, oi := [0], lc := [0, 1], sc := none }
theorem sc_l_feed : FnScope n_l_feed.N ["_law_store_here"] (defScope s_l_feed) := ⟨rfl, rfl, rfl, by decide +kernel, rfl, by decide +kernel, by decide +kernel⟩
theorem sb_l_feed : ScOk (defScope s_l_feed) n_l_feed := scOk_of (by decide +kernel)
abbrev S_l_feed : Sg := ST_feed
theorem bd_l_feed {X : Cx} {c : Cc} (b_int : Blt X "int" (.type "int")) (b_abs : Blt X "abs" (.builtin "abs")) : ∀ ps Post, S_l_feed ps Post → WB X n_l_feed c (entry n_l_feed.N ps) (defBody s_l_feed) (fnD n_l_feed.oi Post) := by
  rintro ps Post ⟨ns, pl, great, st, left, cnt, rfl, ⟨b1, ⟨b2, b3⟩, b4, ⟨b5, b6⟩, ⟨b7, b8⟩, b9⟩, hp, post⟩
  show WB X n_l_feed c [.own (.lst (stoD ns pl great st left cnt)), .no] _ _
  obtain ⟨cell, hc⟩ : ∃ cell : Int, ns[pl]? = some cell := ⟨_, List.getElem?_eq_getElem hp⟩
  refine wb_cons (ws_set 1 (we_of (ev_toint b_int 0 (ev_ixt (ev_ix (ek_s 0) ev_int rfl) (ev_ix (ek_s 0) ev_int rfl) (at_lst (z := .int cell) (by rw [List.getElem?_map, hc]; rfl)))) ?_))
  refine wb_cons (ws_setIx 0 (we_of (ev_add (ev_ix (ek_s 0) ev_int rfl) ev_int) (we_of ev_int ⟨_, _, 1, rfl, rfl, rfl, ?_⟩)))
  refine wb_cons (ws_setIx 0 (we_of (ev_mod (ev_toint b_int 0 (ev_add (ev_mul64 (ev_ix (ek_s 0) ev_int rfl) ev_int (.inr ⟨by decide, by decide⟩)) (ev_var 1))) ev_int (by decide)) (we_of ev_int ⟨_, _, 3, rfl, rfl, rfl, ?_⟩)))
  have m1 : 0 ≤ (st * 30011 + cell).fmod 1000000007 := Int.fmod_nonneg_of_pos _ (by decide)
  have m2 : (st * 30011 + cell).fmod 1000000007 < 1000000007 := Int.fmod_lt_of_pos _ (by decide)
  refine wb_one (ws_ifE (EW.t (ew_or (et_ge (ev_var 1) (ev_pow ev_int ev_int ⟨by decide, by decide, by decide⟩)) fun _ => ew_or1 (et_le (ev_var 1) (ev_sub ev_int (ev_pow ev_int ev_int ⟨by decide, by decide, by decide⟩))))) (fun h => wb_one (ws_setIx 0 (we_of (ev_abs b_abs 1 (ev_var 1)) (we_of ev_int ⟨_, _, 2, rfl, rfl, rfl, ?_⟩)))) (fun h => wb_one (ws_setIx 0 (we_of ev_int (we_of ev_int ⟨_, _, 4, rfl, rfl, rfl, ?_⟩)))))
  · refine ⟨[.sto], ⟨_, .sto, [], rfl, rfl, .inr ⟨rfl, ns, (pl : Int) + 1, if cell < 0 then -cell else cell, (st * 30011 + cell).fmod 1000000007, left, cnt, rfl, ?_⟩, rfl⟩, post⟩
    exact ⟨b1, ⟨by omega, by omega⟩, by split <;> omega, ⟨m1, m2⟩, ⟨b7, b8⟩, b9⟩
  · refine ⟨[.sto], ⟨_, .sto, [], rfl, rfl, .inr ⟨rfl, ns, (pl : Int) + 1, great, (st * 30011 + cell).fmod 1000000007, 3, cnt, rfl, ?_⟩, rfl⟩, post⟩
    exact ⟨b1, ⟨by omega, by omega⟩, b4, ⟨m1, m2⟩, ⟨by omega, by omega⟩, b9⟩


/-! _law_mixed -/
abbrev s_l_mixed : Stmt := top 15
abbrev n_l_mixed : Nm := { N := ["_law_store_here"], V := [0], as := [0], GN := ["int"], k := 0, oi := [0], lc := [0], sc := none }
theorem sc_l_mixed : FnScope n_l_mixed.N ["_law_store_here"] (defScope s_l_mixed) := ⟨rfl, rfl, rfl, by decide +kernel, rfl, by decide +kernel, by decide +kernel⟩
theorem sb_l_mixed : ScOk (defScope s_l_mixed) n_l_mixed := scOk_of (by decide +kernel)
abbrev S_l_mixed : Sg := ST_mixed
theorem bd_l_mixed {X : Cx} {c : Cc} (b_int : Blt X "int" (.type "int")) : ∀ ps Post, S_l_mixed ps Post → WB X n_l_mixed c (entry n_l_mixed.N ps) (defBody s_l_mixed) (fnD n_l_mixed.oi Post) := by
  rintro ps Post ⟨ns, place, great, st, left, cnt, rfl, ⟨b1, ⟨b2, b3⟩, b4, ⟨b5, b6⟩, ⟨b7, b8⟩, b9⟩, post⟩
  show WB X n_l_mixed c [.own (.lst (stoD ns place great st left cnt))] _ _
  refine wb_cons (ws_setIx 0 (we_of (ev_add (ev_ix (ek_s 0) ev_int rfl) ev_int) (we_of ev_int ⟨_, _, 5, rfl, rfl, rfl, ?_⟩)))
  refine wb_cons (ws_setIx 0 (we_of (ev_mod (ev_toint b_int 0 (ev_add (ev_add (ev_mul64 (ev_ix (ek_s 0) ev_int rfl) ev_int (.inr ⟨by decide, by decide⟩)) (ev_mul64 (ev_ix (ek_s 0) ev_int rfl) ev_int (.inr ⟨by decide, by decide⟩))) ev_int)) ev_int (by decide)) (we_of ev_int ⟨_, _, 3, rfl, rfl, rfl, ?_⟩)))
  have m1 : 0 ≤ (st * 70003 + (cnt + 1) * 1009 + 1).fmod 1000000007 := Int.fmod_nonneg_of_pos _ (by decide)
  have m2 : (st * 70003 + (cnt + 1) * 1009 + 1).fmod 1000000007 < 1000000007 := Int.fmod_lt_of_pos _ (by decide)
  refine wb_one (ws_ret (we_of (ev_mod (ev_toint b_int 0 (ev_add (ev_mul64 (ev_ix (ek_s 0) ev_int rfl) ev_int (.inr ⟨by decide, by decide⟩)) (ev_fdiv (ev_ix (ek_s 0) ev_int rfl) ev_int ⟨by decide, by decide⟩))) ev_int (by decide)) ?_))
  refine ⟨_, [.sto], rfl, ⟨_, .sto, [], rfl, rfl, .inr ⟨rfl, ns, place, great, (st * 70003 + (cnt + 1) * 1009 + 1).fmod 1000000007, left, cnt + 1, rfl, ?_⟩, rfl⟩, post _ (Int.fmod_nonneg_of_pos _ (by decide)) (Int.fmod_lt_of_pos _ (by decide))⟩
  exact ⟨b1, ⟨b2, b3⟩, b4, ⟨m1, m2⟩, ⟨b7, b8⟩, by omega⟩


/-! _law_take -/
abbrev s_l_take : Stmt := top 16
abbrev n_l_take : Nm := { N := ["_law_store_here", "_law_many", "_law_number"], V := [0, 1, 2], as := [0, 1, 2], GN := ["max", "len", "_law_feed", "int", "_law_mixed"], k := 1, oi := [0], lc := [0, 1, 2], sc := none }
theorem sc_l_take : FnScope n_l_take.N ["_law_store_here", "_law_many"] (defScope s_l_take) := ⟨rfl, rfl, rfl, by decide +kernel, rfl, by decide +kernel, by decide +kernel⟩
theorem sb_l_take : ScOk (defScope s_l_take) n_l_take := scOk_of (by decide +kernel)
abbrev S_l_take : Sg := ST_take
theorem bd_l_take {X : Cx} {c : Cc} (b_max : Blt X "max" (.builtin "max")) (b_len : Blt X "len" (.builtin "len")) (c_l_feed : CalF X n_l_take.k "_law_feed" S_l_feed) (b_int : Blt X "int" (.type "int")) (c_l_mixed : CalF X n_l_take.k "_law_mixed" S_l_mixed) : ∀ ps Post, S_l_take ps Post → WB X n_l_take c (entry n_l_take.N ps) (defBody s_l_take) (fnD n_l_take.oi Post) := by
  rintro ps Post ⟨many0, rfl, hB, post⟩
  show WB X n_l_take c [.own .sto, .d (.int many0), .no] _ _
  refine wb_cons (ws_set 1 (we_of (ev_max b_max 0 ev_int (ev_var 1)) ?_))
  generalize hm : (if many0 > 1 then many0 else 1) = many at *
  have h1 : 1 ≤ many := by rw [← hm]; split <;> omega
  have hB' : Bt 8000 many := by
    rw [← hm]; split
    · exact hB
    · show Int.natAbs 1 < 2 ^ 8000
      exact Nat.one_lt_two_pow (by decide)
  have hd : ∀ i, CDivA i many := fun i => hB'.cd (by omega) (by decide)
  have k0 : ∀ i : Int, 0 ≤ i.fmod many := fun i => Int.fmod_nonneg_of_pos _ (by omega)
  have k1 : ∀ i : Int, i.fmod many < many := fun i => Int.fmod_lt_of_pos _ (by omega)
  refine wb_open 0 rfl fun ns place great st left cnt hs => ?_
  refine wb_cut (fun Γ => Γ = [.own .sto, .d (.int many), .no] ∨ ∃ ns place great st left cnt, StoreB ns place great st left cnt ∧ Γ = [.own (.lst (stoD ns place great st left cnt)), .d (.int many), .no]) (ws_ifE (EW.t (ew_and (et_eq (ev_ix (ek_s 0) ev_int rfl) ev_int) fun _ => ew_and (et_eq (ev_ix (ek_s 0) ev_int rfl) ev_int) fun _ => ew_and1 (et_lt (ev_ix (ek_s 0) ev_int rfl) (ev_len (x := .lst (ns.map .int)) (m := (ns.map D.int).length) b_len 1 (ek_d (ev_ix (ek_s 0) ev_int rfl)))))) (fun h => ?_) (fun h => wb_nil (.inr ⟨ns, place, great, st, left, cnt, hs, rfl⟩))) ?_
  · refine wb_one (ws_expr (we_callE c_l_feed 2 (ea_cons (ek_o 0) ea_nil) ?_))
    have hp : place < (ns.length : Int) := by
      have := h
      simp only [Bool.and_eq_true, decide_eq_true_eq, List.length_map] at this
      exact this.2.2
    have hp0 : 0 ≤ place := hs.2.1.1
    obtain ⟨pl, rfl⟩ := Int.eq_ofNat_of_zero_le hp0
    exact ⟨ns, pl, great, st, left, cnt, rfl, hs, by omega, .non, rfl, .inl rfl⟩
  have main : ∀ ns place great st left cnt, StoreB ns place great st left cnt → WB X n_l_take c [.own (.lst (stoD ns place great st left cnt)), .d (.int many), .no] (List.drop 2 (defBody s_l_take)) (fnD (n_l_take).oi Post) := by
    intro ns place great st left cnt hs
    have ⟨b1, ⟨b2, b3⟩, b4, ⟨b5, b6⟩, ⟨b7, b8⟩, b9⟩ := hs
    refine wb_cut (fun Γ => Γ = [.own (.lst (stoD ns place great st left cnt)), .d (.int many), .no]) (ws_ifE (et_gt (ev_ix (ek_s 0) ev_int rfl) ev_int) (fun h => ?_) (fun h => wb_nil rfl)) ?_
    · have hg : 0 < great := of_decide_eq_true h
      refine wb_cons (ws_set 2 (we_of (ev_ix (ek_s 0) ev_int rfl) ?_))
      refine wb_cons (ws_setIx 0 (we_of (ev_fdiv (ev_var 2) (ev_var 1) (hd _)) (we_of ev_int ⟨_, _, 2, rfl, rfl, rfl, ?_⟩)))
      refine wb_one (ws_ret (we_of (ev_mod (ev_toint b_int 3 (ev_var 2)) (ev_var 1) (by omega)) ?_))
      refine ⟨_, [.sto], rfl, ⟨_, .sto, [], rfl, rfl, .inr ⟨rfl, ns, place, great.fdiv many, st, left, cnt, rfl, ?_⟩, rfl⟩, post _ (k0 _) (k1 _)⟩
      exact ⟨b1, ⟨b2, b3⟩, Int.fdiv_nonneg b4 (by omega), ⟨b5, b6⟩, ⟨b7, b8⟩, b9⟩
    rintro Γ rfl
    refine wb_cons (ws_setIx 0 (we_of (ev_max b_max 0 ev_int (ev_sub (ev_ix (ek_s 0) ev_int rfl) ev_int)) (we_of ev_int ⟨_, _, 4, rfl, rfl, rfl, ?_⟩)))
    refine wb_cons (ws_set 2 (we_callE c_l_mixed 4 (ea_cons (ek_o 0) ea_nil) ?_))
    refine ⟨ns, place, great, st, if left - 1 > 0 then left - 1 else 0, cnt, rfl, ⟨b1, ⟨b2, b3⟩, b4, ⟨b5, b6⟩, by constructor <;> split <;> omega, b9⟩, fun m m0 m1 => ⟨.int m, rfl, ?_⟩⟩
    show WB X n_l_take c [.own .sto, .d (.int many), .d (.int m)] _ _
    refine wb_open 0 rfl fun ns place great st left cnt hs => ?_
    refine wb_cut (fun Γ => ∃ (o : OB) (m : Int), Γ = [.own o, .d (.int many), .d (.int m)] ∧ o.le .sto) (ws_ifE (et_gt (ev_var 1) ev_int) (fun h => wb_one (ws_set 2 ?_)) (fun h => wb_nil ⟨_, m, rfl, .inr ⟨rfl, ns, place, great, st, left, cnt, rfl, hs⟩⟩)) ?_
    · refine we_bin dop_add (wk_e (we_of (ev_var 2) (wk_e (we_bin dop_mul64 (wk_e (we_callE c_l_mixed 4 (ea_cons (ek_o 0) ea_nil) ⟨ns, place, great, st, left, cnt, rfl, hs, fun m2 _ _ => ⟨.int m2, rfl, wk_e (we_of ev_int ⟨_, _, rfl, rfl, m2, 1000000009, rfl, rfl, .inr ⟨by decide, by decide⟩, ?_⟩)⟩⟩))))))
      exact ⟨_, _, rfl, rfl, _, _, rfl, rfl, trivial, .sto, _, rfl, .inl rfl⟩
    rintro Γ ⟨o, m, rfl, ho⟩
    refine wb_one (ws_ret (we_of (ev_mod (ev_toint b_int 3 (ev_var 2)) (ev_var 1) (by omega)) ?_))
    exact ⟨_, [.sto], rfl, ⟨o, .sto, [], rfl, rfl, ho, rfl⟩, post _ (k0 _) (k1 _)⟩
  rintro Γ (rfl | ⟨ns, place, great, st, left, cnt, hs, rfl⟩)
  · exact wb_open 0 rfl fun ns place great st left cnt hs => main ns place great st left cnt hs
  · exact main ns place great st left cnt hs


/-! _law_pick -/
abbrev s_l_pick : Stmt := top 17
abbrev n_l_pick : Nm := { N := ["_law_store_here", "_law_things"], V := [0, 1], as := [0, 1], GN := ["_law_take", "len"], k := 2, oi := [0], lc := [0, 1], sc := none }
theorem sc_l_pick : FnScope n_l_pick.N ["_law_store_here", "_law_things"] (defScope s_l_pick) := ⟨rfl, rfl, rfl, by decide +kernel, rfl, by decide +kernel, by decide +kernel⟩
theorem sb_l_pick : ScOk (defScope s_l_pick) n_l_pick := scOk_of (by decide +kernel)
abbrev S_l_pick : Sg := ST_pick
theorem bd_l_pick {X : Cx} {c : Cc} (c_l_take : CalF X n_l_pick.k "_law_take" S_l_take) (b_len : Blt X "len" (.builtin "len")) : ∀ ps Post, S_l_pick ps Post → WB X n_l_pick c (entry n_l_pick.N ps) (defBody s_l_pick) (fnD n_l_pick.oi Post) := by
  rintro ps Post ⟨x, m, rfl, hm, hz, h0, h1, hat, post⟩
  show WB X n_l_pick c [.own .sto, .w x] _ _
  refine wb_one (ws_ret (we_ix di_seq (wk_ek (ek_s 1) (wk_e (we_take c_l_take 0 0 (we_of (ev_len b_len 1 (ek_s 1) hm hz) ⟨rfl, m, rfl, h0, bt64 h1, fun k hk => ?_⟩))))))
  obtain ⟨y, hy⟩ := hat k hk
  exact ⟨x, _, rfl, rfl, k, y, rfl, hy, .d y, [.sto], rfl, ⟨.sto, .sto, [], rfl, rfl, .inl rfl, rfl⟩, post k y hk hy⟩


/-! _law_secret -/
abbrev s_l_secret : Stmt := top 28
abbrev n_l_secret : Nm := { N := ["_law_store_here"], V := [0], as := [0], GN := ["_law_pick", "_law_take"], k := 3, oi := [0], lc := [0], sc := none }
theorem sc_l_secret : FnScope n_l_secret.N ["_law_store_here"] (defScope s_l_secret) := ⟨rfl, rfl, rfl, by decide +kernel, rfl, by decide +kernel, by decide +kernel⟩
theorem sb_l_secret : ScOk (defScope s_l_secret) n_l_secret := scOk_of (by decide +kernel)
abbrev S_l_secret : Sg := ST_secret
theorem bd_l_secret {X : Cx} {c : Cc} (c_l_pick : CalF X n_l_secret.k "_law_pick" S_l_pick) (c_l_take : CalF X n_l_secret.k "_law_take" S_l_take) : ∀ ps Post, S_l_secret ps Post → WB X n_l_secret c (entry n_l_secret.N ps) (defBody s_l_secret) (fnD n_l_secret.oi Post) := by
  rintro ps Post ⟨rfl, post⟩
  show WB X n_l_secret c [.own .sto] _ _
  have bk : ∀ {r : SL}, Backs (.own .sto :: r) [0] [.sto] := fun {r} => ⟨.sto, .sto, [], rfl, rfl, .inl rfl, rfl⟩
  refine wb_one (ws_ret (we_pick c_l_pick 0 0 (we_frz (wo_lst (wa_cons (wk_e (we_of ev_int (wa_cons (wk_e (we_of ev_int (wa_cons (wk_e (we_of ev_int (wa_cons (wk_e (we_addL ev_int (we_takeI (m := 2147483645) c_l_take 1 0 fun k1 h1 => ⟨_, rfl, wa_cons (wk_e (we_addL ev_int (we_takeI (m := 2147483645) c_l_take 1 0 fun k2 h2 => ⟨_, rfl, wa_nil ⟨_, rfl, Nat.le_of_ble_eq_true rfl, _, rfl, rfl, _, rfl, by simp, by simp, fun y hy => ?_⟩⟩)))⟩)))))))))))))))))
  have z : ZP = 2147483647 := rfl
  have : ∃ key : Int, y = .int key ∧ KeyOk key := by
    simp only [List.mem_cons, List.not_mem_nil, or_false] at hy
    rcases hy with rfl | rfl | rfl | rfl | rfl
    · exact ⟨2, rfl, by decide, by decide⟩
    · exact ⟨2147483646, rfl, by decide, by decide⟩
    · exact ⟨3, rfl, by decide, by decide⟩
    · exact ⟨_, rfl, by omega, by omega⟩
    · exact ⟨_, rfl, by omega, by omega⟩
  obtain ⟨key, rfl, hk⟩ := this
  exact ⟨_, _, rfl, bk, post key hk⟩


/-! _law_names -/
abbrev s_l_names : Stmt := top 25
abbrev n_l_names : Nm := { N := ["_law_store_here", "_law_many", "_law_letters", "_law_signs", "_law_stem", "_law_k", "_law_place", "_law_menu", "_law_first", "_law_step", "_law_cut", "_law_names_here", "_law_sign", "_law_name"], V := [0, 1, 2, 3, 4, 5, 6, 7, 8, 9, 10, 11, 12, 13], as := [0, 1, 2, 3, 4, 5, 6, 7, 8, 9, 10, 11, 12, 13], GN := ["range", "_law_take", "int", "_law_pick", "len", "str"], k := 3, oi := [0], lc := [0, 1, 2, 3, 4, 5, 6, 7, 8, 9, 10, 11, 12, 13], sc := none }
theorem sc_l_names : FnScope n_l_names.N ["_law_store_here", "_law_many"] (defScope s_l_names) := ⟨rfl, rfl, rfl, by decide +kernel, rfl, by decide +kernel, by decide +kernel⟩
theorem sb_l_names : ScOk (defScope s_l_names) n_l_names := scOk_of (by decide +kernel)
abbrev S_l_names : Sg := ST_name1
theorem bd_l_names {X : Cx} {c : Cc} (b_range : Blt X "range" (.type "range")) (c_l_take : CalF X n_l_names.k "_law_take" S_l_take) (b_int : Blt X "int" (.type "int")) (c_l_pick : CalF X n_l_names.k "_law_pick" S_l_pick) (b_len : Blt X "len" (.builtin "len")) (b_str : Blt X "str" (.type "str")) : ∀ ps Post, S_l_names ps Post → WB X n_l_names c (entry n_l_names.N ps) (defBody s_l_names) (fnD n_l_names.oi Post) := by
  rintro ps Post ⟨rfl, post⟩
  show WB X n_l_names c [.own .sto, .d (.int 1), .no, .no, .no, .no, .no, .no, .no, .no, .no, .no, .no, .no] _ _
  have bk : ∀ {r : SL}, Backs (.own .sto :: r) [0] [.sto] := fun {r} => ⟨.sto, .sto, [], rfl, rfl, .inl rfl, rfl⟩
  have sl : sizeLine = 16777216 := sizeLine_eq
  have l26 : (cL "abcdefghijklmnopqrstuvwxyz") = ltrs := rfl
  have l26n : ("abcdefghijklmnopqrstuvwxyz" : Str).length = 26 := by decide +kernel
  refine wb_cut (fun Γ => Γ = [.own .sto, .d (.int 1), .d (.str "abcdefghijklmnopqrstuvwxyz"), .no, .no, .no, .no, .no, .no, .no, .no, .no, .no, .no]) (ws_set 2 (we_of ev_str rfl)) ?_
  rintro Γ rfl
  refine wb_cut (fun Γ => ∃ si : Str, Γ = [.own .sto, .d (.int 1), .d (.str "abcdefghijklmnopqrstuvwxyz"), .d (.str si), .no, .no, .no, .no, .no, .no, .no, .no, .no, .no] ∧ cL si = ltrs ++ dgts ∧ si.length = 36) (ws_set 3 (we_of (ev_addS (ev_var 2) ev_str (by rw [l26n, sl]; decide +kernel)) ⟨_, rfl, by rw [app_cL]; rfl, by rw [app_len, l26n]; decide +kernel⟩)) ?_
  rintro Γ ⟨si, rfl, csi, hsi⟩
  refine wb_cut (fun Γ => Γ = [.own .sto, .d (.int 1), .d (.str "abcdefghijklmnopqrstuvwxyz"), .d (.str si), .d (.str ""), .no, .no, .no, .no, .no, .no, .no, .no, .no]) (ws_set 4 (we_of ev_str rfl)) ?_
  rintro Γ rfl
  refine wb_cut (fun Γ => ∃ (st : Str) (u5 : DL.Slot), Γ = [.own .sto, .d (.int 1), .d (.str "abcdefghijklmnopqrstuvwxyz"), .d (.str si), .d (.str st), u5, .no, .no, .no, .no, .no, .no, .no, .no] ∧ st.length ≤ 7 ∧ StemOk (cL st)) (ws_forR1d 5 (fun i Γ => ∃ (st : Str) (u5 : DL.Slot), Γ = [.own .sto, .d (.int 1), .d (.str "abcdefghijklmnopqrstuvwxyz"), .d (.str si), .d (.str st), u5, .no, .no, .no, .no, .no, .no, .no, .no] ∧ st.length = i ∧ StemOk (cL st)) (fun k => k ≤ 7) b_range 0 (we_take c_l_take 1 0 (we_of (ev_is (y := .int ((8 : Nat) : Int)) (ev_sub ev_int (ev_tointb b_int 2 (ev_gt (ev_var 1) ev_int))) rfl) ⟨rfl, _, rfl, by decide, bt64 (by decide), fun k hk => ⟨k, rfl, by omega, by omega, "", _, rfl, rfl, StemOk.nil⟩⟩)) (fun k hk i Γ hi => ?_) (fun k Γ hk ⟨st, u5, e, h, h2⟩ => ⟨st, u5, e, by omega, h2⟩)) ?_
  · rintro ⟨st, u5, rfl, hst, sgt⟩
    show WB X n_l_names c [.own .sto, .d (.int 1), .d (.str "abcdefghijklmnopqrstuvwxyz"), .d (.str si), .d (.str st), .d (.int (i : Int)), .no, .no, .no, .no, .no, .no, .no, .no] _ _
    have c0 : (cL st).length = i := by rw [← hst]; unfold cL; rw [Array.length_toList]; rfl
    have one : ∀ ch : Str, ch.length = 1 → ∃ z, cL ch = [z] := fun ch hc => by
      have : (cL ch).length = 1 := by rw [← hc]; unfold cL; rw [Array.length_toList]; rfl
      match cL ch, this with
      | [z], _ => exact ⟨z, rfl⟩
    refine wb_one (ws_set 4 (we_bin dop_addS (wk_ek (ek_d (ev_var 4)) (wk_e (we_pickStrZ c_l_pick 3 0 (we_if (wt_of (et_eq (ev_var 5) ev_int) ⟨fun q => we_of (ev_var 2) ⟨rfl, _, rfl, by decide +kernel, by decide +kernel, fun ch hc hs => ?_⟩, fun q => we_of (ev_var 3) ⟨rfl, si, rfl, by omega, by omega, fun ch hc hs => ?_⟩⟩)))))))
    · obtain ⟨z, hz⟩ := one ch hc
      refine ⟨.str st, .str ch, rfl, rfl, st, ch, rfl, rfl, by omega, st ++ ch, .d (.int (i : Int)), rfl, by rw [app_len]; omega, ?_⟩
      have hz2 := hs z (by rw [hz]; exact List.mem_cons_self)
      rw [l26] at hz2
      rw [app_cL, hz]
      exact sgt.snoc (List.mem_append_left _ hz2) fun _ => hz2
    · obtain ⟨z, hz⟩ := one ch hc
      refine ⟨.str st, .str ch, rfl, rfl, st, ch, rfl, rfl, by omega, st ++ ch, .d (.int (i : Int)), rfl, by rw [app_len]; omega, ?_⟩
      have hz2 := hs z (by rw [hz]; exact List.mem_cons_self)
      rw [csi] at hz2
      rw [app_cL, hz]
      refine sgt.snoc hz2 fun e => ?_
      rw [e] at c0
      have := of_decide_eq_false q
      simp at c0
      omega
  rintro Γ ⟨st, u5, rfl, hst, sgt⟩
  have lst : (cL st).length = st.length := by unfold cL; rw [Array.length_toList]; rfl
  refine wb_cut (fun Γ => ∃ pl : Nat, Γ = [.own .sto, .d (.int 1), .d (.str "abcdefghijklmnopqrstuvwxyz"), .d (.str si), .d (.str st), u5, .d (.int (pl : Int)), .no, .no, .no, .no, .no, .no, .no] ∧ pl ≤ st.length) (ws_set 6 (we_take c_l_take 1 0 (we_of (ev_is (y := .int ((st.length + 1 : Nat) : Int)) (ev_add (ev_len (x := .str st) (m := st.length) b_len 4 (ek_d (ev_var 4)) rfl (fun z hz => by cases hz; omega)) ev_int) rfl) ⟨rfl, _, rfl, by omega, bt64 (by omega), fun k hk => ⟨k, rfl, by omega⟩⟩))) ?_
  rintro Γ ⟨pl, rfl, hpl⟩
  refine wb_cut (fun Γ => ∃ mu : Str, Γ = [.own .sto, .d (.int 1), .d (.str "abcdefghijklmnopqrstuvwxyz"), .d (.str si), .d (.str st), u5, .d (.int (pl : Int)), .d (.str mu), .no, .no, .no, .no, .no, .no] ∧ 26 ≤ mu.length ∧ mu.length ≤ 36 ∧ (∀ z ∈ cL mu, z ∈ ltrs ++ dgts) ∧ (pl = 0 → ∀ z ∈ cL mu, z ∈ ltrs)) (ws_set 7 (we_if (wt_of (et_gt (ev_var 6) ev_int) ⟨fun h => we_of (ev_var 3) ⟨si, rfl, by omega, by omega, (fun z hz => by rw [csi] at hz; exact hz), fun e => by have := of_decide_eq_true h; omega⟩, fun h => we_of (ev_var 2) ⟨_, rfl, by omega, by omega, (fun z hz => List.mem_append_left _ (by rw [l26] at hz; exact hz)), fun _ z hz => by rw [l26] at hz; exact hz⟩⟩))) ?_
  rintro Γ ⟨mu, rfl, hm1, hm2, sgm, sg0⟩
  refine wb_cut (fun Γ => ∃ fi : Nat, Γ = [.own .sto, .d (.int 1), .d (.str "abcdefghijklmnopqrstuvwxyz"), .d (.str si), .d (.str st), u5, .d (.int (pl : Int)), .d (.str mu), .d (.int (fi : Int)), .no, .no, .no, .no, .no] ∧ fi < 36) (ws_set 8 (we_take c_l_take 1 0 (we_of (ev_len (x := .str mu) (m := mu.length) b_len 4 (ek_d (ev_var 7)) rfl (fun z hz => by cases hz; omega)) ⟨rfl, _, rfl, by omega, bt64 (by omega), fun k hk => ⟨k, rfl, by omega⟩⟩))) ?_
  rintro Γ ⟨fi, rfl, hfi⟩
  refine wb_cut (fun Γ => ∃ sp : Nat, Γ = [.own .sto, .d (.int 1), .d (.str "abcdefghijklmnopqrstuvwxyz"), .d (.str si), .d (.str st), u5, .d (.int (pl : Int)), .d (.str mu), .d (.int (fi : Int)), .d (.int (sp : Int)), .no, .no, .no, .no] ∧ sp ≤ 25) (ws_set 9 (we_pick c_l_pick 3 0 (we_frz (wo_of (eo_lst (ea_cons (ek_d ev_int) (ea_cons (ek_d ev_int) (ea_cons (ek_d ev_int) (ea_cons (ek_d ev_int) (ea_cons (ek_d ev_int) (ea_cons (ek_d ev_int) (ea_cons (ek_d ev_int) (ea_cons (ek_d ev_int) ea_nil))))))))) ⟨_, rfl, rfl, _, rfl, by simp, by simp, fun x hx => ?_⟩)))) ?_
  · simp only [List.mem_cons, List.not_mem_nil, or_false] at hx
    rcases hx with rfl | rfl | rfl | rfl | rfl | rfl | rfl | rfl
    · exact ⟨1, rfl, by decide⟩
    · exact ⟨5, rfl, by decide⟩
    · exact ⟨7, rfl, by decide⟩
    · exact ⟨11, rfl, by decide⟩
    · exact ⟨17, rfl, by decide⟩
    · exact ⟨19, rfl, by decide⟩
    · exact ⟨23, rfl, by decide⟩
    · exact ⟨25, rfl, by decide⟩
  rintro Γ ⟨sp, rfl, hsp⟩
  refine wb_cut (fun Γ => ∃ cu : Nat, Γ = [.own .sto, .d (.int 1), .d (.str "abcdefghijklmnopqrstuvwxyz"), .d (.str si), .d (.str st), u5, .d (.int (pl : Int)), .d (.str mu), .d (.int (fi : Int)), .d (.int (sp : Int)), .d (.int (cu : Int)), .no, .no, .no]) (ws_set 10 (we_takeI (m := 3) c_l_take 1 0 fun k hk => ⟨k, rfl⟩)) ?_
  rintro Γ ⟨cu, rfl⟩
  refine wb_cut (fun Γ => Γ = [.own .sto, .d (.int 1), .d (.str "abcdefghijklmnopqrstuvwxyz"), .d (.str si), .d (.str st), u5, .d (.int (pl : Int)), .d (.str mu), .d (.int (fi : Int)), .d (.int (sp : Int)), .d (.int (cu : Int)), .own (.lst (([] : List Str).map DL.D.str)), .no, .no]) (ws_setO 11 (wo_of (eo_lst ea_nil) rfl)) ?_
  rintro Γ rfl
  refine wb_cut (fun Γ => ∃ (ns : List Str) (u5 u12 u13 : DL.Slot), Γ = [.own .sto, .d (.int 1), .d (.str "abcdefghijklmnopqrstuvwxyz"), .d (.str si), .d (.str st), u5, .d (.int (pl : Int)), .d (.str mu), .d (.int (fi : Int)), .d (.int (sp : Int)), .d (.int (cu : Int)), .own (.lst (ns.map DL.D.str)), u12, u13] ∧ ns.length = 1 ∧ ∀ s ∈ ns, s.length ≤ 8 ∧ 1 ≤ s.length ∧ StemOk (cL s)) (ws_forR1 5 (fun i Γ => ∃ (ns : List Str) (u5 u12 u13 : DL.Slot), Γ = [.own .sto, .d (.int 1), .d (.str "abcdefghijklmnopqrstuvwxyz"), .d (.str si), .d (.str st), u5, .d (.int (pl : Int)), .d (.str mu), .d (.int (fi : Int)), .d (.int (sp : Int)), .d (.int (cu : Int)), .own (.lst (ns.map DL.D.str)), u12, u13] ∧ ns.length = i ∧ ∀ s ∈ ns, s.length ≤ 8 ∧ 1 ≤ s.length ∧ StemOk (cL s)) 1 b_range 0 (we_of (ev_var 1) ⟨_, rfl, rfl, by omega, by omega, [], _, _, _, rfl, rfl, fun s hs => by cases hs⟩) ?_ (fun _ h => h)) ?_
  · rintro i Γ hi ⟨ns, v5, u12, u13, rfl, hn, hgs⟩
    show WB X n_l_names c [.own .sto, .d (.int 1), .d (.str "abcdefghijklmnopqrstuvwxyz"), .d (.str si), .d (.str st), .d (.int (i : Int)), .d (.int (pl : Int)), .d (.str mu), .d (.int (fi : Int)), .d (.int (sp : Int)), .d (.int (cu : Int)), .own (.lst (ns.map DL.D.str)), u12, u13] _ _
    refine wb_cut (fun Γ => ∃ ch : Str, Γ = [.own .sto, .d (.int 1), .d (.str "abcdefghijklmnopqrstuvwxyz"), .d (.str si), .d (.str st), .d (.int (i : Int)), .d (.int (pl : Int)), .d (.str mu), .d (.int (fi : Int)), .d (.int (sp : Int)), .d (.int (cu : Int)), .own (.lst (ns.map DL.D.str)), .d (.str ch), u13] ∧ ∃ z, cL ch = [z] ∧ z ∈ cL mu) ?_ ?_
    · have f0 : 0 < ((mu.length : Nat) : Int) := by omega
      have ek : ((fi : Int) + (i : Int) * (sp : Int)).fmod ((mu.length : Nat) : Int) = (((fi + i * sp) % mu.length : Nat) : Int) := by
        rw [Int.fmod_eq_emod_of_nonneg _ (by omega)]; push_cast; rfl
      obtain ⟨z, hz, h1⟩ := str_at' (w := mu) (k := (fi + i * sp) % mu.length) (Nat.mod_lt _ (by omega)) (by omega)
      rw [← ek] at h1
      exact ws_set 12 (we_of (ev_ix (x := .str mu) (z := .str ⟨#[z]⟩) (ek_d (ev_var 7)) (ev_mod (ev_toint b_int 2 (ev_add (ev_var 8) (ev_mul (ev_var 5) (ev_var 9) ((show Bt 30 (i : Int) from bt_of (by omega) (by omega)).cm (show Bt 30 (sp : Int) from bt_of (by omega) (by omega)) (by decide))))) (ev_len (x := .str mu) (m := mu.length) b_len 4 (ek_d (ev_var 7)) rfl (fun z hz => by cases hz; omega)) (by omega)) h1) ⟨⟨#[z]⟩, rfl, z, rfl, List.mem_of_getElem? hz⟩)
    rintro Γ ⟨ch, rfl, z, hcz, hzm⟩
    have lch : ch.length = 1 := by
      have : (cL ch).length = 1 := by rw [hcz]; rfl
      rw [← this]; unfold cL; rw [Array.length_toList]; rfl
    refine wb_cut (fun Γ => Γ = [.own .sto, .d (.int 1), .d (.str "abcdefghijklmnopqrstuvwxyz"), .d (.str si), .d (.str st), .d (.int (i : Int)), .d (.int (pl : Int)), .d (.str mu), .d (.int (fi : Int)), .d (.int (sp : Int)), .d (.int (cu : Int)), .own (.lst (ns.map DL.D.str)), .d (.str ch), u13]) (ws_ifE (q := false) (et_is (et_gt (ev_var 1) ev_int) rfl) (fun h => by cases h) (fun _ => wb_nil rfl)) ?_
    rintro Γ rfl
    have cto := cL_to hpl
    have cfr := cL_from hpl
    have k1 : (cutS st none (some (pl : Int))).length = pl := cutS_upto hpl
    have k2 : (cutS st (some (pl : Int)) none).length = st.length - pl := by
      have : (cL (cutS st (some (pl : Int)) none)).length = st.length - pl := by rw [cfr, List.length_drop, lst]
      rw [← this]; unfold cL; rw [Array.length_toList]; rfl
    have base : StemOk ((cL st).take pl ++ [z]) := (sgt.take pl).snoc (sgm z hzm) fun e => sg0 (by
      have := congrArg List.length e
      rw [List.length_take, lst] at this
      simp at this
      omega) z hzm
    refine wb_cut (fun Γ => ∃ nm : Str, Γ = [.own .sto, .d (.int 1), .d (.str "abcdefghijklmnopqrstuvwxyz"), .d (.str si), .d (.str st), .d (.int (i : Int)), .d (.int (pl : Int)), .d (.str mu), .d (.int (fi : Int)), .d (.int (sp : Int)), .d (.int (cu : Int)), .own (.lst (ns.map DL.D.str)), .d (.str ch), .d (.str nm)] ∧ nm.length = pl + 1 ∧ cL nm = (cL st).take pl ++ [z]) (ws_set 13 (we_of (ev_addS (ev_sliceS (l1 := none) (h1 := some (pl : Int)) (ev_var 4) (by omega) ep0 (ep1 (ev_var 6))) (ev_var 12) (by omega)) ⟨_, rfl, by rw [app_len]; omega, by rw [app_cL, cto, hcz]⟩)) ?_
    rintro Γ ⟨nm, rfl, hnm, hnc⟩
    have ext : (nm ++ cutS st (some (pl : Int)) none).length ≤ 8 ∧ 1 ≤ (nm ++ cutS st (some (pl : Int)) none).length ∧ StemOk (cL (nm ++ cutS st (some (pl : Int)) none)) := by
      refine ⟨by rw [app_len]; omega, by rw [app_len]; omega, ?_⟩
      rw [app_cL, hnc, cfr]
      exact base.app (fun y hy => sgt.all y (List.mem_of_mem_drop hy)) (by simp)
    refine wb_cut (fun Γ => ∃ nm : Str, Γ = [.own .sto, .d (.int 1), .d (.str "abcdefghijklmnopqrstuvwxyz"), .d (.str si), .d (.str st), .d (.int (i : Int)), .d (.int (pl : Int)), .d (.str mu), .d (.int (fi : Int)), .d (.int (sp : Int)), .d (.int (cu : Int)), .own (.lst (ns.map DL.D.str)), .d (.str ch), .d (.str nm)] ∧ nm.length ≤ 8 ∧ 1 ≤ nm.length ∧ StemOk (cL nm)) (ws_if (WW.t (ww_or (wt_of (et_eq (ev_var 10) ev_int) ⟨fun _ => ww_or1 (wt_cmp dop_eqI (nomark _) (wk_e (we_takeI (m := 2) c_l_take 1 0 fun j hj => wk_e (we_of ev_int ⟨_, _, rfl, rfl, _, _, rfl, rfl, trivial, _, rfl, fun h => ?_, fun h => wb_nil ⟨nm, rfl, by omega, by omega, by rw [hnc]; exact base⟩⟩)))), fun _ => ⟨fun _ => ?_, fun h => by cases h⟩⟩)))) ?_
    · exact wb_one (ws_set 13 (we_of (ev_addS (ev_var 13) (ev_sliceS (l1 := some (pl : Int)) (h1 := none) (ev_var 4) (by omega) (ep1 (ev_var 6)) ep0) (by omega)) ⟨_, rfl, ext⟩))
    · exact wb_one (ws_set 13 (we_of (ev_addS (ev_var 13) (ev_sliceS (l1 := some (pl : Int)) (h1 := none) (ev_var 4) (by omega) (ep1 (ev_var 6)) ep0) (by omega)) ⟨_, rfl, ext⟩))
    clear ext hnc hnm nm
    rintro Γ ⟨nm, rfl, hnm, hn0, hsn⟩
    refine wb_cut (fun Γ => ∃ nm : Str, Γ = [.own .sto, .d (.int 1), .d (.str "abcdefghijklmnopqrstuvwxyz"), .d (.str si), .d (.str st), .d (.int (i : Int)), .d (.int (pl : Int)), .d (.str mu), .d (.int (fi : Int)), .d (.int (sp : Int)), .d (.int (cu : Int)), .own (.lst (ns.map DL.D.str)), .d (.str ch), .d (.str nm)] ∧ nm.length ≤ 8 ∧ 1 ≤ nm.length ∧ StemOk (cL nm)) (ws_ifE (EW.t (ew_and (et_eq (ev_var 10) ev_int) fun _ => ew_and (et_eq (ev_var 5) ev_int) fun _ => ew_and1 (et_gt (ev_var 6) ev_int))) (fun h3 => wb_one (ws_set 13 (we_of (ev_sliceS (l1 := none) (h1 := some (pl : Int)) (ev_var 4) (by omega) ep0 (ep1 (ev_var 6))) ⟨_, rfl, by omega, by simp at h3; omega, by rw [cto]; exact sgt.take pl⟩))) (fun _ => wb_nil ⟨nm, rfl, hnm, hn0, hsn⟩)) ?_
    clear hsn hnm hn0 nm
    rintro Γ ⟨nm, rfl, hnm, hn0, hsn⟩
    refine wb_one (ws_append 11 (we_of (ev_var 13) ⟨_, rfl, by rw [List.length_map, hn]; omega, ns ++ [nm], .d (.int (i : Int)), .d (.str ch), .d (.str nm), ?_, by rw [List.length_append, hn]; rfl, fun s hs => ?_⟩))
    · show [_, _, _, _, _, _, _, _, _, _, _, _, _, _] = _
      rw [List.map_append]; rfl
    · rcases List.mem_append.mp hs with hs | hs
      · exact hgs s hs
      · rw [List.mem_singleton.mp hs]; exact ⟨hnm, hn0, hsn⟩
  rintro Γ ⟨ns, v5, u12, u13, rfl, hn, hgs⟩
  obtain ⟨s, rfl⟩ : ∃ s, ns = [s] := match ns, hn with | [s], _ => ⟨s, rfl⟩
  obtain ⟨h1, h2, h3⟩ := hgs s List.mem_cons_self
  have ls : (cL s).length = s.length := by unfold cL; rw [Array.length_toList]; rfl
  exact wb_one (ws_retS 11 ⟨.own _, [.sto], .inl rfl, bk, post s (h3.nm (by omega) (by omega)) h1 (stem_sg h3.all)⟩)


/-! _law_size -/
abbrev s_l_size : Stmt := top 18
abbrev n_l_size : Nm := { N := ["_law_store_here", "_law_least", "_law_top", "_law_sort"], V := [0, 1, 2, 3], as := [0, 1, 2, 3], GN := ["_law_take"], k := 2, oi := [0], lc := [0, 1, 2, 3], sc := none }
theorem sc_l_size : FnScope n_l_size.N ["_law_store_here", "_law_least", "_law_top"] (defScope s_l_size) := ⟨rfl, rfl, rfl, by decide +kernel, rfl, by decide +kernel, by decide +kernel⟩
theorem sb_l_size : ScOk (defScope s_l_size) n_l_size := scOk_of (by decide +kernel)
abbrev S_l_size : Sg := ST_size
theorem bd_l_size {X : Cx} {c : Cc} (c_l_take : CalF X n_l_size.k "_law_take" S_l_take) : ∀ ps Post, S_l_size ps Post → WB X n_l_size c (entry n_l_size.N ps) (defBody s_l_size) (fnD n_l_size.oi Post) := by
  rintro ps Post ⟨lo, hi, rfl, hl, b1, b2, post⟩
  show WB X n_l_size c [.own .sto, .d (.int lo), .d (.int hi), .no] _ _
  have bk : Backs [.own .sto, .d (.int lo), .d (.int hi), .d (.int 0)] [0] [.sto] := ⟨.sto, .sto, [], rfl, rfl, .inl rfl, rfl⟩
  refine wb_cons (ws_set 3 (we_takeI c_l_take 0 0 fun k hk => ?_))
  refine wb_cut (fun Γ => Γ = [.own .sto, .d (.int lo), .d (.int hi), .d (.int (k : Int))]) (ws_ifE (et_eq (ev_var 3) ev_int) (fun h => wb_one (ws_ret (we_of (ev_var 1) ⟨_, [.sto], rfl, bk, post _ (Int.le_refl _) hl⟩))) (fun h => wb_nil rfl)) ?_
  rintro Γ rfl
  refine wb_cut (fun Γ => Γ = [.own .sto, .d (.int lo), .d (.int hi), .d (.int (k : Int))]) (ws_ifE (et_eq (ev_var 3) ev_int) (fun h => wb_one (ws_ret (we_of (ev_var 2) ⟨_, [.sto], rfl, bk, post _ hl (Int.le_refl _)⟩))) (fun h => wb_nil rfl)) ?_
  rintro Γ rfl
  refine wb_one (ws_ret (we_bin dop_add (wk_e (we_of (ev_var 1) (wk_e (we_take c_l_take 0 0 (we_of (ev_add (ev_sub (ev_var 2) (ev_var 1)) ev_int) ⟨rfl, (hi - lo + 1).toNat, ?_, by omega, ?_, fun j hj => ?_⟩)))))))
  · rw [Int.toNat_of_nonneg (by omega)]
  · rw [Int.toNat_of_nonneg (by omega)]; exact ((b2.sub b1).add (show Bt 7001 1 from Nat.one_lt_two_pow (by decide))).mono (by decide)
  · exact ⟨_, _, rfl, rfl, _, _, rfl, rfl, trivial, _, [.sto], rfl, bk, post _ (by omega) (by omega)⟩


/-! _law_cells -/
abbrev s_l_cells : Stmt := top 29
abbrev n_l_cells : Nm := { N := ["_law_store_here", "_law_many", "_law_row", "_law_k", "_law_sort", "_law_cell"], V := [0, 1, 2, 3, 4, 5], as := [0, 1, 2, 3, 4, 5], GN := ["range", "_law_take", "_law_pick", "tuple"], k := 3, oi := [0], lc := [0, 1, 2, 3, 4, 5], sc := none }
theorem sc_l_cells : FnScope n_l_cells.N ["_law_store_here", "_law_many"] (defScope s_l_cells) := ⟨rfl, rfl, rfl, by decide +kernel, rfl, by decide +kernel, by decide +kernel⟩
theorem sb_l_cells : ScOk (defScope s_l_cells) n_l_cells := scOk_of (by decide +kernel)
abbrev S_l_cells : Sg := ST_cells
theorem bd_l_cells {X : Cx} {c : Cc} (b_range : Blt X "range" (.type "range")) (c_l_take : CalF X n_l_cells.k "_law_take" S_l_take) (c_l_pick : CalF X n_l_cells.k "_law_pick" S_l_pick) (b_tuple : Blt X "tuple" (.type "tuple")) : ∀ ps Post, S_l_cells ps Post → WB X n_l_cells c (entry n_l_cells.N ps) (defBody s_l_cells) (fnD n_l_cells.oi Post) := by
  rintro ps Post ⟨m, rfl, hm, post⟩
  show WB X n_l_cells c [.own .sto, .d (.int (m : Int)), .no, .no, .no, .no] _ _
  have bk : ∀ {r : SL}, Backs (.own .sto :: r) [0] [.sto] := fun {r} => ⟨.sto, .sto, [], rfl, rfl, .inl rfl, rfl⟩
  have z : ZP = 2147483647 := rfl
  refine wb_cut (fun Γ => Γ = [.own .sto, .d (.int (m : Int)), .own (.lst (([] : List Int).map DL.D.int)), .no, .no, .no]) (ws_setO 2 (wo_of (eo_lst ea_nil) rfl)) ?_
  rintro Γ rfl
  refine wb_cut (fun Γ => ∃ (cs : List Int) (u3 u4 u5 : DL.Slot), Γ = [.own .sto, .d (.int (m : Int)), .own (.lst (cs.map DL.D.int)), u3, u4, u5] ∧ cs.length = m ∧ ∀ i ∈ cs, 0 ≤ i ∧ i < ZP) (ws_forR1 3 (fun i Γ => ∃ (cs : List Int) (u3 u4 u5 : DL.Slot), Γ = [.own .sto, .d (.int (m : Int)), .own (.lst (cs.map DL.D.int)), u3, u4, u5] ∧ cs.length = i ∧ ∀ i ∈ cs, 0 ≤ i ∧ i < ZP) m b_range 0 (we_of (ev_var 1) ⟨_, rfl, by simp, by omega, by omega, [], _, _, _, rfl, rfl, fun i h => by cases h⟩) ?_ (fun _ h => h)) ?_
  · rintro k Γ hk ⟨cs, u3, u4, u5, rfl, hl, hc⟩
    show WB X n_l_cells c [.own .sto, .d (.int (m : Int)), .own (.lst (cs.map DL.D.int)), .d (.int (k : Int)), u4, u5] _ _
    refine wb_cut (fun Γ => ∃ so : Nat, Γ = [.own .sto, .d (.int (m : Int)), .own (.lst (cs.map DL.D.int)), .d (.int (k : Int)), .d (.int (so : Int)), u5]) (ws_set 4 (we_takeI (m := 6) c_l_take 1 0 fun a ha => ⟨a, rfl⟩)) ?_
    rintro Γ ⟨so, rfl⟩
    refine wb_cut (fun Γ => ∃ ce : Int, Γ = [.own .sto, .d (.int (m : Int)), .own (.lst (cs.map DL.D.int)), .d (.int (k : Int)), .d (.int (so : Int)), .d (.int ce)] ∧ 0 ≤ ce ∧ ce < ZP) (ws_set 5 (we_takeI (m := 2147483647) c_l_take 1 0 fun a ha => ⟨a, rfl, by omega, by omega⟩)) ?_
    rintro Γ ⟨ce, rfl, e0, e1⟩
    refine wb_cut (fun Γ => ∃ ce : Int, Γ = [.own .sto, .d (.int (m : Int)), .own (.lst (cs.map DL.D.int)), .d (.int (k : Int)), .d (.int (so : Int)), .d (.int ce)] ∧ 0 ≤ ce ∧ ce < ZP) (ws_ifE (et_lt (ev_var 4) ev_int) (fun _ => wb_one (ws_set 5 (we_pick c_l_pick 2 0 (we_frz (wo_of (eo_lst (ea_cons (ek_d ev_int) (ea_cons (ek_d ev_int) (ea_cons (ek_d ev_int) ea_nil)))) ⟨_, rfl, rfl, _, rfl, by simp, by simp, fun y hy => ?_⟩))))) (fun _ => wb_nil ⟨ce, rfl, e0, e1⟩)) ?_
    · simp only [List.mem_cons, List.not_mem_nil, or_false] at hy
      rcases hy with rfl | rfl | rfl
      · exact ⟨0, rfl, by decide, by decide⟩
      · exact ⟨1, rfl, by decide, by decide⟩
      · exact ⟨2147483646, rfl, by decide, by decide⟩
    clear e0 e1 ce
    rintro Γ ⟨ce, rfl, e0, e1⟩
    refine wb_cut (fun Γ => ∃ ce : Int, Γ = [.own .sto, .d (.int (m : Int)), .own (.lst (cs.map DL.D.int)), .d (.int (k : Int)), .d (.int (so : Int)), .d (.int ce)] ∧ 0 ≤ ce ∧ ce < ZP) (ws_ifE (EW.t (ew_and (et_eq (ev_var 4) ev_int) fun _ => ew_and1 (et_gt (ev_var 3) ev_int))) (fun h => ?_) (fun _ => wb_nil ⟨ce, rfl, e0, e1⟩)) ?_
    · have k0 : 0 < k := by
        have := (Bool.and_eq_true_iff.mp h).2
        have := of_decide_eq_true this
        omega
      have hix : k - 1 < cs.length := by omega
      exact wb_one (ws_set 5 (we_of (ev_ix (x := .lst (cs.map DL.D.int)) (z := .int cs[k - 1]) (i := ((k - 1 : Nat) : Int)) (ek_s 2) (ev_is (ev_sub (ev_var 3) ev_int) (by show DL.D.int _ = DL.D.int _; congr 1; omega)) (DL.atI_nat (by rw [List.getElem?_map, List.getElem?_eq_getElem hix]; rfl))) ⟨cs[k - 1], rfl, hc _ (List.getElem_mem hix)⟩))
    clear e0 e1 ce
    rintro Γ ⟨ce, rfl, e0, e1⟩
    refine wb_one (ws_append 2 (we_of (ev_var 5) ⟨_, rfl, by rw [List.length_map]; omega, cs ++ [ce], .d (.int (k : Int)), .d (.int (so : Int)), .d (.int ce), ?_, by rw [List.length_append, hl]; rfl, fun i hi => ?_⟩))
    · show [_, _, _, _, _, _] = _
      rw [List.map_append]; rfl
    · rcases List.mem_append.mp hi with hi | hi
      · exact hc i hi
      · rw [List.mem_singleton.mp hi]; exact ⟨e0, e1⟩
  rintro Γ ⟨cs, u3, u4, u5, rfl, hl, hc⟩
  exact wb_one (ws_ret (we_of (ev_tuple (x := .lst (cs.map DL.D.int)) b_tuple 3 (ek_s 2)) ⟨_, _, rfl, bk, post cs hl hc⟩))


/-! _law_power_seal -/
abbrev s_l_power_seal : Stmt := top 31
abbrev n_l_power_seal : Nm := { N := ["_law_secret_here", "_law_counter", "_law_cells_here", "_law_told", "_law_power", "_law_k"], V := [0, 1, 2, 3, 4, 5], as := [0, 1, 2, 3, 4, 5], GN := ["len", "range", "int"], k := 0, oi := [], lc := [0, 1, 2, 3, 4, 5], sc := none }
theorem sc_l_power_seal : FnScope n_l_power_seal.N ["_law_secret_here", "_law_counter", "_law_cells_here"] (defScope s_l_power_seal) := ⟨rfl, rfl, rfl, by decide +kernel, rfl, by decide +kernel, by decide +kernel⟩
theorem sb_l_power_seal : ScOk (defScope s_l_power_seal) n_l_power_seal := scOk_of (by decide +kernel)
abbrev S_l_power_seal : Sg := ST_sealof
theorem bd_l_power_seal {X : Cx} {c : Cc} (b_len : Blt X "len" (.builtin "len")) (b_range : Blt X "range" (.type "range")) (b_int : Blt X "int" (.type "int")) : ∀ ps Post, S_l_power_seal ps Post → WB X n_l_power_seal c (entry n_l_power_seal.N ps) (defBody s_l_power_seal) (fnD n_l_power_seal.oi Post) := by
  rintro ps Post ⟨key, cc, cs, rfl, hk, c0, c1, hcs, hl, post⟩
  have bz : ∀ z : Int, 0 ≤ z → z < ZP → Bt 40 z := fun z h1 h2 => bt_of (by omega) (by unfold ZP at h2; omega)
  have bk2 : Bt 40 key := bz key (by have := hk.1; omega) hk.2
  have z : ZP = 2147483647 := rfl
  show WB X n_l_power_seal c [.d (.int key), .d (.int cc), .w (.tup (cs.map DL.D.int)), .no, .no, .no] _ _
  have lenE : ∀ {G : SL}, (DL.D.tup (cs.map DL.D.int)).len = some cs.length := by intro _; show some (cs.map DL.D.int).length = _; rw [List.length_map]
  refine wb_cut (fun Γ => Γ = [.d (.int key), .d (.int cc), .w (.tup (cs.map DL.D.int)), .d (.int (cs.length : Int)), .no, .no]) (ws_set 3 (we_of (ev_len (x := .tup (cs.map DL.D.int)) (m := cs.length) b_len 0 (ek_s 2) (by show some (cs.map DL.D.int).length = _; rw [List.length_map])) rfl)) ?_
  rintro Γ rfl
  refine wb_cut (fun Γ => Γ = [.d (.int key), .d (.int cc), .w (.tup (cs.map DL.D.int)), .d (.int (cs.length : Int)), .d (.int key), .no]) (ws_set 4 (we_of (ev_var 0) rfl)) ?_
  rintro Γ rfl
  refine wb_cut (fun Γ => ∃ (t p : Int) (u : DL.Slot), Γ = [.d (.int key), .d (.int cc), .w (.tup (cs.map DL.D.int)), .d (.int t), .d (.int p), u] ∧ (0 ≤ t ∧ t < ZP) ∧ (0 ≤ p ∧ p < ZP) ∧ t % ZP = ((cs.length : Int) + key * hor key 0 cs) % ZP ∧ p % ZP = key ^ (cs.length + 1) % ZP) (ws_forR1 5 (fun i Γ => ∃ (t p : Int) (u : DL.Slot), Γ = [.d (.int key), .d (.int cc), .w (.tup (cs.map DL.D.int)), .d (.int t), .d (.int p), u] ∧ (0 ≤ t ∧ t < ZP) ∧ (0 ≤ p ∧ p < ZP) ∧ t % ZP = ((cs.length : Int) + key * hor key 0 (cs.drop (cs.length - i))) % ZP ∧ p % ZP = key ^ (i + 1) % ZP) cs.length b_range 1 (we_of (ev_len (x := .tup (cs.map DL.D.int)) (m := cs.length) b_len 0 (ek_s 2) (by show some (cs.map DL.D.int).length = _; rw [List.length_map])) ⟨_, rfl, by omega, by omega, by omega, _, _, _, rfl, ⟨by omega, by omega⟩, ⟨by have := hk.1; omega, hk.2⟩, ?_, ?_⟩) ?_ ?_) ?_
  · rw [Nat.sub_zero, List.drop_length]; simp [hor]
  · rw [Nat.zero_add, Int.pow_succ, Int.pow_zero, Int.one_mul]
  · rintro i Γ hi ⟨t, p, u, rfl, ⟨t0, t1⟩, ⟨p0, p1⟩, ht, hp⟩
    show WB X n_l_power_seal c [.d (.int key), .d (.int cc), .w (.tup (cs.map DL.D.int)), .d (.int t), .d (.int p), .d (.int (i : Int))] _ _
    have hix : cs.length - 1 - i < cs.length := by omega
    obtain ⟨q0, q1⟩ := hcs cs[cs.length - 1 - i] (List.getElem_mem hix)
    have dr : cs.drop (cs.length - (i + 1)) = cs[cs.length - 1 - i] :: cs.drop (cs.length - i) := by
      have e1 : cs.length - (i + 1) = cs.length - 1 - i := by omega
      have e2 : cs.length - i = cs.length - 1 - i + 1 := by omega
      rw [e1, e2]
      exact (List.getElem_cons_drop hix).symm
    have ld : (cs.drop (cs.length - i)).length = i := by rw [List.length_drop]; omega
    obtain ⟨s1, s2⟩ := pow_step (x := cs[cs.length - 1 - i]) ld ht hp
    rw [← dr] at s1
    have ixI : ((cs.length : Int) - 1 - (i : Int)) = ((cs.length - 1 - i : Nat) : Int) := by omega
    refine wb_cut (fun Γ => Γ = [.d (.int key), .d (.int cc), .w (.tup (cs.map DL.D.int)), .d (.int ((t + cs[cs.length - 1 - i] * p) % ZP)), .d (.int p), .d (.int (i : Int))]) (ws_set 3 (we_of (ev_is (y := .int ((t + cs[cs.length - 1 - i] * p) % ZP)) (ev_mod (ev_bty b_int dc_int 2 (ea_cons (ek_d (ev_add (ev_var 3) (ev_mul (ev_ix (x := .tup (cs.map DL.D.int)) (z := .int cs[cs.length - 1 - i]) (i := ((cs.length - 1 - i : Nat) : Int)) (ek_s 2) (ev_is (ev_sub (ev_sub (ev_len (x := .tup (cs.map DL.D.int)) (m := cs.length) b_len 0 (ek_s 2) (by show some (cs.map DL.D.int).length = _; rw [List.length_map])) ev_int) (ev_var 5)) (by rw [ixI])) (DL.atI_nat (by rw [List.getElem?_map, List.getElem?_eq_getElem hix]; rfl))) (ev_var 4) ((bz _ q0 q1).cm (bz _ p0 p1) (by decide))))) ea_nil) (fun _ h => .inl ⟨_, rfl, h⟩) rfl) ev_int (by decide)) (by show DL.D.int _ = DL.D.int _; rw [Int.fmod_eq_emod_of_nonneg _ (by decide)]; rfl)) rfl)) ?_
    rintro Γ rfl
    refine wb_one (ws_set 4 (we_of (ev_is (y := .int ((p * key) % ZP)) (ev_mod (ev_bty b_int dc_int 2 (ea_cons (ek_d (ev_mul (ev_var 4) (ev_var 0) ((bz _ p0 p1).cm bk2 (by decide)))) ea_nil) (fun _ h => .inl ⟨_, rfl, h⟩) rfl) ev_int (by decide)) (by show DL.D.int _ = DL.D.int _; rw [Int.fmod_eq_emod_of_nonneg _ (by decide)]; rfl)) ⟨_, _, _, rfl, ⟨Int.emod_nonneg _ (by decide), Int.emod_lt_of_pos _ (by decide)⟩, ⟨Int.emod_nonneg _ (by decide), Int.emod_lt_of_pos _ (by decide)⟩, s1, s2⟩))
  · rintro Γ ⟨t, p, u, rfl, ht0, hp0, ht, hp⟩
    rw [Nat.sub_self, List.drop_zero] at ht
    exact ⟨t, p, u, rfl, ht0, hp0, ht, hp⟩
  rintro Γ ⟨t, p, u, rfl, ⟨t0, t1⟩, ⟨p0, p1⟩, ht, hp⟩
  refine wb_one (ws_ret (we_of (ev_is (y := .int (sealZ key cc cs)) (ev_mod (ev_bty b_int dc_int 2 (ea_cons (ek_d (ev_add (ev_var 3) (ev_mul (ev_var 1) (ev_var 4) ((bz _ c0 c1).cm (bz _ p0 p1) (by decide))))) ea_nil) (fun _ h => .inl ⟨_, rfl, h⟩) rfl) ev_int (by decide)) ?_) ⟨_, [], rfl, rfl, post⟩))
  show DL.D.int _ = DL.D.int _
  rw [Int.fmod_eq_emod_of_nonneg _ (by decide), ← pow_end (c := cc) ht hp]; rfl


/-! _law_is_int -/
abbrev s_l_is_int : Stmt := top 19
abbrev n_l_is_int : Nm := { N := ["_law_value"], V := [0], as := [0], GN := ["isinstance", "int", "bool"], k := 0, oi := [], lc := [0], sc := none }
theorem sc_l_is_int : FnScope n_l_is_int.N ["_law_value"] (defScope s_l_is_int) := ⟨rfl, rfl, rfl, by decide +kernel, rfl, by decide +kernel, by decide +kernel⟩
theorem sb_l_is_int : ScOk (defScope s_l_is_int) n_l_is_int := scOk_of (by decide +kernel)
abbrev S_l_is_int : Sg := ST_isint
theorem bd_l_is_int {X : Cx} {c : Cc} (b_isinstance : Blt X "isinstance" (.builtin "isinstance")) (b_int : Blt X "int" (.type "int")) (b_bool : Blt X "bool" (.type "bool")) : ∀ ps Post, S_l_is_int ps Post → WB X n_l_is_int c (entry n_l_is_int.N ps) (defBody s_l_is_int) (fnD n_l_is_int.oi Post) := by
  rintro ps Post ⟨x, rfl, post⟩
  show WB X n_l_is_int c [.w x] _ _
  refine wb_one (ws_ret (we_of (ev_and (ev_isi b_isinstance b_int 0 1 (ek_s 0)) fun h => ev_one (ev_not (ev_isi b_isinstance b_bool 0 2 (ek_s 0)))) ⟨_, [], rfl, rfl, ?_⟩))
  rw [isI_ty]; exact post


/-! _law_same -/
abbrev s_l_same : Stmt := top 20
abbrev n_l_same (j : Nat) : Nm := { N := ["_law_value", "_law_due", "_law_keys", "_law_k", "_law_name"], V := [0, 1, 2, 3], as := [0, 1, 2, 3], GN := ["isinstance", "bool", "int", "_law_is_int", "str", "dict", "list", "_law_same", "tuple", "len", "range"], k := 1 + j, oi := [], lc := [2, 3], sc := some (defScope s_l_same) }
abbrev n_l_same_c1 (j : Nat) : Nm := { N := ["_law_value", "_law_due", "_law_keys", "_law_k", "_law_name"], V := [0, 4], as := [4], GN := [], k := 1 + j, oi := [] }
abbrev n_l_same_c2 (j : Nat) : Nm := { N := ["_law_value", "_law_due", "_law_keys", "_law_k", "_law_name"], V := [1, 4], as := [4], GN := [], k := 1 + j, oi := [] }
theorem sc_l_same : FnScope (n_l_same 0).N ["_law_value", "_law_due"] (defScope s_l_same) := ⟨rfl, rfl, rfl, by decide +kernel, rfl, by decide +kernel, by decide +kernel⟩
theorem sb_l_same : ScOk (defScope s_l_same) (n_l_same 0) := scOk_of (by decide +kernel)
abbrev S_l_same : Sg := ST_sameD 5
theorem bd_l_same {X : Cx} {c : Cc} (j : Nat) (b_isinstance : Blt X "isinstance" (.builtin "isinstance")) (b_bool : Blt X "bool" (.type "bool")) (b_int : Blt X "int" (.type "int")) (c_l_is_int : CalF X (n_l_same j).k "_law_is_int" S_l_is_int) (b_str : Blt X "str" (.type "str")) (b_dict : Blt X "dict" (.type "dict")) (b_list : Blt X "list" (.type "list")) (b_tuple : Blt X "tuple" (.type "tuple")) (b_len : Blt X "len" (.builtin "len")) (b_range : Blt X "range" (.type "range")) (c_rec : ∀ i, j = i + 1 → CalF X (n_l_same j).k "_law_same" (ST_sameD i)) : ∀ ps Post, ST_sameD j ps Post → WB X (n_l_same j) c (entry (n_l_same j).N ps) (defBody s_l_same) (fnD (n_l_same j).oi Post) := by
  rintro ps Post ⟨v, d, rfl, hp, post⟩
  show WB X (n_l_same j) c [.w v, .w d, .no, .no, .no] _ _
  refine wb_cut (fun Γ => Γ = [.w v, .w d, .no, .no, .no] ∧ d.isN = false) (ws_ifE (et_isN (ek_s 1)) (fun h => wb_one (ws_ret (we_of (ev_isN (ek_s 0)) ⟨_, [], rfl, rfl, post _ ?_⟩))) (fun h => wb_nil ⟨rfl, h⟩)) ?_
  · rw [ty_non h]; exact ⟨ty_non, fun e => by rw [e]; rfl⟩
  rintro Γ ⟨rfl, h1⟩
  refine wb_cut (fun Γ => Γ = [.w v, .w d, .no, .no, .no] ∧ tyB d.ty "bool" = false) (ws_ifE (et_isi b_isinstance b_bool 0 1 (ek_s 1)) (fun h => ?_) (fun h => wb_nil ⟨rfl, h⟩)) ?_
  · obtain ⟨b, rfl⟩ := ty_bool h
    refine wb_one (ws_ret (we_and (we_of (ev_isi b_isinstance b_bool 0 1 (ek_s 0)) ⟨_, rfl, fun q => ?_, fun q => ⟨_, [], rfl, rfl, post _ ⟨fun z => (by cases z), fun e => ?_⟩⟩⟩)))
    · obtain ⟨u, rfl⟩ := ty_bool q
      refine we_and1 (we_of (ev_eqD (ek_s 0) (ek_s 1) rfl rfl) ⟨_, [], rfl, rfl, post _ ?_⟩)
      cases u <;> cases b <;> simp [D.eqv, D.pd, PyData.eqv]
    · rw [e] at q; cases q
  rintro Γ ⟨rfl, h2⟩
  refine wb_cut (fun Γ => Γ = [.w v, .w d, .no, .no, .no] ∧ tyB d.ty "int" = false) (ws_ifE (et_isi b_isinstance b_int 0 2 (ek_s 1)) (fun h => ?_) (fun h => wb_nil ⟨rfl, h⟩)) ?_
  · obtain ⟨b, rfl⟩ := ty_int h h2
    refine wb_one (ws_ret (we_and (we_of (ev_call1 c_l_is_int 3 (ek_s 0) fun _ p => ⟨_, rfl, p⟩) ⟨_, rfl, fun q => ?_, fun q => ⟨_, [], rfl, rfl, post _ ⟨fun z => (by cases z), fun e => ?_⟩⟩⟩)))
    · obtain ⟨u, rfl⟩ := isI_of q
      refine we_and1 (we_of (ev_eqD (ek_s 0) (ek_s 1) rfl rfl) ⟨_, [], rfl, rfl, post _ ?_⟩)
      show (u == b) = true ↔ _
      simp
    · rw [e] at q; cases q
  rintro Γ ⟨rfl, h3⟩
  refine wb_cut (fun Γ => Γ = [.w v, .w d, .no, .no, .no] ∧ tyB d.ty "str" = false) (ws_ifE (et_isi b_isinstance b_str 0 4 (ek_s 1)) (fun h => ?_) (fun h => wb_nil ⟨rfl, h⟩)) ?_
  · obtain ⟨b, rfl⟩ := ty_str h
    refine wb_one (ws_ret (we_and (we_of (ev_isi b_isinstance b_str 0 4 (ek_s 0)) ⟨_, rfl, fun q => ?_, fun q => ⟨_, [], rfl, rfl, post _ ⟨fun z => (by cases z), fun e => ?_⟩⟩⟩)))
    · obtain ⟨u, rfl⟩ := ty_str q
      refine we_and1 (we_of (ev_eqS (ek_s 0) (ek_s 1)) ⟨_, [], rfl, rfl, post _ ?_⟩)
      simp
    · rw [e] at q; cases q
  rintro Γ ⟨rfl, h4⟩
  refine wb_cut (fun Γ => Γ = [.w v, .w d, .no, .no, .no] ∧ tyB d.ty "dict" = false) (ws_ifE (et_isi b_isinstance b_dict 0 5 (ek_s 1)) (fun h => ?_) (fun h => wb_nil ⟨rfl, h⟩)) ?_
  · obtain ⟨kd, rfl⟩ := ty_dict h
    obtain ⟨i, hj, hl, nd, hk, hv⟩ := plD_dic hp
    clear h hp
    refine wb_cut (fun Γ => Γ = [.w v, .w (.dic kd), .no, .no, .no] ∧ tyB v.ty "dict" = true) (ws_ifE (et_not (et_isi b_isinstance b_dict 0 5 (ek_s 0))) (fun h => wb_one (ws_ret (we_of ev_bl ⟨_, [], rfl, rfl, post _ ⟨fun z => (by cases z), fun e => ?_⟩⟩))) (fun h => wb_nil ⟨rfl, by simpa using h⟩)) ?_
    · rw [e] at h; simp [tyB, DL.D.ty] at h
    rintro Γ ⟨rfl, hv0⟩
    obtain ⟨kv, rfl⟩ := ty_dict hv0
    refine wb_cut (fun Γ => Γ = [.w (.dic kv), .w (.dic kd), .own (.lst (kd.map fun p => kD p.1)), .no, .no]) (ws_setO 2 (wo_of (eo_listKeys (kvs := kd) b_list 6 (ek_s 1)) rfl)) ?_
    rintro Γ rfl
    obtain ⟨q, hq⟩ : ∃ q : Bool, q = true ↔ kv.map (fun p => kD p.1) = kd.map fun p => kD p.1 := by
      by_cases z : kv.map (fun p => kD p.1) = kd.map fun p => kD p.1
      · exact ⟨true, fun _ => z, fun _ => rfl⟩
      · exact ⟨false, (fun y => by cases y), fun y => absurd y z⟩
    refine wb_cut (fun Γ => Γ = [.w (.dic kv), .w (.dic kd), .own (.lst (kd.map fun p => kD p.1)), .no, .no] ∧ kv.map (fun p => kD p.1) = kd.map fun p => kD p.1) (ws_ifE (et_not (et_val (p := q) (ev_call2 (c_rec (i + 1) hj) 7 (ek_v (x := .lst (kv.map fun p => kD p.1)) (ev_frz (eo_listKeys (kvs := kv) b_list 6 (ek_s 0)))) (ek_s 2) fun _ z => ⟨.lst (kv.map fun p => kD p.1), .lst (kd.map fun p => kD p.1), rfl, ⟨by rw [List.length_map]; omega, fun d hd => ?_⟩, fun b hb => ?_⟩))) (fun h => wb_one (ws_ret (we_of ev_bl ⟨_, [], rfl, rfl, post _ ⟨fun z => (by cases z), fun e => ?_⟩⟩))) (fun h => wb_nil ⟨rfl, hq.mp (by simpa using h)⟩)) ?_
    · obtain ⟨p, hp, rfl⟩ := List.mem_map.mp hd
      obtain ⟨s, hs⟩ := hk p hp
      rw [hs]; cases i <;> trivial
    · rw [show b = q from Bool.eq_iff_iff.mpr (hb.trans (Iff.trans (by simp) hq.symm))] ; exact z
    · have : kv = kd := by cases e; rfl
      rw [hq.mpr (by rw [this])] at h; cases h
    rintro Γ ⟨rfl, ek⟩
    have ek2 := kDs_inj ek
    have ln : kv.length = kd.length := by have := congrArg List.length ek2; rwa [List.length_map, List.length_map] at this
    have ndv : (kv.map (·.1)).Nodup := by rw [ek2]; exact nd
    have kvat : ∀ (m : Nat) (p : Key × DL.D), kd[m]? = some p → ∃ u, kv[m]? = some (p.1, u) := fun m p hm => by
      have h1 : (kv.map (·.1))[m]? = some p.1 := by rw [ek2, List.getElem?_map, hm]; rfl
      rw [List.getElem?_map] at h1
      obtain ⟨r, h2, h3⟩ := Option.map_eq_some_iff.mp h1
      exact ⟨r.2, by rw [h2, ← h3]⟩
    obtain ⟨r, hr⟩ : ∃ r : Bool, r = true ↔ kv.map (·.2) = kd.map (·.2) := by
      by_cases z : kv.map (·.2) = kd.map (·.2)
      · exact ⟨true, fun _ => z, fun _ => rfl⟩
      · exact ⟨false, (fun y => by cases y), fun y => absurd y z⟩
    refine wb_one (ws_ret (we_of (x := .bl r) (ev_call2 (c_rec (i + 1) hj) 7 (ek_v (x := .lst (kv.map (·.2))) (ev_frz (wo_lcL (n' := (n_l_same_c1 j)) (ds := kd.map fun p => kD p.1) 4 (fun m acc => acc = (kv.take m).map (·.2)) (fun _ _ b => b = true) ⟨(fun c hn => lc_bk hn rfl (by dsimp only [n_l_same]; decide +kernel)), by refine scC_k 0 ?_; dsimp only [n_l_same_c1, n_l_same_c2]; decide +kernel, rfl, rfl, rfl, rfl, rfl, rfl, rfl, (by intro o h; cases h), rfl⟩ (ek_s 2) rfl (by rw [List.length_map]; omega) rfl (fun X' c' hb i d hd => ⟨rfl, rfl⟩) (fun X' c' hb m d acc hd _ ha hn => ?_) (fun i d acc hd ht ha => (by cases ht)) (fun out ho => ?_)))) (ek_v (x := .lst (kd.map (·.2))) (ev_frz (wo_lcL (n' := (n_l_same_c2 j)) (ds := kd.map fun p => kD p.1) 4 (fun m acc => acc = (kd.take m).map (·.2)) (fun _ _ b => b = true) ⟨(fun c hn => lc_bk hn rfl (by dsimp only [n_l_same]; decide +kernel)), by refine scC_k 0 ?_; dsimp only [n_l_same_c1, n_l_same_c2]; decide +kernel, rfl, rfl, rfl, rfl, rfl, rfl, rfl, (by intro o h; cases h), rfl⟩ (ek_s 2) rfl (by rw [List.length_map]; omega) rfl (fun X' c' hb i d hd => ⟨rfl, rfl⟩) (fun X' c' hb m d acc hd _ ha hn => ?_) (fun i d acc hd ht ha => (by cases ht)) (fun out ho => ?_)))) fun _ z => ⟨.lst (kv.map (·.2)), .lst (kd.map (·.2)), rfl, ⟨by rw [List.length_map]; omega, fun d hd => ?_⟩, fun b hb => ?_⟩) ⟨_, [], rfl, rfl, post _ ?_⟩))
    · rw [List.getElem?_map] at hd
      obtain ⟨p, h1, rfl⟩ := Option.map_eq_some_iff.mp hd
      obtain ⟨u, h2⟩ := kvat m p h1
      refine we_of (ev_dix (kvs := kv) (ky := p.1) (x := u) (ek_s 0) (ev_var 4) rfl (valD_nd ndv h2)) ⟨rfl, ?_⟩
      rw [ha, List.take_add_one, h2, List.map_append]; rfl
    · rw [List.length_map, ← ln, List.take_length] at ho
      exact ⟨by rw [ho], rfl⟩
    · rw [List.getElem?_map] at hd
      obtain ⟨p, h1, rfl⟩ := Option.map_eq_some_iff.mp hd
      refine we_of (ev_dix (kvs := kd) (ky := p.1) (x := p.2) (ek_s 1) (ev_var 4) rfl (valD_nd nd h1)) ⟨rfl, ?_⟩
      rw [ha, List.take_add_one, h1, List.map_append]; rfl
    · rw [List.length_map, List.take_length] at ho
      exact ⟨by rw [ho], rfl⟩
    · obtain ⟨p, hp, rfl⟩ := List.mem_map.mp hd
      exact hv p hp
    · rw [show b = r from Bool.eq_iff_iff.mpr (hb.trans (Iff.trans (by simp) hr.symm))]; exact z
    · constructor
      · intro z
        rw [kvs_ext ek2 (hr.mp z)]
      · intro z
        have : kv = kd := by cases z; rfl
        exact hr.mpr (by rw [this])
  rintro Γ ⟨rfl, h5⟩
  refine wb_cut (fun Γ => Γ = [.w v, .w d, .no, .no, .no] ∧ (tyB d.ty "list" && !tyB v.ty "list") = false) (ws_ifE (EW.t (ew_and (et_isi b_isinstance b_list 0 6 (ek_s 1)) fun _ => ew_and1 (et_not (et_isi b_isinstance b_list 0 6 (ek_s 0))))) (fun h => wb_one (ws_ret (we_of ev_bl ⟨_, [], rfl, rfl, post _ ⟨fun z => (by cases z), fun e => ?_⟩⟩))) (fun h => wb_nil ⟨rfl, h⟩)) ?_
  · rw [e] at h; simp at h
  rintro Γ ⟨rfl, h6⟩
  refine wb_cut (fun Γ => Γ = [.w v, .w d, .no, .no, .no] ∧ (tyB d.ty "tuple" && !tyB v.ty "tuple") = false) (ws_ifE (EW.t (ew_and (et_isi b_isinstance b_tuple 0 8 (ek_s 1)) fun _ => ew_and1 (et_not (et_isi b_isinstance b_tuple 0 8 (ek_s 0))))) (fun h => wb_one (ws_ret (we_of ev_bl ⟨_, [], rfl, rfl, post _ ⟨fun z => (by cases z), fun e => ?_⟩⟩))) (fun h => wb_nil ⟨rfl, h⟩)) ?_
  · rw [e] at h; simp at h
  rintro Γ ⟨rfl, h7⟩
  obtain ⟨vs, ds, q1, q2, q3, q4, q5, q6, q7, q8, q9⟩ := same_seqD h1 h2 h3 h4 h5 h6 h7 hp
  cases j with
  | zero => exact absurd hp q9
  | succ i =>
  obtain ⟨hz, hpl⟩ := q8 i hp
  refine wb_cut (fun Γ => Γ = [.w v, .w d, .no, .no, .no] ∧ vs.length = ds.length) (ws_ifE (et_ne (ev_len b_len 9 (ek_s 0) q2 fun z e => absurd e (q4 z)) (ev_len b_len 9 (ek_s 1) q3 fun z e => absurd e (q5 z))) (fun h => wb_one (ws_ret (we_of ev_bl ⟨_, [], rfl, rfl, post _ ⟨fun z => (by cases z), fun e => ?_⟩⟩))) (fun h => wb_nil ⟨rfl, ?_⟩)) ?_
  · rw [q1.mp e] at h; simp at h
  · simp at h; omega
  rintro Γ ⟨rfl, hl⟩
  refine wb_cut (fun Γ => (∃ s, Γ = [.w v, .w d, .no, s, .no]) ∧ vs = ds) (ws_forR1 3 (fun i Γ => (∃ s, Γ = [.w v, .w d, .no, s, .no]) ∧ vs.take i = ds.take i) ds.length b_range 10 (we_of (ev_len b_len 9 (ek_s 1) q3 fun z e => absurd e (q5 z)) ⟨_, rfl, by simp, by omega, by omega, ⟨_, rfl⟩, rfl⟩) ?_ ?_) ?_
  · rintro k Γ hk ⟨⟨s, rfl⟩, ht⟩
    have e1 := atB (xs := vs) (i := k) (by omega)
    have e2 := atB hk
    refine wb_one (ws_if (wt_not (wt_val (we_call2v (c_rec i rfl) 7 (we_of (ev_ix (ek_s 0) (ev_var 3) (q6 k _ e1)) (we_of (ev_ix (ek_s 1) (ev_var 3) (q7 k _ e2)) ⟨_, _, rfl, hpl _ (List.getElem_mem hk), fun b hb => ⟨.bl b, rfl, b, rfl, fun z => ?_, fun z => ?_⟩⟩))))))
    · refine wb_one (ws_ret (we_of ev_bl ⟨_, [], rfl, rfl, post _ ⟨fun z => (by cases z), fun e => ?_⟩⟩))
      have e' := q1.mp e
      subst e'
      rw [hb.mpr rfl] at z; cases z
    · refine wb_nil ⟨⟨_, rfl⟩, take_succ ht ?_⟩
      rw [e1, e2, hb.mp (by simpa using z)]
  · rintro Γ ⟨hs, ht⟩
    refine ⟨hs, ?_⟩
    have h8 : vs.take vs.length = ds.take ds.length := by rw [hl]; exact ht
    simpa using h8
  rintro Γ ⟨⟨s, rfl⟩, e⟩
  exact wb_one (ws_ret (we_of ev_bl ⟨_, [], rfl, rfl, post _ ⟨fun _ => q1.mpr e, fun _ => rfl⟩⟩))


/-! seal_of -/
abbrev s_p_seal_of : Stmt := top 6
abbrev n_p_seal_of : Nm := { N := ["key", "counter", "cells", "seal", "cell"], V := [0, 1, 2, 3, 4], as := [0, 1, 2, 3, 4], GN := ["MODULUS", "len"], k := 0, oi := [], lc := [0, 1, 2, 3, 4], sc := none }
theorem sc_p_seal_of : FnScope n_p_seal_of.N ["key", "counter", "cells"] (defScope s_p_seal_of) := ⟨rfl, rfl, rfl, by decide +kernel, rfl, by decide +kernel, by decide +kernel⟩
theorem sb_p_seal_of : ScOk (defScope s_p_seal_of) n_p_seal_of := scOk_of (by decide +kernel)
abbrev S_p_seal_of : Sg := ST_sealof
theorem bd_p_seal_of {X : Cx} {c : Cc} (g_MODULUS : Con X "MODULUS" v_MODULUS) (b_len : Blt X "len" (.builtin "len")) : ∀ ps Post, S_p_seal_of ps Post → WB X n_p_seal_of c (entry n_p_seal_of.N ps) (defBody s_p_seal_of) (fnD n_p_seal_of.oi Post) := by
  rintro ps Post ⟨key, cc, cs, rfl, hk, c0, c1, hcs, hl, post⟩
  have bz : ∀ z : Int, 0 ≤ z → z < ZP → Bt 40 z := fun z h1 h2 => bt_of (by omega) (by unfold ZP at h2; omega)
  have bk2 : Bt 40 key := bz key (by have := hk.1; omega) hk.2
  show WB X n_p_seal_of c [.d (.int key), .d (.int cc), .w (.tup (cs.map DL.D.int)), .no, .no] _ _
  refine wb_cut (fun Γ => Γ = [.d (.int key), .d (.int cc), .w (.tup (cs.map DL.D.int)), .d (.int cc), .no]) (ws_set 3 (we_of (ev_var 1) rfl)) ?_
  rintro Γ rfl
  refine wb_cut (fun Γ => ∃ u4 : DL.Slot, Γ = [.d (.int key), .d (.int cc), .w (.tup (cs.map DL.D.int)), .d (.int (horM key cc cs)), u4]) (ws_forT 4 (fun i Γ => ∃ u4 : DL.Slot, Γ = [.d (.int key), .d (.int cc), .w (.tup (cs.map DL.D.int)), .d (.int (horM key cc (cs.take i))), u4]) (cs.map DL.D.int) (we_of (ev_fix 2) ⟨rfl, _, rfl⟩) ?_ ?_) ?_
  · rintro i Γ d hd ⟨u4, rfl⟩
    rw [List.getElem?_map] at hd
    obtain ⟨z, h1, rfl⟩ := Option.map_eq_some_iff.mp hd
    show WB X n_p_seal_of c [.d (.int key), .d (.int cc), .w (.tup (cs.map DL.D.int)), .d (.int (horM key cc (cs.take i))), .d (.int z)] _ _
    obtain ⟨b0, b1⟩ := horM_bd key (cs.take i) c0 c1
    refine wb_one (ws_set 3 (we_of (ev_is (y := .int (horM key cc (cs.take (i + 1)))) (ev_mod (ev_add (ev_mul (ev_var 3) (ev_var 0) ((bz _ b0 b1).cm bk2 (by decide))) (ev_var 4)) (ev_glob 0 g_MODULUS) (by decide)) ?_) ⟨_, rfl⟩))
    show DL.D.int _ = DL.D.int _
    rw [Int.fmod_eq_emod_of_nonneg _ (by decide), List.take_add_one, h1]
    unfold horM
    rw [List.foldl_append]; rfl
  · rintro Γ ⟨u4, rfl⟩
    rw [List.length_map, List.take_length]
    exact ⟨_, rfl⟩
  rintro Γ ⟨u4, rfl⟩
  obtain ⟨b0, b1⟩ := horM_bd key cs c0 c1
  refine wb_one (ws_ret (we_of (ev_is (y := .int (sealZ key cc cs)) (ev_mod (ev_add (ev_mul (ev_var 3) (ev_var 0) ((bz _ b0 b1).cm bk2 (by decide))) (ev_len (x := .tup (cs.map DL.D.int)) (m := cs.length) b_len 1 (ek_s 2) (by show some (cs.map DL.D.int).length = _; rw [List.length_map]))) (ev_glob 0 g_MODULUS) (by decide)) ?_) ⟨_, [], rfl, rfl, post⟩))
  show DL.D.int _ = DL.D.int _
  rw [Int.fmod_eq_emod_of_nonneg _ (by decide)]; rfl


/-! sealed_entry -/
abbrev s_p_sealed_entry : Stmt := top 7
abbrev n_p_sealed_entry : Nm := { N := ["key", "sender", "counter", "cells"], V := [0, 1, 2, 3], as := [0, 1, 2, 3], GN := ["tuple", "seal_of"], k := 1, oi := [], lc := [0, 1, 2, 3], sc := none }
theorem sc_p_sealed_entry : FnScope n_p_sealed_entry.N ["key", "sender", "counter", "cells"] (defScope s_p_sealed_entry) := ⟨rfl, rfl, rfl, by decide +kernel, rfl, by decide +kernel, by decide +kernel⟩
theorem sb_p_sealed_entry : ScOk (defScope s_p_sealed_entry) n_p_sealed_entry := scOk_of (by decide +kernel)
abbrev S_p_sealed_entry : Sg := ST_sealed
theorem bd_p_sealed_entry {X : Cx} {c : Cc} (b_tuple : Blt X "tuple" (.type "tuple")) (c_p_seal_of : CalF X n_p_sealed_entry.k "seal_of" S_p_seal_of) : ∀ ps Post, S_p_sealed_entry ps Post → WB X n_p_sealed_entry c (entry n_p_sealed_entry.N ps) (defBody s_p_sealed_entry) (fnD n_p_sealed_entry.oi Post) := by
  rintro ps Post ⟨key, cc, a, cs, rfl, hk, c0, c1, hcs, hl, post⟩
  show WB X n_p_sealed_entry c [.d (.int key), .d (.str a), .d (.int cc), .w (.tup (cs.map DL.D.int))] _ _
  exact wb_one (ws_ret (we_of (ev_tup (ea_cons (ek_d (ev_var 1)) (ea_cons (ek_d (ev_var 2)) (ea_cons (ek_d (ev_tuple (x := .tup (cs.map DL.D.int)) b_tuple 0 (ek_s 3))) (ea_cons (ek_d (ev_call3 c_p_seal_of 1 (ek_d (ev_var 0)) (ek_d (ev_var 2)) (ek_s 3) fun _ z => ⟨key, cc, cs, rfl, hk, c0, c1, hcs, hl, z⟩)) ea_nil))))) ⟨_, [], rfl, rfl, post⟩))


/-! _law_copy -/
abbrev s_l_copy : Stmt := top 21
abbrev n_l_copy (j : Nat) : Nm := { N := ["_law_value", "_law_row", "_law_name", "_law_one"], V := [0, 1, 2], as := [0, 1, 2], GN := ["isinstance", "list", "tuple", "dict", "_law_copy"], k := 0 + j, oi := [], lc := [0, 1, 2], sc := some (defScope s_l_copy) }
abbrev n_l_copy_c1 (j : Nat) : Nm := { N := ["_law_value", "_law_row", "_law_name", "_law_one"], V := [3], as := [3], GN := ["_law_copy"], k := 0 + j, oi := [] }
abbrev n_l_copy_c2 (j : Nat) : Nm := { N := ["_law_value", "_law_row", "_law_name", "_law_one"], V := [3], as := [3], GN := ["_law_copy"], k := 0 + j, oi := [] }
theorem sc_l_copy : FnScope (n_l_copy 0).N ["_law_value"] (defScope s_l_copy) := ⟨rfl, rfl, rfl, by decide +kernel, rfl, by decide +kernel, by decide +kernel⟩
theorem sb_l_copy : ScOk (defScope s_l_copy) (n_l_copy 0) := scOk_of (by decide +kernel)
abbrev S_l_copy : Sg := ST_copyD 5
theorem bd_l_copy {X : Cx} {c : Cc} (j : Nat) (b_isinstance : Blt X "isinstance" (.builtin "isinstance")) (b_list : Blt X "list" (.type "list")) (b_tuple : Blt X "tuple" (.type "tuple")) (b_dict : Blt X "dict" (.type "dict")) (c_rec : ∀ i, j = i + 1 → CalF X (n_l_copy j).k "_law_copy" (ST_copyD i)) : ∀ ps Post, ST_copyD j ps Post → WB X (n_l_copy j) c (entry (n_l_copy j).N ps) (defBody s_l_copy) (fnD (n_l_copy j).oi Post) := by
  rintro ps Post ⟨x, rfl, hp, p1, p2⟩
  show WB X (n_l_copy j) c [.w x, .no, .no, .no] _ _
  refine wb_cut (fun Γ => Γ = [.w x, .no, .no, .no] ∧ tyB x.ty "list" = false) (ws_ifE (et_isi b_isinstance b_list 0 1 (ek_s 0)) (fun h => ?_) (fun h => wb_nil ⟨rfl, h⟩)) ?_
  · obtain ⟨ds, rfl⟩ := ty_list h
    obtain ⟨i, hj⟩ : ∃ i, j = i + 1 := by
      cases j
      · exact hp.elim
      · exact ⟨_, rfl⟩
    have hp' : ds.length ≤ 100000 ∧ ∀ d ∈ ds, DL.D.plD i d := by subst hj; exact hp
    clear hp
    refine wb_one (ws_retO (wo_lcL (n' := (n_l_copy_c1 j)) 3 (fun i acc => acc = ds.take i) (fun _ _ b => b = true) ⟨(fun c hn => lc_bk hn rfl (by dsimp only [n_l_copy]; decide +kernel)), by refine scC_k 0 ?_; dsimp only [n_l_copy_c1, n_l_copy_c2]; decide +kernel, rfl, rfl, rfl, rfl, rfl, rfl, rfl, (by intro o h; cases h), rfl⟩ (ek_s 0) rfl hp'.1 rfl (fun X' c' hb i d hd => ⟨rfl, rfl⟩) (fun X' c' hb k d acc hd _ ha hn => ?_) (fun i d acc hd ht ha => (by cases ht)) (fun out ho => ?_)))
    · refine we_callE ((c_rec i hj).blk hb) 0 (ea_cons (ek_s 3) ea_nil) ⟨d, rfl, hp'.2 d (List.mem_of_getElem? hd), fun ds' e => ⟨.lst ds', rfl, rfl, ?_⟩, fun _ => ⟨d, rfl, rfl, ?_⟩⟩
      · rw [← e, ha, List.take_succ, hd]; rfl
      · rw [ha, List.take_succ, hd]; rfl
    · rw [List.take_length] at ho
      subst ho
      exact ⟨.own _, [], .inl rfl, rfl, p1 _ rfl⟩
  rintro Γ ⟨rfl, h1⟩
  refine wb_cut (fun Γ => Γ = [.w x, .no, .no, .no] ∧ tyB x.ty "tuple" = false) (ws_ifE (et_isi b_isinstance b_tuple 0 2 (ek_s 0)) (fun h => ?_) (fun h => wb_nil ⟨rfl, h⟩)) ?_
  · obtain ⟨ds, rfl⟩ := ty_tuple h
    obtain ⟨i, hj⟩ : ∃ i, j = i + 1 := by
      cases j
      · exact hp.elim
      · exact ⟨_, rfl⟩
    have hp' : ds.length ≤ 100000 ∧ ∀ d ∈ ds, DL.D.plD i d := by subst hj; exact hp
    clear hp
    refine wb_one (ws_ret (we_of (ev_tuple (x := .lst ds) (ds := ds) b_tuple 2 (ek_d (ev_frz (wo_lcT (n' := (n_l_copy_c2 j)) 3 (fun i acc => acc = ds.take i) (fun _ _ b => b = true) ⟨(fun c hn => lc_bk hn rfl (by dsimp only [n_l_copy]; decide +kernel)), by refine scC_k 0 ?_; dsimp only [n_l_copy_c1, n_l_copy_c2]; decide +kernel, rfl, rfl, rfl, rfl, rfl, rfl, rfl, (by intro o h; cases h), rfl⟩ (ev_fix 0) hp'.1 rfl (fun X' c' hb i d hd => ⟨rfl, rfl⟩) (fun X' c' hb k d acc hd _ ha hn => ?_) (fun i d acc hd ht ha => (by cases ht)) (fun out ho => ⟨by rw [ho, List.take_length], rfl⟩))))) ⟨_, [], rfl, rfl, p2 fun ds' e => (by cases e)⟩))
    refine we_callE ((c_rec i hj).blk hb) 0 (ea_cons (ek_s 3) ea_nil) ⟨d, rfl, hp'.2 d (List.mem_of_getElem? hd), fun ds' e => ⟨.lst ds', rfl, rfl, ?_⟩, fun _ => ⟨d, rfl, rfl, ?_⟩⟩
    · rw [← e, ha, List.take_succ, hd]; rfl
    · rw [ha, List.take_succ, hd]; rfl
  rintro Γ ⟨rfl, h2⟩
  refine wb_cut (fun Γ => Γ = [.w x, .no, .no, .no] ∧ tyB x.ty "dict" = false) (ws_ifE (et_isi b_isinstance b_dict 0 3 (ek_s 0)) (fun h => ?_) (fun h => wb_nil ⟨rfl, h⟩)) ?_
  · obtain ⟨kd, rfl⟩ := ty_dict h
    obtain ⟨i, hj, hl, nd, hk, hv⟩ := plD_dic hp
    clear h hp
    refine wb_cut (fun Γ => Γ = [.w (.dic kd), .own (.dic []), .no, .no]) (ws_setO 1 (wo_of eo_dnew rfl)) ?_
    rintro Γ rfl
    refine wb_cut (fun Γ => ∃ u2 : DL.Slot, Γ = [.w (.dic kd), .own (.dic kd), u2, .no]) (ws_forL 2 (fun m Γ => ∃ u2 : DL.Slot, Γ = [.w (.dic kd), .own (.dic (kd.take m)), u2, .no]) (kd.map fun p => kD p.1) (we_frz (wo_of (eo_listKeys (kvs := kd) b_list 1 (ek_s 0)) ⟨_, rfl, rfl, _, rfl⟩)) ?_ ?_) ?_
    · rintro m Γ d hd ⟨u2, rfl⟩
      rw [List.getElem?_map] at hd
      obtain ⟨p, h1, rfl⟩ := Option.map_eq_some_iff.mp hd
      show WB X (n_l_copy j) c [.w (.dic kd), .own (.dic (kd.take m)), .d (kD p.1), .no] _ _
      have hnew : p.1 ∉ (kd.take m).map (·.1) := fun z => by
        have e := List.getElem?_map (f := (·.1)) (l := kd) (i := m)
        rw [h1] at e
        have hm : m < (kd.map (·.1)).length := (List.getElem?_eq_some_iff.mp e).1
        obtain ⟨y, hy⟩ := List.mem_iff_getElem?.mp z
        rw [List.map_take, List.getElem?_take] at hy
        by_cases hlt : y < m
        · rw [if_pos hlt] at hy
          have e2 : (kd.map (·.1))[m]? = (kd.map (·.1))[y]? := by rw [hy, e]; rfl
          have := (List.getElem?_inj hm nd).mp e2
          omega
        · rw [if_neg hlt] at hy; cases hy
      have stp : putD' (kd.take m) p.1 p.2 = kd.take (m + 1) := by
        rw [putD_new hnew, List.take_add_one, h1]; rfl
      refine wb_one (ws_dput 1 (we_callE (c_rec (i + 1) hj) 4 (ea_cons (ek_v (x := p.2) (ev_dix (kvs := kd) (ky := p.1) (ek_s 0) (ev_var 2) rfl (valD_nd nd h1))) ea_nil) ⟨p.2, rfl, (hv p (List.mem_of_getElem? h1)).mono (by omega), fun ds e => ⟨.lst ds, rfl, we_of (ev_var 2) ⟨kd.take m, p.1, rfl, rfl, by rw [List.length_take]; omega, .d (kD p.1), ?_⟩⟩, fun _ => ⟨p.2, rfl, we_of (ev_var 2) ⟨kd.take m, p.1, rfl, rfl, by rw [List.length_take]; omega, .d (kD p.1), ?_⟩⟩⟩ (hnd := List.nodup_nil) (hrd := fun _ _ h => by cases h)))
      · rw [← e, stp]; rfl
      · rw [stp]; rfl
    · rintro Γ ⟨u2, rfl⟩
      rw [List.length_map, List.take_length]
      exact ⟨_, rfl⟩
    rintro Γ ⟨u2, rfl⟩
    exact wb_one (ws_ret (we_frz (wo_mv 1 ⟨_, rfl, _, [], rfl, rfl, p2 fun ds' e => by cases e⟩)))
  rintro Γ ⟨rfl, h3⟩
  have hf : x.fix = true := by cases x <;> first | rfl | (simp [tyB, DL.D.ty] at h1 h3; done) | exact absurd hp (by match j with | 0 => exact fun z => z | 1 => exact fun z => z | _ + 2 => exact fun z => z)
  exact wb_one (ws_ret (we_of (ev_fix 0 (x := x) rfl rfl hf) ⟨_, [], rfl, rfl, p2 fun ds' e => (by rw [e] at h1; simp [tyB, DL.D.ty] at h1)⟩))


/-! is_name -/
abbrev s_p_is_name : Stmt := top 8
abbrev n_p_is_name : Nm := { N := ["value", "sign"], V := [0, 1], as := [0, 1], GN := ["isinstance", "str", "len", "LETTERS", "DIGITS"], k := 0, oi := [], lc := [0, 1], sc := none }
theorem sc_p_is_name : FnScope n_p_is_name.N ["value"] (defScope s_p_is_name) := ⟨rfl, rfl, rfl, by decide +kernel, rfl, by decide +kernel, by decide +kernel⟩
theorem sb_p_is_name : ScOk (defScope s_p_is_name) n_p_is_name := scOk_of (by decide +kernel)
abbrev S_p_is_name : Sg := ST_isname
theorem bd_p_is_name {X : Cx} {c : Cc} (b_isinstance : Blt X "isinstance" (.builtin "isinstance")) (b_str : Blt X "str" (.type "str")) (b_len : Blt X "len" (.builtin "len")) (g_LETTERS : Con X "LETTERS" v_LETTERS) (g_DIGITS : Con X "DIGITS" v_DIGITS) : ∀ ps Post, S_p_is_name ps Post → WB X n_p_is_name c (entry n_p_is_name.N ps) (defBody s_p_is_name) (fnD n_p_is_name.oi Post) := by
  rintro ps Post ⟨x, rfl, hz, post⟩
  show WB X n_p_is_name c [.w x, .no] _ _
  cases hs : tyB x.ty "str" with
  | false =>
    have e : isNm x = false := by cases x <;> first | rfl | (simp [tyB, DL.D.ty] at hs; done)
    rw [e] at post
    refine wb_cons (ws_ifE (q := true) (EW.t (ew_or (p := true) (q := true) (et_is (et_not (et_isi b_isinstance b_str 0 1 (ek_s 0))) (by rw [hs]; rfl)) fun h => by cases h)) (fun _ => wb_one (ws_ret (we_of ev_bl ⟨_, [], rfl, rfl, ?_⟩))) (fun h => by cases h))
    exact post
  | true =>
  obtain ⟨s, rfl⟩ := ty_str hs
  have sl : s.length ≤ sizeLine := by rw [sizeLine_eq]; have := hz s rfl; omega
  have lt : s.cps.toList.length = s.length := by rw [Array.length_toList]; rfl
  have hze : ∀ z, DL.D.str s = .str z → z.length ≤ sizeLine := fun z e => by cases e; exact sl
  refine wb_cut (fun Γ => Γ = [.w (.str s), .no] ∧ 1 ≤ s.length ∧ s.length ≤ 8) (ws_ifE (EW.t (ew_or (p := false) (et_is (et_not (et_isi b_isinstance b_str 0 1 (ek_s 0))) (by rw [hs]; rfl)) fun _ => ew_or (et_lt (ev_len (x := .str s) (m := s.length) b_len 2 (ek_s 0) rfl hze) ev_int) fun _ => ew_or1 (et_gt (ev_len (x := .str s) (m := s.length) b_len 2 (ek_s 0) rfl hze) ev_int))) (fun h => wb_one (ws_ret (we_of ev_bl ⟨_, [], rfl, rfl, ?_⟩))) (fun h => wb_nil ⟨rfl, by simp at h; omega, by simp at h; omega⟩)) ?_
  · have e : isNm (.str s) = false := by
      show nmOk s.cps.toList = false
      simp only [Bool.or_eq_true, decide_eq_true_eq, Bool.false_or] at h
      unfold nmOk
      rw [lt]
      rcases h with h | h
      · rw [decide_eq_false (show ¬ 1 ≤ s.length by omega)]; rfl
      · rw [decide_eq_false (show ¬ s.length ≤ 8 by omega)]; simp
    rw [e] at post; exact post
  rintro Γ ⟨rfl, l1, l8⟩
  obtain ⟨z0, hz0, ha0⟩ := str_at' (w := s) (k := 0) (by omega) sl
  have hh : s.cps.toList.head? = some z0 := by rw [List.head?_eq_getElem?]; exact hz0
  have nmv : isNm (.str s) = (decide (z0 ∈ ltrs) && s.cps.toList.all fun z => decide (z ∈ ltrs ++ dgts)) := by
    show nmOk s.cps.toList = _
    unfold nmOk
    rw [lt, decide_eq_true l1, decide_eq_true l8, hh]; rfl
  refine wb_cut (fun Γ => Γ = [.w (.str s), .no] ∧ z0 ∈ ltrs) (ws_ifE (et_notInC (z := z0) (t := "abcdefghijklmnopqrstuvwxyz") (ek_d (ev_ix (x := .str s) (z := .str (sgS z0)) (ek_s 0) ev_int ha0)) (ek_d (ev_glob 3 g_LETTERS))) (fun h => wb_one (ws_ret (we_of ev_bl ⟨_, [], rfl, rfl, ?_⟩))) (fun h => wb_nil ⟨rfl, Decidable.byContradiction fun q => by rw [decide_eq_false (show ¬ z0 ∈ ("abcdefghijklmnopqrstuvwxyz" : Str).cps.toList from q)] at h; cases h⟩)) ?_
  · rw [nmv, show decide (z0 ∈ ltrs) = false from decide_eq_false (fun q => by rw [decide_eq_true (show z0 ∈ ("abcdefghijklmnopqrstuvwxyz" : Str).cps.toList from q)] at h; cases h), Bool.false_and] at post
    exact post
  rintro Γ ⟨rfl, hl0⟩
  refine wb_cut (fun Γ => ∃ u : DL.Slot, Γ = [.w (.str s), u] ∧ ∀ z ∈ s.cps.toList, z ∈ ltrs ++ dgts) (ws_forS 1 (fun i Γ => ∃ u : DL.Slot, Γ = [.w (.str s), u] ∧ ∀ z ∈ s.cps.toList.take i, z ∈ ltrs ++ dgts) s (we_of (ev_fix 0) ⟨rfl, _, rfl, by simp⟩) ?_ ?_) ?_
  · rintro i Γ z hz1 ⟨u, rfl, hall⟩
    show WB X n_p_is_name c [.w (.str s), .d (.str (sgS z))] _ _
    have hz2 : s.cps.toList[i]? = some z := by rw [Array.getElem?_toList]; exact hz1
    refine wb_one (ws_ifE (EW.t (ew_and (et_notInC (z := z) (t := "abcdefghijklmnopqrstuvwxyz") (ek_d (ev_var 1)) (ek_d (ev_glob 3 g_LETTERS))) fun _ => ew_and1 (et_notInC (z := z) (t := "0123456789") (ek_d (ev_var 1)) (ek_d (ev_glob 4 g_DIGITS))))) (fun h => wb_one (ws_ret (we_of ev_bl ⟨_, [], rfl, rfl, ?_⟩))) (fun h => wb_nil ⟨_, rfl, ?_⟩))
    · have nz : z ∉ ltrs ++ dgts := by
        obtain ⟨h1, h2⟩ := Bool.and_eq_true_iff.mp h
        rw [List.mem_append]
        rintro (q | q)
        · rw [decide_eq_true (show z ∈ ("abcdefghijklmnopqrstuvwxyz" : Str).cps.toList from q)] at h1; cases h1
        · rw [decide_eq_true (show z ∈ ("0123456789" : Str).cps.toList from q)] at h2; cases h2
      have : (s.cps.toList.all fun z => decide (z ∈ ltrs ++ dgts)) = false := List.all_eq_false.mpr ⟨z, List.mem_of_getElem? hz2, by rw [decide_eq_false nz]; simp⟩
      rw [nmv, this, Bool.and_false] at post
      exact post
    · intro y hy
      rw [List.take_add_one, hz2] at hy
      rcases List.mem_append.mp hy with hy | hy
      · exact hall y hy
      · have : y = z := by simpa using hy
        subst this
        rw [List.mem_append]
        rcases Bool.and_eq_false_iff.mp h with q | q
        · exact .inl (show y ∈ ("abcdefghijklmnopqrstuvwxyz" : Str).cps.toList from by simpa using q)
        · exact .inr (show y ∈ ("0123456789" : Str).cps.toList from by simpa using q)
  · rintro Γ ⟨u, rfl, hall⟩
    refine ⟨u, rfl, ?_⟩
    rw [← Array.length_toList, List.take_length] at hall
    exact hall
  rintro Γ ⟨u, rfl, hall⟩
  refine wb_one (ws_ret (we_of ev_bl ⟨_, [], rfl, rfl, ?_⟩))
  have : (s.cps.toList.all fun z => decide (z ∈ ltrs ++ dgts)) = true := List.all_eq_true.mpr fun z hz => decide_eq_true (hall z hz)
  rw [nmv, this, decide_eq_true hl0] at post
  exact post


/-! is_whole -/
abbrev s_p_is_whole : Stmt := top 1
abbrev n_p_is_whole : Nm := { N := ["value"], V := [0], as := [0], GN := ["isinstance", "int", "bool"], k := 0, oi := [], lc := [0], sc := none }
theorem sc_p_is_whole : FnScope n_p_is_whole.N ["value"] (defScope s_p_is_whole) := ⟨rfl, rfl, rfl, by decide +kernel, rfl, by decide +kernel, by decide +kernel⟩
theorem sb_p_is_whole : ScOk (defScope s_p_is_whole) n_p_is_whole := scOk_of (by decide +kernel)
abbrev S_p_is_whole : Sg := ST_isint
theorem bd_p_is_whole {X : Cx} {c : Cc} (b_isinstance : Blt X "isinstance" (.builtin "isinstance")) (b_int : Blt X "int" (.type "int")) (b_bool : Blt X "bool" (.type "bool")) : ∀ ps Post, S_p_is_whole ps Post → WB X n_p_is_whole c (entry n_p_is_whole.N ps) (defBody s_p_is_whole) (fnD n_p_is_whole.oi Post) := by
  rintro ps Post ⟨x, rfl, post⟩
  show WB X n_p_is_whole c [.w x] _ _
  refine wb_one (ws_ret (we_of (ev_and (ev_isi b_isinstance b_int 0 1 (ek_s 0)) fun h => ev_one (ev_not (ev_isi b_isinstance b_bool 0 2 (ek_s 0)))) ⟨_, [], rfl, rfl, ?_⟩))
  rw [isI_ty]; exact post


/-! is_cell -/
abbrev s_p_is_cell : Stmt := top 9
abbrev n_p_is_cell : Nm := { N := ["value"], V := [0], as := [0], GN := ["is_whole", "MODULUS"], k := 1, oi := [], lc := [0], sc := none }
theorem sc_p_is_cell : FnScope n_p_is_cell.N ["value"] (defScope s_p_is_cell) := ⟨rfl, rfl, rfl, by decide +kernel, rfl, by decide +kernel, by decide +kernel⟩
theorem sb_p_is_cell : ScOk (defScope s_p_is_cell) n_p_is_cell := scOk_of (by decide +kernel)
abbrev S_p_is_cell : Sg := ST_iscell
theorem bd_p_is_cell {X : Cx} {c : Cc} (c_p_is_whole : CalF X n_p_is_cell.k "is_whole" S_p_is_whole) (g_MODULUS : Con X "MODULUS" v_MODULUS) : ∀ ps Post, S_p_is_cell ps Post → WB X n_p_is_cell c (entry n_p_is_cell.N ps) (defBody s_p_is_cell) (fnD n_p_is_cell.oi Post) := by
  rintro ps Post ⟨x, rfl, post⟩
  show WB X n_p_is_cell c [.w x] _ _
  cases hI : x.isI with
  | false =>
    have e : isCe x = false := by cases x <;> first | rfl | cases hI
    rw [e] at post
    exact wb_one (ws_ret (we_of (ev_and (p := false) (q := false) (ev_is (ev_call1 c_p_is_whole 0 (ek_s 0) fun _ p => ⟨_, rfl, p⟩) (by rw [hI])) fun h => by cases h) ⟨_, [], rfl, rfl, post⟩))
  | true =>
    obtain ⟨i, rfl⟩ := isI_of hI
    have e : isCe (.int i) = (true && (decide (0 ≤ i) && decide (i < 2147483647))) := by show (decide (0 ≤ i) && decide (i < ZP)) = _; rw [Bool.true_and]; rfl
    rw [e] at post
    exact wb_one (ws_ret (we_of (ev_and (p := true) (ev_is (ev_call1 c_p_is_whole 0 (ek_s 0) fun _ p => ⟨_, rfl, p⟩) rfl) fun _ => ev_and (ev_ge (i := i) (ev_fix 0) ev_int) fun _ => ev_one (ev_lt (i := i) (ev_fix 0) (ev_glob 1 g_MODULUS))) ⟨_, [], rfl, rfl, post⟩))


/-! is_entry -/
abbrev s_p_is_entry : Stmt := top 10
abbrev n_p_is_entry : Nm := { N := ["value", "sender", "counter", "cells", "seal", "cell"], V := [0, 1, 2, 3, 4, 5], as := [0, 1, 2, 3, 4, 5], GN := ["isinstance", "tuple", "len", "is_name", "is_whole", "is_cell"], k := 2, oi := [], lc := [0, 1, 2, 3, 4, 5], sc := none }
theorem sc_p_is_entry : FnScope n_p_is_entry.N ["value"] (defScope s_p_is_entry) := ⟨rfl, rfl, rfl, by decide +kernel, rfl, by decide +kernel, by decide +kernel⟩
theorem sb_p_is_entry : ScOk (defScope s_p_is_entry) n_p_is_entry := scOk_of (by decide +kernel)
abbrev S_p_is_entry : Sg := ST_isentry
theorem bd_p_is_entry {X : Cx} {c : Cc} (b_isinstance : Blt X "isinstance" (.builtin "isinstance")) (b_tuple : Blt X "tuple" (.type "tuple")) (b_len : Blt X "len" (.builtin "len")) (c_p_is_name : CalF X n_p_is_entry.k "is_name" S_p_is_name) (c_p_is_whole : CalF X n_p_is_entry.k "is_whole" S_p_is_whole) (c_p_is_cell : CalF X n_p_is_entry.k "is_cell" S_p_is_cell) : ∀ ps Post, S_p_is_entry ps Post → WB X n_p_is_entry c (entry n_p_is_entry.N ps) (defBody s_p_is_entry) (fnD n_p_is_entry.oi Post) := by
  rintro ps Post ⟨x, rfl, hj, post⟩
  show WB X n_p_is_entry c [.w x, .no, .no, .no, .no, .no] _ _
  cases ht : tyB x.ty "tuple" with
  | false =>
    rw [isEn_ty ht] at post
    refine wb_cons (ws_ifE (q := true) (EW.t (ew_or (p := true) (q := true) (et_is (et_not (et_isi b_isinstance b_tuple 0 1 (ek_s 0))) (by rw [ht]; rfl)) fun h => by cases h)) (fun _ => wb_one (ws_ret (we_of ev_bl ⟨_, [], rfl, rfl, ?_⟩))) (fun h => by cases h))
    exact post
  | true =>
  obtain ⟨ds, rfl⟩ := ty_tuple ht
  refine wb_cut (fun Γ => Γ = [.w (.tup ds), .no, .no, .no, .no, .no] ∧ ds.length = 4) (ws_ifE (EW.t (ew_or (p := false) (et_is (et_not (et_isi b_isinstance b_tuple 0 1 (ek_s 0))) (by rw [ht]; rfl)) fun _ => ew_or1 (et_ne (ev_len (x := .tup ds) (m := ds.length) b_len 2 (ek_s 0)) ev_int))) (fun h => wb_one (ws_ret (we_of ev_bl ⟨_, [], rfl, rfl, ?_⟩))) (fun h => wb_nil ⟨rfl, by simp at h; omega⟩)) ?_
  · rw [isEn_len (by simp at h; omega)] at post; exact post
  rintro Γ ⟨rfl, l4⟩
  obtain ⟨a, b, d, e, rfl⟩ := four_of l4
  refine wb_cut (fun Γ => Γ = [.w (.tup [a, b, d, e]), .d a, .d b, .d d, .d e, .no]) (ws_asgG (we_of (ev_fix 0) (wg_tp (wgs_cons (wg_nm 1 (wgs_cons (wg_nm 2 (wgs_cons (wg_nm 3 (wgs_cons (wg_nm 4 (wgs_nil rfl)))))))))))) ?_
  rintro Γ rfl
  cases hb : b.isI with
  | false =>
    rw [isEn_false (fun q => by have := (isEn_facts q).2.1; rw [hb] at this; cases this)] at post
    refine wb_cons (ws_ifE (q := true) (et_is (EW.t (ew_or (et_not (et_val (ev_call1 c_p_is_name 3 (ek_v (ev_var 1)) fun _ z => ⟨a, rfl, fun s e => hj.nm _ _ s rfl e, z⟩))) fun _ => ew_or (p := true) (q := true) (et_is (et_not (et_val (ev_call1 c_p_is_whole 4 (ek_v (ev_var 2)) fun _ z => ⟨b, rfl, z⟩))) (by rw [hb]; rfl)) fun h => by cases h)) (by simp)) (fun _ => wb_one (ws_ret (we_of ev_bl ⟨_, [], rfl, rfl, ?_⟩))) (fun h => by cases h))
    exact post
  | true =>
  obtain ⟨i, rfl⟩ := isI_of hb
  refine wb_cut (fun Γ => Γ = [.w (.tup [a, .int i, d, e]), .d a, .d (.int i), .d d, .d e, .no] ∧ isNm a = true ∧ 1 ≤ i ∧ i ≤ 999) (ws_ifE (EW.t (ew_or (et_not (et_val (ev_call1 c_p_is_name 3 (ek_v (ev_var 1)) fun _ z => ⟨a, rfl, fun s e => hj.nm _ _ s rfl e, z⟩))) fun _ => ew_or (p := false) (et_is (et_not (et_val (ev_call1 c_p_is_whole 4 (ek_v (ev_var 2)) fun _ z => ⟨.int i, rfl, z⟩))) rfl) fun _ => ew_or (et_lt (ev_var 2) ev_int) fun _ => ew_or1 (et_gt (ev_var 2) ev_int))) (fun h => wb_one (ws_ret (we_of ev_bl ⟨_, [], rfl, rfl, ?_⟩))) (fun h => wb_nil ⟨rfl, by simp at h; exact h.1, by simp at h; omega, by simp at h; omega⟩)) ?_
  · rw [isEn_false (fun q => by
      obtain ⟨q1, _, q3, q4, _⟩ := isEn_facts q
      simp only [cInt] at q3 q4
      rw [q1] at h
      simp at h
      omega)] at post
    exact post
  rintro Γ ⟨rfl, n1, i1, i2⟩
  refine wb_cut (fun Γ => Γ = [.w (.tup [a, .int i, d, e]), .d a, .d (.int i), .d d, .d e, .no] ∧ tyB d.ty "tuple" = true ∧ isCe e = true) (ws_ifE (EW.t (ew_or (et_not (et_isi b_isinstance b_tuple 0 1 (ek_d (ev_var 3)))) fun _ => ew_or1 (et_not (et_val (ev_call1 c_p_is_cell 5 (ek_v (ev_var 4)) fun _ z => ⟨e, rfl, z⟩))))) (fun h => wb_one (ws_ret (we_of ev_bl ⟨_, [], rfl, rfl, ?_⟩))) (fun h => wb_nil ⟨rfl, by simp at h; exact h.1, by simp at h; exact h.2⟩)) ?_
  · rw [isEn_false (fun q => by
      obtain ⟨_, _, _, _, q5, q6, _⟩ := isEn_facts q
      rw [q5, q6] at h
      cases h)] at post
    exact post
  rintro Γ ⟨rfl, hd, he⟩
  obtain ⟨cs, rfl⟩ := ty_tuple hd
  refine wb_cut (fun Γ => ∃ u : DL.Slot, Γ = [.w (.tup [a, .int i, .tup cs, e]), .d a, .d (.int i), .d (.tup cs), .d e, u] ∧ cs.all isCe = true) (ws_forT 5 (fun m Γ => ∃ u : DL.Slot, Γ = [.w (.tup [a, .int i, .tup cs, e]), .d a, .d (.int i), .d (.tup cs), .d e, u] ∧ (cs.take m).all isCe = true) cs (we_of (ev_var 3) ⟨rfl, _, rfl, rfl⟩) ?_ ?_) ?_
  · rintro m Γ y hy ⟨u, rfl, ha⟩
    show WB X n_p_is_entry c [.w (.tup [a, .int i, .tup cs, e]), .d a, .d (.int i), .d (.tup cs), .d e, .d y] _ _
    refine wb_one (ws_ifE (et_not (et_val (ev_call1 c_p_is_cell 5 (ek_v (ev_var 5)) fun _ z => ⟨y, rfl, z⟩))) (fun h => wb_one (ws_ret (we_of ev_bl ⟨_, [], rfl, rfl, ?_⟩))) (fun h => wb_nil ⟨_, rfl, ?_⟩))
    · rw [isEn_false (fun q => by
        have q7 := List.all_eq_true.mp ((isEn_facts q).2.2.2.2.2.2 cs rfl) y (List.mem_of_getElem? hy)
        rw [q7] at h; cases h)] at post
      exact post
    · rw [List.take_add_one, hy, List.all_append, ha]
      simpa using h
  · rintro Γ ⟨u, rfl, ha⟩
    rw [List.take_length] at ha
    exact ⟨_, rfl, ha⟩
  rintro Γ ⟨u, rfl, ha⟩
  refine wb_one (ws_ret (we_of ev_bl ⟨_, [], rfl, rfl, ?_⟩))
  have e1 : isEn (.tup [a, .int i, .tup cs, e]) = true := by
    show (isNm a && (decide (1 ≤ i) && decide (i ≤ 999)) && (isCe e && cs.all isCe)) = true
    rw [n1, he, ha, decide_eq_true i1, decide_eq_true i2]; rfl
  rw [e1] at post
  exact post


/-! is_sealed -/
abbrev s_p_is_sealed : Stmt := top 11
abbrev n_p_is_sealed : Nm := { N := ["key", "value", "spare", "counter", "cells", "seal"], V := [0, 1, 2, 3, 4, 5], as := [0, 1, 2, 3, 4, 5], GN := ["is_entry", "seal_of"], k := 3, oi := [], lc := [0, 1, 2, 3, 4, 5], sc := none }
theorem sc_p_is_sealed : FnScope n_p_is_sealed.N ["key", "value"] (defScope s_p_is_sealed) := ⟨rfl, rfl, rfl, by decide +kernel, rfl, by decide +kernel, by decide +kernel⟩
theorem sb_p_is_sealed : ScOk (defScope s_p_is_sealed) n_p_is_sealed := scOk_of (by decide +kernel)
abbrev S_p_is_sealed : Sg := ST_issealed
theorem bd_p_is_sealed {X : Cx} {c : Cc} (c_p_is_entry : CalF X n_p_is_sealed.k "is_entry" S_p_is_entry) (c_p_seal_of : CalF X n_p_is_sealed.k "seal_of" S_p_seal_of) : ∀ ps Post, S_p_is_sealed ps Post → WB X n_p_is_sealed c (entry n_p_is_sealed.N ps) (defBody s_p_is_sealed) (fnD n_p_is_sealed.oi Post) := by
  rintro ps Post ⟨key, x, rfl, hk, hj, post⟩
  show WB X n_p_is_sealed c [.d (.int key), .w x, .no, .no, .no, .no] _ _
  refine wb_cut (fun Γ => Γ = [.d (.int key), .w x, .no, .no, .no, .no] ∧ isEn x = true) (ws_ifE (et_not (et_val (ev_call1 c_p_is_entry 0 (ek_s 1) fun _ z => ⟨x, rfl, hj, z⟩))) (fun h => wb_one (ws_ret (we_of ev_bl ⟨_, [], rfl, rfl, ?_⟩))) (fun h => wb_nil ⟨rfl, by simpa using h⟩)) ?_
  · rw [isSe_en (by simpa using h)] at post; exact post
  rintro Γ ⟨rfl, he⟩
  obtain ⟨a, i, cs, s, rfl, h1, h2, h3, ⟨s0, s1⟩, h5⟩ := isEn_of he
  have pl := hj.pl
  have ll : cs.length ≤ 100000 := by
    have := (pl.2 (.tup (cs.map DL.D.int)) (by simp)).1
    rwa [List.length_map] at this
  refine wb_cut (fun Γ => Γ = [.d (.int key), .w (.tup [a, .int i, .tup (cs.map DL.D.int), .int s]), .d a, .d (.int i), .d (.tup (cs.map DL.D.int)), .d (.int s)]) (ws_asgG (we_of (ev_fix 1) (wg_tp (wgs_cons (wg_nm 2 (wgs_cons (wg_nm 3 (wgs_cons (wg_nm 4 (wgs_cons (wg_nm 5 (wgs_nil rfl)))))))))))) ?_
  rintro Γ rfl
  have z : ZP = 2147483647 := rfl
  refine wb_one (ws_ret (we_of (ev_eq (ev_var 5) (ev_call3 c_p_seal_of 1 (ek_d (ev_var 0)) (ek_d (ev_var 3)) (ek_v (ev_var 4)) fun _ z2 => ⟨key, i, cs, rfl, hk, by omega, by omega, h5, ll, z2⟩)) ⟨_, [], rfl, rfl, ?_⟩))
  have e1 : isSe key (.tup [a, .int i, .tup (cs.map DL.D.int), .int s]) = decide (s = sealZ key i cs) := by
    show (isEn _ && decide (s = sealZ key i ((cs.map DL.D.int).map cInt))) = _
    rw [he, (cells_all h5).2, Bool.true_and]
  rw [e1] at post
  exact post


/-! _law_is_name -/
abbrev s_l_is_name : Stmt := top 27
abbrev n_l_is_name : Nm := { N := ["_law_value", "_law_sign"], V := [0, 1], as := [0, 1], GN := ["isinstance", "str", "len"], k := 0, oi := [], lc := [0, 1], sc := none }
theorem sc_l_is_name : FnScope n_l_is_name.N ["_law_value"] (defScope s_l_is_name) := ⟨rfl, rfl, rfl, by decide +kernel, rfl, by decide +kernel, by decide +kernel⟩
theorem sb_l_is_name : ScOk (defScope s_l_is_name) n_l_is_name := scOk_of (by decide +kernel)
abbrev S_l_is_name : Sg := ST_isname
theorem bd_l_is_name {X : Cx} {c : Cc} (b_isinstance : Blt X "isinstance" (.builtin "isinstance")) (b_str : Blt X "str" (.type "str")) (b_len : Blt X "len" (.builtin "len")) : ∀ ps Post, S_l_is_name ps Post → WB X n_l_is_name c (entry n_l_is_name.N ps) (defBody s_l_is_name) (fnD n_l_is_name.oi Post) := by
  rintro ps Post ⟨x, rfl, hz, post⟩
  show WB X n_l_is_name c [.w x, .no] _ _
  cases hs : tyB x.ty "str" with
  | false =>
    have e : isNm x = false := by cases x <;> first | rfl | (simp [tyB, DL.D.ty] at hs; done)
    rw [e] at post
    refine wb_cons (ws_ifE (q := true) (EW.t (ew_or (p := true) (q := true) (et_is (et_not (et_isi b_isinstance b_str 0 1 (ek_s 0))) (by rw [hs]; rfl)) fun h => by cases h)) (fun _ => wb_one (ws_ret (we_of ev_bl ⟨_, [], rfl, rfl, ?_⟩))) (fun h => by cases h))
    exact post
  | true =>
  obtain ⟨s, rfl⟩ := ty_str hs
  have sl : s.length ≤ sizeLine := by rw [sizeLine_eq]; have := hz s rfl; omega
  have lt : s.cps.toList.length = s.length := by rw [Array.length_toList]; rfl
  have hze : ∀ z, DL.D.str s = .str z → z.length ≤ sizeLine := fun z e => by cases e; exact sl
  refine wb_cut (fun Γ => Γ = [.w (.str s), .no] ∧ 1 ≤ s.length ∧ s.length ≤ 8) (ws_ifE (EW.t (ew_or (p := false) (et_is (et_not (et_isi b_isinstance b_str 0 1 (ek_s 0))) (by rw [hs]; rfl)) fun _ => ew_or (et_lt (ev_len (x := .str s) (m := s.length) b_len 2 (ek_s 0) rfl hze) ev_int) fun _ => ew_or1 (et_gt (ev_len (x := .str s) (m := s.length) b_len 2 (ek_s 0) rfl hze) ev_int))) (fun h => wb_one (ws_ret (we_of ev_bl ⟨_, [], rfl, rfl, ?_⟩))) (fun h => wb_nil ⟨rfl, by simp at h; omega, by simp at h; omega⟩)) ?_
  · have e : isNm (.str s) = false := by
      show nmOk s.cps.toList = false
      simp only [Bool.or_eq_true, decide_eq_true_eq, Bool.false_or] at h
      unfold nmOk
      rw [lt]
      rcases h with h | h
      · rw [decide_eq_false (show ¬ 1 ≤ s.length by omega)]; rfl
      · rw [decide_eq_false (show ¬ s.length ≤ 8 by omega)]; simp
    rw [e] at post; exact post
  rintro Γ ⟨rfl, l1, l8⟩
  obtain ⟨z0, hz0, ha0⟩ := str_at' (w := s) (k := 0) (by omega) sl
  have hh : s.cps.toList.head? = some z0 := by rw [List.head?_eq_getElem?]; exact hz0
  have nmv : isNm (.str s) = (decide (z0 ∈ ltrs) && s.cps.toList.all fun z => decide (z ∈ ltrs ++ dgts)) := by
    show nmOk s.cps.toList = _
    unfold nmOk
    rw [lt, decide_eq_true l1, decide_eq_true l8, hh]; rfl
  refine wb_cut (fun Γ => ∃ u : DL.Slot, Γ = [.w (.str s), u] ∧ ∀ z ∈ s.cps.toList, z ∈ ltrs ++ dgts) (ws_forS 1 (fun i Γ => ∃ u : DL.Slot, Γ = [.w (.str s), u] ∧ ∀ z ∈ s.cps.toList.take i, z ∈ ltrs ++ dgts) s (we_of (ev_fix 0) ⟨rfl, _, rfl, by simp⟩) ?_ ?_) ?_
  · rintro i Γ z hz1 ⟨u, rfl, hall⟩
    show WB X n_l_is_name c [.w (.str s), .d (.str (sgS z))] _ _
    have hz2 : s.cps.toList[i]? = some z := by rw [Array.getElem?_toList]; exact hz1
    refine wb_one (ws_ifE (et_notInC (z := z) (t := "abcdefghijklmnopqrstuvwxyz0123456789") (ek_d (ev_var 1)) (ek_d ev_str)) (fun h => wb_one (ws_ret (we_of ev_bl ⟨_, [], rfl, rfl, ?_⟩))) (fun h => wb_nil ⟨_, rfl, ?_⟩))
    · have nz : z ∉ ltrs ++ dgts := by rw [← ltdg]; simpa using h
      have : (s.cps.toList.all fun z => decide (z ∈ ltrs ++ dgts)) = false := List.all_eq_false.mpr ⟨z, List.mem_of_getElem? hz2, by rw [decide_eq_false nz]; simp⟩
      rw [nmv, this, Bool.and_false] at post
      exact post
    · intro y hy
      rw [List.take_add_one, hz2] at hy
      rcases List.mem_append.mp hy with hy | hy
      · exact hall y hy
      · have : y = z := by simpa using hy
        subst this
        rw [← ltdg]; simpa using h
  · rintro Γ ⟨u, rfl, hall⟩
    refine ⟨u, rfl, ?_⟩
    rw [← Array.length_toList, List.take_length] at hall
    exact hall
  rintro Γ ⟨u, rfl, hall⟩
  have a1 : (s.cps.toList.all fun z => decide (z ∈ ltrs ++ dgts)) = true := List.all_eq_true.mpr fun z hz => decide_eq_true (hall z hz)
  have dis : ∀ z ∈ dgts, z ∉ ltrs := by decide +kernel
  have e0 : decide (z0 ∈ ltrs) = !decide (z0 ∈ dgts) := by
    have := hall z0 (List.mem_of_getElem? hz0)
    rcases List.mem_append.mp this with q | q
    · rw [decide_eq_true q, decide_eq_false fun r => dis z0 r q]; rfl
    · rw [decide_eq_true q, decide_eq_false (dis z0 q)]; rfl
  rw [nmv, a1, Bool.and_true, e0] at post
  exact wb_one (ws_ret (we_of (ev_cmp dop_notInC (ek_d (ev_ix (x := .str s) (z := .str (sgS z0)) (ek_s 0) ev_int ha0)) (ek_d ev_str) (fun _ h => ⟨z0, "0123456789", rfl, rfl, h⟩)) ⟨_, [], rfl, rfl, post⟩))


/-! _law_is_cell -/
abbrev s_l_is_cell : Stmt := top 32
abbrev n_l_is_cell : Nm := { N := ["_law_value"], V := [0], as := [0], GN := ["_law_is_int"], k := 1, oi := [], lc := [0], sc := none }
theorem sc_l_is_cell : FnScope n_l_is_cell.N ["_law_value"] (defScope s_l_is_cell) := ⟨rfl, rfl, rfl, by decide +kernel, rfl, by decide +kernel, by decide +kernel⟩
theorem sb_l_is_cell : ScOk (defScope s_l_is_cell) n_l_is_cell := scOk_of (by decide +kernel)
abbrev S_l_is_cell : Sg := ST_iscell
theorem bd_l_is_cell {X : Cx} {c : Cc} (c_l_is_int : CalF X n_l_is_cell.k "_law_is_int" S_l_is_int) : ∀ ps Post, S_l_is_cell ps Post → WB X n_l_is_cell c (entry n_l_is_cell.N ps) (defBody s_l_is_cell) (fnD n_l_is_cell.oi Post) := by
  rintro ps Post ⟨x, rfl, post⟩
  show WB X n_l_is_cell c [.w x] _ _
  cases hI : x.isI with
  | false =>
    have e : isCe x = false := by cases x <;> first | rfl | cases hI
    rw [e] at post
    exact wb_one (ws_ret (we_of (ev_and (p := false) (q := false) (ev_is (ev_call1 c_l_is_int 0 (ek_s 0) fun _ p => ⟨_, rfl, p⟩) (by rw [hI])) fun h => by cases h) ⟨_, [], rfl, rfl, post⟩))
  | true =>
    obtain ⟨i, rfl⟩ := isI_of hI
    have e : isCe (.int i) = (true && (decide (0 ≤ i) && decide (i < 2147483647))) := by show (decide (0 ≤ i) && decide (i < ZP)) = _; rw [Bool.true_and]; rfl
    rw [e] at post
    exact wb_one (ws_ret (we_of (ev_and (p := true) (ev_is (ev_call1 c_l_is_int 0 (ek_s 0) fun _ p => ⟨_, rfl, p⟩) rfl) fun _ => ev_and (ev_ge (i := i) (ev_fix 0) ev_int) fun _ => ev_one (ev_lt (i := i) (ev_fix 0) ev_int)) ⟨_, [], rfl, rfl, post⟩))


/-! _law_is_entry -/
abbrev s_l_is_entry : Stmt := top 33
abbrev n_l_is_entry : Nm := { N := ["_law_secret_here", "_law_value", "_law_cell"], V := [0, 1, 2], as := [0, 1, 2], GN := ["isinstance", "tuple", "len", "_law_is_name", "_law_is_int", "_law_is_cell", "_law_power_seal"], k := 2, oi := [], lc := [0, 1, 2], sc := none }
theorem sc_l_is_entry : FnScope n_l_is_entry.N ["_law_secret_here", "_law_value"] (defScope s_l_is_entry) := ⟨rfl, rfl, rfl, by decide +kernel, rfl, by decide +kernel, by decide +kernel⟩
theorem sb_l_is_entry : ScOk (defScope s_l_is_entry) n_l_is_entry := scOk_of (by decide +kernel)
abbrev S_l_is_entry : Sg := ST_issealed
theorem bd_l_is_entry {X : Cx} {c : Cc} (b_isinstance : Blt X "isinstance" (.builtin "isinstance")) (b_tuple : Blt X "tuple" (.type "tuple")) (b_len : Blt X "len" (.builtin "len")) (c_l_is_name : CalF X n_l_is_entry.k "_law_is_name" S_l_is_name) (c_l_is_int : CalF X n_l_is_entry.k "_law_is_int" S_l_is_int) (c_l_is_cell : CalF X n_l_is_entry.k "_law_is_cell" S_l_is_cell) (c_l_power_seal : CalF X n_l_is_entry.k "_law_power_seal" S_l_power_seal) : ∀ ps Post, S_l_is_entry ps Post → WB X n_l_is_entry c (entry n_l_is_entry.N ps) (defBody s_l_is_entry) (fnD n_l_is_entry.oi Post) := by
  rintro ps Post ⟨key, x, rfl, hk, hj, post⟩
  show WB X n_l_is_entry c [.d (.int key), .w x, .no] _ _
  have no : isEn x = false → Post (.d (.bl false)) [] := fun h => by rw [isSe_en h] at post; exact post
  cases ht : tyB x.ty "tuple" with
  | false =>
    refine wb_cons (ws_ifE (q := true) (EW.t (ew_or (p := true) (q := true) (et_is (et_not (et_isi b_isinstance b_tuple 0 1 (ek_s 1))) (by rw [ht]; rfl)) fun h => by cases h)) (fun _ => wb_one (ws_ret (we_of ev_bl ⟨_, [], rfl, rfl, ?_⟩))) (fun h => by cases h))
    exact no (isEn_ty ht)
  | true =>
  obtain ⟨ds, rfl⟩ := ty_tuple ht
  by_cases l4 : ds.length = 4
  case neg =>
    refine wb_cons (ws_ifE (q := true) (EW.t (ew_or (p := false) (q := true) (et_is (et_not (et_isi b_isinstance b_tuple 0 1 (ek_s 1))) (by rw [ht]; rfl)) fun _ => ew_or (p := true) (q := true) (et_is (et_ne (ev_len (x := .tup ds) (m := ds.length) b_len 2 (ek_s 1)) ev_int) (by simp; omega)) fun h => by cases h)) (fun _ => wb_one (ws_ret (we_of ev_bl ⟨_, [], rfl, rfl, ?_⟩))) (fun h => by cases h))
    exact no (isEn_len l4)
  obtain ⟨a, b, d, e, rfl⟩ := four_of l4
  refine wb_cut (fun Γ => Γ = [.d (.int key), .w (.tup [a, b, d, e]), .no] ∧ isNm a = true) (ws_ifE (EW.t (ew_or (p := false) (et_is (et_not (et_isi b_isinstance b_tuple 0 1 (ek_s 1))) (by rw [ht]; rfl)) fun _ => ew_or (p := false) (et_is (et_ne (ev_len (x := .tup [a, b, d, e]) (m := 4) b_len 2 (ek_s 1)) ev_int) rfl) fun _ => ew_or1 (et_not (et_val (ev_call1 c_l_is_name 3 (ek_v (ev_ix (x := .tup [a, b, d, e]) (z := a) (ek_s 1) ev_int rfl)) fun _ z => ⟨a, rfl, fun s e => hj.nm _ _ s rfl e, z⟩))))) (fun h => wb_one (ws_ret (we_of ev_bl ⟨_, [], rfl, rfl, ?_⟩))) (fun h => wb_nil ⟨rfl, by simpa using h⟩)) ?_
  · exact no (isEn_false fun q => by rw [(isEn_facts q).1] at h; cases h)
  rintro Γ ⟨rfl, n1⟩
  cases hb : b.isI with
  | false =>
    refine wb_cons (ws_ifE (q := true) (EW.t (ew_or (p := true) (q := true) (et_is (et_not (et_val (ev_call1 c_l_is_int 4 (ek_v (ev_ix (x := .tup [a, b, d, e]) (z := b) (ek_s 1) ev_int rfl)) fun _ z => ⟨b, rfl, z⟩))) (by rw [hb]; rfl)) fun h => by cases h)) (fun _ => wb_one (ws_ret (we_of ev_bl ⟨_, [], rfl, rfl, ?_⟩))) (fun h => by cases h))
    exact no (isEn_false fun q => by have := (isEn_facts q).2.1; rw [hb] at this; cases this)
  | true =>
  obtain ⟨i, rfl⟩ := isI_of hb
  refine wb_cut (fun Γ => Γ = [.d (.int key), .w (.tup [a, .int i, d, e]), .no] ∧ 1 ≤ i ∧ i ≤ 999 ∧ tyB d.ty "tuple" = true) (ws_ifE (EW.t (ew_or (p := false) (et_is (et_not (et_val (ev_call1 c_l_is_int 4 (ek_v (ev_ix (x := .tup [a, .int i, d, e]) (z := .int i) (ek_s 1) ev_int rfl)) fun _ z => ⟨.int i, rfl, z⟩))) rfl) fun _ => ew_or (et_lt (ev_ix (x := .tup [a, .int i, d, e]) (z := .int i) (ek_s 1) ev_int rfl) ev_int) fun _ => ew_or (et_gt (ev_ix (x := .tup [a, .int i, d, e]) (z := .int i) (ek_s 1) ev_int rfl) ev_int) fun _ => ew_or1 (et_not (et_isi b_isinstance b_tuple 0 1 (ek_d (ev_ix (x := .tup [a, .int i, d, e]) (z := d) (ek_s 1) ev_int rfl)))))) (fun h => wb_one (ws_ret (we_of ev_bl ⟨_, [], rfl, rfl, ?_⟩))) (fun h => wb_nil ⟨rfl, by simp at h; omega, by simp at h; omega, by simp at h; exact h.2.2⟩)) ?_
  · refine no (isEn_false fun q => ?_)
    obtain ⟨_, _, q3, q4, q5, _⟩ := isEn_facts q
    simp only [cInt] at q3 q4
    rw [q5] at h
    simp at h
    omega
  rintro Γ ⟨rfl, i1, i2, hd⟩
  obtain ⟨cs, rfl⟩ := ty_tuple hd
  refine wb_cut (fun Γ => ∃ u : DL.Slot, Γ = [.d (.int key), .w (.tup [a, .int i, .tup cs, e]), u] ∧ cs.all isCe = true) (ws_forT 2 (fun m Γ => ∃ u : DL.Slot, Γ = [.d (.int key), .w (.tup [a, .int i, .tup cs, e]), u] ∧ (cs.take m).all isCe = true) cs (we_of (ev_ix (x := .tup [a, .int i, .tup cs, e]) (z := .tup cs) (ek_s 1) ev_int rfl) ⟨rfl, _, rfl, rfl⟩) ?_ ?_) ?_
  · rintro m Γ y hy ⟨u, rfl, ha⟩
    show WB X n_l_is_entry c [.d (.int key), .w (.tup [a, .int i, .tup cs, e]), .d y] _ _
    refine wb_one (ws_ifE (et_not (et_val (ev_call1 c_l_is_cell 5 (ek_v (ev_var 2)) fun _ z => ⟨y, rfl, z⟩))) (fun h => wb_one (ws_ret (we_of ev_bl ⟨_, [], rfl, rfl, ?_⟩))) (fun h => wb_nil ⟨_, rfl, ?_⟩))
    · refine no (isEn_false fun q => ?_)
      have q7 := List.all_eq_true.mp ((isEn_facts q).2.2.2.2.2.2 cs rfl) y (List.mem_of_getElem? hy)
      rw [q7] at h; cases h
    · rw [List.take_add_one, hy, List.all_append, ha]
      simpa using h
  · rintro Γ ⟨u, rfl, ha⟩
    rw [List.take_length] at ha
    exact ⟨_, rfl, ha⟩
  rintro Γ ⟨u, rfl, ha⟩
  cases he : isCe e with
  | false =>
    refine wb_one (ws_ret (we_of (ev_and (p := false) (q := false) (ev_is (ev_call1 c_l_is_cell 5 (ek_v (ev_ix (x := .tup [a, .int i, .tup cs, e]) (z := e) (ek_s 1) ev_int rfl)) fun _ z => ⟨e, rfl, z⟩) (by rw [he])) fun h => by cases h) ⟨_, [], rfl, rfl, ?_⟩))
    exact no (isEn_false fun q => by have := (isEn_facts q).2.2.2.2.2.1; rw [he] at this; cases this)
  | true =>
  obtain ⟨s, rfl, s0, s1⟩ := isCe_int he
  obtain ⟨ec, hci⟩ := cells_int ha
  generalize cs.map cInt = zs at *
  subst ec
  have e1 : isEn (.tup [a, .int i, .tup (zs.map DL.D.int), .int s]) = true := by
    show (isNm a && (decide (1 ≤ i) && decide (i ≤ 999)) && (isCe (.int s) && (zs.map DL.D.int).all isCe)) = true
    rw [n1, he, ha, decide_eq_true i1, decide_eq_true i2]; rfl
  have e2 : isSe key (.tup [a, .int i, .tup (zs.map DL.D.int), .int s]) = (true && decide (s = sealZ key i zs)) := by
    show (isEn _ && decide (s = sealZ key i ((zs.map DL.D.int).map cInt))) = _
    rw [e1, (cells_all hci).2]
  rw [e2] at post
  have ll : zs.length ≤ 100000 := by
    have := (hj.pl.2 (.tup (zs.map DL.D.int)) (by simp)).1
    rwa [List.length_map] at this
  have z : ZP = 2147483647 := rfl
  exact wb_one (ws_ret (we_of (ev_and (p := true) (ev_is (ev_call1 c_l_is_cell 5 (ek_v (ev_ix (x := .tup [a, .int i, .tup (zs.map DL.D.int), .int s]) (z := .int s) (ek_s 1) ev_int rfl)) fun _ z => ⟨.int s, rfl, z⟩) (by rw [he])) fun _ => ev_one (ev_eq (ev_ix (x := .tup [a, .int i, .tup (zs.map DL.D.int), .int s]) (z := .int s) (ek_s 1) ev_int rfl) (ev_call3 c_l_power_seal 6 (ek_d (ev_var 0)) (ek_d (ev_ix (x := .tup [a, .int i, .tup (zs.map DL.D.int), .int s]) (z := .int i) (ek_s 1) ev_int rfl)) (ek_v (ev_ix (x := .tup [a, .int i, .tup (zs.map DL.D.int), .int s]) (z := .tup (zs.map DL.D.int)) (ek_s 1) ev_int rfl)) fun _ z2 => ⟨key, i, zs, rfl, hk, by omega, by omega, hci, ll, z2⟩))) ⟨_, [], rfl, rfl, post⟩))


/-! _law_judged -/
abbrev s_l_judged : Stmt := top 34
abbrev n_l_judged : Nm := { N := ["_law_secret_here", "_law_value", "_law_kept"], V := [0, 1, 2], as := [0, 1, 2], GN := ["_law_copy", "_law_same", "is_sealed", "_law_is_entry"], k := 7, oi := [], lc := [0, 1, 2], sc := none }
theorem sc_l_judged : FnScope n_l_judged.N ["_law_secret_here", "_law_value"] (defScope s_l_judged) := ⟨rfl, rfl, rfl, by decide +kernel, rfl, by decide +kernel, by decide +kernel⟩
theorem sb_l_judged : ScOk (defScope s_l_judged) n_l_judged := scOk_of (by decide +kernel)
abbrev S_l_judged : Sg := ST_judged47
theorem bd_l_judged {X : Cx} {c : Cc} (c_l_copy : CalF X n_l_judged.k "_law_copy" S_l_copy) (c_l_same : CalF X n_l_judged.k "_law_same" S_l_same) (c_p_is_sealed : CalF X n_l_judged.k "is_sealed" S_p_is_sealed) (c_l_is_entry : CalF X n_l_judged.k "_law_is_entry" S_l_is_entry) : ∀ ps Post, S_l_judged ps Post → WB X n_l_judged c (entry n_l_judged.N ps) (defBody s_l_judged) (fnD n_l_judged.oi Post) := by
  rintro ps Post ⟨key, x, rfl, hk, hj, post⟩
  show WB X n_l_judged c [.d (.int key), .w x, .no] _ _
  by_cases hx : ∃ ds, x = .lst ds
  · obtain ⟨ds, rfl⟩ := hx
    refine wb_cut (fun Γ => Γ = [.d (.int key), .w (.lst ds), .own (.lst ds)]) (ws_setO 2 (wo_callE c_l_copy 0 (ea_cons (ek_s 1) ea_nil) ⟨.lst ds, rfl, hj.pl, fun ds' e => ⟨.lst ds', rfl, by cases e; rfl⟩, fun h => absurd rfl (h _)⟩ (hnd := List.nodup_nil) (hrd := fun _ _ h => by cases h))) ?_
    rintro Γ rfl
    exact wb_one (ws_ret (we_of (ev_is (y := .bl true) (ev_and (p := true) (q := true) (ev_is (ev_call2 c_l_same 1 (ek_v (x := .bl (isSe key (.lst ds))) (ev_call2 c_p_is_sealed 2 (ek_d (ev_var 0)) (ek_s 1) fun _ z => ⟨key, .lst ds, rfl, hk, hj, z⟩)) (ek_v (x := .bl (isSe key (.lst ds))) (ev_call2 c_l_is_entry 3 (ek_d (ev_var 0)) (ek_s 2) fun _ z => ⟨key, .lst ds, rfl, hk, hj, z⟩)) fun _ z => ⟨.bl _, .bl _, rfl, trivial, fun b hb => same_of rfl hb z⟩) rfl) fun _ => ev_one (ev_call2 c_l_same 1 (ek_s 1) (ek_s 2) fun _ z => ⟨.lst ds, .lst ds, rfl, hj.pl, fun b hb => same_of rfl hb z⟩)) rfl) ⟨_, [], rfl, rfl, post⟩))
  · refine wb_cut (fun Γ => Γ = [.d (.int key), .w x, .d x]) (ws_set 2 (we_callE c_l_copy 0 (ea_cons (ek_s 1) ea_nil) ⟨x, rfl, hj.pl, fun ds' e => absurd ⟨ds', e⟩ hx, fun _ => ⟨x, rfl, rfl⟩⟩ (hnd := List.nodup_nil) (hrd := fun _ _ h => by cases h))) ?_
    rintro Γ rfl
    exact wb_one (ws_ret (we_of (ev_is (y := .bl true) (ev_and (p := true) (q := true) (ev_is (ev_call2 c_l_same 1 (ek_v (x := .bl (isSe key x)) (ev_call2 c_p_is_sealed 2 (ek_d (ev_var 0)) (ek_s 1) fun _ z => ⟨key, x, rfl, hk, hj, z⟩)) (ek_v (x := .bl (isSe key x)) (ev_call2 c_l_is_entry 3 (ek_d (ev_var 0)) (ek_s 2) fun _ z => ⟨key, x, rfl, hk, hj, z⟩)) fun _ z => ⟨.bl _, .bl _, rfl, trivial, fun b hb => same_of rfl hb z⟩) rfl) fun _ => ev_one (ev_call2 c_l_same 1 (ek_s 1) (ek_s 2) fun _ z => ⟨x, x, rfl, hj.pl, fun b hb => same_of rfl hb z⟩)) rfl) ⟨_, [], rfl, rfl, post⟩))


/-! _law_changed -/
abbrev s_l_changed : Stmt := top 30
abbrev n_l_changed : Nm := { N := ["_law_store_here", "_law_entry", "_law_cells_here", "_law_sort", "_law_more", "_law_spot", "_law_spots", "_law_kept", "_law_k"], V := [0, 1, 2, 3, 4, 5, 6, 7], as := [0, 1, 2, 3, 4, 5, 6, 7], GN := ["list", "_law_take", "len", "int", "tuple", "range", "_law_pick"], k := 3, oi := [0], lc := [0, 1, 3, 4, 5, 6, 7], sc := some (defScope s_l_changed) }
abbrev n_l_changed_c1 : Nm := { N := ["_law_store_here", "_law_entry", "_law_cells_here", "_law_sort", "_law_more", "_law_spot", "_law_spots", "_law_kept", "_law_k"], V := [2, 8], as := [8], GN := [], k := 3, oi := [0] }
theorem sc_l_changed : FnScope n_l_changed.N ["_law_store_here", "_law_entry"] (defScope s_l_changed) := ⟨rfl, rfl, rfl, by decide +kernel, rfl, by decide +kernel, by decide +kernel⟩
theorem sb_l_changed : ScOk (defScope s_l_changed) n_l_changed := scOk_of (by decide +kernel)
abbrev S_l_changed : Sg := ST_changedE
theorem bd_l_changed {X : Cx} {c : Cc} (b_list : Blt X "list" (.type "list")) (c_l_take : CalF X n_l_changed.k "_law_take" S_l_take) (b_len : Blt X "len" (.builtin "len")) (b_int : Blt X "int" (.type "int")) (b_tuple : Blt X "tuple" (.type "tuple")) (b_range : Blt X "range" (.type "range")) (c_l_pick : CalF X n_l_changed.k "_law_pick" S_l_pick) : ∀ ps Post, S_l_changed ps Post → WB X n_l_changed c (entry n_l_changed.N ps) (defBody s_l_changed) (fnD n_l_changed.oi Post) := by
  rintro ps Post ⟨a, cc, cs, s, rfl, ho, post⟩
  show WB X n_l_changed c [.own .sto, .d (enD a cc cs s), .no, .no, .no, .no, .no, .no, .no] _ _
  have bk : ∀ {r : SL}, Backs (.own .sto :: r) [0] [.sto] := fun {r} => ⟨.sto, .sto, [], rfl, rfl, .inl rfl, rfl⟩
  have z : ZP = 2147483647 := rfl
  have ln := ho.ln
  refine wb_cut (fun Γ => Γ = [.own .sto, .d (enD a cc cs s), .own (.lst (cs.map DL.D.int)), .no, .no, .no, .no, .no, .no]) (ws_setC (s0 := defScope s_l_changed) 2 (wo_of (eo_list (x := .tup (cs.map DL.D.int)) b_list 0 (ek_d (ev_ixt (x := enD a cc cs s) (z := .tup (cs.map DL.D.int)) (ev_var 1) ev_int))) rfl) (by decide +kernel)) ?_
  rintro Γ rfl
  refine wb_cut (fun Γ => ∃ so : Nat, Γ = [.own .sto, .d (enD a cc cs s), .own (.lst (cs.map DL.D.int)), .d (.int (so : Int)), .no, .no, .no, .no, .no]) (ws_set 3 (we_takeI (m := 4) c_l_take 1 0 fun k hk => ⟨k, rfl⟩)) ?_
  rintro Γ ⟨so, rfl⟩
  refine wb_cut (fun Γ => ∃ mo : Int, Γ = [.own .sto, .d (enD a cc cs s), .own (.lst (cs.map DL.D.int)), .d (.int (so : Int)), .d (.int mo), .no, .no, .no, .no] ∧ 1 ≤ mo ∧ mo < ZP) (ws_set 4 (we_addL ev_int (we_takeI (m := 2147483646) c_l_take 1 0 fun k hk => ⟨_, rfl, _, rfl, by omega, by omega⟩))) ?_
  rintro Γ ⟨mo, rfl, mo1, mo2⟩
  refine wb_cut (fun Γ => Γ = [.own .sto, .d (enD a cc cs s), .own (.lst (cs.map DL.D.int)), .d (.int (so : Int)), .d (.int mo), .no, .no, .no, .no]) (ws_ifE (EW.t (ew_and (et_eq (ev_var 3) ev_int) fun _ => ew_and1 (et_gt (ev_len (x := .lst (cs.map DL.D.int)) (m := cs.length) b_len 2 (ek_s 2) (by show some (cs.map DL.D.int).length = _; rw [List.length_map])) ev_int))) (fun h => ?_) (fun _ => wb_nil rfl)) ?_
  · have l0 : 0 < cs.length := by
      have := of_decide_eq_true (Bool.and_eq_true_iff.mp h).2
      omega
    refine wb_cut (fun Γ => ∃ k : Nat, Γ = [.own .sto, .d (enD a cc cs s), .own (.lst (cs.map DL.D.int)), .d (.int (so : Int)), .d (.int mo), .d (.int (k : Int)), .no, .no, .no] ∧ k < cs.length) (ws_set 5 (we_take c_l_take 1 0 (we_of (ev_len (x := .lst (cs.map DL.D.int)) (m := cs.length) b_len 2 (ek_s 2) (by show some (cs.map DL.D.int).length = _; rw [List.length_map])) ⟨rfl, cs.length, rfl, l0, bt64 (by omega), fun k hk => ⟨k, rfl, hk⟩⟩))) ?_
    rintro Γ ⟨k, rfl, hk⟩
    obtain ⟨x0, x1⟩ := ho.cl cs[k] (List.getElem_mem hk)
    refine wb_cut (fun Γ => Γ = [.own .sto, .d (enD a cc cs s), .own (.lst ((cs.set k ((cs[k] + mo) % ZP)).map DL.D.int)), .d (.int (so : Int)), .d (.int mo), .d (.int (k : Int)), .no, .no, .no]) (ws_setIx 2 (we_of (ev_is (y := .int ((cs[k] + mo) % ZP)) (ev_mod (ev_bty b_int dc_int 3 (ea_cons (ek_d (ev_add (ev_ix (x := .lst (cs.map DL.D.int)) (z := .int cs[k]) (i := ((k : Nat) : Int)) (ek_s 2) (ev_var 5) (DL.atI_nat (by rw [List.getElem?_map, List.getElem?_eq_getElem hk]; rfl))) (ev_var 4))) ea_nil) (fun _ h => .inl ⟨_, rfl, h⟩) rfl) ev_int (by decide)) (by show DL.D.int _ = DL.D.int _; rw [Int.fmod_eq_emod_of_nonneg _ (by decide)]; rfl)) (we_of (ev_var 5) ⟨cs.map DL.D.int, (k : Int), k, rfl, rfl, ixN_nat (by rw [List.length_map]; exact hk), by rw [List.map_set]; rfl⟩))) ?_
    rintro Γ rfl
    refine wb_one (ws_ret (we_of (ev_tup (ea_cons (ek_d (ev_ixt (x := enD a cc cs s) (z := .str a) (ev_var 1) ev_int)) (ea_cons (ek_d (ev_ixt (x := enD a cc cs s) (z := .int cc) (ev_var 1) ev_int)) (ea_cons (ek_d (ev_tuple (x := .lst ((cs.set k ((cs[k] + mo) % ZP)).map DL.D.int)) b_tuple 4 (ek_s 2))) (ea_cons (ek_d (ev_ixt (x := enD a cc cs s) (z := .int s) (ev_var 1) ev_int)) ea_nil))))) ⟨_, _, rfl, bk, post cc (cs.set k ((cs[k] + mo) % ZP)) s ?_⟩))
    have e := cut_at hk
    have e2 : cs.set k ((cs[k] + mo) % ZP) = cs.take k ++ ((cs[k] + mo) % ZP) :: cs.drop (k + 1) := by
      generalize (cs[k] + mo) % ZP = v
      conv => lhs; rw [e]
      exact set_mid (by rw [List.length_take]; omega)
    rw [e2]
    have hne : cs[k] ≠ (cs[k] + mo) % ZP := by
      rw [z] at x1 mo2 ⊢
      omega
    exact .cell e hne (Int.emod_nonneg _ (by decide)) (Int.emod_lt_of_pos _ (by decide))
  rintro Γ rfl
  refine wb_cut (fun Γ => ∃ ks : List Nat, Γ = [.own .sto, .d (enD a cc cs s), .own (.lst (cs.map DL.D.int)), .d (.int (so : Int)), .d (.int mo), .no, .own (.lst (ks.map fun k : Nat => DL.D.int (k : Int))), .no, .no] ∧ ks.length ≤ cs.length ∧ ∀ k ∈ ks, ∃ h : k + 1 < cs.length, cs[k] ≠ cs[k + 1]) (ws_lcR1 (n' := n_l_changed_c1) 8 6 (fun i acc => ∃ ks : List Nat, acc = (ks.map fun k : Nat => DL.D.int (k : Int)) ∧ ks.length ≤ i ∧ ∀ k ∈ ks, ∃ h : k + 1 < cs.length, cs[k] ≠ cs[k + 1]) (fun i q => q = true → ∃ h : i + 1 < cs.length, cs[i] ≠ cs[i + 1]) (cs.length - 1) ⟨(fun c hn => lc_bk hn rfl (by decide +kernel)), by decide +kernel, rfl, rfl, rfl, rfl, rfl, rfl, rfl, (by intro o h; cases h), rfl⟩ b_range 5 (we_of (ev_sub (ev_len (x := .lst (cs.map DL.D.int)) (m := cs.length) b_len 2 (ek_s 2) (by show some (cs.map DL.D.int).length = _; rw [List.length_map])) ev_int) ⟨_, rfl, by omega, by omega, by omega, rfl⟩) (by omega) ⟨[], rfl, Nat.le_refl _, fun k h => by cases h⟩ (fun X' c' hb i hi => ?_) (fun X' c' hb i acc hi ht ha hl => ?_) (fun i acc hi ht ha => ?_) (fun out ha => ?_)) ?_
  · have h1 : i < cs.length := by omega
    have h2 : i + 1 < cs.length := by omega
    refine wt_of (et_ne (i := cs[i]) (j := cs[i + 1]) (ev_ix (x := .lst (cs.map DL.D.int)) (z := .int cs[i]) (i := ((i : Nat) : Int)) (ek_s 2) (ev_var 8) (DL.atI_nat (by rw [List.getElem?_map, List.getElem?_eq_getElem h1]; rfl))) (ev_ix (x := .lst (cs.map DL.D.int)) (z := .int cs[i + 1]) (i := ((i + 1 : Nat) : Int)) (ek_s 2) (ev_is (ev_add (ev_var 8) ev_int) (by rw [Int.natCast_add]; rfl)) (DL.atI_nat (by rw [List.getElem?_map, List.getElem?_eq_getElem h2]; rfl)))) ⟨rfl, fun q => ⟨h2, by simpa using q⟩⟩
  · obtain ⟨ks, rfl, g1, g2⟩ := ha
    refine we_of (ev_var 8) ⟨rfl, ks ++ [i], by rw [List.map_append]; rfl, by rw [List.length_append]; simpa using g1, fun k hk => ?_⟩
    rcases List.mem_append.mp hk with hk | hk
    · exact g2 k hk
    · rw [List.mem_singleton.mp hk]; exact ht rfl
  · obtain ⟨ks, e, g1, g2⟩ := ha
    exact ⟨ks, e, by omega, g2⟩
  · obtain ⟨ks, rfl, g1, g2⟩ := ha
    exact ⟨ks, rfl, by omega, g2⟩
  rintro Γ ⟨ks, rfl, kl, hks⟩
  refine wb_cut (fun Γ => Γ = [.own .sto, .d (enD a cc cs s), .own (.lst (cs.map DL.D.int)), .d (.int (so : Int)), .d (.int mo), .no, .own (.lst (ks.map fun k : Nat => DL.D.int (k : Int))), .no, .no]) (ws_ifE (EW.t (ew_and (et_eq (ev_var 3) ev_int) fun _ => ew_and1 (et_gt (ev_len (x := .lst (ks.map fun k : Nat => DL.D.int (k : Int))) (m := ks.length) b_len 2 (ek_s 6) (by show some (List.map _ ks).length = _; rw [List.length_map])) ev_int))) (fun h => ?_) (fun _ => wb_nil rfl)) ?_
  · have l0 : 0 < ks.length := by
      have := of_decide_eq_true (Bool.and_eq_true_iff.mp h).2
      omega
    refine wb_cut (fun Γ => ∃ k : Nat, Γ = [.own .sto, .d (enD a cc cs s), .own (.lst (cs.map DL.D.int)), .d (.int (so : Int)), .d (.int mo), .d (.int (k : Int)), .own (.lst (ks.map fun k : Nat => DL.D.int (k : Int))), .no, .no] ∧ ∃ h : k + 1 < cs.length, cs[k] ≠ cs[k + 1]) (ws_set 5 (we_pickS (ds := ks.map fun k : Nat => DL.D.int (k : Int)) c_l_pick 6 0 6 rfl rfl (by decide) (by intro q; have := congrArg List.length q; rw [List.length_map, List.length_nil] at this; omega) (by rw [List.length_map]; omega) fun y hy => ?_)) ?_
    · obtain ⟨k, hk, rfl⟩ := List.mem_map.mp hy
      exact ⟨k, rfl, hks k hk⟩
    rintro Γ ⟨k, rfl, hk, hne⟩
    have hk0 : k < cs.length := by omega
    refine wb_cut (fun Γ => Γ = [.own .sto, .d (enD a cc cs s), .own (.lst (cs.map DL.D.int)), .d (.int (so : Int)), .d (.int mo), .d (.int (k : Int)), .own (.lst (ks.map fun k : Nat => DL.D.int (k : Int))), .d (.int cs[k]), .no]) (ws_set 7 (we_of (ev_ix (x := .lst (cs.map DL.D.int)) (z := .int cs[k]) (i := ((k : Nat) : Int)) (ek_s 2) (ev_var 5) (DL.atI_nat (by rw [List.getElem?_map, List.getElem?_eq_getElem hk0]; rfl))) rfl)) ?_
    rintro Γ rfl
    refine wb_cut (fun Γ => Γ = [.own .sto, .d (enD a cc cs s), .own (.lst ((cs.set k cs[k + 1]).map DL.D.int)), .d (.int (so : Int)), .d (.int mo), .d (.int (k : Int)), .own (.lst (ks.map fun k : Nat => DL.D.int (k : Int))), .d (.int cs[k]), .no]) (ws_setIx 2 (we_of (ev_ix (x := .lst (cs.map DL.D.int)) (z := .int cs[k + 1]) (i := ((k + 1 : Nat) : Int)) (ek_s 2) (ev_is (ev_add (ev_var 5) ev_int) (by rw [Int.natCast_add]; rfl)) (DL.atI_nat (by rw [List.getElem?_map, List.getElem?_eq_getElem hk]; rfl))) (we_of (ev_var 5) ⟨cs.map DL.D.int, (k : Int), k, rfl, rfl, ixN_nat (by rw [List.length_map]; exact hk0), by rw [List.map_set]; rfl⟩))) ?_
    rintro Γ rfl
    refine wb_cut (fun Γ => Γ = [.own .sto, .d (enD a cc cs s), .own (.lst (((cs.set k cs[k + 1]).set (k + 1) cs[k]).map DL.D.int)), .d (.int (so : Int)), .d (.int mo), .d (.int (k : Int)), .own (.lst (ks.map fun k : Nat => DL.D.int (k : Int))), .d (.int cs[k]), .no]) (ws_setIx 2 (we_of (ev_var 7) (we_of (ev_is (y := .int ((k + 1 : Nat) : Int)) (ev_add (ev_var 5) ev_int) (by rw [Int.natCast_add]; rfl)) ⟨(cs.set k cs[k + 1]).map DL.D.int, ((k + 1 : Nat) : Int), k + 1, rfl, rfl, ixN_nat (by rw [List.length_map, List.length_set]; exact hk), by rw [List.map_set]; rfl⟩))) ?_
    rintro Γ rfl
    refine wb_one (ws_ret (we_of (ev_tup (ea_cons (ek_d (ev_ixt (x := enD a cc cs s) (z := .str a) (ev_var 1) ev_int)) (ea_cons (ek_d (ev_ixt (x := enD a cc cs s) (z := .int cc) (ev_var 1) ev_int)) (ea_cons (ek_d (ev_tuple (x := .lst (((cs.set k cs[k + 1]).set (k + 1) cs[k]).map DL.D.int)) b_tuple 4 (ek_s 2))) (ea_cons (ek_d (ev_ixt (x := enD a cc cs s) (z := .int s) (ev_var 1) ev_int)) ea_nil))))) ⟨_, _, rfl, bk, post cc ((cs.set k cs[k + 1]).set (k + 1) cs[k]) s ?_⟩))
    have e := cut_at2 hk
    have e2 : (cs.set k cs[k + 1]).set (k + 1) cs[k] = cs.take k ++ cs[k + 1] :: cs[k] :: cs.drop (k + 1 + 1) := by
      generalize h1 : cs[k] = p at *
      generalize h2 : cs[k + 1] = q at *
      conv => lhs; rw [e]
      exact set_mid2 (by rw [List.length_take]; omega)
    rw [e2]
    exact .swap e hne
  rintro Γ rfl
  refine wb_cut (fun Γ => Γ = [.own .sto, .d (enD a cc cs s), .own (.lst (cs.map DL.D.int)), .d (.int (so : Int)), .d (.int mo), .no, .own (.lst (ks.map fun k : Nat => DL.D.int (k : Int))), .no, .no]) (ws_ifE (et_eq (ev_var 3) ev_int) (fun h => ?_) (fun _ => wb_nil rfl)) ?_
  · have cc1 := ho.c1
    have cc2 := ho.c2
    refine wb_one (ws_ret (we_tup (wa_cons (wk_e (we_of (ev_ixt (x := enD a cc cs s) (z := .str a) (ev_var 1) ev_int) (wa_cons (wk_e (we_addL ev_int (we_bin dop_mod (wk_e (we_bty b_int dc_int 3 (wa_cons (wk_e (we_addL (ev_ixt (x := enD a cc cs s) (z := .int cc) (ev_var 1) ev_int) (we_takeI (m := 998) c_l_take 1 0 fun t ht => ⟨_, rfl, wa_nil ⟨_, rfl, .inl ⟨_, rfl, wk_e (we_of ev_int ⟨_, _, rfl, rfl, _, _, rfl, rfl, by show (999 : Int) ≠ 0; decide, _, rfl, wa_cons (wk_e (we_of (ev_ixt (x := enD a cc cs s) (z := .tup (cs.map DL.D.int)) (ev_var 1) ev_int) (wa_cons (wk_e (we_of (ev_ixt (x := enD a cc cs s) (z := .int s) (ev_var 1) ev_int) (wa_nil ⟨_, rfl, Nat.le_of_ble_eq_true rfl, _, _, rfl, bk, post _ cs s ?_⟩))))))⟩)⟩⟩⟩)))))))))))))))
    rw [Int.fmod_eq_emod_of_nonneg _ (by decide)]
    refine .count ?_ ?_ ?_
    · omega
    · omega
    · omega
  rintro Γ rfl
  have s0 := ho.s0
  have s1 := ho.s1
  refine wb_one (ws_ret (we_of (ev_tup (ea_cons (ek_d (ev_ixt (x := enD a cc cs s) (z := .str a) (ev_var 1) ev_int)) (ea_cons (ek_d (ev_ixt (x := enD a cc cs s) (z := .int cc) (ev_var 1) ev_int)) (ea_cons (ek_d (ev_ixt (x := enD a cc cs s) (z := .tup (cs.map DL.D.int)) (ev_var 1) ev_int)) (ea_cons (ek_d (ev_mod (ev_bty b_int dc_int 3 (ea_cons (ek_d (ev_add (ev_ixt (x := enD a cc cs s) (z := .int s) (ev_var 1) ev_int) (ev_var 4))) ea_nil) (fun _ h => .inl ⟨_, rfl, h⟩) rfl) ev_int (by decide))) ea_nil))))) ⟨_, _, rfl, bk, post cc cs ((s + mo).fmod 2147483647) ?_⟩))
  rw [Int.fmod_eq_emod_of_nonneg _ (by decide)]
  exact .lastc (by omega) (Int.emod_nonneg _ (by decide)) (Int.emod_lt_of_pos _ (by decide))


/-! _law_bad_name -/
abbrev s_l_bad_name : Stmt := top 26
abbrev n_l_bad_name : Nm := { N := ["_law_store_here", "_law_name", "_law_sort", "_law_spot", "_law_sign"], V := [0, 1, 2, 3, 4], as := [0, 1, 2, 3, 4], GN := ["_law_names", "_law_take", "_law_pick", "len"], k := 4, oi := [0], lc := [0, 1, 2, 3, 4], sc := none }
theorem sc_l_bad_name : FnScope n_l_bad_name.N ["_law_store_here"] (defScope s_l_bad_name) := ⟨rfl, rfl, rfl, by decide +kernel, rfl, by decide +kernel, by decide +kernel⟩
theorem sb_l_bad_name : ScOk (defScope s_l_bad_name) n_l_bad_name := scOk_of (by decide +kernel)
abbrev S_l_bad_name : Sg := ST_badname
theorem bd_l_bad_name {X : Cx} {c : Cc} (c_l_names : CalF X n_l_bad_name.k "_law_names" S_l_names) (c_l_take : CalF X n_l_bad_name.k "_law_take" S_l_take) (c_l_pick : CalF X n_l_bad_name.k "_law_pick" S_l_pick) (b_len : Blt X "len" (.builtin "len")) : ∀ ps Post, S_l_bad_name ps Post → WB X n_l_bad_name c (entry n_l_bad_name.N ps) (defBody s_l_bad_name) (fnD n_l_bad_name.oi Post) := by
  rintro ps Post ⟨rfl, post⟩
  show WB X n_l_bad_name c [.own .sto, .no, .no, .no, .no] _ _
  have bk : ∀ {r : SL}, Backs (.own .sto :: r) [0] [.sto] := fun {r} => ⟨.sto, .sto, [], rfl, rfl, .inl rfl, rfl⟩
  have sl : sizeLine = 16777216 := sizeLine_eq
  have one : ∀ ch : Str, ch.length = 1 → ∃ z, cL ch = [z] := fun ch hc => by
    have : (cL ch).length = 1 := by rw [← hc]; exact cL_len ch
    match cL ch, this with
    | [z], _ => exact ⟨z, rfl⟩
  refine wb_cut (fun Γ => ∃ na : Str, Γ = [.own .sto, .d (.str na), .no, .no, .no] ∧ nmOk (cL na) = true) (ws_set 1 (we_ix di_seq (wk_e (we_sto c_l_names 0 0 (sto_ea (hr := by simp [readIx]) (ea_cons (ek_d ev_int) ea_nil) fun Q q => ⟨rfl, fun s h1 h2 h3 => q _ ⟨_, rfl, wk_ek (ek_d ev_int) ⟨_, _, rfl, rfl, 0, .str s, rfl, rfl, s, rfl, h1⟩⟩⟩))))) ?_
  rintro Γ ⟨na, rfl, hna⟩
  obtain ⟨n1, n8, nh, nall⟩ := nmOk_of hna
  rw [cL_len] at n1 n8
  refine wb_cut (fun Γ => ∃ so : Nat, Γ = [.own .sto, .d (.str na), .d (.int (so : Int)), .no, .no]) (ws_set 2 (we_takeI (m := 6) c_l_take 1 0 fun k hk => ⟨k, rfl⟩)) ?_
  rintro Γ ⟨so, rfl⟩
  refine wb_cut (fun Γ => Γ = [.own .sto, .d (.str na), .d (.int (so : Int)), .no, .no]) (ws_ifE (et_eq (ev_var 2) ev_int) (fun _ => wb_one (ws_ret (we_of ev_str ⟨_, _, rfl, bk, post "" (by decide +kernel) (by decide +kernel)⟩))) (fun _ => wb_nil rfl)) ?_
  rintro Γ rfl
  have l8 : ("abcdefgh" : Str).length = 8 := by decide +kernel
  have c8 : (cutS (na ++ "abcdefgh") none (some ((8 : Nat) : Int))).length = 8 := cutS_upto (by rw [app_len, l8]; omega)
  refine wb_cut (fun Γ => Γ = [.own .sto, .d (.str na), .d (.int (so : Int)), .no, .no]) (ws_ifE (et_eq (ev_var 2) ev_int) (fun _ => wb_one (ws_ret (we_bin dop_addS (wk_ek (ek_d (ev_sliceS (l1 := none) (h1 := some ((8 : Nat) : Int)) (ev_addS (ev_var 1) ev_str (by rw [l8, sl]; omega)) (by rw [app_len, l8, sl]; omega) ep0 (ep1 ev_int))) (wk_e (we_pickStrZ c_l_pick 2 0 (we_of ev_str ⟨rfl, _, rfl, by decide +kernel, by decide +kernel, fun ch hc hs => ?_⟩))))))) (fun _ => wb_nil rfl)) ?_
  · exact ⟨_, .str ch, rfl, rfl, _, ch, rfl, rfl, by rw [c8, hc, sl]; omega, _, _, rfl, bk, post _ (nm_long (by rw [app_len, c8, hc]; omega)) (by rw [app_len, c8, hc]; omega)⟩
  rintro Γ rfl
  have c1 := cutS_len na (some ((1 : Nat) : Int)) none
  refine wb_cut (fun Γ => Γ = [.own .sto, .d (.str na), .d (.int (so : Int)), .no, .no]) (ws_ifE (et_eq (ev_var 2) ev_int) (fun _ => wb_one (ws_ret (we_bin dop_addS (wk_e (we_pickStrZ c_l_pick 2 0 (we_of ev_str ⟨rfl, _, rfl, by decide +kernel, by decide +kernel, fun ch hc hs => wk_ek (ek_d (ev_sliceS (l1 := some ((1 : Nat) : Int)) (h1 := none) (ev_var 1) (by omega) (ep1 ev_int) ep0)) ⟨.str ch, _, rfl, rfl, ch, _, rfl, rfl, by omega, _, _, rfl, bk, post _ (nm_false fun q => ?_) (by rw [app_len]; omega)⟩⟩)))))) (fun _ => wb_nil rfl)) ?_
  · obtain ⟨z, hz⟩ := one ch hc
    have h2 : z ∈ ltrs := (nmOk_of q).2.2.1 z (by rw [app_cL, hz]; rfl)
    have h3 : z ∈ dgts := hs z (by rw [hz]; exact List.mem_cons_self)
    have dis : ∀ z ∈ dgts, z ∉ ltrs := by decide +kernel
    exact dis z h3 h2
  rintro Γ rfl
  refine wb_cut (fun Γ => ∃ sp : Nat, Γ = [.own .sto, .d (.str na), .d (.int (so : Int)), .d (.int (sp : Int)), .no] ∧ sp ≤ na.length) (ws_set 3 (we_take c_l_take 1 0 (we_of (ev_is (y := .int ((na.length + 1 : Nat) : Int)) (ev_add (ev_len (x := .str na) (m := na.length) b_len 3 (ek_d (ev_var 1)) rfl (fun z hz => by cases hz; omega)) ev_int) rfl) ⟨rfl, _, rfl, by omega, bt64 (by omega), fun k hk => ⟨k, rfl, by omega⟩⟩))) ?_
  rintro Γ ⟨sp, rfl, hsp⟩
  refine wb_cut (fun Γ => ∃ sg : Str, Γ = [.own .sto, .d (.str na), .d (.int (so : Int)), .d (.int (sp : Int)), .d (.str sg)] ∧ sg.length = 1 ∧ ∃ z, cL sg = [z] ∧ z ∉ ltrs ++ dgts) (ws_set 4 (we_pickStrZ c_l_pick 2 0 (we_of ev_str ⟨rfl, _, rfl, by decide +kernel, by decide +kernel, fun ch hc hs => ?_⟩))) ?_
  · obtain ⟨z, hz⟩ := one ch hc
    have odd : ∀ z ∈ cL " !#-/:;@AMZ[^_`{~", z ∉ ltrs ++ dgts := by decide +kernel
    exact ⟨ch, rfl, hc, z, hz, odd z (hs z (by rw [hz]; exact List.mem_cons_self))⟩
  rintro Γ ⟨sg, rfl, lsg, z, hz, hzn⟩
  have d1 := cutS_len na none (some ((sp : Nat) : Int))
  have d2 := cutS_len na (some ((sp + 1 : Nat) : Int)) none
  have d3 := cutS_len na (some ((sp : Nat) : Int)) none
  have hin : ∀ A B : Str, z ∈ cL (A ++ sg ++ B) := fun A B => by
    rw [app_cL, app_cL, hz]; simp
  refine wb_cut (fun Γ => Γ = [.own .sto, .d (.str na), .d (.int (so : Int)), .d (.int (sp : Int)), .d (.str sg)]) (ws_ifE (et_eq (ev_var 2) ev_int) (fun _ => wb_one (ws_ret (we_of (ev_addS (ev_addS (ev_sliceS (l1 := none) (h1 := some ((sp : Nat) : Int)) (ev_var 1) (by omega) ep0 (ep1 (ev_var 3))) (ev_var 4) (by omega)) (ev_sliceS (l1 := some ((sp + 1 : Nat) : Int)) (h1 := none) (ev_var 1) (by omega) (ep1 (ev_is (ev_add (ev_var 3) ev_int) (by rw [Int.natCast_add]; rfl))) ep0) (by rw [app_len]; omega)) ⟨_, _, rfl, bk, post _ (nm_sign (hin _ _) hzn) (by rw [app_len, app_len]; omega)⟩))) (fun _ => wb_nil rfl)) ?_
  rintro Γ rfl
  have d4 := cutS_len (cutS na none (some ((sp : Nat) : Int))) none (some ((4 : Nat) : Int))
  have d5 := cutS_len (cutS na (some ((sp : Nat) : Int)) none) none (some ((3 : Nat) : Int))
  exact wb_one (ws_ret (we_of (ev_addS (ev_addS (ev_sliceS (l1 := none) (h1 := some ((4 : Nat) : Int)) (ev_sliceS (l1 := none) (h1 := some ((sp : Nat) : Int)) (ev_var 1) (by omega) ep0 (ep1 (ev_var 3))) (by omega) ep0 (ep1 ev_int)) (ev_var 4) (by omega)) (ev_sliceS (l1 := none) (h1 := some ((3 : Nat) : Int)) (ev_sliceS (l1 := some ((sp : Nat) : Int)) (h1 := none) (ev_var 1) (by omega) (ep1 (ev_var 3)) ep0) (by omega) ep0 (ep1 ev_int)) (by rw [app_len]; omega)) ⟨_, _, rfl, bk, post _ (nm_sign (hin _ _) hzn) (by rw [app_len, app_len]; omega)⟩))


/-! _law_miskind -/
abbrev s_l_miskind : Stmt := top 22
abbrev n_l_miskind : Nm := { N := ["_law_store_here", "_law_value"], V := [0, 1], as := [0, 1], GN := ["_law_pick", "isinstance", "bool", "int", "str", "list", "tuple"], k := 3, oi := [0], lc := [0, 1], sc := none }
theorem sc_l_miskind : FnScope n_l_miskind.N ["_law_store_here", "_law_value"] (defScope s_l_miskind) := ⟨rfl, rfl, rfl, by decide +kernel, rfl, by decide +kernel, by decide +kernel⟩
theorem sb_l_miskind : ScOk (defScope s_l_miskind) n_l_miskind := scOk_of (by decide +kernel)
def S_l_miskind : Sg := fun ps Post => ∃ k : Nat, ST_miskind k ps Post
theorem bd_l_miskind {X : Cx} {c : Cc} (c_l_pick : CalF X n_l_miskind.k "_law_pick" S_l_pick) (b_isinstance : Blt X "isinstance" (.builtin "isinstance")) (b_bool : Blt X "bool" (.type "bool")) (b_int : Blt X "int" (.type "int")) (b_str : Blt X "str" (.type "str")) (b_list : Blt X "list" (.type "list")) (b_tuple : Blt X "tuple" (.type "tuple")) : ∀ ps Post, S_l_miskind ps Post → WB X n_l_miskind c (entry n_l_miskind.N ps) (defBody s_l_miskind) (fnD n_l_miskind.oi Post) := by
  rintro ps Post ⟨k, x, L, rfl, hv, hL, hk, post⟩
  show WB X n_l_miskind c [.own .sto, .d x] _ _
  have bk : ∀ {r : SL}, Backs (.own .sto :: r) [0] [.sto] := fun {r} => ⟨.sto, .sto, [], rfl, rfl, .inl rfl, rfl⟩
  have ret : ∀ y, DL.D.vk L (k + 1) y → kindD x ≠ kindD y → ∃ r' os, (Res.d y).le r' ∧ Backs [.own .sto, .d x] [0] os ∧ Post r' os := fun y h1 h2 => ⟨_, _, rfl, bk, post y h1 h2⟩
  match x, hv, hk, ret with
  | .non, hv, hk, ret =>
    refine wb_cons (ws_ifE (q := true) (et_is (et_isN (x := .non) (ek_d (ev_var 1))) rfl) (fun _ => wb_one (ws_ret (we_pick c_l_pick 0 0 (we_frz (wo_of (eo_lst (ea_cons (ek_d ev_bl) (ea_cons (ek_d ev_int) (ea_cons (ek_d (ev_tup ea_nil)) ea_nil)))) ⟨_, rfl, rfl, _, rfl, by simp, by simp, fun y hy => ?_⟩))))) (fun h => by cases h))
    simp only [List.mem_cons, List.not_mem_nil, or_false] at hy
    rcases hy with rfl | rfl | rfl
    · exact ret _ trivial (by decide)
    · exact ret _ trivial (by decide)
    · exact ret _ ⟨Nat.zero_le _, fun d hd => by cases hd⟩ (by decide)
  | .bl _, hv, hk, ret => exact absurd rfl hk
  | .int i, hv, hk, ret =>
    refine wb_cons (ws_ifE (q := false) (et_is (et_isN (x := .int i) (ek_d (ev_var 1))) rfl) (fun h => by cases h) (fun _ => wb_nil ?_))
    refine wb_cons (ws_ifE (q := false) (et_is (et_isi b_isinstance b_bool 1 2 (ek_d (ev_var 1))) rfl) (fun h => by cases h) (fun _ => wb_nil ?_))
    refine wb_cons (ws_ifE (q := true) (et_is (et_isi b_isinstance b_int 1 3 (ek_d (ev_var 1))) rfl) (fun _ => wb_one (ws_ret (we_pick c_l_pick 0 0 (we_frz (wo_of (eo_lst (ea_cons (ek_d (ev_ne (ev_var 1) ev_int)) (ea_cons (ek_d (ev_tup (ea_cons (ek_d (ev_var 1)) ea_nil))) (ea_cons (ek_d ev_str) (ea_cons (ek_d (ev_frz (eo_lst (ea_cons (ek_d (ev_var 1)) ea_nil)))) ea_nil))))) ⟨_, rfl, rfl, _, rfl, by simp, by simp, fun y hy => ?_⟩))))) (fun h => by cases h))
    simp only [List.mem_cons, List.not_mem_nil, or_false] at hy
    have one : (∀ d ∈ [DL.D.int i], DL.D.vk L k d) := fun d hd => by rw [List.mem_singleton.mp hd]; cases k <;> trivial
    rcases hy with rfl | rfl | rfl | rfl
    · exact ret _ trivial (by intro h; cases h)
    · exact ret _ ⟨by show 1 ≤ L; omega, one⟩ (by intro h; cases h)
    · exact ret _ ⟨by show (1 : Nat) ≤ L; omega, by decide +kernel⟩ (by intro h; cases h)
    · exact ret _ ⟨by show 1 ≤ L; omega, one⟩ (by intro h; cases h)
  | .str s, hv, hk, ret =>
    have hs : DL.D.vk L k (.str s) := hv
    refine wb_cons (ws_ifE (q := false) (et_is (et_isN (x := .str s) (ek_d (ev_var 1))) rfl) (fun h => by cases h) (fun _ => wb_nil ?_))
    refine wb_cons (ws_ifE (q := false) (et_is (et_isi b_isinstance b_bool 1 2 (ek_d (ev_var 1))) rfl) (fun h => by cases h) (fun _ => wb_nil ?_))
    refine wb_cons (ws_ifE (q := false) (et_is (et_isi b_isinstance b_int 1 3 (ek_d (ev_var 1))) rfl) (fun h => by cases h) (fun _ => wb_nil ?_))
    refine wb_cons (ws_ifE (q := true) (et_is (et_isi b_isinstance b_str 1 4 (ek_d (ev_var 1))) rfl) (fun _ => wb_one (ws_ret (we_pick c_l_pick 0 0 (we_frz (wo_of (eo_lst (ea_cons (ek_d ev_int) (ea_cons (ek_d (ev_frz (eo_lst (ea_cons (ek_d (ev_var 1)) ea_nil)))) (ea_cons (ek_d (ev_tup (ea_cons (ek_d (ev_var 1)) ea_nil))) (ea_cons (ek_d ev_bl) ea_nil))))) ⟨_, rfl, rfl, _, rfl, by simp, by simp, fun y hy => ?_⟩))))) (fun h => by cases h))
    simp only [List.mem_cons, List.not_mem_nil, or_false] at hy
    have one : (∀ d ∈ [DL.D.str s], DL.D.vk L k d) := fun d hd => by rw [List.mem_singleton.mp hd]; exact hs
    rcases hy with rfl | rfl | rfl | rfl
    · exact ret _ trivial (by intro h; cases h)
    · exact ret _ ⟨by show 1 ≤ L; omega, one⟩ (by intro h; cases h)
    · exact ret _ ⟨by show 1 ≤ L; omega, one⟩ (by intro h; cases h)
    · exact ret _ trivial (by intro h; cases h)
  | .lst ds, hv, hk, ret =>
    refine wb_cons (ws_ifE (q := false) (et_is (et_isN (x := .lst ds) (ek_d (ev_var 1))) rfl) (fun h => by cases h) (fun _ => wb_nil ?_))
    refine wb_cons (ws_ifE (q := false) (et_is (et_isi b_isinstance b_bool 1 2 (ek_d (ev_var 1))) rfl) (fun h => by cases h) (fun _ => wb_nil ?_))
    refine wb_cons (ws_ifE (q := false) (et_is (et_isi b_isinstance b_int 1 3 (ek_d (ev_var 1))) rfl) (fun h => by cases h) (fun _ => wb_nil ?_))
    refine wb_cons (ws_ifE (q := false) (et_is (et_isi b_isinstance b_str 1 4 (ek_d (ev_var 1))) rfl) (fun h => by cases h) (fun _ => wb_nil ?_))
    refine wb_cons (ws_ifE (q := true) (et_is (et_isi b_isinstance b_list 1 5 (ek_d (ev_var 1))) rfl) (fun _ => wb_one (ws_ret (we_of (ev_tuple (x := .lst ds) b_tuple 6 (ek_d (ev_var 1))) (ret _ ?_ (by intro h; cases h))))) (fun h => by cases h))
    have := DL.D.vk.mono (Nat.le_refl L) (Nat.le_succ k) hv
    exact this
  | .tup ds, hv, hk, ret =>
    refine wb_cons (ws_ifE (q := false) (et_is (et_isN (x := .tup ds) (ek_d (ev_var 1))) rfl) (fun h => by cases h) (fun _ => wb_nil ?_))
    refine wb_cons (ws_ifE (q := false) (et_is (et_isi b_isinstance b_bool 1 2 (ek_d (ev_var 1))) rfl) (fun h => by cases h) (fun _ => wb_nil ?_))
    refine wb_cons (ws_ifE (q := false) (et_is (et_isi b_isinstance b_int 1 3 (ek_d (ev_var 1))) rfl) (fun h => by cases h) (fun _ => wb_nil ?_))
    refine wb_cons (ws_ifE (q := false) (et_is (et_isi b_isinstance b_str 1 4 (ek_d (ev_var 1))) rfl) (fun h => by cases h) (fun _ => wb_nil ?_))
    refine wb_cons (ws_ifE (q := false) (et_is (et_isi b_isinstance b_list 1 5 (ek_d (ev_var 1))) rfl) (fun h => by cases h) (fun _ => wb_nil ?_))
    have := DL.D.vk.mono (Nat.le_refl L) (Nat.le_succ k) hv
    exact wb_one (ws_ret (we_of (ev_frz (eo_list (x := .tup ds) b_list 5 (ek_d (ev_var 1)))) (ret _ this (by intro h; cases h))))
  | .dic _, hv, hk, ret => exact absurd hv (by cases k <;> exact id)
  | .ins _ _, hv, hk, ret => exact absurd hv (by cases k <;> exact id)


/-! _law_altered -/
abbrev s_l_altered : Stmt := top 23
abbrev n_l_altered : Nm := { N := ["_law_store_here", "_law_value", "_law_row", "_law_names_here", "_law_sort", "_law_spots", "_law_spot", "_law_k"], V := [0, 1, 2, 3, 4, 5, 6], as := [0, 1, 2, 3, 4, 5, 6], GN := ["isinstance", "bool", "int", "_law_pick", "str", "dict", "_law_copy", "list", "len", "_law_take", "range", "tuple"], k := 6, oi := [0], lc := [0, 1, 3, 4, 5, 6], sc := some (defScope s_l_altered) }
abbrev n_l_altered_c1 : Nm := { N := ["_law_store_here", "_law_value", "_law_row", "_law_names_here", "_law_sort", "_law_spots", "_law_spot", "_law_k"], V := [2, 7], as := [7], GN := [], k := 6, oi := [0] }
theorem sc_l_altered : FnScope n_l_altered.N ["_law_store_here", "_law_value"] (defScope s_l_altered) := ⟨rfl, rfl, rfl, by decide +kernel, rfl, by decide +kernel, by decide +kernel⟩
theorem sb_l_altered : ScOk (defScope s_l_altered) n_l_altered := scOk_of (by decide +kernel)
def S_l_altered : Sg := fun ps Post => ∃ k : Nat, ST_altered k ps Post
theorem bd_l_altered {X : Cx} {c : Cc} (b_isinstance : Blt X "isinstance" (.builtin "isinstance")) (b_bool : Blt X "bool" (.type "bool")) (b_int : Blt X "int" (.type "int")) (c_l_pick : CalF X n_l_altered.k "_law_pick" S_l_pick) (b_str : Blt X "str" (.type "str")) (b_dict : Blt X "dict" (.type "dict")) (c_l_copy : CalF X n_l_altered.k "_law_copy" S_l_copy) (b_list : Blt X "list" (.type "list")) (b_len : Blt X "len" (.builtin "len")) (c_l_take : CalF X n_l_altered.k "_law_take" S_l_take) (b_range : Blt X "range" (.type "range")) (b_tuple : Blt X "tuple" (.type "tuple")) : ∀ ps Post, S_l_altered ps Post → WB X n_l_altered c (entry n_l_altered.N ps) (defBody s_l_altered) (fnD n_l_altered.oi Post) := by
  rintro ps Post ⟨k, x, L, rfl, hv, hL, hL2, hk, post⟩
  show WB X n_l_altered c [.own .sto, .d x, .no, .no, .no, .no, .no, .no] _ _
  have bk : ∀ {r : SL}, Backs (.own .sto :: r) [0] [.sto] := fun {r} => ⟨.sto, .sto, [], rfl, rfl, .inl rfl, rfl⟩
  refine wb_cut (fun Γ => Γ = [.own .sto, .d x, .no, .no, .no, .no, .no, .no] ∧ x.isN = false) (ws_ifE (et_isN (ek_d (ev_var 1))) (fun h => wb_one (ws_ret (we_of (ev_tup (ea_cons (ek_d ev_int) (ea_cons (ek_d ev_int) ea_nil))) ⟨_, _, rfl, bk, post _ ⟨by show (2 : Nat) ≤ L + 1; omega, fun d hd => ?_⟩⟩))) (fun h => wb_nil ⟨rfl, h⟩)) ?_
  · simp only [List.mem_cons, List.not_mem_nil, or_false] at hd
    rcases hd with rfl | rfl <;> (cases k <;> trivial)
  rintro Γ ⟨rfl, h1⟩
  refine wb_cut (fun Γ => Γ = [.own .sto, .d x, .no, .no, .no, .no, .no, .no] ∧ tyB x.ty "bool" = false) (ws_ifE (et_isi b_isinstance b_bool 0 1 (ek_d (ev_var 1))) (fun h => ?_) (fun h => wb_nil ⟨rfl, h⟩)) ?_
  · obtain ⟨b, rfl⟩ := ty_bool h
    exact wb_one (ws_ret (we_of (ev_not (p := b) (ev_var 1)) ⟨_, _, rfl, bk, post _ trivial⟩))
  rintro Γ ⟨rfl, h2⟩
  refine wb_cut (fun Γ => Γ = [.own .sto, .d x, .no, .no, .no, .no, .no, .no] ∧ tyB x.ty "int" = false) (ws_ifE (et_isi b_isinstance b_int 0 2 (ek_d (ev_var 1))) (fun h => ?_) (fun h => wb_nil ⟨rfl, h⟩)) ?_
  · obtain ⟨i, rfl⟩ := ty_int h h2
    refine wb_one (ws_ret (we_addL (i := i) (ev_var 1) (we_pick c_l_pick 3 0 (we_frz (wo_of (eo_lst (ea_cons (ek_d ev_int) (ea_cons (ek_d (ev_sub ev_int ev_int)) ea_nil))) ⟨_, rfl, rfl, _, rfl, by simp, by simp, fun y hy => ?_⟩)))))
    have : ∃ j : Int, y = .int j := by
      simp only [List.mem_cons, List.not_mem_nil, or_false] at hy
      rcases hy with rfl | rfl <;> exact ⟨_, rfl⟩
    obtain ⟨j, rfl⟩ := this
    exact ⟨j, rfl, _, _, rfl, bk, post _ trivial⟩
  rintro Γ ⟨rfl, h3⟩
  refine wb_cut (fun Γ => Γ = [.own .sto, .d x, .no, .no, .no, .no, .no, .no] ∧ tyB x.ty "str" = false) (ws_ifE (et_isi b_isinstance b_str 0 4 (ek_d (ev_var 1))) (fun h => ?_) (fun h => wb_nil ⟨rfl, h⟩)) ?_
  · obtain ⟨s, rfl⟩ := ty_str h
    have hs : s.length ≤ L ∧ PyData.strOk s = true := by cases k <;> exact hv
    have la : ("a" : Str).length = 1 := by decide +kernel
    exact wb_one (ws_ret (we_of (ev_addS (u := s) (ev_var 1) ev_str (by rw [la, sizeLine_eq]; omega)) ⟨_, _, rfl, bk, post _ ⟨by rw [app_len, la]; omega, (SgS.app (sgs_of hs.2) (sgs_of (by decide +kernel))).ok⟩⟩))
  rintro Γ ⟨rfl, h4⟩
  refine wb_cut (fun Γ => Γ = [.own .sto, .d x, .no, .no, .no, .no, .no, .no] ∧ tyB x.ty "dict" = false) (ws_ifE (et_isi b_isinstance b_dict 0 5 (ek_d (ev_var 1))) (fun h => ?_) (fun h => wb_nil ⟨rfl, h⟩)) ?_
  · obtain ⟨kvs, rfl⟩ := ty_dict h
    exact absurd hv (by cases k <;> exact id)
  rintro Γ ⟨rfl, h5⟩
  obtain ⟨j, ds, rfl, hsq, hl, hds⟩ : ∃ (j : Nat) (ds : List DL.D), k = j + 1 ∧ x.seq = some ds ∧ ds.length ≤ L ∧ ∀ d ∈ ds, DL.D.vk L j d := by
    match x, k, hv, h1, h2, h3, h4, h5 with
    | .lst ds, j + 1, hv, _, _, _, _, _ => exact ⟨j, ds, rfl, rfl, hv.1, hv.2⟩
    | .tup ds, j + 1, hv, _, _, _, _, _ => exact ⟨j, ds, rfl, rfl, hv.1, hv.2⟩
    | .lst _, 0, hv, _, _, _, _, _ => exact hv.elim
    | .tup _, 0, hv, _, _, _, _, _ => exact hv.elim
    | .non, _, _, h1, _, _, _, _ => cases h1
    | .bl _, _, _, _, h2, _, _, _ => cases h2
    | .int _, _, _, _, _, h3, _, _ => cases h3
    | .str _, _, _, _, _, _, h4, _ => cases h4
    | .dic _, _, _, _, _, _, _, h5 => cases h5
    | .ins _ _, k, hv, _, _, _, _, _ => exact absurd hv (by cases k <;> exact id)
  refine wb_cut (fun Γ => Γ = [.own .sto, .d x, .own (.lst ds), .no, .no, .no, .no, .no]) (ws_setC (s0 := defScope s_l_altered) 2 (wo_of (eo_list (x := x) (hs := hsq) b_list 7 (ek_d (ev_var 1))) rfl) (by decide +kernel)) ?_
  rintro Γ rfl
  refine wb_cut (fun Γ => ∃ so : Nat, Γ = [.own .sto, .d x, .own (.lst ds), .no, .d (.int (so : Int)), .no, .no, .no]) (ws_set 4 (we_takeI (m := 3) c_l_take 9 0 fun a ha => ⟨a, rfl⟩)) ?_
  rintro Γ ⟨so, rfl⟩
  refine wb_cut (fun Γ => ∃ ks : List Nat, Γ = [.own .sto, .d x, .own (.lst ds), .no, .d (.int (so : Int)), .own (.lst (ks.map fun k : Nat => DL.D.int (k : Int))), .no, .no] ∧ ks.length ≤ ds.length ∧ ∀ k ∈ ks, k + 1 < ds.length) (ws_lcR1 (n' := n_l_altered_c1) 7 5 (fun i acc => ∃ ks : List Nat, acc = (ks.map fun k : Nat => DL.D.int (k : Int)) ∧ ks.length ≤ i ∧ ∀ k ∈ ks, k + 1 < ds.length) (fun i q => True) (ds.length - 1) ⟨(fun c hn => lc_bk hn rfl (by decide +kernel)), by decide +kernel, rfl, rfl, rfl, rfl, rfl, rfl, rfl, (by intro o h; cases h), rfl⟩ b_range 10 (we_of (ev_sub (ev_len (x := .lst ds) (m := ds.length) b_len 8 (ek_s 2)) ev_int) ⟨_, rfl, by omega, by omega, by omega, rfl⟩) (by omega) ⟨[], rfl, Nat.le_refl _, fun k h => by cases h⟩ (fun X' c' hb i hi => ?_) (fun X' c' hb i acc hi ht ha hl => ?_) (fun i acc hi ht ha => ?_) (fun out ha => ?_)) ?_
  · have i1 : i < ds.length := by omega
    have i2 : i + 1 < ds.length := by omega
    have hj : j ≤ 60 := by omega
    exact wt_of (et_neD (x := ds[i]) (y := ds[i + 1]) (ek_d (ev_ix (x := .lst ds) (z := ds[i]) (i := ((i : Nat) : Int)) (ek_s 2) (ev_var 7) (DL.atI_nat (List.getElem?_eq_getElem i1)))) (ek_d (ev_ix (x := .lst ds) (z := ds[i + 1]) (i := ((i + 1 : Nat) : Int)) (ek_s 2) (ev_is (ev_add (ev_var 7) ev_int) (by rw [Int.natCast_add]; rfl)) (DL.atI_nat (List.getElem?_eq_getElem i2)))) ((hds _ (List.getElem_mem i1)).shp hj) ((hds _ (List.getElem_mem i2)).shp hj)) ⟨rfl, trivial⟩
  · obtain ⟨ks, rfl, g1, g2⟩ := ha
    refine we_of (ev_var 7) ⟨rfl, ks ++ [i], by rw [List.map_append]; rfl, by rw [List.length_append]; simpa using g1, fun k hk => ?_⟩
    rcases List.mem_append.mp hk with hk | hk
    · exact g2 k hk
    · rw [List.mem_singleton.mp hk]; omega
  · obtain ⟨ks, e, g1, g2⟩ := ha
    exact ⟨ks, e, by omega, g2⟩
  · obtain ⟨ks, rfl, g1, g2⟩ := ha
    exact ⟨ks, rfl, by omega, g2⟩
  rintro Γ ⟨ks, rfl, kl, hks⟩
  have up : ∀ d ∈ ds, DL.D.vk (L + 1) j d := fun d hd => (hds d hd).mono (Nat.le_succ L) (Nat.le_refl j)
  refine wb_cut (fun Γ => ∃ (rs : List DL.D) (u5 u6 : DL.Slot), Γ = [.own .sto, .d x, .own (.lst rs), .no, .d (.int (so : Int)), u5, u6, .no] ∧ rs.length ≤ L + 1 ∧ ∀ d ∈ rs, DL.D.vk (L + 1) j d) (ws_ifE (EW.t (ew_and (et_eq (ev_var 4) ev_int) fun _ => ew_and1 (et_gt (ev_len (x := .lst ds) (m := ds.length) b_len 8 (ek_s 2)) ev_int))) (fun h => ?_) (fun _ => wb_one (ws_ifE (EW.t (ew_and (et_eq (ev_var 4) ev_int) fun _ => ew_and1 (et_gt (ev_len (x := .lst (ks.map fun k : Nat => DL.D.int (k : Int))) (m := ks.length) b_len 8 (ek_s 5) (by show some (List.map _ ks).length = _; rw [List.length_map])) ev_int))) (fun h => ?_) (fun _ => ?_)))) ?_
  · have l0 : 0 < ds.length := by
      have := of_decide_eq_true (Bool.and_eq_true_iff.mp h).2
      omega
    refine wb_one (ws_expr (we_meth0 2 dm_pop PySem.F.plainAttrs_list PySem.F.slot_list_pop PySem.F.type_list_pop ⟨ds[ds.length - 1], rfl, List.getElem?_eq_getElem (by omega), ds.dropLast, .own (.lst (ks.map fun k : Nat => DL.D.int (k : Int))), .no, rfl, by rw [List.length_dropLast]; omega, fun d hd => up d (List.dropLast_subset _ hd)⟩))
  · have l0 : 0 < ks.length := by
      have := of_decide_eq_true (Bool.and_eq_true_iff.mp h).2
      omega
    refine wb_cut (fun Γ => ∃ k : Nat, Γ = [.own .sto, .d x, .own (.lst ds), .no, .d (.int (so : Int)), .own (.lst (ks.map fun k : Nat => DL.D.int (k : Int))), .d (.int (k : Int)), .no] ∧ k + 1 < ds.length) (ws_set 6 (we_pickS (ds := ks.map fun k : Nat => DL.D.int (k : Int)) c_l_pick 3 0 5 rfl rfl (by decide) (by intro q; have := congrArg List.length q; rw [List.length_map, List.length_nil] at this; omega) (by rw [List.length_map]; omega) fun y hy => ?_)) ?_
    · obtain ⟨k, hk, rfl⟩ := List.mem_map.mp hy
      exact ⟨k, rfl, hks k hk⟩
    rintro Γ ⟨k, rfl, hk2⟩
    have hk1 : k < ds.length := by omega
    refine wb_one (ws_setIx2 2 (we_of (ev_tup (ea_cons (ek_d (ev_ix (x := .lst ds) (z := ds[k + 1]) (i := ((k + 1 : Nat) : Int)) (ek_s 2) (ev_is (ev_add (ev_var 6) ev_int) (by rw [Int.natCast_add]; rfl)) (DL.atI_nat (List.getElem?_eq_getElem hk2)))) (ea_cons (ek_d (ev_ix (x := .lst ds) (z := ds[k]) (i := ((k : Nat) : Int)) (ek_s 2) (ev_var 6) (DL.atI_nat (List.getElem?_eq_getElem hk1)))) ea_nil))) ⟨ds[k + 1], ds[k], ds, rfl, rfl, we_of (ev_var 6) ⟨(k : Int), k, rfl, rfl, ixN_nat hk1, we_of (ev_is (y := .int ((k + 1 : Nat) : Int)) (ev_add (ev_var 6) ev_int) (by rw [Int.natCast_add]; rfl)) ⟨((k + 1 : Nat) : Int), k + 1, rfl, rfl, ixN_nat hk2, (ds.set k ds[k + 1]).set (k + 1) ds[k], .own (.lst (ks.map fun k : Nat => DL.D.int (k : Int))), .d (.int (k : Int)), rfl, by rw [List.length_set, List.length_set]; omega, fun d hd => ?_⟩⟩⟩))
    rcases List.mem_or_eq_of_mem_set hd with hd | rfl
    · rcases List.mem_or_eq_of_mem_set hd with hd | rfl
      · exact up d hd
      · exact up _ (List.getElem_mem hk2)
    · exact up _ (List.getElem_mem hk1)
  · cases hz : ds with
    | nil =>
      subst hz
      refine wb_one (ws_setC (s0 := defScope s_l_altered) 2 (wo_of (eo_cat (xs := []) (ys := [.int 0]) (ek_s 2) (ek_d (x := .lst [.int 0]) (ev_if (p := false) (et_is (et_gt (ev_len (x := .lst []) (m := 0) b_len 8 (ek_s 2)) ev_int) rfl) (fun h => by cases h) (fun _ => ev_frz (eo_lst (ea_cons (ek_d ev_int) ea_nil))))) (by decide)) ⟨[.int 0], .own (.lst (ks.map fun k : Nat => DL.D.int (k : Int))), .no, rfl, by show 1 ≤ L + 1; omega, fun d hd => ?_⟩) (by decide +kernel))
      rw [List.mem_singleton.mp hd]; cases j <;> trivial
    | cons d0 r =>
      subst hz
      refine wb_one (ws_setC (s0 := defScope s_l_altered) 2 (wo_of (eo_cat (xs := d0 :: r) (ys := [d0]) (ek_s 2) (ek_d (x := .lst [d0]) (ev_if (p := true) (et_is (et_gt (ev_len (x := .lst (d0 :: r)) (m := r.length + 1) b_len 8 (ek_s 2)) ev_int) (decide_eq_true (by omega))) (fun _ => ev_is (ev_frz (eo_slice (l1 := none) (h1 := some ((1 : Nat) : Int)) (xs := d0 :: r) (ek_s 2) ep0 (ep1 ev_int))) (by rw [cut_toM]; rfl)) (fun h => by cases h))) (by show (d0 :: r).length + 1 ≤ _; omega)) ⟨(d0 :: r) ++ [d0], .own (.lst (ks.map fun k : Nat => DL.D.int (k : Int))), .no, rfl, by rw [List.length_append]; show (d0 :: r).length + 1 ≤ _; omega, fun d hd => ?_⟩) (by decide +kernel))
      rcases List.mem_append.mp hd with hd | hd
      · exact up d hd
      · rw [List.mem_singleton.mp hd]; exact up d0 List.mem_cons_self
  rintro Γ ⟨rs, u5, u6, rfl, rl, hrs⟩
  have hrs2 : ∀ d ∈ rs, DL.D.vk (L + 1) (j + 1) d := fun d hd => (hrs d hd).mono (Nat.le_refl _) (Nat.le_succ j)
  exact wb_one (ws_ret (we_if (wt_of (et_isi b_isinstance b_tuple 0 11 (ek_d (ev_var 1))) ⟨fun _ => we_of (ev_tuple (x := .lst rs) b_tuple 11 (ek_s 2)) ⟨_, _, rfl, bk, post (.tup rs) ⟨rl, hrs2⟩⟩, fun _ => we_frz (wo_mv 2 ⟨_, rfl, _, _, rfl, bk, post (.lst rs) ⟨rl, hrs2⟩⟩)⟩)))


/-! _law_bent -/
abbrev s_l_bent : Stmt := top 24
abbrev n_l_bent (j : Nat) : Nm := { N := ["_law_store_here", "_law_value", "_law_only_kind", "_law_inside", "_law_rows", "_law_name", "_law_row", "_law_spot"], V := [0, 1, 2, 3, 4, 5, 6, 7], as := [0, 1, 2, 3, 4, 5, 6, 7], GN := ["isinstance", "list", "tuple", "dict", "len", "_law_take", "_law_copy", "_law_pick", "_law_bent", "_law_miskind", "_law_altered"], k := 7 + j, oi := [0], lc := [0, 1, 2, 3, 4, 5, 6, 7], sc := none }
theorem sc_l_bent : FnScope (n_l_bent 0).N ["_law_store_here", "_law_value", "_law_only_kind"] (defScope s_l_bent) := ⟨rfl, rfl, rfl, by decide +kernel, rfl, by decide +kernel, by decide +kernel⟩
theorem sb_l_bent : ScOk (defScope s_l_bent) (n_l_bent 0) := scOk_of (by decide +kernel)
abbrev S_l_bent : Sg := ST_bentV 3
theorem bd_l_bent {X : Cx} {c : Cc} (j : Nat) (b_isinstance : Blt X "isinstance" (.builtin "isinstance")) (b_list : Blt X "list" (.type "list")) (b_tuple : Blt X "tuple" (.type "tuple")) (b_dict : Blt X "dict" (.type "dict")) (b_len : Blt X "len" (.builtin "len")) (c_l_take : CalF X (n_l_bent j).k "_law_take" S_l_take) (c_l_copy : CalF X (n_l_bent j).k "_law_copy" S_l_copy) (c_l_pick : CalF X (n_l_bent j).k "_law_pick" S_l_pick) (c_l_miskind : CalF X (n_l_bent j).k "_law_miskind" S_l_miskind) (c_l_altered : CalF X (n_l_bent j).k "_law_altered" S_l_altered) (c_rec : ∀ i, j = i + 1 → CalF X (n_l_bent j).k "_law_bent" (ST_bentV i)) : ∀ ps Post, ST_bentV j ps Post → WB X (n_l_bent j) c (entry (n_l_bent j).N ps) (defBody s_l_bent) (fnD (n_l_bent j).oi Post) := by
  rintro ps Post ⟨x, L, b, rfl, hv, hx, hL, hL2, hk, post⟩
  show WB X (n_l_bent j) c [.own .sto, .d x, .d (.bl b), .no, .no, .no, .no, .no] _ _
  have bk : ∀ {r : SL}, Backs (.own .sto :: r) [0] [.sto] := fun {r} => ⟨.sto, .sto, [], rfl, rfl, .inl rfl, rfl⟩
  have e1 : tyB x.ty "list" = false := by cases hx <;> rfl
  have e3 : tyB x.ty "dict" = false := by cases hx <;> rfl
  have kx : kindD x ≠ 1 := by cases hx <;> (intro h; cases h)
  refine wb_cut (fun Γ => Γ = [.own .sto, .d x, .d (.bl b), .d (.bl (tyB x.ty "tuple")), .no, .no, .no, .no]) (ws_set 3 (we_of (ev_is (y := .bl (tyB x.ty "tuple")) (ev_or (ev_isi b_isinstance b_list 0 1 (ek_d (ev_var 1))) fun _ => ev_or (ev_isi b_isinstance b_tuple 0 2 (ek_d (ev_var 1))) fun _ => ev_one (ev_isi b_isinstance b_dict 0 3 (ek_d (ev_var 1)))) (by rw [e1, e3]; simp)) rfl)) ?_
  rintro Γ rfl
  refine wb_cut (fun Γ => Γ = [.own .sto, .d x, .d (.bl b), .d (.bl (tyB x.ty "tuple")), .no, .no, .no, .no]) ?_ ?_
  · cases ht : tyB x.ty "tuple" with
    | false => exact ws_ifE (q := false) (EW.t (ew_and (p := false) (q := false) (et_val (ev_var 3)) fun h => by cases h)) (fun h => by cases h) (fun _ => wb_nil rfl)
    | true =>
    obtain ⟨ds, rfl⟩ := ty_tuple ht
    obtain ⟨i, hj, hl, hds⟩ : ∃ i, j = i + 1 ∧ ds.length ≤ L ∧ ∀ d ∈ ds, DL.D.vk L i d := by
      match j, hv with
      | 0, hv => exact hv.elim
      | i + 1, hv => exact ⟨i, rfl, hv.1, hv.2⟩
    have hnb : ∀ d ∈ ds, NoBl d := by cases hx with | tup h => exact h
    refine ws_if (WW.t (ww_and (wt_of (et_val (p := true) (ev_var 3)) ⟨fun _ => ww_and (wt_of (et_gt (ev_len (x := .tup ds) (m := ds.length) b_len 4 (ek_d (ev_var 1))) ev_int) ⟨fun h2 => ww_and1 (wt_cmp dop_gt (nomark _) (wk_e (we_takeI (m := 4) c_l_take 5 0 fun t ht => wk_e (we_of ev_int ⟨_, _, rfl, rfl, _, _, rfl, rfl, trivial, _, rfl, fun h3 => ?_, fun h3 => wb_nil rfl⟩)))), fun h2 => ⟨fun h => (by cases h), fun _ => wb_nil rfl⟩⟩), fun h => by cases h⟩)))
    have l0 : 0 < ds.length := by have := of_decide_eq_true h2; omega
    refine wb_cons (ws_ifE (q := false) (et_is (et_isi b_isinstance b_dict 0 3 (ek_d (ev_var 1))) rfl) (fun h => by cases h) (fun _ => wb_nil ?_))
    refine wb_cut (fun Γ => Γ = [.own .sto, .d (.tup ds), .d (.bl b), .d (.bl true), .no, .no, .own (.lst ds), .no]) (ws_setO 6 (wo_of (eo_list (x := .tup ds) b_list 1 (ek_d (ev_var 1))) rfl)) ?_
    rintro Γ rfl
    refine wb_cut (fun Γ => ∃ k : Nat, Γ = [.own .sto, .d (.tup ds), .d (.bl b), .d (.bl true), .no, .no, .own (.lst ds), .d (.int (k : Int))] ∧ k < ds.length) (ws_set 7 (we_take c_l_take 5 0 (we_of (ev_len (x := .lst ds) (m := ds.length) b_len 4 (ek_s 6)) ⟨rfl, ds.length, rfl, l0, bt64 (by omega), fun k hk => ⟨k, rfl, hk⟩⟩))) ?_
    rintro Γ ⟨k, rfl, hkl⟩
    refine wb_cut (fun Γ => ∃ y : DL.D, Γ = [.own .sto, .d (.tup ds), .d (.bl b), .d (.bl true), .no, .no, .own (.lst (ds.set k y)), .d (.int (k : Int))] ∧ DL.D.vk (L + 1) (i + 1) y ∧ (b = true → Mis ds[k] y)) (ws_setIx 6 (we_sto (c_rec i hj) 8 0 (sto_ea (hr := by simp [readIx]) (ea_cons (ek_d (ev_ix (x := .lst ds) (z := ds[k]) (i := (k : Int)) (ek_s 6) (ev_var 7) (DL.atI_nat (List.getElem?_eq_getElem hkl)))) (ea_cons (ek_d (ev_var 2)) ea_nil)) fun Q q => ⟨ds[k], L, b, rfl, hds _ (List.getElem_mem hkl), hnb _ (List.getElem_mem hkl), hL, hL2, by omega, fun y hy hm => q _ ⟨y, rfl, we_of (ev_var 7) ⟨ds, (k : Int), k, rfl, rfl, ixN_nat hkl, y, rfl, hy, hm⟩⟩⟩))) ?_
    rintro Γ ⟨y, rfl, hy, hm⟩
    refine wb_one (ws_ret (we_if (wt_of (et_is (p := true) (et_isi (x := .tup ds) b_isinstance b_tuple 0 2 (ek_d (ev_var 1))) rfl) ⟨fun _ => we_of (ev_tuple (x := .lst (ds.set k y)) b_tuple 2 (ek_s 6)) ⟨_, _, rfl, bk, post (.tup (ds.set k y)) ?_ fun e => .tup (List.getElem?_eq_getElem hkl) (hm e)⟩, fun h => by cases h⟩)))
    rw [hj]
    refine ⟨by rw [List.length_set]; omega, fun d hd => ?_⟩
    rcases List.mem_or_eq_of_mem_set hd with hd | rfl
    · exact (hds d hd).mono (Nat.le_succ L) (by omega)
    · exact hy
  rintro Γ rfl
  refine wb_cut (fun Γ => Γ = [.own .sto, .d x, .d (.bl b), .d (.bl (tyB x.ty "tuple")), .no, .no, .no, .no] ∧ b = false) (ws_if (WW.t (ww_or (wt_of (et_val (p := b) (ev_var 2)) ⟨fun hb => ww_or1 (wt_cmp dop_eqI (nomark _) (wk_e (we_takeI (m := 3) c_l_take 5 0 fun t ht => wk_e (we_of ev_int ⟨_, _, rfl, rfl, _, _, rfl, rfl, trivial, _, rfl, fun h => wb_one (ws_ret (we_sto c_l_miskind 9 0 (sto_ea (hr := by simp [readIx]) (ea_cons (ek_d (ev_var 1)) ea_nil) fun Q q => ⟨j, x, L, rfl, hv, hL, kx, fun y h1 h2 => q _ ⟨y, rfl, _, _, rfl, bk, post y (h1.mono (Nat.le_succ L) (Nat.le_refl _)) fun _ => .here h2⟩⟩))), fun h => wb_nil ⟨rfl, hb⟩⟩)))), fun hb => ⟨fun _ => wb_one (ws_ret (we_sto c_l_miskind 9 0 (sto_ea (hr := by simp [readIx]) (ea_cons (ek_d (ev_var 1)) ea_nil) fun Q q => ⟨j, x, L, rfl, hv, hL, kx, fun y h1 h2 => q _ ⟨y, rfl, _, _, rfl, bk, post y (h1.mono (Nat.le_succ L) (Nat.le_refl _)) fun _ => .here h2⟩⟩))), fun h => by cases h⟩⟩)))) ?_
  rintro Γ ⟨rfl, hb⟩
  exact wb_one (ws_ret (we_sto c_l_altered 10 0 (sto_ea (hr := by simp [readIx]) (ea_cons (ek_d (ev_var 1)) ea_nil) fun Q q => ⟨j, x, L, rfl, hv, hL, hL2, hk, fun y h1 => q _ ⟨y, rfl, _, _, rfl, bk, post y h1 fun e => by rw [hb] at e; cases e⟩⟩)))


/-! _law_no_entries -/
abbrev s_l_no_entries : Stmt := top 35
abbrev n_l_no_entries : Nm := { N := ["_law_store_here", "_law_entry", "_law_spot", "_law_more", "_law_values", "_law_cells_here"], V := [0, 1, 2, 3, 4, 5], as := [0, 1, 2, 3, 4, 5], GN := ["_law_take", "len", "_law_pick", "list", "_law_bad_name", "_law_bent"], k := 11, oi := [0], lc := [0, 1, 2, 3, 4, 5], sc := none }
theorem sc_l_no_entries : FnScope n_l_no_entries.N ["_law_store_here", "_law_entry"] (defScope s_l_no_entries) := ⟨rfl, rfl, rfl, by decide +kernel, rfl, by decide +kernel, by decide +kernel⟩
theorem sb_l_no_entries : ScOk (defScope s_l_no_entries) n_l_no_entries := scOk_of (by decide +kernel)
abbrev S_l_no_entries : Sg := ST_noentries
theorem bd_l_no_entries {X : Cx} {c : Cc} (c_l_take : CalF X n_l_no_entries.k "_law_take" S_l_take) (b_len : Blt X "len" (.builtin "len")) (c_l_pick : CalF X n_l_no_entries.k "_law_pick" S_l_pick) (b_list : Blt X "list" (.type "list")) (c_l_bad_name : CalF X n_l_no_entries.k "_law_bad_name" S_l_bad_name) (c_l_bent : CalF X n_l_no_entries.k "_law_bent" S_l_bent) : ∀ ps Post, S_l_no_entries ps Post → WB X n_l_no_entries c (entry n_l_no_entries.N ps) (defBody s_l_no_entries) (fnD n_l_no_entries.oi Post) := by
  rintro ps Post ⟨a, cc, cs, s, rfl, ho, ln1, post⟩
  show WB X n_l_no_entries c [.own .sto, .d (enD a cc cs s), .no, .no, .no, .no] _ _
  have bk : ∀ {r : SL}, Backs (.own .sto :: r) [0] [.sto] := fun {r} => ⟨.sto, .sto, [], rfl, rfl, .inl rfl, rfl⟩
  have z : ZP = 2147483647 := rfl
  have ln := ho.ln
  have al := ho.len
  have s0 := ho.s0
  have s1 := ho.s1
  have c1 := ho.c1
  have c2 := ho.c2
  have sok : PyData.strOk a = true := stem_sg (nmOk_of (show nmOk (cL a) = true from ho.nm)).2.2.2
  refine wb_cut (fun Γ => ∃ sp : Nat, Γ = [.own .sto, .d (enD a cc cs s), .d (.int (sp : Int)), .no, .no, .no]) (ws_set 2 (we_take c_l_take 0 0 (we_of (ev_is (y := .int ((cs.length + 1 : Nat) : Int)) (ev_add (ev_len (x := .tup (cs.map DL.D.int)) (m := cs.length) b_len 1 (ek_d (ev_ixt (x := enD a cc cs s) (z := .tup (cs.map DL.D.int)) (ev_var 1) ev_int)) (by show some (cs.map DL.D.int).length = _; rw [List.length_map])) ev_int) (by rw [Int.natCast_add]; rfl)) ⟨rfl, _, rfl, by omega, bt64 (by omega), fun k hk => ⟨k, rfl⟩⟩))) ?_
  rintro Γ ⟨sp, rfl⟩
  refine wb_cut (fun Γ => ∃ mo : Int, Γ = [.own .sto, .d (enD a cc cs s), .d (.int (sp : Int)), .d (.int mo), .no, .no] ∧ (mo = 2147483647 ∨ mo = -2147483647)) (ws_set 3 (we_pick c_l_pick 2 0 (we_frz (wo_of (eo_lst (ea_cons (ek_d ev_int) (ea_cons (ek_d (ev_sub ev_int ev_int)) ea_nil))) ⟨_, rfl, rfl, _, rfl, by simp, by simp, fun y hy => ?_⟩)))) ?_
  · simp only [List.mem_cons, List.not_mem_nil, or_false] at hy
    rcases hy with rfl | rfl
    · exact ⟨_, rfl, .inl rfl⟩
    · exact ⟨_, rfl, .inr rfl⟩
  rintro Γ ⟨mo, rfl, hmo⟩
  have jent : ∀ (c' s' : Int) (cs' : List Int), cs'.length ≤ 100000 → JOk (enD a c' cs' s') := fun c' s' cs' h => JOk.ent (by omega) h
  refine wb_cut (fun Γ => ∃ vs : List DL.D, Γ = [.own .sto, .d (enD a cc cs s), .d (.int (sp : Int)), .d (.int mo), .own (.lst vs), .no] ∧ vs.length = 1 ∧ (∀ v ∈ vs, JOk v ∧ isEn v = false)) (ws_setO 4 (wo_of (eo_lst (ea_cons (ek_d (ev_tup (ea_cons (ek_d (ev_ixt (x := enD a cc cs s) (z := .str a) (ev_var 1) ev_int)) (ea_cons (ek_d (ev_ixt (x := enD a cc cs s) (z := .int cc) (ev_var 1) ev_int)) (ea_cons (ek_d (ev_ixt (x := enD a cc cs s) (z := .tup (cs.map DL.D.int)) (ev_var 1) ev_int)) (ea_cons (ek_d (ev_add (ev_ixt (x := enD a cc cs s) (z := .int s) (ev_var 1) ev_int) (ev_var 3))) ea_nil)))))) ea_nil)) ⟨[enD a cc cs (s + mo)], rfl, rfl, fun v hv => ?_⟩)) ?_
  · rw [List.mem_singleton.mp hv]
    exact ⟨jent _ _ _ (by omega), en_s (by omega)⟩
  rintro Γ ⟨vs, rfl, vl, hvs⟩
  have more : ∀ {ws : List DL.D} {v : DL.D}, (∀ v ∈ ws, JOk v ∧ isEn v = false) → JOk v → isEn v = false → ∀ y ∈ ws ++ [v], JOk y ∧ isEn y = false := fun {ws v} h h1 h2 y hy => by
    rcases List.mem_append.mp hy with hy | hy
    · exact h y hy
    · rw [List.mem_singleton.mp hy]; exact ⟨h1, h2⟩
  refine wb_cut (fun Γ => ∃ (vs : List DL.D) (u5 : DL.Slot), Γ = [.own .sto, .d (enD a cc cs s), .d (.int (sp : Int)), .d (.int mo), .own (.lst vs), u5] ∧ vs.length ≤ 3 ∧ (∀ v ∈ vs, JOk v ∧ isEn v = false)) (ws_ifE (et_lt (ev_var 2) (ev_len (x := .tup (cs.map DL.D.int)) (m := cs.length) b_len 1 (ek_d (ev_ixt (x := enD a cc cs s) (z := .tup (cs.map DL.D.int)) (ev_var 1) ev_int)) (by show some (cs.map DL.D.int).length = _; rw [List.length_map]))) (fun h => ?_) (fun _ => wb_nil ⟨vs, _, rfl, by omega, hvs⟩)) ?_
  · have hsp : sp < cs.length := by have := of_decide_eq_true h; omega
    have e1 : cutD (cs.map DL.D.int) none (some ((sp : Nat) : Int)) = (cs.take sp).map DL.D.int := by rw [cut_toM, List.map_take]
    have e2 : cutD (cs.map DL.D.int) (some ((sp + 1 : Nat) : Int)) none = (cs.drop (sp + 1)).map DL.D.int := by rw [cut_fromM, List.map_drop]
    have lm : (cs.map DL.D.int).length = cs.length := List.length_map ..
    refine wb_cut (fun Γ => Γ = [.own .sto, .d (enD a cc cs s), .d (.int (sp : Int)), .d (.int mo), .own (.lst vs), .d (.tup ((cs.take sp ++ [cs[sp] + mo] ++ cs.drop (sp + 1)).map DL.D.int))]) (ws_set 5 (we_of (ev_is (y := .tup ((cs.take sp ++ [cs[sp] + mo] ++ cs.drop (sp + 1)).map DL.D.int)) (ev_catT (xs := (cs.take sp ++ [cs[sp] + mo]).map DL.D.int) (ys := (cs.drop (sp + 1)).map DL.D.int) (ek_d (ev_is (y := .tup ((cs.take sp ++ [cs[sp] + mo]).map DL.D.int)) (ev_catT (xs := (cs.take sp).map DL.D.int) (ys := [.int (cs[sp] + mo)]) (ek_d (ev_is (y := .tup ((cs.take sp).map DL.D.int)) (ev_sliceT (xs := cs.map DL.D.int) (l1 := none) (h1 := some ((sp : Nat) : Int)) (ek_d (ev_ixt (x := enD a cc cs s) (z := .tup (cs.map DL.D.int)) (ev_var 1) ev_int)) ep0 (ep1 (ev_var 2)) ?_) (by rw [e1]))) (ek_d (ev_tup (ea_cons (ek_d (ev_add (ev_ix (x := .tup (cs.map DL.D.int)) (z := .int cs[sp]) (i := (sp : Int)) (ek_d (ev_ixt (x := enD a cc cs s) (z := .tup (cs.map DL.D.int)) (ev_var 1) ev_int)) (ev_var 2) (DL.atI_nat (by rw [List.getElem?_map, List.getElem?_eq_getElem hsp]; rfl))) (ev_var 3))) ea_nil))) ?_) (by rw [List.map_append]; rfl))) (ek_d (ev_is (y := .tup ((cs.drop (sp + 1)).map DL.D.int)) (ev_sliceT (xs := cs.map DL.D.int) (l1 := some ((sp + 1 : Nat) : Int)) (h1 := none) (ek_d (ev_ixt (x := enD a cc cs s) (z := .tup (cs.map DL.D.int)) (ev_var 1) ev_int)) (ep1 (ev_is (ev_add (ev_var 2) ev_int) (by rw [Int.natCast_add]; rfl))) ep0 ?_) (by rw [e2]))) ?_) (by rw [List.map_append (l₁ := cs.take sp ++ [cs[sp] + mo])])) rfl)) ?_
    · rintro ⟨_, h2⟩
      rw [lm] at h2
      have : HT.sIx cs.length cs.length (some ((sp : Nat) : Int)) = sp := by
        unfold HT.sIx
        simp only
        split <;> omega
      omega
    · rw [List.length_map, List.length_take]; show _ + 1 ≤ _; omega
    · rintro ⟨h1, _⟩
      rw [lm] at h1
      have : HT.sIx cs.length 0 (some ((sp + 1 : Nat) : Int)) = sp + 1 := by
        unfold HT.sIx
        simp only
        split <;> omega
      omega
    · rw [List.length_map, List.length_map, List.length_append, List.length_take, List.length_drop]; show _ + 1 + _ ≤ _; omega
    rintro Γ rfl
    obtain ⟨x0, x1⟩ := ho.cl cs[sp] (List.getElem_mem hsp)
    have l5 : (cs.take sp ++ [cs[sp] + mo] ++ cs.drop (sp + 1)).length ≤ 100000 := by
      rw [List.length_append, List.length_append, List.length_take, List.length_drop]; show _ + 1 + _ ≤ _; omega
    have hin : cs[sp] + mo ∈ cs.take sp ++ [cs[sp] + mo] ++ cs.drop (sp + 1) := by simp
    have hbad : ¬ (0 ≤ cs[sp] + mo ∧ cs[sp] + mo < ZP) := by omega
    generalize cs.take sp ++ [cs[sp] + mo] ++ cs.drop (sp + 1) = xs at *
    refine wb_cut (fun Γ => Γ = [.own .sto, .d (enD a cc cs s), .d (.int (sp : Int)), .d (.int mo), .own (.lst (vs ++ [enD a cc xs s])), .d (.tup (xs.map DL.D.int))]) (ws_append 4 (we_of (ev_tup (ea_cons (ek_d (ev_ixt (x := enD a cc cs s) (z := .str a) (ev_var 1) ev_int)) (ea_cons (ek_d (ev_ixt (x := enD a cc cs s) (z := .int cc) (ev_var 1) ev_int)) (ea_cons (ek_d (ev_var 5)) (ea_cons (ek_d (ev_ixt (x := enD a cc cs s) (z := .int s) (ev_var 1) ev_int)) ea_nil))))) ⟨_, rfl, by omega, rfl⟩)) ?_
    rintro Γ rfl
    refine wb_one (ws_append 4 (we_of (ev_tup (ea_cons (ek_d (ev_ixt (x := enD a cc cs s) (z := .str a) (ev_var 1) ev_int)) (ea_cons (ek_d (ev_ixt (x := enD a cc cs s) (z := .int cc) (ev_var 1) ev_int)) (ea_cons (ek_d (ev_frz (eo_list (x := .tup (cs.map DL.D.int)) b_list 3 (ek_d (ev_ixt (x := enD a cc cs s) (z := .tup (cs.map DL.D.int)) (ev_var 1) ev_int))))) (ea_cons (ek_d (ev_ixt (x := enD a cc cs s) (z := .int s) (ev_var 1) ev_int)) ea_nil))))) ⟨_, rfl, by rw [List.length_append]; show _ + 1 < _; omega, vs ++ [enD a cc xs s] ++ [.tup [.str a, .int cc, .lst (cs.map DL.D.int), .int s]], .d (.tup (xs.map DL.D.int)), rfl, by rw [List.length_append, List.length_append]; show _ + 1 + 1 ≤ _; omega, ?_⟩))
    exact more (more hvs (jent _ _ _ l5) (en_x hin hbad)) (jok4 (plD_intl (by omega) 3) (by omega)) rfl
  clear hvs vl vs
  rintro Γ ⟨vs, u5, rfl, vl, hvs⟩
  refine wb_any 5 ?_
  show WB X n_l_no_entries c [.own .sto, .d (enD a cc cs s), .d (.int (sp : Int)), .d (.int mo), .own (.lst vs), .any] _ _
  refine wb_cut (fun Γ => ∃ vs : List DL.D, Γ = [.own .sto, .d (enD a cc cs s), .d (.int (sp : Int)), .d (.int mo), .own (.lst vs), .any] ∧ vs.length ≤ 4 ∧ (∀ v ∈ vs, JOk v ∧ isEn v = false)) (ws_append 4 (we_of (ev_tup (ea_cons (ek_d (ev_ixt (x := enD a cc cs s) (z := .str a) (ev_var 1) ev_int)) (ea_cons (ek_d (ev_add (ev_ixt (x := enD a cc cs s) (z := .int cc) (ev_var 1) ev_int) (ev_var 3))) (ea_cons (ek_d (ev_ixt (x := enD a cc cs s) (z := .tup (cs.map DL.D.int)) (ev_var 1) ev_int)) (ea_cons (ek_d (ev_ixt (x := enD a cc cs s) (z := .int s) (ev_var 1) ev_int)) ea_nil))))) ⟨_, rfl, by omega, vs ++ [enD a (cc + mo) cs s], rfl, by rw [List.length_append]; show _ + 1 ≤ _; omega, more hvs (jent _ _ _ (by omega)) (en_c (by omega))⟩)) ?_
  clear hvs vl vs
  rintro Γ ⟨vs, rfl, vl, hvs⟩
  refine wb_cut (fun Γ => ∃ vs : List DL.D, Γ = [.own .sto, .d (enD a cc cs s), .d (.int (sp : Int)), .d (.int mo), .own (.lst vs), .any] ∧ vs.length ≤ 5 ∧ (∀ v ∈ vs, JOk v ∧ isEn v = false)) (ws_append 4 (we_tup (wa_cons (wk_e (we_sto c_l_bad_name 4 0 (sto_ea (hr := by simp [readIx]) ea_nil fun Q q => ⟨rfl, fun na h1 h2 => q _ ⟨_, rfl, wa_of (ea_cons (ek_d (ev_ixt (x := enD a cc cs s) (z := .int cc) (ev_var 1) ev_int)) (ea_cons (ek_d (ev_ixt (x := enD a cc cs s) (z := .tup (cs.map DL.D.int)) (ev_var 1) ev_int)) (ea_cons (ek_d (ev_ixt (x := enD a cc cs s) (z := .int s) (ev_var 1) ev_int)) ea_nil))) ⟨_, rfl, Nat.le_of_ble_eq_true rfl, _, rfl, by omega, vs ++ [enD na cc cs s], rfl, by rw [List.length_append]; show _ + 1 ≤ _; omega, more hvs (JOk.ent (by omega) (by omega)) (en_n h1)⟩⟩⟩)))))) ?_
  clear hvs vl vs
  rintro Γ ⟨vs, rfl, vl, hvs⟩
  have l3 : ¬ (HT.sIx [DL.D.str a, .int cc, .tup (cs.map DL.D.int), .int s].length 0 none = 0 ∧ HT.sIx [DL.D.str a, .int cc, .tup (cs.map DL.D.int), .int s].length [DL.D.str a, .int cc, .tup (cs.map DL.D.int), .int s].length (some ((3 : Nat) : Int)) = [DL.D.str a, .int cc, .tup (cs.map DL.D.int), .int s].length) := by
    rintro ⟨_, h⟩
    have : HT.sIx 4 4 (some ((3 : Nat) : Int)) = 3 := by decide
    have h2 : HT.sIx 4 4 (some ((3 : Nat) : Int)) = 4 := h
    omega
  refine wb_one (ws_retO (wo_cat (wk_ek (ek_s 4) (wk_e (we_frz (wo_lst (wa_cons (wk_e (we_sto c_l_bent 5 0 (sto_ea (hr := by simp [readIx]) (ea_cons (ek_d (ev_var 1)) (ea_cons (ek_d ev_bl) ea_nil)) fun Q q => ⟨enD a cc cs s, 3100, true, rfl, (vk_ent (by omega) sok ln (by decide)).mono (Nat.le_refl _) (by decide), nobl_ent, by decide, by decide, by decide, fun y h1 h2 => q _ ⟨y, rfl, wa_of (ea_cons (ek_d (ev_frz (eo_list (x := enD a cc cs s) b_list 3 (ek_d (ev_var 1))))) (ea_cons (ek_d (ev_sliceT (xs := [.str a, .int cc, .tup (cs.map DL.D.int), .int s]) (l1 := none) (h1 := some ((3 : Nat) : Int)) (ek_d (ev_var 1)) ep0 (ep1 ev_int) l3)) (ea_cons (ek_d (ev_catT (xs := [.str a, .int cc, .tup (cs.map DL.D.int), .int s]) (ys := [.int 0]) (ek_d (ev_var 1)) (ek_d (ev_tup (ea_cons (ek_d ev_int) ea_nil))) (Nat.le_of_ble_eq_true rfl))) ea_nil))) ⟨_, rfl, Nat.le_of_ble_eq_true rfl, _, rfl, _, _, rfl, rfl, by show vs.length + 4 ≤ _; omega, .own _, _, .inl rfl, bk, post _ (by rw [List.length_append]; show vs.length + 4 ≤ _; omega) fun v hv => ?_⟩⟩⟩))))))))))
  rcases List.mem_append.mp hv with hv | hv
  · exact hvs v hv
  · simp only [List.mem_cons, List.not_mem_nil, or_false] at hv
    rcases hv with rfl | rfl | rfl | rfl
    · exact ⟨JOk.bent h1 (by decide), (h2 rfl).en⟩
    · exact ⟨⟨(jent cc s cs (by omega)).pl, fun x r s' e1 e2 => by cases e1⟩, rfl⟩
    · have e3 : cutD [DL.D.str a, .int cc, .tup (cs.map DL.D.int), .int s] none (some ((3 : Nat) : Int)) = [.str a, .int cc, .tup (cs.map DL.D.int)] := by rw [cut_toM]; rfl
      rw [e3]
      refine ⟨⟨⟨Nat.le_of_ble_eq_true rfl, fun x hx => ?_⟩, fun x r s' e1 e2 => ?_⟩, rfl⟩
      · simp only [List.mem_cons, List.not_mem_nil, or_false] at hx
        rcases hx with rfl | rfl | rfl
        · trivial
        · trivial
        · exact plD_ints (by omega) 3
      · subst e2
        have : s' = a := by injection e1 with e1; injection e1 with e1 _; injection e1 with e1; exact e1.symm
        rw [this]; omega
    · refine ⟨⟨⟨Nat.le_of_ble_eq_true rfl, fun x hx => ?_⟩, fun x r s' e1 e2 => ?_⟩, isEn_len (fun q => by cases q)⟩
      · have hx : x ∈ [DL.D.str a, .int cc, .tup (cs.map DL.D.int), .int s, .int 0] := hx
        simp only [List.mem_cons, List.not_mem_nil, or_false] at hx
        rcases hx with rfl | rfl | rfl | rfl | rfl
        · trivial
        · trivial
        · exact plD_ints (by omega) 3
        · trivial
        · trivial
      · subst e2
        have : s' = a := by injection e1 with e1; injection e1 with e1 _; injection e1 with e1; exact e1.symm
        rw [this]; omega


/-! law -/
abbrev s_law : Stmt := top 36
abbrev n_law : Nm := { N := ["_law_script", "_law_store_here", "_law_secret_here", "_law_other", "_law_sender", "_law_counter", "_law_cells_here", "_law_entry", "_law_k", "_law_changed_here", "_law_value", "_law_many", "_law_row", "_law_large"], V := [0, 1, 2, 3, 4, 5, 6, 7, 8, 9, 10, 11, 12, 13], as := [0, 1, 2, 3, 4, 5, 6, 7, 8, 9, 10, 11, 12, 13], GN := ["_law_store", "_law_secret", "_law_names", "_law_size", "_law_cells", "_law_pick", "_law_power_seal", "_law_same", "seal_of", "MODULUS", "sealed_entry", "_law_judged", "is_sealed", "range", "_law_changed", "_law_no_entries", "_law_bent", "_law_take", "len"], k := 12, oi := [], lc := [0, 1, 2, 3, 4, 5, 6, 7, 8, 9, 10, 11, 12, 13], sc := none }
theorem sc_law : FnScope n_law.N ["_law_script"] (defScope s_law) := ⟨rfl, rfl, rfl, by decide +kernel, rfl, by decide +kernel, by decide +kernel⟩
theorem sb_law : ScOk (defScope s_law) n_law := scOk_of (by decide +kernel)
def S_law : Sg := fun ps Post => ∃ ns0 : List Int, ps = [.sc ns0] ∧ ns0.length ≤ 63 ∧ Post (.d (.bl true)) []
theorem bd_law {X : Cx} {c : Cc} (c_l_store : CalF X n_law.k "_law_store" S_l_store) (c_l_secret : CalF X n_law.k "_law_secret" S_l_secret) (c_l_names : CalF X n_law.k "_law_names" S_l_names) (c_l_size : CalF X n_law.k "_law_size" S_l_size) (c_l_cells : CalF X n_law.k "_law_cells" S_l_cells) (c_l_pick : CalF X n_law.k "_law_pick" S_l_pick) (c_l_power_seal : CalF X n_law.k "_law_power_seal" S_l_power_seal) (c_l_same : CalF X n_law.k "_law_same" S_l_same) (c_p_seal_of : CalF X n_law.k "seal_of" S_p_seal_of) (g_MODULUS : Con X "MODULUS" v_MODULUS) (c_p_sealed_entry : CalF X n_law.k "sealed_entry" S_p_sealed_entry) (c_l_judged : CalF X n_law.k "_law_judged" S_l_judged) (c_p_is_sealed : CalF X n_law.k "is_sealed" S_p_is_sealed) (b_range : Blt X "range" (.type "range")) (c_l_changed : CalF X n_law.k "_law_changed" S_l_changed) (c_l_no_entries : CalF X n_law.k "_law_no_entries" S_l_no_entries) (c_l_bent : CalF X n_law.k "_law_bent" S_l_bent) (c_l_take : CalF X n_law.k "_law_take" S_l_take) (b_len : Blt X "len" (.builtin "len")) : ∀ ps Post, S_law ps Post → WB X n_law c (entry n_law.N ps) (defBody s_law) (fnD n_law.oi Post) := by
  rintro ps Post ⟨ns0, rfl, hz, post⟩
  show WB X n_law c [.sc ns0, .no, .no, .no, .no, .no, .no, .no, .no, .no, .no, .no, .no, .no] _ _
  have z : ZP = 2147483647 := rfl
  refine wb_cut (fun Γ => Γ = [.sc ns0, .own .sto, .no, .no, .no, .no, .no, .no, .no, .no, .no, .no, .no, .no]) (ws_setO 1 (wo_callE c_l_store 0 (ea_cons (ek_s 0) ea_nil) ⟨ns0, rfl, hz, .sto, rfl, rfl⟩)) ?_
  rintro Γ rfl
  refine wb_cut (fun Γ => ∃ key : Int, Γ = [.sc ns0, .own .sto, .d (.int key), .no, .no, .no, .no, .no, .no, .no, .no, .no, .no, .no] ∧ KeyOk key) (ws_set 2 (we_sto c_l_secret 1 1 (sto_ea (hr := by simp [readIx]) ea_nil fun Q q => ⟨rfl, fun key hk => q _ ⟨_, rfl, key, rfl, hk⟩⟩))) ?_
  rintro Γ ⟨key, rfl, hk⟩
  refine wb_cut (fun Γ => ∃ oth : Int, Γ = [.sc ns0, .own .sto, .d (.int key), .d (.int oth), .no, .no, .no, .no, .no, .no, .no, .no, .no, .no] ∧ KeyOk oth) (ws_set 3 (we_sto c_l_secret 1 1 (sto_ea (hr := by simp [readIx]) ea_nil fun Q q => ⟨rfl, fun key hk => q _ ⟨_, rfl, key, rfl, hk⟩⟩))) ?_
  rintro Γ ⟨oth, rfl, hk2⟩
  refine wb_cut (fun Γ => ∃ a : Str, Γ = [.sc ns0, .own .sto, .d (.int key), .d (.int oth), .d (.str a), .no, .no, .no, .no, .no, .no, .no, .no, .no] ∧ isNm (.str a) = true ∧ a.length ≤ 8) (ws_set 4 (we_ix di_seq (wk_e (we_sto c_l_names 2 1 (sto_ea (hr := by simp [readIx]) (ea_cons (ek_d ev_int) ea_nil) fun Q q => ⟨rfl, fun s h1 h2 h3 => q _ ⟨_, rfl, wk_ek (ek_d ev_int) ⟨_, _, rfl, rfl, 0, .str s, rfl, rfl, s, rfl, h1, h2⟩⟩⟩))))) ?_
  rintro Γ ⟨a, rfl, hna, al⟩
  refine wb_cut (fun Γ => ∃ cc : Int, Γ = [.sc ns0, .own .sto, .d (.int key), .d (.int oth), .d (.str a), .d (.int cc), .no, .no, .no, .no, .no, .no, .no, .no] ∧ 1 ≤ cc ∧ cc ≤ 999) (ws_set 5 (we_sto c_l_size 3 1 (sto_ea (hr := by simp [readIx]) (ea_cons (ek_d ev_int) (ea_cons (ek_d ev_int) ea_nil)) fun Q q => ⟨1, 999, rfl, by decide, bt_of (by decide) (by decide), bt_of (by decide) (by decide), fun i h1 h2 => q _ ⟨_, rfl, i, rfl, h1, h2⟩⟩))) ?_
  rintro Γ ⟨cc, rfl, c1, c2⟩
  refine wb_cut (fun Γ => ∃ cs : List Int, Γ = [.sc ns0, .own .sto, .d (.int key), .d (.int oth), .d (.str a), .d (.int cc), .d (.tup (cs.map DL.D.int)), .no, .no, .no, .no, .no, .no, .no] ∧ cs.length ≤ 60 ∧ ∀ i ∈ cs, 0 ≤ i ∧ i < ZP) (ws_set 6 (we_sto c_l_cells 4 1 (wa_cons (wk_e (we_pick c_l_pick 5 1 (we_frz (wo_of (eo_lst (ea_cons (ek_d ev_int) (ea_cons (ek_d ev_int) (ea_cons (ek_d ev_int) (ea_cons (ek_d ev_int) (ea_cons (ek_d ev_int) (ea_cons (ek_d ev_int) (ea_cons (ek_d ev_int) (ea_cons (ek_d ev_int) (ea_cons (ek_d ev_int) (ea_cons (ek_d ev_int) (ea_cons (ek_d ev_int) ea_nil)))))))))))) ⟨_, rfl, rfl, _, rfl, by simp, by simp, fun y hy => ?_⟩))))))) ?_
  · have : ∃ m : Nat, y = .int (m : Int) ∧ m ≤ 60 := by
      simp only [List.mem_cons, List.not_mem_nil, or_false] at hy
      rcases hy with rfl | rfl | rfl | rfl | rfl | rfl | rfl | rfl | rfl | rfl | rfl
      · exact ⟨0, rfl, by decide⟩
      · exact ⟨0, rfl, by decide⟩
      · exact ⟨1, rfl, by decide⟩
      · exact ⟨1, rfl, by decide⟩
      · exact ⟨2, rfl, by decide⟩
      · exact ⟨3, rfl, by decide⟩
      · exact ⟨4, rfl, by decide⟩
      · exact ⟨5, rfl, by decide⟩
      · exact ⟨8, rfl, by decide⟩
      · exact ⟨12, rfl, by decide⟩
      · exact ⟨60, rfl, by decide⟩
    obtain ⟨m, rfl, hm⟩ := this
    exact wa_nil ⟨rfl, _, rfl, rfl, by simp [readIx], fun Q q => ⟨m, rfl, by omega, fun cs h1 h2 => q _ ⟨_, rfl, cs, rfl, by omega, h2⟩⟩⟩
  rintro Γ ⟨cs, rfl, cl, hcs⟩
  refine wb_cut (fun Γ => Γ = [.sc ns0, .own .sto, .d (.int key), .d (.int oth), .d (.str a), .d (.int cc), .d (.tup (cs.map DL.D.int)), .d (enD a cc cs (sealZ key cc cs)), .no, .no, .no, .no, .no, .no]) (ws_set 7 (we_of (ev_tup (ea_cons (ek_d (ev_var 4)) (ea_cons (ek_d (ev_var 5)) (ea_cons (ek_d (ev_var 6)) (ea_cons (ek_d (ev_call3 c_l_power_seal 6 (ek_d (ev_var 2)) (ek_d (ev_var 5)) (ek_v (ev_var 6)) fun _ z => ⟨key, cc, cs, rfl, hk, by omega, by omega, hcs, by omega, z⟩)) ea_nil))))) rfl)) ?_
  rintro Γ rfl
  obtain ⟨sb0, sb1⟩ := seal_bd key cc cs
  have ho : EnOk a cc cs (sealZ key cc cs) := ⟨hna, c1, c2, hcs, sb0, sb1, by omega⟩
  have jE : ∀ {c' s' : Int} {cs' : List Int}, EnOk a c' cs' s' → JOk (enD a c' cs' s') := fun {c' s' cs'} h => JOk.ent (by omega) (by have := h.ln; omega)
  have seT : isSe key (enD a cc cs (sealZ key cc cs)) = true := by rw [ho.se]; exact decide_eq_true rfl
  refine wb_cons (ws_ifE (q := false) (EW.t (ew_or (p := false) (q := false) (et_is (et_not (et_val (p := true) (ev_call2 c_l_same 7 (ek_v (x := .int (sealZ key cc cs)) (ev_call3 c_p_seal_of 8 (ek_d (ev_var 2)) (ek_d (ev_var 5)) (ek_v (ev_var 6)) fun _ z => ⟨key, cc, cs, rfl, hk, by omega, by omega, hcs, by omega, z⟩)) (ek_v (x := .int (sealZ key cc cs)) (ev_ixt (x := (enD a cc cs (sealZ key cc cs))) (z := .int (sealZ key cc cs)) (ev_var 7) ev_int)) fun _ z => ⟨.int (sealZ key cc cs), .int (sealZ key cc cs), rfl, trivial, fun b hb => same_of rfl hb z⟩))) rfl) fun _ => ew_or1 (et_is (et_not (et_val (p := true) (ev_call2 c_l_same 7 (ek_v (x := .int 2147483647) (ev_glob 9 g_MODULUS)) (ek_v (x := .int 2147483647) ev_int) fun _ z => ⟨.int 2147483647, .int 2147483647, rfl, trivial, fun b hb => same_of rfl hb z⟩))) rfl))) (fun h => by cases h) (fun _ => wb_nil ?_))
  refine wb_cons (ws_ifE (q := false) (EW.t (ew_or (p := false) (q := false) (et_is (et_not (et_val (p := true) (ev_call2 c_l_same 7 (ek_v (x := (enD a cc cs (sealZ key cc cs))) (ev_call4 c_p_sealed_entry 10 (ek_d (ev_var 2)) (ek_d (ev_var 4)) (ek_d (ev_var 5)) (ek_v (ev_var 6)) fun _ z => ⟨key, cc, a, cs, rfl, hk, by omega, by omega, hcs, by omega, z⟩)) (ek_v (x := (enD a cc cs (sealZ key cc cs))) (ev_var 7)) fun _ z => ⟨(enD a cc cs (sealZ key cc cs)), (enD a cc cs (sealZ key cc cs)), rfl, (jE ho).pl, fun b hb => same_of rfl hb z⟩))) rfl) fun _ => ew_or1 (et_is (et_not (et_val (p := true) (ev_call2 c_l_judged 11 (ek_d (ev_var 2)) (ek_v (ev_var 7)) fun _ z => ⟨key, (enD a cc cs (sealZ key cc cs)), rfl, hk, jE ho, z⟩))) rfl))) (fun h => by cases h) (fun _ => wb_nil ?_))
  refine wb_cons (ws_ifE (q := false) (EW.t (ew_or (p := false) (q := false) (et_is (et_not (et_val (p := true) (ev_call2 c_l_judged 11 (ek_d (ev_var 3)) (ek_v (ev_var 7)) fun _ z => ⟨oth, (enD a cc cs (sealZ key cc cs)), rfl, hk2, jE ho, z⟩))) rfl) fun _ => ew_or1 (et_is (et_notB (ev_call2 c_p_is_sealed 12 (ek_d (ev_var 2)) (ek_v (x := (enD a cc cs (sealZ key cc cs))) (ev_call4 c_p_sealed_entry 10 (ek_d (ev_var 2)) (ek_d (ev_var 4)) (ek_d (ev_var 5)) (ek_v (ev_var 6)) fun _ z => ⟨key, cc, a, cs, rfl, hk, by omega, by omega, hcs, by omega, z⟩)) fun _ z => ⟨key, (enD a cc cs (sealZ key cc cs)), rfl, hk, jE ho, z⟩) ev_bl) (by rw [seT]; rfl)))) (fun h => by cases h) (fun _ => wb_nil ?_))
  refine wb_cut (fun Γ => ∃ u8 u9 : DL.Slot, Γ = [.sc ns0, .own .sto, .d (.int key), .d (.int oth), .d (.str a), .d (.int cc), .d (.tup (cs.map DL.D.int)), .d (enD a cc cs (sealZ key cc cs)), u8, u9, .no, .no, .no, .no]) (ws_forR1 8 (fun i Γ => ∃ u8 u9 : DL.Slot, Γ = [.sc ns0, .own .sto, .d (.int key), .d (.int oth), .d (.str a), .d (.int cc), .d (.tup (cs.map DL.D.int)), .d (enD a cc cs (sealZ key cc cs)), u8, u9, .no, .no, .no, .no]) 5 b_range 13 (we_of ev_int ⟨_, rfl, rfl, by decide, by decide, _, _, rfl⟩) ?_ (fun _ h => h)) ?_
  · rintro i Γ hi ⟨u8, u9, rfl⟩
    show WB X n_law c [.sc ns0, .own .sto, .d (.int key), .d (.int oth), .d (.str a), .d (.int cc), .d (.tup (cs.map DL.D.int)), .d (enD a cc cs (sealZ key cc cs)), .d (.int (i : Int)), u9, .no, .no, .no, .no] _ _
    refine wb_cut (fun Γ => ∃ c' cs' s', Γ = [.sc ns0, .own .sto, .d (.int key), .d (.int oth), .d (.str a), .d (.int cc), .d (.tup (cs.map DL.D.int)), .d (enD a cc cs (sealZ key cc cs)), .d (.int (i : Int)), (.d (enD a c' cs' s')), .no, .no, .no, .no] ∧ Chg cc cs (sealZ key cc cs) c' cs' s') (ws_set 9 (we_sto c_l_changed 14 1 (sto_ea (hr := by simp [readIx]) (ea_cons (ek_d (ev_var 7)) ea_nil) fun Q q => ⟨a, cc, cs, sealZ key cc cs, rfl, ho, fun c' cs' s' h => q _ ⟨_, rfl, c', cs', s', rfl, h⟩⟩))) ?_
    rintro Γ ⟨c', cs', s', rfl, hch⟩
    have ho' := hch.ok ho
    have bad := hch.bad ho hk.1 hk.2
    refine wb_cons (ws_ifE (q := false) (EW.t (ew_or (p := false) (q := false) (et_val (ev_call2 c_l_same 7 (ek_v (ev_var 9)) (ek_v (ev_var 7)) fun _ z => ⟨enD a c' cs' s', (enD a cc cs (sealZ key cc cs)), rfl, (jE ho).pl, fun b hb => by rw [show b = false from eq_false_of_ne_true fun q => hch.ne (hb.mp q)]; exact z⟩)) fun _ => ew_or (p := false) (q := false) (et_is (et_notB (ev_call2 c_p_is_sealed 12 (ek_d (ev_var 2)) (ek_v (ev_var 9)) fun _ z => ⟨key, enD a c' cs' s', rfl, hk, jE ho', z⟩) ev_bl) (by rw [bad]; rfl)) fun _ => ew_or1 (et_is (et_not (et_val (p := true) (ev_call2 c_l_judged 11 (ek_d (ev_var 3)) (ek_v (ev_var 9)) fun _ z => ⟨oth, (enD a c' cs' s'), rfl, hk2, jE ho', z⟩))) rfl))) (fun h => by cases h) (fun _ => wb_nil ?_))
    refine wb_one (ws_if (wt_not (wt_val (we_call c_l_judged 11 (wa_cons (wk_e (we_of (ev_var 2) (wa_cons (wk_v (we_sto c_l_changed 14 1 (sto_ea (hr := by simp [readIx]) (ea_cons (ek_d (ev_var 9)) ea_nil) fun Q q => ⟨a, c', cs', s', rfl, ho', fun c2 cs2 s2 h2 => q _ ⟨_, rfl, wa_nil ⟨_, rfl, List.nodup_nil, (fun _ _ h => by cases h), key, enD a c2 cs2 s2, rfl, hk, jE (h2.ok ho'), _, rfl, true, rfl, fun h => (by cases h), fun _ => wb_nil ⟨_, _, rfl⟩⟩⟩⟩)))))))))))
  rintro Γ ⟨u8, u9, rfl⟩
  refine wb_any 8 (wb_any 9 ?_)
  show WB X n_law c [.sc ns0, .own .sto, .d (.int key), .d (.int oth), .d (.str a), .d (.int cc), .d (.tup (cs.map DL.D.int)), .d (enD a cc cs (sealZ key cc cs)), .any, .any, .no, .no, .no, .no] _ _
  refine wb_cut (fun Γ => ∃ u10 : DL.Slot, Γ = [.sc ns0, .own .sto, .d (.int key), .d (.int oth), .d (.str a), .d (.int cc), .d (.tup (cs.map DL.D.int)), .d (enD a cc cs (sealZ key cc cs)), .any, .any, u10, .no, .no, .no]) (ws_forLD 10 (fun ds i Γ => (∀ v ∈ ds, JOk v ∧ isEn v = false) ∧ ∃ u10 : DL.Slot, Γ = [.sc ns0, .own .sto, .d (.int key), .d (.int oth), .d (.str a), .d (.int cc), .d (.tup (cs.map DL.D.int)), .d (enD a cc cs (sealZ key cc cs)), .any, .any, u10, .no, .no, .no]) (we_sto c_l_no_entries 15 1 (sto_ea (hr := by simp [readIx]) (ea_cons (ek_d (ev_var 7)) ea_nil) fun Q q => ⟨a, cc, cs, sealZ key cc cs, rfl, ho, by omega, fun vs h1 h2 => q _ ⟨_, rfl, vs, rfl, h2, _, rfl⟩⟩)) ?_ (fun _ _ h => h.2)) ?_
  · rintro ds i Γ v hv ⟨hall, u10, rfl⟩
    obtain ⟨jv, ev⟩ := hall v (List.mem_of_getElem? hv)
    show WB X n_law c [.sc ns0, .own .sto, .d (.int key), .d (.int oth), .d (.str a), .d (.int cc), .d (.tup (cs.map DL.D.int)), .d (enD a cc cs (sealZ key cc cs)), .any, .any, .d v, .no, .no, .no] _ _
    refine wb_one (ws_ifE (q := false) (EW.t (ew_or (p := false) (q := false) (et_is (et_notB (ev_call2 c_p_is_sealed 12 (ek_d (ev_var 2)) (ek_v (ev_var 10)) fun _ z => ⟨key, v, rfl, hk, jv, z⟩) ev_bl) (by rw [isSe_en ev]; rfl)) fun _ => ew_or1 (et_is (et_not (et_val (p := true) (ev_call2 c_l_judged 11 (ek_d (ev_var 2)) (ek_v (ev_var 10)) fun _ z => ⟨key, v, rfl, hk, jv, z⟩))) rfl))) (fun h => by cases h) (fun _ => wb_nil ⟨hall, _, rfl⟩))
  rintro Γ ⟨u10, rfl⟩
  have sok : PyData.strOk a = true := stem_sg (nmOk_of (show nmOk (cL a) = true from hna)).2.2.2
  refine wb_cut (fun Γ => ∃ u10 : DL.Slot, Γ = [.sc ns0, .own .sto, .d (.int key), .d (.int oth), .d (.str a), .d (.int cc), .d (.tup (cs.map DL.D.int)), .d (enD a cc cs (sealZ key cc cs)), .any, .any, u10, .no, .no, .no]) (ws_forLD 10 (fun ds i Γ => (∀ v ∈ ds, JOk v) ∧ ∃ u10 : DL.Slot, Γ = [.sc ns0, .own .sto, .d (.int key), .d (.int oth), .d (.str a), .d (.int cc), .d (.tup (cs.map DL.D.int)), .d (enD a cc cs (sealZ key cc cs)), .any, .any, u10, .no, .no, .no]) (we_frz (wo_lst (wa_cons (wk_e (we_sto c_l_bent 16 1 (sto_ea (hr := by simp [readIx]) (ea_cons (ek_d (ev_var 7)) (ea_cons (ek_d ev_bl) ea_nil)) fun Q q => ⟨(enD a cc cs (sealZ key cc cs)), 3100, false, rfl, (vk_ent (by omega) sok (by omega) (by decide)).mono (Nat.le_refl _) (by decide), nobl_ent, by decide, by decide, by decide, fun y h1 h2 => q _ ⟨y, rfl, wa_cons (wk_e (we_pick c_l_pick 5 1 (we_frz (wo_of (eo_lst (ea_cons (ek_d ev_non) (ea_cons (ek_d ev_bl) (ea_cons (ek_d ev_int) (ea_cons (ek_d ev_str) (ea_cons (ek_d (ev_tup ea_nil)) (ea_cons (ek_d (ev_frz (eo_lst ea_nil))) (ea_cons (ek_d (x := .dic []) (we_frz (wo_of eo_dnew ⟨.dic [], rfl, rfl, rfl⟩))) (ea_cons (ek_d (ev_tup (ea_cons (ek_d (ev_tup ea_nil)) (ea_cons (ek_d (ev_tup ea_nil)) (ea_cons (ek_d (ev_tup ea_nil)) (ea_cons (ek_d (ev_tup ea_nil)) ea_nil)))))) ea_nil))))))))) ⟨_, rfl, rfl, _, rfl, by simp, by simp, fun y2 hy2 => wa_nil ⟨_, rfl, Nat.le_of_ble_eq_true rfl, _, rfl, _, rfl, fun v hv => ?_, _, rfl⟩⟩))))⟩⟩)))))) ?_ (fun _ _ h => h.2)) ?_
  · have hv : v ∈ [y, y2] := hv
    have jt : ∀ {v : DL.D}, DL.D.plD 5 v → (∀ b r, v ≠ .tup (.str b :: r)) → JOk v := fun {v} h hn => ⟨h, fun x r s e1 e2 => absurd (by rw [e1, e2]) (hn s r)⟩
    simp only [List.mem_cons, List.not_mem_nil, or_false] at hv
    rcases hv with rfl | rfl
    · exact JOk.bent h1 (by decide)
    · simp only [List.mem_cons, List.not_mem_nil, or_false] at hy2
      rcases hy2 with rfl | rfl | rfl | rfl | rfl | rfl | rfl | rfl
      · exact jt trivial (by intro b r h; cases h)
      · exact jt trivial (by intro b r h; cases h)
      · exact jt trivial (by intro b r h; cases h)
      · exact jt trivial (by intro b r h; cases h)
      · exact jt ⟨Nat.zero_le _, fun d hd => by cases hd⟩ (by intro b r h; cases h)
      · exact jt ⟨Nat.zero_le _, fun d hd => by cases hd⟩ (by intro b r h; cases h)
      · exact jt ⟨Nat.zero_le _, List.nodup_nil, (fun d hd => by cases hd), fun d hd => by cases hd⟩ (by intro b r h; cases h)
      · refine jt ⟨Nat.le_of_ble_eq_true rfl, fun d hd => ?_⟩ (by intro b r h; cases h)
        have : d = .tup [] := by
          simp only [List.mem_cons, List.not_mem_nil, or_false] at hd
          rcases hd with rfl | rfl | rfl | rfl <;> rfl
        rw [this]
        exact ⟨Nat.zero_le _, fun d hd => by cases hd⟩
  · rintro ds i Γ v hv ⟨hall, u10, rfl⟩
    have jv := hall v (List.mem_of_getElem? hv)
    show WB X n_law c [.sc ns0, .own .sto, .d (.int key), .d (.int oth), .d (.str a), .d (.int cc), .d (.tup (cs.map DL.D.int)), .d (enD a cc cs (sealZ key cc cs)), .any, .any, .d v, .no, .no, .no] _ _
    exact wb_one (ws_ifE (q := false) (et_is (et_not (et_val (p := true) (ev_call2 c_l_judged 11 (ek_d (ev_var 2)) (ek_v (ev_var 10)) fun _ z => ⟨key, v, rfl, hk, jv, z⟩))) rfl) (fun h => by cases h) (fun _ => wb_nil ⟨hall, _, rfl⟩))
  rintro Γ ⟨u10, rfl⟩
  refine wb_any 10 ?_
  show WB X n_law c [.sc ns0, .own .sto, .d (.int key), .d (.int oth), .d (.str a), .d (.int cc), .d (.tup (cs.map DL.D.int)), .d (enD a cc cs (sealZ key cc cs)), .any, .any, .any, .no, .no, .no] _ _
  refine wb_cut (fun Γ => ∃ m : Nat, Γ = [.sc ns0, .own .sto, .d (.int key), .d (.int oth), .d (.str a), .d (.int cc), .d (.tup (cs.map DL.D.int)), .d (enD a cc cs (sealZ key cc cs)), .any, .any, .any, .d (.int (m : Int)), .no, .no] ∧ m ≤ 3000) (ws_set 11 (we_if (wt_cmp dop_eqI (nomark _) (wk_e (we_takeI (m := 4) c_l_take 17 1 fun t ht => wk_e (we_of ev_int ⟨_, _, rfl, rfl, _, _, rfl, rfl, trivial, _, rfl, fun h => we_pick c_l_pick 5 1 (we_frz (wo_of (eo_lst (ea_cons (ek_d ev_int) (ea_cons (ek_d ev_int) (ea_cons (ek_d ev_int) (ea_cons (ek_d ev_int) (ea_cons (ek_d ev_int) (ea_cons (ek_d ev_int) ea_nil))))))) ⟨_, rfl, rfl, _, rfl, by simp, by simp, fun y hy => ?_⟩)), fun h => we_of ev_int ⟨0, rfl, by decide⟩⟩)))))) ?_
  · simp only [List.mem_cons, List.not_mem_nil, or_false] at hy
    rcases hy with rfl | rfl | rfl | rfl | rfl | rfl
    · exact ⟨0, rfl, by decide⟩
    · exact ⟨0, rfl, by decide⟩
    · exact ⟨0, rfl, by decide⟩
    · exact ⟨61, rfl, by decide⟩
    · exact ⟨200, rfl, by decide⟩
    · exact ⟨3000, rfl, by decide⟩
  rintro Γ ⟨m, rfl, hm⟩
  have lz : (cs ++ [1, 0, 2147483646]).length = cs.length + 3 := by rw [List.length_append]; rfl
  have qd : (m : Int).fdiv ((cs.length : Int) + 3) = ((m / (cs.length + 3) : Nat) : Int) := by
    rw [Int.fdiv_eq_ediv_of_nonneg _ (by omega)]; push_cast; rfl
  have qb : m / (cs.length + 3) ≤ m := Nat.div_le_self _ _
  have qm : m < (m / (cs.length + 3) + 1) * (cs.length + 3) := by
    have := Nat.lt_div_mul_add (a := m) (b := cs.length + 3) (by omega)
    rw [Nat.add_mul, Nat.one_mul]; exact this
  have cd : CDivA (m : Int) ((cs.length : Int) + 3) := (show Bt 20 ((cs.length : Int) + 3) from bt_of (by omega) (by omega)).cd (by omega) (by decide)
  generalize hq : m / (cs.length + 3) = q at *
  have rep : (List.replicate (q + 1) ((cs ++ [1, 0, 2147483646]).map DL.D.int)).flatten = ((List.replicate (q + 1) (cs ++ [1, 0, 2147483646])).flatten).map DL.D.int := by
    rw [List.map_flatten, List.map_replicate]
  have rin : ∀ i ∈ (List.replicate (q + 1) (cs ++ [1, 0, 2147483646])).flatten, 0 ≤ i ∧ i < ZP := fun i hi => by
    obtain ⟨l, hl, hi⟩ := List.mem_flatten.mp hi
    rw [List.eq_of_mem_replicate hl] at hi
    rcases List.mem_append.mp hi with hi | hi
    · exact hcs i hi
    · simp only [List.mem_cons, List.not_mem_nil, or_false] at hi
      rcases hi with rfl | rfl | rfl <;> exact ⟨by decide, by decide⟩
  have rlen : ((List.replicate (q + 1) (cs ++ [1, 0, 2147483646])).flatten).length = (q + 1) * (cs.length + 3) := by
    rw [List.length_flatten, List.map_replicate, List.sum_replicate_nat, lz]
  rw [← rlen] at qm
  generalize (List.replicate (q + 1) (cs ++ [1, 0, 2147483646])).flatten = big at *
  refine wb_cut (fun Γ => Γ = [.sc ns0, .own .sto, .d (.int key), .d (.int oth), .d (.str a), .d (.int cc), .d (.tup (cs.map DL.D.int)), .d (enD a cc cs (sealZ key cc cs)), .any, .any, .any, .d (.int (m : Int)), .d (.tup (big.map DL.D.int)), .no]) (ws_set 12 (we_of (ev_is (y := .tup (big.map DL.D.int)) (ev_repT (m := q + 1) (xs := (cs ++ [1, 0, 2147483646]).map DL.D.int) (ev_is (y := .tup ((cs ++ [1, 0, 2147483646]).map DL.D.int)) (ev_catT (xs := cs.map DL.D.int) (ys := [.int 1, .int 0, .int 2147483646]) (ek_d (ev_var 6)) (ek_d (ev_tup (ea_cons (ek_d ev_int) (ea_cons (ek_d ev_int) (ea_cons (ek_d ev_int) ea_nil))))) (by rw [List.length_map]; show cs.length + 3 ≤ _; omega)) (by rw [List.map_append]; rfl)) (ev_is (ev_add (ev_fdiv (ev_var 11) (ev_add (ev_len (x := .tup (cs.map DL.D.int)) (m := cs.length) b_len 18 (ek_d (ev_var 6)) (by show some (cs.map DL.D.int).length = _; rw [List.length_map])) ev_int) cd) ev_int) (by rw [qd]; rfl)) (by omega) (by omega) (by rw [List.length_map, lz]; omega) (by intro h; have := congrArg List.length h; rw [List.length_map, lz] at this; simp at this)) (by rw [rep])) rfl)) ?_
  rintro Γ rfl
  have lb : (big.map DL.D.int).length = big.length := List.length_map ..
  refine wb_cut (fun Γ => Γ = [.sc ns0, .own .sto, .d (.int key), .d (.int oth), .d (.str a), .d (.int cc), .d (.tup (cs.map DL.D.int)), .d (enD a cc cs (sealZ key cc cs)), .any, .any, .any, .d (.int (m : Int)), .d (.tup ((big.take m).map DL.D.int)), .no]) (ws_set 12 (we_of (ev_is (y := .tup ((big.take m).map DL.D.int)) (ev_sliceT (xs := big.map DL.D.int) (l1 := none) (h1 := some ((m : Nat) : Int)) (ek_d (ev_var 12)) ep0 (ep1 (ev_var 11)) ?_) (by rw [cut_toM, List.map_take])) rfl)) ?_
  · rintro ⟨_, h2⟩
    rw [lb] at h2
    have : HT.sIx big.length big.length (some ((m : Nat) : Int)) = m := by
      unfold HT.sIx
      simp only
      split <;> omega
    omega
  rintro Γ rfl
  have rin2 : ∀ i ∈ big.take m, 0 ≤ i ∧ i < ZP := fun i hi => rin i (List.mem_of_mem_take hi)
  have rl2 : (big.take m).length ≤ 3000 := by rw [List.length_take]; omega
  generalize big.take m = rs at *
  refine wb_cut (fun Γ => Γ = [.sc ns0, .own .sto, .d (.int key), .d (.int oth), .d (.str a), .d (.int cc), .d (.tup (cs.map DL.D.int)), .d (enD a cc cs (sealZ key cc cs)), .any, .any, .any, .d (.int (m : Int)), .d (.tup (rs.map DL.D.int)), .d (enD a cc rs (sealZ key cc rs))]) (ws_set 13 (we_of (ev_tup (ea_cons (ek_d (ev_var 4)) (ea_cons (ek_d (ev_var 5)) (ea_cons (ek_d (ev_var 12)) (ea_cons (ek_d (ev_call3 c_l_power_seal 6 (ek_d (ev_var 2)) (ek_d (ev_var 5)) (ek_v (ev_var 12)) fun _ z => ⟨key, cc, rs, rfl, hk, by omega, by omega, rin2, by omega, z⟩)) ea_nil))))) rfl)) ?_
  rintro Γ rfl
  obtain ⟨tb0, tb1⟩ := seal_bd key cc rs
  have hoL : EnOk a cc rs (sealZ key cc rs) := ⟨hna, c1, c2, rin2, tb0, tb1, by omega⟩
  refine wb_cut (fun Γ => Γ = [.sc ns0, .own .sto, .d (.int key), .d (.int oth), .d (.str a), .d (.int cc), .d (.tup (cs.map DL.D.int)), .d (enD a cc cs (sealZ key cc cs)), .any, .any, .any, .d (.int (m : Int)), .d (.tup (rs.map DL.D.int)), .d (enD a cc rs (sealZ key cc rs))]) (ws_if (WW.t (ww_or (wt_of (et_is (et_not (et_val (p := true) (ev_call2 c_l_judged 11 (ek_d (ev_var 2)) (ek_v (ev_var 13)) fun _ z => ⟨key, (enD a cc rs (sealZ key cc rs)), rfl, hk, jE hoL, z⟩))) rfl) ⟨fun _ => ww_or1 (wt_cmp dop_notB (nomark _) (wk_e (we_call c_p_is_sealed 12 (wa_cons (wk_e (we_of (ev_var 2) (wa_cons (wk_v (we_sto c_l_changed 14 1 (sto_ea (hr := by simp [readIx]) (ea_cons (ek_d (ev_var 13)) ea_nil) fun Q q => ⟨a, cc, rs, sealZ key cc rs, rfl, hoL, fun c2 cs2 s2 h2 => q _ ⟨_, rfl, wa_nil ⟨_, rfl, List.nodup_nil, (fun _ _ h => by cases h), key, enD a c2 cs2 s2, rfl, hk, jE (h2.ok hoL), _, rfl, wk_e (we_of ev_bl ⟨_, _, rfl, rfl, _, _, rfl, rfl, _, rfl, fun h => (by rw [h2.bad hoL hk.1 hk.2] at h; cases h), fun _ => wb_nil rfl⟩)⟩⟩⟩)))))))))), fun h => by cases h⟩)))) ?_
  rintro Γ rfl
  exact wb_one (ws_ret (we_of (ev_is (y := .bl true) (ev_and (p := true) (q := true) (ev_call2 c_l_judged 11 (ek_d (ev_var 2)) (ek_v (ev_var 7)) fun _ z => ⟨key, (enD a cc cs (sealZ key cc cs)), rfl, hk, jE ho, z⟩) fun _ => ev_one (ev_call2 c_l_same 7 (ek_v (x := (enD a cc cs (sealZ key cc cs))) (ev_call4 c_p_sealed_entry 10 (ek_d (ev_var 2)) (ek_d (ev_var 4)) (ek_d (ev_var 5)) (ek_v (ev_var 6)) fun _ z => ⟨key, cc, a, cs, rfl, hk, by omega, by omega, hcs, by omega, z⟩)) (ek_v (x := (enD a cc cs (sealZ key cc cs))) (ev_var 7)) fun _ z => ⟨(enD a cc cs (sealZ key cc cs)), (enD a cc cs (sealZ key cc cs)), rfl, (jE ho).pl, fun b hb => same_of rfl hb z⟩)) rfl) ⟨_, [], rfl, rfl, post⟩))


/-! ### what the top has written -/
structure Wd (P : Program) (K : PySem.W.Frag) (mg : Str → Option Value) where
  d_l_store : DefAt K mg "_law_store" s_l_store ["_law_script"]
  d_l_feed : DefAt K mg "_law_feed" s_l_feed ["_law_store_here"]
  d_l_mixed : DefAt K mg "_law_mixed" s_l_mixed ["_law_store_here"]
  d_l_take : DefAt K mg "_law_take" s_l_take ["_law_store_here", "_law_many"]
  d_l_pick : DefAt K mg "_law_pick" s_l_pick ["_law_store_here", "_law_things"]
  d_l_secret : DefAt K mg "_law_secret" s_l_secret ["_law_store_here"]
  d_l_names : DefAt K mg "_law_names" s_l_names ["_law_store_here", "_law_many"]
  d_l_size : DefAt K mg "_law_size" s_l_size ["_law_store_here", "_law_least", "_law_top"]
  d_l_cells : DefAt K mg "_law_cells" s_l_cells ["_law_store_here", "_law_many"]
  d_l_power_seal : DefAt K mg "_law_power_seal" s_l_power_seal ["_law_secret_here", "_law_counter", "_law_cells_here"]
  d_l_is_int : DefAt K mg "_law_is_int" s_l_is_int ["_law_value"]
  d_l_same : DefAt K mg "_law_same" s_l_same ["_law_value", "_law_due"]
  d_p_seal_of : DefAt K mg "seal_of" s_p_seal_of ["key", "counter", "cells"]
  d_p_sealed_entry : DefAt K mg "sealed_entry" s_p_sealed_entry ["key", "sender", "counter", "cells"]
  d_l_copy : DefAt K mg "_law_copy" s_l_copy ["_law_value"]
  d_p_is_name : DefAt K mg "is_name" s_p_is_name ["value"]
  d_p_is_whole : DefAt K mg "is_whole" s_p_is_whole ["value"]
  d_p_is_cell : DefAt K mg "is_cell" s_p_is_cell ["value"]
  d_p_is_entry : DefAt K mg "is_entry" s_p_is_entry ["value"]
  d_p_is_sealed : DefAt K mg "is_sealed" s_p_is_sealed ["key", "value"]
  d_l_is_name : DefAt K mg "_law_is_name" s_l_is_name ["_law_value"]
  d_l_is_cell : DefAt K mg "_law_is_cell" s_l_is_cell ["_law_value"]
  d_l_is_entry : DefAt K mg "_law_is_entry" s_l_is_entry ["_law_secret_here", "_law_value"]
  d_l_judged : DefAt K mg "_law_judged" s_l_judged ["_law_secret_here", "_law_value"]
  d_l_changed : DefAt K mg "_law_changed" s_l_changed ["_law_store_here", "_law_entry"]
  d_l_bad_name : DefAt K mg "_law_bad_name" s_l_bad_name ["_law_store_here"]
  d_l_miskind : DefAt K mg "_law_miskind" s_l_miskind ["_law_store_here", "_law_value"]
  d_l_altered : DefAt K mg "_law_altered" s_l_altered ["_law_store_here", "_law_value"]
  d_l_bent : DefAt K mg "_law_bent" s_l_bent ["_law_store_here", "_law_value", "_law_only_kind"]
  d_l_no_entries : DefAt K mg "_law_no_entries" s_l_no_entries ["_law_store_here", "_law_entry"]
  d_law : DefAt K mg "law" s_law ["_law_script"]
  b_list : mg "list" = none
  b_int : mg "int" = none
  b_abs : mg "abs" = none
  b_max : mg "max" = none
  b_len : mg "len" = none
  b_range : mg "range" = none
  b_str : mg "str" = none
  b_tuple : mg "tuple" = none
  b_isinstance : mg "isinstance" = none
  b_bool : mg "bool" = none
  b_dict : mg "dict" = none
  g_MODULUS : ∃ v u, mg "MODULUS" = some u ∧ RelV v u ∧ ∀ R, Rp K R v_MODULUS v
  g_LETTERS : ∃ v u, mg "LETTERS" = some u ∧ RelV v u ∧ ∀ R, Rp K R v_LETTERS v
  g_DIGITS : ∃ v u, mg "DIGITS" = some u ∧ RelV v u ∧ ∀ R, Rp K R v_DIGITS v
section
variable {P : Program} {w : World} {K : PySem.W.Frag} {mg : Str → Option Value} {base : Heap}
theorem ok_l_store (T : Wd P K mg) : FnOk P w K mg base CX0 1 T.d_l_store.a T.d_l_store.fd ["_law_script"] (spOf K S_l_store) :=
  fn_ok T.d_l_store.F sc_l_store sb_l_store (.inl rfl) (by rintro ps Post ⟨ns, rfl, _⟩ <;> exact ⟨rfl, rfl⟩) (fun X c e => by obtain ⟨rfl, rfl, rfl, rfl, rfl, rm⟩ := e; exact bd_l_store ⟨T.b_list, by decide +kernel⟩)
theorem ok_l_feed (T : Wd P K mg) : FnOk P w K mg base CX0 1 T.d_l_feed.a T.d_l_feed.fd ["_law_store_here"] (spOf K S_l_feed) :=
  fn_ok T.d_l_feed.F sc_l_feed sb_l_feed (.inl rfl) (by rintro ps Post ⟨ns, pl, great, st, left, cnt, rfl, _⟩ <;> exact ⟨rfl, rfl⟩) (fun X c e => by obtain ⟨rfl, rfl, rfl, rfl, rfl, rm⟩ := e; exact bd_l_feed ⟨T.b_int, by decide +kernel⟩ ⟨T.b_abs, by decide +kernel⟩)
theorem ok_l_mixed (T : Wd P K mg) : FnOk P w K mg base CX0 1 T.d_l_mixed.a T.d_l_mixed.fd ["_law_store_here"] (spOf K S_l_mixed) :=
  fn_ok T.d_l_mixed.F sc_l_mixed sb_l_mixed (.inl rfl) (by rintro ps Post ⟨ns, place, great, st, left, cnt, rfl, _⟩ <;> exact ⟨rfl, rfl⟩) (fun X c e => by obtain ⟨rfl, rfl, rfl, rfl, rfl, rm⟩ := e; exact bd_l_mixed ⟨T.b_int, by decide +kernel⟩)
theorem ok_l_take (T : Wd P K mg) : FnOk P w K mg base CX0 2 T.d_l_take.a T.d_l_take.fd ["_law_store_here", "_law_many"] (spOf K S_l_take) :=
  fn_ok T.d_l_take.F sc_l_take sb_l_take (.inl rfl) (by rintro ps Post ⟨many, rfl, _⟩ <;> exact ⟨rfl, rfl⟩) (fun X c e => by obtain ⟨rfl, rfl, rfl, rfl, rfl, rm⟩ := e; exact bd_l_take ⟨T.b_max, by decide +kernel⟩ ⟨T.b_len, by decide +kernel⟩ (T.d_l_feed.cal (ok_l_feed T) (by decide) rm) ⟨T.b_int, by decide +kernel⟩ (T.d_l_mixed.cal (ok_l_mixed T) (by decide) rm))
theorem ok_l_pick (T : Wd P K mg) : FnOk P w K mg base CX0 3 T.d_l_pick.a T.d_l_pick.fd ["_law_store_here", "_law_things"] (spOf K S_l_pick) :=
  fn_ok T.d_l_pick.F sc_l_pick sb_l_pick (.inl rfl) (by rintro ps Post ⟨x, m, rfl, _⟩ <;> exact ⟨rfl, rfl⟩) (fun X c e => by obtain ⟨rfl, rfl, rfl, rfl, rfl, rm⟩ := e; exact bd_l_pick (T.d_l_take.cal (ok_l_take T) (by decide) rm) ⟨T.b_len, by decide +kernel⟩)
theorem ok_l_secret (T : Wd P K mg) : FnOk P w K mg base CX0 4 T.d_l_secret.a T.d_l_secret.fd ["_law_store_here"] (spOf K S_l_secret) :=
  fn_ok T.d_l_secret.F sc_l_secret sb_l_secret (.inl rfl) (by rintro ps Post ⟨rfl, _⟩ <;> exact ⟨rfl, rfl⟩) (fun X c e => by obtain ⟨rfl, rfl, rfl, rfl, rfl, rm⟩ := e; exact bd_l_secret (T.d_l_pick.cal (ok_l_pick T) (by decide) rm) (T.d_l_take.cal (ok_l_take T) (by decide) rm))
theorem ok_l_names (T : Wd P K mg) : FnOk P w K mg base CX0 4 T.d_l_names.a T.d_l_names.fd ["_law_store_here", "_law_many"] (spOf K S_l_names) :=
  fn_ok T.d_l_names.F sc_l_names sb_l_names (.inl rfl) (by rintro ps Post ⟨rfl, _⟩ <;> exact ⟨rfl, rfl⟩) (fun X c e => by obtain ⟨rfl, rfl, rfl, rfl, rfl, rm⟩ := e; exact bd_l_names ⟨T.b_range, by decide +kernel⟩ (T.d_l_take.cal (ok_l_take T) (by decide) rm) ⟨T.b_int, by decide +kernel⟩ (T.d_l_pick.cal (ok_l_pick T) (by decide) rm) ⟨T.b_len, by decide +kernel⟩ ⟨T.b_str, by decide +kernel⟩)
theorem ok_l_size (T : Wd P K mg) : FnOk P w K mg base CX0 3 T.d_l_size.a T.d_l_size.fd ["_law_store_here", "_law_least", "_law_top"] (spOf K S_l_size) :=
  fn_ok T.d_l_size.F sc_l_size sb_l_size (.inl rfl) (by rintro ps Post ⟨lo, hi, rfl, _⟩ <;> exact ⟨rfl, rfl⟩) (fun X c e => by obtain ⟨rfl, rfl, rfl, rfl, rfl, rm⟩ := e; exact bd_l_size (T.d_l_take.cal (ok_l_take T) (by decide) rm))
theorem ok_l_cells (T : Wd P K mg) : FnOk P w K mg base CX0 4 T.d_l_cells.a T.d_l_cells.fd ["_law_store_here", "_law_many"] (spOf K S_l_cells) :=
  fn_ok T.d_l_cells.F sc_l_cells sb_l_cells (.inl rfl) (by rintro ps Post ⟨m, rfl, _⟩ <;> exact ⟨rfl, rfl⟩) (fun X c e => by obtain ⟨rfl, rfl, rfl, rfl, rfl, rm⟩ := e; exact bd_l_cells ⟨T.b_range, by decide +kernel⟩ (T.d_l_take.cal (ok_l_take T) (by decide) rm) (T.d_l_pick.cal (ok_l_pick T) (by decide) rm) ⟨T.b_tuple, by decide +kernel⟩)
theorem ok_l_power_seal (T : Wd P K mg) : FnOk P w K mg base CX0 1 T.d_l_power_seal.a T.d_l_power_seal.fd ["_law_secret_here", "_law_counter", "_law_cells_here"] (spOf K S_l_power_seal) :=
  fn_ok T.d_l_power_seal.F sc_l_power_seal sb_l_power_seal (.inl rfl) (by rintro ps Post ⟨key, cc, cs, rfl, _⟩ <;> exact ⟨rfl, rfl⟩) (fun X c e => by obtain ⟨rfl, rfl, rfl, rfl, rfl, rm⟩ := e; exact bd_l_power_seal ⟨T.b_len, by decide +kernel⟩ ⟨T.b_range, by decide +kernel⟩ ⟨T.b_int, by decide +kernel⟩)
theorem ok_l_is_int (T : Wd P K mg) : FnOk P w K mg base CX0 1 T.d_l_is_int.a T.d_l_is_int.fd ["_law_value"] (spOf K S_l_is_int) :=
  fn_ok T.d_l_is_int.F sc_l_is_int sb_l_is_int (.inl rfl) (by rintro ps Post ⟨x, rfl, _⟩ <;> exact ⟨rfl, rfl⟩) (fun X c e => by obtain ⟨rfl, rfl, rfl, rfl, rfl, rm⟩ := e; exact bd_l_is_int ⟨T.b_isinstance, by decide +kernel⟩ ⟨T.b_int, by decide +kernel⟩ ⟨T.b_bool, by decide +kernel⟩)
theorem okr_l_same (T : Wd P K mg) : ∀ j, FnOk P w K mg base CX0 (1 + j + 1) T.d_l_same.a T.d_l_same.fd ["_law_value", "_law_due"] (spOf K (ST_sameD j))
  | 0 => by
    exact fn_ok (n := n_l_same (0)) T.d_l_same.F sc_l_same (sb_l_same.k _) (.inr rfl) (by rintro ps Post ⟨v, d, rfl, _⟩; exact ⟨rfl, rfl⟩) (fun X c e => by obtain ⟨rfl, rfl, rfl, rfl, rfl, rm⟩ := e; exact bd_l_same (0) ⟨T.b_isinstance, by decide +kernel⟩ ⟨T.b_bool, by decide +kernel⟩ ⟨T.b_int, by decide +kernel⟩ (T.d_l_is_int.cal (ok_l_is_int T) (Nat.le_trans (by decide) (Nat.le_add_right 1 _)) rm) ⟨T.b_str, by decide +kernel⟩ ⟨T.b_dict, by decide +kernel⟩ ⟨T.b_list, by decide +kernel⟩ ⟨T.b_tuple, by decide +kernel⟩ ⟨T.b_len, by decide +kernel⟩ ⟨T.b_range, by decide +kernel⟩ (fun i e => by cases e))
  | j + 1 => by
    have rc := okr_l_same T j
    exact fn_ok (n := n_l_same (j + 1)) T.d_l_same.F sc_l_same (sb_l_same.k _) (.inr rfl) (by rintro ps Post ⟨v, d, rfl, _⟩; exact ⟨rfl, rfl⟩) (fun X c e => by obtain ⟨rfl, rfl, rfl, rfl, rfl, rm⟩ := e; exact bd_l_same (j + 1) ⟨T.b_isinstance, by decide +kernel⟩ ⟨T.b_bool, by decide +kernel⟩ ⟨T.b_int, by decide +kernel⟩ (T.d_l_is_int.cal (ok_l_is_int T) (Nat.le_trans (by decide) (Nat.le_add_right 1 _)) rm) ⟨T.b_str, by decide +kernel⟩ ⟨T.b_dict, by decide +kernel⟩ ⟨T.b_list, by decide +kernel⟩ ⟨T.b_tuple, by decide +kernel⟩ ⟨T.b_len, by decide +kernel⟩ ⟨T.b_range, by decide +kernel⟩ (fun i e => by cases e; exact T.d_l_same.cal rc (Nat.le_refl _) rm))
theorem ok_l_same (T : Wd P K mg) : FnOk P w K mg base CX0 7 T.d_l_same.a T.d_l_same.fd ["_law_value", "_law_due"] (spOf K S_l_same) := okr_l_same T 5
theorem ok_p_seal_of (T : Wd P K mg) : FnOk P w K mg base CX0 1 T.d_p_seal_of.a T.d_p_seal_of.fd ["key", "counter", "cells"] (spOf K S_p_seal_of) :=
  fn_ok T.d_p_seal_of.F sc_p_seal_of sb_p_seal_of (.inl rfl) (by rintro ps Post ⟨key, cc, cs, rfl, _⟩ <;> exact ⟨rfl, rfl⟩) (fun X c e => by obtain ⟨rfl, rfl, rfl, rfl, rfl, rm⟩ := e; exact bd_p_seal_of ⟨T.g_MODULUS⟩ ⟨T.b_len, by decide +kernel⟩)
theorem ok_p_sealed_entry (T : Wd P K mg) : FnOk P w K mg base CX0 2 T.d_p_sealed_entry.a T.d_p_sealed_entry.fd ["key", "sender", "counter", "cells"] (spOf K S_p_sealed_entry) :=
  fn_ok T.d_p_sealed_entry.F sc_p_sealed_entry sb_p_sealed_entry (.inl rfl) (by rintro ps Post ⟨key, cc, a, cs, rfl, _⟩ <;> exact ⟨rfl, rfl⟩) (fun X c e => by obtain ⟨rfl, rfl, rfl, rfl, rfl, rm⟩ := e; exact bd_p_sealed_entry ⟨T.b_tuple, by decide +kernel⟩ (T.d_p_seal_of.cal (ok_p_seal_of T) (by decide) rm))
theorem okr_l_copy (T : Wd P K mg) : ∀ j, FnOk P w K mg base CX0 (0 + j + 1) T.d_l_copy.a T.d_l_copy.fd ["_law_value"] (spOf K (ST_copyD j))
  | 0 => by
    exact fn_ok (n := n_l_copy (0)) T.d_l_copy.F sc_l_copy (sb_l_copy.k _) (.inr rfl) (by rintro ps Post ⟨x, rfl, _⟩; exact ⟨rfl, rfl⟩) (fun X c e => by obtain ⟨rfl, rfl, rfl, rfl, rfl, rm⟩ := e; exact bd_l_copy (0) ⟨T.b_isinstance, by decide +kernel⟩ ⟨T.b_list, by decide +kernel⟩ ⟨T.b_tuple, by decide +kernel⟩ ⟨T.b_dict, by decide +kernel⟩ (fun i e => by cases e))
  | j + 1 => by
    have rc := okr_l_copy T j
    exact fn_ok (n := n_l_copy (j + 1)) T.d_l_copy.F sc_l_copy (sb_l_copy.k _) (.inr rfl) (by rintro ps Post ⟨x, rfl, _⟩; exact ⟨rfl, rfl⟩) (fun X c e => by obtain ⟨rfl, rfl, rfl, rfl, rfl, rm⟩ := e; exact bd_l_copy (j + 1) ⟨T.b_isinstance, by decide +kernel⟩ ⟨T.b_list, by decide +kernel⟩ ⟨T.b_tuple, by decide +kernel⟩ ⟨T.b_dict, by decide +kernel⟩ (fun i e => by cases e; exact T.d_l_copy.cal rc (Nat.le_refl _) rm))
theorem ok_l_copy (T : Wd P K mg) : FnOk P w K mg base CX0 6 T.d_l_copy.a T.d_l_copy.fd ["_law_value"] (spOf K S_l_copy) := okr_l_copy T 5
theorem ok_p_is_name (T : Wd P K mg) : FnOk P w K mg base CX0 1 T.d_p_is_name.a T.d_p_is_name.fd ["value"] (spOf K S_p_is_name) :=
  fn_ok T.d_p_is_name.F sc_p_is_name sb_p_is_name (.inl rfl) (by rintro ps Post ⟨x, rfl, _⟩ <;> exact ⟨rfl, rfl⟩) (fun X c e => by obtain ⟨rfl, rfl, rfl, rfl, rfl, rm⟩ := e; exact bd_p_is_name ⟨T.b_isinstance, by decide +kernel⟩ ⟨T.b_str, by decide +kernel⟩ ⟨T.b_len, by decide +kernel⟩ ⟨T.g_LETTERS⟩ ⟨T.g_DIGITS⟩)
theorem ok_p_is_whole (T : Wd P K mg) : FnOk P w K mg base CX0 1 T.d_p_is_whole.a T.d_p_is_whole.fd ["value"] (spOf K S_p_is_whole) :=
  fn_ok T.d_p_is_whole.F sc_p_is_whole sb_p_is_whole (.inl rfl) (by rintro ps Post ⟨x, rfl, _⟩ <;> exact ⟨rfl, rfl⟩) (fun X c e => by obtain ⟨rfl, rfl, rfl, rfl, rfl, rm⟩ := e; exact bd_p_is_whole ⟨T.b_isinstance, by decide +kernel⟩ ⟨T.b_int, by decide +kernel⟩ ⟨T.b_bool, by decide +kernel⟩)
theorem ok_p_is_cell (T : Wd P K mg) : FnOk P w K mg base CX0 2 T.d_p_is_cell.a T.d_p_is_cell.fd ["value"] (spOf K S_p_is_cell) :=
  fn_ok T.d_p_is_cell.F sc_p_is_cell sb_p_is_cell (.inl rfl) (by rintro ps Post ⟨x, rfl, _⟩ <;> exact ⟨rfl, rfl⟩) (fun X c e => by obtain ⟨rfl, rfl, rfl, rfl, rfl, rm⟩ := e; exact bd_p_is_cell (T.d_p_is_whole.cal (ok_p_is_whole T) (by decide) rm) ⟨T.g_MODULUS⟩)
theorem ok_p_is_entry (T : Wd P K mg) : FnOk P w K mg base CX0 3 T.d_p_is_entry.a T.d_p_is_entry.fd ["value"] (spOf K S_p_is_entry) :=
  fn_ok T.d_p_is_entry.F sc_p_is_entry sb_p_is_entry (.inl rfl) (by rintro ps Post ⟨x, rfl, _⟩ <;> exact ⟨rfl, rfl⟩) (fun X c e => by obtain ⟨rfl, rfl, rfl, rfl, rfl, rm⟩ := e; exact bd_p_is_entry ⟨T.b_isinstance, by decide +kernel⟩ ⟨T.b_tuple, by decide +kernel⟩ ⟨T.b_len, by decide +kernel⟩ (T.d_p_is_name.cal (ok_p_is_name T) (by decide) rm) (T.d_p_is_whole.cal (ok_p_is_whole T) (by decide) rm) (T.d_p_is_cell.cal (ok_p_is_cell T) (by decide) rm))
theorem ok_p_is_sealed (T : Wd P K mg) : FnOk P w K mg base CX0 4 T.d_p_is_sealed.a T.d_p_is_sealed.fd ["key", "value"] (spOf K S_p_is_sealed) :=
  fn_ok T.d_p_is_sealed.F sc_p_is_sealed sb_p_is_sealed (.inl rfl) (by rintro ps Post ⟨key, x, rfl, _⟩ <;> exact ⟨rfl, rfl⟩) (fun X c e => by obtain ⟨rfl, rfl, rfl, rfl, rfl, rm⟩ := e; exact bd_p_is_sealed (T.d_p_is_entry.cal (ok_p_is_entry T) (by decide) rm) (T.d_p_seal_of.cal (ok_p_seal_of T) (by decide) rm))
theorem ok_l_is_name (T : Wd P K mg) : FnOk P w K mg base CX0 1 T.d_l_is_name.a T.d_l_is_name.fd ["_law_value"] (spOf K S_l_is_name) :=
  fn_ok T.d_l_is_name.F sc_l_is_name sb_l_is_name (.inl rfl) (by rintro ps Post ⟨x, rfl, _⟩ <;> exact ⟨rfl, rfl⟩) (fun X c e => by obtain ⟨rfl, rfl, rfl, rfl, rfl, rm⟩ := e; exact bd_l_is_name ⟨T.b_isinstance, by decide +kernel⟩ ⟨T.b_str, by decide +kernel⟩ ⟨T.b_len, by decide +kernel⟩)
theorem ok_l_is_cell (T : Wd P K mg) : FnOk P w K mg base CX0 2 T.d_l_is_cell.a T.d_l_is_cell.fd ["_law_value"] (spOf K S_l_is_cell) :=
  fn_ok T.d_l_is_cell.F sc_l_is_cell sb_l_is_cell (.inl rfl) (by rintro ps Post ⟨x, rfl, _⟩ <;> exact ⟨rfl, rfl⟩) (fun X c e => by obtain ⟨rfl, rfl, rfl, rfl, rfl, rm⟩ := e; exact bd_l_is_cell (T.d_l_is_int.cal (ok_l_is_int T) (by decide) rm))
theorem ok_l_is_entry (T : Wd P K mg) : FnOk P w K mg base CX0 3 T.d_l_is_entry.a T.d_l_is_entry.fd ["_law_secret_here", "_law_value"] (spOf K S_l_is_entry) :=
  fn_ok T.d_l_is_entry.F sc_l_is_entry sb_l_is_entry (.inl rfl) (by rintro ps Post ⟨key, x, rfl, _⟩ <;> exact ⟨rfl, rfl⟩) (fun X c e => by obtain ⟨rfl, rfl, rfl, rfl, rfl, rm⟩ := e; exact bd_l_is_entry ⟨T.b_isinstance, by decide +kernel⟩ ⟨T.b_tuple, by decide +kernel⟩ ⟨T.b_len, by decide +kernel⟩ (T.d_l_is_name.cal (ok_l_is_name T) (by decide) rm) (T.d_l_is_int.cal (ok_l_is_int T) (by decide) rm) (T.d_l_is_cell.cal (ok_l_is_cell T) (by decide) rm) (T.d_l_power_seal.cal (ok_l_power_seal T) (by decide) rm))
theorem ok_l_judged (T : Wd P K mg) : FnOk P w K mg base CX0 8 T.d_l_judged.a T.d_l_judged.fd ["_law_secret_here", "_law_value"] (spOf K S_l_judged) :=
  fn_ok T.d_l_judged.F sc_l_judged sb_l_judged (.inl rfl) (by rintro ps Post ⟨key, x, rfl, _⟩ <;> exact ⟨rfl, rfl⟩) (fun X c e => by obtain ⟨rfl, rfl, rfl, rfl, rfl, rm⟩ := e; exact bd_l_judged (T.d_l_copy.cal (ok_l_copy T) (by decide) rm) (T.d_l_same.cal (ok_l_same T) (by decide) rm) (T.d_p_is_sealed.cal (ok_p_is_sealed T) (by decide) rm) (T.d_l_is_entry.cal (ok_l_is_entry T) (by decide) rm))
theorem ok_l_changed (T : Wd P K mg) : FnOk P w K mg base CX0 4 T.d_l_changed.a T.d_l_changed.fd ["_law_store_here", "_law_entry"] (spOf K S_l_changed) :=
  fn_ok T.d_l_changed.F sc_l_changed sb_l_changed (.inr rfl) (by rintro ps Post ⟨a, cc, cs, s, rfl, _⟩ <;> exact ⟨rfl, rfl⟩) (fun X c e => by obtain ⟨rfl, rfl, rfl, rfl, rfl, rm⟩ := e; exact bd_l_changed ⟨T.b_list, by decide +kernel⟩ (T.d_l_take.cal (ok_l_take T) (by decide) rm) ⟨T.b_len, by decide +kernel⟩ ⟨T.b_int, by decide +kernel⟩ ⟨T.b_tuple, by decide +kernel⟩ ⟨T.b_range, by decide +kernel⟩ (T.d_l_pick.cal (ok_l_pick T) (by decide) rm))
theorem ok_l_bad_name (T : Wd P K mg) : FnOk P w K mg base CX0 5 T.d_l_bad_name.a T.d_l_bad_name.fd ["_law_store_here"] (spOf K S_l_bad_name) :=
  fn_ok T.d_l_bad_name.F sc_l_bad_name sb_l_bad_name (.inl rfl) (by rintro ps Post ⟨rfl, _⟩ <;> exact ⟨rfl, rfl⟩) (fun X c e => by obtain ⟨rfl, rfl, rfl, rfl, rfl, rm⟩ := e; exact bd_l_bad_name (T.d_l_names.cal (ok_l_names T) (by decide) rm) (T.d_l_take.cal (ok_l_take T) (by decide) rm) (T.d_l_pick.cal (ok_l_pick T) (by decide) rm) ⟨T.b_len, by decide +kernel⟩)
theorem ok_l_miskind (T : Wd P K mg) : FnOk P w K mg base CX0 4 T.d_l_miskind.a T.d_l_miskind.fd ["_law_store_here", "_law_value"] (spOf K S_l_miskind) :=
  fn_ok T.d_l_miskind.F sc_l_miskind sb_l_miskind (.inl rfl) (by rintro ps Post ⟨k, x, L, rfl, _⟩ <;> exact ⟨rfl, rfl⟩) (fun X c e => by obtain ⟨rfl, rfl, rfl, rfl, rfl, rm⟩ := e; exact bd_l_miskind (T.d_l_pick.cal (ok_l_pick T) (by decide) rm) ⟨T.b_isinstance, by decide +kernel⟩ ⟨T.b_bool, by decide +kernel⟩ ⟨T.b_int, by decide +kernel⟩ ⟨T.b_str, by decide +kernel⟩ ⟨T.b_list, by decide +kernel⟩ ⟨T.b_tuple, by decide +kernel⟩)
theorem ok_l_altered (T : Wd P K mg) : FnOk P w K mg base CX0 7 T.d_l_altered.a T.d_l_altered.fd ["_law_store_here", "_law_value"] (spOf K S_l_altered) :=
  fn_ok T.d_l_altered.F sc_l_altered sb_l_altered (.inr rfl) (by rintro ps Post ⟨k, x, L, rfl, _⟩ <;> exact ⟨rfl, rfl⟩) (fun X c e => by obtain ⟨rfl, rfl, rfl, rfl, rfl, rm⟩ := e; exact bd_l_altered ⟨T.b_isinstance, by decide +kernel⟩ ⟨T.b_bool, by decide +kernel⟩ ⟨T.b_int, by decide +kernel⟩ (T.d_l_pick.cal (ok_l_pick T) (by decide) rm) ⟨T.b_str, by decide +kernel⟩ ⟨T.b_dict, by decide +kernel⟩ (T.d_l_copy.cal (ok_l_copy T) (by decide) rm) ⟨T.b_list, by decide +kernel⟩ ⟨T.b_len, by decide +kernel⟩ (T.d_l_take.cal (ok_l_take T) (by decide) rm) ⟨T.b_range, by decide +kernel⟩ ⟨T.b_tuple, by decide +kernel⟩)
theorem okr_l_bent (T : Wd P K mg) : ∀ j, FnOk P w K mg base CX0 (7 + j + 1) T.d_l_bent.a T.d_l_bent.fd ["_law_store_here", "_law_value", "_law_only_kind"] (spOf K (ST_bentV j))
  | 0 => by
    exact fn_ok (n := n_l_bent (0)) T.d_l_bent.F sc_l_bent (sb_l_bent.k _) (.inl rfl) (by rintro ps Post ⟨x, L, b, rfl, _⟩; exact ⟨rfl, rfl⟩) (fun X c e => by obtain ⟨rfl, rfl, rfl, rfl, rfl, rm⟩ := e; exact bd_l_bent (0) ⟨T.b_isinstance, by decide +kernel⟩ ⟨T.b_list, by decide +kernel⟩ ⟨T.b_tuple, by decide +kernel⟩ ⟨T.b_dict, by decide +kernel⟩ ⟨T.b_len, by decide +kernel⟩ (T.d_l_take.cal (ok_l_take T) (Nat.le_trans (by decide) (Nat.le_add_right 7 _)) rm) (T.d_l_copy.cal (ok_l_copy T) (Nat.le_trans (by decide) (Nat.le_add_right 7 _)) rm) (T.d_l_pick.cal (ok_l_pick T) (Nat.le_trans (by decide) (Nat.le_add_right 7 _)) rm) (T.d_l_miskind.cal (ok_l_miskind T) (Nat.le_trans (by decide) (Nat.le_add_right 7 _)) rm) (T.d_l_altered.cal (ok_l_altered T) (Nat.le_trans (by decide) (Nat.le_add_right 7 _)) rm) (fun i e => by cases e))
  | j + 1 => by
    have rc := okr_l_bent T j
    exact fn_ok (n := n_l_bent (j + 1)) T.d_l_bent.F sc_l_bent (sb_l_bent.k _) (.inl rfl) (by rintro ps Post ⟨x, L, b, rfl, _⟩; exact ⟨rfl, rfl⟩) (fun X c e => by obtain ⟨rfl, rfl, rfl, rfl, rfl, rm⟩ := e; exact bd_l_bent (j + 1) ⟨T.b_isinstance, by decide +kernel⟩ ⟨T.b_list, by decide +kernel⟩ ⟨T.b_tuple, by decide +kernel⟩ ⟨T.b_dict, by decide +kernel⟩ ⟨T.b_len, by decide +kernel⟩ (T.d_l_take.cal (ok_l_take T) (Nat.le_trans (by decide) (Nat.le_add_right 7 _)) rm) (T.d_l_copy.cal (ok_l_copy T) (Nat.le_trans (by decide) (Nat.le_add_right 7 _)) rm) (T.d_l_pick.cal (ok_l_pick T) (Nat.le_trans (by decide) (Nat.le_add_right 7 _)) rm) (T.d_l_miskind.cal (ok_l_miskind T) (Nat.le_trans (by decide) (Nat.le_add_right 7 _)) rm) (T.d_l_altered.cal (ok_l_altered T) (Nat.le_trans (by decide) (Nat.le_add_right 7 _)) rm) (fun i e => by cases e; exact T.d_l_bent.cal rc (Nat.le_refl _) rm))
theorem ok_l_bent (T : Wd P K mg) : FnOk P w K mg base CX0 11 T.d_l_bent.a T.d_l_bent.fd ["_law_store_here", "_law_value", "_law_only_kind"] (spOf K S_l_bent) := okr_l_bent T 3
theorem ok_l_no_entries (T : Wd P K mg) : FnOk P w K mg base CX0 12 T.d_l_no_entries.a T.d_l_no_entries.fd ["_law_store_here", "_law_entry"] (spOf K S_l_no_entries) :=
  fn_ok T.d_l_no_entries.F sc_l_no_entries sb_l_no_entries (.inl rfl) (by rintro ps Post ⟨a, cc, cs, s, rfl, _⟩ <;> exact ⟨rfl, rfl⟩) (fun X c e => by obtain ⟨rfl, rfl, rfl, rfl, rfl, rm⟩ := e; exact bd_l_no_entries (T.d_l_take.cal (ok_l_take T) (by decide) rm) ⟨T.b_len, by decide +kernel⟩ (T.d_l_pick.cal (ok_l_pick T) (by decide) rm) ⟨T.b_list, by decide +kernel⟩ (T.d_l_bad_name.cal (ok_l_bad_name T) (by decide) rm) (T.d_l_bent.cal (ok_l_bent T) (by decide) rm))
theorem ok_law (T : Wd P K mg) : FnOk P w K mg base CX0 13 T.d_law.a T.d_law.fd ["_law_script"] (spOf K S_law) :=
  fn_ok T.d_law.F sc_law sb_law (.inl rfl) (by rintro ps Post ⟨ns0, rfl, _⟩ <;> exact ⟨rfl, rfl⟩) (fun X c e => by obtain ⟨rfl, rfl, rfl, rfl, rfl, rm⟩ := e; exact bd_law (T.d_l_store.cal (ok_l_store T) (by decide) rm) (T.d_l_secret.cal (ok_l_secret T) (by decide) rm) (T.d_l_names.cal (ok_l_names T) (by decide) rm) (T.d_l_size.cal (ok_l_size T) (by decide) rm) (T.d_l_cells.cal (ok_l_cells T) (by decide) rm) (T.d_l_pick.cal (ok_l_pick T) (by decide) rm) (T.d_l_power_seal.cal (ok_l_power_seal T) (by decide) rm) (T.d_l_same.cal (ok_l_same T) (by decide) rm) (T.d_p_seal_of.cal (ok_p_seal_of T) (by decide) rm) ⟨T.g_MODULUS⟩ (T.d_p_sealed_entry.cal (ok_p_sealed_entry T) (by decide) rm) (T.d_l_judged.cal (ok_l_judged T) (by decide) rm) (T.d_p_is_sealed.cal (ok_p_is_sealed T) (by decide) rm) ⟨T.b_range, by decide +kernel⟩ (T.d_l_changed.cal (ok_l_changed T) (by decide) rm) (T.d_l_no_entries.cal (ok_l_no_entries T) (by decide) rm) (T.d_l_bent.cal (ok_l_bent T) (by decide) rm) (T.d_l_take.cal (ok_l_take T) (by decide) rm) ⟨T.b_len, by decide +kernel⟩)
theorem head {fa : Addr} (hm : mg "law" = some (.ref fa)) (T : Wd P K mg) : ∃ fd : FuncData, (∀ (s : Shared) (v : Value), BindsTo s fd ⟨[v], []⟩ [("_law_script", v)]) ∧ ∀ base : Heap, K.In base → base.Ns mainGlobals mg → FnOk P w K mg base CX0 13 fa fd ["_law_script"] (spOf K S_law) := law_end T.d_law hm fun base => ok_law T
end

/-! ### the head: what it looks at, the run -/
def fx0 : List Fx := [.fa (.glo "_law_store"), .fa (.glo "_law_feed"), .fa (.glo "_law_mixed"), .fa (.glo "_law_take"), .fa (.glo "_law_pick"), .fa (.glo "_law_secret"), .fa (.glo "_law_names"), .fa (.glo "_law_size"), .fa (.glo "_law_cells"), .fa (.glo "_law_power_seal")]
def fx1 : List Fx := [.fa (.glo "_law_is_int"), .fa (.glo "_law_same"), .fa (.glo "seal_of"), .fa (.glo "sealed_entry"), .fa (.glo "_law_copy"), .fa (.glo "is_name"), .fa (.glo "is_whole"), .fa (.glo "is_cell"), .fa (.glo "is_entry"), .fa (.glo "is_sealed")]
def fx2 : List Fx := [.fa (.glo "_law_is_name"), .fa (.glo "_law_is_cell"), .fa (.glo "_law_is_entry"), .fa (.glo "_law_judged"), .fa (.glo "_law_changed"), .fa (.glo "_law_bad_name"), .fa (.glo "_law_miskind"), .fa (.glo "_law_altered"), .fa (.glo "_law_bent"), .fa (.glo "_law_no_entries")]
def fx3 : List Fx := [.fa (.glo "law"), .fa (.free "list"), .fa (.free "int"), .fa (.free "abs"), .fa (.free "max"), .fa (.free "len"), .fa (.free "range"), .fa (.free "str"), .fa (.free "tuple"), .fa (.free "isinstance")]
def fx4 : List Fx := [.fa (.free "bool"), .fa (.free "dict"), .ci "MODULUS" 2147483647, .ct "LETTERS" "abcdefghijklmnopqrstuvwxyz", .ct "DIGITS" "0123456789"]
def fx : List Fx := fx0 ++ fx1 ++ fx2 ++ fx3 ++ fx4
def fnl0 : List He.FnD := [⟨("_law_store", none), "_law_store", "_law_store", defArgs s_l_store, defBody s_l_store, defScope s_l_store⟩, ⟨("_law_feed", none), "_law_feed", "_law_feed", defArgs s_l_feed, defBody s_l_feed, defScope s_l_feed⟩, ⟨("_law_mixed", none), "_law_mixed", "_law_mixed", defArgs s_l_mixed, defBody s_l_mixed, defScope s_l_mixed⟩, ⟨("_law_take", none), "_law_take", "_law_take", defArgs s_l_take, defBody s_l_take, defScope s_l_take⟩, ⟨("_law_pick", none), "_law_pick", "_law_pick", defArgs s_l_pick, defBody s_l_pick, defScope s_l_pick⟩]
def fnl1 : List He.FnD := [⟨("_law_secret", none), "_law_secret", "_law_secret", defArgs s_l_secret, defBody s_l_secret, defScope s_l_secret⟩, ⟨("_law_names", none), "_law_names", "_law_names", defArgs s_l_names, defBody s_l_names, defScope s_l_names⟩, ⟨("_law_size", none), "_law_size", "_law_size", defArgs s_l_size, defBody s_l_size, defScope s_l_size⟩, ⟨("_law_cells", none), "_law_cells", "_law_cells", defArgs s_l_cells, defBody s_l_cells, defScope s_l_cells⟩, ⟨("_law_power_seal", none), "_law_power_seal", "_law_power_seal", defArgs s_l_power_seal, defBody s_l_power_seal, defScope s_l_power_seal⟩]
def fnl2 : List He.FnD := [⟨("_law_is_int", none), "_law_is_int", "_law_is_int", defArgs s_l_is_int, defBody s_l_is_int, defScope s_l_is_int⟩, ⟨("_law_same", none), "_law_same", "_law_same", defArgs s_l_same, defBody s_l_same, defScope s_l_same⟩, ⟨("seal_of", none), "seal_of", "seal_of", defArgs s_p_seal_of, defBody s_p_seal_of, defScope s_p_seal_of⟩, ⟨("sealed_entry", none), "sealed_entry", "sealed_entry", defArgs s_p_sealed_entry, defBody s_p_sealed_entry, defScope s_p_sealed_entry⟩, ⟨("_law_copy", none), "_law_copy", "_law_copy", defArgs s_l_copy, defBody s_l_copy, defScope s_l_copy⟩]
def fnl3 : List He.FnD := [⟨("is_name", none), "is_name", "is_name", defArgs s_p_is_name, defBody s_p_is_name, defScope s_p_is_name⟩, ⟨("is_whole", none), "is_whole", "is_whole", defArgs s_p_is_whole, defBody s_p_is_whole, defScope s_p_is_whole⟩, ⟨("is_cell", none), "is_cell", "is_cell", defArgs s_p_is_cell, defBody s_p_is_cell, defScope s_p_is_cell⟩, ⟨("is_entry", none), "is_entry", "is_entry", defArgs s_p_is_entry, defBody s_p_is_entry, defScope s_p_is_entry⟩, ⟨("is_sealed", none), "is_sealed", "is_sealed", defArgs s_p_is_sealed, defBody s_p_is_sealed, defScope s_p_is_sealed⟩]
def fnl4 : List He.FnD := [⟨("_law_is_name", none), "_law_is_name", "_law_is_name", defArgs s_l_is_name, defBody s_l_is_name, defScope s_l_is_name⟩, ⟨("_law_is_cell", none), "_law_is_cell", "_law_is_cell", defArgs s_l_is_cell, defBody s_l_is_cell, defScope s_l_is_cell⟩, ⟨("_law_is_entry", none), "_law_is_entry", "_law_is_entry", defArgs s_l_is_entry, defBody s_l_is_entry, defScope s_l_is_entry⟩, ⟨("_law_judged", none), "_law_judged", "_law_judged", defArgs s_l_judged, defBody s_l_judged, defScope s_l_judged⟩, ⟨("_law_changed", none), "_law_changed", "_law_changed", defArgs s_l_changed, defBody s_l_changed, defScope s_l_changed⟩]
def fnl5 : List He.FnD := [⟨("_law_bad_name", none), "_law_bad_name", "_law_bad_name", defArgs s_l_bad_name, defBody s_l_bad_name, defScope s_l_bad_name⟩, ⟨("_law_miskind", none), "_law_miskind", "_law_miskind", defArgs s_l_miskind, defBody s_l_miskind, defScope s_l_miskind⟩, ⟨("_law_altered", none), "_law_altered", "_law_altered", defArgs s_l_altered, defBody s_l_altered, defScope s_l_altered⟩, ⟨("_law_bent", none), "_law_bent", "_law_bent", defArgs s_l_bent, defBody s_l_bent, defScope s_l_bent⟩, ⟨("_law_no_entries", none), "_law_no_entries", "_law_no_entries", defArgs s_l_no_entries, defBody s_l_no_entries, defScope s_l_no_entries⟩]
def fnl6 : List He.FnD := [⟨("law", none), "law", "law", defArgs s_law, defBody s_law, defScope s_law⟩]
def fnl : List He.FnD := fnl0 ++ fnl1 ++ fnl2 ++ fnl3 ++ fnl4 ++ fnl5 ++ fnl6
def exl : List InD := []
def nmt0 : List PySem.Str := ["_law_store", "_law_feed", "_law_mixed", "_law_take", "_law_pick", "_law_secret", "_law_names", "_law_size", "_law_cells", "_law_power_seal", "_law_is_int", "_law_same"]
def nmt1 : List PySem.Str := ["seal_of", "sealed_entry", "_law_copy", "is_name", "is_whole", "is_cell", "is_entry", "is_sealed", "_law_is_name", "_law_is_cell", "_law_is_entry", "_law_judged"]
def nmt2 : List PySem.Str := ["_law_changed", "_law_bad_name", "_law_miskind", "_law_altered", "_law_bent", "_law_no_entries", "law", "MODULUS", "LETTERS", "DIGITS"]
def nmt : List PySem.Str := nmt0 ++ nmt1 ++ nmt2
def tp : TopD := ⟨PySem.Challenge.pw_clockverdict_k47_changed_entries.main.file, nmt, fx, fnl, exl⟩
def nms0 : List PySem.Str := ["is_whole", "MODULUS", "LETTERS", "DIGITS", "seal_of", "sealed_entry", "is_name", "is_cell", "is_entry", "is_sealed", "_law_store", "_law_feed"]
def nms1 : List PySem.Str := ["_law_mixed", "_law_take", "_law_pick", "_law_size", "_law_is_int", "_law_same", "_law_copy", "_law_miskind", "_law_altered", "_law_bent", "_law_names", "_law_bad_name"]
def nms2 : List PySem.Str := ["_law_is_name", "_law_secret", "_law_cells", "_law_changed", "_law_power_seal", "_law_is_cell", "_law_is_entry", "_law_judged", "_law_no_entries"]
def nms : List PySem.Str := nms0 ++ nms1 ++ nms2
abbrev Rw : PySem.W.OpenRow := PySem.W.OpenLaw.row PySem.Challenge.rw_clockverdict_k47_changed_entries
abbrev hk : PySem.W.Hook := hookX tp
def ob (s : PySem.W.SharedT) : AlX := obsXG tp (HandSHeadRun.getT s)
theorem ob_eq (s : PySem.W.SharedT) : ob s = hk.obs s.abs := obsXG_eq (HandSHeadRun.getT_eq s)
set_option maxHeartbeats 0 in
open PySem.W PySem.Calls PyProof.Rows in
theorem run0 (w : World) (os : PySem.OsState) : (endS Rw 20000 w os).map (lookS Rw (PySem.W.view Rw.prog [36]) nms w) = some (true, openGood (PySem.W.view Rw.prog [36]) nms) := by kernel_rfl
set_option maxHeartbeats 0 in
open PySem.W PySem.Calls PyProof.Rows in
theorem runB (w : World) (os : PySem.OsState) : (endS Rw 20000 w os).map (fun s => (obFx tp tp.fx s, obFn tp tp.fn s, obEx tp tp.ex s)) = some (true, (true, tp.fn.map He.FnD.val), (true, tp.ex.map InD.val)) := by kernel_rfl
theorem run (w : World) : HandSHeadRun.RunEq Rw (PySem.W.view Rw.prog [36]) hk ob 20000 nms w := run_split (fA := []) (fB := tp.fx) rfl (run0 w) (run_nil (run0 w)) (runB w)
set_option maxHeartbeats 0 in
theorem facts {K : PySem.W.Frag} {h : Heap} {mg : Str → Option Value} (X : K.In h) (G : h.Ns mainGlobals mg) (c : SaysX tp K) : Nonempty (Wd PySem.Challenge.pw_clockverdict_k47_changed_entries K mg) := by
  exact ⟨Wd.mk (d_l_store := defX X G (c.def_ 0) (c.fact 0) (fun _ _ _ _ _ _ us hl => match us, hl with | [_], _ => rfl))
    (d_l_feed := defX X G (c.def_ 1) (c.fact 1) (fun _ _ _ _ _ _ us hl => match us, hl with | [_], _ => rfl))
    (d_l_mixed := defX X G (c.def_ 2) (c.fact 2) (fun _ _ _ _ _ _ us hl => match us, hl with | [_], _ => rfl))
    (d_l_take := defX X G (c.def_ 3) (c.fact 3) (fun _ _ _ _ _ _ us hl => match us, hl with | [_, _], _ => rfl))
    (d_l_pick := defX X G (c.def_ 4) (c.fact 4) (fun _ _ _ _ _ _ us hl => match us, hl with | [_, _], _ => rfl))
    (d_l_secret := defX X G (c.def_ 5) (c.fact 5) (fun _ _ _ _ _ _ us hl => match us, hl with | [_], _ => rfl))
    (d_l_names := defX X G (c.def_ 6) (c.fact 6) (fun _ _ _ _ _ _ us hl => match us, hl with | [_, _], _ => rfl))
    (d_l_size := defX X G (c.def_ 7) (c.fact 7) (fun _ _ _ _ _ _ us hl => match us, hl with | [_, _, _], _ => rfl))
    (d_l_cells := defX X G (c.def_ 8) (c.fact 8) (fun _ _ _ _ _ _ us hl => match us, hl with | [_, _], _ => rfl))
    (d_l_power_seal := defX X G (c.def_ 9) (c.fact 9) (fun _ _ _ _ _ _ us hl => match us, hl with | [_, _, _], _ => rfl))
    (d_l_is_int := defX X G (c.def_ 10) (c.fact 10) (fun _ _ _ _ _ _ us hl => match us, hl with | [_], _ => rfl))
    (d_l_same := defX X G (c.def_ 11) (c.fact 11) (fun _ _ _ _ _ _ us hl => match us, hl with | [_, _], _ => rfl))
    (d_p_seal_of := defX X G (c.def_ 12) (c.fact 12) (fun _ _ _ _ _ _ us hl => match us, hl with | [_, _, _], _ => rfl))
    (d_p_sealed_entry := defX X G (c.def_ 13) (c.fact 13) (fun _ _ _ _ _ _ us hl => match us, hl with | [_, _, _, _], _ => rfl))
    (d_l_copy := defX X G (c.def_ 14) (c.fact 14) (fun _ _ _ _ _ _ us hl => match us, hl with | [_], _ => rfl))
    (d_p_is_name := defX X G (c.def_ 15) (c.fact 15) (fun _ _ _ _ _ _ us hl => match us, hl with | [_], _ => rfl))
    (d_p_is_whole := defX X G (c.def_ 16) (c.fact 16) (fun _ _ _ _ _ _ us hl => match us, hl with | [_], _ => rfl))
    (d_p_is_cell := defX X G (c.def_ 17) (c.fact 17) (fun _ _ _ _ _ _ us hl => match us, hl with | [_], _ => rfl))
    (d_p_is_entry := defX X G (c.def_ 18) (c.fact 18) (fun _ _ _ _ _ _ us hl => match us, hl with | [_], _ => rfl))
    (d_p_is_sealed := defX X G (c.def_ 19) (c.fact 19) (fun _ _ _ _ _ _ us hl => match us, hl with | [_, _], _ => rfl))
    (d_l_is_name := defX X G (c.def_ 20) (c.fact 20) (fun _ _ _ _ _ _ us hl => match us, hl with | [_], _ => rfl))
    (d_l_is_cell := defX X G (c.def_ 21) (c.fact 21) (fun _ _ _ _ _ _ us hl => match us, hl with | [_], _ => rfl))
    (d_l_is_entry := defX X G (c.def_ 22) (c.fact 22) (fun _ _ _ _ _ _ us hl => match us, hl with | [_, _], _ => rfl))
    (d_l_judged := defX X G (c.def_ 23) (c.fact 23) (fun _ _ _ _ _ _ us hl => match us, hl with | [_, _], _ => rfl))
    (d_l_changed := defX X G (c.def_ 24) (c.fact 24) (fun _ _ _ _ _ _ us hl => match us, hl with | [_, _], _ => rfl))
    (d_l_bad_name := defX X G (c.def_ 25) (c.fact 25) (fun _ _ _ _ _ _ us hl => match us, hl with | [_], _ => rfl))
    (d_l_miskind := defX X G (c.def_ 26) (c.fact 26) (fun _ _ _ _ _ _ us hl => match us, hl with | [_, _], _ => rfl))
    (d_l_altered := defX X G (c.def_ 27) (c.fact 27) (fun _ _ _ _ _ _ us hl => match us, hl with | [_, _], _ => rfl))
    (d_l_bent := defX X G (c.def_ 28) (c.fact 28) (fun _ _ _ _ _ _ us hl => match us, hl with | [_, _, _], _ => rfl))
    (d_l_no_entries := defX X G (c.def_ 29) (c.fact 29) (fun _ _ _ _ _ _ us hl => match us, hl with | [_, _], _ => rfl))
    (d_law := defX X G (c.def_ 30) (c.fact 30) (fun _ _ _ _ _ _ us hl => match us, hl with | [_], _ => rfl))
    (b_list := fx_free X G (c.fact 31))
    (b_int := fx_free X G (c.fact 32))
    (b_abs := fx_free X G (c.fact 33))
    (b_max := fx_free X G (c.fact 34))
    (b_len := fx_free X G (c.fact 35))
    (b_range := fx_free X G (c.fact 36))
    (b_str := fx_free X G (c.fact 37))
    (b_tuple := fx_free X G (c.fact 38))
    (b_isinstance := fx_free X G (c.fact 39))
    (b_bool := fx_free X G (c.fact 40))
    (b_dict := fx_free X G (c.fact 41))
    (g_MODULUS := fx_ci X G (c.fact 42))
    (g_LETTERS := fx_ct X G (c.fact 43))
    (g_DIGITS := fx_ct X G (c.fact 44))⟩
end Lw
end

open PySem PySem.W PySem.Calls PyProof.Rows in
set_option maxRecDepth 100000 in
set_option maxHeartbeats 0 in
theorem PySem.Challenge.cw_clockverdict_k47_changed_entries_holds : PySem.Challenge.rw_clockverdict_k47_changed_entries.Holds := by
  w_on; o_law
  refine HandSHeadRun.head_any (r := OpenLaw.row PySem.Challenge.rw_clockverdict_k47_changed_entries) (q := view (PySem.W.OpenLaw.row PySem.Challenge.rw_clockverdict_k47_changed_entries).prog [36]) (H := Lw.hk) (ob := Lw.ob) (M := 20000) (loose := Lw.nms) (d := HandSHeadRun.topDef (PySem.W.OpenLaw.row PySem.Challenge.rw_clockverdict_k47_changed_entries).prog 36) (kwd := []) Lw.ob_eq
    (by kernel_rfl) (fun s => by kernel_rfl) Lw.run (by kernel_rfl) (by kernel_rfl) (by kernel_rfl) (by rfl) (by first | assumption | decide +kernel) (by decide +kernel) ⟨rfl, rfl, rfl, rfl, rfl, by decide +kernel⟩ ?hw ?hc
  case hw => w_witness2
  case hc =>
    refine L2.walk_ofE (l := PySem.Challenge.rw_clockverdict_k47_changed_entries) (n := 63) (k := 13) (x := "_law_script") (CX := L2.CX0) rfl (by decide) (by kernel_rfl) ⟨rfl, by decide, by decide⟩ ?F (fun _ _ _ _ z => z)
    intro w mg fa h Y G hmg0
    obtain ⟨K, KX, c⟩ := Y
    have hmg : mg ("law" : PySem.Str) = some (.ref fa) := by
      have e : (HandSHeadRun.topDef (PySem.W.OpenLaw.row PySem.Challenge.rw_clockverdict_k47_changed_entries).prog 36).name = ("law" : PySem.Str) := by kernel_rfl
      rw [← e]
      exact hmg0
    obtain ⟨T⟩ := Lw.facts KX G c
    obtain ⟨fd, hb, hF⟩ := Lw.head (w := w) hmg T
    exact ⟨K, fd, DL.spOf K Lw.S_law, KX, hb, fun H a ns hl ho hS => DL.sp_law (fun ns h => ⟨ns, rfl, h, rfl⟩) K H a ns hl ho hS, hF⟩

