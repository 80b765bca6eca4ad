import PyProof.Rows.All
import PyProof.Rows.TupTab
import Wide.All
import OpenK.AllK
import Wide.FinOn
import HandS.ForMost
import HandS.Exc
import HandS.ExcInit
import HandS.ExcField
import HandS.ExcIs
import HandS.TryOnly
import HandS.WordsExc
import HandS.IsInst
import HandS.Wide
import HandS.WideMore
import HandS.Walk
import HandS.Zip
import HandS.Style
import HandS.RaiseMore
import HandS.Deep
import HandS.Defaults
import HandS.HeadHook2
import KE.KOpsOwn
import HandS.NoneIn
import HandS.Property
import HandS.ClsMeth
import HandS.SlotsOwn
import HandS.Ends
import HandS.HeadEnd
import HandS.HeadHook4
import HandS.Head2
import KE.KExcIs
import PyProof.CallFns
import PyProof.ReprRoads
import HandS.HeadNt
import HandS.Spec
import HandS.Head0
import HandS.Head1
import PyProof.InstNe
import HandS.OwnEq
import HandS.HotCalls
import PyProof.NeKinds
import HandS.Star
import HandS.SetFor
import KE.DataFind
import OpenK.KMake
import HandS.SortInts
import PySem.Challenge.RW_filledonce_k02_directions
import HandS.GenList
import HandS.MakeKwOnly
import HandS.Iter
import HandS.TupLe
import HandS.TupAny
import KE.KStateDown
import Lean
set_option Elab.async false
set_option linter.all false
set_option maxRecDepth 100000
set_option maxHeartbeats 4000000
set_option autoImplicit false
/-! The value layer: data in place of the heap. -/
namespace DL
open PySem PySem.Spec PyProof.Rows L2

/-- a datum: what a value is worth -/
inductive D where
  | non | bl (b : Bool) | int (i : Int) | str (s : Str)
  | tup (ds : List D) | lst (ds : List D)
  /-- a list that is known to the object (the script) -/
  | frl (ds : List D)
  /-- an instance that is not changed any more: its class, its attributes' names and values -/
  | obj (c : Str) (ks : List Str) (ds : List D)
  /-- a changeable thing, by its number -/
  | loc (n : Nat)
  | ty (n : String) | cls (c : Str)
  /-- any tracked thing -/
  | opq (o : HO)
/-- a changeable thing -/
inductive Cell where
  | lst (ds : List D)
  | ins (c : Str) (ks : List Str) (ds : List D)
  /-- a pool of draws -/
  | pool
  /-- a dict from ints to ints -/
  | dct (kvs : List (Int × Int))
/-- a slot: empty, a datum, or a thing of the def's own that is being filled -/
inductive Sl where
  | no | v (d : D) | own (a : Addr) (c : Cell)
  /-- the exception that a suite holds -/
  | exn (c : Str) (ks : List Str) (ds : List D)
structure Gx where
  K : PySem.W.Frag
  mg : Str → Option Value
  ex : Option (Addr × Addr × Addr)
def PoolOk (p q : Int) : Prop := 0 ≤ p ∧ 0 ≤ q ∧ q < 2147483647

mutual
def Rep (G : Gx) (m : List Addr) (E : Hp) : D → V → Prop
  | .non, v => v = .non
  | .bl b, v => v = .bl b
  | .int i, v => v = .int i
  | .str s, v => v = .str s
  | .ty n, v => v = .ty n
  | .cls c, v => ∃ C, G.mg c = some (.ref C) ∧ v = .ref C
  | .tup ds, v => ∃ a vs, v = .ref a ∧ SqT G.K E a vs ∧ Reps G m E ds vs
  | .lst ds, v => ∃ a vs, v = .ref a ∧ E a = some (.lst vs) ∧ Reps G m E ds vs
  | .frl ds, v => ∃ a vs, v = .ref a ∧ SqL G.K E a vs ∧ Reps G m E ds vs
  | .obj c ks ds, v => ∃ a C dx vs, v = .ref a ∧ G.mg c = some (.ref C) ∧ E a = some (.ins C dx (ks.zip vs)) ∧ ks.length = ds.length ∧ Reps G m E ds vs
  | .loc n, v => ∃ a, v = .ref a ∧ m[n]? = some a
  | .opq o, v => ∃ a, v = .ref a ∧ E a = some o
def Reps (G : Gx) (m : List Addr) (E : Hp) : List D → List V → Prop
  | [], vs => vs = []
  | d :: ds, vs => ∃ v r, vs = v :: r ∧ Rep G m E d v ∧ Reps G m E ds r
end

theorem SqT.same {K : PySem.W.Frag} {H H' : Hp} {a : Addr} {xs : List V} (e : Same H H') (h : SqT K H a xs) : SqT K H' a xs := by
  rcases h with (h | ⟨o, h⟩) | h
  · exact .inl (.inl (e _ _ h))
  · exact .inl (.inr ⟨o, e _ _ h⟩)
  · exact .inr h
theorem pre_get {m m' : List Addr} {n : Nat} {a : Addr} (hp : m <+: m') (h : m[n]? = some a) : m'[n]? = some a := by
  obtain ⟨e, rfl⟩ := hp
  obtain ⟨hl, _⟩ := List.getElem?_eq_some_iff.mp h
  rw [List.getElem?_append_left hl]
  exact h
mutual
theorem Rep.mono {G : Gx} {m m' : List Addr} {E E' : Hp} (hp : m <+: m') (he : Same E E') : ∀ (d : D) (v : V), Rep G m E d v → Rep G m' E' d v
  | .non, v, r => by rw [Rep] at r ⊢; exact r
  | .bl b, v, r => by rw [Rep] at r ⊢; exact r
  | .int i, v, r => by rw [Rep] at r ⊢; exact r
  | .str s, v, r => by rw [Rep] at r ⊢; exact r
  | .ty n, v, r => by rw [Rep] at r ⊢; exact r
  | .cls c, v, r => by rw [Rep] at r ⊢; exact r
  | .tup ds, v, r => by
    rw [Rep] at r ⊢
    obtain ⟨a, vs, e, s, q⟩ := r
    exact ⟨a, vs, e, SqT.same he s, Reps.mono hp he _ _ q⟩
  | .lst ds, v, r => by
    rw [Rep] at r ⊢
    obtain ⟨a, vs, e, s, q⟩ := r
    exact ⟨a, vs, e, he _ _ s, Reps.mono hp he _ _ q⟩
  | .frl ds, v, r => by
    rw [Rep] at r ⊢
    obtain ⟨a, vs, e, s, q⟩ := r
    exact ⟨a, vs, e, Same.seq he s, Reps.mono hp he _ _ q⟩
  | .obj c ks ds, v, r => by
    rw [Rep] at r ⊢
    obtain ⟨a, C, dx, vs, e, g, s, l, q⟩ := r
    exact ⟨a, C, dx, vs, e, g, he _ _ s, l, Reps.mono hp he _ _ q⟩
  | .loc n, v, r => by
    rw [Rep] at r ⊢
    obtain ⟨a, e, s⟩ := r
    exact ⟨a, e, pre_get hp s⟩
  | .opq o, v, r => by
    rw [Rep] at r ⊢
    obtain ⟨a, e, s⟩ := r
    exact ⟨a, e, he _ _ s⟩
theorem Reps.mono {G : Gx} {m m' : List Addr} {E E' : Hp} (hp : m <+: m') (he : Same E E') : ∀ (ds : List D) (vs : List V), Reps G m E ds vs → Reps G m' E' ds vs
  | [], vs, r => by rw [Reps] at r ⊢; exact r
  | d :: ds, vs, r => by
    rw [Reps] at r ⊢
    obtain ⟨v, t, e, s, q⟩ := r
    exact ⟨v, t, e, Rep.mono hp he _ _ s, Reps.mono hp he _ _ q⟩
end
theorem Reps.len {G : Gx} {m : List Addr} {E : Hp} : ∀ {ds : List D} {vs : List V}, Reps G m E ds vs → ds.length = vs.length
  | [], vs, r => by rw [Reps] at r; rw [r]; rfl
  | d :: ds, vs, r => by
    rw [Reps] at r
    obtain ⟨v, t, e, _, q⟩ := r
    rw [e, List.length_cons, List.length_cons, Reps.len q]
theorem Reps.nil {G : Gx} {m : List Addr} {E : Hp} : Reps G m E [] [] := by rw [Reps]
theorem Reps.cons {G : Gx} {m : List Addr} {E : Hp} {d : D} {ds : List D} {v : V} {vs : List V} (h : Rep G m E d v) (t : Reps G m E ds vs) : Reps G m E (d :: ds) (v :: vs) := by
  rw [Reps]; exact ⟨v, vs, rfl, h, t⟩
theorem Reps.uncons {G : Gx} {m : List Addr} {E : Hp} {d : D} {ds : List D} {vs : List V} (h : Reps G m E (d :: ds) vs) : ∃ v r, vs = v :: r ∧ Rep G m E d v ∧ Reps G m E ds r := by
  rw [Reps] at h; exact h
theorem Reps.get {G : Gx} {m : List Addr} {E : Hp} : ∀ {ds : List D} {vs : List V} {i : Nat} {d : D}, Reps G m E ds vs → ds[i]? = some d → ∃ v, vs[i]? = some v ∧ Rep G m E d v
  | [], _, _, _, _, h => by simp at h
  | d0 :: ds, vs, 0, d, r, h => by
    obtain ⟨v, t, rfl, q, _⟩ := r.uncons
    simp at h; subst h
    exact ⟨v, rfl, q⟩
  | d0 :: ds, vs, i + 1, d, r, h => by
    obtain ⟨v, t, rfl, _, q⟩ := r.uncons
    obtain ⟨u, e, s⟩ := Reps.get (i := i) (d := d) q (by simpa using h)
    exact ⟨u, by simpa using e, s⟩
theorem Reps.get' {G : Gx} {m : List Addr} {E : Hp} {ds : List D} {vs : List V} {i : Nat} {v : V} (r : Reps G m E ds vs) (h : vs[i]? = some v) : ∃ d, ds[i]? = some d ∧ Rep G m E d v := by
  obtain ⟨hl, _⟩ := List.getElem?_eq_some_iff.mp h
  have hd : i < ds.length := by rw [r.len]; exact hl
  obtain ⟨u, e, s⟩ := r.get (List.getElem?_eq_getElem hd)
  rw [h] at e; cases e
  exact ⟨_, List.getElem?_eq_getElem hd, s⟩
theorem Reps.append {G : Gx} {m : List Addr} {E : Hp} : ∀ {ds es : List D} {vs us : List V}, Reps G m E ds vs → Reps G m E es us → Reps G m E (ds ++ es) (vs ++ us)
  | [], es, vs, us, r, q => by rw [Reps] at r; subst r; exact q
  | d :: ds, es, vs, us, r, q => by
    obtain ⟨v, t, rfl, h, r'⟩ := r.uncons
    exact Reps.cons h (Reps.append r' q)
theorem Reps.take {G : Gx} {m : List Addr} {E : Hp} : ∀ {ds : List D} {vs : List V} (n : Nat), Reps G m E ds vs → Reps G m E (ds.take n) (vs.take n)
  | ds, vs, 0, r => by simp [Reps]
  | [], vs, n + 1, r => by rw [Reps] at r; subst r; simp [Reps]
  | d :: ds, vs, n + 1, r => by
    obtain ⟨v, t, rfl, h, r'⟩ := r.uncons
    exact Reps.cons h (Reps.take n r')
theorem Reps.drop {G : Gx} {m : List Addr} {E : Hp} : ∀ {ds : List D} {vs : List V} (n : Nat), Reps G m E ds vs → Reps G m E (ds.drop n) (vs.drop n)
  | ds, vs, 0, r => r
  | [], vs, n + 1, r => by rw [Reps] at r; subst r; simp [Reps]
  | d :: ds, vs, n + 1, r => by
    obtain ⟨v, t, rfl, h, r'⟩ := r.uncons
    exact Reps.drop n r'
theorem Reps.set {G : Gx} {m : List Addr} {E : Hp} {d : D} {v : V} (h : Rep G m E d v) : ∀ {ds : List D} {vs : List V} (n : Nat), Reps G m E ds vs → Reps G m E (ds.set n d) (vs.set n v)
  | [], vs, n, r => by rw [Reps] at r; subst r; simp [Reps]
  | d0 :: ds, vs, 0, r => by
    obtain ⟨u, t, rfl, _, r'⟩ := r.uncons
    exact Reps.cons h r'
  | d0 :: ds, vs, n + 1, r => by
    obtain ⟨u, t, rfl, q, r'⟩ := r.uncons
    exact Reps.cons q (Reps.set h n r')
theorem Reps.eraseIdx {G : Gx} {m : List Addr} {E : Hp} : ∀ {ds : List D} {vs : List V} (n : Nat), Reps G m E ds vs → Reps G m E (ds.eraseIdx n) (vs.eraseIdx n)
  | [], vs, n, r => by rw [Reps] at r; subst r; simp [Reps]
  | d0 :: ds, vs, 0, r => by
    obtain ⟨u, t, rfl, _, r'⟩ := r.uncons
    exact r'
  | d0 :: ds, vs, n + 1, r => by
    obtain ⟨u, t, rfl, q, r'⟩ := r.uncons
    exact Reps.cons q (Reps.eraseIdx n r')
theorem Reps.reverse {G : Gx} {m : List Addr} {E : Hp} : ∀ {ds : List D} {vs : List V}, Reps G m E ds vs → Reps G m E ds.reverse vs.reverse
  | [], vs, r => by rw [Reps] at r; subst r; exact Reps.nil
  | d0 :: ds, vs, r => by
    obtain ⟨u, t, rfl, q, r'⟩ := r.uncons
    rw [List.reverse_cons, List.reverse_cons]
    exact Reps.append (Reps.reverse r') (Reps.cons q Reps.nil)
theorem Reps.map_of {G : Gx} {m : List Addr} {E : Hp} {α : Type} {f : α → D} {g : α → V} (h : ∀ x, Rep G m E (f x) (g x)) : ∀ l : List α, Reps G m E (l.map f) (l.map g)
  | [] => Reps.nil
  | x :: l => Reps.cons (h x) (Reps.map_of h l)

/-! ### what is seen of the heap: all but the hidden and the changeable -/
noncomputable def vis (W : Addr → Prop) (m : List Addr) (H : Hp) : Hp := fun b => open Classical in if W b ∨ b ∈ m then none else H b
theorem vis_some {W : Addr → Prop} {m : List Addr} {H : Hp} {b : Addr} {o : HO} : vis W m H b = some o ↔ (¬ W b ∧ b ∉ m ∧ H b = some o) := by
  unfold vis
  by_cases h : W b ∨ b ∈ m
  · rw [if_pos h]
    constructor
    · intro z; cases z
    · rintro ⟨h1, h2, _⟩
      exact absurd h (by simp [h1, h2])
  · rw [if_neg h]
    constructor
    · intro z
      exact ⟨fun q => h (.inl q), fun q => h (.inr q), z⟩
    · exact fun z => z.2.2
theorem vis_le {W : Addr → Prop} {m : List Addr} {H : Hp} : Same (vis W m H) H := fun b o h => (vis_some.mp h).2.2
def dkV (kvs : List (Int × Int)) : List (Key × V) := kvs.map fun p => (.inl p.1, .int p.2)
def CellOk (G : Gx) (m : List Addr) (E H : Hp) (c : Cell) (a : Addr) : Prop :=
  match c with
  | .lst ds => ∃ vs, H a = some (.lst vs) ∧ Reps G m E ds vs
  | .ins c ks ds => ∃ C dx vs, G.mg c = some (.ref C) ∧ H a = some (.ins C dx (ks.zip vs)) ∧ ks.length = ds.length ∧ Reps G m E ds vs
  | .pool => ∃ p q, PoolOk p q ∧ H a = some (.lst [.int p, .int q])
  | .dct kvs => H a = some (.dK (dkV kvs))
structure MuOk (G : Gx) (W : Addr → Prop) (m : List Addr) (μ : List Cell) (H : Hp) : Prop where
  len : m.length = μ.length
  nd : m.Nodup
  out : ∀ a ∈ m, ¬ W a
  hw : ∀ z, W z → H z ≠ none
  cell : ∀ (n : Nat) (c : Cell) (a : Addr), μ[n]? = some c → m[n]? = some a → CellOk G m (vis W m H) H c a
theorem CellOk.there {G : Gx} {m : List Addr} {E H : Hp} {c : Cell} {a : Addr} (h : CellOk G m E H c a) : H a ≠ none := by
  cases c with
  | lst ds => obtain ⟨_, e, _⟩ := h; rw [e]; intro z; cases z
  | ins c ks ds => obtain ⟨_, _, _, _, e, _⟩ := h; rw [e]; intro z; cases z
  | pool => obtain ⟨_, _, _, e⟩ := h; rw [e]; intro z; cases z
  | dct kvs => intro z; rw [show H a = some (.dK (dkV kvs)) from h] at z; cases z
theorem CellOk.keep {G : Gx} {m m' : List Addr} {E E' H H' : Hp} {c : Cell} {a : Addr} (hp : m <+: m') (he : Same E E') (e : H' a = H a) (h : CellOk G m E H c a) : CellOk G m' E' H' c a := by
  cases c with
  | lst ds =>
    obtain ⟨vs, h1, h2⟩ := h
    exact ⟨vs, e.trans h1, Reps.mono hp he _ _ h2⟩
  | ins c ks ds =>
    obtain ⟨C, dx, vs, h0, h1, hl, h2⟩ := h
    exact ⟨C, dx, vs, h0, e.trans h1, hl, Reps.mono hp he _ _ h2⟩
  | pool =>
    obtain ⟨p, q, h0, h1⟩ := h
    exact ⟨p, q, h0, e.trans h1⟩
  | dct kvs => exact e.trans h
theorem MuOk.mem {G : Gx} {W : Addr → Prop} {m : List Addr} {μ : List Cell} {H : Hp} (M : MuOk G W m μ H) {a : Addr} (h : a ∈ m) : H a ≠ none := by
  obtain ⟨n, hn, e⟩ := List.mem_iff_getElem.mp h
  have hn' : n < μ.length := by rw [← M.len]; exact hn
  exact (M.cell n μ[n] a (List.getElem?_eq_getElem hn') (by rw [List.getElem?_eq_getElem hn, e])).there
/-- a step of code: what was hidden stays, what was seen stays -/
structure Step (G : Gx) (W : Addr → Prop) (m : List Addr) (H : Hp) (m' : List Addr) (μ' : List Cell) (H' : Hp) : Prop where
  pre : m <+: m'
  hid : ∀ z, W z → H' z = H z
  mu : MuOk G W m' μ' H'
  same : Same (vis W m H) (vis W m' H')
theorem Step.refl {G : Gx} {W : Addr → Prop} {m : List Addr} {μ : List Cell} {H : Hp} (M : MuOk G W m μ H) : Step G W m H m μ H := ⟨List.prefix_refl _, fun _ _ => rfl, M, Same.refl _⟩
theorem Step.trans {G : Gx} {W : Addr → Prop} {m m1 m2 : List Addr} {μ1 μ2 : List Cell} {H H1 H2 : Hp} (a : Step G W m H m1 μ1 H1) (b : Step G W m1 H1 m2 μ2 H2) : Step G W m H m2 μ2 H2 :=
  ⟨a.pre.trans b.pre, fun z h => (b.hid z h).trans (a.hid z h), b.mu, a.same.trans b.same⟩
abbrev Mu := List Cell
abbrev DS := List Sl
/-- behind an expression -/
def VPost (G : Gx) (W : Addr → Prop) (m : List Addr) (H : Hp) (Q : D → Mu → Prop) (v : V) (H' : Hp) : Prop :=
  ∃ m' d μ', Step G W m H m' μ' H' ∧ Rep G m' (vis W m' H') d v ∧ Q d μ'
theorem VPost.now {G : Gx} {W : Addr → Prop} {m : List Addr} {μ : Mu} {H : Hp} {Q : D → Mu → Prop} {d : D} {v : V} (M : MuOk G W m μ H) (r : Rep G m (vis W m H) d v) (q : Q d μ) : VPost G W m H Q v H := ⟨m, d, μ, .refl M, r, q⟩
theorem VPost.from {G : Gx} {W : Addr → Prop} {m m1 : List Addr} {μ1 : Mu} {H H1 H' : Hp} {Q : D → Mu → Prop} {v : V} (s : Step G W m H m1 μ1 H1) (p : VPost G W m1 H1 Q v H') : VPost G W m H Q v H' := by
  obtain ⟨m', d, μ', s', r, q⟩ := p
  exact ⟨m', d, μ', s.trans s', r, q⟩
theorem VPost.imp {G : Gx} {W : Addr → Prop} {m : List Addr} {H H' : Hp} {Q Q' : D → Mu → Prop} {v : V} (p : VPost G W m H Q v H') (h : ∀ d μ, Q d μ → Q' d μ) : VPost G W m H Q' v H' := by
  obtain ⟨m', d, μ', s', r, q⟩ := p
  exact ⟨m', d, μ', s', r, h _ _ q⟩
/-- an exception's data: its class, its attributes -/
abbrev XD := Str → List Str → List D → Mu → Prop
def XPost (G : Gx) (W : Addr → Prop) (m : List Addr) (H : Hp) (Xd : XD) (cls : Value) (d : Option Addr) (H' : Hp) : Prop :=
  ∃ m' c ks es μ' C dd vs, Step G W m H m' μ' H' ∧ cls = .ref C ∧ d = some dd ∧ G.mg c = some (.ref C) ∧ vis W m' H' dd = some (.xd (ks.zip vs)) ∧ ks.length = es.length ∧ Reps G m' (vis W m' H') es vs ∧ Xd c ks es μ'
theorem XPost.from {G : Gx} {W : Addr → Prop} {m m1 : List Addr} {μ1 : Mu} {H H1 H' : Hp} {Xd : XD} {cls : Value} {d : Option Addr} (s : Step G W m H m1 μ1 H1) (p : XPost G W m1 H1 Xd cls d H') : XPost G W m H Xd cls d H' := by
  obtain ⟨m', c, ks, es, μ', C, dd, vs, s', r⟩ := p
  exact ⟨m', c, ks, es, μ', C, dd, vs, s.trans s', r⟩
theorem XPost.imp {G : Gx} {W : Addr → Prop} {m : List Addr} {H H' : Hp} {Xd Xd' : XD} {cls : Value} {d : Option Addr} (p : XPost G W m H Xd cls d H') (h : ∀ c ks es μ, Xd c ks es μ → Xd' c ks es μ) : XPost G W m H Xd' cls d H' := by
  obtain ⟨m', c, ks, es, μ', C, dd, vs, s', e1, e2, e3, e4, e5, e6, q⟩ := p
  exact ⟨m', c, ks, es, μ', C, dd, vs, s', e1, e2, e3, e4, e5, e6, h _ _ _ _ q⟩
/-- a new thing, seen -/
theorem MuOk.fresh {G : Gx} {W : Addr → Prop} {m : List Addr} {μ : Mu} {H : Hp} (M : MuOk G W m μ H) {p : Addr} (np : H p = none) : ¬ W p ∧ p ∉ m :=
  ⟨fun z => M.hw p z np, fun z => M.mem z np⟩
theorem vis_upd {G : Gx} {W : Addr → Prop} {m : List Addr} {μ : Mu} {H : Hp} (M : MuOk G W m μ H) {p : Addr} {o : HO} (np : H p = none) : vis W m (upd H p o) = upd (vis W m H) p o := by
  obtain ⟨h1, h2⟩ := M.fresh np
  funext b
  by_cases hb : b = p
  · subst hb
    rw [upd_same]
    exact vis_some.mpr ⟨h1, h2, upd_same⟩
  · rw [upd_ne hb]
    unfold vis
    rw [upd_ne hb]
theorem same_new {H : Hp} {p : Addr} {o : HO} (np : H p = none) : Same H (upd H p o) := fun b x e => by
  rw [upd_ne (ne_of_none e np)]; exact e
theorem vis_none {W : Addr → Prop} {m : List Addr} {H : Hp} {p : Addr} (np : H p = none) : vis W m H p = none := by
  cases e : vis W m H p with
  | none => rfl
  | some o => rw [(vis_some.mp e).2.2] at np; cases np
theorem MuOk.laid {G : Gx} {W : Addr → Prop} {m : List Addr} {μ : Mu} {H : Hp} (M : MuOk G W m μ H) {p : Addr} {o : HO} (np : H p = none) : MuOk G W m μ (upd H p o) := by
  obtain ⟨h1, h2⟩ := M.fresh np
  refine ⟨M.len, M.nd, M.out, fun z hz => ?_, fun n c a hc ha => ?_⟩
  · by_cases e : z = p
    · subst e; rw [upd_same]; intro q; cases q
    · rw [upd_ne e]; exact M.hw z hz
  · have ne : a ≠ p := fun e => h2 (e ▸ List.mem_of_getElem? ha)
    rw [vis_upd M np]
    exact (M.cell n c a hc ha).keep (List.prefix_refl _) (same_new (vis_none np)) (upd_ne ne)
theorem Step.laid {G : Gx} {W : Addr → Prop} {m : List Addr} {μ : Mu} {H : Hp} (M : MuOk G W m μ H) {p : Addr} {o : HO} (np : H p = none) : Step G W m H m μ (upd H p o) := by
  refine ⟨List.prefix_refl _, fun z hz => upd_ne fun e => ?_, M.laid np, ?_⟩
  · subst e; exact M.hw z hz np
  · rw [vis_upd M np]; exact same_new (vis_none np)

/-! ### slots -/
def ownW (Z : Addr → Prop) (σ : L2.St) (ρ : DS) (b : Addr) : Prop := Z b ∨ ∃ (i : Nat) (c : Cell), ρ[i]? = some (Sl.own b c)
def ExOk (G : Gx) (m : List Addr) (E : Hp) (o : Option (Option V)) (c : Str) (ks : List Str) (ds : List D) : Prop :=
  ∃ a C dd vs, G.ex = some (a, C, dd) ∧ G.mg c = some (.ref C) ∧ o = some (some (V.ref a)) ∧ E dd = some (.xd (ks.zip vs)) ∧ ks.length = ds.length ∧ Reps G m E ds vs
theorem ExOk.mono {G : Gx} {m m' : List Addr} {E E' : Hp} {o : Option (Option V)} {c : Str} {ks : List Str} {ds : List D} (hp : m <+: m') (he : Same E E') (h : ExOk G m E o c ks ds) : ExOk G m' E' o c ks ds := by
  obtain ⟨a, C, dd, vs, h1, h2, h3, h4, h5, h6⟩ := h
  exact ⟨a, C, dd, vs, h1, h2, h3, he _ _ h4, h5, Reps.mono hp he _ _ h6⟩
structure SR (G : Gx) (Z : Addr → Prop) (m : List Addr) (σ : L2.St) (H : Hp) (ρ : DS) (μ : Mu) : Prop where
  len : ρ.length = σ.length
  mu : MuOk G (ownW Z σ ρ) m μ H
  val : ∀ (i : Nat) d, ρ[i]? = some (Sl.v d) → ∃ v, σ[i]? = some (some v) ∧ Rep G m (vis (ownW Z σ ρ) m H) d v
  own : ∀ (i : Nat) a c, ρ[i]? = some (Sl.own a c) → σ[i]? = some (some (V.ref a)) ∧ ¬ Z a ∧ CellOk G m (vis (ownW Z σ ρ) m H) H c a
  dis : ∀ (i j : Nat) (a : Addr) c c', ρ[i]? = some (Sl.own a c) → ρ[j]? = some (Sl.own a c') → i = j
  exn : ∀ (i : Nat) c ks ds, ρ[i]? = some (Sl.exn c ks ds) → ExOk G m (vis (ownW Z σ ρ) m H) (σ[i]?) c ks ds
theorem SR.step {G : Gx} {Z : Addr → Prop} {m m' : List Addr} {σ : L2.St} {H H' : Hp} {ρ : DS} {μ μ' : Mu} (S : SR G Z m σ H ρ μ) (s : Step G (ownW Z σ ρ) m H m' μ' H') : SR G Z m' σ H' ρ μ' := by
  refine ⟨S.len, s.mu, fun i d e => ?_, fun i a c e => ?_, S.dis, fun i c ks ds e => (S.exn i c ks ds e).mono s.pre s.same⟩
  · obtain ⟨v, e1, r⟩ := S.val i d e
    exact ⟨v, e1, Rep.mono s.pre s.same _ _ r⟩
  · obtain ⟨e1, nz, r⟩ := S.own i a c e
    exact ⟨e1, nz, r.keep s.pre s.same (s.hid a (.inr ⟨i, c, e⟩))⟩

/-! ### expressions -/
abbrev WE := DS → Mu → (D → Mu → Prop) → XD → Prop
/-- a reading by data as a reading: where the state is told by data -/
def lift (G : Gx) (W : WX) (w : WE) : TE := fun σ H Q' => ∃ Z m ρ μ Q Xd, SR G Z m σ H ρ μ ∧ w ρ μ Q Xd ∧ (∀ v H', VPost G (ownW Z σ ρ) m H Q v H' → Q' v H') ∧ ∀ cls d H', XPost G (ownW Z σ ρ) m H Xd cls d H' → W cls d σ H'
abbrev gx (X : Cx) (ex : Option (Addr × Addr × Addr)) : Gx := ⟨X.K, X.mg, ex⟩
abbrev DE (ex : Option (Addr × Addr × Addr)) (W : WX) (X : Cx) (e : Expr) (w : WE) : Prop := PE X e (lift (gx X ex) W w)
theorem pe_weak {X : Cx} {e : Expr} {t t' : TE} (h : PE X e t) (k : ∀ σ H Q, t' σ H Q → t σ H Q) : PE X e t' := ⟨fun pins s σ H Q I q => h.run pins s σ H Q I (k σ H Q q)⟩
/-- a name -/
def wVar (i : Nat) : WE := fun ρ μ Q _ => match ρ[i]? with
  | some (.v d) => Q d μ
  | _ => False
def wC (d : D) : WE := fun _ μ Q _ => Q d μ
section
variable {ex : Option (Addr × Addr × Addr)} {W : WX} {X : Cx}
theorem de_name {e : Expr} {i : Nat} (h : PE X e (tVar i)) : DE ex W X e (wVar i) := pe_weak h fun σ H Q' q => by
  obtain ⟨Z, m, ρ, μ, Q, Xd, S, q, k, kx⟩ := q
  unfold wVar at q
  split at q
  · rename_i d e
    obtain ⟨v, e1, r⟩ := S.val i d e
    exact ⟨v, e1, k v H (.now S.mu r q)⟩
  · exact q.elim
theorem dv (i : Nat) {x : Str} {pos : Pos} (hN : X.N[i]? = some x := by rfl) (hv : Vis X.env.scope x := by first | exact Or.inl rfl | exact Or.inr (Or.inl rfl) | exact Or.inr (Or.inr rfl)) (hd : (x == ("__debug__" : Str)) = false := by decide)
    (hcd : (x == ("__classdict__" : Str)) = false := by decide) : DE ex W X (.Name x pos) (wVar i) := de_name (pe_var hN hv hd hcd)
theorem de_c {e : Expr} {v : V} {d : D} (h : PE X e (tC v)) (hr : ∀ m E, Rep (gx X ex) m E d v) : DE ex W X e (wC d) := pe_weak h fun σ H Q' q => by
  obtain ⟨Z, m, ρ, μ, Q, Xd, S, q, k, kx⟩ := q
  exact k v H (.now S.mu (hr _ _) q)
theorem de_int {i j pos} : DE ex W X (.Constant (.int i) j pos) (wC (.int i)) := de_c pe_int fun _ _ => by rw [Rep]
theorem de_bl {b j pos} : DE ex W X (.Constant (.bool b) j pos) (wC (.bl b)) := de_c pe_bl fun _ _ => by rw [Rep]
theorem de_non {j pos} : DE ex W X (.Constant .none j pos) (wC .non) := de_c pe_non fun _ _ => by rw [Rep]
theorem de_str {x j pos} : DE ex W X (.Constant (.str x) j pos) (wC (.str x)) := de_c pe_str fun _ _ => by rw [Rep]
/-- a class of the text, as a value -/
theorem de_cls {x : Str} {C : Addr} {pos : Pos} (hg : Gl X x) (hm : X.mg x = some (.ref C)) (hd : (x == ("__debug__" : Str)) = false := by decide) : DE ex W X (.Name x pos) (wC (.cls x)) :=
  de_c (pe_glob hg hm (v := .ref C) rfl hd) fun _ _ => by rw [Rep]; exact ⟨C, hm, rfl⟩
/-- a built-in type, as a value -/
theorem de_ty {x : Str} {T : String} {pos : Pos} (hg : Gl X x) (hm : X.mg x = none) (hv : bootBuiltins x = some (.type T)) (hn : x ≠ "__name__" := by decide) (hd : (x == ("__debug__" : Str)) = false := by decide) : DE ex W X (.Name x pos) (wC (.ty T)) :=
  de_c (pe_bltn hg hm hv (v := .ty T) rfl hn hd) fun _ _ => by rw [Rep]
end
/-! ### operations on values -/
abbrev F2 := D → D → Mu → (D → Mu → Prop) → Prop
abbrev F1 := D → Mu → (D → Mu → Prop) → Prop
abbrev FN := List D → Mu → (D → Mu → Prop) → Prop
def w2 (f : F2) (wa wb : WE) : WE := fun ρ μ Q Xd => wa ρ μ (fun x μ1 => wb ρ μ1 (fun y μ2 => f x y μ2 Q) Xd) Xd
def w1 (f : F1) (wa : WE) : WE := fun ρ μ Q Xd => wa ρ μ (fun x μ1 => f x μ1 Q) Xd
def S2 (G : Gx) (r : R2) (f : F2) : Prop := ∀ (Z : Addr → Prop) (m : List Addr) (μ : Mu) (H : Hp) (x y : D) (u v : V) (Q : D → Mu → Prop) (Q' : VK),
  MuOk G Z m μ H → Rep G m (vis Z m H) x u → Rep G m (vis Z m H) y v → f x y μ Q → (∀ z H', VPost G Z m H Q z H' → Q' z H') → r u v H Q'
def S1 (G : Gx) (r : V → Hp → VK → Prop) (f : F1) : Prop := ∀ (Z : Addr → Prop) (m : List Addr) (μ : Mu) (H : Hp) (x : D) (u : V) (Q : D → Mu → Prop) (Q' : VK),
  MuOk G Z m μ H → Rep G m (vis Z m H) x u → f x μ Q → (∀ z H', VPost G Z m H Q z H' → Q' z H') → r u H Q'
def SN (G : Gx) (r : List V → Hp → VK → Prop) (f : FN) : Prop := ∀ (Z : Addr → Prop) (m : List Addr) (μ : Mu) (H : Hp) (xs : List D) (us : List V) (Q : D → Mu → Prop) (Q' : VK),
  MuOk G Z m μ H → Reps G m (vis Z m H) xs us → f xs μ Q → (∀ z H', VPost G Z m H Q z H' → Q' z H') → r us H Q'
/-- one operand behind another -/
theorem lift_bind {G : Gx} {W : WX} {wa : WE} {σ : L2.St} {H : Hp} {Q' : VK} {f : D → DS → Mu → (D → Mu → Prop) → XD → Prop} {R : V → Hp → Prop}
    (q : lift G W (fun ρ μ Q Xd => wa ρ μ (fun x μ1 => f x ρ μ1 Q Xd) Xd) σ H Q')
    (h : ∀ (Z : Addr → Prop) (m : List Addr) (ρ : DS) (μ : Mu) (Q : D → Mu → Prop) (Xd : XD) (x : D) (v : V) (H1 : Hp), SR G Z m σ H1 ρ μ → Rep G m (vis (ownW Z σ ρ) m H1) x v → f x ρ μ Q Xd →
      (∀ v H', VPost G (ownW Z σ ρ) m H1 Q v H' → Q' v H') → (∀ cls d H', XPost G (ownW Z σ ρ) m H1 Xd cls d H' → W cls d σ H') → R v H1) : lift G W wa σ H R := by
  obtain ⟨Z, m, ρ, μ, Q, Xd, S, q, k, kx⟩ := q
  refine ⟨Z, m, ρ, μ, _, Xd, S, q, fun v H1 P => ?_, kx⟩
  obtain ⟨m1, d, μ1, s1, r1, q1⟩ := P
  exact h Z m1 ρ μ1 Q Xd d v H1 (S.step s1) r1 q1 (fun v H' P => k v H' (VPost.from s1 P)) fun cls d H' P => kx cls d H' (XPost.from s1 P)
theorem lift_w2 {G : Gx} {W : WX} {r : R2} {f : F2} (hf : S2 G r f) {wa wb : WE} {σ : L2.St} {H : Hp} {Q' : VK} (q : lift G W (w2 f wa wb) σ H Q') : tOp r (lift G W wa) (lift G W wb) σ H Q' := by
  refine lift_bind (f := fun x ρ μ1 Q Xd => wb ρ μ1 (fun y μ2 => f x y μ2 Q) Xd) q fun Z m ρ μ Q Xd x v H1 S r1 q1 k kx => ?_
  refine ⟨Z, m, ρ, μ, _, Xd, S, q1, fun u H2 P => ?_, kx⟩
  obtain ⟨m2, y, μ2, s2, r2, q2⟩ := P
  exact hf _ m2 μ2 H2 x y v u Q Q' s2.mu (Rep.mono s2.pre s2.same _ _ r1) r2 q2 fun z H' P => k z H' (VPost.from s2 P)
theorem lift_w1 {G : Gx} {W : WX} {r : V → Hp → VK → Prop} {f : F1} (hf : S1 G r f) {wa : WE} {σ : L2.St} {H : Hp} {Q' : VK} (q : lift G W (w1 f wa) σ H Q') : tUn r (lift G W wa) σ H Q' := by
  refine lift_bind (f := fun x ρ μ1 Q Xd => f x μ1 Q) q fun Z m ρ μ Q Xd x v H1 S r1 q1 k kx => ?_
  exact hf _ m μ H1 x v Q Q' S.mu r1 q1 k
section
variable {ex : Option (Addr × Addr × Addr)} {W : WX} {X : Cx} {a b c : Expr} {wa wb wc : WE} {pos : Pos}
theorem de_op {op : Operator} {r : R2} {f : F2} (ho : OpR X (binaryOp op) r) (hf : S2 (gx X ex) r f) (ha : DE ex W X a wa) (hb : DE ex W X b wb) : DE ex W X (.BinOp a op b pos) (w2 f wa wb) := pe_weak (pe_op ho ha hb) fun _ _ _ q => lift_w2 hf q
theorem de_un {op : UnaryOp} {r : V → Hp → VK → Prop} {f : F1} (ho : UnR X (unaryOp op) r) (hf : S1 (gx X ex) r f) (ha : DE ex W X a wa) : DE ex W X (.UnaryOp op a pos) (w1 f wa) := pe_weak (pe_un ho ha) fun _ _ _ q => lift_w1 hf q
theorem de_cmp {op : CmpOp} {r : R2} {f : F2} (ho : OpR X (compareOp op) r) (hf : S2 (gx X ex) r f) (ha : DE ex W X a wa) (hb : DE ex W X b wb) (hm : behindInMarks op b = false) : DE ex W X (.Compare a [op] [b] pos) (w2 f wa wb) := pe_weak (pe_cmpR ho ha hb hm) fun _ _ _ q => lift_w2 hf q
theorem de_ix {r : R2} {f : F2} (hr : IxR X r) (hf : S2 (gx X ex) r f) (ha : DE ex W X a wa) (hb : DE ex W X b wb) (hs : PlainIx b := by exact fun _ _ => rfl) : DE ex W X (.Subscript a b pos) (w2 f wa wb) := pe_weak (pe_ix hr ha hb hs) fun _ _ _ q => lift_w2 hf q
end
/-! ### tests -/
abbrev WT := DS → Mu → (Bool → Mu → Prop) → XD → Prop
def BPost (G : Gx) (Z : Addr → Prop) (m : List Addr) (H : Hp) (Q : Bool → Mu → Prop) (b : Bool) (H' : Hp) : Prop :=
  ∃ m' μ', Step G Z m H m' μ' H' ∧ Q b μ'
theorem BPost.from {G : Gx} {Z : Addr → Prop} {m m1 : List Addr} {μ1 : Mu} {H H1 H' : Hp} {Q : Bool → Mu → Prop} {v : Bool} (s : Step G Z m H m1 μ1 H1) (p : BPost G Z m1 H1 Q v H') : BPost G Z m H Q v H' := by
  obtain ⟨m', μ', s', q⟩ := p
  exact ⟨m', μ', s.trans s', q⟩
def liftT (G : Gx) (W : WX) (w : WT) : TT := fun σ H Q' => ∃ Z m ρ μ Q Xd, SR G Z m σ H ρ μ ∧ w ρ μ Q Xd ∧ (∀ b H', BPost G (ownW Z σ ρ) m H Q b H' → Q' b H') ∧ ∀ cls d H', XPost G (ownW Z σ ρ) m H Xd cls d H' → W cls d σ H'
abbrev DT (ex : Option (Addr × Addr × Addr)) (W : WX) (X : Cx) (e : Expr) (w : WT) : Prop := PT X e (liftT (gx X ex) W w)
abbrev DW (ex : Option (Addr × Addr × Addr)) (W : WX) (X : Cx) (e : Expr) (w : WT) : Prop := PW X e (liftT (gx X ex) W w)
theorem pt_weak {X : Cx} {e : Expr} {t t' : TT} (h : PT X e t) (k : ∀ σ H Q, t' σ H Q → t σ H Q) : PT X e t' := ⟨fun pins s σ H Q I q => h.run pins s σ H Q I (k σ H Q q)⟩
theorem pw_weak {X : Cx} {e : Expr} {t t' : TT} (h : PW X e t) (k : ∀ σ H Q, t' σ H Q → t σ H Q) : PW X e t' := ⟨fun wh pins s σ H Q I q => h.run wh pins s σ H Q I (k σ H Q q)⟩
/-- an expression that gives a truth, as a test -/
def fBool : D → (Bool → Prop) → Prop
  | .bl b, Q => Q b
  | _, _ => False
def wB (w : WE) : WT := fun ρ μ Q Xd => w ρ μ (fun d μ1 => fBool d fun b => Q b μ1) Xd
theorem fBool_of {d : D} {Q : Bool → Prop} (h : fBool d Q) : ∃ b, d = .bl b ∧ Q b := by
  cases d <;> first | exact h.elim | exact ⟨_, rfl, h⟩
theorem lift_wB {G : Gx} {W : WX} {w : WE} {σ : L2.St} {H : Hp} {Q' : Bool → Hp → Prop} (q : liftT G W (wB w) σ H Q') : tTest (lift G W w) σ H Q' := by
  obtain ⟨Z, m, ρ, μ, Q, Xd, S, q, k, kx⟩ := q
  refine ⟨Z, m, ρ, μ, _, Xd, S, q, fun v H1 P => ?_, kx⟩
  obtain ⟨m1, d, μ1, s1, r1, q1⟩ := P
  obtain ⟨b, rfl, q2⟩ := fBool_of q1
  rw [Rep] at r1
  exact ⟨b, r1, k b H1 ⟨m1, μ1, s1, q2⟩⟩
section
variable {ex : Option (Addr × Addr × Addr)} {W : WX} {X : Cx} {a b c : Expr} {wa wb wc : WE} {ta tb tc : WT} {pos : Pos} {rest : List Expr}
theorem dt_val (h : DE ex W X a wa) (he : ∀ whole, isTrue a X.env whole = (do let v ← whole; standAt a.pos; holding [v] (truthy v)) := by intro _; rfl) : DT ex W X a (wB wa) :=
  pt_weak (pt_val h he) fun _ _ _ q => lift_wB q
theorem dt_cmp {op : CmpOp} {r : R2} {f : F2} (ho : OpR X (compareOp op) r) (hf : S2 (gx X ex) r f) (ha : DE ex W X a wa) (hb : DE ex W X b wb) (hm : behindInMarks op b = false) : DT ex W X (.Compare a [op] [b] pos) (wB (w2 f wa wb)) :=
  pt_weak (pt_cmpR ho ha hb hm) fun σ H Q q => by
    have h := lift_wB q
    obtain h : lift _ _ _ σ H _ := h
    exact lift_w2 hf h
/-- chained comparisons -/
def wChain (f f' : F2) (wa wb wc : WE) : WE := fun ρ μ Q Xd => wa ρ μ (fun x μ1 => wb ρ μ1 (fun y μ2 => f x y μ2 fun z μ3 => fBool z fun k => if k = true then wc ρ μ3 (fun w' μ4 => f' y w' μ4 Q) Xd else Q (.bl false) μ3) Xd) Xd
/-! and, or, not, as tests -/
def wAnd (t u : WT) : WT := fun ρ μ Q Xd => t ρ μ (fun c μ1 => if c = true then u ρ μ1 Q Xd else Q false μ1) Xd
def wOr (t u : WT) : WT := fun ρ μ Q Xd => t ρ μ (fun c μ1 => if c = true then Q true μ1 else u ρ μ1 Q Xd) Xd
def wNot (t : WT) : WT := fun ρ μ Q Xd => t ρ μ (fun c μ1 => Q (!c) μ1) Xd
theorem dw_and1 (h : DT ex W X a ta) : DW ex W X (.BoolOp .And [a] pos) ta := pw_and1 h
theorem dw_or1 (h : DT ex W X a ta) : DW ex W X (.BoolOp .Or [a] pos) ta := pw_or1 h
theorem dw_and (ha : DT ex W X a ta) (hb : DW ex W X (.BoolOp .And (b :: rest) pos) tb) : DW ex W X (.BoolOp .And (a :: b :: rest) pos) (wAnd ta tb) := pw_weak (pw_and ha hb) fun σ H Q' q => by
  obtain ⟨Z, m, ρ, μ, Q, Xd, S, q, k, kx⟩ := q
  refine ⟨Z, m, ρ, μ, _, Xd, S, q, fun c H1 P => ?_, kx⟩
  obtain ⟨m1, μ1, s1, q1⟩ := P
  cases c with
  | false => exact k false H1 ⟨m1, μ1, s1, q1⟩
  | true =>
    rw [if_pos rfl] at q1 ⊢
    exact ⟨Z, m1, ρ, μ1, _, Xd, S.step s1, q1, fun b H2 P => k b H2 (BPost.from s1 P), fun cls d H' P => kx cls d H' (XPost.from s1 P)⟩
theorem dw_or (ha : DT ex W X a ta) (hb : DW ex W X (.BoolOp .Or (b :: rest) pos) tb) : DW ex W X (.BoolOp .Or (a :: b :: rest) pos) (wOr ta tb) := pw_weak (pw_or ha hb) fun σ H Q' q => by
  obtain ⟨Z, m, ρ, μ, Q, Xd, S, q, k, kx⟩ := q
  refine ⟨Z, m, ρ, μ, _, Xd, S, q, fun c H1 P => ?_, kx⟩
  obtain ⟨m1, μ1, s1, q1⟩ := P
  cases c with
  | true => exact k true H1 ⟨m1, μ1, s1, q1⟩
  | false =>
    rw [if_neg Bool.false_ne_true] at q1 ⊢
    exact ⟨Z, m1, ρ, μ1, _, Xd, S.step s1, q1, fun b H2 P => k b H2 (BPost.from s1 P), fun cls d H' P => kx cls d H' (XPost.from s1 P)⟩
theorem dt_w {e : Expr} (h : DW ex W X e ta) : DT ex W X e ta := PW.pt h
theorem dt_not (h : DT ex W X a ta) : DT ex W X (.UnaryOp .Not a pos) (wNot ta) := pt_weak (pt_not h) fun σ H Q' q => by
  obtain ⟨Z, m, ρ, μ, Q, Xd, S, q, k, kx⟩ := q
  refine ⟨Z, m, ρ, μ, _, Xd, S, q, fun c H1 P => ?_, kx⟩
  obtain ⟨m1, μ1, s1, q1⟩ := P
  exact k (!c) H1 ⟨m1, μ1, s1, q1⟩
end
end DL

set_option Elab.async false
set_option linter.all false
set_option maxRecDepth 100000
set_option maxHeartbeats 4000000
set_option autoImplicit false
namespace DL
open PySem PySem.Spec PyProof.Rows L2
/-! ### argument lists, displays, calls -/
abbrev WA := DS → Mu → (List D → Mu → Prop) → XD → Prop
def APost (G : Gx) (Z : Addr → Prop) (m : List Addr) (H : Hp) (Q : List D → Mu → Prop) (vs : List V) (H' : Hp) : Prop :=
  ∃ m' ds μ', Step G Z m H m' μ' H' ∧ Reps G m' (vis Z m' H') ds vs ∧ Q ds μ'
theorem APost.from {G : Gx} {Z : Addr → Prop} {m m1 : List Addr} {μ1 : Mu} {H H1 H' : Hp} {Q : List D → Mu → Prop} {vs : List V} (s : Step G Z m H m1 μ1 H1) (p : APost G Z m1 H1 Q vs H') : APost G Z m H Q vs H' := by
  obtain ⟨m', d, μ', s', r, q⟩ := p
  exact ⟨m', d, μ', s.trans s', r, q⟩
def liftA (G : Gx) (W : WX) (w : WA) : TA := fun σ H Q' => ∃ Z m ρ μ Q Xd, SR G Z m σ H ρ μ ∧ w ρ μ Q Xd ∧ (∀ vs H', APost G (ownW Z σ ρ) m H Q vs H' → Q' vs H') ∧ ∀ cls d H', XPost G (ownW Z σ ρ) m H Xd cls d H' → W cls d σ H'
abbrev DA (ex : Option (Addr × Addr × Addr)) (W : WX) (X : Cx) (es : List Expr) (w : WA) : Prop := PA X es (liftA (gx X ex) W w)
theorem pa_weak {X : Cx} {es : List Expr} {t t' : TA} (h : PA X es t) (k : ∀ σ H Q, t' σ H Q → t σ H Q) : PA X es t' := ⟨fun pos pins s σ H Q I q => h.run pos pins s σ H Q I (k σ H Q q)⟩
def wNil : WA := fun _ μ Q _ => Q [] μ
def wCons (wa : WE) (wr : WA) : WA := fun ρ μ Q Xd => wa ρ μ (fun d μ1 => wr ρ μ1 (fun ds μ2 => Q (d :: ds) μ2) Xd) Xd
def wTup (wa : WA) : WE := fun ρ μ Q Xd => wa ρ μ (fun ds μ1 => ds.length ≤ 1000 ∧ Q (.tup ds) μ1) Xd
def wLst (wa : WA) : WE := fun ρ μ Q Xd => wa ρ μ (fun ds μ1 => ds.length ≤ 1000 ∧ Q (.lst ds) μ1) Xd
def wN (f : FN) (wa : WA) : WE := fun ρ μ Q Xd => wa ρ μ (fun ds μ1 => f ds μ1 Q) Xd
abbrev DSp := List D → Mu → (D → Mu → Prop) → XD → Prop
def wCall (sp : DSp) (wa : WA) : WE := fun ρ μ Q Xd => wa ρ μ (fun ds μ1 => sp ds μ1 Q Xd) Xd
theorem le1000 {n : Nat} (h : n ≤ 1000) : n ≤ sizeLine := Nat.le_trans h (by decide)
section
variable {ex : Option (Addr × Addr × Addr)} {W : WX} {X : Cx} {e : Expr} {es : List Expr} {wa : WE} {ws : WA} {pos : Pos}
theorem da_nil : DA ex W X [] wNil := pa_weak pa_nil fun σ H Q' q => by
  obtain ⟨Z, m, ρ, μ, Q, Xd, S, q, k, kx⟩ := q
  exact k [] H ⟨m, [], μ, .refl S.mu, Reps.nil, q⟩
theorem lift_cons {G : Gx} {σ : L2.St} {H : Hp} {Q' : List V → Hp → Prop} (q : liftA G W (wCons wa ws) σ H Q') : tCons (lift G W wa) (liftA G W ws) σ H Q' := by
  obtain ⟨Z, m, ρ, μ, Q, Xd, S, q, k, kx⟩ := q
  refine ⟨Z, m, ρ, μ, _, Xd, S, q, fun v H1 P => ?_, kx⟩
  obtain ⟨m1, d, μ1, s1, r1, q1⟩ := P
  refine ⟨Z, m1, ρ, μ1, _, Xd, S.step s1, q1, fun vs H2 P => ?_, fun cls d H' P => kx cls d H' (XPost.from s1 P)⟩
  obtain ⟨m2, ds, μ2, s2, r2, q2⟩ := P
  exact k _ _ ⟨m2, d :: ds, μ2, s1.trans s2, Reps.cons (Rep.mono s2.pre s2.same _ _ r1) r2, q2⟩
theorem da_cons (ha : DE ex W X e wa) (hr : DA ex W X es ws) (hs : starEach (e :: es) X.env = (false, eval e X.env) :: starEach es X.env := by rfl) : DA ex W X (e :: es) (wCons wa ws) :=
  pa_weak (pa_cons ha hr hs) fun _ _ _ q => lift_cons q
theorem de_tup {x1} (h : DA ex W X es ws) : DE ex W X (.Tuple es x1 pos) (wTup ws) := pe_weak (pe_tup h) fun σ H Q' q => by
  obtain ⟨Z, m, ρ, μ, Q, Xd, S, q, k, kx⟩ := q
  refine ⟨Z, m, ρ, μ, _, Xd, S, q, fun vs H1 P => ?_, kx⟩
  obtain ⟨m1, ds, μ1, s1, r1, hl, q1⟩ := P
  refine ⟨by rw [← r1.len]; exact le1000 hl, fun p np => k _ _ ?_⟩
  have s2 := Step.laid (o := .tup vs) s1.mu np
  refine VPost.from s1 ⟨m1, _, μ1, s2, ?_, q1⟩
  rw [Rep]
  refine ⟨p, vs, rfl, .inl (.inl ?_), Reps.mono s2.pre s2.same _ _ r1⟩
  rw [vis_upd s1.mu np, upd_same]
theorem lift_lst {G : Gx} {σ : L2.St} {H : Hp} {Q' : VK} (q : lift G W (wLst ws) σ H Q') : tLst (liftA G W ws) σ H Q' := by
  obtain ⟨Z, m, ρ, μ, Q, Xd, S, q, k, kx⟩ := q
  refine ⟨Z, m, ρ, μ, _, Xd, S, q, fun vs H1 P => ?_, kx⟩
  obtain ⟨m1, ds, μ1, s1, r1, hl, q1⟩ := P
  refine ⟨by rw [← r1.len]; exact le1000 hl, fun p np => k _ _ ?_⟩
  have s2 := Step.laid (o := .lst vs) s1.mu np
  refine VPost.from s1 ⟨m1, _, μ1, s2, ?_, q1⟩
  rw [Rep]
  refine ⟨p, vs, rfl, ?_, Reps.mono s2.pre s2.same _ _ r1⟩
  rw [vis_upd s1.mu np, upd_same]
theorem de_lst (h : DA ex W X es ws) : DE ex W X (.List es pos) (wLst ws) := pe_weak (pe_lst h) fun _ _ _ q => lift_lst q
theorem lift_wN {G : Gx} {r : List V → Hp → VK → Prop} {f : FN} (hf : SN G r f) {σ : L2.St} {H : Hp} {Q' : VK} (q : lift G W (wN f ws) σ H Q') : tCB r (liftA G W ws) σ H Q' := by
  obtain ⟨Z, m, ρ, μ, Q, Xd, S, q, k, kx⟩ := q
  refine ⟨Z, m, ρ, μ, _, Xd, S, q, fun vs H1 P => ?_, kx⟩
  obtain ⟨m1, ds, μ1, s1, r1, q1⟩ := P
  exact hf _ m1 μ1 H1 ds vs Q Q' s1.mu r1 q1 fun z H' P => k z H' (VPost.from s1 P)
theorem de_callB {x : Str} {id : String} {p : Pos} {r : List V → Hp → VK → Prop} {f : FN} (hc : CallR X (.builtin id) r) (hf : SN (gx X ex) r f) (hg : Gl X x) (hm : X.mg x = none) (hv : bootBuiltins x = some (.builtin id)) (ha : DA ex W X (e :: es) ws)
    (hn : x ≠ "__name__" := by decide) (hdb : (x == ("__debug__" : Str)) = false := by decide) (he : starEach (e :: es) X.env = (false, eval e X.env) :: starEach es X.env := by rfl) (hpl : (backTo pos (starEach es X.env)).any (·.1) = false := by rfl) :
    DE ex W X (.Call (.Name x p) (e :: es) [] pos) (wN f ws) := pe_weak (pe_callB hc hg hm hv ha hn hdb he hpl) fun _ _ _ q => lift_wN hf q
theorem de_callTy {x : Str} {T : String} {p : Pos} {r : List V → Hp → VK → Prop} {f : FN} (hc : CallR X (.type T) r) (hf : SN (gx X ex) r f) (hg : Gl X x) (hm : X.mg x = none) (hv : bootBuiltins x = some (.type T)) (ha : DA ex W X (e :: es) ws)
    (hn : x ≠ "__name__" := by decide) (hdb : (x == ("__debug__" : Str)) = false := by decide) (he : starEach (e :: es) X.env = (false, eval e X.env) :: starEach es X.env := by rfl) (hpl : (backTo pos (starEach es X.env)).any (·.1) = false := by rfl) :
    DE ex W X (.Call (.Name x p) (e :: es) [] pos) (wN f ws) := pe_weak (pe_callTy hc hg hm hv ha hn hdb he hpl) fun _ _ _ q => lift_wN hf q
/-- a def keeps its promise wherever no repr is under way -/
structure FnG (P : Program) (wd : World) (K : PySem.W.Frag) (mg : Str → Option Value) (bs : Heap) (k : Nat) (f : Addr) (fd : FuncData) (ps : List Str) (sp : Sp) : Prop where
  len : ∀ vs H Q E, sp vs H Q E → vs.length = ps.length
  run : ∀ (A : Around) (fr : List Env) (s : Shared) (H : Hp) (args : Args) (us : List Value) (vs : List V) (Q : VK) (E : XK), Room k A → A.guards = some [] → Env0 P wd K mg bs A fr s H → BindsTo s fd args (ps.zip us) → Vals vs us →
    sp vs H Q E → codeAny (model P wd) A (.call (.ref f) args) (CR (L2.CX P wd) fr P wd H s Q E) s
section
variable {k : Nat} {f : Addr} {fd : FuncData} {ps : List Str} {sp0 : Sp}
theorem run_fnG {pins : List (Addr × Obj)} {σ : L2.St} {H : Hp} {s : Shared} {Q : VK} {us : List Value} {vs : List V} (F : FnG X.prog X.w X.K X.mg X.base k f fd ps sp0) (hr : Room k X.A) (hgd : X.A.guards = some []) (hb : Binds X.K fd ps []) (tk : Takes X W)
    (I : Inv X pins σ H s) (rv : Vals vs us) (h : sp0 vs H Q (L2.WE W σ)) : wpAny (model X.prog X.w) X.A (call (.ref f) us) (EP X pins σ Q) X.xe s := by
  have e0 : us.length = ps.length := rv.length.symm.trans (F.len _ _ _ _ h)
  have bd : BindsTo s fd ⟨us, []⟩ (ps.zip us) := by simpa using hb s us I.kIn (by simpa using e0)
  refine wpAny_call (codeAny_mono (F.run X.A X.stack s H ⟨us, []⟩ us vs Q _ hr hgd I.env0 bd rv h) fun res s2 hres => ?_)
  match res, hres with
  | .error er, hres => exact passAt tk σ pins H s er s2 I hres
  | .ok (.ret u), hres => exact I.after hres
end
/-- what a def promises, told by data -/
def toSp (G : Gx) (sp : DSp) : Sp := fun vs H Q' E => ∃ Z m μ ds Q Xd, MuOk G Z m μ H ∧ Reps G m (vis Z m H) ds vs ∧ sp ds μ Q Xd ∧ (∀ v H', VPost G Z m H Q v H' → Q' v H') ∧ ∀ cls d H', XPost G Z m H Xd cls d H' → E cls d H'
theorem lift_call {G : Gx} {sp : DSp} {σ : L2.St} {H : Hp} {Q' : VK} (q : lift G W (wCall sp ws) σ H Q') : tCallS (toSp G sp) (L2.WE W) (liftA G W ws) σ H Q' := by
  obtain ⟨Z, m, ρ, μ, Q, Xd, S, q, k, kx⟩ := q
  refine ⟨Z, m, ρ, μ, _, Xd, S, q, fun vs H1 P => ?_, kx⟩
  obtain ⟨m1, ds, μ1, s1, r1, q1⟩ := P
  exact ⟨_, m1, μ1, ds, Q, Xd, s1.mu, r1, q1, fun v H' P => k v H' (VPost.from s1 P), fun cls d H' P => kx cls d H' (XPost.from s1 P)⟩
theorem de_call {x : Str} {k : Nat} {f : Addr} {fd : FuncData} {ps : List Str} {sp : DSp} {p : Pos} (F : FnG X.prog X.w X.K X.mg X.base k f fd ps (toSp (gx X ex) sp)) (hr : Room k X.A) (hgd : X.A.guards = some []) (hg : Gl X x) (hm : X.mg x = some (.ref f))
    (hk : PySem.W.keepIn X.K (.ref f) = true) (hb : Binds X.K fd ps []) (tk : Takes X W) (ha : DA ex W X (e :: es) ws) (hdb : (x == ("__debug__" : Str)) = false := by decide)
    (he : starEach (e :: es) X.env = (false, eval e X.env) :: starEach es X.env := by rfl) (hpl : (backTo pos (starEach es X.env)).any (·.1) = false := by rfl) :
    DE ex W X (.Call (.Name x p) (e :: es) [] pos) (wCall sp ws) := by
  refine ⟨fun pins s σ H Q I h => ?_⟩
  refine wpAny_Call_Name_kw (ld_glob I hg hm ?_ hdb)
  exact PySem.W.callWith_K (h₀ := X.base) I.ok.mod.kin hk (thn (ha.run pos pins s σ H _ I (lift_call h)) fun us s1 ⟨vs, H1, I1, rv, q⟩ => ⟨I1.kIn, run_fnG F hr hgd hb tk I1 rv q⟩) he hpl
end

/-! ### statements -/
abbrev XS := Str → List Str → List D → DS → Mu → Prop
structure DEnds where
  nx : DS → Mu → Prop
  rt : D → Mu → Prop
  bk : DS → Mu → Prop := fun _ _ => False
  ct : DS → Mu → Prop := fun _ _ => False
  xc : XS := fun _ _ _ _ _ => False
abbrev WS := DEnds → DS → Mu → Prop
structure SStep (G : Gx) (Z : Addr → Prop) (m : List Addr) (σ : L2.St) (ρ : DS) (H : Hp) (m' : List Addr) (σ' : L2.St) (ρ' : DS) (H' : Hp) : Prop where
  pre : m <+: m'
  hid : ∀ z, Z z → H' z = H z
  same : Same (vis (ownW Z σ ρ) m H) (vis (ownW Z σ' ρ') m' H')
theorem SStep.refl {G : Gx} {Z : Addr → Prop} {m : List Addr} {σ : L2.St} {ρ : DS} {H : Hp} : SStep G Z m σ ρ H m σ ρ H := ⟨List.prefix_refl _, fun _ _ => rfl, Same.refl _⟩
theorem SStep.trans {G : Gx} {Z : Addr → Prop} {m m1 m2 : List Addr} {σ σ1 σ2 : L2.St} {ρ ρ1 ρ2 : DS} {H H1 H2 : Hp} (a : SStep G Z m σ ρ H m1 σ1 ρ1 H1) (b : SStep G Z m1 σ1 ρ1 H1 m2 σ2 ρ2 H2) : SStep G Z m σ ρ H m2 σ2 ρ2 H2 :=
  ⟨a.pre.trans b.pre, fun z h => (b.hid z h).trans (a.hid z h), a.same.trans b.same⟩
theorem SStep.of {G : Gx} {Z : Addr → Prop} {m m' : List Addr} {σ : L2.St} {ρ : DS} {μ' : Mu} {H H' : Hp} (s : Step G (ownW Z σ ρ) m H m' μ' H') : SStep G Z m σ ρ H m' σ ρ H' := ⟨s.pre, fun z h => s.hid z (.inl h), s.same⟩
def SPost (G : Gx) (Z : Addr → Prop) (m : List Addr) (σ : L2.St) (ρ : DS) (H : Hp) (P : DS → Mu → Prop) (σ' : L2.St) (H' : Hp) : Prop :=
  ∃ m' ρ' μ', SR G Z m' σ' H' ρ' μ' ∧ SStep G Z m σ ρ H m' σ' ρ' H' ∧ P ρ' μ'
def RPost (G : Gx) (Z : Addr → Prop) (m : List Addr) (σ : L2.St) (ρ : DS) (H : Hp) (Q : D → Mu → Prop) (v : V) (H' : Hp) : Prop :=
  ∃ m' d μ', m <+: m' ∧ (∀ z, Z z → H' z = H z) ∧ MuOk G Z m' μ' H' ∧ Same (vis (ownW Z σ ρ) m H) (vis Z m' H') ∧ Rep G m' (vis Z m' H') d v ∧ Q d μ'
def XSPost (G : Gx) (Z : Addr → Prop) (m : List Addr) (σ : L2.St) (ρ : DS) (H : Hp) (Xs : XS) (cls : Value) (d : Option Addr) (σ' : L2.St) (H' : Hp) : Prop :=
  ∃ m' c ks es ρ' μ' C dd vs, SR G Z m' σ' H' ρ' μ' ∧ SStep G Z m σ ρ H m' σ' ρ' H' ∧ cls = .ref C ∧ d = some dd ∧ G.mg c = some (.ref C) ∧ vis (ownW Z σ' ρ') m' H' dd = some (.xd (ks.zip vs)) ∧ ks.length = es.length ∧
    Reps G m' (vis (ownW Z σ' ρ') m' H') es vs ∧ Xs c ks es ρ' μ'
section
variable {G : Gx} {Z : Addr → Prop} {m m1 : List Addr} {σ σ1 σ' : L2.St} {ρ ρ1 : DS} {H H1 H' : Hp}
theorem SPost.from {P : DS → Mu → Prop} (s : SStep G Z m σ ρ H m1 σ1 ρ1 H1) (p : SPost G Z m1 σ1 ρ1 H1 P σ' H') : SPost G Z m σ ρ H P σ' H' := by
  obtain ⟨m', ρ', μ', S, s', q⟩ := p
  exact ⟨m', ρ', μ', S, s.trans s', q⟩
theorem RPost.from {Q : D → Mu → Prop} {v : V} (s : SStep G Z m σ ρ H m1 σ1 ρ1 H1) (p : RPost G Z m1 σ1 ρ1 H1 Q v H') : RPost G Z m σ ρ H Q v H' := by
  obtain ⟨m', d, μ', h1, h2, h3, h4, h5, h6⟩ := p
  exact ⟨m', d, μ', s.pre.trans h1, fun z hz => (h2 z hz).trans (s.hid z hz), h3, s.same.trans h4, h5, h6⟩
theorem XSPost.from {Xs : XS} {cls : Value} {d : Option Addr} (s : SStep G Z m σ ρ H m1 σ1 ρ1 H1) (p : XSPost G Z m1 σ1 ρ1 H1 Xs cls d σ' H') : XSPost G Z m σ ρ H Xs cls d σ' H' := by
  obtain ⟨m', c, ks, es, ρ', μ', C, dd, vs, S, s', r⟩ := p
  exact ⟨m', c, ks, es, ρ', μ', C, dd, vs, S, s.trans s', r⟩
theorem vis_own {m : List Addr} {H : Hp} : Same (vis (ownW Z σ ρ) m H) (vis Z m H) := fun b o h => by
  obtain ⟨h1, h2, h3⟩ := vis_some.mp h
  exact vis_some.mpr ⟨fun z => h1 (.inl z), h2, h3⟩
theorem MuOk.out_own {μ : Mu} (M : MuOk G (ownW Z σ ρ) m μ H) : MuOk G Z m μ H :=
  ⟨M.len, M.nd, fun a h z => M.out a h (.inl z), fun z h => M.hw z (.inl h), fun n c a h1 h2 => (M.cell n c a h1 h2).keep (List.prefix_refl _) vis_own rfl⟩
theorem RPost.of {Q : D → Mu → Prop} {v : V} (p : VPost G (ownW Z σ ρ) m H Q v H') : RPost G Z m σ ρ H Q v H' := by
  obtain ⟨m', d, μ', s, r, q⟩ := p
  exact ⟨m', d, μ', s.pre, fun z h => s.hid z (.inl h), s.mu.out_own, s.same.trans vis_own, Rep.mono (List.prefix_refl _) vis_own _ _ r, q⟩
theorem XSPost.of {μ : Mu} (S : SR G Z m σ H ρ μ) {Xs : XS} {cls : Value} {d : Option Addr} (p : XPost G (ownW Z σ ρ) m H (fun c ks es μ' => Xs c ks es ρ μ') cls d H') : XSPost G Z m σ ρ H Xs cls d σ H' := by
  obtain ⟨m', c, ks, es, μ', C, dd, vs, s, e1, e2, e3, e4, e5, e6, q⟩ := p
  exact ⟨m', c, ks, es, ρ, μ', C, dd, vs, S.step s, SStep.of s, e1, e2, e3, e4, e5, e6, q⟩
end
def liftS (G : Gx) (W : WX) (w : WS) : TS := fun D σ H => ∃ Z m ρ μ E, SR G Z m σ H ρ μ ∧ w E ρ μ ∧ (∀ σ' H', SPost G Z m σ ρ H E.nx σ' H' → D.nx σ' H') ∧ (∀ v H', RPost G Z m σ ρ H E.rt v H' → D.rt v H') ∧
  (∀ σ' H', SPost G Z m σ ρ H E.bk σ' H' → D.bk σ' H') ∧ (∀ σ' H', SPost G Z m σ ρ H E.ct σ' H' → D.ct σ' H') ∧ ∀ cls d σ' H', XSPost G Z m σ ρ H E.xc cls d σ' H' → W cls d σ' H'
abbrev DSt (ex : Option (Addr × Addr × Addr)) (W : WX) (X : Cx) (st : Stmt) (w : WS) : Prop := PS X st (liftS (gx X ex) W w)
abbrev DSs (ex : Option (Addr × Addr × Addr)) (W : WX) (X : Cx) (st : List Stmt) (w : WS) : Prop := PSs X st (liftS (gx X ex) W w)
theorem ps_weak {X : Cx} {st : Stmt} {t t' : TS} (h : PS X st t) (k : ∀ D σ H, t' D σ H → t D σ H) : PS X st t' := ⟨fun pins s σ H D I q => h.run pins s σ H D I (k D σ H q)⟩
theorem pss_weak {X : Cx} {st : List Stmt} {t t' : TS} (h : PSs X st t) (k : ∀ D σ H, t' D σ H → t D σ H) : PSs X st t' := ⟨fun pins s σ H D I q => h.run pins s σ H D I (k D σ H q)⟩
def sNext : WS := fun E ρ μ => E.nx ρ μ
def sSeq (a b : WS) : WS := fun E ρ μ => a { E with nx := fun ρ' μ' => b E ρ' μ' } ρ μ
def sIf (t : WT) (a b : WS) : WS := fun E ρ μ => t ρ μ (fun c μ1 => if c = true then a E ρ μ1 else b E ρ μ1) fun c ks es μ' => E.xc c ks es ρ μ'
def sRet (wa : WE) : WS := fun E ρ μ => wa ρ μ E.rt fun c ks es μ' => E.xc c ks es ρ μ'
def sRetN : WS := fun E _ μ => E.rt .non μ
def sDrop (wa : WE) : WS := fun E ρ μ => wa ρ μ (fun _ μ1 => E.nx ρ μ1) fun c ks es μ' => E.xc c ks es ρ μ'
def sBreak : WS := fun E ρ μ => E.bk ρ μ
def sCont : WS := fun E ρ μ => E.ct ρ μ
def sNever : WS := fun _ _ _ => False
section
variable {ex : Option (Addr × Addr × Addr)} {W : WX} {X : Cx} {e : Expr} {es : List Expr} {wa : WE} {ws : WA} {pos : Pos} {st : Stmt} {rest : List Stmt} {a b : WS} {t : WT}
theorem dss_nil : DSs ex W X [] sNext := pss_weak pss_nil fun D σ H q => by
  obtain ⟨Z, m, ρ, μ, E, S, q, kn, kr, kb, kc, kx⟩ := q
  exact kn σ H ⟨m, ρ, μ, S, .refl, q⟩
theorem dss_cons (h1 : DSt ex W X st a) (h2 : DSs ex W X rest b) : DSs ex W X (st :: rest) (sSeq a b) := pss_weak (pss_cons h1 h2) fun D σ H q => by
  obtain ⟨Z, m, ρ, μ, E, S, q, kn, kr, kb, kc, kx⟩ := q
  refine ⟨Z, m, ρ, μ, _, S, q, fun σ1 H1 P => ?_, kr, kb, kc, kx⟩
  obtain ⟨m1, ρ1, μ1, S1, s1, q1⟩ := P
  exact ⟨Z, m1, ρ1, μ1, E, S1, q1, fun σ' H' P => kn σ' H' (SPost.from s1 P), fun v H' P => kr v H' (RPost.from s1 P), fun σ' H' P => kb σ' H' (SPost.from s1 P), fun σ' H' P => kc σ' H' (SPost.from s1 P), fun cls d σ' H' P => kx cls d σ' H' (XSPost.from s1 P)⟩
theorem dss_one (h1 : DSt ex W X st a) : DSs ex W X [st] a := pss_one h1
theorem ds_if {c : Expr} {x y : List Stmt} (hc : DT ex W X c t) (ha : DSs ex W X x a) (hb : DSs ex W X y b) : DSt ex W X (.If c x y pos) (sIf t a b) := ps_weak (ps_if hc ha hb) fun D σ H q => by
  obtain ⟨Z, m, ρ, μ, E, S, q, kn, kr, kb, kc, kx⟩ := q
  refine ⟨Z, m, ρ, μ, _, _, S, q, fun c H1 P => ?_, fun cls d H' P => kx cls d σ H' (XSPost.of S P)⟩
  obtain ⟨m1, μ1, s1, q1⟩ := P
  have S1 := S.step s1
  have s2 : SStep (gx X ex) Z m σ ρ H m1 σ ρ H1 := SStep.of s1
  cases c with
  | true =>
    rw [if_pos rfl] at q1 ⊢
    exact ⟨Z, m1, ρ, μ1, E, S1, q1, fun σ' H' P => kn σ' H' (SPost.from s2 P), fun v H' P => kr v H' (RPost.from s2 P), fun σ' H' P => kb σ' H' (SPost.from s2 P), fun σ' H' P => kc σ' H' (SPost.from s2 P), fun cls d σ' H' P => kx cls d σ' H' (XSPost.from s2 P)⟩
  | false =>
    rw [if_neg Bool.false_ne_true] at q1 ⊢
    exact ⟨Z, m1, ρ, μ1, E, S1, q1, fun σ' H' P => kn σ' H' (SPost.from s2 P), fun v H' P => kr v H' (RPost.from s2 P), fun σ' H' P => kb σ' H' (SPost.from s2 P), fun σ' H' P => kc σ' H' (SPost.from s2 P), fun cls d σ' H' P => kx cls d σ' H' (XSPost.from s2 P)⟩
theorem ds_ret (h : DE ex W X e wa) : DSt ex W X (.Return (some e) pos) (sRet wa) := ps_weak (ps_ret h) fun D σ H q => by
  obtain ⟨Z, m, ρ, μ, E, S, q, kn, kr, kb, kc, kx⟩ := q
  exact ⟨Z, m, ρ, μ, _, _, S, q, fun v H1 P => kr v H1 (RPost.of P), fun cls d H' P => kx cls d σ H' (XSPost.of S P)⟩
theorem ds_never : DSt ex W X st sNever := ps_weak ps_never fun D σ H q => by
  obtain ⟨Z, m, ρ, μ, E, S, q, kn, kr, kb, kc, kx⟩ := q
  exact q.elim
end
/-! ### a slot is stored -/
theorem own_set {Z : Addr → Prop} {σ : L2.St} {ρ : DS} {i : Nat} {v : V} {d : D} {b : Addr} (h : ownW Z (σ.set i (some v)) (ρ.set i (.v d)) b) : ownW Z σ ρ b := by
  rcases h with h | ⟨j, ds, e1⟩
  · exact .inl h
  · by_cases hj : i = j
    · subst hj
      rw [List.getElem?_set] at e1
      simp at e1
    · rw [List.getElem?_set_ne hj] at e1
      exact .inr ⟨j, ds, e1⟩
theorem vis_mono {Z Z' : Addr → Prop} {m : List Addr} {H : Hp} (h : ∀ b, Z' b → Z b) : Same (vis Z m H) (vis Z' m H) := fun b o e => by
  obtain ⟨h1, h2, h3⟩ := vis_some.mp e
  exact vis_some.mpr ⟨fun z => h1 (h b z), h2, h3⟩
theorem MuOk.less {G : Gx} {Z Z' : Addr → Prop} {m : List Addr} {μ : Mu} {H : Hp} (M : MuOk G Z m μ H) (h : ∀ b, Z' b → Z b) : MuOk G Z' m μ H :=
  ⟨M.len, M.nd, fun a ha z => M.out a ha (h a z), fun z hz => M.hw z (h z hz), fun n c a h1 h2 => (M.cell n c a h1 h2).keep (List.prefix_refl _) (vis_mono h) rfl⟩
theorem SR.set {G : Gx} {Z : Addr → Prop} {m : List Addr} {σ : L2.St} {H : Hp} {ρ : DS} {μ : Mu} (S : SR G Z m σ H ρ μ) {i : Nat} {d : D} {v : V} (r : Rep G m (vis (ownW Z σ ρ) m H) d v) :
    SR G Z m (σ.set i (some v)) H (ρ.set i (.v d)) μ ∧ SStep G Z m σ ρ H m (σ.set i (some v)) (ρ.set i (.v d)) H := by
  have sm : Same (vis (ownW Z σ ρ) m H) (vis (ownW Z (σ.set i (some v)) (ρ.set i (.v d))) m H) := vis_mono fun b => own_set
  refine ⟨⟨by simpa using S.len, S.mu.less fun b => own_set, fun j e h => ?_, fun j a c h => ?_, fun j k a c c' h1 h2 => ?_, fun j c ks ds h => ?_⟩, List.prefix_refl _, fun _ _ => rfl, sm⟩
  · by_cases hj : i = j
    · subst hj
      rw [List.getElem?_set] at h
      simp at h
      obtain ⟨hl, rfl⟩ := h
      have hl' : i < σ.length := by rw [← S.len]; exact hl
      exact ⟨v, by simp [hl'], Rep.mono (List.prefix_refl _) sm _ _ r⟩
    · rw [List.getElem?_set_ne hj] at h
      obtain ⟨u, e1, q⟩ := S.val j e h
      exact ⟨u, by rw [List.getElem?_set_ne hj]; exact e1, Rep.mono (List.prefix_refl _) sm _ _ q⟩
  · by_cases hj : i = j
    · subst hj
      rw [List.getElem?_set] at h
      simp at h
    · rw [List.getElem?_set_ne hj] at h
      obtain ⟨e1, nz, q⟩ := S.own j a c h
      exact ⟨by rw [List.getElem?_set_ne hj]; exact e1, nz, q.keep (List.prefix_refl _) sm rfl⟩
  · have nj : i ≠ j := fun e => by subst e; rw [List.getElem?_set] at h1; simp at h1
    have nk : i ≠ k := fun e => by subst e; rw [List.getElem?_set] at h2; simp at h2
    rw [List.getElem?_set_ne nj] at h1
    rw [List.getElem?_set_ne nk] at h2
    exact S.dis j k a c c' h1 h2
  · have nj : i ≠ j := fun e => by subst e; rw [List.getElem?_set] at h; simp at h
    rw [List.getElem?_set_ne nj] at h ⊢
    exact (S.exn j c ks ds h).mono (List.prefix_refl _) sm
def sSet (i : Nat) (wa : WE) : WS := fun E ρ μ => wa ρ μ (fun d μ1 => E.nx (ρ.set i (.v d)) μ1) fun c ks es μ' => E.xc c ks es ρ μ'
/-! ### targets -/
abbrev WG := D → DS → Mu → (DS → Mu → Prop) → Prop
abbrev WGs := List D → DS → Mu → (DS → Mu → Prop) → Prop
def liftG (G : Gx) (g : WG) : TG := fun v σ H Q' => ∃ Z m ρ μ d Q, SR G Z m σ H ρ μ ∧ Rep G m (vis (ownW Z σ ρ) m H) d v ∧ g d ρ μ Q ∧ ∀ σ' H', SPost G Z m σ ρ H Q σ' H' → Q' σ' H'
def liftGs (G : Gx) (g : WGs) : TGs := fun vs σ H Q' => ∃ Z m ρ μ ds Q, SR G Z m σ H ρ μ ∧ Reps G m (vis (ownW Z σ ρ) m H) ds vs ∧ g ds ρ μ Q ∧ ∀ σ' H', SPost G Z m σ ρ H Q σ' H' → Q' σ' H'
abbrev DG (ex : Option (Addr × Addr × Addr)) (X : Cx) (e : Expr) (g : WG) : Prop := PG X e (liftG (gx X ex) g)
abbrev DGs (ex : Option (Addr × Addr × Addr)) (X : Cx) (e : List Expr) (g : WGs) : Prop := PGs X e (liftGs (gx X ex) g)
theorem pg_weak {X : Cx} {e : Expr} {t t' : TG} (h : PG X e t) (k : ∀ v σ H Q, t' v σ H Q → t v σ H Q) : PG X e t' := ⟨fun pins s σ H v u Q I r q => h.run pins s σ H v u Q I r (k v σ H Q q)⟩
def kName (i : Nat) : WG := fun d ρ μ Q => Q (ρ.set i (.v d)) μ
def kNil : WGs := fun ds ρ μ Q => match ds with
  | [] => Q ρ μ
  | _ :: _ => False
def kCons (g : WG) (gs : WGs) : WGs := fun ds ρ μ Q => match ds with
  | d :: r => g d ρ μ fun ρ1 μ1 => gs r ρ1 μ1 Q
  | [] => False
def kTup (n : Nat) (gs : WGs) : WG := fun d ρ μ Q => match d with
  | .tup ds => ds.length = n ∧ gs ds ρ μ Q
  | _ => False
section
variable {ex : Option (Addr × Addr × Addr)} {W : WX} {X : Cx} {e : Expr} {es : List Expr} {pos : Pos}
theorem dg_name {i : Nat} {x : Str} (hN : X.N.Nodup) (hi : X.N[i]? = some x) (hx : Loc X.env.scope x := by first | exact Or.inl rfl | exact Or.inr rfl) (hf : X.fn x = true ∨ X.env.scope.names.lookup x = some .local := by first | exact .inl rfl | exact .inr rfl | assumption) :
    DG ex X (.Name x pos) (kName i) := pg_weak (pg_name hN hi hx hf) fun v σ H Q' q => by
  obtain ⟨Z, m, ρ, μ, d, Q, S, r, q, k⟩ := q
  obtain ⟨S1, s1⟩ := S.set (i := i) r
  exact k _ _ ⟨m, _, μ, S1, s1, q⟩
/-- target = value -/
def sAsg (wa : WE) (g : WG) : WS := fun E ρ μ => wa ρ μ (fun d μ1 => g d ρ μ1 E.nx) fun c ks es μ' => E.xc c ks es ρ μ'
theorem ds_asg {tg : Expr} {wa : WE} {g : WG} (he : DE ex W X e wa) (hg : DG ex X tg g) (hs : swapsWithSole [tg] e pos.line X.env = pure false := by rfl) (hw : swappedStores [tg] e X.env = pure none := by rfl)
    (h1 : (assignEach [tg] X.env).map (·.2) = [assign tg X.env] := by rfl) : DSt ex W X (.Assign [tg] e pos) (sAsg wa g) := ps_weak (ps_asg he hg hs hw h1) fun D σ H q => by
  obtain ⟨Z, m, ρ, μ, E, S, q, kn, kr, kb, kc, kx⟩ := q
  refine ⟨Z, m, ρ, μ, _, _, S, q, fun v H1 P => ?_, fun cls d H' P => kx cls d σ H' (XSPost.of S P)⟩
  obtain ⟨m1, d, μ1, s1, r1, q1⟩ := P
  exact ⟨Z, m1, ρ, μ1, d, _, S.step s1, r1, q1, fun σ' H' P => kn σ' H' (SPost.from (SStep.of s1) P)⟩
theorem ds_set {i : Nat} {x : Str} {wa : WE} {pos' : Pos} (hN : X.N.Nodup) (hi : X.N[i]? = some x) (he : DE ex W X e wa) (hx : Loc X.env.scope x := by first | exact Or.inl rfl | exact Or.inr rfl)
    (hs : swapsWith e (some (.Name x pos')) pos.line X.env = pure false := by rfl) (hf : X.fn x = true ∨ X.env.scope.names.lookup x = some .local := by first | exact .inl rfl | exact .inr rfl | assumption) :
    DSt ex W X (.Assign [.Name x pos'] e pos) (sSet i wa) := ps_weak (ps_set (i := i) hN hi hx he hs hf) fun D σ H q => by
  obtain ⟨Z, m, ρ, μ, E, S, q, kn, kr, kb, kc, kx⟩ := q
  refine ⟨Z, m, ρ, μ, _, _, S, q, fun v H1 P => ?_, fun cls d H' P => kx cls d σ H' (XSPost.of S P)⟩
  obtain ⟨m1, d, μ1, s1, r1, q1⟩ := P
  obtain ⟨S1, s2⟩ := (S.step s1).set (i := i) r1
  exact kn _ _ ⟨m1, _, μ1, S1, (SStep.of s1).trans s2, q1⟩
/-- a, b = x, y and a, b, c = x, y, z: plain local names -/
def kPar2 (i j : Nat) (E : DEnds) (ρ : DS) : List D → Mu → Prop
  | [a, b], μ1 => E.nx ((ρ.set i (.v a)).set j (.v b)) μ1
  | _, _ => False
def kPar3 (i j l : Nat) (E : DEnds) (ρ : DS) : List D → Mu → Prop
  | [a, b, c], μ1 => E.nx (((ρ.set i (.v a)).set j (.v b)).set l (.v c)) μ1
  | _, _ => False
theorem kPar2_of {i j : Nat} {E : DEnds} {ρ : DS} {ds : List D} {μ : Mu} (h : kPar2 i j E ρ ds μ) : ∃ a b, ds = [a, b] ∧ E.nx ((ρ.set i (.v a)).set j (.v b)) μ := by
  match ds, h with
  | [a, b], h => exact ⟨a, b, rfl, h⟩
def sPar2 (i j : Nat) (wa : WA) : WS := fun E ρ μ => wa ρ μ (kPar2 i j E ρ) fun c ks es μ' => E.xc c ks es ρ μ'
def sPar3 (i j l : Nat) (wa : WA) : WS := fun E ρ μ => wa ρ μ (kPar3 i j l E ρ) fun c ks es μ' => E.xc c ks es ρ μ'
theorem ds_par2 {i j : Nat} {x y : Str} {a b : Expr} {ws : WA} {px py pt : Pos} {kt k2 pt2} (hc : X.calm = true) (hN : X.N.Nodup) (hi : X.N[i]? = some x) (hj : X.N[j]? = some y) (hij : i ≠ j)
    (ha : DA ex W X [a, b] ws) (hx : X.env.scope.names.lookup x = some .local := by rfl) (hy : X.env.scope.names.lookup y = some .local := by rfl)
    (hw : swappedStores [.Tuple [.Name x px, .Name y py] kt pt] (.Tuple [a, b] k2 pt2) X.env = pure (some [x, y]) := by rfl)
    (hs : swapsWithSole [.Tuple [.Name x px, .Name y py] kt pt] (.Tuple [a, b] k2 pt2) pos.line X.env = pure false := by rfl) :
    DSt ex W X (.Assign [.Tuple [.Name x px, .Name y py] kt pt] (.Tuple [a, b] k2 pt2) pos) (sPar2 i j ws) := ps_weak (ps_par hc hN hi hj hij hx hy ha hw hs) fun D σ H q => by
  obtain ⟨Z, m, ρ, μ, E, S, q, kn, kr, kb, kc, kx⟩ := q
  refine ⟨Z, m, ρ, μ, kPar2 i j E ρ, _, S, q, fun vs H1 P => ?_, fun cls d H' P => kx cls d σ H' (XSPost.of S P)⟩
  obtain ⟨m1, ds, μ1, s1, r1, q1⟩ := P
  obtain ⟨d1, d2, rfl, q1⟩ := kPar2_of q1
  obtain ⟨v1, _, rfl, h1, r1⟩ := r1.uncons
  obtain ⟨v2, _, rfl, h2, r1⟩ := r1.uncons
  rw [Reps] at r1
  subst r1
  obtain ⟨S1, t1⟩ := (S.step s1).set (i := i) h1
  obtain ⟨S2, t2⟩ := S1.set (i := j) (Rep.mono t1.pre t1.same _ _ h2)
  exact ⟨v1, v2, rfl, kn _ _ ⟨m1, _, μ1, S2, ((SStep.of s1).trans t1).trans t2, q1⟩⟩
/-- name op= e -/
def sAug (i : Nat) (f : F2) (wa : WE) : WS := fun E ρ μ => match ρ[i]? with
  | some (.v x) => wa ρ μ (fun y μ1 => f x y μ1 fun z μ2 => E.nx (ρ.set i (.v z)) μ2) fun c ks es μ' => E.xc c ks es ρ μ'
  | _ => False
theorem ds_aug {i : Nat} {x : Str} {wa : WE} {op : Operator} {r : R2} {f : F2} {pos' : Pos} (ho : OpR X (inplaceOp op) r) (hf2 : S2 (gx X ex) r f) (hN : X.N.Nodup) (hi : X.N[i]? = some x) (he : DE ex W X e wa) (hx : Loc X.env.scope x := by first | exact Or.inl rfl | exact Or.inr rfl)
    (hf : X.fn x = true ∨ X.env.scope.names.lookup x = some .local := by first | exact .inl rfl | exact .inr rfl | assumption) : DSt ex W X (.AugAssign (.Name x pos') op e pos) (sAug i f wa) := ps_weak (ps_aug (i := i) (ti := r) hN hi hx he (fun pins s σ H x y v u Q I rx ry q => ho pins s σ H x y v u Q I rx ry q) hf) fun D σ H q => by
  obtain ⟨Z, m, ρ, μ, E, S, q, kn, kr, kb, kc, kx⟩ := q
  unfold sAug at q
  split at q
  · rename_i d ed
    obtain ⟨v, e1, r0⟩ := S.val i d ed
    refine ⟨v, e1, Z, m, ρ, μ, _, _, S, q, fun u H1 P => ?_, fun cls d H' P => kx cls d σ H' (XSPost.of S P)⟩
    obtain ⟨m1, y, μ1, s1, r1, q1⟩ := P
    refine hf2 _ m1 μ1 H1 d y v u _ _ s1.mu (Rep.mono s1.pre s1.same _ _ r0) r1 q1 fun z H' P => ?_
    obtain ⟨m2, zd, μ2, s2, r2, q2⟩ := P
    obtain ⟨S2, t2⟩ := ((S.step s1).step s2).set (i := i) r2
    exact kn _ _ ⟨m2, _, μ2, S2, (SStep.of (s1.trans s2)).trans t2, q2⟩
  · exact q.elim
end

/-! ### a def -/
def startD (N : List Str) (ds : List D) : DS := ds.map Sl.v ++ List.replicate (N.length - ds.length) Sl.no
theorem start_own {Z : Addr → Prop} {N : List Str} {ds : List D} {vs : List V} : ownW Z (L2.start N vs) (startD N ds) = Z := by
  funext b
  apply propext
  constructor
  · rintro (h | ⟨i, es, e1⟩)
    · exact h
    · unfold startD at e1
      rw [List.getElem?_append] at e1
      split at e1
      · rw [List.getElem?_map] at e1
        cases q : ds[i]? with
        | none => rw [q] at e1; cases e1
        | some d => rw [q] at e1; cases e1
      · have := List.mem_of_getElem? e1
        rw [List.mem_replicate] at this
        exact nomatch this.2
  · exact fun h => .inl h
theorem SR.start {G : Gx} {Z : Addr → Prop} {m : List Addr} {H : Hp} {μ : Mu} {N : List Str} {ds : List D} {vs : List V} (M : MuOk G Z m μ H) (r : Reps G m (vis Z m H) ds vs) : SR G Z m (L2.start N vs) H (startD N ds) μ := by
  refine ⟨by simp [startD, L2.start, r.len], by rw [start_own]; exact M, fun i d e => ?_, fun i a es e => ?_, fun i j a es fs e1 e2 => ?_, fun i c ks es e1 => ?_⟩
  · unfold startD at e
    rw [List.getElem?_append] at e
    split at e
    · rename_i hl
      rw [List.getElem?_map] at e
      rw [List.length_map] at hl
      cases q : ds[i]? with
      | none => rw [q] at e; cases e
      | some d' =>
        rw [q] at e
        cases e
        obtain ⟨v, ev, rv⟩ := r.get q
        refine ⟨v, ?_, by rw [start_own]; exact rv⟩
        unfold L2.start
        rw [List.getElem?_append_left (by rw [List.length_map, ← r.len]; exact hl), List.getElem?_map, ev]
        rfl
    · have := List.mem_of_getElem? e
      rw [List.mem_replicate] at this
      exact nomatch this.2
  · unfold startD at e
    rw [List.getElem?_append] at e
    split at e
    · rw [List.getElem?_map] at e
      cases q : ds[i]? with
      | none => rw [q] at e; cases e
      | some d' => rw [q] at e; cases e
    · have := List.mem_of_getElem? e
      rw [List.mem_replicate] at this
      exact nomatch this.2
  · unfold startD at e1
    rw [List.getElem?_append] at e1
    split at e1
    · rw [List.getElem?_map] at e1
      cases q : ds[i]? with
      | none => rw [q] at e1; cases e1
      | some d' => rw [q] at e1; cases e1
    · have := List.mem_of_getElem? e1
      rw [List.mem_replicate] at this
      exact nomatch this.2
  · unfold startD at e1
    rw [List.getElem?_append] at e1
    split at e1
    · rw [List.getElem?_map] at e1
      cases q : ds[i]? with
      | none => rw [q] at e1; cases e1
      | some d' => rw [q] at e1; cases e1
    · have := List.mem_of_getElem? e1
      rw [List.mem_replicate] at this
      exact nomatch this.2
section
variable {P : Program} {w : World} {K : PySem.W.Frag} {mg : Str → Option Value} {base : Heap}
/-- the ends of a def's body -/
def defE (Q : D → Mu → Prop) (Xd : XD) : DEnds := { nx := fun _ μ => Q .non μ, rt := Q, xc := fun c ks es _ μ => Xd c ks es μ }
theorem fnG_of {x qual : Str} {params : Arguments} {body : List Stmt} {scope : Scope} {dvs : List V} {kws : List (Str × V)} {f : Addr} {fd : FuncData} {N ps : List Str} {k : Nat} {sp : Sp} (F : FunD K x qual params body scope dvs kws f fd) (S : FnScope N ps scope)
    (len : ∀ vs H Q E, sp vs H Q E → vs.length = ps.length)
    (hbody : ∀ (cdv : Value) (A : Around) (fr : List Env) (s : Shared) (H : Hp) (vs : List V) (Q : VK) (E : XK), Room k (A.deeper (envOfC qual scope s.heap.objs.size f cdv)) → (A.deeper (envOfC qual scope s.heap.objs.size f cdv)).guards = some [] → sp vs H Q E →
      ∃ t, PSs (cxOf (L2.CX P w) P w K mg base N qual scope f cdv A fr s H E) body t ∧ t { nx := fun _ H' => Q .non H', rt := Q } (L2.start N vs) H) : FnG P w K mg base (k + 1) f fd ps sp := by
  obtain ⟨oc, od, dV, kV, doc, pm, an, cdv, ct, osl, rfl, lk, hcd, _, _⟩ := F.ex
  refine ⟨len, fun A fr s H args us vs Q E room gd env bd rv hsp => ?_⟩
  have hlen := len _ _ _ _ hsp
  have kin : K.In s.heap := env.mod.kin.keeps fun b o e => (env.bs b o e).1
  have nolim : s.heap.NoLimit := env.mod.nolimit.keeps fun b o e => (env.bs b o e).1
  have kinds : ∀ y ∈ ps.zip us, scope.names.lookup y.1 = some .local ∨ (scope.names.lookup y.1 = some .cell ∧ ((cellsFrom (s.heap.objs.size + 1) scope.names []).lookup y.1).isSome = true) := by
    rintro ⟨n, v⟩ hy
    exact (S.par n (List.of_mem_zip hy).1).elim .inl fun q => .inr ⟨q, PySem.W.cellsFrom_some _ _ _ (.inl q)⟩
  refine codeAny_call_function room.depth (kin _ _ lk) rfl S.co S.gen rfl (PySem.W.codeRec_of kin hcd) (bd _ _ _ _ ?_)
  refine wpAny_newFunctionEnv_cells S.kind kinds fun env1 he1 s1 made => ?_
  subst he1
  refine ⟨nolim.keeps made.toInCall.keep, codeAny_func ?_⟩
  obtain ⟨t, ht, hq⟩ := hbody cdv A fr s H vs Q E (room.deeper _) gd hsp
  have I : Inv (cxOf (L2.CX P w) P w K mg base N qual scope f cdv A fr s H E) [] (L2.start N vs) H s1 := inv_start S room.hd env hlen rv made
  refine wpAny_mono (ht.run [] s1 (L2.start N vs) H _ I hq) (fun fl s2 hs => ?_) fun er s2 hs => hs
  match fl, hs with
  | .ret u, ⟨v, σ2, H2, J, rv2, q⟩ => exact ⟨v, H2, J.os, J.bare, J.base, J.hok, rv2, q⟩
  | .next, ⟨σ2, H2, J, q⟩ => exact ⟨V.non, H2, J.os, J.bare, J.base, J.hok, rfl, q⟩
  | .brk, ⟨_, _, _, q⟩ => exact q.elim
  | .cont, ⟨_, _, _, q⟩ => exact q.elim
theorem def_ok {x qual : Str} {params : Arguments} {body : List Stmt} {scope : Scope} {dvs : List V} {kws : List (Str × V)} {f : Addr} {fd : FuncData} {N ps : List Str} {k : Nat} {sp : DSp} {wb : WS} (F : FunD K x qual params body scope dvs kws f fd) (S : FnScope N ps scope)
    (len : ∀ ds μ Q Xd, sp ds μ Q Xd → ds.length = ps.length)
    (hbody : ∀ (cdv : Value) (A : Around) (fr : List Env) (s : Shared) (H : Hp) (E : XK), Room k (A.deeper (envOfC qual scope s.heap.objs.size f cdv)) → (A.deeper (envOfC qual scope s.heap.objs.size f cdv)).guards = some [] →
      DSs none (fun cls d _ H' => E cls d H') (cxOf (L2.CX P w) P w K mg base N qual scope f cdv A fr s H E) body wb)
    (hw : ∀ ds μ Q Xd, sp ds μ Q Xd → wb (defE Q Xd) (startD N ds) μ) : FnG P w K mg base (k + 1) f fd ps (toSp ⟨K, mg, none⟩ sp) := by
  refine fnG_of F S (fun vs H Q E h => ?_) (fun cdv A outer s H vs Q E hr hgd h => ?_)
  · obtain ⟨Z, m, μ, ds, Q', Xd, M, r, q, _⟩ := h
    rw [← r.len]
    exact len _ _ _ _ q
  · refine ⟨_, hbody cdv A outer s H E hr hgd, ?_⟩
    obtain ⟨Z, m, μ, ds, Q', Xd, M, r, q, kq, kx⟩ := h
    refine ⟨Z, m, startD N ds, μ, defE Q' Xd, .start M r, hw ds μ Q' Xd q, fun σ' H' P => ?_, fun v H' P => ?_, fun σ' H' P => ?_, fun σ' H' P => ?_, fun cls d σ' H' P => ?_⟩
    · obtain ⟨m', ρ', μ', S', s', q'⟩ := P
      have z := s'.same
      rw [start_own] at z
      exact kq _ _ ⟨m', .non, μ', ⟨s'.pre, s'.hid, S'.mu.out_own, z.trans vis_own⟩, by rw [Rep], q'⟩
    · obtain ⟨m', d, μ', h1, h2, h3, h4, h5, h6⟩ := P
      rw [start_own] at h4
      exact kq _ _ ⟨m', d, μ', ⟨h1, h2, h3, h4⟩, h5, h6⟩
    · obtain ⟨m', ρ', μ', S', s', q'⟩ := P
      exact q'.elim
    · obtain ⟨m', ρ', μ', S', s', q'⟩ := P
      exact q'.elim
    · obtain ⟨m', c, ks, es, ρ', μ', C, dd, vs', S', s', e1, e2, e3, e4, e5, e6, q'⟩ := P
      have z := s'.same
      rw [start_own] at z
      exact kx _ _ _ ⟨m', c, ks, es, μ', C, dd, vs', ⟨s'.pre, s'.hid, S'.mu.out_own, z.trans vis_own⟩, e1, e2, e3, vis_own _ _ e4, e5, Reps.mono (List.prefix_refl _) vis_own _ _ e6, q'⟩
end
end DL

set_option Elab.async false
set_option linter.all false
set_option maxRecDepth 100000
set_option maxHeartbeats 4000000
set_option autoImplicit false
namespace DL
open PySem PySem.Spec PyProof.Rows L2
/-! ### operations on ints -/
def fII (C : Int → Int → Prop) (g : Int → Int → Int) : F2
  | .int i, .int j, μ, Q => C i j ∧ Q (.int (g i j)) μ
  | _, _, _, _ => False
def fII0 (g : Int → Int → Int) : F2
  | .int i, .int j, μ, Q => Q (.int (g i j)) μ
  | _, _, _, _ => False
def fIB (g : Int → Int → Bool) : F2
  | .int i, .int j, μ, Q => Q (.bl (g i j)) μ
  | _, _, _, _ => False
def fI (g : Int → Int) : F1
  | .int i, μ, Q => Q (.int (g i)) μ
  | _, _, _ => False
theorem fII_of {C : Int → Int → Prop} {g : Int → Int → Int} {x y : D} {μ : Mu} {Q : D → Mu → Prop} (h : fII C g x y μ Q) : ∃ i j, x = .int i ∧ y = .int j ∧ C i j ∧ Q (.int (g i j)) μ := by
  unfold fII at h
  split at h
  · exact ⟨_, _, rfl, rfl, h⟩
  · exact h.elim
theorem fII0_of {g : Int → Int → Int} {x y : D} {μ : Mu} {Q : D → Mu → Prop} (h : fII0 g x y μ Q) : ∃ i j, x = .int i ∧ y = .int j ∧ Q (.int (g i j)) μ := by
  unfold fII0 at h
  split at h
  · exact ⟨_, _, rfl, rfl, h⟩
  · exact h.elim
theorem fIB_of {g : Int → Int → Bool} {x y : D} {μ : Mu} {Q : D → Mu → Prop} (h : fIB g x y μ Q) : ∃ i j, x = .int i ∧ y = .int j ∧ Q (.bl (g i j)) μ := by
  unfold fIB at h
  split at h
  · exact ⟨_, _, rfl, rfl, h⟩
  · exact h.elim
theorem s2_II {G : Gx} {C : Int → Int → Prop} {g : Int → Int → Int} : S2 G (rI C fun i j => .int (g i j)) (fII C g) := by
  intro Z m μ H x y u v Q Q' M rx ry h k
  obtain ⟨i, j, rfl, rfl, c, q⟩ := fII_of h
  rw [Rep] at rx ry
  exact ⟨i, j, rx, ry, c, k _ _ (.now M (by rw [Rep]) q)⟩
theorem s2_II0 {G : Gx} {g : Int → Int → Int} : S2 G (rI0 fun i j => .int (g i j)) (fII0 g) := by
  intro Z m μ H x y u v Q Q' M rx ry h k
  obtain ⟨i, j, rfl, rfl, q⟩ := fII0_of h
  rw [Rep] at rx ry
  exact ⟨i, j, rx, ry, k _ _ (.now M (by rw [Rep]) q)⟩
theorem s2_IB {G : Gx} {g : Int → Int → Bool} : S2 G (rI0 fun i j => .bl (g i j)) (fIB g) := by
  intro Z m μ H x y u v Q Q' M rx ry h k
  obtain ⟨i, j, rfl, rfl, q⟩ := fIB_of h
  rw [Rep] at rx ry
  exact ⟨i, j, rx, ry, k _ _ (.now M (by rw [Rep]) q)⟩
theorem fI_of {g : Int → Int} {x : D} {μ : Mu} {Q : D → Mu → Prop} (h : fI g x μ Q) : ∃ i, x = .int i ∧ Q (.int (g i)) μ := by
  unfold fI at h
  split at h
  · exact ⟨_, rfl, h⟩
  · exact h.elim
theorem s1_I {G : Gx} {g : Int → Int} : S1 G (rU fun i => .int (g i)) (fI g) := by
  intro Z m μ H x u Q Q' M rx h k
  obtain ⟨i, rfl, q⟩ := fI_of h
  rw [Rep] at rx
  exact ⟨i, rx, k _ _ (.now M (by rw [Rep]) q)⟩
abbrev fAdd : F2 := fII0 fun i j => i + j
abbrev fSub : F2 := fII0 fun i j => i - j
def CM (i j : Int) : Prop := CMul i j ∨ CMulW i j
theorem op_mulU {X : Cx} : OpR X (binaryOp .Mult) (rI CM fun i j => .int (i * j)) := by
  intro pins s σ H x y v u Q I rx ry h
  obtain ⟨i, j, e1, e2, c, q⟩ := h
  rcases c with c | c
  · exact op_mul pins s σ H x y v u Q I rx ry ⟨i, j, e1, e2, c, q⟩
  · exact op_mulW pins s σ H x y v u Q I rx ry ⟨i, j, e1, e2, c, q⟩
abbrev fMul : F2 := fII CM fun i j => i * j
abbrev fDiv : F2 := fII CDivW fun i j => i / j
abbrev fMod : F2 := fII (fun _ j => 0 < j) fun i j => i % j
abbrev fPow : F2 := fII CPow fun i j => i ^ j.toNat
abbrev fNeg : F1 := fI fun i => -i
abbrev fLt : F2 := fIB fun i j => decide (i < j)
abbrev fLe : F2 := fIB fun i j => decide (i ≤ j)
abbrev fGt : F2 := fIB fun i j => decide (j < i)
abbrev fGe : F2 := fIB fun i j => decide (j ≤ i)
abbrev fEqI : F2 := fIB fun i j => decide (i = j)
abbrev fNeI : F2 := fIB fun i j => !decide (i = j)
/-- is, is not of a value and None -/
def isNon : D → Bool
  | .non => true
  | _ => false
def fIsN : F2
  | x, .non, μ, Q => Q (.bl (isNon x)) μ
  | _, _, _, _ => False
def fNotN : F2
  | x, .non, μ, Q => Q (.bl (!isNon x)) μ
  | _, _, _, _ => False
theorem rep_non {G : Gx} {m : List Addr} {E : Hp} {x : D} {u : V} (r : Rep G m E x u) : decide (u = .non) = isNon x := by
  cases x <;> rw [Rep] at r
  case non => subst r; rfl
  case bl => subst r; rfl
  case int => subst r; rfl
  case str => subst r; rfl
  case ty => subst r; rfl
  case tup => obtain ⟨a, vs, rfl, _⟩ := r; rfl
  case lst => obtain ⟨a, vs, rfl, _⟩ := r; rfl
  case frl => obtain ⟨a, vs, rfl, _⟩ := r; rfl
  case obj => obtain ⟨a, C, dx, vs, rfl, _⟩ := r; rfl
  case loc => obtain ⟨a, rfl, _⟩ := r; rfl
  case cls => obtain ⟨C, _, rfl⟩ := r; rfl
  case opq => obtain ⟨a, rfl, _⟩ := r; rfl
theorem s2_isN {G : Gx} : S2 G (fun x y H Q => y = .non ∧ Q (.bl (decide (x = .non))) H) fIsN := by
  intro Z m μ H x y u v Q Q' M rx ry h k
  unfold fIsN at h
  split at h
  · rw [Rep] at ry
    refine ⟨ry, k _ _ (.now M (d := .bl _) ?_ h)⟩
    rw [Rep, rep_non rx]
  · exact h.elim
section
variable {ex : Option (Addr × Addr × Addr)} {W : WX} {X : Cx} {a b c : Expr} {wa wb wc : WE} {pos : Pos}
theorem de_sub (ha : DE ex W X a wa) (hb : DE ex W X b wb) : DE ex W X (.BinOp a .Sub b pos) (w2 fSub wa wb) := de_op op_sub s2_II0 ha hb
theorem de_div (ha : DE ex W X a wa) (hb : DE ex W X b wb) : DE ex W X (.BinOp a .FloorDiv b pos) (w2 fDiv wa wb) := de_op op_fdivW s2_II ha hb
theorem de_mod (ha : DE ex W X a wa) (hb : DE ex W X b wb) : DE ex W X (.BinOp a .Mod b pos) (w2 fMod wa wb) := de_op op_mod s2_II ha hb
theorem de_pow (ha : DE ex W X a wa) (hb : DE ex W X b wb) : DE ex W X (.BinOp a .Pow b pos) (w2 fPow wa wb) := de_op op_pow s2_II ha hb
theorem de_neg (ha : DE ex W X a wa) : DE ex W X (.UnaryOp .USub a pos) (w1 fNeg wa) := de_un un_neg s1_I ha
end
/-! ### data of the library, and == by it -/
mutual
def toP : D → Option PyData
  | .non => some .none
  | .bl b => some (.bool b)
  | .int i => some (.int i)
  | .str s => some (.str s)
  | .tup ds => (toPs ds).map .tuple
  | .lst ds => (toPs ds).map .list
  | .frl ds => (toPs ds).map .list
  | _ => none
def toPs : List D → Option (List PyData)
  | [] => some []
  | d :: ds => match toP d, toPs ds with
    | some p, some ps => some (p :: ps)
    | _, _ => none
end
mutual
theorem dp_of {G : Gx} {m : List Addr} {E H : Hp} (hE : Same E H) : ∀ (d : D) (v : V) (p : PyData), Rep G m E d v → toP d = some p → Dp G.K H v p
  | .non, v, p, r, e => by rw [Rep] at r; rw [toP] at e; cases e; subst r; exact .non
  | .bl b, v, p, r, e => by rw [Rep] at r; rw [toP] at e; cases e; subst r; exact .bl b
  | .int i, v, p, r, e => by rw [Rep] at r; rw [toP] at e; cases e; subst r; exact .int i
  | .str s, v, p, r, e => by rw [Rep] at r; rw [toP] at e; cases e; subst r; exact .str s
  | .tup ds, v, p, r, e => by
    rw [Rep] at r; rw [toP] at e
    obtain ⟨a, vs, rfl, s, q⟩ := r
    cases h : toPs ds with
    | none => rw [h] at e; cases e
    | some ps =>
      rw [h] at e; cases e
      exact .tup (SqT.same hE s) (dps_of hE ds vs ps q h)
  | .lst ds, v, p, r, e => by
    rw [Rep] at r; rw [toP] at e
    obtain ⟨a, vs, rfl, s, q⟩ := r
    cases h : toPs ds with
    | none => rw [h] at e; cases e
    | some ps =>
      rw [h] at e; cases e
      exact .lst (.inl (.inl (hE _ _ s))) (dps_of hE ds vs ps q h)
  | .frl ds, v, p, r, e => by
    rw [Rep] at r; rw [toP] at e
    obtain ⟨a, vs, rfl, s, q⟩ := r
    cases h : toPs ds with
    | none => rw [h] at e; cases e
    | some ps =>
      rw [h] at e; cases e
      exact .lst (Same.seq hE s) (dps_of hE ds vs ps q h)
  | .obj _ _ _, v, p, r, e => by simp [toP] at e
  | .loc _, v, p, r, e => by simp [toP] at e
  | .ty _, v, p, r, e => by simp [toP] at e
  | .cls _, v, p, r, e => by simp [toP] at e
  | .opq _, v, p, r, e => by simp [toP] at e
theorem dps_of {G : Gx} {m : List Addr} {E H : Hp} (hE : Same E H) : ∀ (ds : List D) (vs : List V) (ps : List PyData), Reps G m E ds vs → toPs ds = some ps → DpAll G.K H vs ps
  | [], vs, ps, r, e => by rw [Reps] at r; rw [toPs] at e; cases e; subst r; exact .nil
  | d :: ds, vs, ps, r, e => by
    obtain ⟨v, t, rfl, h, q⟩ := r.uncons
    rw [toPs] at e
    cases h1 : toP d with
    | none => rw [h1] at e; cases e
    | some p =>
      cases h2 : toPs ds with
      | none => rw [h1, h2] at e; cases e
      | some ps' =>
        rw [h1, h2] at e; cases e
        exact .cons (dp_of hE d v p h h1) (dps_of hE ds t ps' q h2)
end
/-- == of data -/
def eqD (x y : D) (k : Bool → Prop) : Prop := ∃ p q, toP x = some p ∧ toP y = some q ∧ SeqAt.shaped p = true ∧ SeqAt.shaped q = true ∧ k (PyData.eqv p q)
def fEqD : F2 := fun x y μ Q => eqD x y fun b => Q (.bl b) μ
def fNeD : F2 := fun x y μ Q => eqD x y fun b => Q (.bl (!b)) μ
theorem s2_eqD {G : Gx} : S2 G (rEqD G.K) fEqD := by
  intro Z m μ H x y u v Q Q' M rx ry h k
  obtain ⟨p, q, e1, e2, s1, s2, h⟩ := h
  exact ⟨p, q, dp_of vis_le _ _ _ rx e1, dp_of vis_le _ _ _ ry e2, s1, s2, k _ _ (.now M (by rw [Rep]) h)⟩
theorem s2_neD {G : Gx} : S2 G (rNeD G.K) fNeD := by
  intro Z m μ H x y u v Q Q' M rx ry h k
  obtain ⟨p, q, e1, e2, s1, s2, h⟩ := h
  exact ⟨p, q, dp_of vis_le _ _ _ rx e1, dp_of vis_le _ _ _ ry e2, s1, s2, k _ _ (.now M (by rw [Rep]) h)⟩
/-! ### items, lengths, cuts -/
/-- the items of a list or a tuple -/
def itemsD (d : D) (μ : Mu) : Option (List D) := match d with
  | .tup ds => some ds
  | .lst ds => some ds
  | .frl ds => some ds
  | .loc n => match μ[n]? with
    | some (.lst ds) => some ds
    | _ => none
  | _ => none
def fIx : F2 := fun x y μ Q => match itemsD x μ, y with
  | some ds, .int i => match atI ds i with
    | some d => Q d μ
    | none => False
  | _, _ => False
theorem atI_rep {G : Gx} {m : List Addr} {E : Hp} {ds : List D} {vs : List V} {i : Int} {d : D} (r : Reps G m E ds vs) (h : atI ds i = some d) : ∃ v, atI vs i = some v ∧ Rep G m E d v := by
  unfold atI at h ⊢
  rw [← r.len]
  cases e : ixN ds.length i with
  | none => rw [e] at h; cases h
  | some j =>
    rw [e] at h
    obtain ⟨v, e1, q⟩ := r.get (show ds[j]? = some d from h)
    exact ⟨v, e1, q⟩
theorem items_rep {G : Gx} {Z : Addr → Prop} {m : List Addr} {μ : Mu} {H : Hp} {x : D} {u : V} {ds : List D} (M : MuOk G Z m μ H) (r : Rep G m (vis Z m H) x u) (h : itemsD x μ = some ds) :
    ∃ a vs, u = .ref a ∧ (SqL G.K H a vs ∨ SqT G.K H a vs) ∧ Reps G m (vis Z m H) ds vs := by
  unfold itemsD at h
  split at h
  · cases h
    rw [Rep] at r
    obtain ⟨a, vs, e, s, q⟩ := r
    exact ⟨a, vs, e, .inr (SqT.same vis_le s), q⟩
  · cases h
    rw [Rep] at r
    obtain ⟨a, vs, e, s, q⟩ := r
    exact ⟨a, vs, e, .inl (.inl (.inl (vis_le _ _ s))), q⟩
  · cases h
    rw [Rep] at r
    obtain ⟨a, vs, e, s, q⟩ := r
    exact ⟨a, vs, e, .inl (Same.seq vis_le s), q⟩
  · rename_i n
    split at h
    · rename_i es e1
      cases h
      rw [Rep] at r
      obtain ⟨a, e, s⟩ := r
      obtain ⟨vs, h1, h2⟩ := M.cell n _ a e1 s
      exact ⟨a, vs, e, .inl (.inl (.inl h1)), h2⟩
    · cases h
  · cases h
def rIxLT (K : PySem.W.Frag) : R2 := fun x y H Q => rIxL K x y H Q ∨ rIxT K x y H Q
theorem s2_ix {G : Gx} : S2 G (rIxLT G.K) fIx := by
  intro Z m μ H x y u v Q Q' M rx ry h k
  unfold fIx at h
  split at h
  · rename_i ds i e1
    split at h
    · rename_i d e2
      rw [Rep] at ry
      obtain ⟨a, vs, e, s, q⟩ := items_rep M rx e1
      obtain ⟨w, ew, rw'⟩ := atI_rep q e2
      have fin := k w H (.now M rw' h)
      rcases s with s | s
      · exact .inl ⟨a, vs, i, w, e, ry, s, ew, fin⟩
      · exact .inr ⟨a, vs, i, w, e, ry, s, ew, fin⟩
    · exact h.elim
  · exact h.elim
def fLen : FN := fun xs μ Q => match xs with
  | [x] => match itemsD x μ with
    | some ds => Q (.int ds.length) μ
    | none => False
  | _ => False
theorem sn_len {G : Gx} : SN G (fun xs H Q => ∃ p ys, xs = [.ref p] ∧ (SqL G.K H p ys ∨ SqT G.K H p ys) ∧ Q (.int ys.length) H) fLen := by
  intro Z m μ H xs us Q Q' M r h k
  unfold fLen at h
  split at h
  · rename_i x
    split at h
    · rename_i ds e1
      obtain ⟨v, t, rfl, r1, r2⟩ := r.uncons
      rw [Reps] at r2
      subst r2
      obtain ⟨a, vs, rfl, s, q⟩ := items_rep M r1 e1
      exact ⟨a, vs, rfl, s, k _ _ (.now M (by rw [Rep, q.len]) h)⟩
    · exact h.elim
  · exact h.elim
/-- the cut of a list -/
def cutD (ds : List D) (lo hi : Option Int) : List D := (ds.drop (HT.sIx ds.length 0 lo)).take (HT.sIx ds.length ds.length hi - HT.sIx ds.length 0 lo)
theorem cut_rep {G : Gx} {m : List Addr} {E : Hp} {ds : List D} {vs : List V} {lo hi : Option Int} (r : Reps G m E ds vs) : Reps G m E (cutD ds lo hi) (cutV vs lo hi) := by
  unfold cutD cutV
  rw [← r.len]
  exact (r.drop _).take _
/-- a part of a slice -/
abbrev WO := DS → Mu → (Option Int → Mu → Prop) → XD → Prop
def oNone : WO := fun _ μ Q _ => Q none μ
def intOr (d : D) (Q : Int → Prop) : Prop := match d with
  | .int i => Q i
  | _ => False
theorem intOr_of {d : D} {Q : Int → Prop} (h : intOr d Q) : ∃ i, d = .int i ∧ Q i := by
  cases d <;> first | exact h.elim | exact ⟨_, rfl, h⟩
def oSome (wa : WE) : WO := fun ρ μ Q Xd => wa ρ μ (fun d μ1 => intOr d fun i => Q (some i) μ1) Xd
def OPost (G : Gx) (Z : Addr → Prop) (m : List Addr) (H : Hp) (Q : Option Int → Mu → Prop) (o : Option Int) (H' : Hp) : Prop := ∃ m' μ', Step G Z m H m' μ' H' ∧ Q o μ'
def liftO (G : Gx) (W : WX) (w : WO) : TO := fun σ H Q' => ∃ Z m ρ μ Q Xd, SR G Z m σ H ρ μ ∧ w ρ μ Q Xd ∧ (∀ o H', OPost G (ownW Z σ ρ) m H Q o H' → Q' o H') ∧ ∀ cls d H', XPost G (ownW Z σ ρ) m H Xd cls d H' → W cls d σ H'
abbrev DO (ex : Option (Addr × Addr × Addr)) (W : WX) (X : Cx) (e : Option Expr) (w : WO) : Prop := PO X e (liftO (gx X ex) W w)
theorem po_weak {X : Cx} {e : Option Expr} {t t' : TO} (h : PO X e t) (k : ∀ σ H Q, t' σ H Q → t σ H Q) : PO X e t' := ⟨fun pins s σ H Q I q => h.run pins s σ H Q I (k σ H Q q)⟩
def lstOr (d : D) (Q : List D → Prop) : Prop := match d with
  | .lst ds => Q ds
  | .frl ds => Q ds
  | _ => False
theorem lstOr_of {d : D} {Q : List D → Prop} (h : lstOr d Q) : ∃ ds, (d = .lst ds ∨ d = .frl ds) ∧ Q ds := by
  unfold lstOr at h
  split at h
  · exact ⟨_, .inl rfl, h⟩
  · exact ⟨_, .inr rfl, h⟩
  · exact h.elim
theorem lstOr_rep {G : Gx} {m : List Addr} {E : Hp} {d : D} {u : V} {Q : List D → Prop} (h : lstOr d Q) (r : Rep G m E d u) : ∃ ds a vs, u = .ref a ∧ SqL G.K E a vs ∧ Reps G m E ds vs ∧ Q ds := by
  obtain ⟨ds, e | e, q⟩ := lstOr_of h
  · subst e
    rw [Rep] at r
    obtain ⟨a, vs, e, s, r⟩ := r
    exact ⟨_, a, vs, e, .inl (.inl s), r, q⟩
  · subst e
    rw [Rep] at r
    obtain ⟨a, vs, e, s, r⟩ := r
    exact ⟨_, a, vs, e, s, r, q⟩
theorem SqL.same' {K : PySem.W.Frag} {H H' : Hp} {a : Addr} {xs : List V} (e : Same H H') (h : SqL K H a xs) : SqL K H' a xs := Same.seq e h
def wSl (wa : WE) (lo hi : WO) : WE := fun ρ μ Q Xd => wa ρ μ (fun x μ1 => lo ρ μ1 (fun l μ2 => hi ρ μ2 (fun u μ3 => lstOr x fun ds => Q (.lst (cutD ds l u)) μ3) Xd) Xd) Xd
section
variable {ex : Option (Addr × Addr × Addr)} {W : WX} {X : Cx} {a b c : Expr} {wa wb wc : WE} {wl wh : WO} {lo hi : Option Expr} {pos p2 : Pos}
theorem do_none : DO ex W X none oNone := po_weak po_none fun σ H Q' q => by
  obtain ⟨Z, m, ρ, μ, Q, Xd, S, q, k, kx⟩ := q
  exact k _ _ ⟨m, μ, .refl S.mu, q⟩
theorem do_some (h : DE ex W X a wa) : DO ex W X (some a) (oSome wa) := po_weak (po_some h) fun σ H Q' q => by
  obtain ⟨Z, m, ρ, μ, Q, Xd, S, q, k, kx⟩ := q
  refine ⟨Z, m, ρ, μ, _, Xd, S, q, fun v H1 P => ?_, kx⟩
  obtain ⟨m1, d, μ1, s1, r1, q1⟩ := P
  obtain ⟨i, rfl, q2⟩ := intOr_of q1
  rw [Rep] at r1
  exact ⟨i, r1, k _ _ ⟨m1, μ1, s1, q2⟩⟩
theorem de_slice (ha : DE ex W X a wa) (hl : DO ex W X lo wl) (hh : DO ex W X hi wh) : DE ex W X (.Subscript a (.Slice lo hi none p2) pos) (wSl wa wl wh) := pe_weak (pe_slice sl_list ha hl hh) fun σ H Q' q => by
  refine lift_bind (f := fun x ρ μ1 Q Xd => wl ρ μ1 (fun l μ2 => wh ρ μ2 (fun u μ3 => lstOr x fun ds => Q (.lst (cutD ds l u)) μ3) Xd) Xd) q fun Z m ρ μ Q Xd x v H1 S r1 q1 k kx => ?_
  refine ⟨Z, m, ρ, μ, _, Xd, S, q1, fun l H2 P => ?_, kx⟩
  obtain ⟨m2, μ2, s2, q2⟩ := P
  refine ⟨Z, m2, ρ, μ2, _, Xd, S.step s2, q2, fun u H3 P => ?_, fun cls d H' P => kx cls d H' (XPost.from s2 P)⟩
  obtain ⟨m3, μ3, s3, q3⟩ := P
  obtain ⟨ds, p, vs, e, sq, rs, q4⟩ := lstOr_rep q3 (Rep.mono (s2.trans s3).pre (s2.trans s3).same _ _ r1)
  refine ⟨p, vs, e, SqL.same' vis_le sq, fun np hnp => k _ _ ?_⟩
  have s4 := Step.laid (o := .lst (cutV vs l u)) s3.mu hnp
  refine VPost.from (s2.trans s3) ⟨m3, _, μ3, s4, ?_, q4⟩
  rw [Rep]
  refine ⟨np, _, rfl, ?_, cut_rep (Reps.mono s4.pre s4.same _ _ rs)⟩
  rw [vis_upd s3.mu hnp, upd_same]
theorem de_item (ha : DE ex W X a wa) (hb : DE ex W X b wb) (hs : PlainIx b := by exact fun _ _ => rfl) : DE ex W X (.Subscript a b pos) (w2 fIx wa wb) := de_ix (ix_list.or ix_tup) (s2_ix (G := gx X ex)) ha hb hs
end
/-! ### lists put together -/
def fCat : F2
  | .lst a, .lst b, μ, Q => a.length + b.length ≤ sizeLine ∧ Q (.lst (a ++ b)) μ
  | _, _, _, _ => False
theorem s2_cat {G : Gx} : S2 G rCat fCat := by
  intro Z m μ H x y u v Q Q' M rx ry h k
  unfold fCat at h
  split at h
  · obtain ⟨hl, h⟩ := h
    rw [Rep] at rx ry
    obtain ⟨p, vs, rfl, sp, rp⟩ := rx
    obtain ⟨q, us, rfl, sq, rq⟩ := ry
    refine ⟨p, q, vs, us, rfl, rfl, vis_le _ _ sp, vis_le _ _ sq, by rw [← rp.len, ← rq.len]; exact hl, fun t nt => k _ _ ?_⟩
    have s4 := Step.laid (o := .lst (vs ++ us)) M nt
    refine ⟨m, _, μ, s4, ?_, h⟩
    rw [Rep]
    refine ⟨t, _, rfl, ?_, Reps.append (Reps.mono s4.pre s4.same _ _ rp) (Reps.mono s4.pre s4.same _ _ rq)⟩
    rw [vis_upd M nt, upd_same]
  · exact h.elim
def fRep : F2
  | .lst a, .int n, μ, Q => -(2 ^ 63) ≤ n ∧ n < 2 ^ 63 ∧ a.length * n.toNat ≤ sizeLine ∧ Q (.lst (List.replicate n.toNat a).flatten) μ
  | _, _, _, _ => False
theorem Reps.reps {G : Gx} {m : List Addr} {E : Hp} {ds : List D} {vs : List V} (r : Reps G m E ds vs) : ∀ n : Nat, Reps G m E (List.replicate n ds).flatten (List.replicate n vs).flatten
  | 0 => Reps.nil
  | n + 1 => by
    rw [List.replicate_succ, List.replicate_succ, List.flatten_cons, List.flatten_cons]
    exact Reps.append r (Reps.reps r n)
theorem fRep_of {x y : D} {μ : Mu} {Q : D → Mu → Prop} (h : fRep x y μ Q) : ∃ a n, x = .lst a ∧ y = .int n ∧ -(2 ^ 63) ≤ n ∧ n < 2 ^ 63 ∧ a.length * n.toNat ≤ sizeLine ∧ Q (.lst (List.replicate n.toNat a).flatten) μ := by
  unfold fRep at h
  split at h
  · exact ⟨_, _, rfl, rfl, h⟩
  · exact h.elim
theorem s2_rep {G : Gx} : S2 G rRep fRep := by
  intro Z m μ H x y u v Q Q' M rx ry h k
  obtain ⟨a, n, rfl, rfl, h1, h2, hl, h⟩ := fRep_of h
  rw [Rep] at rx
  rw [Rep] at ry
  obtain ⟨p, vs, rfl, sp, rp⟩ := rx
  refine ⟨p, n, vs, rfl, ry, vis_le _ _ sp, h1, h2, by rw [← rp.len]; exact hl, fun t nt => k _ _ ?_⟩
  have s4 := Step.laid (o := .lst (List.replicate n.toNat vs).flatten) M nt
  refine ⟨m, _, μ, s4, ?_, h⟩
  rw [Rep]
  refine ⟨t, _, rfl, ?_, Reps.reps (Reps.mono s4.pre s4.same _ _ rp) _⟩
  rw [vis_upd M nt, upd_same]
/-! ### calls of built-ins -/
def fInt1 : FN := fun xs μ Q => match xs with
  | [.int i] => Q (.int i) μ
  | [.bl b] => Q (.int (if b then 1 else 0)) μ
  | _ => False
theorem sn_int1 {G : Gx} : SN G (fun xs H Q => (∃ i, xs = [.int i] ∧ Q (.int i) H) ∨ ∃ k, xs = [.bl k] ∧ Q (.int (if k then 1 else 0)) H) fInt1 := by
  intro Z m μ H xs us Q Q' M r h k
  unfold fInt1 at h
  split at h
  · obtain ⟨v, t, rfl, r1, r2⟩ := r.uncons
    rw [Reps] at r2
    rw [Rep] at r1
    subst r1 r2
    exact .inl ⟨_, rfl, k _ _ (.now M (by rw [Rep]) h)⟩
  · obtain ⟨v, t, rfl, r1, r2⟩ := r.uncons
    rw [Reps] at r2
    rw [Rep] at r1
    subst r1 r2
    exact .inr ⟨_, rfl, k _ _ (.now M (by rw [Rep]) h)⟩
  · exact h.elim
def fMax2 : FN := fun xs μ Q => match xs with
  | [.int i, .int j] => Q (.int (if j > i then j else i)) μ
  | _ => False
def fMin2 : FN := fun xs μ Q => match xs with
  | [.int i, .int j] => Q (.int (if j < i then j else i)) μ
  | _ => False
def fAbs : FN := fun xs μ Q => match xs with
  | [.int i] => Q (.int (if i < 0 then -i else i)) μ
  | _ => False
theorem sn_max2 {G : Gx} : SN G (fun xs H Q => ∃ i j, xs = [.int i, .int j] ∧ Q (.int (if j > i then j else i)) H) fMax2 := by
  intro Z m μ H xs us Q Q' M r h k
  unfold fMax2 at h
  split at h
  · obtain ⟨v, t, rfl, r1, r2⟩ := r.uncons
    obtain ⟨v2, t2, rfl, r3, r4⟩ := r2.uncons
    rw [Reps] at r4
    rw [Rep] at r1 r3
    subst r1 r3 r4
    exact ⟨_, _, rfl, k _ _ (.now M (by rw [Rep]) h)⟩
  · exact h.elim
theorem sn_min2 {G : Gx} : SN G (fun xs H Q => ∃ i j, xs = [.int i, .int j] ∧ Q (.int (if j < i then j else i)) H) fMin2 := by
  intro Z m μ H xs us Q Q' M r h k
  unfold fMin2 at h
  split at h
  · obtain ⟨v, t, rfl, r1, r2⟩ := r.uncons
    obtain ⟨v2, t2, rfl, r3, r4⟩ := r2.uncons
    rw [Reps] at r4
    rw [Rep] at r1 r3
    subst r1 r3 r4
    exact ⟨_, _, rfl, k _ _ (.now M (by rw [Rep]) h)⟩
  · exact h.elim
theorem sn_abs {G : Gx} : SN G (fun xs H Q => ∃ i, xs = [.int i] ∧ Q (.int (if i < 0 then -i else i)) H) fAbs := by
  intro Z m μ H xs us Q Q' M r h k
  unfold fAbs at h
  split at h
  · obtain ⟨v, t, rfl, r1, r2⟩ := r.uncons
    rw [Reps] at r2
    rw [Rep] at r1
    subst r1 r2
    exact ⟨_, rfl, k _ _ (.now M (by rw [Rep]) h)⟩
  · exact h.elim
/-- the ints of a list of ints -/
def intD : D → Option Int
  | .int i => some i
  | _ => none
theorem intD_of {d : D} {i : Int} (h : intD d = some i) : d = .int i := by
  cases d <;> first | (cases h; done) | (cases h; rfl)
def intsD : List D → Option (List Int)
  | [] => some []
  | d :: ds => match intD d, intsD ds with
    | some i, some ns => some (i :: ns)
    | _, _ => none
theorem ints_rep {G : Gx} {m : List Addr} {E : Hp} : ∀ {ds : List D} {vs : List V} {ns : List Int}, Reps G m E ds vs → intsD ds = some ns → vs = ns.map V.int
  | [], vs, ns, r, e => by rw [Reps] at r; rw [intsD] at e; cases e; exact r
  | d :: ds, vs, ns, r, e => by
    obtain ⟨v, t, rfl, r1, r2⟩ := r.uncons
    rw [intsD] at e
    split at e
    · rename_i i ms h1 h2
      cases e
      have e1 := intD_of h1
      subst e1
      rw [Rep] at r1
      subst r1
      rw [ints_rep r2 h2]
      rfl
    · cases e
theorem reps_ints {G : Gx} {m : List Addr} {E : Hp} (ns : List Int) : Reps G m E (ns.map D.int) (ns.map V.int) := Reps.map_of (fun _ => by rw [Rep]) ns
end DL

set_option Elab.async false
set_option linter.all false
set_option maxRecDepth 100000
set_option maxHeartbeats 4000000
set_option autoImplicit false
namespace DL
open PySem PySem.Spec PyProof.Rows L2 RZ
/-! ### what is walked -/
abbrev WI := DS → Mu → (List D → Mu → Prop) → XD → Prop
/-- an iterator that gives the data ds, as long as what E0 shows stands -/
structure ItOk (G : Gx) (J : It) (m0 : List Addr) (E0 : Hp) (ds : List D) : Prop where
  go : ∀ (i : Nat) H, i < ds.length → Same E0 H → J.go i H
  stop : ∀ H, Same E0 H → J.stop ds.length H
  yld : ∀ (i : Nat) H x H3, i < ds.length → Same E0 H → J.yld i H x H3 → ∃ d, ds[i]? = some d ∧ ((H3 = H ∧ Rep G m0 E0 d x) ∨ ∃ T o, H T = none ∧ H3 = upd H T o ∧ ∀ m E, m0 <+: m → Same E0 E → E T = some o → Rep G m E d x)
def IPost (G : Gx) (Z : Addr → Prop) (m : List Addr) (H : Hp) (Q : List D → Mu → Prop) (J : It) (H' : Hp) : Prop :=
  ∃ m' ds μ', Step G Z m H m' μ' H' ∧ ItOk G J m' (vis Z m' H') ds ∧ Q ds μ'
/-- the same, as long as what is hidden stands, too -/
structure ItOkF (G : Gx) (J : It) (m0 : List Addr) (E0 : Hp) (F : Hp → Prop) (ds : List D) : Prop where
  go : ∀ (i : Nat) H, i < ds.length → Same E0 H → F H → J.go i H
  stop : ∀ H, Same E0 H → F H → J.stop ds.length H
  yld : ∀ (i : Nat) H x H3, i < ds.length → Same E0 H → F H → J.yld i H x H3 → ∃ d, ds[i]? = some d ∧ ((H3 = H ∧ Rep G m0 E0 d x) ∨ ∃ T o, H T = none ∧ H3 = upd H T o ∧ ∀ m E, m0 <+: m → Same E0 E → E T = some o → Rep G m E d x)
theorem ItOk.toF {G : Gx} {J : It} {m0 : List Addr} {E0 : Hp} {F : Hp → Prop} {ds : List D} (h : ItOk G J m0 E0 ds) : ItOkF G J m0 E0 F ds := ⟨fun i H a b _ => h.go i H a b, fun H b _ => h.stop H b, fun i H x H3 a b _ c => h.yld i H x H3 a b c⟩
def IPostF (G : Gx) (Z : Addr → Prop) (m : List Addr) (H : Hp) (Q : List D → Mu → Prop) (J : It) (H' : Hp) : Prop :=
  ∃ m' ds μ' F, Step G Z m H m' μ' H' ∧ (∀ H2, (∀ z, Z z → H2 z = H' z) → F H2) ∧ ItOkF G J m' (vis Z m' H') F ds ∧ Q ds μ'
theorem IPost.toF {G : Gx} {Z : Addr → Prop} {m : List Addr} {H : Hp} {Q : List D → Mu → Prop} {J : It} {H' : Hp} (p : IPost G Z m H Q J H') : IPostF G Z m H Q J H' := by
  obtain ⟨m', ds, μ', s, ok, q⟩ := p
  exact ⟨m', ds, μ', fun _ => True, s, fun _ _ => trivial, ok.toF, q⟩
def liftIF (G : Gx) (W : WX) (w : WI) : TI := fun σ H R => ∃ Z m ρ μ Q Xd, SR G Z m σ H ρ μ ∧ w ρ μ Q Xd ∧ (∀ J H', IPostF G (ownW Z σ ρ) m H Q J H' → R J H') ∧ ∀ cls d H', XPost G (ownW Z σ ρ) m H Xd cls d H' → W cls d σ H'
def liftI (G : Gx) (W : WX) (w : WI) : TI := fun σ H R => ∃ Z m ρ μ Q Xd, SR G Z m σ H ρ μ ∧ w ρ μ Q Xd ∧ (∀ J H', IPost G (ownW Z σ ρ) m H Q J H' → R J H') ∧ ∀ cls d H', XPost G (ownW Z σ ρ) m H Xd cls d H' → W cls d σ H'
abbrev DI (ex : Option (Addr × Addr × Addr)) (W : WX) (X : Cx) (tg e : Expr) (w : WI) : Prop := PI X tg e (liftI (gx X ex) W w)
theorem pi_weak {X : Cx} {tg e : Expr} {t t' : TI} (h : PI X tg e t) (k : ∀ σ H Q, t' σ H Q → t σ H Q) : PI X tg e t' := ⟨fun pins s σ H Q I q => h.run pins s σ H Q I (k σ H Q q)⟩
abbrev DIF (ex : Option (Addr × Addr × Addr)) (W : WX) (X : Cx) (tg e : Expr) (w : WI) : Prop := PI X tg e (liftIF (gx X ex) W w)
theorem DI.toF {ex : Option (Addr × Addr × Addr)} {W : WX} {X : Cx} {tg e : Expr} {w : WI} (h : DI ex W X tg e w) : DIF ex W X tg e w := pi_weak h fun σ H R q => by
  obtain ⟨Z, m, ρ, μ, Q, Xd, S, q, k, kx⟩ := q
  exact ⟨Z, m, ρ, μ, Q, Xd, S, q, fun J H' P => k J H' P.toF, kx⟩
def tupOr (d : D) (Q : List D → Prop) : Prop := match d with
  | .tup ds => Q ds
  | _ => False
theorem tupOr_of {d : D} {Q : List D → Prop} (h : tupOr d Q) : ∃ ds, d = .tup ds ∧ Q ds := by
  unfold tupOr at h
  split at h
  · exact ⟨_, rfl, h⟩
  · exact h.elim
def wiL (wa : WE) : WI := fun ρ μ Q Xd => wa ρ μ (fun d μ1 => lstOr d fun ds => Q ds μ1) Xd
def wiT (wa : WE) : WI := fun ρ μ Q Xd => wa ρ μ (fun d μ1 => tupOr d fun ds => Q ds μ1) Xd
/-- lo, lo + 1, .. -/
def rangeD (lo : Int) (n : Nat) : List D := (List.range n).map fun (k : Nat) => D.int (lo + (k : Int))
def rg1 (ds : List D) (Q : List D → Prop) : Prop := match ds with
  | [.int j] => -(2 ^ 62) ≤ j ∧ j < 2 ^ 62 ∧ Q (rangeD 0 j.toNat)
  | _ => False
def rg2 (ds : List D) (Q : List D → Prop) : Prop := match ds with
  | [.int i, .int j] => (-(2 ^ 62) ≤ i ∧ i < 2 ^ 62 ∧ -(2 ^ 62) ≤ j ∧ j < 2 ^ 62) ∧ Q (rangeD i (j - i).toNat)
  | _ => False
theorem rg1_of {ds : List D} {Q : List D → Prop} (h : rg1 ds Q) : ∃ j : Int, ds = [.int j] ∧ -(2 ^ 62) ≤ j ∧ j < 2 ^ 62 ∧ Q (rangeD 0 j.toNat) := by
  unfold rg1 at h
  split at h
  · exact ⟨_, rfl, h⟩
  · exact h.elim
theorem rg2_of {ds : List D} {Q : List D → Prop} (h : rg2 ds Q) : ∃ i j : Int, ds = [.int i, .int j] ∧ (-(2 ^ 62) ≤ i ∧ i < 2 ^ 62 ∧ -(2 ^ 62) ≤ j ∧ j < 2 ^ 62) ∧ Q (rangeD i (j - i).toNat) := by
  unfold rg2 at h
  split at h
  · exact ⟨_, _, rfl, h⟩
  · exact h.elim
def wiR1 (wa : WA) : WI := fun ρ μ Q Xd => wa ρ μ (fun ds μ1 => rg1 ds fun es => Q es μ1) Xd
def wiR2 (wa : WA) : WI := fun ρ μ Q Xd => wa ρ μ (fun ds μ1 => rg2 ds fun es => Q es μ1) Xd
/-- enumerate, zip -/
def enumD (ds : List D) : List D := ds.mapIdx fun i d => D.tup [.int (i : Nat), d]
def zipD (a b : List D) : List D := (a.zip b).map fun p => D.tup [p.1, p.2]
def lst1 (ds : List D) (Q : List D → Prop) : Prop := match ds with
  | [d] => lstOr d Q
  | _ => False
def wiEnum (wa : WA) : WI := fun ρ μ Q Xd => wa ρ μ (fun ds μ1 => lst1 ds fun es => Q (enumD es) μ1) Xd
def zip2 (ds : List D) (Q : List D → Prop) : Prop := match ds with
  | [a, b] => match a, b with
    | .tup xs, .tup ys => Q (zipD xs ys)
    | .lst xs, .lst ys => Q (zipD xs ys)
    | .frl xs, .lst ys => Q (zipD xs ys)
    | .lst xs, .frl ys => Q (zipD xs ys)
    | _, _ => False
  | _ => False
def wiZip (wa : WA) : WI := fun ρ μ Q Xd => wa ρ μ (fun ds μ1 => zip2 ds fun es => Q es μ1) Xd
theorem itok_list {G : Gx} {m : List Addr} {E : Hp} {a : Addr} {vs : List V} {ds : List D} (s : SqL G.K E a vs) (r : Reps G m E ds vs) : ItOk G (Itl G.K a) m E ds := by
  refine ⟨fun i H hi hs => ?_, fun H hs => ⟨vs, Same.seq hs s, by rw [r.len]; exact Nat.le_refl _⟩, fun i H x H3 hi hs y => ?_⟩
  · obtain ⟨v, e, _⟩ := r.get (List.getElem?_eq_getElem hi)
    exact ⟨vs, v, Same.seq hs s, e⟩
  · obtain ⟨e, y⟩ := y
    obtain ⟨d, ed, rd⟩ := r.get' (y vs (Same.seq hs s))
    exact ⟨d, ed, .inl ⟨e, rd⟩⟩
theorem itok_range {G : Gx} {m : List Addr} {E : Hp} {lo : Int} {n : Nat} : ItOk G (Itr lo n) m E (rangeD lo n) := by
  have hl : (rangeD lo n).length = n := by simp [rangeD]
  refine ⟨fun i H hi hs => ?_, fun H hs => ?_, fun i H x H3 hi hs y => ?_⟩
  · rw [hl] at hi; exact hi
  · rw [hl]; exact Nat.le_refl _
  · rw [hl] at hi
    obtain ⟨e, ex⟩ := y
    refine ⟨.int (lo + i), ?_, .inl ⟨e, by rw [Rep]; exact ex⟩⟩
    simp [rangeD, hi]
section
variable {ex : Option (Addr × Addr × Addr)} {W : WX} {X : Cx} {tg e : Expr} {wa : WE} {ws : WA} {p pos : Pos}
theorem di_list (h : DE ex W X e wa) : DI ex W X tg e (wiL wa) := pi_weak (pi_list h) fun σ H R q => by
  obtain ⟨Z, m, ρ, μ, Q, Xd, S, q, k, kx⟩ := q
  refine ⟨Z, m, ρ, μ, _, Xd, S, q, fun v H1 P => ?_, kx⟩
  obtain ⟨m1, d, μ1, s1, r1, q1⟩ := P
  obtain ⟨ds, a, vs, e, sq, rs, q2⟩ := lstOr_rep q1 r1
  exact ⟨a, e, ⟨vs, Same.seq vis_le sq⟩, k _ _ ⟨m1, ds, μ1, s1, itok_list (G := gx X ex) sq rs, q2⟩⟩
theorem di_range1 (hg : Gl X "range") (hm : X.mg "range" = none) (ha : DA ex W X [e] ws) (hs : starEach [e] X.env = [(false, eval e X.env)] := by rfl) : DI ex W X tg (.Call (.Name "range" p) [e] [] pos) (wiR1 ws) := pi_weak (pi_range1 hg hm ha hs) fun σ H R q => by
  obtain ⟨Z, m, ρ, μ, Q, Xd, S, q, k, kx⟩ := q
  refine ⟨Z, m, ρ, μ, _, Xd, S, q, fun vs H1 P => ?_, kx⟩
  obtain ⟨m1, ds, μ1, s1, r1, q1⟩ := P
  obtain ⟨j, rfl, h1, h2, q2⟩ := rg1_of q1
  obtain ⟨v, t, rfl, r2, r3⟩ := r1.uncons
  rw [Reps] at r3
  rw [Rep] at r2
  subst r2 r3
  exact ⟨j, rfl, h1, h2, k _ _ ⟨m1, _, μ1, s1, itok_range, q2⟩⟩
theorem di_range2 {e2 : Expr} (hg : Gl X "range") (hm : X.mg "range" = none) (ha : DA ex W X [e, e2] ws) (hs : starEach [e, e2] X.env = [(false, eval e X.env), (false, eval e2 X.env)] := by rfl) (hs2 : starEach [e2] X.env = [(false, eval e2 X.env)] := by rfl) :
    DI ex W X tg (.Call (.Name "range" p) [e, e2] [] pos) (wiR2 ws) := pi_weak (pi_range2 hg hm ha hs hs2) fun σ H R q => by
  obtain ⟨Z, m, ρ, μ, Q, Xd, S, q, k, kx⟩ := q
  refine ⟨Z, m, ρ, μ, _, Xd, S, q, fun vs H1 P => ?_, kx⟩
  obtain ⟨m1, ds, μ1, s1, r1, q1⟩ := P
  obtain ⟨i, j, rfl, h1, q2⟩ := rg2_of q1
  obtain ⟨v, t, rfl, r2, r3⟩ := r1.uncons
  obtain ⟨v', t', rfl, r4, r5⟩ := r3.uncons
  rw [Reps] at r5
  rw [Rep] at r2
  rw [Rep] at r4
  subst r2 r4 r5
  exact ⟨i, j, rfl, h1, k _ _ ⟨m1, _, μ1, s1, itok_range, q2⟩⟩
theorem lst_rep' {G : Gx} {m : List Addr} {E : Hp} {d : D} {ds : List D} {u : V} (h : d = .lst ds ∨ d = .frl ds) (r : Rep G m E d u) : ∃ a vs, u = .ref a ∧ SqL G.K E a vs ∧ Reps G m E ds vs := by
  obtain ⟨es, a, vs, h1, h2, h3, h4⟩ := lstOr_rep (Q := fun es => es = ds) (by rcases h with e | e <;> (subst e; rfl)) r
  exact ⟨a, vs, h1, h2, h4 ▸ h3⟩
end
/-! ### a list of the def's own, walked while it stands -/
def ownL (o : Option Sl) (k : List D → Prop) : Prop := match o with
  | some (.own _ (.lst ds)) => k ds
  | _ => False
def wiOwn (i : Nat) : WI := fun ρ μ Q _ => ownL (ρ[i]?) fun ds => Q ds μ
/-! ### for -/
def forL (g : WG) (b : WS) (E : DEnds) : List D → DS → Mu → Prop
  | [], ρ, μ => E.nx ρ μ
  | d :: ds, ρ, μ => g d ρ μ fun ρ1 μ1 => b { E with nx := forL g b E ds, ct := forL g b E ds, bk := E.nx } ρ1 μ1
def sFor (wi : WI) (g : WG) (b : WS) : WS := fun E ρ μ => wi ρ μ (fun ds μ1 => forL g b E ds ρ μ1) fun c ks es μ' => E.xc c ks es ρ μ'
theorem SR.laid {G : Gx} {Z : Addr → Prop} {m : List Addr} {σ : L2.St} {H : Hp} {ρ : DS} {μ : Mu} (S : SR G Z m σ H ρ μ) {p : Addr} {o : HO} (np : H p = none) : SR G Z m σ (upd H p o) ρ μ ∧ SStep G Z m σ ρ H m σ ρ (upd H p o) :=
  ⟨S.step (Step.laid S.mu np), SStep.of (μ' := μ) (Step.laid S.mu np)⟩
theorem forL_cons {g : WG} {b : WS} {E : DEnds} {ds : List D} {i : Nat} {d : D} {ρ : DS} {μ : Mu} (hd : ds[i]? = some d) (h : forL g b E (ds.drop i) ρ μ) :
    g d ρ μ fun ρ1 μ1 => b { E with nx := forL g b E (ds.drop (i + 1)), ct := forL g b E (ds.drop (i + 1)), bk := E.nx } ρ1 μ1 := by
  obtain ⟨hi, e⟩ := List.getElem?_eq_some_iff.mp hd
  rw [List.drop_eq_getElem_cons hi, forL, e] at h
  exact h
section
variable {ex : Option (Addr × Addr × Addr)} {W : WX} {X : Cx} {tg iter : Expr} {body : List Stmt} {wi : WI} {g : WG} {b : WS} {pos : Pos}
theorem ds_for (hp : PassesOwn (model X.prog X.w) X.A X.env X.xe) (hc : X.calm = true) (hi : DI ex W X tg iter wi) (hg : DG ex X tg g) (hb : DSs ex W X body b) (hs : ∀ x, foldedSetIterable iter X.env x = pure x := by intro _; rfl) :
    DSt ex W X (.For tg iter body [] pos) (sFor wi g b) := ps_weak (ps_for hp hc hi hg hb hs) fun De σ H q => by
  obtain ⟨Z, m, ρ, μ, E, S, q, kn, kr, kb, kc, kx⟩ := q
  refine ⟨Z, m, ρ, μ, _, _, S, q, fun J H1 P => ?_, fun cls d H' P => kx cls d σ H' (XSPost.of S P)⟩
  obtain ⟨m1, ds, μ1, s1, ok, q1⟩ := P
  have t1 : SStep (gx X ex) Z m σ ρ H m1 σ ρ H1 := SStep.of s1
  refine ⟨fun i n σ' H' => n = ds.length - i ∧ i ≤ ds.length ∧ ∃ m' ρ' μ', SR (gx X ex) Z m' σ' H' ρ' μ' ∧ SStep (gx X ex) Z m1 σ ρ H1 m' σ' ρ' H' ∧ forL g b E (ds.drop i) ρ' μ', ⟨_, rfl, Nat.zero_le _, m1, ρ, μ1, S.step s1, .refl, q1⟩, ?_⟩
  rintro i n σ' H' ⟨rfl, hle, m', ρ', μ', S', s', q'⟩
  have vis' : Same (vis (ownW Z σ ρ) m1 H1) H' := s'.same.trans vis_le
  by_cases hlt : i < ds.length
  · refine .inr ⟨ok.go i H' hlt vis', fun σ2 H2 => ∃ m2 ρ2 μ2, SR (gx X ex) Z m2 σ2 H2 ρ2 μ2 ∧ SStep (gx X ex) Z m1 σ ρ H1 m2 σ2 ρ2 H2 ∧ forL g b E (ds.drop (i + 1)) ρ2 μ2,
      fun σ2 H2 ⟨m2, ρ2, μ2, S2, s2, q2⟩ => ⟨_, (by omega : ds.length - (i + 1) < ds.length - i), rfl, hlt, m2, ρ2, μ2, S2, s2, q2⟩, fun x H3 y => ?_⟩
    obtain ⟨d, ed, hy⟩ := ok.yld i H' x H3 hlt vis' y
    have q2 := forL_cons ed q'
    have : ∃ S3 : SR (gx X ex) Z m' σ' H3 ρ' μ', SStep (gx X ex) Z m1 σ ρ H1 m' σ' ρ' H3 ∧ Rep (gx X ex) m' (vis (ownW Z σ' ρ') m' H3) d x := by
      rcases hy with ⟨rfl, rd⟩ | ⟨T, o, nT, rfl, rd⟩
      · exact ⟨S', s', Rep.mono s'.pre s'.same _ _ rd⟩
      · obtain ⟨S3, s3⟩ := S'.laid (o := o) nT
        exact ⟨S3, s'.trans s3, rd _ _ s'.pre (s'.trans s3).same (by rw [vis_upd S'.mu nT, upd_same])⟩
    obtain ⟨S3, s3, rd⟩ := this
    refine ⟨Z, m', ρ', μ', d, _, S3, rd, q2, fun σ4 H4 P => ?_⟩
    obtain ⟨m4, ρ4, μ4, S4, s4, q4⟩ := P
    have t4 := s3.trans s4
    refine ⟨Z, m4, ρ4, μ4, _, S4, q4, fun σ5 H5 P => ?_, fun v H5 P => kr v H5 (RPost.from (t1.trans t4) P), fun σ5 H5 P => kn σ5 H5 (SPost.from (t1.trans t4) P), fun σ5 H5 P => ?_, fun cls d σ5 H5 P => kx cls d σ5 H5 (XSPost.from (t1.trans t4) P)⟩
    · obtain ⟨m5, ρ5, μ5, S5, s5, q5⟩ := P
      exact ⟨m5, ρ5, μ5, S5, t4.trans s5, q5⟩
    · obtain ⟨m5, ρ5, μ5, S5, s5, q5⟩ := P
      exact ⟨m5, ρ5, μ5, S5, t4.trans s5, q5⟩
  · have e : i = ds.length := by omega
    subst e
    refine .inl ⟨ok.stop H' vis', kn σ' H' ⟨m', ρ', μ', S', t1.trans s', ?_⟩⟩
    rw [List.drop_length, forL] at q'
    exact q'
/-! ### while -/
def whileL (c : WT) (b : WS) (E : DEnds) : Nat → DS → Mu → Prop
  | 0, _, _ => False
  | n + 1, ρ, μ => c ρ μ (fun k μ1 => if k = true then b { E with nx := whileL c b E n, ct := whileL c b E n, bk := E.nx } ρ μ1 else E.nx ρ μ1) fun c ks es μ' => E.xc c ks es ρ μ'
def sWhile (c : WT) (b : WS) : WS := fun E ρ μ => ∃ n, whileL c b E n ρ μ
theorem ds_while {c : Expr} {t : WT} (hp : PassesOwn (model X.prog X.w) X.A X.env X.xe) (hc : DT ex W X c t) (hb : DSs ex W X body b) : DSt ex W X (.While c body [] pos) (sWhile t b) := ps_weak (ps_while hp hc hb) fun De σ H q => by
  obtain ⟨Z, m, ρ, μ, E, S, ⟨n, q⟩, kn, kr, kb, kc, kx⟩ := q
  refine ⟨fun n σ' H' => ∃ m' ρ' μ', SR (gx X ex) Z m' σ' H' ρ' μ' ∧ SStep (gx X ex) Z m σ ρ H m' σ' ρ' H' ∧ whileL t b E n ρ' μ', ⟨n, m, ρ, μ, S, .refl, q⟩, ?_⟩
  rintro n σ' H' ⟨m', ρ', μ', S', s', q'⟩
  cases n with
  | zero => exact q'.elim
  | succ n =>
    refine ⟨Z, m', ρ', μ', _, _, S', q', fun k H1 P => ?_, fun cls d H1 P => kx cls d σ' H1 (XSPost.from s' (XSPost.of S' P))⟩
    obtain ⟨m1, μ1, s1, q1⟩ := P
    have t1 := s'.trans (SStep.of s1)
    cases k with
    | true =>
      rw [if_pos rfl] at q1 ⊢
      refine ⟨fun σ2 H2 => ∃ m2 ρ2 μ2, SR (gx X ex) Z m2 σ2 H2 ρ2 μ2 ∧ SStep (gx X ex) Z m σ ρ H m2 σ2 ρ2 H2 ∧ whileL t b E n ρ2 μ2, fun σ2 H2 h2 => ⟨n, Nat.lt_succ_self _, h2⟩, ?_⟩
      refine ⟨Z, m1, ρ', μ1, _, S'.step s1, q1, fun σ5 H5 P => ?_, fun v H5 P => kr v H5 (RPost.from t1 P), fun σ5 H5 P => kn σ5 H5 (SPost.from t1 P), fun σ5 H5 P => ?_, fun cls d σ5 H5 P => kx cls d σ5 H5 (XSPost.from t1 P)⟩
      · obtain ⟨m5, ρ5, μ5, S5, s5, q5⟩ := P
        exact ⟨m5, ρ5, μ5, S5, t1.trans s5, q5⟩
      · obtain ⟨m5, ρ5, μ5, S5, s5, q5⟩ := P
        exact ⟨m5, ρ5, μ5, S5, t1.trans s5, q5⟩
    | false =>
      rw [if_neg Bool.false_ne_true] at q1 ⊢
      exact kn σ' H1 ⟨m1, ρ', μ1, S'.step s1, t1, q1⟩
end
end DL

set_option Elab.async false
set_option linter.all false
set_option maxRecDepth 100000
set_option maxHeartbeats 4000000
set_option autoImplicit false
namespace DL
open PySem PySem.Spec PyProof.Rows L2
/-! ### comprehensions -/
def wipeD (ρ : DS) : List Nat → DS
  | [] => ρ
  | v :: vs => (wipeD ρ vs).set v .no
theorem wipeD_len (ρ : DS) : ∀ vs, (wipeD ρ vs).length = ρ.length
  | [] => rfl
  | v :: vs => by rw [wipeD, List.length_set, wipeD_len]
theorem wipeD_get {ρ : DS} {i : Nat} {x : Sl} (hx : x ≠ .no) : ∀ {vs : List Nat}, (wipeD ρ vs)[i]? = some x → ρ[i]? = some x ∧ i ∉ vs
  | [], h => ⟨h, by simp⟩
  | v :: vs, h => by
    rw [wipeD] at h
    by_cases hv : v = i
    · subst hv
      rw [List.getElem?_set] at h
      simp at h
      exact absurd h.2.symm hx
    · rw [List.getElem?_set_ne hv] at h
      obtain ⟨h1, h2⟩ := wipeD_get hx h
      exact ⟨h1, by simp [h2, Ne.symm hv]⟩
theorem wipe_get {σ : L2.St} {i : Nat} : ∀ {vs : List Nat}, i ∉ vs → (wipe σ vs)[i]? = σ[i]?
  | [], _ => rfl
  | v :: vs, h => by
    rw [wipe, List.getElem?_set_ne (fun e => h (by simp [e]))]
    exact wipe_get fun q => h (by simp [q])
/-- no slot at vs is a list that is being filled -/
def noOwn (ρ : DS) (vs : List Nat) : Prop := ∀ v ∈ vs, ∀ a ds, ρ[v]? ≠ some (.own a ds)
theorem own_wipe {Z : Addr → Prop} {σ : L2.St} {ρ : DS} {vs : List Nat} {b : Addr} (h : ownW Z (wipe σ vs) (wipeD ρ vs) b) : ownW Z σ ρ b := by
  rcases h with h | ⟨i, ds, e1⟩
  · exact .inl h
  · obtain ⟨e3, e4⟩ := wipeD_get (by intro z; cases z) e1
    exact .inr ⟨i, ds, e3⟩
theorem own_wipe' {Z : Addr → Prop} {σ : L2.St} {ρ : DS} {vs : List Nat} (no : noOwn ρ vs) : ownW Z (wipe σ vs) (wipeD ρ vs) = ownW Z σ ρ := by
  funext b
  refine propext ⟨own_wipe, fun h => ?_⟩
  rcases h with h | ⟨i, ds, e1⟩
  · exact .inl h
  · have hi : i ∉ vs := fun q => no i q b ds e1
    refine .inr ⟨i, ds, ?_⟩
    have : ∀ {l : List Nat}, i ∉ l → (wipeD ρ l)[i]? = ρ[i]? := by
      intro l
      induction l with
      | nil => intro _; rfl
      | cons v l ih =>
        intro hv
        rw [wipeD, List.getElem?_set_ne (fun e => hv (by simp [e]))]
        exact ih fun q => hv (by simp [q])
    rw [this hi]; exact e1
/-- hiding one thing more -/
def addZ (Z : Addr → Prop) (D : Addr) : Addr → Prop := fun b => Z b ∨ b = D
theorem own_add {Z : Addr → Prop} {D : Addr} {σ : L2.St} {ρ : DS} : ownW (addZ Z D) σ ρ = addZ (ownW Z σ ρ) D := by
  funext b
  apply propext
  unfold ownW addZ
  constructor
  · rintro ((h | h) | h)
    · exact .inl (.inl h)
    · exact .inr h
    · exact .inl (.inr h)
  · rintro ((h | h) | h)
    · exact .inl (.inl h)
    · exact .inr h
    · exact .inl (.inr h)
theorem SR.wiped {G : Gx} {Z : Addr → Prop} {m : List Addr} {σ : L2.St} {H : Hp} {ρ : DS} {μ : Mu} (S : SR G Z m σ H ρ μ) {vs : List Nat} (no : noOwn ρ vs) : SR G Z m (wipe σ vs) H (wipeD ρ vs) μ := by
  refine ⟨by rw [wipeD_len, wipe_length]; exact S.len, by rw [own_wipe' no]; exact S.mu, fun i d e => ?_, fun i a ds e => ?_, fun i j a ds es e1 e2 => ?_, fun i c ks ds e => ?_⟩
  · obtain ⟨e1, e2⟩ := wipeD_get (by intro z; cases z) e
    obtain ⟨v, h1, h2⟩ := S.val i d e1
    exact ⟨v, by rw [wipe_get e2]; exact h1, by rw [own_wipe' no]; exact h2⟩
  · obtain ⟨e1, e2⟩ := wipeD_get (by intro z; cases z) e
    obtain ⟨h1, h2, h4⟩ := S.own i a ds e1
    exact ⟨by rw [wipe_get e2]; exact h1, h2, by rw [own_wipe' no]; exact h4⟩
  · obtain ⟨h1, h2⟩ := wipeD_get (by intro z; cases z) e1
    obtain ⟨h3, h4⟩ := wipeD_get (by intro z; cases z) e2
    exact S.dis i j a ds es h1 h3
  · obtain ⟨e1, e2⟩ := wipeD_get (by intro z; cases z) e
    rw [wipe_get e2, own_wipe' no]
    exact S.exn i c ks ds e1
/-- the new list is hidden: it is in nobody's sight -/
theorem MuOk.hide {G : Gx} {Z : Addr → Prop} {m : List Addr} {μ : Mu} {H : Hp} (M : MuOk G Z m μ H) {D : Addr} {o : HO} (nD : H D = none) : MuOk G (addZ Z D) m μ (upd H D o) ∧ Same (vis Z m H) (vis (addZ Z D) m (upd H D o)) := by
  obtain ⟨h1, h2⟩ := M.fresh nD
  have sm : Same (vis Z m H) (vis (addZ Z D) m (upd H D o)) := fun b x e => by
    obtain ⟨z1, z2, z3⟩ := vis_some.mp e
    have hb : b ≠ D := fun q => by rw [q, nD] at z3; cases z3
    exact vis_some.mpr ⟨fun q => q.elim z1 hb, z2, by rw [upd_ne hb]; exact z3⟩
  refine ⟨⟨M.len, M.nd, fun a ha q => q.elim (M.out a ha) fun e => h2 (e ▸ ha), fun z hz => ?_, fun n c a hc ha => ?_⟩, sm⟩
  · rcases hz with hz | hz
    · by_cases e : z = D
      · rw [e, upd_same]; intro q; cases q
      · rw [upd_ne e]; exact M.hw z hz
    · rw [hz, upd_same]; intro q; cases q
  · have hb : a ≠ D := fun e => h2 (e ▸ List.mem_of_getElem? ha)
    exact (M.cell n c a hc ha).keep (List.prefix_refl _) sm (upd_ne hb)
theorem vis_hidden {Z : Addr → Prop} {m : List Addr} {H : Hp} {D : Addr} {o : HO} : vis (addZ Z D) m (upd H D o) = vis (addZ Z D) m H := by
  funext b
  unfold vis
  by_cases hb : b = D
  · rw [if_pos (.inl (.inr hb)), if_pos (.inl (.inr hb))]
  · rw [upd_ne hb]
/-- a hidden thing is written -/
theorem MuOk.hid {G : Gx} {Z : Addr → Prop} {m : List Addr} {μ : Mu} {H : Hp} {D : Addr} {o : HO} (M : MuOk G (addZ Z D) m μ H) : MuOk G (addZ Z D) m μ (upd H D o) := by
  refine ⟨M.len, M.nd, M.out, fun z hz => ?_, fun n c a hc ha => ?_⟩
  · by_cases e : z = D
    · rw [e, upd_same]; intro q; cases q
    · rw [upd_ne e]; exact M.hw z hz
  · have hb : a ≠ D := fun e => M.out a (List.mem_of_getElem? ha) (.inr e)
    rw [vis_hidden]
    exact (M.cell n c a hc ha).keep (List.prefix_refl _) (Same.refl _) (upd_ne hb)
theorem SR.hid {G : Gx} {Z : Addr → Prop} {m : List Addr} {σ : L2.St} {H : Hp} {ρ : DS} {μ : Mu} {D : Addr} {o : HO} (S : SR G (addZ Z D) m σ H ρ μ) : SR G (addZ Z D) m σ (upd H D o) ρ μ := by
  have e := own_add (Z := Z) (D := D) (σ := σ) (ρ := ρ)
  refine ⟨S.len, ?_, fun i d h => ?_, fun i a ds h => ?_, S.dis, fun i c ks ds h => ?_⟩
  · rw [e]; exact MuOk.hid (e ▸ S.mu)
  · obtain ⟨v, h1, h2⟩ := S.val i d h
    rw [e] at h2
    exact ⟨v, h1, by rw [e, vis_hidden]; exact h2⟩
  · obtain ⟨h1, h2, h4⟩ := S.own i a ds h
    rw [e] at h4
    exact ⟨h1, h2, by rw [e, vis_hidden]; exact h4.keep (List.prefix_refl _) (Same.refl _) (upd_ne (fun q => h2 (.inr q)))⟩
  · have z := S.exn i c ks ds h
    rw [e] at z ⊢
    rw [vis_hidden]
    exact z
/-- a comprehension's target: what it does to the slots -/
def LcG (G : Gx) (vs : List Nat) (g : TG) (k : WG) : Prop := ∀ (Z : Addr → Prop) (m : List Addr) (μ : Mu) (σ : L2.St) (H : Hp) (ρ : DS) (d : D) (v : V) (Q : DS → Mu → Prop) (R : L2.St → Hp → Prop),
  SR G Z m σ H ρ μ → Rep G m (vis (ownW Z σ ρ) m H) d v → k d ρ μ Q → (∀ σ' ρ', SR G Z m σ' H ρ' μ → ownW Z σ' ρ' = ownW Z σ ρ → wipe σ' vs = wipe σ vs → Q ρ' μ → R σ' H) → g v σ H R
theorem wipe_set {σ : L2.St} {i : Nat} {x : Option V} : ∀ {vs : List Nat}, i ∈ vs → wipe (σ.set i x) vs = wipe σ vs
  | v :: vs, h => by
    rw [wipe, wipe]
    by_cases hi : i ∈ vs
    · rw [wipe_set hi]
    · have e : v = i := by simpa [hi, eq_comm] using h
      subst e
      have : ∀ {l : List Nat}, v ∉ l → wipe (σ.set v x) l = (wipe σ l).set v x := by
        intro l
        induction l with
        | nil => intro _; rfl
        | cons u l ih =>
          intro hu
          rw [wipe, wipe, ih fun q => hu (by simp [q]), List.set_comm _ _ (fun q => hu (by simp [q]))]
      rw [this hi, List.set_set]
theorem own_set_no {Z : Addr → Prop} {σ : L2.St} {ρ : DS} {i : Nat} {v : V} {d : D} (h : ∀ a ds, ρ[i]? ≠ some (.own a ds)) : ownW Z (σ.set i (some v)) (ρ.set i (.v d)) = ownW Z σ ρ := by
  funext b
  refine propext ⟨own_set, fun q => ?_⟩
  rcases q with q | ⟨j, ds, e1⟩
  · exact .inl q
  · have hj : i ≠ j := fun e => h b ds (e ▸ e1)
    exact .inr ⟨j, ds, by rw [List.getElem?_set_ne hj]; exact e1⟩
/-- a slot that is not being filled: checked where it is stored -/
def notOwn (ρ : DS) (i : Nat) : Prop := match ρ[i]? with
  | some (.own _ _) => False
  | _ => True
theorem notOwn_of {ρ : DS} {i : Nat} (h : notOwn ρ i) : ∀ a ds, ρ[i]? ≠ some (.own a ds) := fun a ds e => by
  unfold notOwn at h
  rw [e] at h
  exact h
def kNameC (i : Nat) : WG := fun d ρ μ Q => notOwn ρ i ∧ Q (ρ.set i (.v d)) μ
theorem lcg_name {G : Gx} {vs : List Nat} {i : Nat} (hi : i ∈ vs) : LcG G vs (gName i) (kNameC i) := by
  intro Z m μ σ H ρ d v Q R S r q k
  obtain ⟨no, q⟩ := q
  have no := notOwn_of no
  obtain ⟨S1, s1⟩ := S.set (i := i) r
  exact k _ _ S1 (own_set_no no) (wipe_set hi) q
theorem wipe_at {σ : L2.St} {i : Nat} : ∀ {vs : List Nat}, i ∈ vs → (wipe σ vs).set i none = wipe σ vs
  | v :: vs, h => by
    by_cases e : v = i
    · subst e; rw [wipe, List.set_set]
    · have hi : i ∈ vs := by
        rcases List.mem_cons.mp h with q | q
        · exact absurd q.symm e
        · exact q
      rw [wipe, List.set_comm _ _ e, wipe_at hi]
theorem wipe_sub {σ : L2.St} {vs : List Nat} : ∀ {us : List Nat}, (∀ u ∈ us, u ∈ vs) → wipe (wipe σ vs) us = wipe σ vs
  | [], _ => rfl
  | u :: us, h => by rw [wipe, wipe_sub fun x hx => h x (by simp [hx]), wipe_at (h u (by simp))]
theorem wipe_wipe (σ : L2.St) (vs : List Nat) : wipe (wipe σ vs) vs = wipe σ vs := wipe_sub fun _ h => h
def WF : WX := fun _ _ _ _ => False
def xF : XD := fun _ _ _ _ => False
def lcL (g : WG) (tt : WT) (te : WE) (ρw : DS) : List D → List D → Mu → (D → Mu → Prop) → Prop
  | [], acc, μ, Q => Q (.lst acc) μ
  | d :: ds, acc, μ, Q => g d ρw μ fun ρ2 μ2 => tt ρ2 μ2 (fun b μ3 => if b = true then te ρ2 μ3 (fun y μ4 => acc.length < 1000000 ∧ lcL g tt te ρw ds (acc ++ [y]) μ4 Q) xF else lcL g tt te ρw ds acc μ3 Q) xF
def wLc (wi : WI) (g : WG) (tt : WT) (te : WE) (vs : List Nat) : WE := fun ρ μ Q Xd => wi ρ μ (fun ds μ1 => (∀ v ∈ vs, notOwn ρ v) ∧ lcL g tt te (wipeD ρ vs) ds [] μ1 Q) Xd
theorem xpF {G : Gx} {Z : Addr → Prop} {m : List Addr} {H H' : Hp} {cls : Value} {d : Option Addr} (p : XPost G Z m H xF cls d H') : False := by
  obtain ⟨_, _, _, _, _, _, _, _, _, _, _, _, _, _, _, q⟩ := p
  exact q
abbrev DTs (X : Cx) (ifs : List Expr) (w : WT) : Prop := PTs X ifs (liftT (gx X none) WF w)
def wYes : WT := fun _ μ Q _ => Q true μ
theorem pts_weak {X : Cx} {es : List Expr} {t t' : TT} (h : PTs X es t) (k : ∀ σ H Q, t' σ H Q → t σ H Q) : PTs X es t' := ⟨fun pins s σ H Q I q => h.run pins s σ H Q I (k σ H Q q)⟩
theorem dts_nil {X : Cx} : DTs X [] wYes := pts_weak pts_nil fun σ H Q' q => by
  obtain ⟨Z, m, ρ, μ, Q, Xd, S, q, k, kx⟩ := q
  exact k true H ⟨m, μ, .refl S.mu, q⟩
theorem dts_one {X : Cx} {c : Expr} {t : WT} (h : DT none WF X c t) : DTs X [c] t := pts_one h
theorem lift_lc {G : Gx} {W : WX} {wi : WI} {g : TG} {k : WG} {tt : WT} {te : WE} {vs : List Nat} (hg : LcG G vs g k) {σ : L2.St} {H : Hp} {Q' : VK} (q : lift G W (wLc wi k tt te vs) σ H Q') :
    tLc (liftIF G W wi) g (liftT G WF tt) (lift G WF te) vs σ H Q' := by
  obtain ⟨Z, m, ρ, μ, Q, Xd, S, q, kq, kx⟩ := q
  refine ⟨Z, m, ρ, μ, _, Xd, S, q, fun J H1 P => ?_, kx⟩
  obtain ⟨m1, ds, μ1, F, s1, hF, ok, no', q1⟩ := P
  have no : noOwn ρ vs := fun v hv a ds => notOwn_of (no' v hv) a ds
  intro D nD
  have S1 := S.step s1
  have E0 := own_wipe' (Z := Z) (σ := σ) (ρ := ρ) (vs := vs) no
  have Sw := S1.wiped (vs := vs) no
  obtain ⟨Mh, sh⟩ := MuOk.hide (o := .lst []) S1.mu nD
  -- the state of a turn
  have base : SR G (addZ Z D) m1 (wipe σ vs) (upd H1 D (.lst [])) (wipeD ρ vs) μ1 := by
    refine ⟨Sw.len, by rw [own_add, E0]; exact Mh, fun i d e => ?_, fun i a es e => ?_, Sw.dis, fun i c ks es e => ?_⟩
    · obtain ⟨v, h1, h2⟩ := Sw.val i d e
      rw [E0] at h2
      exact ⟨v, h1, by rw [own_add, E0]; exact Rep.mono (List.prefix_refl _) sh _ _ h2⟩
    · obtain ⟨h1, h2, h4⟩ := Sw.own i a es e
      rw [E0] at h4
      have na : a ≠ D := fun z => h4.there (by rw [z, nD])
      exact ⟨h1, fun z => z.elim h2 na, by rw [own_add, E0]; exact h4.keep (List.prefix_refl _) sh (upd_ne na)⟩
    · have z := Sw.exn i c ks es e
      rw [E0] at z
      rw [own_add, E0]
      exact z.mono (List.prefix_refl _) sh
  have nDW : ¬ ownW Z σ ρ D := fun z => S1.mu.hw D z nD
  let In : List DL.D → Hp → Prop := fun rest H' => ∃ m' μ' acc us, m1 <+: m' ∧ (∀ z, ownW Z σ ρ z → H' z = H1 z) ∧ SR G (addZ Z D) m' (wipe σ vs) H' (wipeD ρ vs) μ' ∧ Same (vis (ownW Z σ ρ) m1 H1) (vis (addZ (ownW Z σ ρ) D) m' H') ∧
    H' D = some (.lst us) ∧ Reps G m' (vis (addZ (ownW Z σ ρ) D) m' H') acc us ∧ lcL k tt te (wipeD ρ vs) rest acc μ' Q
  refine ⟨fun i n H' => n = ds.length - i ∧ i ≤ ds.length ∧ In (ds.drop i) H', ⟨_, rfl, Nat.zero_le _, m1, μ1, [], [], List.prefix_refl _, fun z hz => upd_ne fun e => nDW (e ▸ hz), base, sh, upd_same, Reps.nil, q1⟩, ?_⟩
  rintro i n H' ⟨rfl, hle, m', μ', acc, us, pm, hid, S', sm, hD, ra, q'⟩
  have vis' : Same (vis (ownW Z σ ρ) m1 H1) H' := sm.trans vis_le
  by_cases hlt : i < ds.length
  · refine .inr ⟨ok.go i H' hlt vis' (hF H' hid), In (ds.drop (i + 1)), fun H2 h2 => ⟨_, (by omega : ds.length - (i + 1) < ds.length - i), rfl, hlt, h2⟩, fun x H3 y => ?_⟩
    obtain ⟨d, ed, hy⟩ := ok.yld i H' x H3 hlt vis' (hF H' hid) y
    obtain ⟨hi', ee⟩ := List.getElem?_eq_some_iff.mp ed
    rw [List.drop_eq_getElem_cons hi', lcL, ee] at q'
    have ow : ownW (addZ Z D) (wipe σ vs) (wipeD ρ vs) = addZ (ownW Z σ ρ) D := by rw [own_add, E0]
    have : SR G (addZ Z D) m' (wipe σ vs) H3 (wipeD ρ vs) μ' ∧ Same (vis (addZ (ownW Z σ ρ) D) m' H') (vis (addZ (ownW Z σ ρ) D) m' H3) ∧ (∀ z, addZ (ownW Z σ ρ) D z → H3 z = H' z) ∧ Rep G m' (vis (addZ (ownW Z σ ρ) D) m' H3) d x := by
      rcases hy with ⟨rfl, rd⟩ | ⟨T, o, nT, rfl, rd⟩
      · exact ⟨S', Same.refl _, fun _ _ => rfl, Rep.mono pm sm _ _ rd⟩
      · have st := Step.laid (o := o) S'.mu nT
        rw [ow] at st
        exact ⟨S'.step (by rw [ow]; exact st), st.same, st.hid, rd _ _ pm (sm.trans st.same) (by rw [vis_upd (ow ▸ S'.mu) nT, upd_same])⟩
    obtain ⟨S3, sm3, hid3, rd⟩ := this
    refine hg (addZ Z D) m' μ' (wipe σ vs) H3 (wipeD ρ vs) d x _ _ S3 (by rw [ow]; exact rd) q' fun σ4 ρ4 S4 ow4 ew q4 => ⟨?_, ?_⟩
    · exact ew.trans (wipe_wipe σ vs)
    · refine ⟨addZ Z D, m', ρ4, μ', _, _, S4, q4, fun b H5 P => ?_, fun cls dd H5 P => (xpF P).elim⟩
      obtain ⟨m5, μ5, s5, q5⟩ := P
      rw [ow4, ow] at s5
      have back : ∀ {m6 μ6 H6}, Step G (addZ (ownW Z σ ρ) D) m' H3 m6 μ6 H6 → SR G (addZ Z D) m6 (wipe σ vs) H6 (wipeD ρ vs) μ6 := fun {m6 μ6 H6} s6 => S3.step (by rw [ow]; exact s6)
      cases b with
      | false =>
        rw [if_neg Bool.false_ne_true] at q5 ⊢
        exact ⟨m5, μ5, acc, us, pm.trans s5.pre, fun z hz => ((s5.hid z (.inl hz)).trans (hid3 z (.inl hz))).trans (hid z hz), back s5, (sm.trans sm3).trans s5.same, ((s5.hid D (.inr rfl)).trans (hid3 D (.inr rfl))).trans hD, Reps.mono s5.pre (sm3.trans s5.same) _ _ ra, q5⟩
      | true =>
        rw [if_pos rfl] at q5 ⊢
        refine ⟨addZ Z D, m5, ρ4, μ5, _, _, S4.step (by rw [ow4, ow]; exact s5), q5, fun u H6 P => ?_, fun cls dd H6 P => (xpF P).elim⟩
        obtain ⟨m6, yd, μ6, s6, r6, hlen, q6⟩ := P
        rw [ow4, ow] at s6 r6
        have s56 := s5.trans s6
        refine ⟨us, ((s56.hid D (.inr rfl)).trans (hid3 D (.inr rfl))).trans hD, by rw [← ra.len]; exact Nat.lt_of_lt_of_le hlen (by decide), ?_⟩
        refine ⟨m6, μ6, acc ++ [yd], us ++ [u], pm.trans s56.pre, fun z hz => ?_, (back s56).hid, ?_, upd_same, ?_, q6⟩
        · have hb : z ≠ D := fun e => nDW (e ▸ hz)
          rw [upd_ne hb]
          exact ((s56.hid z (.inl hz)).trans (hid3 z (.inl hz))).trans (hid z hz)
        · rw [vis_hidden]
          exact (sm.trans sm3).trans s56.same
        · rw [vis_hidden]
          exact Reps.append (Reps.mono s56.pre (sm3.trans s56.same) _ _ ra) (Reps.cons r6 Reps.nil)
  · have e : i = ds.length := by omega
    subst e
    rw [List.drop_length, lcL] at q'
    refine .inl ⟨ok.stop H' vis' (hF H' hid), kq _ _ (VPost.from s1 ?_)⟩
    have ow : ownW (addZ Z D) (wipe σ vs) (wipeD ρ vs) = addZ (ownW Z σ ρ) D := by rw [own_add, E0]
    have M' := S'.mu
    rw [ow] at M'
    have sub : ∀ b, ownW Z σ ρ b → addZ (ownW Z σ ρ) D b := fun b h => .inl h
    refine ⟨m', .lst acc, μ', ⟨pm, hid, M'.less sub, sm.trans (vis_mono sub)⟩, ?_, q'⟩
    rw [Rep]
    exact ⟨D, us, rfl, vis_some.mpr ⟨nDW, fun z => M'.out D z (.inr rfl), hD⟩, Reps.mono (List.prefix_refl _) (vis_mono sub) _ _ ra⟩
section
variable {W : WX} {X : Cx} {elt tg iter : Expr} {ifs : List Expr} {scope : Scope} {own : List (Str × Nat)} {pos : Pos} {wi : WI} {g : TG} {k : WG} {tt : WT} {te : WE}
theorem de_lcF (hc : X.calm = true) (hN : X.N.Nodup) (hi : DIF none W X tg iter wi) (ok : BlkOk X.N X.env.scope scope own) (hk : LcG (gx X none) (own.map (·.2)) g k)
    (hg : ∀ (s : Shared) (H : Hp) (C : Addr) (cl : List (Str × Addr)) (fp : List Addr), PG (X.blk s H scope (compEnvC scope cl C X.env) fp) tg g) (ht : ∀ (s : Shared) (H : Hp) (C : Addr) (cl : List (Str × Addr)) (fp : List Addr), DTs (X.blk s H scope (compEnvC scope cl C X.env) fp) ifs tt)
    (he : ∀ (s : Shared) (H : Hp) (C : Addr) (cl : List (Str × Addr)) (fp : List Addr), DE none WF (X.blk s H scope (compEnvC scope cl C X.env) fp) elt te) (hs : ∀ x, foldedSetIterable iter X.env x = pure x := by intro _; rfl) :
    DE none W X (.ListComp elt [⟨tg, iter, ifs, 0⟩] scope pos) (wLc wi k tt te (own.map (·.2))) := pe_weak (pe_lc hc hN hi ok hg ht he hs) fun _ _ _ q => lift_lc hk q
theorem de_lc (hc : X.calm = true) (hN : X.N.Nodup) (hi : DI none W X tg iter wi) (ok : BlkOk X.N X.env.scope scope own) (hk : LcG (gx X none) (own.map (·.2)) g k)
    (hg : ∀ (s : Shared) (H : Hp) (C : Addr) (cl : List (Str × Addr)) (fp : List Addr), PG (X.blk s H scope (compEnvC scope cl C X.env) fp) tg g) (ht : ∀ (s : Shared) (H : Hp) (C : Addr) (cl : List (Str × Addr)) (fp : List Addr), DTs (X.blk s H scope (compEnvC scope cl C X.env) fp) ifs tt)
    (he : ∀ (s : Shared) (H : Hp) (C : Addr) (cl : List (Str × Addr)) (fp : List Addr), DE none WF (X.blk s H scope (compEnvC scope cl C X.env) fp) elt te) (hs : ∀ x, foldedSetIterable iter X.env x = pure x := by intro _; rfl) :
    DE none W X (.ListComp elt [⟨tg, iter, ifs, 0⟩] scope pos) (wLc wi k tt te (own.map (·.2))) := de_lcF hc hN hi.toF ok hk hg ht he hs
theorem ds_setLcF {i : Nat} {y : Str} {py spos : Pos} (hc : X.calm = true) (hN : X.N.Nodup) (hy : X.N[i]? = some y) (hsw : swapsWith (.ListComp elt [⟨tg, iter, ifs, 0⟩] scope pos) (some (.Name y py)) spos.line X.env = pure true)
    (hi : DIF none W X tg iter wi) (ok : BlkOk X.N X.env.scope scope own) (hk : LcG (gx X none) (own.map (·.2)) g k)
    (hg : ∀ (s : Shared) (H : Hp) (C : Addr) (cl : List (Str × Addr)) (fp : List Addr), PG (X.blk s H scope (compEnvC scope cl C X.env) fp) tg g) (ht : ∀ (s : Shared) (H : Hp) (C : Addr) (cl : List (Str × Addr)) (fp : List Addr), DTs (X.blk s H scope (compEnvC scope cl C X.env) fp) ifs tt)
    (he : ∀ (s : Shared) (H : Hp) (C : Addr) (cl : List (Str × Addr)) (fp : List Addr), DE none WF (X.blk s H scope (compEnvC scope cl C X.env) fp) elt te) (hyl : X.env.scope.names.lookup y = some .local := by rfl) (hs : ∀ x, foldedSetIterable iter X.env x = pure x := by intro _; rfl) :
    DSt none W X (.Assign [.Name y py] (.ListComp elt [⟨tg, iter, ifs, 0⟩] scope pos) spos) (sSet i (wLc wi k tt te (own.map (·.2)))) := ps_weak (ps_setLc hc hN hy hyl hsw hi ok hg ht he hs) fun De σ H q => by
  obtain ⟨Z, m, ρ, μ, E, S, q, kn, kr, kb, kc, kx⟩ := q
  refine lift_lc (W := W) hk ⟨Z, m, ρ, μ, _, _, S, q, fun v H1 P => ?_, fun cls d H' P => kx cls d σ H' (XSPost.of S P)⟩
  obtain ⟨m1, d, μ1, s1, r1, q1⟩ := P
  obtain ⟨S1, s2⟩ := (S.step s1).set (i := i) r1
  exact kn _ _ ⟨m1, _, μ1, S1, (SStep.of s1).trans s2, q1⟩
theorem ds_setLc {i : Nat} {y : Str} {py spos : Pos} (hc : X.calm = true) (hN : X.N.Nodup) (hy : X.N[i]? = some y) (hsw : swapsWith (.ListComp elt [⟨tg, iter, ifs, 0⟩] scope pos) (some (.Name y py)) spos.line X.env = pure true)
    (hi : DI none W X tg iter wi) (ok : BlkOk X.N X.env.scope scope own) (hk : LcG (gx X none) (own.map (·.2)) g k)
    (hg : ∀ (s : Shared) (H : Hp) (C : Addr) (cl : List (Str × Addr)) (fp : List Addr), PG (X.blk s H scope (compEnvC scope cl C X.env) fp) tg g) (ht : ∀ (s : Shared) (H : Hp) (C : Addr) (cl : List (Str × Addr)) (fp : List Addr), DTs (X.blk s H scope (compEnvC scope cl C X.env) fp) ifs tt)
    (he : ∀ (s : Shared) (H : Hp) (C : Addr) (cl : List (Str × Addr)) (fp : List Addr), DE none WF (X.blk s H scope (compEnvC scope cl C X.env) fp) elt te) (hyl : X.env.scope.names.lookup y = some .local := by rfl) (hs : ∀ x, foldedSetIterable iter X.env x = pure x := by intro _; rfl) :
    DSt none W X (.Assign [.Name y py] (.ListComp elt [⟨tg, iter, ifs, 0⟩] scope pos) spos) (sSet i (wLc wi k tt te (own.map (·.2)))) := ds_setLcF hc hN hy hsw hi.toF ok hk hg ht he hyl hs
end
end DL

set_option Elab.async false
set_option linter.all false
set_option maxRecDepth 100000
set_option maxHeartbeats 4000000
set_option autoImplicit false
namespace DL
open PySem PySem.Spec PyProof.Rows L2
/-! ### cells made and written -/
theorem vis_cell {Z : Addr → Prop} {m : List Addr} {H : Hp} {p : Addr} {o : HO} (np : H p = none) : vis Z (m ++ [p]) (upd H p o) = vis Z m H := by
  funext b
  by_cases hb : b = p
  · subst hb
    rw [vis_none np]
    unfold vis
    rw [if_pos (.inr (by simp))]
  · unfold vis
    rw [upd_ne hb]
    by_cases h : Z b ∨ b ∈ m
    · rw [if_pos h, if_pos (h.imp id fun q => List.mem_append_left _ q)]
    · rw [if_neg h, if_neg (by simpa [hb] using h)]
theorem Step.cell {G : Gx} {Z : Addr → Prop} {m : List Addr} {μ : Mu} {H : Hp} (M : MuOk G Z m μ H) {p : Addr} {o : HO} {c : Cell} (np : H p = none) (hc : CellOk G (m ++ [p]) (vis Z m H) (upd H p o) c p) :
    Step G Z m H (m ++ [p]) (μ ++ [c]) (upd H p o) := by
  obtain ⟨h1, h2⟩ := M.fresh np
  have ev := vis_cell (Z := Z) (m := m) (o := o) np
  have pre : m <+: m ++ [p] := List.prefix_append _ _
  refine ⟨pre, fun z hz => upd_ne fun e => ?_, ⟨by simp [M.len], ?_, fun a ha => ?_, fun z hz => ?_, fun n d a hd ha => ?_⟩, by rw [ev]; exact Same.refl _⟩
  · subst e; exact M.hw z hz np
  · rw [List.nodup_append]
    refine ⟨M.nd, by simp, fun a ha b hb => ?_⟩
    rw [List.mem_singleton] at hb
    subst hb
    exact fun e => h2 (e ▸ ha)
  · rcases List.mem_append.mp ha with q | q
    · exact M.out a q
    · rw [List.mem_singleton] at q; subst q; exact h1
  · by_cases e : z = p
    · subst e; rw [upd_same]; intro q; cases q
    · rw [upd_ne e]; exact M.hw z hz
  · rw [ev]
    by_cases hn : n < m.length
    · rw [List.getElem?_append_left hn] at ha
      rw [List.getElem?_append_left (by rw [← M.len]; exact hn)] at hd
      have hb : a ≠ p := fun e => h2 (e ▸ List.mem_of_getElem? ha)
      exact (M.cell n d a hd ha).keep pre (Same.refl _) (upd_ne hb)
    · have hlt := (List.getElem?_eq_some_iff.mp ha).1
      have e : n = m.length := by simp at hlt; omega
      subst e
      rw [List.getElem?_concat_length] at ha
      rw [M.len, List.getElem?_concat_length] at hd
      cases ha
      cases hd
      exact hc
theorem vis_put {Z : Addr → Prop} {m : List Addr} {H : Hp} {a : Addr} {o : HO} (ha : a ∈ m) : vis Z m (upd H a o) = vis Z m H := by
  funext b
  unfold vis
  by_cases hb : b = a
  · subst hb
    rw [if_pos (.inr ha), if_pos (.inr ha)]
  · rw [upd_ne hb]
theorem Step.put {G : Gx} {Z : Addr → Prop} {m : List Addr} {μ : Mu} {H : Hp} (M : MuOk G Z m μ H) {n : Nat} {a : Addr} {o : HO} {c : Cell} (ha : m[n]? = some a) (hc : CellOk G m (vis Z m H) (upd H a o) c a) :
    Step G Z m H m (μ.set n c) (upd H a o) := by
  have hm := List.mem_of_getElem? ha
  have ev := vis_put (Z := Z) (H := H) (o := o) hm
  refine ⟨List.prefix_refl _, fun z hz => upd_ne fun e => M.out a hm (e ▸ hz), ⟨by rw [List.length_set]; exact M.len, M.nd, M.out, fun z hz => ?_, fun k d b hd hb => ?_⟩, by rw [ev]; exact Same.refl _⟩
  · by_cases e : z = a
    · subst e; rw [upd_same]; intro q; cases q
    · rw [upd_ne e]; exact M.hw z hz
  · rw [ev]
    by_cases hk : n = k
    · subst hk
      rw [ha] at hb
      cases hb
      have hl : n < μ.length := by rw [← M.len]; exact (List.getElem?_eq_some_iff.mp ha).1
      rw [List.getElem?_set_self hl] at hd
      cases hd
      exact hc
    · rw [List.getElem?_set_ne hk] at hd
      have hab : b ≠ a := fun e => by
        subst e
        obtain ⟨l1, e1⟩ := List.getElem?_eq_some_iff.mp ha
        obtain ⟨l2, e2⟩ := List.getElem?_eq_some_iff.mp hb
        exact hk ((List.getElem_inj M.nd).mp (e1.trans e2.symm))
      exact (M.cell k d b hd hb).keep (List.prefix_refl _) (Same.refl _) (upd_ne hab)
/-- a list display whose list is changed later: a cell -/
def wLstC (wa : WA) : WE := fun ρ μ Q Xd => wa ρ μ (fun ds μ1 => ds.length ≤ 1000 ∧ Q (.loc μ1.length) (μ1 ++ [.lst ds])) Xd
section
variable {ex : Option (Addr × Addr × Addr)} {W : WX} {X : Cx} {e o i : Expr} {es : List Expr} {wa wo wi : WE} {ws : WA} {pos : Pos}
theorem de_lstC (h : DA ex W X es ws) : DE ex W X (.List es pos) (wLstC ws) := pe_weak (pe_lst h) fun σ H Q' q => by
  obtain ⟨Z, m, ρ, μ, Q, Xd, S, q, k, kx⟩ := q
  refine ⟨Z, m, ρ, μ, _, Xd, S, q, fun vs H1 P => ?_, kx⟩
  obtain ⟨m1, ds, μ1, s1, r1, hl, q1⟩ := P
  refine ⟨by rw [← r1.len]; exact le1000 hl, fun p np => k _ _ ?_⟩
  have s2 : Step (gx X ex) (ownW Z σ ρ) m1 H1 (m1 ++ [p]) (μ1 ++ [.lst ds]) (upd H1 p (.lst vs)) := Step.cell s1.mu np ⟨vs, upd_same, Reps.mono (List.prefix_append _ _) (Same.refl _) _ _ r1⟩
  refine VPost.from s1 ⟨_, _, _, s2, ?_, q1⟩
  rw [Rep]
  exact ⟨p, rfl, by rw [← s1.mu.len]; exact List.getElem?_concat_length⟩
/-- cell[i] = d -/
def stL (o i d : D) (μ : Mu) (k : Mu → Prop) : Prop := match o, i with
  | .loc n, .int j => match μ[n]? with
    | some (.lst ds) => match ixN ds.length j with
      | some x => k (μ.set n (.lst (ds.set x d)))
      | none => False
    | _ => False
  | _, _ => False
theorem stL_of {o i d : D} {μ : Mu} {k : Mu → Prop} (h : stL o i d μ k) : ∃ n j ds x, o = .loc n ∧ i = .int j ∧ μ[n]? = some (.lst ds) ∧ ixN ds.length j = some x ∧ k (μ.set n (.lst (ds.set x d))) := by
  unfold stL at h
  split at h
  · split at h
    · split at h
      · exact ⟨_, _, _, _, rfl, rfl, by assumption, by assumption, h⟩
      · exact h.elim
    · exact h.elim
  · exact h.elim
def kSub (wo wi : WE) : WG := fun d ρ μ Q => wo ρ μ (fun x μ1 => wi ρ μ1 (fun y μ2 => stL x y d μ2 fun μ3 => Q ρ μ3) xF) xF
theorem dg_sub (ho : DE none WF X o wo) (hi : DE none WF X i wi)
    (ha : ∀ v, assign (.Subscript o i pos) X.env v = (do
      let ov ← holding [v] (eval o X.env)
      let iv ← holding [v, ov] (eval i X.env)
      standAt pos
      holding [v, ov, iv] (setItem ov iv v)
      release [v, ov, iv] []) := by intro _; rfl) : DG none X (.Subscript o i pos) (kSub wo wi) := pg_weak (pg_sub ho hi set_list ha) fun v σ H Q' q => by
  obtain ⟨Z, m, ρ, μ, d, Q, S, r, q, k⟩ := q
  refine ⟨Z, m, ρ, μ, _, _, S, q, fun x H1 P => ?_, fun cls dd H1 P => (xpF P).elim⟩
  obtain ⟨m1, xd, μ1, s1, r1, q1⟩ := P
  refine ⟨Z, m1, ρ, μ1, _, _, S.step s1, q1, fun y H2 P => ?_, fun cls dd H1 P => (xpF P).elim⟩
  obtain ⟨m2, yd, μ2, s2, r2, q2⟩ := P
  obtain ⟨n, j, ds, z, rfl, rfl, e1, e2, q3⟩ := stL_of q2
  have s12 := s1.trans s2
  have r1' := Rep.mono s2.pre s2.same _ _ r1
  rw [Rep] at r1'
  rw [Rep] at r2
  obtain ⟨a, rfl, ea⟩ := r1'
  obtain ⟨vs, hv, rv⟩ := s2.mu.cell n _ a e1 ea
  have rd := Rep.mono s12.pre s12.same _ _ r
  refine ⟨a, vs, j, z, rfl, r2, hv, by rw [← rv.len]; exact e2, ?_⟩
  have s3 : Step (gx X none) (ownW Z σ ρ) m2 H2 m2 (μ2.set n (.lst (ds.set z d))) (upd H2 a (.lst (vs.set z v))) := Step.put s2.mu ea ⟨_, upd_same, Reps.set rd z rv⟩
  have s13 := s12.trans s3
  exact k _ _ ⟨m2, ρ, _, S.step s13, SStep.of s13, q3⟩
end
/-! ### and, or, if as values -/
section
variable {ex : Option (Addr × Addr × Addr)} {W : WX} {X : Cx} {a b c : Expr} {wa wb : WE} {t : WT} {pos : Pos} {rest : List Expr}
def wIf (t : WT) (wa wb : WE) : WE := fun ρ μ Q Xd => t ρ μ (fun k μ1 => if k = true then wa ρ μ1 Q Xd else wb ρ μ1 Q Xd) Xd
theorem de_if (hc : DT ex W X c t) (ha : DE ex W X a wa) (hb : DE ex W X b wb) : DE ex W X (.IfExp c a b pos) (wIf t wa wb) := pe_weak (pe_ifExp hc ha hb) fun σ H Q' q => by
  obtain ⟨Z, m, ρ, μ, Q, Xd, S, q, k, kx⟩ := q
  refine ⟨Z, m, ρ, μ, _, Xd, S, q, fun c H1 P => ?_, kx⟩
  obtain ⟨m1, μ1, s1, q1⟩ := P
  cases c with
  | true =>
    rw [if_pos rfl] at q1 ⊢
    exact ⟨Z, m1, ρ, μ1, Q, Xd, S.step s1, q1, fun v H2 P => k v H2 (VPost.from s1 P), fun cls d H' P => kx cls d H' (XPost.from s1 P)⟩
  | false =>
    rw [if_neg Bool.false_ne_true] at q1 ⊢
    exact ⟨Z, m1, ρ, μ1, Q, Xd, S.step s1, q1, fun v H2 P => k v H2 (VPost.from s1 P), fun cls d H' P => kx cls d H' (XPost.from s1 P)⟩
/-- a and b, a or b where a is a bool -/
def wAndV (wa wb : WE) : WE := fun ρ μ Q Xd => wa ρ μ (fun x μ1 => fBool x fun k => if k = true then wb ρ μ1 Q Xd else Q (.bl false) μ1) Xd
def wOrV (wa wb : WE) : WE := fun ρ μ Q Xd => wa ρ μ (fun x μ1 => fBool x fun k => if k = true then Q (.bl true) μ1 else wb ρ μ1 Q Xd) Xd
end
end DL

set_option Elab.async false
set_option linter.all false
set_option maxRecDepth 100000
set_option maxHeartbeats 4000000
set_option autoImplicit false
namespace DL
open PySem PySem.Spec PyProof.Rows L2
section
variable {ex : Option (Addr × Addr × Addr)} {W : WX} {X : Cx} {a b c : Expr} {wa wb : WE} {t : WT} {pos : Pos} {rest : List Expr}
theorem de_one {op : BoolOp} (h : DE ex W X a wa) : DE ex W X (.BoolOp op [a] pos) wa := pe_one h
theorem de_and (ha : DE ex W X a wa) (hb : DE ex W X (.BoolOp .And (b :: rest) pos) wb) : DE ex W X (.BoolOp .And (a :: b :: rest) pos) (wAndV wa wb) := pe_weak (pe_and ha hb) fun σ H Q' q => by
  obtain ⟨Z, m, ρ, μ, Q, Xd, S, q, k, kx⟩ := q
  refine ⟨Z, m, ρ, μ, _, Xd, S, q, fun v H1 P => ?_, kx⟩
  obtain ⟨m1, d, μ1, s1, r1, q1⟩ := P
  obtain ⟨c, rfl, q2⟩ := fBool_of q1
  rw [Rep] at r1
  clear q1
  have q1 := q2
  clear q2
  refine ⟨c, r1, ?_⟩
  cases c with
  | true =>
    rw [if_pos rfl] at q1 ⊢
    exact ⟨Z, m1, ρ, μ1, Q, Xd, S.step s1, q1, fun v H2 P => k v H2 (VPost.from s1 P), fun cls d H' P => kx cls d H' (XPost.from s1 P)⟩
  | false =>
    rw [if_neg Bool.false_ne_true] at q1 ⊢
    exact k _ _ (VPost.from s1 (.now s1.mu (by rw [Rep]) q1))
def wNotV (wa : WE) : WE := fun ρ μ Q Xd => wa ρ μ (fun x μ1 => fBool x fun k => Q (.bl (!k)) μ1) Xd
theorem de_not (ha : DE ex W X a wa) : DE ex W X (.UnaryOp .Not a pos) (wNotV wa) := pe_weak (pe_not ha) fun σ H Q' q => by
  obtain ⟨Z, m, ρ, μ, Q, Xd, S, q, k, kx⟩ := q
  refine ⟨Z, m, ρ, μ, _, Xd, S, q, fun v H1 P => ?_, kx⟩
  obtain ⟨m1, d, μ1, s1, r1, q1⟩ := P
  obtain ⟨c, rfl, q2⟩ := fBool_of q1
  rw [Rep] at r1
  exact ⟨c, r1, k _ _ (VPost.from s1 (.now s1.mu (by rw [Rep]) q2))⟩
/-! (a, b, ..) = a list of that length -/
def kUnl (n : Nat) (gs : WGs) : WG := fun d ρ μ Q => match d with
  | .lst ds => ds.length = n ∧ gs ds ρ μ Q
  | .frl ds => ds.length = n ∧ gs ds ρ μ Q
  | _ => False
end
/-! ### isinstance -/
inductive TyN where
  | b (n : String) | c (c : Str)
  deriving DecidableEq
def tyD (d : D) (μ : Mu) : Option TyN := match d with
  | .non => some (.b "NoneType")
  | .bl _ => some (.b "bool")
  | .int _ => some (.b "int")
  | .str _ => some (.b "str")
  | .tup _ => some (.b "tuple")
  | .lst _ => some (.b "list")
  | .frl _ => some (.b "list")
  | .obj c _ _ => some (.c c)
  | .loc n => match μ[n]? with
    | some (.lst _) => some (.b "list")
    | some (.ins c _ _) => some (.c c)
    | _ => none
  | .opq (.dK _) => some (.b "dict")
  | _ => none
def clD : D → Option TyN
  | .ty n => some (.b n)
  | .cls c => some (.c c)
  | _ => none
/-- what of the text a class must have that type(x) is it -/
structure InsT (K : PySem.W.Frag) (C : Addr) : Prop where
  cl : Cls K C
  ca : PySem.W.findIn K (.ref C) "__class__" = some (some (.builtin "object.__class__"))
  cn : PySem.W.specialIn K (.builtin "object.__class__") "__get__" = some (some (.builtin "getset_descriptor.__get__"))
  ct : PySem.W.takesIn K (.builtin "object.__class__") = some true
  cm : PySem.W.mroIn K C (.type "object") = some true
def TyVal (G : Gx) : TyN → Value → Prop
  | .b n, v => v = .type n
  | .c c, v => ∃ C, G.mg c = some (.ref C) ∧ v = .ref C
/-- the answers of isinstance that are known: by a table -/
structure IsiTab (G : Gx) (f : TyN → TyN → Option Bool) : Prop where
  ok : ∀ t u b, f t u = some b → ∀ tv uv, TyVal G t tv → TyVal G u uv → PySem.W.kitOne G.K tv uv = some b
  ins : ∀ c u b, f (.c c) u = some b → ∀ C, G.mg c = some (.ref C) → InsT G.K C
theorem tyX_of {G : Gx} {Z : Addr → Prop} {m : List Addr} {μ : Mu} {H : Hp} {x : D} {v : V} {t : TyN} (M : MuOk G Z m μ H) (r : Rep G m (vis Z m H) x v) (h : tyD x μ = some t) (hi : ∀ c, t = .c c → ∀ C, G.mg c = some (.ref C) → InsT G.K C) :
    ∃ tv, TyVal G t tv ∧ TyX G.K H v tv := by
  unfold tyD at h
  split at h
  · cases h; rw [Rep] at r; subst r; exact ⟨_, rfl, .base .non⟩
  · cases h; rw [Rep] at r; subst r; exact ⟨_, rfl, .base (.bl _)⟩
  · cases h; rw [Rep] at r; subst r; exact ⟨_, rfl, .base (.int _)⟩
  · cases h; rw [Rep] at r; subst r; exact ⟨_, rfl, .base (.str _)⟩
  · cases h; rw [Rep] at r
    obtain ⟨a, vs, rfl, s, _⟩ := r
    refine ⟨_, rfl, ?_⟩
    rcases SqT.same vis_le s with (s | ⟨o, s⟩) | ⟨o, its, n, s, c, _⟩
    · exact .base (.tup s)
    · exact .fTuple s
    · exact .kTuple s c
  · cases h; rw [Rep] at r
    obtain ⟨a, vs, rfl, s, _⟩ := r
    exact ⟨_, rfl, .base (.lst (vis_le _ _ s))⟩
  · cases h; rw [Rep] at r
    obtain ⟨a, vs, rfl, s, _⟩ := r
    refine ⟨_, rfl, ?_⟩
    rcases Same.seq vis_le s with (s | ⟨o, s⟩) | ⟨o, its, n, s, c, _⟩
    · exact .base (.lst s)
    · exact .base (.frz s)
    · exact .kList s c
  · cases h; rw [Rep] at r
    obtain ⟨a, C, dx, vs, rfl, g, s, _⟩ := r
    have i := hi _ rfl C g
    exact ⟨_, ⟨C, g, rfl⟩, .base (.ins (vis_le _ _ s) i.cl i.ca i.cn i.ct i.cm)⟩
  · rw [Rep] at r
    obtain ⟨a, rfl, ea⟩ := r
    split at h
    · rename_i e1
      cases h
      obtain ⟨vs, h1, _⟩ := M.cell _ _ a e1 ea
      exact ⟨_, rfl, .base (.lst h1)⟩
    · rename_i e1
      cases h
      obtain ⟨C, dx, vs, g, h1, _⟩ := M.cell _ _ a e1 ea
      have i := hi _ rfl C g
      exact ⟨_, ⟨C, g, rfl⟩, .base (.ins h1 i.cl i.ca i.cn i.ct i.cm)⟩
    · cases h
  · cases h; rw [Rep] at r
    obtain ⟨a, rfl, s⟩ := r
    exact ⟨_, rfl, .base (.dK (vis_le _ _ s))⟩
  · cases h
theorem clV_of {G : Gx} {m : List Addr} {E : Hp} {x : D} {v : V} {u : TyN} (r : Rep G m E x v) (h : clD x = some u) : ∃ uv, TyVal G u uv ∧ ClsV v uv := by
  unfold clD at h
  split at h
  · cases h; rw [Rep] at r; subst r; exact ⟨_, rfl, .ty _⟩
  · cases h; rw [Rep] at r
    obtain ⟨C, g, rfl⟩ := r
    exact ⟨_, ⟨C, g, rfl⟩, .own C⟩
  · cases h
def isiD (f : TyN → TyN → Option Bool) (x c : D) (μ : Mu) : Option Bool := match tyD x μ, clD c with
  | some t, some u => f t u
  | _, _ => none
def fIsi (f : TyN → TyN → Option Bool) : FN := fun xs μ Q => match xs with
  | [x, c] => match isiD f x c μ with
    | some b => Q (.bl b) μ
    | none => False
  | _ => False
theorem isiD_of {f : TyN → TyN → Option Bool} {x c : D} {μ : Mu} {b : Bool} (h : isiD f x c μ = some b) : ∃ t u, tyD x μ = some t ∧ clD c = some u ∧ f t u = some b := by
  unfold isiD at h
  split at h
  · exact ⟨_, _, by assumption, by assumption, h⟩
  · cases h
theorem fIsi_of {f : TyN → TyN → Option Bool} {xs : List D} {μ : Mu} {Q : D → Mu → Prop} (h : fIsi f xs μ Q) : ∃ x c b, xs = [x, c] ∧ isiD f x c μ = some b ∧ Q (.bl b) μ := by
  unfold fIsi at h
  split at h
  · split at h
    · exact ⟨_, _, _, rfl, by assumption, h⟩
    · exact h.elim
  · exact h.elim
theorem sn_isi {G : Gx} {f : TyN → TyN → Option Bool} (T : IsiTab G f) : SN G (rIsi G.K) (fIsi f) := by
  intro Z m μ H xs us Q Q' M r h k
  obtain ⟨x, c, b, rfl, hb, q⟩ := fIsi_of h
  obtain ⟨v, t, rfl, r1, r2⟩ := r.uncons
  obtain ⟨v', t', rfl, r3, r4⟩ := r2.uncons
  rw [Reps] at r4
  subst r4
  obtain ⟨tn, un, h1, h2, h3⟩ := isiD_of hb
  obtain ⟨tv, t1, t2⟩ := tyX_of M r1 h1 fun c e C g => T.ins c un b (e ▸ h3) C g
  obtain ⟨uv, u1, u2⟩ := clV_of r3 h2
  exact ⟨v, v', tv, uv, b, rfl, u2, t2, T.ok _ _ _ h3 _ _ t1 u1, k _ _ (.now M (by rw [Rep]) q)⟩
/-! ### attributes -/
/-- an instance: class, names, values -/
def insD (d : D) (μ : Mu) : Option (Str × List Str × List D) := match d with
  | .obj c ks ds => some (c, ks, ds)
  | .loc n => match μ[n]? with
    | some (.ins c ks ds) => some (c, ks, ds)
    | _ => none
  | _ => none
theorem ins_rep {G : Gx} {Z : Addr → Prop} {m : List Addr} {μ : Mu} {H : Hp} {x : D} {v : V} {c : Str} {ks : List Str} {ds : List D} (M : MuOk G Z m μ H) (r : Rep G m (vis Z m H) x v) (h : insD x μ = some (c, ks, ds)) :
    ∃ a C dx vs, v = .ref a ∧ G.mg c = some (.ref C) ∧ H a = some (.ins C dx (ks.zip vs)) ∧ ks.length = ds.length ∧ Reps G m (vis Z m H) ds vs := by
  unfold insD at h
  split at h
  · cases h
    rw [Rep] at r
    obtain ⟨a, C, dx, vs, e, g, s, l, q⟩ := r
    exact ⟨a, C, dx, vs, e, g, vis_le _ _ s, l, q⟩
  · split at h
    · rename_i e1
      cases h
      rw [Rep] at r
      obtain ⟨a, e, ea⟩ := r
      obtain ⟨C, dx, vs, g, s, l, q⟩ := M.cell _ _ a e1 ea
      exact ⟨a, C, dx, vs, e, g, s, l, q⟩
    · cases h
  · cases h
/-- the value of a name -/
def fldOf (f : Str) : List Str → List D → Option D
  | k :: ks, d :: ds => if f == k then some d else fldOf f ks ds
  | _, _ => none
theorem fldOf_rep {G : Gx} {m : List Addr} {E : Hp} {f : Str} : ∀ {ks : List Str} {ds : List D} {vs : List V} {d : D}, Reps G m E ds vs → fldOf f ks ds = some d → ∃ v, (ks.zip vs).lookup f = some v ∧ Rep G m E d v
  | [], ds, vs, d, r, h => by cases ds <;> cases h
  | k :: ks, [], vs, d, r, h => by cases h
  | k :: ks, d0 :: ds, vs, d, r, h => by
    obtain ⟨v, t, rfl, r1, r2⟩ := r.uncons
    rw [List.zip_cons_cons, List.lookup_cons]
    rw [fldOf] at h
    cases e : f == k with
    | true => rw [e] at h; cases h; exact ⟨v, rfl, r1⟩
    | false => rw [e] at h; exact fldOf_rep r2 h
def fFld (c f : Str) : F1 := fun x μ Q => match insD x μ with
  | some (c', ks, ds) => c' = c ∧ match fldOf f ks ds with
    | some d => Q d μ
    | none => False
  | none => False
theorem fFld_of {c f : Str} {x : D} {μ : Mu} {Q : D → Mu → Prop} (h : fFld c f x μ Q) : ∃ ks ds d, insD x μ = some (c, ks, ds) ∧ fldOf f ks ds = some d ∧ Q d μ := by
  unfold fFld at h
  split at h
  · rename_i e
    obtain ⟨rfl, h⟩ := h
    split at h
    · exact ⟨_, _, _, e, by assumption, h⟩
    · exact h.elim
  · exact h.elim
def rFld (K : PySem.W.Frag) (f : Str) : V → Hp → VK → Prop := fun x H1 Q => ∃ a C dx fs v, x = .ref a ∧ H1 a = some (.ins C dx fs) ∧ Cls K C ∧ NoAttr K C f ∧ fs.lookup f = some v ∧ Q v H1
theorem s1_fld {G : Gx} {c f : Str} {C : Addr} (hm : G.mg c = some (.ref C)) (hc : Cls G.K C) (hn : NoAttr G.K C f) : S1 G (rFld G.K f) (fFld c f) := by
  intro Z m μ H x u Q Q' M rx h k
  obtain ⟨ks, ds, d, e1, e2, q⟩ := fFld_of h
  obtain ⟨a, C', dx, vs, rfl, g, s, l, rs⟩ := ins_rep M rx e1
  rw [hm] at g
  cases g
  obtain ⟨v, ev, rv⟩ := fldOf_rep rs e2
  exact ⟨a, C, dx, _, v, rfl, s, hc, hn, ev, k _ _ (.now M rv q)⟩
section
variable {ex : Option (Addr × Addr × Addr)} {W : WX} {X : Cx} {e o value : Expr} {wa wo : WE} {pos pos' : Pos}
theorem de_fld {c f : Str} {C : Addr} (hm : X.mg c = some (.ref C)) (hc : Cls X.K C) (hn : NoAttr X.K C f) (he : DE ex W X e wa) (hb : attributeBase e f X.env (eval e X.env) = eval e X.env := by rfl) : DE ex W X (.Attribute e f pos) (w1 (fFld c f) wa) :=
  pe_weak (pe_fld he hb) fun _ _ _ q => lift_w1 (G := gx X ex) (s1_fld hm hc hn) q
end
/-! stored -/
def putK (f : Str) : List Str → List Str
  | [] => [f]
  | g :: r => if g = f then g :: r else g :: putK f r
def putD {α : Type} (f : Str) (y : α) : List Str → List α → List α
  | [], _ => [y]
  | g :: r, x :: xs => if g = f then y :: xs else x :: putD f y r xs
  | _ :: _, [] => []
theorem putF_zip (f : Str) (y : V) : ∀ (ks : List Str) (vs : List V), ks.length = vs.length → putF f y (ks.zip vs) = (putK f ks).zip (putD f y ks vs)
  | [], [], _ => rfl
  | [], _ :: _, h => nomatch h
  | _ :: _, [], h => nomatch h
  | g :: r, x :: xs, h => by
    have ih := putF_zip f y r xs (by simpa using h)
    rw [List.zip_cons_cons, putK, putD, putF]
    by_cases e : g = f
    · rw [if_pos e, if_pos e, if_pos e, List.zip_cons_cons]
    · rw [if_neg e, if_neg e, if_neg e, List.zip_cons_cons, ih]
theorem putD_len (f : Str) : ∀ (ks : List Str) (ds : List D) (d : D), ks.length = ds.length → (putK f ks).length = (putD f d ks ds).length
  | [], [], _, _ => rfl
  | [], _ :: _, _, h => nomatch h
  | _ :: _, [], _, h => nomatch h
  | g :: r, x :: xs, d, h => by
    have ih := putD_len f r xs d (by simpa using h)
    rw [putK, putD]
    by_cases e : g = f
    · rw [if_pos e, if_pos e]; exact h
    · rw [if_neg e, if_neg e, List.length_cons, List.length_cons, ih]
theorem putD_rep {G : Gx} {m : List Addr} {E : Hp} {f : Str} {d : D} {v : V} (rd : Rep G m E d v) : ∀ {ks : List Str} {ds : List D} {vs : List V}, ks.length = ds.length → Reps G m E ds vs → Reps G m E (putD f d ks ds) (putD f v ks vs)
  | [], [], vs, _, r => by rw [Reps] at r; subst r; exact Reps.cons rd Reps.nil
  | [], _ :: _, _, h, _ => nomatch h
  | _ :: _, [], _, h, _ => nomatch h
  | g :: r, x :: xs, vs, h, q => by
    obtain ⟨u, t, rfl, q1, q2⟩ := q.uncons
    rw [putD, putD]
    by_cases e : g = f
    · rw [if_pos e, if_pos e]; exact Reps.cons rd q2
    · rw [if_neg e, if_neg e]; exact Reps.cons q1 (putD_rep rd (by simpa using h) q2)
/-- an own thing is written -/
theorem own_put {Z : Addr → Prop} {σ : L2.St} {ρ : DS} {i : Nat} {a : Addr} {c c' : Cell} (hi : ρ[i]? = some (.own a c)) : ownW Z σ (ρ.set i (.own a c')) = ownW Z σ ρ := by
  have hil := (List.getElem?_eq_some_iff.mp hi).1
  funext b
  apply propext
  constructor
  · rintro (h | ⟨j, e, h1⟩)
    · exact .inl h
    · by_cases hj : i = j
      · subst hj
        rw [List.getElem?_set_self hil] at h1
        cases h1
        exact .inr ⟨i, c, hi⟩
      · rw [List.getElem?_set_ne hj] at h1; exact .inr ⟨j, e, h1⟩
  · rintro (h | ⟨j, e, h1⟩)
    · exact .inl h
    · by_cases hj : i = j
      · subst hj
        rw [hi] at h1
        cases h1
        exact .inr ⟨i, c', List.getElem?_set_self hil⟩
      · exact .inr ⟨j, e, by rw [List.getElem?_set_ne hj]; exact h1⟩
theorem SR.putOwn {G : Gx} {Z : Addr → Prop} {m : List Addr} {σ : L2.St} {H : Hp} {ρ : DS} {μ : Mu} (S : SR G Z m σ H ρ μ) {i : Nat} {c c' : Cell} {a : Addr} {o : HO} (hi : ρ[i]? = some (.own a c))
    (hc : CellOk G m (vis (ownW Z σ ρ) m H) (upd H a o) c' a) : SR G Z m σ (upd H a o) (ρ.set i (.own a c')) μ ∧ SStep G Z m σ ρ H m σ (ρ.set i (.own a c')) (upd H a o) := by
  have hil := (List.getElem?_eq_some_iff.mp hi).1
  obtain ⟨hs, nz, _⟩ := S.own i a c hi
  have ow : ownW Z σ (ρ.set i (.own a c')) = ownW Z σ ρ := own_put hi
  have wa : ownW Z σ ρ a := .inr ⟨i, c, hi⟩
  have ev : vis (ownW Z σ ρ) m (upd H a o) = vis (ownW Z σ ρ) m H := by
    funext b
    unfold vis
    by_cases hb : b = a
    · rw [hb, if_pos (.inl wa), if_pos (.inl wa)]
    · rw [upd_ne hb]
  refine ⟨⟨by rw [List.length_set]; exact S.len, ?_, fun j d e => ?_, fun j b e h => ?_, fun j k b e f h1 h2 => ?_, fun j c ks ds h => ?_⟩, List.prefix_refl _, fun z hz => upd_ne fun e => nz (e ▸ hz), by rw [ow, ev]; exact Same.refl _⟩
  · rw [ow]
    refine ⟨S.mu.len, S.mu.nd, S.mu.out, fun z hz => ?_, fun n d b hd hb => ?_⟩
    · by_cases e : z = a
      · rw [e, upd_same]; intro q; cases q
      · rw [upd_ne e]; exact S.mu.hw z hz
    · rw [ev]
      have nb : b ≠ a := fun e => S.mu.out b (List.mem_of_getElem? hb) (e ▸ wa)
      exact (S.mu.cell n d b hd hb).keep (List.prefix_refl _) (Same.refl _) (upd_ne nb)
  · rw [ow, ev]
    have hj : i ≠ j := fun q => by subst q; rw [List.getElem?_set_self hil] at e; cases e
    rw [List.getElem?_set_ne hj] at e
    exact S.val j d e
  · rw [ow, ev]
    by_cases hj : i = j
    · subst hj
      rw [List.getElem?_set_self hil] at h
      cases h
      exact ⟨hs, nz, hc⟩
    · rw [List.getElem?_set_ne hj] at h
      obtain ⟨h1, h2, h3⟩ := S.own j b e h
      exact ⟨h1, h2, h3.keep (List.prefix_refl _) (Same.refl _) (upd_ne fun q => hj (S.dis i j a c e hi (q ▸ h)))⟩
  · have get : ∀ {l : Nat} {b : Addr} {es : Cell}, (ρ.set i (Sl.own a c'))[l]? = some (Sl.own b es) → ∃ es2 : Cell, ρ[l]? = some (Sl.own b es2) := fun {l b es} h => by
      by_cases hj : i = l
      · subst hj
        rw [List.getElem?_set_self hil] at h
        cases h
        exact ⟨c, hi⟩
      · rw [List.getElem?_set_ne hj] at h; exact ⟨es, h⟩
    obtain ⟨_, g1⟩ := get h1
    obtain ⟨_, g2⟩ := get h2
    exact S.dis j k b _ _ g1 g2
  · rw [ow, ev]
    have hj : i ≠ j := fun q => by subst q; rw [List.getElem?_set_self hil] at h; cases h
    rw [List.getElem?_set_ne hj] at h
    exact S.exn j c ks ds h
/-- self.f = value, self the thing that is being made -/
def putOwnI (c0 : Str) (i : Nat) (f : Str) (d : D) (ρ : DS) (k : DS → Prop) : Prop := match ρ[i]? with
  | some (.own a (.ins c ks ds)) => c = c0 ∧ ks.length < 1000 ∧ k (ρ.set i (.own a (.ins c (putK f ks) (putD f d ks ds))))
  | _ => False
theorem putOwnI_of {c : Str} {i : Nat} {f : Str} {d : D} {ρ : DS} {k : DS → Prop} (h : putOwnI c i f d ρ k) : ∃ a ks ds, ρ[i]? = some (.own a (.ins c ks ds)) ∧ ks.length < 1000 ∧ k (ρ.set i (.own a (.ins c (putK f ks) (putD f d ks ds)))) := by
  unfold putOwnI at h
  split at h
  · rename_i e
    obtain ⟨rfl, h⟩ := h
    exact ⟨_, _, _, e, h⟩
  · exact h.elim
def sFldO (c : Str) (i : Nat) (f : Str) (wa : WE) : WS := fun E ρ μ => wa ρ μ (fun d μ1 => putOwnI c i f d ρ fun ρ1 => E.nx ρ1 μ1) fun c ks es μ' => E.xc c ks es ρ μ'
section
variable {ex : Option (Addr × Addr × Addr)} {W : WX} {X : Cx} {e o value : Expr} {wa wo : WE} {pos pos' p0 : Pos}
theorem ds_fldO {i : Nat} {x c f : Str} {C : Addr} (hm : X.mg c = some (.ref C)) (hc : Cls X.K C) (hn : NoAttr X.K C f) (hN : X.N[i]? = some x) (hv : DE ex W X value wa) (hs : swapsWith value (some (.Attribute (.Name x p0) f pos')) pos.line X.env = pure false)
    (hvis : Vis X.env.scope x := by first | exact Or.inl rfl | exact Or.inr (Or.inl rfl) | exact Or.inr (Or.inr rfl)) (hd : (x == ("__debug__" : Str)) = false := by decide) (hcd : (x == ("__classdict__" : Str)) = false := by decide) :
    DSt ex W X (.Assign [.Attribute (.Name x p0) f pos'] value pos) (sFldO c i f wa) := ps_weak (ps_fld (pe_var hN hvis hd hcd) hv hs) fun De σ H q => by
  obtain ⟨Z, m, ρ, μ, E, S, q, kn, kr, kb, kc, kx⟩ := q
  refine ⟨Z, m, ρ, μ, _, _, S, q, fun v H1 P => ?_, fun cls d H' P => kx cls d σ H' (XSPost.of S P)⟩
  obtain ⟨m1, d, μ1, s1, r1, q1⟩ := P
  obtain ⟨a, ks, ds, hi, hl, q2⟩ := putOwnI_of q1
  have S1 := S.step s1
  obtain ⟨ha, nz, C0, dx, vs, g, hv, l, rs⟩ := S1.own i a _ hi
  have hC : C0 = C := by
    have g' : X.mg c = some (.ref C0) := g
    rw [hm] at g'; cases g'; rfl
  subst hC
  have lv : ks.length = vs.length := by rw [l]; exact rs.len
  refine ⟨_, ha, a, C0, dx, _, rfl, hv, hc, hn, by rw [List.length_zip, ← lv, Nat.min_self]; exact hl, ?_⟩
  obtain ⟨S2, s2⟩ := S1.putOwn (o := .ins C0 dx (putF f v (ks.zip vs))) (c' := .ins c (putK f ks) (putD f d ks ds)) hi ⟨C0, dx, putD f v ks vs, g, by rw [upd_same, putF_zip f v ks vs lv], putD_len f ks ds d l, putD_rep r1 l rs⟩
  exact kn _ _ ⟨m1, _, μ1, S2, (SStep.of s1).trans s2, q2⟩
end
end DL

set_option Elab.async false
set_option linter.all false
set_option maxRecDepth 100000
set_option maxHeartbeats 4000000
set_option autoImplicit false
namespace DL
open PySem PySem.Spec PyProof.Rows L2
/-! ### an own thing let go: a datum -/
def cellD : Cell → Option D
  | .lst ds => some (.lst ds)
  | .ins c ks ds => some (.obj c ks ds)
  | .pool => none
  | .dct kvs => none
theorem cellD_rep {G : Gx} {m : List Addr} {E H : Hp} {c : Cell} {a : Addr} {d : D} (h : CellOk G m E H c a) (e : cellD c = some d) {E' : Hp} (hE : Same E E') (ha : ∀ o, H a = some o → E' a = some o) : Rep G m E' d (.ref a) := by
  cases c with
  | lst ds =>
    cases e
    obtain ⟨vs, h1, h2⟩ := h
    rw [Rep]
    exact ⟨a, vs, rfl, ha _ h1, Reps.mono (List.prefix_refl _) hE _ _ h2⟩
  | ins c ks ds =>
    cases e
    obtain ⟨C, dx, vs, g, h1, l, h2⟩ := h
    rw [Rep]
    exact ⟨a, C, dx, vs, rfl, g, ha _ h1, l, Reps.mono (List.prefix_refl _) hE _ _ h2⟩
  | pool => cases e
  | dct kvs => cases e
theorem SR.free {G : Gx} {Z : Addr → Prop} {m : List Addr} {σ : L2.St} {H : Hp} {ρ : DS} {μ : Mu} (S : SR G Z m σ H ρ μ) {i : Nat} {a : Addr} {c : Cell} {d : D} (hi : ρ[i]? = some (.own a c)) (hd : cellD c = some d) :
    SR G Z m σ H (ρ.set i (.v d)) μ ∧ SStep G Z m σ ρ H m σ (ρ.set i (.v d)) H := by
  have hil := (List.getElem?_eq_some_iff.mp hi).1
  obtain ⟨hs, nz, hc⟩ := S.own i a c hi
  have sub : ∀ b, ownW Z σ (ρ.set i (.v d)) b → ownW Z σ ρ b := fun b h => by
    rcases h with h | ⟨j, e, h1⟩
    · exact .inl h
    · by_cases hj : i = j
      · subst hj; rw [List.getElem?_set_self hil] at h1; cases h1
      · rw [List.getElem?_set_ne hj] at h1; exact .inr ⟨j, e, h1⟩
  have sm := vis_mono (m := m) (H := H) sub
  have nw : ¬ ownW Z σ (ρ.set i (.v d)) a := by
    rintro (h | ⟨j, e, h1⟩)
    · exact nz h
    · by_cases hj : i = j
      · subst hj; rw [List.getElem?_set_self hil] at h1; cases h1
      · rw [List.getElem?_set_ne hj] at h1; exact hj (S.dis i j a c e hi h1)
  refine ⟨⟨by rw [List.length_set]; exact S.len, S.mu.less sub, fun j e h => ?_, fun j b e h => ?_, fun j k b e f h1 h2 => ?_, fun j c ks ds h => ?_⟩, List.prefix_refl _, fun _ _ => rfl, sm⟩
  · by_cases hj : i = j
    · subst hj
      rw [List.getElem?_set_self hil] at h
      cases h
      exact ⟨_, hs, cellD_rep hc hd sm fun o ho => vis_some.mpr ⟨nw, fun q => S.mu.out a q (.inr ⟨i, c, hi⟩), ho⟩⟩
    · rw [List.getElem?_set_ne hj] at h
      obtain ⟨v, h1, h2⟩ := S.val j e h
      exact ⟨v, h1, Rep.mono (List.prefix_refl _) sm _ _ h2⟩
  · by_cases hj : i = j
    · subst hj; rw [List.getElem?_set_self hil] at h; cases h
    · rw [List.getElem?_set_ne hj] at h
      obtain ⟨h1, h2, h3⟩ := S.own j b e h
      exact ⟨h1, h2, h3.keep (List.prefix_refl _) sm rfl⟩
  · have get : ∀ {l : Nat} {b : Addr} {es : Cell}, (ρ.set i (Sl.v d))[l]? = some (Sl.own b es) → ρ[l]? = some (Sl.own b es) := fun {l b es} h => by
      by_cases hj : i = l
      · subst hj; rw [List.getElem?_set_self hil] at h; cases h
      · rw [List.getElem?_set_ne hj] at h; exact h
    exact S.dis j k b _ _ (get h1) (get h2)
  · have hj : i ≠ j := fun q => by subst q; rw [List.getElem?_set_self hil] at h; cases h
    rw [List.getElem?_set_ne hj] at h
    exact (S.exn j c ks ds h).mono (List.prefix_refl _) sm
/-- ahead of a statement: the thing at slot i is let go -/
def frz (i : Nat) (ρ : DS) (k : DS → Prop) : Prop := match ρ[i]? with
  | some (.own _ c) => match cellD c with
    | some d => k (ρ.set i (.v d))
    | none => False
  | _ => False
theorem frz_of {i : Nat} {ρ : DS} {k : DS → Prop} (h : frz i ρ k) : ∃ a c d, ρ[i]? = some (.own a c) ∧ cellD c = some d ∧ k (ρ.set i (.v d)) := by
  unfold frz at h
  split at h
  · split at h
    · exact ⟨_, _, _, by assumption, by assumption, h⟩
    · exact h.elim
  · exact h.elim
def sFrz (i : Nat) (w : WS) : WS := fun E ρ μ => frz i ρ fun ρ1 => w E ρ1 μ
section
variable {ex : Option (Addr × Addr × Addr)} {W : WX} {X : Cx} {st : Stmt} {sts : List Stmt} {w : WS} {e : Expr} {wa : WE} {ws : WA} {es : List Expr} {pos : Pos}
theorem lift_frz {G : Gx} {i : Nat} {De : Ends} {σ : L2.St} {H : Hp} (q : liftS G W (sFrz i w) De σ H) : liftS G W w De σ H := by
  obtain ⟨Z, m, ρ, μ, E, S, q, kn, kr, kb, kc, kx⟩ := q
  obtain ⟨a, c, d, hi, hd, q⟩ := frz_of q
  obtain ⟨S1, s1⟩ := S.free hi hd
  exact ⟨Z, m, _, μ, E, S1, q, fun σ' H' P => kn σ' H' (SPost.from s1 P), fun v H' P => kr v H' (RPost.from s1 P), fun σ' H' P => kb σ' H' (SPost.from s1 P), fun σ' H' P => kc σ' H' (SPost.from s1 P), fun cls d σ' H' P => kx cls d σ' H' (XSPost.from s1 P)⟩
theorem ds_frz (i : Nat) (h : DSt ex W X st w) : DSt ex W X st (sFrz i w) := ps_weak h fun De σ H q => lift_frz q
/-! ### a list of the def's own: made -/
theorem SR.born {G : Gx} {Z : Addr → Prop} {m : List Addr} {σ : L2.St} {H : Hp} {ρ : DS} {μ : Mu} (S : SR G Z m σ H ρ μ) {i : Nat} {p : Addr} {o : HO} {c : Cell} (np : H p = none) (hi : i < ρ.length) (hc : CellOk G m (vis (ownW Z σ ρ) m H) (upd H p o) c p) :
    SR G Z m (σ.set i (some (.ref p))) (upd H p o) (ρ.set i (.own p c)) μ ∧ SStep G Z m σ ρ H m (σ.set i (some (.ref p))) (ρ.set i (.own p c)) (upd H p o) := by
  have hil : i < σ.length := by rw [← S.len]; exact hi
  obtain ⟨f1, f2⟩ := S.mu.fresh np
  have sub : ∀ b, ownW Z (σ.set i (some (.ref p))) (ρ.set i (.own p c)) b → addZ (ownW Z σ ρ) p b := fun b h => by
    rcases h with h | ⟨j, e, h1⟩
    · exact .inl (.inl h)
    · by_cases hj : i = j
      · subst hj; rw [List.getElem?_set_self hi] at h1; cases h1; exact .inr rfl
      · rw [List.getElem?_set_ne hj] at h1; exact .inl (.inr ⟨j, e, h1⟩)
  obtain ⟨Mh, sh⟩ := MuOk.hide (o := o) S.mu np
  have sm : Same (vis (ownW Z σ ρ) m H) (vis (ownW Z (σ.set i (some (.ref p))) (ρ.set i (.own p c))) m (upd H p o)) := sh.trans (vis_mono sub)
  have nzp : ¬ Z p := fun h => f1 (.inl h)
  have old : ∀ {j : Nat} {e : Cell}, ρ[j]? ≠ some (Sl.own p e) := fun {j e} h => f1 (.inr ⟨j, e, h⟩)
  refine ⟨⟨by rw [List.length_set, List.length_set]; exact S.len, Mh.less sub, fun j e h => ?_, fun j b e h => ?_, fun j k b e f h1 h2 => ?_, fun j c ks ds h => ?_⟩, List.prefix_refl _, fun z hz => upd_ne fun q => nzp (q ▸ hz), sm⟩
  · by_cases hj : i = j
    · subst hj; rw [List.getElem?_set_self hi] at h; cases h
    · rw [List.getElem?_set_ne hj] at h
      obtain ⟨v, h1, h2⟩ := S.val j e h
      exact ⟨v, by rw [List.getElem?_set_ne hj]; exact h1, Rep.mono (List.prefix_refl _) sm _ _ h2⟩
  · by_cases hj : i = j
    · subst hj
      rw [List.getElem?_set_self hi] at h
      cases h
      exact ⟨List.getElem?_set_self hil, nzp, hc.keep (List.prefix_refl _) sm rfl⟩
    · rw [List.getElem?_set_ne hj] at h
      obtain ⟨h1, h2, h3⟩ := S.own j b e h
      refine ⟨by rw [List.getElem?_set_ne hj]; exact h1, h2, h3.keep (List.prefix_refl _) sm (upd_ne fun q => ?_)⟩
      subst q
      exact old h
  · by_cases hj : i = j
    · subst hj
      rw [List.getElem?_set_self hi] at h1
      cases h1
      by_cases hk : i = k
      · exact hk
      · rw [List.getElem?_set_ne hk] at h2
        exact absurd h2 old
    · rw [List.getElem?_set_ne hj] at h1
      by_cases hk : i = k
      · subst hk
        rw [List.getElem?_set_self hi] at h2
        cases h2
        exact absurd h1 old
      · rw [List.getElem?_set_ne hk] at h2
        exact S.dis j k b e f h1 h2
  · have hj : i ≠ j := fun q => by subst q; rw [List.getElem?_set_self hi] at h; cases h
    rw [List.getElem?_set_ne hj] at h ⊢
    exact (S.exn j c ks ds h).mono (List.prefix_refl _) sm
def sSetO (i : Nat) (wa : WA) : WS := fun E ρ μ => wa ρ μ (fun ds μ1 => ds.length ≤ 1000 ∧ i < ρ.length ∧ ∀ p, E.nx (ρ.set i (.own p (.lst ds))) μ1) fun c ks es μ' => E.xc c ks es ρ μ'
theorem ds_setO {i : Nat} {x : Str} {pos' lp : Pos} (hN : X.N.Nodup) (hi : X.N[i]? = some x) (he : DA ex W X es ws) (hx : Loc X.env.scope x := by first | exact Or.inl rfl | exact Or.inr rfl)
    (hs : swapsWith (.List es lp) (some (.Name x pos')) pos.line X.env = pure false := by rfl) (hf : X.fn x = true ∨ X.env.scope.names.lookup x = some .local := by first | exact .inl rfl | exact .inr rfl | assumption) :
    DSt ex W X (.Assign [.Name x pos'] (.List es lp) pos) (sSetO i ws) := ps_weak (ps_set (i := i) hN hi hx (pe_lst he) hs hf) fun D σ H q => by
  obtain ⟨Z, m, ρ, μ, E, S, q, kn, kr, kb, kc, kx⟩ := q
  refine ⟨Z, m, ρ, μ, _, _, S, q, fun vs H1 P => ?_, fun cls d H' P => kx cls d σ H' (XSPost.of S P)⟩
  obtain ⟨m1, ds, μ1, s1, r1, hl, hil, q1⟩ := P
  refine ⟨by rw [← r1.len]; exact le1000 hl, fun p np => kn _ _ ?_⟩
  obtain ⟨S2, s2⟩ := (S.step s1).born (o := .lst vs) (c := .lst ds) np hil ⟨vs, upd_same, r1⟩
  exact ⟨m1, _, μ1, S2, (SStep.of s1).trans s2, q1 p⟩
end
end DL

set_option Elab.async false
set_option linter.all false
set_option maxRecDepth 100000
set_option maxHeartbeats 4000000
set_option autoImplicit false
namespace DL
open PySem PySem.Spec PyProof.Rows L2
/-! ### __init__ and the making of instances -/
abbrev ISp := List D → Mu → (List Str → List D → Mu → Prop) → XD → Prop
def InitPost (G : Gx) (Z : Addr → Prop) (x : Addr) (c : Str) (m : List Addr) (H : Hp) (Q : List Str → List D → Mu → Prop) (H' : Hp) : Prop :=
  ∃ m' ks es μ', m <+: m' ∧ (∀ z, Z z → H' z = H z) ∧ MuOk G (addZ Z x) m' μ' H' ∧ Same (vis (addZ Z x) m H) (vis (addZ Z x) m' H') ∧ CellOk G m' (vis (addZ Z x) m' H') H' (.ins c ks es) x ∧ Q ks es μ'
def XInit (G : Gx) (Z : Addr → Prop) (x : Addr) (m : List Addr) (H : Hp) (Xd : XD) (cls : Value) (d : Option Addr) (H' : Hp) : Prop :=
  ∃ m' c ks es μ' C dd vs, m <+: m' ∧ (∀ z, Z z → H' z = H z) ∧ MuOk G Z m' μ' H' ∧ Same (vis (addZ Z x) m H) (vis Z m' H') ∧ cls = .ref C ∧ d = some dd ∧ G.mg c = some (.ref C) ∧ vis Z m' H' dd = some (.xd (ks.zip vs)) ∧ ks.length = es.length ∧
    Reps G m' (vis Z m' H') es vs ∧ Xd c ks es μ'
def toSpI (G : Gx) (c : Str) (sp : ISp) : Sp := fun vs H Q' E => ∃ x us C dx Z m μ ds Q Xd, vs = .ref x :: us ∧ G.mg c = some (.ref C) ∧ H x = some (.ins C dx []) ∧ ¬ Z x ∧ MuOk G (addZ Z x) m μ H ∧ Reps G m (vis (addZ Z x) m H) ds us ∧ sp ds μ Q Xd ∧
  (∀ H', InitPost G Z x c m H Q H' → Q' .non H') ∧ ∀ cls d H', XInit G Z x m H Xd cls d H' → E cls d H'
def startI (N : List Str) (c : Str) (x : Addr) (ds : List D) : DS := .own x (.ins c [] []) :: (ds.map Sl.v ++ List.replicate (N.length - ds.length - 1) Sl.no)
theorem startI_own {N : List Str} {c : Str} {x : Addr} {ds : List D} {i : Nat} {a : Addr} {e : Cell} (h : (startI N c x ds)[i]? = some (.own a e)) : i = 0 ∧ a = x ∧ e = .ins c [] [] := by
  unfold startI at h
  cases i with
  | zero => cases h; exact ⟨rfl, rfl, rfl⟩
  | succ i =>
    rw [List.getElem?_cons_succ] at h
    have hm := List.mem_of_getElem? h
    rcases List.mem_append.mp hm with q | q
    · obtain ⟨d, _, q⟩ := List.mem_map.mp q
      cases q
    · rw [List.mem_replicate] at q
      exact nomatch q.2
theorem startI_ownW {Z : Addr → Prop} {N : List Str} {c : Str} {x : Addr} {ds : List D} {σ : L2.St} : ownW Z σ (startI N c x ds) = addZ Z x := by
  funext b
  apply propext
  constructor
  · rintro (h | ⟨i, e, h⟩)
    · exact .inl h
    · obtain ⟨_, rfl, _⟩ := startI_own h
      exact .inr rfl
  · rintro (h | h)
    · exact .inl h
    · subst h
      exact .inr ⟨0, _, rfl⟩
theorem SR.startI {G : Gx} {Z : Addr → Prop} {m : List Addr} {H : Hp} {μ : Mu} {N : List Str} {ds : List D} {us : List V} {c : Str} {C x dx : Addr} (g : G.mg c = some (.ref C)) (hx : H x = some (.ins C dx [])) (nz : ¬ Z x) (M : MuOk G (addZ Z x) m μ H)
    (r : Reps G m (vis (addZ Z x) m H) ds us) : SR G Z m (L2.start N (.ref x :: us)) H (startI N c x ds) μ := by
  have ow := startI_ownW (Z := Z) (N := N) (c := c) (x := x) (ds := ds) (σ := L2.start N (.ref x :: us))
  refine ⟨?_, by rw [ow]; exact M, fun i d e => ?_, fun i a e h => ?_, fun i j a e f h1 h2 => ?_, fun i c2 ks es e => ?_⟩
  · have hl := r.len
    simp [startI, DL.startI, L2.start]
    omega
  · rw [ow]
    unfold DL.startI at e
    cases i with
    | zero => cases e
    | succ i =>
      rw [List.getElem?_cons_succ, List.getElem?_append] at e
      split at e
      · rename_i hl
        rw [List.getElem?_map] at e
        rw [List.length_map] at hl
        cases q : ds[i]? with
        | none => rw [q] at e; cases e
        | some d' =>
          rw [q] at e
          cases e
          obtain ⟨v, ev, rv⟩ := r.get q
          refine ⟨v, ?_, rv⟩
          unfold L2.start
          rw [List.map_cons, List.cons_append, List.getElem?_cons_succ, List.getElem?_append_left (by rw [List.length_map, ← r.len]; exact hl), List.getElem?_map, ev]
          rfl
      · have := List.mem_of_getElem? e
        rw [List.mem_replicate] at this
        exact nomatch this.2
  · obtain ⟨rfl, rfl, rfl⟩ := startI_own h
    exact ⟨rfl, nz, C, dx, [], g, hx, rfl, Reps.nil⟩
  · rw [(startI_own h1).1, (startI_own h2).1]
  · unfold DL.startI at e
    have hm := List.mem_of_getElem? e
    rcases List.mem_cons.mp hm with q | q
    · cases q
    · rcases List.mem_append.mp q with q | q
      · obtain ⟨d, _, q⟩ := List.mem_map.mp q
        cases q
      · rw [List.mem_replicate] at q
        exact nomatch q.2
/-- the ends of an __init__'s body -/
def initEnd (c : Str) (x : Addr) (Q : List Str → List D → Prop) (ρ : DS) : Prop := match ρ[0]? with
  | some (Sl.own a (Cell.ins c' ks ds)) => a = x ∧ c' = c ∧ Q ks ds
  | _ => False
theorem initEnd_of {c : Str} {x : Addr} {Q : List Str → List D → Prop} {ρ : DS} (h : initEnd c x Q ρ) : ∃ ks ds, ρ[0]? = some (.own x (.ins c ks ds)) ∧ Q ks ds := by
  unfold initEnd at h
  split at h
  · rename_i e
    obtain ⟨rfl, rfl, h⟩ := h
    exact ⟨_, _, e, h⟩
  · exact h.elim
def defI (c : Str) (x : Addr) (Q : List Str → List D → Mu → Prop) (Xd : XD) : DEnds := { nx := fun ρ μ => initEnd c x (fun ks ds => Q ks ds μ) ρ, rt := fun _ _ => False, xc := fun c ks es _ μ => Xd c ks es μ }
section
variable {P : Program} {w : World} {K : PySem.W.Frag} {mg : Str → Option Value} {base : Heap}
theorem def_okI {x qual : Str} {params : Arguments} {body : List Stmt} {scope : Scope} {dvs : List V} {kws : List (Str × V)} {f : Addr} {fd : FuncData} {N ps : List Str} {k : Nat} {c : Str} {sp : ISp} {wb : WS} (F : FunD K x qual params body scope dvs kws f fd) (S : FnScope N ps scope)
    (len : ∀ ds μ Q Xd, sp ds μ Q Xd → ds.length + 1 = ps.length)
    (hbody : ∀ (cdv : Value) (A : Around) (fr : List Env) (s : Shared) (H : Hp) (E : XK), Room k (A.deeper (envOfC qual scope s.heap.objs.size f cdv)) → (A.deeper (envOfC qual scope s.heap.objs.size f cdv)).guards = some [] →
      DSs none (fun cls d _ H' => E cls d H') (cxOf (L2.CX P w) P w K mg base N qual scope f cdv A fr s H E) body wb)
    (hw : ∀ ds μ Q Xd (a : Addr), sp ds μ Q Xd → wb (defI c a Q Xd) (startI N c a ds) μ) : FnG P w K mg base (k + 1) f fd ps (toSpI ⟨K, mg, none⟩ c sp) := by
  refine fnG_of F S (fun vs H Q E h => ?_) (fun cdv A outer s H vs Q E hr hgd h => ?_)
  · obtain ⟨a, us, C, dx, Z, m, μ, ds, Q', Xd, rfl, _, _, _, _, r, q, _⟩ := h
    rw [List.length_cons, ← r.len]
    exact len _ _ _ _ q
  · refine ⟨_, hbody cdv A outer s H E hr hgd, ?_⟩
    obtain ⟨a, us, C, dx, Z, m, μ, ds, Q', Xd, rfl, g, hx, nz, M, r, q, kq, kx⟩ := h
    refine ⟨Z, m, startI N c a ds, μ, defI c a Q' Xd, .startI g hx nz M r, hw ds μ Q' Xd a q, fun σ' H' P => ?_, fun v H' P => ?_, fun σ' H' P => ?_, fun σ' H' P => ?_, fun cls d σ' H' P => ?_⟩
    · obtain ⟨m', ρ', μ', S', s', q'⟩ := P
      obtain ⟨ks, es, h0, q2⟩ := initEnd_of q'
      obtain ⟨_, _, hc⟩ := S'.own 0 a _ h0
      have z := s'.same
      rw [startI_ownW] at z
      have sub : ∀ b, addZ Z a b → ownW Z σ' ρ' b := fun b h => by
        rcases h with h | h
        · exact .inl h
        · subst h; exact .inr ⟨0, _, h0⟩
      have sm := vis_mono (m := m') (H := H') sub
      exact kq _ ⟨m', ks, es, μ', s'.pre, s'.hid, S'.mu.less sub, z.trans sm, hc.keep (List.prefix_refl _) sm rfl, q2⟩
    · obtain ⟨m', d, μ', h1, h2, h3, h4, h5, h6⟩ := P
      exact h6.elim
    · obtain ⟨m', ρ', μ', S', s', q'⟩ := P
      exact q'.elim
    · obtain ⟨m', ρ', μ', S', s', q'⟩ := P
      exact q'.elim
    · obtain ⟨m', c', ks, es, ρ', μ', C', dd, vs', S', s', e1, e2, e3, e4, e5, e6, q'⟩ := P
      have z := s'.same
      rw [startI_ownW] at z
      exact kx _ _ _ ⟨m', c', ks, es, μ', C', dd, vs', s'.pre, s'.hid, S'.mu.out_own, z.trans vis_own, e1, e2, e3, vis_own _ _ e4, e5, Reps.mono (List.prefix_refl _) vis_own _ _ e6, q'⟩
end
/-! made -/
section
variable {ex : Option (Addr × Addr × Addr)} {W : WX} {X : Cx} {e o : Expr} {es : List Expr} {wa wo : WE} {ws : WA} {pos p apos : Pos} {k : Nat} {f C : Addr} {fd : FuncData} {ps : List Str} {c : Str}
theorem run_makeG {sp : Sp} {pins : List (Addr × Obj)} {σ : L2.St} {H : Hp} {s : Shared} {Q : VK} {us : List Value} {vs : List V} (M : Mk X.K C f) (F : FnG X.prog X.w X.K X.mg X.base k f fd ps sp) (hr : Room (k + 1) X.A) (hgd : X.A.guards = some []) (hb : Binds X.K fd ps [])
    (tk : Takes X W) (I : Inv X pins σ H s) (r : Vals vs us)
    (h : ∀ x dx, H x = none → H dx = none → dx ≠ x → sp (.ref x :: vs) (upd (upd H dx (.own x)) x (.ins C dx [])) (fun v H2 => v = .non ∧ Q (.ref x) H2) (L2.WE W σ)) :
    wpAny (model X.prog X.w) X.A (call (.ref C) us) (EP X pins σ Q) X.xe s := by
  have hq := h (s.heap.objs.size + 1) s.heap.objs.size (I.hok.fresh (Nat.le_succ _)) (I.hok.fresh (Nat.le_refl _)) (Nat.ne_of_lt (Nat.lt_succ_self _))
  have I2 := Inv.made (C := C) I
  have r2 : Vals (V.ref (s.heap.objs.size + 1) :: vs) (Value.ref (s.heap.objs.size + 1) :: us) := .cons rfl r
  have hl : (Value.ref (s.heap.objs.size + 1) :: us).length = ps.length := r2.length.symm.trans (F.len _ _ _ _ hq)
  have bd := hb _ (Value.ref (s.heap.objs.size + 1) :: us) I2.kIn (by simpa using hl)
  rw [List.append_nil] at bd
  refine wpAny_call (make_map (f := f) I.kIn M.makes M.init (beq_iff_eq.mp M.fn) (codeAny_mono (F.run _ X.stack _ _ ⟨Value.ref (s.heap.objs.size + 1) :: us, []⟩ (Value.ref (s.heap.objs.size + 1) :: us) _ _ _ (hr.make C us []) hgd (I2.env0.make C us []) bd r2 hq) fun res s2 hres => ?_))
  match res, hres with
  | .error er, hres => exact passAt tk σ pins _ _ er s2 I2 hres
  | .ok (.ret u), hres =>
    obtain ⟨v, H', I3, rv, ev, q3⟩ := I2.after hres
    subst ev
    exact ⟨rv, ⟨V.ref (s.heap.objs.size + 1), H', I3, rfl, q3⟩⟩
/-- C(..): the made thing as a datum; as a cell -/
def wMake (c : Str) (sp : ISp) (wa : WA) : WE := fun ρ μ Q Xd => wa ρ μ (fun ds μ1 => sp ds μ1 (fun ks es μ2 => Q (.obj c ks es) μ2) Xd) Xd
def wMakeC (c : Str) (sp : ISp) (wa : WA) : WE := fun ρ μ Q Xd => wa ρ μ (fun ds μ1 => sp ds μ1 (fun ks es μ2 => Q (.loc μ2.length) (μ2 ++ [.ins c ks es])) Xd) Xd
theorem made_in {G : Gx} {Z : Addr → Prop} {m : List Addr} {μ : Mu} {H : Hp} (M : MuOk G Z m μ H) {x dx C : Addr} (nx : H x = none) (nd : H dx = none) (ne : dx ≠ x) :
    ¬ Z x ∧ MuOk G (addZ Z x) m μ (upd (upd H dx (.own x)) x (.ins C dx [])) ∧ Same (vis Z m H) (vis (addZ Z x) m (upd (upd H dx (.own x)) x (.ins C dx []))) ∧ ∀ z, Z z → upd (upd H dx (.own x)) x (.ins C dx []) z = H z := by
  have s1 := Step.laid (o := .own x) M nd
  have nx' : upd H dx (.own x) x = none := by rw [upd_ne (Ne.symm ne)]; exact nx
  obtain ⟨M2, sm⟩ := MuOk.hide (o := .ins C dx []) s1.mu nx'
  have nz : ¬ Z x := fun z => M.hw x z nx
  refine ⟨nz, M2, s1.same.trans sm, fun z hz => ?_⟩
  have hb : z ≠ x := fun q => nz (q ▸ hz)
  exact (upd_ne hb).trans (s1.hid z hz)
theorem lift_make {G : Gx} {sp : ISp} {b : Bool} (hm : G.mg c = some (.ref C)) {σ : L2.St} {H : Hp} {Q' : VK} (q : lift G W (if b = true then wMake c sp ws else wMakeC c sp ws) σ H Q') :
    liftA G W ws σ H fun vs H1 => ∀ x dx, H1 x = none → H1 dx = none → dx ≠ x → toSpI G c sp (.ref x :: vs) (upd (upd H1 dx (.own x)) x (.ins C dx [])) (fun v H2 => v = .non ∧ Q' (.ref x) H2) (L2.WE W σ) := by
  obtain ⟨Z, m, ρ, μ, Q, Xd, S, q, k, kx⟩ := q
  cases b with
  | true =>
    rw [if_pos rfl] at q
    refine ⟨Z, m, ρ, μ, _, Xd, S, q, fun vs H1 P x dx nx nd ne => ?_, kx⟩
    obtain ⟨m1, ds, μ1, s1, r1, q1⟩ := P
    obtain ⟨nz, M2, sm, hid⟩ := made_in (C := C) s1.mu nx nd ne
    refine ⟨x, vs, C, dx, _, m1, μ1, ds, _, Xd, rfl, hm, upd_same, nz, M2, Reps.mono (List.prefix_refl _) sm _ _ r1, q1, fun H' P => ⟨rfl, k _ _ (VPost.from s1 ?_)⟩, fun cls d H' P => kx cls d H' (XPost.from s1 ?_)⟩
    · obtain ⟨m', ks, es, μ', h1, h2, h3, h4, h5, h6⟩ := P
      have sub : ∀ b, ownW Z σ ρ b → addZ (ownW Z σ ρ) x b := fun b h => .inl h
      refine ⟨m', _, μ', ⟨h1, fun z hz => (h2 z hz).trans (hid z hz), h3.less sub, (sm.trans h4).trans (vis_mono sub)⟩, ?_, h6⟩
      exact cellD_rep h5 rfl (vis_mono sub) fun o ho => vis_some.mpr ⟨nz, fun q => h3.out x q (.inr rfl), ho⟩
    · obtain ⟨m', c', ks, es, μ', C', dd, vs', h1, h2, h3, h4, e1, e2, e3, e4, e5, e6, h6⟩ := P
      exact ⟨m', c', ks, es, μ', C', dd, vs', ⟨h1, fun z hz => (h2 z hz).trans (hid z hz), h3, sm.trans h4⟩, e1, e2, e3, e4, e5, e6, h6⟩
  | false =>
    rw [if_neg Bool.false_ne_true] at q
    refine ⟨Z, m, ρ, μ, _, Xd, S, q, fun vs H1 P x dx nx nd ne => ?_, kx⟩
    obtain ⟨m1, ds, μ1, s1, r1, q1⟩ := P
    obtain ⟨nz, M2, sm, hid⟩ := made_in (C := C) s1.mu nx nd ne
    refine ⟨x, vs, C, dx, _, m1, μ1, ds, _, Xd, rfl, hm, upd_same, nz, M2, Reps.mono (List.prefix_refl _) sm _ _ r1, q1, fun H' P => ⟨rfl, k _ _ (VPost.from s1 ?_)⟩, fun cls d H' P => kx cls d H' (XPost.from s1 ?_)⟩
    · obtain ⟨m', ks, es, μ', h1, h2, h3, h4, h5, h6⟩ := P
      have sub : ∀ b, ownW Z σ ρ b → addZ (ownW Z σ ρ) x b := fun b h => .inl h
      have sm2 : vis (ownW Z σ ρ) (m' ++ [x]) H' = vis (addZ (ownW Z σ ρ) x) m' H' := by
        funext b
        unfold vis addZ
        by_cases hb : (ownW Z σ ρ b ∨ b = x) ∨ b ∈ m'
        · rw [if_pos hb, if_pos]
          rcases hb with (h | h) | h
          · exact .inl h
          · exact .inr (by simp [h])
          · exact .inr (by simp [h])
        · rw [if_neg hb, if_neg]
          rintro (h | h)
          · exact hb (.inl (.inl h))
          · rcases List.mem_append.mp h with q | q
            · exact hb (.inr q)
            · exact hb (.inl (.inr (by simpa using q)))
      have nm : x ∉ m' := fun q => h3.out x q (.inr rfl)
      have pre : m' <+: m' ++ [x] := List.prefix_append _ _
      refine ⟨m' ++ [x], _, μ' ++ [.ins c ks es], ⟨h1.trans pre, fun z hz => (h2 z hz).trans (hid z hz), ⟨by simp [h3.len], ?_, fun a ha => ?_, fun z hz => h3.hw z (.inl hz), fun n d a hd ha => ?_⟩, by rw [sm2]; exact sm.trans h4⟩, ?_, h6⟩
      · rw [List.nodup_append]
        refine ⟨h3.nd, by simp, fun a ha b hb => ?_⟩
        rw [List.mem_singleton] at hb
        subst hb
        exact fun e => nm (e ▸ ha)
      · rcases List.mem_append.mp ha with q | q
        · exact fun z => h3.out a q (.inl z)
        · rw [List.mem_singleton] at q; subst q; exact nz
      · rw [sm2]
        by_cases hn : n < m'.length
        · rw [List.getElem?_append_left hn] at ha
          rw [List.getElem?_append_left (by rw [← h3.len]; exact hn)] at hd
          exact (h3.cell n d a hd ha).keep pre (Same.refl _) rfl
        · have hlt := (List.getElem?_eq_some_iff.mp ha).1
          have e : n = m'.length := by simp at hlt; omega
          subst e
          rw [List.getElem?_concat_length] at ha
          rw [h3.len, List.getElem?_concat_length] at hd
          cases ha
          cases hd
          exact h5.keep pre (Same.refl _) rfl
      · rw [Rep]
        exact ⟨x, rfl, by rw [← h3.len]; exact List.getElem?_concat_length⟩
    · obtain ⟨m', c', ks, es, μ', C', dd, vs', h1, h2, h3, h4, e1, e2, e3, e4, e5, e6, h6⟩ := P
      exact ⟨m', c', ks, es, μ', C', dd, vs', ⟨h1, fun z hz => (h2 z hz).trans (hid z hz), h3, sm.trans h4⟩, e1, e2, e3, e4, e5, e6, h6⟩
theorem de_makeB (b : Bool) {x : Str} {sp : ISp} (M : Mk X.K C f) (F : FnG X.prog X.w X.K X.mg X.base k f fd ps (toSpI (gx X ex) x sp)) (hr : Room (k + 1) X.A) (hgd : X.A.guards = some []) (hg : Gl X x) (hm : X.mg x = some (.ref C)) (hb : Binds X.K fd ps [])
    (tk : Takes X W) (ha : DA ex W X (e :: es) ws) (hdb : (x == ("__debug__" : Str)) = false := by decide)
    (he : starEach (e :: es) X.env = (false, eval e X.env) :: starEach es X.env := by rfl) (hpl : (backTo pos (starEach es X.env)).any (·.1) = false := by rfl) :
    DE ex W X (.Call (.Name x p) (e :: es) [] pos) (if b = true then wMake x sp ws else wMakeC x sp ws) := by
  refine ⟨fun pins s σ H Q I h => ?_⟩
  refine wpAny_Call_Name_kw (ld_glob I hg hm ?_ hdb)
  refine PySem.W.callWith_K (h₀ := X.base) I.ok.mod.kin M.kp (thn (ha.run pos pins s σ H _ I (lift_make (G := gx X ex) hm h)) fun us s1 ⟨vs, H1, I1, r, q⟩ => ⟨I1.kIn, ?_⟩) he hpl
  exact run_makeG M F hr hgd hb tk I1 r q
theorem de_make {x : Str} {sp : ISp} (M : Mk X.K C f) (F : FnG X.prog X.w X.K X.mg X.base k f fd ps (toSpI (gx X ex) x sp)) (hr : Room (k + 1) X.A) (hgd : X.A.guards = some []) (hg : Gl X x) (hm : X.mg x = some (.ref C)) (hb : Binds X.K fd ps [])
    (tk : Takes X W) (ha : DA ex W X (e :: es) ws) (hdb : (x == ("__debug__" : Str)) = false := by decide)
    (he : starEach (e :: es) X.env = (false, eval e X.env) :: starEach es X.env := by rfl) (hpl : (backTo pos (starEach es X.env)).any (·.1) = false := by rfl) :
    DE ex W X (.Call (.Name x p) (e :: es) [] pos) (wMake x sp ws) := de_makeB true M F hr hgd hg hm hb tk ha hdb he hpl
end
end DL

set_option Elab.async false
set_option linter.all false
set_option maxRecDepth 100000
set_option maxHeartbeats 4000000
set_option autoImplicit false
namespace DL
open PySem PySem.Spec PyProof.Rows L2
/-! ### methods -/
def hasCls (c m : Str) (d : D) (μ : Mu) (Q : Prop) : Prop := match insD d μ with
  | some (c', ks, _) => c' = c ∧ ks.contains m = false ∧ Q
  | none => False
theorem hasCls_of {c m : Str} {d : D} {μ : Mu} {Q : Prop} (h : hasCls c m d μ Q) : ∃ ks ds, insD d μ = some (c, ks, ds) ∧ ks.contains m = false ∧ Q := by
  unfold hasCls at h
  split at h
  · rename_i e
    obtain ⟨rfl, h⟩ := h
    exact ⟨_, _, e, h⟩
  · exact h.elim
theorem lookup_zip_none {α : Type} {m : Str} : ∀ {ks : List Str} {vs : List α}, ks.contains m = false → (ks.zip vs).lookup m = none
  | [], _, _ => by simp
  | _ :: _, [], _ => by simp
  | k :: ks, v :: vs, h => by
    rw [List.contains_cons, Bool.or_eq_false_iff] at h
    rw [List.zip_cons_cons, List.lookup_cons, h.1]
    exact lookup_zip_none h.2
/-- o.m(..) -/
def wMeth (c m : Str) (sp : DSp) (wo : WE) (wa : WA) : WE := fun ρ μ Q Xd => wo ρ μ (fun x μ1 => hasCls c m x μ1 (wa ρ μ1 (fun ds μ2 => sp (x :: ds) μ2 Q Xd) Xd)) Xd
section
variable {ex : Option (Addr × Addr × Addr)} {W : WX} {X : Cx} {e o : Expr} {es : List Expr} {wa wo : WE} {ws : WA} {pos p apos : Pos} {k : Nat} {f C : Addr} {fd : FuncData} {ps : List Str} {c m : Str} {sp : DSp}
def tMethG (K : PySem.W.Frag) (C : Addr) (m : Str) (sp : Sp) (W : WX) (to : TE) (ta : TA) : TE := fun σ H Q => to σ H fun x H1 => ∃ a dx fs, x = .ref a ∧ H1 a = some (.ins C dx fs) ∧ fs.lookup m = none ∧ ta σ H1 fun vs H2 => sp (.ref a :: vs) H2 Q (L2.WE W σ)
theorem pe_methG0 {sp : Sp} {to : TE} {pl : Sem Bool} (he : PE X o to) (hc : Cls X.K C) (hm : Meth X.K C m f) (F : FnG X.prog X.w X.K X.mg X.base k f fd ps sp) (hr : Room k X.A) (hgd : X.A.guards = some []) (hb : Binds X.K fd ps []) (tk : Takes X W)
    (ht : eval (.Call (.Attribute o m apos) [] [] pos) X.env = (do
      let ov ← eval o X.env
      standAt apos.atName
      let (f, first) ← holding [ov] (getMethod ov m pl)
      callWith pos f first (backTo pos (starEach [] X.env)) (backToKw pos (keywordEach [] X.env)))) :
    PE X (.Call (.Attribute o m apos) [] [] pos) (tMethG X.K C m sp W to tNil) := by
  refine ⟨fun pins s σ H Q I h => ?_⟩
  refine PySem.W.methodCall_KW (pl := pl) (thn (he.run pins s σ H _ I h) fun u s1 hx => ?_) ht
  obtain ⟨x, H1, I1, rx, a, dx, fs, ex, ea, l, q⟩ := hx
  subst ex
  obtain rfl : u = Value.ref a := rx
  refine getmeth_ok I1 ea hc hm l ?_
  exact PySem.W.callWith_K0 (first := [.ref a]) I1.kIn hm.kp (run_fnG (us := [.ref a]) (vs := [.ref a]) F hr hgd hb tk I1 (.cons rfl .nil) q)
theorem de_meth0 {pl : Sem Bool} (hmC : X.mg c = some (.ref C)) (hc : Cls X.K C) (hm : Meth X.K C m f) (F : FnG X.prog X.w X.K X.mg X.base k f fd ps (toSp (gx X ex) sp)) (hr : Room k X.A) (hgd : X.A.guards = some []) (hb : Binds X.K fd ps []) (tk : Takes X W) (he : DE ex W X o wo)
    (ht : eval (.Call (.Attribute o m apos) [] [] pos) X.env = (do
      let ov ← eval o X.env
      standAt apos.atName
      let (f, first) ← holding [ov] (getMethod ov m pl)
      callWith pos f first (backTo pos (starEach [] X.env)) (backToKw pos (keywordEach [] X.env))) := by rfl) :
    DE ex W X (.Call (.Attribute o m apos) [] [] pos) (wMeth c m sp wo wNil) := pe_weak (pe_methG0 he hc hm F hr hgd hb tk ht) fun σ H Q' q => by
  obtain ⟨Z, m0, ρ, μ, Q, Xd, S, q, k, kx⟩ := q
  refine ⟨Z, m0, ρ, μ, _, Xd, S, q, fun v H1 P => ?_, kx⟩
  obtain ⟨m1, x, μ1, s1, r1, q1⟩ := P
  obtain ⟨ks, ds, hi, hks, q2⟩ := hasCls_of q1
  obtain ⟨a, C', dx, vs, rfl, g, ha, l, rs⟩ := ins_rep s1.mu r1 hi
  have g' : X.mg c = some (.ref C') := g
  rw [hmC] at g'
  cases g'
  exact ⟨a, dx, _, rfl, ha, lookup_zip_none hks, ⟨_, m1, μ1, [x], Q, Xd, s1.mu, Reps.cons r1 Reps.nil, q2, fun v H' P => k v H' (VPost.from s1 P), fun cls d H' P => kx cls d H' (XPost.from s1 P)⟩⟩
end
/-! ### own operators -/
/-- what of the text an operator of a class needs: the def; beside a value of a built-in type -/
structure OpFn (K : PySem.W.Frag) (C : Addr) (op : Operator) (f : Addr) : Prop where
  first : PySem.W.selfFirst K C = true
  at_ : PySem.W.findIn K (.ref C) (PySem.dunder op.info.2) = some (some (.ref f))
  fn : PySem.W.isFn K (.ref f) = true
  back : ∃ rc, PySem.W.findIn K (.ref C) (PySem.dunderR op.info.2) = some rc ∧ (rc = none ∨ ∃ g : Addr, rc = some (.ref g))
structure OpTy (K : PySem.W.Frag) (C : Addr) (op : Operator) (T : String) : Prop where
  fo : ∃ r, PySem.W.findIn K (.type T) (PySem.dunder op.info.2) = some r
  ro : ∃ r, PySem.W.findIn K (.type T) (PySem.dunderR op.info.2) = some r
  sub : PySem.W.subIn K (.type T) (.ref C) = some false

section
open PySem.W
variable {prog : Program} {w : World} {A : Around} {E : Value → Shared → Prop} {s : Shared} {K : Frag} {x C g : Addr} {ox : Obj} {od : Option Obj} {T : String}
/-- x op y, y of a built-in type: x's own def is asked -/
theorem bin_own {op : Operator} {y : Value} {QQ : Value → Shared → Prop} (kin : K.In s.heap) (J : InstAt s.heap x ox C od) (ty : Looks (model prog w) s.heap (typeOf y) (.type T)) (O : OpFn K C op g) (B : OpTy K C op T)
    (run : wpAny (model prog w) A (call (.ref g) [.ref x, y]) (PySem.W.CmpBack QQ) E s) : wpAny (model prog w) A (binaryOp op (.ref x) y) QQ E s := by
  obtain ⟨cd, tl, e1, e2⟩ := ksp_first O.first
  obtain ⟨rc, hrc, hp⟩ := O.back
  obtain ⟨fo, hfo⟩ := B.fo
  obtain ⟨ro, hro⟩ := B.ro
  have hs := O.at_
  rcases hi : op.info with ⟨sg, nn⟩
  rw [hi] at hs hrc hfo hro
  dsimp only at hs hrc hfo hro
  have ask := ksp_try kin J hs O.fn run
  obtain ⟨hh, gg, dd, tt, os⟩ := s
  have t1 : Looks (model prog w) hh (typeOf (.ref x)) (.ref C) := J.type
  have t2 : Looks (model prog w) hh (typeOf y) (.type T) := ty
  have t3 : Looks (model prog w) hh (fillsNumberSlot (.ref C) nn) true := fills_K kin e1 e2 hs
  have t4 : Looks (model prog w) hh (fillsNumberSlot (.type T) nn) ((fo.isSome && !isSeqSlot fo) || (ro.isSome && !isSeqSlot ro)) := ksp_fillsT kin hfo hro
  have t5 : Looks (model prog w) hh (isSubtype (.type T) (.ref C)) false := looks_subIn kin B.sub
  have t6 : Looks (model prog w) hh (numberSlotInPython (.ref C) nn) true := ksp_inPy kin hs hrc hp
  have t7 : Looks (model prog w) hh (numberSlotInPython (.type T) nn) false := Looks.of_pure rfl
  have t8 : Looks (model prog w) hh (typeLookup (.type T) (dunderR nn)) ro := looks_findIn kin hro
  generalize ((fo.isSome && !isSeqSlot fo) || (ro.isSome && !isSeqSlot ro)) = right at t4
  have dif : (Value.ref C == Value.type T) = false := Bool.eq_false_iff.mpr fun z => by cases beq_iff_eq.mp z
  simp only [binaryOp, hi]
  refine wpAny_holding (wpAny_bind ?_)
  unfold binaryOp1
  refine wpAny_bind (t1.at (wpAny_bind (t2.at (wpAny_bind (t3.at ?_)))))
  simp only [dif, Bool.false_eq_true, if_false]
  cases right with
  | false =>
    ksp_lk
    refine wpAny_mono ask (fun r s2 got => ?_) fun _ _ z => z
    obtain ⟨v, rfl, hq⟩ := got
    ksp_lk
    exact hq
  | true =>
    ksp_lk
    refine wpAny_mono ask (fun r s2 got => ?_) fun _ _ z => z
    obtain ⟨v, rfl, hq⟩ := got
    ksp_lk
    exact hq
end
/-- the other operand: of a built-in type that is listed, or of the class itself -/
def othTy (c : Str) (Ts : List String) (y : D) (μ : Mu) (Q : Prop) : Prop := match tyD y μ with
  | some (.b T) => T ∈ Ts ∧ Q
  | some (.c c') => c' = c ∧ Q
  | none => False
theorem othTy_of {c : Str} {Ts : List String} {y : D} {μ : Mu} {Q : Prop} (h : othTy c Ts y μ Q) : ((∃ T, tyD y μ = some (.b T) ∧ T ∈ Ts) ∨ tyD y μ = some (.c c)) ∧ Q := by
  unfold othTy at h
  split at h
  · exact ⟨.inl ⟨_, by assumption, h.1⟩, h.2⟩
  · rename_i e
    obtain ⟨rfl, h⟩ := h
    exact ⟨.inr e, h⟩
  · exact h.elim
def isCls (c : Str) (d : D) (μ : Mu) (Q : Prop) : Prop := match insD d μ with
  | some (c', _, _) => c' = c ∧ Q
  | none => False
theorem isCls_of {c : Str} {d : D} {μ : Mu} {Q : Prop} (h : isCls c d μ Q) : ∃ ks ds, insD d μ = some (c, ks, ds) ∧ Q := by
  unfold isCls at h
  split at h
  · rename_i e
    obtain ⟨rfl, h⟩ := h
    exact ⟨_, _, e, h⟩
  · exact h.elim
/-- x op y by x's own def -/
def wBinO (c : Str) (Ts : List String) (sp : DSp) (wa wb : WE) : WE := fun ρ μ Q Xd => wa ρ μ (fun x μ1 => wb ρ μ1 (fun y μ2 => isCls c x μ2 (othTy c Ts y μ2 (sp [x, y] μ2 Q Xd))) Xd) Xd
section
variable {ex : Option (Addr × Addr × Addr)} {W : WX} {X : Cx} {a b : Expr} {wa wb : WE} {pos : Pos} {k : Nat} {f C : Addr} {fd : FuncData} {ps : List Str} {c : Str} {sp : DSp} {Ts : List String}
def tBinG (K : PySem.W.Frag) (C : Addr) (op : Operator) (sp : Sp) (W : WX) (ta tb : TE) : TE := fun σ H Q => ta σ H fun x H1 => tb σ H1 fun y H2 => ∃ p dx fs t, x = .ref p ∧ H2 p = some (.ins C dx fs) ∧ TyX K H2 y t ∧ ((∃ T, t = .type T ∧ OpTy K C op T) ∨ t = .ref C) ∧ sp [x, y] H2 Q (L2.WE W σ)
theorem pe_binG {op : Operator} {sp : Sp} {ta tb : TE} (O : OpFn X.K C op f) (F : FnG X.prog X.w X.K X.mg X.base k f fd ps sp) (hr : Room k X.A) (hgd : X.A.guards = some []) (hb : Binds X.K fd ps []) (tk : Takes X W) (h1 : PE X a ta) (h2 : PE X b tb) :
    PE X (.BinOp a op b pos) (tBinG X.K C op sp W ta tb) := by
  refine ⟨fun pins s σ H Q I h => ?_⟩
  refine wpAny_BinOp (binT h1 h2 I h fun v u s2 x y H2 I2 rx ry q => ?_)
  obtain ⟨p, dx, fs, t, rfl, hp, ty, cs, q⟩ := q
  obtain rfl : v = Value.ref p := rx
  obtain ⟨mA, O2, _⟩ := ins_get I2.hok hp
  obtain ⟨od, J, _⟩ := O2.look
  obtain ⟨PP, Z, pp, _⟩ := kit_of I2 ry ty
  have lk := Z.ty (model X.prog X.w) s2.heap I2.kIn pp
  have fin : wpAny (model X.prog X.w) X.A (call (.ref f) [.ref p, u]) (PySem.W.CmpBack (EP X pins σ Q)) X.xe s2 :=
    wpAny_mono (run_fnG (us := [.ref p, u]) (vs := [.ref p, y]) F hr hgd hb tk I2 (.cons rfl (.cons ry .nil)) q) (fun w' s' z => by
      obtain ⟨z', H', I', rz, qz⟩ := z
      exact SlX.cmpback rz ⟨z', H', I', rz, qz⟩) fun _ _ z => z
  rcases cs with ⟨T, rfl, B⟩ | rfl
  · exact bin_own I2.kIn J lk O B fin
  · obtain ⟨m0, hF⟩ := I2.fr
    exact PySem.W.binop_K hF I2.ok.mod.kin J lk O.first O.at_ O.fn fin
theorem de_binO {op : Operator} (hmC : X.mg c = some (.ref C)) (hI : InsT X.K C) (O : OpFn X.K C op f) (hT : ∀ T ∈ Ts, OpTy X.K C op T) (F : FnG X.prog X.w X.K X.mg X.base k f fd ps (toSp (gx X ex) sp)) (hr : Room k X.A) (hgd : X.A.guards = some []) (hb : Binds X.K fd ps []) (tk : Takes X W)
    (h1 : DE ex W X a wa) (h2 : DE ex W X b wb) : DE ex W X (.BinOp a op b pos) (wBinO c Ts sp wa wb) := pe_weak (pe_binG O F hr hgd hb tk h1 h2) fun σ H Q' q => by
  obtain ⟨Z, m, ρ, μ, Q, Xd, S, q, k, kx⟩ := q
  refine ⟨Z, m, ρ, μ, _, Xd, S, q, fun v H1 P => ?_, kx⟩
  obtain ⟨m1, x, μ1, s1, r1, q1⟩ := P
  refine ⟨Z, m1, ρ, μ1, _, Xd, S.step s1, q1, fun u H2 P => ?_, fun cls d H' P => kx cls d H' (XPost.from s1 P)⟩
  obtain ⟨m2, y, μ2, s2, r2, q2⟩ := P
  obtain ⟨ks, ds, hi, q3⟩ := isCls_of q2
  obtain ⟨hty, q4⟩ := othTy_of q3
  have r1' := Rep.mono s2.pre s2.same _ _ r1
  obtain ⟨p, C', dx, vs, rfl, g, hp, l, rs⟩ := ins_rep s2.mu r1' hi
  have g' : X.mg c = some (.ref C') := g
  rw [hmC] at g'
  cases g'
  have s12 := s1.trans s2
  have fin : toSp (gx X ex) sp [.ref p, u] H2 Q' (L2.WE W σ) := ⟨_, m2, μ2, [x, y], Q, Xd, s2.mu, Reps.cons r1' (Reps.cons r2 Reps.nil), q4, fun v H' P => k v H' (VPost.from s12 P), fun cls d H' P => kx cls d H' (XPost.from s12 P)⟩
  rcases hty with ⟨T, e, hT'⟩ | e
  · obtain ⟨tv, t1, t2⟩ := tyX_of (G := gx X ex) s2.mu r2 e (fun c' z => nomatch z)
    exact ⟨p, dx, _, tv, rfl, hp, t2, .inl ⟨T, t1, hT T hT'⟩, fin⟩
  · obtain ⟨tv, t1, t2⟩ := tyX_of (G := gx X ex) s2.mu r2 e (fun c' z C' g => by
      cases z
      have g' : X.mg c = some (.ref C') := g
      rw [hmC] at g'
      cases g'
      exact hI)
    obtain ⟨C', g, rfl⟩ := t1
    have g' : X.mg c = some (.ref C') := g
    rw [hmC] at g'
    cases g'
    exact ⟨p, dx, _, _, rfl, hp, t2, .inr rfl, fin⟩
end
end DL

set_option Elab.async false
set_option linter.all false
set_option maxRecDepth 100000
set_option maxHeartbeats 4000000
set_option autoImplicit false
namespace DL
open PySem PySem.Spec PyProof.Rows L2
/-! ### what can be called, by name -/
section
variable {P : Program} {w : World} {K : PySem.W.Frag} {mg : Str → Option Value} {base : Heap}
structure CallD (P : Program) (w : World) (K : PySem.W.Frag) (mg : Str → Option Value) (base : Heap) (k : Nat) (x : Str) (ps : List Str) (sp : DSp) : Prop where
  ex : ∃ f fd, mg x = some (.ref f) ∧ PySem.W.keepIn K (.ref f) = true ∧ Binds K fd ps [] ∧ FnG P w K mg base k f fd ps (toSp ⟨K, mg, none⟩ sp)
structure MethD (P : Program) (w : World) (K : PySem.W.Frag) (mg : Str → Option Value) (base : Heap) (k : Nat) (c m : Str) (ps : List Str) (sp : DSp) : Prop where
  ex : ∃ C f fd, mg c = some (.ref C) ∧ Cls K C ∧ Meth K C m f ∧ Binds K fd ps [] ∧ FnG P w K mg base k f fd ps (toSp ⟨K, mg, none⟩ sp)
structure MakeD (P : Program) (w : World) (K : PySem.W.Frag) (mg : Str → Option Value) (base : Heap) (k : Nat) (c : Str) (ps : List Str) (sp : ISp) : Prop where
  ex : ∃ C f fd, mg c = some (.ref C) ∧ Mk K C f ∧ Binds K fd ps [] ∧ FnG P w K mg base k f fd ps (toSpI ⟨K, mg, none⟩ c sp)
structure OperD (P : Program) (w : World) (K : PySem.W.Frag) (mg : Str → Option Value) (base : Heap) (k : Nat) (c : Str) (op : Operator) (Ts : List String) (ps : List Str) (sp : DSp) : Prop where
  ex : ∃ C f fd, mg c = some (.ref C) ∧ InsT K C ∧ OpFn K C op f ∧ (∀ T ∈ Ts, OpTy K C op T) ∧ Binds K fd ps [] ∧ FnG P w K mg base k f fd ps (toSp ⟨K, mg, none⟩ sp)
structure FldD (K : PySem.W.Frag) (mg : Str → Option Value) (c f : Str) : Prop where
  ex : ∃ C, mg c = some (.ref C) ∧ Cls K C ∧ NoAttr K C f
end
section
variable {W : WX} {X : Cx} {e o : Expr} {es : List Expr} {wa wo : WE} {ws : WA} {pos p apos : Pos} {k j : Nat} {ps : List Str} {x c m : Str} {sp : DSp}
theorem de_callD (C : CallD X.prog X.w X.K X.mg X.base k x ps sp) (hr : Room j X.A) (hkj : k ≤ j) (hgd : X.A.guards = some []) (hg : Gl X x) (tk : Takes X W) (ha : DA none W X (e :: es) ws) (hdb : (x == ("__debug__" : Str)) = false := by decide)
    (he : starEach (e :: es) X.env = (false, eval e X.env) :: starEach es X.env := by rfl) (hpl : (backTo pos (starEach es X.env)).any (·.1) = false := by rfl) : DE none W X (.Call (.Name x p) (e :: es) [] pos) (wCall sp ws) := by
  obtain ⟨f, fd, h1, h2, h3, F⟩ := C.ex
  exact de_call F (hr.mono hkj) hgd hg h1 h2 h3 tk ha hdb he hpl
theorem de_methD0 {pl : Sem Bool} (C : MethD X.prog X.w X.K X.mg X.base k c m ps sp) (hr : Room j X.A) (hkj : k ≤ j) (hgd : X.A.guards = some []) (tk : Takes X W) (he : DE none W X o wo)
    (ht : eval (.Call (.Attribute o m apos) [] [] pos) X.env = (do
      let ov ← eval o X.env
      standAt apos.atName
      let (f, first) ← holding [ov] (getMethod ov m pl)
      callWith pos f first (backTo pos (starEach [] X.env)) (backToKw pos (keywordEach [] X.env))) := by rfl) : DE none W X (.Call (.Attribute o m apos) [] [] pos) (wMeth c m sp wo wNil) := by
  obtain ⟨Ca, f, fd, h1, h2, h3, h4, F⟩ := C.ex
  exact de_meth0 h1 h2 h3 F (hr.mono hkj) hgd h4 tk he ht
theorem de_makeD {isp : ISp} (C : MakeD X.prog X.w X.K X.mg X.base k x ps isp) (hr : Room j X.A) (hkj : k + 1 ≤ j) (hgd : X.A.guards = some []) (hg : Gl X x) (tk : Takes X W) (ha : DA none W X (e :: es) ws) (hdb : (x == ("__debug__" : Str)) = false := by decide)
    (he : starEach (e :: es) X.env = (false, eval e X.env) :: starEach es X.env := by rfl) (hpl : (backTo pos (starEach es X.env)).any (·.1) = false := by rfl) : DE none W X (.Call (.Name x p) (e :: es) [] pos) (wMake x isp ws) := by
  obtain ⟨Ca, f, fd, h1, h2, h3, F⟩ := C.ex
  exact de_make h2 F (hr.mono hkj) hgd hg h1 h3 tk ha hdb he hpl
theorem de_operD {a b : Expr} {wb : WE} {op : Operator} {Ts : List String} (C : OperD X.prog X.w X.K X.mg X.base k c op Ts ps sp) (hr : Room j X.A) (hkj : k ≤ j) (hgd : X.A.guards = some []) (tk : Takes X W) (h1 : DE none W X a wa) (h2 : DE none W X b wb) :
    DE none W X (.BinOp a op b pos) (wBinO c Ts sp wa wb) := by
  obtain ⟨Ca, f, fd, g1, g2, g3, g4, g5, F⟩ := C.ex
  exact de_binO g1 g2 g3 g4 F (hr.mono hkj) hgd g5 tk h1 h2
theorem de_fldD {f : Str} (C : FldD X.K X.mg c f) (he : DE none W X e wa) (hb : attributeBase e f X.env (eval e X.env) = eval e X.env := by rfl) : DE none W X (.Attribute e f pos) (w1 (fFld c f) wa) := by
  obtain ⟨Ca, h1, h2, h3⟩ := C.ex
  exact de_fld h1 h2 h3 he hb
theorem ds_fldOD {i : Nat} {f : Str} {value : Expr} {p0 pos' : Pos} (C : FldD X.K X.mg c f) (hN : X.N[i]? = some x) (hv : DE none W X value wa) (hs : swapsWith value (some (.Attribute (.Name x p0) f pos')) pos.line X.env = pure false := by rfl)
    (hvis : Vis X.env.scope x := by first | exact Or.inl rfl | exact Or.inr (Or.inl rfl) | exact Or.inr (Or.inr rfl)) (hd : (x == ("__debug__" : Str)) = false := by decide) (hcd : (x == ("__classdict__" : Str)) = false := by decide) :
    DSt none W X (.Assign [.Attribute (.Name x p0) f pos'] value pos) (sFldO c i f wa) := by
  obtain ⟨Ca, h1, h2, h3⟩ := C.ex
  exact ds_fldO h1 h2 h3 hN hv hs hvis hd hcd
theorem room64 {A : Around} (h : Room k A) : A.units + 64 < cLine := by have := h.un; omega
theorem room65 {A : Around} (h : Room k A) : A.units + 65 < cLine := by have := h.un; omega
end
/-! ### one rule for several kinds -/
def F2.or (f g : F2) : F2 := fun x y μ Q => f x y μ Q ∨ g x y μ Q
theorem s2_or {G : Gx} {r r' : R2} {f g : F2} (h1 : S2 G r f) (h2 : S2 G r' g) : S2 G (fun x y H Q => r x y H Q ∨ r' x y H Q) (F2.or f g) := by
  intro Z m μ H x y u v Q Q' M rx ry h k
  rcases h with h | h
  · exact .inl (h1 Z m μ H x y u v Q Q' M rx ry h k)
  · exact .inr (h2 Z m μ H x y u v Q Q' M rx ry h k)
/-- + of ints or lists, * of ints or a list and an int -/
def fPlus : F2
  | .int i, .int j, μ, Q => Q (.int (i + j)) μ
  | .lst a, .lst b, μ, Q => a.length + b.length ≤ sizeLine ∧ Q (.lst (a ++ b)) μ
  | _, _, _, _ => False
def fTimes : F2
  | .int i, .int j, μ, Q => CM i j ∧ Q (.int (i * j)) μ
  | .lst a, .int n, μ, Q => -(2 ^ 63) ≤ n ∧ n < 2 ^ 63 ∧ a.length * n.toNat ≤ sizeLine ∧ Q (.lst (List.replicate n.toNat a).flatten) μ
  | _, _, _, _ => False
theorem S2.imp {G : Gx} {r : R2} {f g : F2} (h : S2 G r f) (k : ∀ x y μ Q, g x y μ Q → f x y μ Q) : S2 G r g := fun Z m μ H x y u v Q Q' M rx ry q kk => h Z m μ H x y u v Q Q' M rx ry (k _ _ _ _ q) kk
theorem s2_plus {G : Gx} : S2 G (fun x y H Q => rI0 (fun i j => .int (i + j)) x y H Q ∨ rCat x y H Q) fPlus := (s2_or s2_II0 s2_cat).imp fun x y μ Q h => by
  unfold fPlus at h
  split at h
  · exact .inl h
  · exact .inr h
  · exact h.elim
theorem s2_times {G : Gx} : S2 G (fun x y H Q => rI CM (fun i j => .int (i * j)) x y H Q ∨ rRep x y H Q) fTimes := (s2_or s2_II s2_rep).imp fun x y μ Q h => by
  unfold fTimes at h
  split at h
  · exact .inl h
  · exact .inr h
  · exact h.elim
section
variable {ex : Option (Addr × Addr × Addr)} {W : WX} {X : Cx} {a b : Expr} {wa wb : WE} {pos : Pos}
theorem de_plus (ha : DE ex W X a wa) (hb : DE ex W X b wb) : DE ex W X (.BinOp a .Add b pos) (w2 fPlus wa wb) := de_op (op_add.or op_cat) s2_plus ha hb
theorem de_times (ha : DE ex W X a wa) (hb : DE ex W X b wb) : DE ex W X (.BinOp a .Mult b pos) (w2 fTimes wa wb) := de_op (op_mulU.or op_rep) s2_times ha hb
end
/-! ### the end: the law's def at the script -/
theorem mu_none {G : Gx} {H : Hp} : MuOk G (fun _ => False) [] [] H := ⟨rfl, by simp, fun a h => by simp at h, fun z h => h.elim, fun n c a h _ => by simp at h⟩
theorem vis_none_all {H : Hp} : vis (fun _ => False) [] H = H := by
  funext b
  unfold vis
  rw [if_neg (by simp)]
theorem sp_start {K : PySem.W.Frag} {mg : Str → Option Value} {sp : DSp} {H : Hp} {a : Addr} {ns : List Int} (hS : SqL K H a (ns.map V.int)) (h : sp [.frl (ns.map D.int)] [] (fun d _ => d = .bl true) xF) :
    toSp ⟨K, mg, none⟩ sp [.ref a] H (fun v _ => v = .bl true) fun _ _ _ => False := by
  refine ⟨fun _ => False, [], [], _, _, _, mu_none, ?_, h, fun v H' P => ?_, fun cls d H' P => xpF P⟩
  · rw [vis_none_all]
    refine Reps.cons ?_ Reps.nil
    rw [Rep]
    exact ⟨a, _, rfl, hS, reps_ints ns⟩
  · obtain ⟨m', d, μ', s, r, rfl⟩ := P
    rw [Rep] at r
    exact r
theorem call_at {P : Program} {w : World} {K : PySem.W.Frag} {mg bm : Str → Option Value} {k : Nat} {fa sc : Addr} {fd : FuncData} {x : Str} {sp : Sp} {s1 : Shared} {vs : List Value} {ns : List Int}
    (kin : K.In s1.heap) (gl : s1.heap.Ns mainGlobals mg) (bl : s1.heap.Ns builtinsNs bm) (bb : ∀ y : Str, y ≠ "__name__" → bm y = bootBuiltins y) (nolim : s1.heap.NoLimit) (gens : s1.gens = #[])
    (at_ : s1.heap.get? sc = some { cls := .type "list", data := .seq vs.toArray }) (iv : IntsAre vs ns) (few : ns.length ≤ sizeLine) (room : Room k callerA)
    (F : ∀ base : Heap, K.In base → base.Ns mainGlobals mg → FnG P w K mg base k fa fd [x] sp) (bind : ∀ (s : Shared) (u : Value), BindsTo s fd ⟨[u], []⟩ [(x, u)])
    (holds : ∀ H : Hp, SqL K H sc (ns.map V.int) → sp [.ref sc] H (fun v _ => v = .bl true) fun _ _ _ => False) :
    codeAny (model P w) callerA (.call (.ref fa) ⟨[.ref sc], []⟩) (fun r s' => r = .ok (.ret (.bool true)) ∧ OldK s1.heap s'.heap ∧ s'.os = s1.os ∧ AllBare s'.gens) s1 := by
  have lenI := iv.length
  have main : ∀ H : Hp, (∀ b, H b = none ∨ ∃ o xs, H b = some (.frz o (.lst xs))) → SqL K H sc (ns.map V.int) → HOk P w H s1.heap → (∀ b, H b ≠ none → b = sc) → (H sc ≠ none → K.lookup sc = none) →
      codeAny (model P w) callerA (.call (.ref fa) ⟨[.ref sc], []⟩) (fun r s' => r = .ok (.ret (.bool true)) ∧ OldK s1.heap s'.heap ∧ s'.os = s1.os ∧ AllBare s'.gens) s1 := by
    intro H frz isL hok alone free
    have none_of : ∀ {b : Addr}, b ≠ sc → H b = none := fun {b} nb => by
      cases z : H b with
      | none => rfl
      | some u => exact absurd (alone b (by rw [z]; simp)) nb
    have seen : ∀ {b : Addr} {o : Obj}, s1.heap.get? b = some o → H b = none → (hidT s1.heap H).get? b = some o := fun e n => hidT_get e n
    have notSc : ∀ {b : Addr} {o : Obj} {es : Array DictEntry} {ep : Nat}, s1.heap.get? b = some o → o.data = .dict es ep → b ≠ sc := fun {b o es ep} e d z => by
      subst z
      rw [at_] at e
      cases e
      cases (show Data.seq vs.toArray _ = Data.dict es ep from d)
    have names : ∀ {b : Addr} {m : Str → Option Value}, s1.heap.Ns b m → (hidT s1.heap H).Ns b m := fun {b m} hn => by
      obtain ⟨o, es, ep, e, d, r⟩ := hn
      exact ⟨o, es, ep, seen e (none_of (notSc e d)), d, r⟩
    have inB : K.In (hidT s1.heap H) := fun b o e => seen (kin b o e) (by
      cases z : H b with
      | none => rfl
      | some u =>
        have eb := alone b (by rw [z]; simp)
        subst eb
        rw [free (by rw [z]; simp)] at e
        cases e)
    obtain ⟨lm, l1, l2⟩ := nolim
    have md : Mod K mg (hidT s1.heap H) := ⟨inB, names gl, ⟨bm, names bl, bb⟩, ⟨lm, names l1, l2⟩⟩
    have env : Env0 P w K mg (hidT s1.heap H) callerA [] s1 H := ⟨rfl, md, fun b o e => of_hidT e, Nat.le_of_eq (hidT_size _ _), trivial, fun b hb => by simp [frs] at hb, hok, .of_eq gens⟩
    refine codeAny_mono ((F _ inB (names gl)).run callerA [] s1 H ⟨[.ref sc], []⟩ [.ref sc] [.ref sc] _ _ room rfl env (bind s1 (.ref sc)) (.cons rfl .nil) (holds H isL)) fun res s2 out => ?_
    match res, out with
    | .error er, out =>
      obtain ⟨_, _, _, _, _, _, _, _, _, _, _, _, z⟩ := out
      exact z.elim
    | .ok (.ret u), out =>
      obtain ⟨v, H', os, bare, un, hok', rv, ev⟩ := out
      have ev' : v = .bl true := ev
      subst ev'
      obtain rfl : u = Value.bool true := rv
      refine ⟨rfl, OldK.of_keep fun b o e => ?_, os, bare⟩
      rcases frz b with z | ⟨ob, xs, z⟩
      · exact un.keep b o e z (by simp [frs]) (by simp)
      · obtain ⟨e1, _⟩ := hok b _ z
        obtain ⟨e2, _⟩ := hok' b _ (un.frzs b ob _ z)
        rw [e] at e1
        cases e1
        exact e2
  cases hk : K.lookup sc with
  | some o =>
    have e := kin sc o hk
    rw [at_] at e
    cases e
    have isL : SqL K (fun _ => none) sc (ns.map V.int) := .inr ⟨_, vs.toArray, _, hk, rfl, rfl, rfl, by rw [List.size_toArray, lenI]; exact few, by simpa using vals_ints iv⟩
    exact main (fun _ => none) (fun _ => .inl rfl) isL (fun b u z => nomatch z) (fun b z => absurd rfl z) (fun z => absurd rfl z)
  | none =>
    obtain ⟨HH, eq1, eq2⟩ : ∃ HH : Hp, (∀ b, b = sc → HH b = some (.frz { cls := .type "list", data := .seq vs.toArray } (.lst (ns.map V.int)))) ∧ ∀ b, b ≠ sc → HH b = none :=
      ⟨fun b => if b = sc then some (.frz { cls := .type "list", data := .seq vs.toArray } (.lst (ns.map V.int))) else none, fun b hb => if_pos hb, fun b hb => if_neg hb⟩
    refine main HH (fun b => ?_) (.inl (.inr ⟨_, eq1 sc rfl⟩)) (fun b u z => ?_) (fun b z => ?_) fun _ => hk
    · by_cases hb : b = sc
      · exact .inr ⟨_, _, eq1 b hb⟩
      · exact .inl (eq2 b hb)
    · by_cases hb : b = sc
      · rw [eq1 b hb] at z
        cases z
        subst hb
        exact ⟨at_, by rw [List.length_map]; exact few, vs, _, vals_ints iv, at_⟩
      · rw [eq2 b hb] at z
        cases z
    · by_cases hb : b = sc
      · exact hb
      · exact absurd (eq2 b hb) z
/-- the goal that the head leaves, from the promise of the law's def -/
theorem walk_ofD {l : PySem.W.OpenLaw} {n k : Nat} {q : Program} {loose : List Str} {XP : (Str → Option Value) → Heap → Prop} {YP : World → Heap → Prop} {d : DefRec} {x : Str} {sp : DSp}
    (most : l.most = some n) (small : n ≤ sizeLine) (nodef : d.params.defaults = []) (room : Room k callerA)
    (F : ∀ (w : World) (mg : Str → Option Value) (fa : Addr) (h : Heap), YP w h → h.Ns mainGlobals mg → mg d.name = some (.ref fa) →
      ∃ (K : PySem.W.Frag) (fd : FuncData), K.In h ∧ (∀ (s : Shared) (u : Value), BindsTo s fd ⟨[u], []⟩ [(x, u)]) ∧ ∀ base : Heap, K.In base → base.Ns mainGlobals mg → FnG l.prog w K mg base k fa fd [x] (toSp ⟨K, mg, none⟩ sp))
    (holds : ∀ ns : List Int, ns.length ≤ n → sp [.frl (ns.map D.int)] [] (fun d _ => d = .bl true) xF) : PySem.W.WalkO q loose XP YP l.row.toRowW d [] (fun f vs => PySem.call f vs) := by
  refine Att.attach_call most nodef fun w s0 s1 mg bm fa o pm cd doc a vs ns G Y ho hd hcd hmg hobj hints hlen hgens => ?_
  obtain ⟨K, fd, kin, bind, hF⟩ := F w mg fa _ Y G.T.g hmg
  exact call_at kin G.T.g G.T.b G.T.builtins G.T.nolimit hgens hobj hints (Nat.le_trans hlen small) room hF bind fun H hS => sp_start hS (holds ns hlen)
end DL

set_option Elab.async false
set_option linter.all false
set_option maxRecDepth 100000
set_option maxHeartbeats 4000000
set_option autoImplicit false
namespace DL
open PySem PySem.Spec PyProof.Rows L2
/-! ### isinstance by a table -/
abbrev IsiL := List ((TyN × TyN) × Bool)
def isiF (L : IsiL) (t u : TyN) : Option Bool := (L.find? fun e => decide (e.1 = (t, u))).map (·.2)
def tvK (K : PySem.W.Frag) : TyN → Value
  | .b n => .type n
  | .c c => .ref (He.ga K c)
def insB (K : PySem.W.Frag) (c : Str) : Bool := (He.Fa.cls c).ok K && (He.eqO (PySem.W.findIn K (.ref (He.ga K c)) "__class__") (some (some (.builtin "object.__class__"))) && (He.eqO (PySem.W.specialIn K (.builtin "object.__class__") "__get__") (some (some (.builtin "getset_descriptor.__get__"))) &&
  (decide (PySem.W.takesIn K (.builtin "object.__class__") = some true) && decide (PySem.W.mroIn K (He.ga K c) (.type "object") = some true))))
theorem insB_ok {K : PySem.W.Frag} {c : Str} (h : insB K c = true) : InsT K (He.ga K c) := by
  obtain ⟨h1, h⟩ := He.ba h
  obtain ⟨h2, h⟩ := He.ba h
  obtain ⟨h3, h⟩ := He.ba h
  obtain ⟨h4, h5⟩ := He.ba h
  exact ⟨He.cls_ok h1, He.eqO_ok h2, He.eqO_ok h3, of_decide_eq_true h4, of_decide_eq_true h5⟩
def tyB (K : PySem.W.Frag) : TyN → Bool
  | .b _ => true
  | .c c => (He.Fa.glo c).ok K && insB K c
def clB (K : PySem.W.Frag) : TyN → Bool
  | .b _ => true
  | .c c => (He.Fa.glo c).ok K
def isiB (L : IsiL) (K : PySem.W.Frag) : Bool := L.all fun e => tyB K e.1.1 && (clB K e.1.2 && decide (PySem.W.kitOne K (tvK K e.1.1) (tvK K e.1.2) = some e.2))
section
variable {K : PySem.W.Frag} {h : Heap} {mg : Str → Option Value} (X : K.In h) (G : h.Ns mainGlobals mg)
include X G
theorem tv_of {t : TyN} {v : Value} {ex : Option (Addr × Addr × Addr)} (c : clB K t = true) (hv : TyVal ⟨K, mg, ex⟩ t v) : v = tvK K t := by
  cases t with
  | b n => exact hv
  | c c0 =>
    obtain ⟨C, h1, rfl⟩ := hv
    have h1' : mg c0 = some (.ref C) := h1
    rw [He.glo_ok X G c] at h1'
    cases h1'
    rfl
theorem isiTab_of {L : IsiL} {ex : Option (Addr × Addr × Addr)} (c : isiB L K = true) : IsiTab ⟨K, mg, ex⟩ (isiF L) := by
  have get : ∀ {t u b}, isiF L t u = some b → tyB K t = true ∧ clB K u = true ∧ PySem.W.kitOne K (tvK K t) (tvK K u) = some b := fun {t u b} e => by
    unfold isiF at e
    obtain ⟨z, e1, e2⟩ := Option.map_eq_some_iff.mp e
    have m := List.mem_of_find?_eq_some e1
    have p : z.1 = (t, u) := by
      have q := List.find?_some e1
      exact of_decide_eq_true q
    obtain ⟨zz, bb⟩ := z
    cases p
    cases e2
    have q := List.all_eq_true.mp c _ m
    obtain ⟨q1, q⟩ := He.ba q
    obtain ⟨q2, q3⟩ := He.ba q
    exact ⟨q1, q2, of_decide_eq_true q3⟩
  have lo : ∀ {t}, tyB K t = true → clB K t = true := fun {t} e => by
    cases t with
    | b n => rfl
    | c c0 => exact (He.ba e).1
  refine ⟨fun t u b e tv uv ht hu => ?_, fun c0 u b e C g => ?_⟩
  · obtain ⟨q1, q2, q3⟩ := get e
    rw [tv_of X G (lo q1) ht, tv_of X G q2 hu]
    exact q3
  · obtain ⟨q1, _, _⟩ := get e
    obtain ⟨q2, q4⟩ := He.ba q1
    have g' : mg c0 = some (.ref C) := g
    rw [He.glo_ok X G q2] at g'
    cases g'
    exact insB_ok q4
end
/-! ### own operators -/
def backB (K : PySem.W.Frag) (c : Str) (nm : Str) : Bool := match PySem.W.findIn K (.ref (He.ga K c)) nm with
  | some none => true
  | some (some (.ref _)) => true
  | _ => false
def oneB (K : PySem.W.Frag) (T : String) (nm rn : Str) : Bool := (PySem.W.findIn K (.type T) nm).isSome && (PySem.W.findIn K (.type T) rn).isSome
def opB (K : PySem.W.Frag) (c nm rn : Str) (Ts : List String) : Bool := (He.Fa.glo c).ok K && (insB K c && (PySem.W.selfFirst K (He.ga K c) && (He.eqO (PySem.W.findIn K (.ref (He.ga K c)) nm) (some (some (.ref (He.ma K (He.ga K c) nm)))) &&
  (PySem.W.isFn K (.ref (He.ma K (He.ga K c) nm)) && (backB K c rn && Ts.all fun T => oneB K T nm rn && decide (PySem.W.subIn K (.type T) (.ref (He.ga K c)) = some false))))))
theorem operD_of {P : Program} {w : World} {K : PySem.W.Frag} {h : Heap} {mg : Str → Option Value} {base : Heap} {k : Nat} {c nm rn : Str} {op : Operator} {Ts : List String} {ps : List Str} {sp : DSp} {fd : FuncData} (X : K.In h) (G : h.Ns mainGlobals mg)
    (B : opB K c nm rn Ts = true) (e1 : PySem.dunder op.info.2 = nm) (e2 : PySem.dunderR op.info.2 = rn) (bi : Binds K fd ps []) (F : FnG P w K mg base k (He.fAd K (c, some nm)) fd ps (toSp ⟨K, mg, none⟩ sp)) : OperD P w K mg base k c op Ts ps sp := by
  subst e1 e2
  obtain ⟨h1, B⟩ := He.ba B
  obtain ⟨h2, B⟩ := He.ba B
  obtain ⟨h3, B⟩ := He.ba B
  obtain ⟨h4, B⟩ := He.ba B
  obtain ⟨h5, B⟩ := He.ba B
  obtain ⟨h6, h7⟩ := He.ba B
  refine ⟨_, _, fd, He.glo_ok X G h1, insB_ok h2, ⟨h3, He.eqO_ok h4, h5, ?_⟩, fun T hT => ?_, bi, F⟩
  · unfold backB at h6
    split at h6
    · rename_i e; exact ⟨_, e, .inl rfl⟩
    · rename_i g e; exact ⟨_, e, .inr ⟨g, rfl⟩⟩
    · cases h6
  · obtain ⟨q1, q2⟩ := He.ba (List.all_eq_true.mp h7 T hT)
    obtain ⟨q3, q4⟩ := He.ba q1
    exact ⟨Option.isSome_iff_exists.mp q3, Option.isSome_iff_exists.mp q4, of_decide_eq_true q2⟩
/-! ### names, compared -/
theorem str_iff (a b : String) : Str.ofString a = Str.ofString b ↔ a = b := by
  constructor
  · intro h
    rw [Str.ofString_eq_toList, Str.ofString_eq_toList] at h
    have h1 := congrArg (fun z : Str => z.cps.toList) h
    have h2 : a.toList.map Char.toNat = b.toList.map Char.toNat := by simpa using h1
    have inj : ∀ {l k : List Char}, l.map Char.toNat = k.map Char.toNat → l = k := by
      intro l
      induction l with
      | nil => intro k e; cases k with
        | nil => rfl
        | cons c k => cases e
      | cons c l ih => intro k e; cases k with
        | nil => cases e
        | cons d k =>
          rw [List.map_cons, List.map_cons] at e
          injection e with e1 e2
          have : c = d := Char.ext (UInt32.toNat.inj e1)
          rw [this, ih e2]
    exact String.toList_inj.mp (inj h2)
  · intro h; rw [h]
theorem str_eq (a b : String) : (Str.ofString a = Str.ofString b) = (a = b) := propext (str_iff a b)
theorem str_beq (a b : String) : (Str.ofString a == Str.ofString b) = decide (a = b) := by
  by_cases h : a = b
  · subst h; simp
  · rw [decide_eq_false h]
    exact beq_eq_false_iff_ne.mpr fun e => h ((str_iff a b).mp e)
/-! ### boot -/
theorem bt_int : bootBuiltins "int" = some (.type "int") := by decide +kernel
theorem bt_bool : bootBuiltins "bool" = some (.type "bool") := by decide +kernel
theorem bt_tuple : bootBuiltins "tuple" = some (.type "tuple") := by decide +kernel
theorem bt_list : bootBuiltins "list" = some (.type "list") := by decide +kernel
theorem bt_len : bootBuiltins "len" = some (.builtin "len") := by decide +kernel
theorem bt_abs : bootBuiltins "abs" = some (.builtin "abs") := by decide +kernel
theorem bt_max : bootBuiltins "max" = some (.builtin "max") := by decide +kernel
theorem bt_min : bootBuiltins "min" = some (.builtin "min") := by decide +kernel
theorem bt_isinstance : bootBuiltins "isinstance" = some (.builtin "isinstance") := by decide +kernel
theorem bt_repr : bootBuiltins "repr" = some (.builtin "repr") := by decide +kernel
end DL

set_option Elab.async false
set_option linter.all false
set_option maxRecDepth 100000
set_option maxHeartbeats 4000000
set_option autoImplicit false
namespace DL
open PySem PySem.Spec PyProof.Rows L2
/-! ### exceptions of the text: raised -/
structure RaiseD (P : Program) (w : World) (K : PySem.W.Frag) (mg : Str → Option Value) (base : Heap) (k : Nat) (c : Str) (ks : List Str) : Prop where
  ex : ∃ C fI fd ps sp, mg c = some (.ref C) ∧ OexC K C ∧ PySem.W.findIn K (.ref C) "__init__" = some (some (.ref fI)) ∧ PySem.W.typeIn K (.ref fI) = some (.type "function") ∧ Binds K fd ps [] ∧ FnOk P w K mg base CX0 k fI fd ps sp ∧
    ∀ a ws H Q E, ws.length = ks.length → H a = some (exo a C none) → (∀ d H2, H d = none → d ≠ a → H2 a = some (exo a C (some d)) → H2 d = some (exd d (ks.zip ws).reverse) → (∀ b, b ≠ a → b ≠ d → H2 b = H b) → Q .non H2) → sp (.ref a :: ws) H Q E
def sRaise (c : Str) (ks : List Str) (wa : WA) : WS := fun E ρ μ => wa ρ μ (fun ds μ1 => ds.length ≤ 1000 ∧ ds.length = ks.length ∧ E.xc c ks.reverse ds.reverse ρ μ1) fun c ks es μ' => E.xc c ks es ρ μ'
theorem zip_reverse {α β : Type} : ∀ (xs : List α) (ys : List β), xs.length = ys.length → (xs.zip ys).reverse = xs.reverse.zip ys.reverse := by
  intro xs ys h
  rw [List.zip_eq_zipWith, List.zip_eq_zipWith]
  exact List.reverse_zipWith h
section
variable {W : WX} {X : Cx} {e : Expr} {es : List Expr} {ws : WA} {p pos pos' : Pos} {k j : Nat} {c : Str} {ks : List Str}
theorem ds_raiseD (R : RaiseD X.prog X.w X.K X.mg X.base k c ks) (hc : X.calm = true) (hr : Room j X.A) (hkj : k + 1 ≤ j) (hg : Gl X c) (tk : Takes X W) (ha : DA none W X (e :: es) ws) (hdb : (c == ("__debug__" : Str)) = false := by decide)
    (he : starEach (e :: es) X.env = (false, eval e X.env) :: starEach es X.env := by rfl) (hpl : (backTo pos (starEach es X.env)).any (·.1) = false := by rfl) :
    DSt none W X (.Raise (some (.Call (.Name c p) (e :: es) [] pos)) none pos') (sRaise c ks ws) := by
  obtain ⟨C, fI, fd, ps, sp, hm, T, hi, hf, hb, F, hsp⟩ := R.ex
  have mk := pmk_oex (ta := liftA (gx X none) W ws) (p := p) (pos := pos) T hi hf F (hr.mono hkj) hb .nil pass0 hg hm ha hdb he hpl
  refine ps_weak (ps_raise hc tk mk) fun De σ H q => ?_
  obtain ⟨Z, m, ρ, μ, E, S, q, kn, kr, kb, kc, kx⟩ := q
  refine ⟨Z, m, ρ, μ, _, _, S, q, fun vs H1 P => ?_, fun cls d H' P => kx cls d σ H' (XSPost.of S P)⟩
  obtain ⟨m1, ds, μ1, s1, r1, hl, hn, q1⟩ := P
  refine ⟨by rw [← r1.len]; exact hl, fun a na => ?_⟩
  rw [List.append_nil]
  have lv : vs.length = ks.length := by rw [← r1.len]; exact hn
  refine hsp a vs _ _ _ lv upd_same fun d H2 nd ne ha2 hd2 hold => ⟨rfl, d, _, ha2, hd2, ?_, ?_⟩
  · rw [upd_ne ne] at nd; exact nd
  · rw [upd_ne ne] at nd
    have same : upd (del H2 a) d (.xd (ks.zip vs).reverse) = upd H1 d (.xd (ks.zip vs).reverse) := by
      funext b
      by_cases hb : b = d
      · subst hb; rw [upd_same, upd_same]
      · rw [upd_ne hb, upd_ne hb]
        by_cases hba : b = a
        · subst hba; rw [del_same, na]
        · rw [del_ne hba, hold b hba hb, upd_ne hba]
    rw [same]
    have s2 := Step.laid (o := .xd (ks.zip vs).reverse) s1.mu nd
    have s12 := s1.trans s2
    refine kx _ _ σ _ (XSPost.from (SStep.of s12) ?_)
    refine ⟨m1, c, ks.reverse, ds.reverse, ρ, μ1, C, d, vs.reverse, S.step s12, .refl, rfl, rfl, hm, ?_, by rw [List.length_reverse, List.length_reverse]; exact hn.symm, ?_, q1⟩
    · rw [vis_upd s1.mu nd, upd_same, zip_reverse ks vs lv.symm]
    · exact Reps.reverse (Reps.mono s2.pre s2.same _ _ r1)
end
/-! the __init__ of an exception: one attribute, two -/
theorem raise1 {P : Program} {w : World} {K : PySem.W.Frag} {mg : Str → Option Value} {base : Heap} {c f x y qual : Str} {params : Arguments} {scope : Scope} {C fI : Addr} {fd : FuncData} {body : List Stmt}
    (hm : mg c = some (.ref C)) (T : OexC K C) (hno : PySem.W.findIn K (.ref C) f = some none) (hi : PySem.W.findIn K (.ref C) "__init__" = some (some (.ref fI))) (hf : PySem.W.typeIn K (.ref fI) = some (.type "function"))
    (F : FunD K "__init__" qual params body scope [] [] fI fd) (S : FnScope [x, y] [x, y] scope) (hb : Binds K fd [x, y] [])
    (hd : ∀ (cdv : Value) (A : Around) (fr : List Env) (s : Shared) (H : Hp) (E : XK), PSs (cxOf CX0 P w K mg base [x, y] qual scope fI cdv A fr s H E) body (tOst K f (tVar 0) (tVar 1))) : RaiseD P w K mg base 1 c [f] := by
  refine ⟨C, fI, fd, [x, y], fun vs H Q E => ∃ a v, vs = [.ref a, v] ∧ H a = some (exo a C none) ∧ ∀ dx, H dx = none → dx ≠ a → Q .non (upd (upd H dx (exd dx [(f, v)])) a (exo a C (some dx))), hm, T, hi, hf, hb, ?_, ?_⟩
  · refine F.ok S (fun vs H Q E h => ?_) (fun cdv A fr s H vs Q E hr h => ⟨tOst K f (tVar 0) (tVar 1), ?_, ?_⟩)
    · obtain ⟨a, v, rfl, _⟩ := h
      rfl
    · exact hd _ _ _ _ _ _
    · obtain ⟨a, v, rfl, ea, hq⟩ := h
      refine ⟨v, rfl, .ref a, rfl, a, C, rfl, T, hno, .inl ⟨ea, hq⟩⟩
  · intro a ws H Q E hl ea h
    match ws, hl with
    | [v], _ =>
      refine ⟨a, v, rfl, ea, fun dx nd ne => h dx _ nd ne upd_same ?_ fun b hba hbd => ?_⟩
      · rw [upd_ne ne, upd_same]; rfl
      · rw [upd_ne hba, upd_ne hbd]
end DL

set_option Elab.async false
set_option linter.all false
set_option maxRecDepth 100000
set_option maxHeartbeats 4000000
set_option autoImplicit false
namespace DL
open PySem PySem.Spec PyProof.Rows L2
/-! ### what does not hang on the caught exception -/
mutual
theorem Rep.ex {K : PySem.W.Frag} {mg : Str → Option Value} {e1 e2 : Option (Addr × Addr × Addr)} {m : List Addr} {E : Hp} : ∀ (d : D) (v : V), Rep ⟨K, mg, e1⟩ m E d v → Rep ⟨K, mg, e2⟩ m E d v
  | .non, v, r => by rw [Rep] at r ⊢; exact r
  | .bl b, v, r => by rw [Rep] at r ⊢; exact r
  | .int i, v, r => by rw [Rep] at r ⊢; exact r
  | .str s, v, r => by rw [Rep] at r ⊢; exact r
  | .ty n, v, r => by rw [Rep] at r ⊢; exact r
  | .cls c, v, r => by rw [Rep] at r ⊢; exact r
  | .tup ds, v, r => by
    rw [Rep] at r ⊢
    obtain ⟨a, vs, e, s, q⟩ := r
    exact ⟨a, vs, e, s, Reps.ex ds vs q⟩
  | .lst ds, v, r => by
    rw [Rep] at r ⊢
    obtain ⟨a, vs, e, s, q⟩ := r
    exact ⟨a, vs, e, s, Reps.ex ds vs q⟩
  | .frl ds, v, r => by
    rw [Rep] at r ⊢
    obtain ⟨a, vs, e, s, q⟩ := r
    exact ⟨a, vs, e, s, Reps.ex ds vs q⟩
  | .obj c ks ds, v, r => by
    rw [Rep] at r ⊢
    obtain ⟨a, C, dx, vs, e, g, s, l, q⟩ := r
    exact ⟨a, C, dx, vs, e, g, s, l, Reps.ex ds vs q⟩
  | .loc n, v, r => by rw [Rep] at r ⊢; exact r
  | .opq o, v, r => by rw [Rep] at r ⊢; exact r
theorem Reps.ex {K : PySem.W.Frag} {mg : Str → Option Value} {e1 e2 : Option (Addr × Addr × Addr)} {m : List Addr} {E : Hp} : ∀ (ds : List D) (vs : List V), Reps ⟨K, mg, e1⟩ m E ds vs → Reps ⟨K, mg, e2⟩ m E ds vs
  | [], vs, r => by rw [Reps] at r ⊢; exact r
  | d :: ds, vs, r => by
    rw [Reps] at r ⊢
    obtain ⟨v, t, e, s, q⟩ := r
    exact ⟨v, t, e, Rep.ex d v s, Reps.ex ds t q⟩
end
section
variable {K : PySem.W.Frag} {mg : Str → Option Value} {e1 e2 : Option (Addr × Addr × Addr)} {Z : Addr → Prop} {m : List Addr} {μ : Mu} {H E : Hp} {σ : L2.St} {ρ : DS}
theorem CellOk.ex {c : Cell} {a : Addr} (h : CellOk ⟨K, mg, e1⟩ m E H c a) : CellOk ⟨K, mg, e2⟩ m E H c a := by
  cases c with
  | lst ds =>
    obtain ⟨vs, h1, h2⟩ := h
    exact ⟨vs, h1, Reps.ex _ _ h2⟩
  | ins c ks ds =>
    obtain ⟨C, dx, vs, h0, h1, hl, h2⟩ := h
    exact ⟨C, dx, vs, h0, h1, hl, Reps.ex _ _ h2⟩
  | pool => exact h
  | dct kvs => exact h
theorem MuOk.ex (M : MuOk ⟨K, mg, e1⟩ Z m μ H) : MuOk ⟨K, mg, e2⟩ Z m μ H := ⟨M.len, M.nd, M.out, M.hw, fun n c a h1 h2 => (M.cell n c a h1 h2).ex⟩
/-- no slot holds an exception -/
def noExn (ρ : DS) : Bool := ρ.all fun s => match s with
  | .exn _ _ _ => false
  | _ => true
theorem noExn_get (h : noExn ρ = true) {i : Nat} {c : Str} {ks : List Str} {ds : List D} : ρ[i]? ≠ some (.exn c ks ds) := fun e => by
  have := List.all_eq_true.mp h _ (List.mem_of_getElem? e)
  cases this
theorem SR.ex (S : SR ⟨K, mg, e1⟩ Z m σ H ρ μ) (hx : ∀ (i : Nat) c ks ds, ρ[i]? ≠ some (Sl.exn c ks ds)) : SR ⟨K, mg, e2⟩ Z m σ H ρ μ := by
  refine ⟨S.len, S.mu.ex, fun i d e => ?_, fun i a c e => ?_, S.dis, fun i c ks ds e => absurd e (hx i c ks ds)⟩
  · obtain ⟨v, h1, h2⟩ := S.val i d e
    exact ⟨v, h1, Rep.ex _ _ h2⟩
  · obtain ⟨h1, h2, h3⟩ := S.own i a c e
    exact ⟨h1, h2, h3.ex⟩
theorem SR.none_exn (S : SR ⟨K, mg, none⟩ Z m σ H ρ μ) {i : Nat} {c : Str} {ks : List Str} {ds : List D} : ρ[i]? ≠ some (.exn c ks ds) := fun e => by
  obtain ⟨_, _, _, _, h, _⟩ := S.exn i c ks ds e
  cases h
/-- a slot is set to what is no thing of its own: anything -/
theorem own_drop {i : Nat} {x : Sl} {σ' : L2.St} (hx : ∀ a c, x ≠ .own a c) {b : Addr} (h : ownW Z σ' (ρ.set i x) b) : ownW Z σ ρ b := by
  rcases h with h | ⟨j, e, h1⟩
  · exact .inl h
  · by_cases hj : i = j
    · subst hj
      rw [List.getElem?_set] at h1
      simp at h1
      exact absurd h1.2 (hx b e)
    · rw [List.getElem?_set_ne hj] at h1; exact .inr ⟨j, e, h1⟩
theorem SR.setX {G : Gx} (S : SR G Z m σ H ρ μ) {i : Nat} {x : Sl} {o : Option V} (hx : ∀ a c, x ≠ .own a c) (hv : ∀ d, x ≠ .v d) (he : ∀ c ks ds, x = .exn c ks ds → ExOk G m (vis (ownW Z σ ρ) m H) (some o) c ks ds) :
    SR G Z m (σ.set i o) H (ρ.set i x) μ ∧ SStep G Z m σ ρ H m (σ.set i o) (ρ.set i x) H := by
  have sub : ∀ b, ownW Z (σ.set i o) (ρ.set i x) b → ownW Z σ ρ b := fun b h => own_drop hx h
  have sm := vis_mono (m := m) (H := H) sub
  have get : ∀ {j : Nat} {y : Sl}, (ρ.set i x)[j]? = some y → (j = i ∧ y = x) ∨ (i ≠ j ∧ ρ[j]? = some y) := fun {j y} h => by
    by_cases hj : i = j
    · subst hj
      rw [List.getElem?_set] at h
      simp at h
      exact .inl ⟨rfl, h.2.symm⟩
    · rw [List.getElem?_set_ne hj] at h; exact .inr ⟨hj, h⟩
  refine ⟨⟨by rw [List.length_set, List.length_set]; exact S.len, S.mu.less sub, fun j d e => ?_, fun j a c e => ?_, fun j k a c c' h1 h2 => ?_, fun j c ks ds e => ?_⟩, List.prefix_refl _, fun _ _ => rfl, sm⟩
  · rcases get e with ⟨_, h⟩ | ⟨hj, h⟩
    · exact absurd h.symm (hv d)
    · obtain ⟨v, h1, h2⟩ := S.val j d h
      exact ⟨v, by rw [List.getElem?_set_ne hj]; exact h1, Rep.mono (List.prefix_refl _) sm _ _ h2⟩
  · rcases get e with ⟨_, h⟩ | ⟨hj, h⟩
    · exact absurd h.symm (hx a c)
    · obtain ⟨h1, h2, h3⟩ := S.own j a c h
      exact ⟨by rw [List.getElem?_set_ne hj]; exact h1, h2, h3.keep (List.prefix_refl _) sm rfl⟩
  · rcases get h1 with ⟨_, h⟩ | ⟨_, h⟩
    · exact absurd h.symm (hx a c)
    · rcases get h2 with ⟨_, h'⟩ | ⟨_, h'⟩
      · exact absurd h'.symm (hx a c')
      · exact S.dis j k a c c' h h'
  · rcases get e with ⟨hj, h⟩ | ⟨hj, h⟩
    · subst hj
      have hl : j < σ.length := by
        rw [← S.len]
        have := (List.getElem?_eq_some_iff.mp e).1
        simpa using this
      rw [List.getElem?_set_self hl]
      exact (he c ks ds h.symm).mono (List.prefix_refl _) sm
    · rw [List.getElem?_set_ne hj]
      exact (S.exn j c ks ds h).mono (List.prefix_refl _) sm
end
/-! ### try: .. except C as e: .. -/
def exOf (a : Addr) (cls : Value) (d : Option Addr) : Option (Addr × Addr × Addr) := match cls, d with
  | .ref C, some dd => some (a, C, dd)
  | _, _ => none
/-- which classes the clause catches -/
def CatchD (K : PySem.W.Frag) (mg : Str → Option Value) (cv : Value) (mt : Str → Option Bool) : Prop := ∀ c b, mt c = some b → ∀ C, mg c = some (.ref C) → PySem.W.exmOne K (.ref C) cv = some b
def suiteE (i : Nat) (E : DEnds) : DEnds := { nx := fun ρ2 μ2 => noExn (ρ2.set i .no) = true ∧ E.nx (ρ2.set i .no) μ2, rt := E.rt, bk := fun ρ2 μ2 => noExn (ρ2.set i .no) = true ∧ E.bk (ρ2.set i .no) μ2, ct := fun ρ2 μ2 => noExn (ρ2.set i .no) = true ∧ E.ct (ρ2.set i .no) μ2 }
def caught (mt : Str → Option Bool) (i : Nat) (wsu : WS) (E : DEnds) : XS := fun c ks es ρ' μ' => match mt c with
  | some true => wsu (suiteE i E) (ρ'.set i (.exn c ks es)) μ'
  | some false => E.xc c ks es ρ' μ'
  | none => False
def sTry (mt : Str → Option Bool) (i : Nat) (wb wsu : WS) : WS := fun E ρ μ => wb { E with xc := caught mt i wsu E } ρ μ
section
variable {W : WX} {X : Cx} {x n : Str} {cv : Value} {i : Nat} {body suite : List Stmt} {b0 : Stmt} {np pos pos' : Pos} {wb wsu : WS} {mt : Str → Option Bool}
theorem ds_try (hs : X.stack = X.env :: X.outer) (hf : X.env.frame = some X.env.locals) (hN : X.N.Nodup) (hi : X.N[i]? = some n) (hln : X.env.kindOf n = some .local) (hc : Names X x cv) (tk : Takes X W) (hm : CatchD X.K X.mg cv mt)
    (hb : ∀ (W2 : WX) (pn : List (Addr × Obj)) (xe : Value → Shared → Prop), Takes (X.tr pn xe) W2 → PassesOwn (model X.prog X.w) X.A X.env xe → DSs none W2 (X.tr pn xe) body wb)
    (hsu : ∀ (a : Addr) (oe : Obj) (cls : Value) (d : Option Addr) (pn : List (Addr × Obj)), Zc cls d oe → (∃ vs, oe.data = .fields vs) → DSs (exOf a cls d) WF (X.suite a ((a, oe) :: pn)) (b0 :: suite) wsu) :
    DSt none W X (.Try body [.ExceptHandler (some (.Name x np)) (some n) (b0 :: suite) pos'] [] [] pos) (sTry mt i wb wsu) := by
  refine ps_weak (ps_try_as (i := i) (c := cv) (tb := fun W2 => liftS (gx X none) W2 wb) (ts := fun a cls d => liftS (gx X (exOf a cls d)) WF wsu) hs hf hN hi hln hc tk hb hsu) fun De σ H q => ?_
  obtain ⟨Z, m, ρ, μ, E, S, q, kn, kr, kb, kc, kx⟩ := q
  refine ⟨Z, m, ρ, μ, { E with xc := caught mt i wsu E }, S, q, kn, kr, kb, kc, fun cls d σ' H' P => ?_⟩
  obtain ⟨m', c, ks, es, ρ', μ', C, dd, vs, S', s', rfl, rfl, hC, hdd, hl, rs, q'⟩ := P
  have hC' : X.mg c = some (.ref C) := hC
  have q2 : caught mt i wsu E c ks es ρ' μ' := q'
  unfold caught at q2
  split at q2
  · rename_i hmt
    refine ⟨true, hm c true hmt C hC', fun _ a na => ?_, fun z => absurd z (by decide)⟩
    have S2 : SR (gx X (some (a, C, dd))) Z m' σ' H' ρ' μ' := S'.ex fun j c2 ks2 ds2 => S'.none_exn
    obtain ⟨S3, s3⟩ := S2.setX (i := i) (x := .exn c ks es) (o := some (.ref a)) (fun _ _ z => nomatch z) (fun _ z => nomatch z) (fun c2 ks2 ds2 e => by
      cases e
      exact ⟨a, C, dd, vs, rfl, hC', rfl, hdd, hl, Reps.ex _ _ rs⟩)
    have t3 : SStep (gx X none) Z m σ ρ H m' (σ'.set i (some (.ref a))) (ρ'.set i (.exn c ks es)) H' := s'.trans ⟨s3.pre, s3.hid, s3.same⟩
    have back : ∀ {Pd : DS → Mu → Prop} {σ2 H2}, SPost (gx X (some (a, C, dd))) Z m' (σ'.set i (some (.ref a))) (ρ'.set i (.exn c ks es)) H' (fun ρ2 μ2 => noExn (ρ2.set i .no) = true ∧ Pd (ρ2.set i .no) μ2) σ2 H2 →
        SPost (gx X none) Z m σ ρ H Pd (σ2.set i none) H2 := fun {Pd σ2 H2} P => by
      obtain ⟨m2, ρ2, μ2, T, t, hno, q⟩ := P
      obtain ⟨T2, t2⟩ := T.setX (i := i) (x := .no) (o := none) (fun _ _ z => nomatch z) (fun _ z => nomatch z) (fun _ _ _ z => nomatch z)
      exact ⟨m2, _, μ2, T2.ex fun j c2 ks2 ds2 => noExn_get hno, t3.trans (SStep.trans ⟨t.pre, t.hid, t.same⟩ ⟨t2.pre, t2.hid, t2.same⟩), q⟩
    refine ⟨Z, m', _, μ', suiteE i E, S3, q2, fun σ2 H2 P => kn _ _ (back P), fun v H2 P => ?_, fun σ2 H2 P => kb _ _ (back P), fun σ2 H2 P => kc _ _ (back P), fun cls2 d2 σ2 H2 P => ?_⟩
    · obtain ⟨m2, d, μ2, h1, h2, h3, h4, h5, h6⟩ := P
      exact kr v H2 (RPost.from t3 ⟨m2, d, μ2, h1, h2, h3.ex, h4, Rep.ex _ _ h5, h6⟩)
    · obtain ⟨_, _, _, _, _, _, _, _, _, _, _, _, _, _, _, _, _, z⟩ := P
      exact z.elim
  · rename_i hmt
    refine ⟨false, hm c false hmt C hC', fun z => absurd z Bool.false_ne_true, fun _ => kx _ _ σ' H' ⟨m', c, ks, es, ρ', μ', C, dd, vs, S', s', rfl, rfl, hC, hdd, hl, rs, q2⟩⟩
  · exact q2.elim
end
/-! in the suite: e.f, isinstance(e, C) -/
def KExn (o : Option Sl) (k : Str → List Str → List D → Prop) : Prop := match o with
  | some (.exn c ks ds) => k c ks ds
  | _ => False
theorem KExn_of {o : Option Sl} {k : Str → List Str → List D → Prop} (h : KExn o k) : ∃ c ks ds, o = some (.exn c ks ds) ∧ k c ks ds := by
  unfold KExn at h
  split at h
  · exact ⟨_, _, _, rfl, h⟩
  · exact h.elim
def getX (cs : List Str) (f : Str) (Q : D → Prop) : Str → List Str → List D → Prop := fun c ks ds => c ∈ cs ∧ match fldOf f ks ds with
  | some d => Q d
  | none => False
def wXf (cs : List Str) (i : Nat) (f : Str) : WE := fun ρ μ Q _ => KExn (ρ[i]?) (getX cs f fun d => Q d μ)
def XfD (K : PySem.W.Frag) (mg : Str → Option Value) (cs : List Str) (f : Str) : Prop := ∀ c ∈ cs, ∀ C, mg c = some (.ref C) → XfC K C ∧ PySem.W.findIn K (.ref C) f = some none
def wIsE (f : TyN → TyN → Option Bool) (i : Nat) (cn : Str) : WE := fun ρ μ Q _ => KExn (ρ[i]?) fun c _ _ => match f (.c c) (.c cn) with
  | some b => Q (.bl b) μ
  | none => False
/-- isinstance of caught exceptions: by a table -/
structure IsxTab (K : PySem.W.Frag) (mg : Str → Option Value) (f : TyN → TyN → Option Bool) : Prop where
  ok : ∀ c u b, f (.c c) (.c u) = some b → ∀ C U, mg c = some (.ref C) → mg u = some (.ref U) → ExcC K C ∧ PySem.W.kitOne K (.ref C) (.ref U) = some b
section
variable {X : Cx} {a : Addr} {oe : Obj} {cls : Value} {d : Option Addr} {pn : List (Addr × Obj)} {pos p1 p2 p3 : Pos} {x n cn : Str} {i : Nat} {cs : List Str}
theorem exOf_some {a a' C dd : Addr} {cls : Value} {d : Option Addr} (h : exOf a cls d = some (a', C, dd)) : a' = a ∧ cls = .ref C ∧ d = some dd := by
  unfold exOf at h
  split at h
  · cases h; exact ⟨rfl, rfl, rfl⟩
  · cases h
theorem de_xf {f : Str} (hz : Zc cls d oe) (hf : ∃ vs, oe.data = .fields vs) (T : XfD X.K X.mg cs f) (hN : X.N[i]? = some x) (hv : Vis X.env.scope x := by first | exact Or.inl rfl | exact Or.inr (Or.inl rfl) | exact Or.inr (Or.inr rfl))
    (hd : (x == ("__debug__" : Str)) = false := by decide) (hcd : (x == ("__classdict__" : Str)) = false := by decide) (hb : attributeBase (.Name x p1) f X.env (eval (.Name x p1) X.env) = eval (.Name x p1) X.env := by rfl) :
    DE (exOf a cls d) WF (X.suite a ((a, oe) :: pn)) (.Attribute (.Name x p1) f pos) (wXf cs i f) := by
  refine ⟨fun pins s σ H Q' I q => ?_⟩
  obtain ⟨Z, m, ρ, μ, Q, Xd, S, q, k, kx⟩ := q
  obtain ⟨c, ks, ds, e, q⟩ := KExn_of q
  obtain ⟨hcs, q⟩ := q
  obtain ⟨a', C, dd, vs, h1, h2, h3, h4, h5, h6⟩ := S.exn i c ks ds e
  obtain ⟨rfl, rfl, rfl⟩ := exOf_some h1
  obtain ⟨T1, T2⟩ := T c hcs C h2
  split at q
  · rename_i dv hdv
    obtain ⟨v, hv1, hv2⟩ := fldOf_rep h6 hdv
    have R := pe_xf (pos := pos) (a := a') (pn := pn) T1 T2 hz hf (pe_var (X := X.suite a' ((a', oe) :: pn)) (i := i) (x := x) (pos := p1) hN hv hd hcd) hb
    exact R.run pins s σ H Q' I ⟨_, h3, rfl, rfl, dd, _, v, rfl, vis_le _ _ h4, hv1, k _ _ (.now S.mu hv2 q)⟩
  · exact q.elim
theorem call_isX {f : TyN → TyN → Option Bool} (T : IsxTab X.K X.mg f) (hz : Zc cls d oe) (hf : ∃ vs, oe.data = .fields vs) : CallR (X.suite a ((a, oe) :: pn)) (.builtin "isinstance") (fun xs H Q => ∃ C U dd fs c u b, xs = [.ref a, .ref U] ∧ cls = .ref C ∧ d = some dd ∧ H dd = some (.xd fs) ∧
    X.mg c = some (.ref C) ∧ X.mg u = some (.ref U) ∧ f (.c c) (.c u) = some b ∧ Q (.bl b) H) := by
  intro pins s σ H xs us Q I r h
  obtain ⟨C, U, dd, fs, c, u, b, rfl, rfl, rfl, hdd, hc, hu, e, q⟩ := h
  obtain ⟨u1, u2, rfl, r1, r2⟩ := vals2 r
  cases (show u1 = Value.ref a from r1)
  cases (show u2 = Value.ref U from r2)
  obtain ⟨hget, _⟩ := I.pin (a, oe) (List.mem_append.mpr (.inl List.mem_cons_self))
  obtain ⟨E, kit⟩ := T.ok c u b e C U hc hu
  obtain ⟨vs, hv⟩ := hf
  obtain ⟨mA, hns, hr⟩ := (show ObjOk X.prog X.w H s.heap dd (.xd fs) from I.hok dd _ hdd)
  obtain ⟨od, ho, hl⟩ := lookIn_ns hns
  have J : PySem.W.InstAt s.heap a oe C (some od) := ⟨hget, hz.1, by unfold PySem.W.notCls; rw [hv] <;> rfl, by rw [hz.2]; exact ho⟩
  have hcl : (PySem.W.clsIn X.K C).isSome = true := by
    obtain ⟨cd, hcd, _⟩ := PySem.W.any_some E.hd
    rw [hcd]; rfl
  exact PySem.W.kia_one (PySem.W.kitx_exc hcl E.hg E.hk E.hs E.ha E.hn E.ht E.hm) I.kIn J kit (fun z => nomatch z) fun tk => ⟨.bl b, H, I.kept (t' := tk) fun _ _ z => z, rfl, q⟩
theorem de_isX {f : TyN → TyN → Option Bool} {C2 : Addr} (T : IsxTab X.K X.mg f) (hz : Zc cls d oe) (hf : ∃ vs, oe.data = .fields vs) (hg : Gl X "isinstance") (hm : X.mg "isinstance" = none) (hN : X.N[i]? = some x) (hg2 : Gl X cn) (hm2 : X.mg cn = some (.ref C2))
    (hv : Vis X.env.scope x := by first | exact Or.inl rfl | exact Or.inr (Or.inl rfl) | exact Or.inr (Or.inr rfl)) (hd : (x == ("__debug__" : Str)) = false := by decide) (hcd : (x == ("__classdict__" : Str)) = false := by decide) (hd2 : (cn == ("__debug__" : Str)) = false := by decide) :
    DE (exOf a cls d) WF (X.suite a ((a, oe) :: pn)) (.Call (.Name "isinstance" p1) [.Name x p2, .Name cn p3] [] pos) (wIsE f i cn) := by
  have A1 : PA (X.suite a ((a, oe) :: pn)) [.Name x p2, .Name cn p3] (tCons (tVar i) (tCons (tC (.ref C2)) tNil)) := pa_cons (pe_var (X := X.suite a ((a, oe) :: pn)) hN hv hd hcd) (pa_cons (pe_glob (X := X.suite a ((a, oe) :: pn)) hg2 hm2 (v := .ref C2) rfl hd2) pa_nil)
  refine pe_weak (pe_callB (X := X.suite a ((a, oe) :: pn)) (call_isX T hz hf) hg hm bt_isinstance A1) fun σ H Q' q => ?_
  obtain ⟨Z, m, ρ, μ, Q, Xd, S, q, k, kx⟩ := q
  obtain ⟨c, ks, ds, e, q⟩ := KExn_of q
  obtain ⟨a', C, dd, vs, h1, h2, h3, h4, h5, h6⟩ := S.exn i c ks ds e
  obtain ⟨rfl, rfl, rfl⟩ := exOf_some h1
  split at q
  · rename_i b hb
    exact ⟨_, h3, C, C2, dd, _, c, cn, b, rfl, rfl, rfl, vis_le _ _ h4, h2, hm2, hb, k _ _ (.now S.mu (by rw [Rep]) q)⟩
  · exact q.elim
end
end DL

set_option Elab.async false
set_option linter.all false
set_option maxRecDepth 100000
set_option maxHeartbeats 4000000
set_option autoImplicit false
namespace DL
open PySem PySem.Spec PyProof.Rows L2
/-! ### repr -/
def reprC : PyData → Prop
  | .none => True
  | .bool _ => True
  | .int i => i.natAbs.log2 < 1920
  | .str x => (reprText x).length ≤ sizeLine
  | .list xs => (PyData.list xs).showable = true ∧ (PyData.list xs).hasDict = false ∧ (PyData.list xs).depth ≤ 50 ∧ (PyData.list xs).shown.length ≤ sizeLine
  | .tuple xs => (PyData.tuple xs).showable = true ∧ (PyData.tuple xs).hasDict = false ∧ (PyData.tuple xs).depth ≤ 50 ∧ (PyData.tuple xs).shown.length ≤ sizeLine
  | _ => False
theorem call_reprD {X : Cx} (hgd : X.A.guards = some []) (hu : X.A.units + 64 < cLine) : CallR X (.builtin "repr") (fun xs H Q => ∃ v p, xs = [v] ∧ Dp X.K H v p ∧ reprC p ∧ Q (.str p.shown) H) := by
  intro pins s σ H xs us Q I r h
  obtain ⟨v, p, rfl, dp, hc, q⟩ := h
  obtain ⟨u, rfl, ru⟩ := r.one
  have box : ∀ {d : PyData} {a : Addr}, Dp X.K H (.ref a) d → d.showable = true → d.hasDict = false → d.depth ≤ 50 → d.shown.length ≤ sizeLine → Q (.str d.shown) H → wpAny (model X.prog X.w) X.A (call (.builtin "repr") [.ref a]) (EP X pins σ Q) X.xe s := fun {d a} dp h1 h2 h3 h4 q => by
    obtain ⟨as, rd⟩ := Dp.reads I d (.ref a) (.ref a) dp rfl
    exact repr_of_reads' rd h1 (fun z => absurd (h2.symm.trans z) Bool.false_ne_true) hgd (by omega) (fun _ _ e => e) (fun h' u tk k => ⟨.str _, H, I.kept k, ⟨_, rfl⟩, q⟩) h4
  cases dp with
  | non =>
    cases (show u = Value.none from ru)
    exact PySem.P.repr_of_none ⟨.str _, H, I.tok _, ⟨_, rfl⟩, q⟩
  | bl b =>
    cases (show u = Value.bool b from ru)
    exact PySem.P.repr_of_bool ⟨.str _, H, I.tok _, ⟨_, rfl⟩, q⟩
  | int i =>
    obtain ⟨t, rfl⟩ := (show ∃ t, u = Value.int i t from ru)
    exact PySem.P.repr_of_int hc ⟨.str _, H, I.tok _, ⟨_, rfl⟩, q⟩
  | str x =>
    obtain ⟨t, rfl⟩ := (show ∃ t, u = Value.str x t from ru)
    exact PySem.P.repr_of_str (hsz := hc) ⟨.str _, H, I.tok _, ⟨_, rfl⟩, q⟩
  | lst s1 s2 =>
    cases (show u = Value.ref _ from ru)
    exact box (.lst s1 s2) hc.1 hc.2.1 hc.2.2.1 hc.2.2.2 q
  | tup s1 s2 =>
    cases (show u = Value.ref _ from ru)
    exact box (.tup s1 s2) hc.1 hc.2.1 hc.2.2.1 hc.2.2.2 q
def fRepr : FN := fun xs μ Q => match xs with
  | [x] => ∃ p, toP x = some p ∧ reprC p ∧ Q (.str p.shown) μ
  | _ => False
theorem sn_repr {G : Gx} : SN G (fun xs H Q => ∃ v p, xs = [v] ∧ Dp G.K H v p ∧ reprC p ∧ Q (.str p.shown) H) fRepr := by
  intro Z m μ H xs us Q Q' M r h k
  unfold fRepr at h
  split at h
  · obtain ⟨p, h1, h2, h3⟩ := h
    obtain ⟨v, t, rfl, r1, r2⟩ := r.uncons
    rw [Reps] at r2
    subst r2
    exact ⟨v, p, rfl, dp_of vis_le _ _ _ r1 h1, h2, k _ _ (.now M (by rw [Rep]) h3)⟩
  · exact h.elim
end DL

set_option Elab.async false
set_option linter.all false
set_option maxRecDepth 100000
set_option maxHeartbeats 4000000
set_option autoImplicit false
namespace DL
open PySem PySem.Spec PyProof.Rows L2
/-! ### what the head tells of exceptions -/
def oexB (K : PySem.W.Frag) (C : Addr) : Bool := (match K.lookup C with
  | some ⟨.type "type", _, .cls cd, sl⟩ => (match cd.mro, sl.toList with
    | .ref C' :: bm, [_, _, _, _, some (.builtin n), _] => decide (C' = C) && (decide (n = "ValueError.__new__") && (cd.hasDict && (!cd.hasDel && PySem.HandSPX.refsVE bm)))
    | _, _ => false)
  | _ => false) && (He.eqO (PySem.W.findIn K (.ref C) "__setattr__") (some (some (.builtin "object.__setattr__"))) && (decide (PySem.W.subIn K (.ref C) (.type "BaseException") = some true) && (decide (PySem.W.typeIn K (.ref C) = some (.type "type")) && PySem.W.keepIn K (.ref C))))
theorem oexB_ok {K : PySem.W.Frag} {C : Addr} (h : oexB K C = true) : OexC K C := by
  obtain ⟨h1, h⟩ := He.ba h
  obtain ⟨h2, h⟩ := He.ba h
  obtain ⟨h3, h⟩ := He.ba h
  obtain ⟨h4, h5⟩ := He.ba h
  refine ⟨?_, He.eqO_ok h2, of_decide_eq_true h3, of_decide_eq_true h4, h5⟩
  split at h1
  · rename_i dd cd sl ho
    split at h1
    · rename_i C' bm k0 k1 k2 k3 n k5 em es
      obtain ⟨g1, h1⟩ := He.ba h1
      obtain ⟨g2, h1⟩ := He.ba h1
      obtain ⟨g3, h1⟩ := He.ba h1
      obtain ⟨g4, g5⟩ := He.ba h1
      have g1 := of_decide_eq_true g1
      have g2 := of_decide_eq_true g2
      rw [Bool.not_eq_true'] at g4
      obtain ⟨nm, bs, mro, ns, qn, hd, sn, sub, ab, col, dl⟩ := cd
      dsimp only at em g3 g4
      subst em g1 g2 g3 g4
      have hsl : sl = #[k0, k1, k2, k3, some (.builtin "ValueError.__new__"), k5] := by
        obtain ⟨l⟩ := sl
        simp only at es
        rw [es]
      subst hsl
      exact ⟨nm, qn, ns, bs, bm, sn, sub, ab, col, dd, k0, k1, k2, k3, k5, ho, g5⟩
    · cases h1
  · cases h1
/-- an exception class with its __init__, which stores the attributes ks -/
def rxB (K : PySem.W.Frag) (c : Str) (ks : List Str) : Bool := (He.Fa.glo c).ok K && (oexB K (He.ga K c) && (He.eqO (PySem.W.findIn K (.ref (He.ga K c)) "__init__") (some (some (.ref (He.ma K (He.ga K c) "__init__")))) &&
  (decide (PySem.W.typeIn K (.ref (He.ma K (He.ga K c) "__init__")) = some (.type "function")) && ks.all fun f => He.eqO (PySem.W.findIn K (.ref (He.ga K c)) f) (some none))))
theorem rxB_ok {K : PySem.W.Frag} {c : Str} {ks : List Str} (h : rxB K c ks = true) : OexC K (He.ga K c) ∧ PySem.W.findIn K (.ref (He.ga K c)) "__init__" = some (some (.ref (He.fAd K (c, some "__init__")))) ∧
    PySem.W.typeIn K (.ref (He.fAd K (c, some "__init__"))) = some (.type "function") ∧ ∀ f ∈ ks, PySem.W.findIn K (.ref (He.ga K c)) f = some none := by
  obtain ⟨h1, h⟩ := He.ba h
  obtain ⟨h2, h⟩ := He.ba h
  obtain ⟨h3, h⟩ := He.ba h
  obtain ⟨h4, h5⟩ := He.ba h
  exact ⟨oexB_ok h2, He.eqO_ok h3, of_decide_eq_true h4, fun f hf => He.eqO_ok (List.all_eq_true.mp h5 f hf)⟩
section
variable {K : PySem.W.Frag} {h : Heap} {mg : Str → Option Value} (X : K.In h) (G : h.Ns mainGlobals mg)
include X G
theorem rx_glo {c : Str} {ks : List Str} (b : rxB K c ks = true) : mg c = some (.ref (He.ga K c)) := He.glo_ok X G (He.ba b).1
end
/-! which exceptions a clause catches -/
def catF (L : List (Str × Bool)) (c : Str) : Option Bool := (L.find? fun e => decide (e.1 = c)).map (·.2)
def catB (K : PySem.W.Frag) (y : Str) (L : List (Str × Bool)) : Bool := (He.Fa.glo y).ok K && L.all fun e => (He.Fa.glo e.1).ok K && decide (PySem.W.exmOne K (.ref (He.ga K e.1)) (.ref (He.ga K y)) = some e.2)
theorem catF_mem {L : List (Str × Bool)} {c : Str} {b : Bool} (h : catF L c = some b) : (c, b) ∈ L := by
  unfold catF at h
  obtain ⟨z, e1, e2⟩ := Option.map_eq_some_iff.mp h
  have m := List.mem_of_find?_eq_some e1
  have p : z.1 = c := by
    have q := List.find?_some e1
    exact of_decide_eq_true q
  obtain ⟨z1, z2⟩ := z
  cases p
  cases e2
  exact m
section
variable {K : PySem.W.Frag} {h : Heap} {mg : Str → Option Value} (X : K.In h) (G : h.Ns mainGlobals mg)
include X G
theorem catchD_of {y : Str} {L : List (Str × Bool)} (c : catB K y L = true) : CatchD K mg (.ref (He.ga K y)) (catF L) ∧ mg y = some (.ref (He.ga K y)) := by
  obtain ⟨c1, c2⟩ := He.ba c
  refine ⟨fun x b hb C hC => ?_, He.glo_ok X G c1⟩
  obtain ⟨q1, q2⟩ := He.ba (List.all_eq_true.mp c2 _ (catF_mem hb))
  rw [He.glo_ok X G q1] at hC
  cases hC
  exact of_decide_eq_true q2
/-! fields, isinstance -/
omit X G in
theorem xfD_of {cs : List Str} {f : Str} (X : K.In h) (G : h.Ns mainGlobals mg) (c : (cs.all fun x => (He.Fa.glo x).ok K && (xfB K (He.ga K x) && He.eqO (PySem.W.findIn K (.ref (He.ga K x)) f) (some none))) = true) : XfD K mg cs f := by
  intro x hx C hC
  obtain ⟨q1, q⟩ := He.ba (List.all_eq_true.mp c x hx)
  obtain ⟨q2, q3⟩ := He.ba q
  rw [He.glo_ok X G q1] at hC
  cases hC
  exact ⟨xfB_ok q2, He.eqO_ok q3⟩
end
def exCB (K : PySem.W.Frag) (D : Addr) : Bool := He.eqO (PySem.W.findIn K (.ref D) "__getattribute__") (some (some (.builtin "BaseException.__getattribute__"))) && (He.eqO (PySem.W.findIn K (.ref D) "__getattr__") (some none) && (decide (PySem.W.subIn K (.ref D) (.type "BaseException") = some true) && (PySem.W.hasDictIn K D &&
  (He.eqO (PySem.W.findIn K (.ref D) "__class__") (some (some (.builtin "object.__class__"))) && (He.eqO (PySem.W.specialIn K (.builtin "object.__class__") "__get__") (some (some (.builtin "getset_descriptor.__get__"))) && (decide (PySem.W.takesIn K (.builtin "object.__class__") = some true) && decide (PySem.W.mroIn K D (.type "object") = some true)))))))
theorem exCB_ok {K : PySem.W.Frag} {D : Addr} (h : exCB K D = true) : ExcC K D := by
  obtain ⟨h1, h⟩ := He.ba h
  obtain ⟨h2, h⟩ := He.ba h
  obtain ⟨h3, h⟩ := He.ba h
  obtain ⟨h4, h⟩ := He.ba h
  obtain ⟨h5, h⟩ := He.ba h
  obtain ⟨h6, h⟩ := He.ba h
  obtain ⟨h7, h8⟩ := He.ba h
  exact ⟨He.eqO_ok h1, He.eqO_ok h2, of_decide_eq_true h3, h4, He.eqO_ok h5, He.eqO_ok h6, of_decide_eq_true h7, of_decide_eq_true h8⟩
abbrev IsxL := List ((Str × Str) × Bool)
def isxF (L : IsxL) (t u : TyN) : Option Bool := match t, u with
  | .c a, .c b => (L.find? fun e => decide (e.1 = (a, b))).map (·.2)
  | _, _ => none
def isxB (K : PySem.W.Frag) (L : IsxL) : Bool := L.all fun e => (He.Fa.glo e.1.1).ok K && ((He.Fa.glo e.1.2).ok K && (exCB K (He.ga K e.1.1) && decide (PySem.W.kitOne K (.ref (He.ga K e.1.1)) (.ref (He.ga K e.1.2)) = some e.2)))
theorem isxTab_of {K : PySem.W.Frag} {h : Heap} {mg : Str → Option Value} (X : K.In h) (G : h.Ns mainGlobals mg) {L : IsxL} (c : isxB K L = true) : IsxTab K mg (isxF L) := by
  refine ⟨fun a u b e C U hC hU => ?_⟩
  have e' : (L.find? fun e => decide (e.1 = (a, u))).map (·.2) = some b := e
  obtain ⟨z, e1, e2⟩ := Option.map_eq_some_iff.mp e'
  have m := List.mem_of_find?_eq_some e1
  have p : z.1 = (a, u) := by
    have q := List.find?_some e1
    exact of_decide_eq_true q
  obtain ⟨z1, z2⟩ := z
  cases p
  cases e2
  obtain ⟨q1, q⟩ := He.ba (List.all_eq_true.mp c _ m)
  obtain ⟨q2, q⟩ := He.ba q
  obtain ⟨q3, q4⟩ := He.ba q
  rw [He.glo_ok X G q1] at hC
  rw [He.glo_ok X G q2] at hU
  cases hC
  cases hU
  exact ⟨exCB_ok q3, of_decide_eq_true q4⟩
end DL

set_option Elab.async false
set_option linter.all false
set_option maxRecDepth 100000
set_option maxHeartbeats 4000000
set_option autoImplicit false
namespace DL
open PySem PySem.Spec PyProof.Rows L2
/-! ### properties -/
structure PropD (P : Program) (w : World) (K : PySem.W.Frag) (mg : Str → Option Value) (base : Heap) (k : Nat) (c f : Str) (ps : List Str) (sp : DSp) : Prop where
  ex : ∃ C p g fd, mg c = some (.ref C) ∧ Cls K C ∧ PropOf K C f p g ∧ Binds K fd ps [] ∧ FnG P w K mg base k g fd ps (toSp ⟨K, mg, none⟩ sp)
def wProp (c : Str) (sp : DSp) (wa : WE) : WE := fun ρ μ Q Xd => wa ρ μ (fun x μ1 => isCls c x μ1 (sp [x] μ1 Q xF)) Xd
section
variable {ex : Option (Addr × Addr × Addr)} {W : WX} {X : Cx} {e : Expr} {wa : WE} {pos : Pos} {k j : Nat} {ps : List Str} {c f : Str} {sp : DSp} {C p g a dx : Addr} {fd : FuncData}
end
/-! from the head's facts -/
/-! ### the Hook: defs at any address, and one Bool more -/
abbrev AlY : Type := He.AlD × Bool
structure SaysY (fa : List He.Fa) (fn : List He5.DefA) (ex : PySem.W.Frag → Bool) (K : PySem.W.Frag) : Prop where
  d : He5.SaysA fa fn K
  more : ex K = true
/-! a module's int -/
end DL

set_option Elab.async false
set_option linter.all false
set_option maxRecDepth 100000
set_option maxHeartbeats 4000000
set_option autoImplicit false
namespace DL
open PySem PySem.Spec PyProof.Rows L2
/-! ### == of scalars or of data -/
def atomV : D → Option V
  | .non => some .non
  | .bl b => some (.bl b)
  | .int i => some (.int i)
  | .str s => some (.str s)
  | _ => none
theorem atom_rep {G : Gx} {m : List Addr} {E : Hp} {x : D} {u v : V} (r : Rep G m E x u) (h : atomV x = some v) : u = v := by
  cases x <;> first | (rw [Rep] at r; cases h; exact r) | cases h
def eqU (x y : D) (k : Bool → Prop) : Prop := (∃ u v, atomV x = some u ∧ atomV y = some v ∧ scal u v = true ∧ k (decide (u = v))) ∨ eqD x y k
def fEqU : F2 := fun x y μ Q => eqU x y fun b => Q (.bl b) μ
def fNeU : F2 := fun x y μ Q => eqU x y fun b => Q (.bl (!b)) μ
theorem s2_eqU {G : Gx} : S2 G (fun x y H Q => rEq x y H Q ∨ rEqD G.K x y H Q) fEqU := by
  intro Z m μ H x y u v Q Q' M rx ry h k
  rcases h with ⟨u', v', e1, e2, hs, q⟩ | h
  · cases atom_rep rx e1
    cases atom_rep ry e2
    exact .inl ⟨hs, k _ _ (.now M (by rw [Rep]) q)⟩
  · exact .inr (s2_eqD Z m μ H x y u v Q Q' M rx ry h k)
theorem s2_neU {G : Gx} : S2 G (fun x y H Q => rNe x y H Q ∨ rNeD G.K x y H Q) fNeU := by
  intro Z m μ H x y u v Q Q' M rx ry h k
  rcases h with ⟨u', v', e1, e2, hs, q⟩ | h
  · cases atom_rep rx e1
    cases atom_rep ry e2
    exact .inl ⟨hs, k _ _ (.now M (by rw [Rep]) q)⟩
  · exact .inr (s2_neD Z m μ H x y u v Q Q' M rx ry h k)
theorem op_eqU {X : Cx} (hu : X.A.units + 64 < cLine) : OpR X (compareOp .Eq) (fun x y H Q => rEq x y H Q ∨ rEqD X.K x y H Q) := op_eq.or (op_eqD hu)
theorem op_neU {X : Cx} (hu : X.A.units + 64 < cLine) : OpR X (compareOp .NotEq) (fun x y H Q => rNe x y H Q ∨ rNeD X.K x y H Q) := op_ne.or (op_neD hu)
end DL

set_option Elab.async false
set_option linter.all false
set_option maxRecDepth 100000
set_option maxHeartbeats 4000000
set_option autoImplicit false
namespace DL
open PySem PySem.Spec PyProof.Rows L2
/-! ### sum, max, min, sorted of ints; any, all of truths -/
def lstInts (x : D) (k : List Int → Prop) : Prop := lstOr x fun ds => ∃ ns, intsD ds = some ns ∧ k ns
section
variable {G : Gx}
end
end DL

set_option Elab.async false
set_option linter.all false
set_option maxRecDepth 100000
set_option maxHeartbeats 4000000
set_option autoImplicit false
namespace DL
open PySem PySem.Spec PyProof.Rows L2


/-! ### list(x), tuple(x) -/
def fListOf : FN := fun xs μ Q => match xs with
  | [x] => match itemsD x μ with
    | some ds => Q (.lst ds) μ
    | none => False
  | _ => False
theorem sn_listOf {G : Gx} : SN G (fun xs H Q => ∃ p ys, xs = [.ref p] ∧ (SqL G.K H p ys ∨ SqT G.K H p ys) ∧ ∀ l, H l = none → Q (.ref l) (upd H l (.lst ys))) fListOf := by
  intro Z m μ H xs us Q Q' M r h k
  unfold fListOf at h
  split at h
  · split at h
    · rename_i ds e1
      obtain ⟨v, t, rfl, r1, r2⟩ := r.uncons
      rw [Reps] at r2
      subst r2
      obtain ⟨a, vs, rfl, s, q⟩ := items_rep M r1 e1
      refine ⟨a, vs, rfl, s, fun l nl => k _ _ ?_⟩
      have s4 := Step.laid (o := .lst vs) M nl
      refine ⟨m, _, μ, s4, ?_, h⟩
      rw [Rep]
      refine ⟨l, _, rfl, ?_, Reps.mono s4.pre s4.same _ _ q⟩
      rw [vis_upd M nl, upd_same]
    · exact h.elim
  · exact h.elim
def fTupOf : FN := fun xs μ Q => match xs with
  | [x] => match itemsD x μ with
    | some ds => Q (.tup ds) μ
    | none => False
  | _ => False
/-! ### isinstance(x, (A, B)) -/
def anyT (f : TyN → TyN → Option Bool) (t : TyN) : List D → Option Bool
  | [] => some false
  | c :: cs => match clD c with
    | some u => match f t u with
      | some true => if cs.all (fun d => (clD d).isSome) then some true else none
      | some false => anyT f t cs
      | none => none
    | none => none
def isiDT (f : TyN → TyN → Option Bool) (x : D) (cs : List D) (μ : Mu) : Option Bool := match tyD x μ with
  | some t => match cs with
    | [] => none
    | c :: r => anyT f t (c :: r)
  | none => none
def fIsiT (f : TyN → TyN → Option Bool) : FN := fun xs μ Q => match xs with
  | [x, .tup cs] => match isiDT f x cs μ with
    | some b => Q (.bl b) μ
    | none => False
  | _ => False
/-! ### a dict of one int beside an int -/
def wDictII (i j : Int) : WE := fun _ μ Q _ => Q (.opq (.dK [(.inl i, .int j)])) μ
section
variable {ex : Option (Addr × Addr × Addr)} {W : WX} {X : Cx} {pos p1 p2 : Pos} {n1 n2 : Nat} {i j : Int}
end
end DL

set_option Elab.async false
set_option linter.all false
set_option maxRecDepth 100000
set_option maxHeartbeats 4000000
set_option autoImplicit false
namespace DL
open PySem PySem.Spec PyProof.Rows L2
/-! ### comparisons and `in` by own defs -/
structure CmpFn (K : PySem.W.Frag) (C : Addr) (nm : Str) (f : Addr) : Prop where
  at_ : PySem.W.findIn K (.ref C) nm = some (some (.ref f))
  fn : PySem.W.isFn K (.ref f) = true
/-- the class has no own `__ne__` -/
structure NeFn (K : PySem.W.Frag) (C : Addr) : Prop where
  at_ : PySem.W.findIn K (.ref C) "__ne__" = some (some (.builtin "object.__ne__"))
  top : PySem.W.mroIn K C (.type "object") = some true
section
open PySem.W
variable {prog : Program} {w : World} {A : Around} {E : Value → Shared → Prop} {s : Shared} {K : Frag} {x C g : Addr} {ox : Obj} {od : Option Obj} {b tb : Value}
end
/-- the other operand: of a listed built-in type or class -/
def othC (Ts : List String) (Cs : List Str) (y : D) (μ : Mu) (Q : Prop) : Prop := match tyD y μ with
  | some (.b T) => T ∈ Ts ∧ Q
  | some (.c c') => c' ∈ Cs ∧ Q
  | none => False
structure CmpD (P : Program) (w : World) (K : PySem.W.Frag) (mg : Str → Option Value) (base : Heap) (k : Nat) (c nm : Str) (Ts : List String) (Cs : List Str) (ps : List Str) (sp : DSp) : Prop where
  ex : ∃ C f fd, mg c = some (.ref C) ∧ CmpFn K C nm f ∧ (∀ T ∈ Ts, PySem.W.notFirst K C (.type T) = true) ∧ (∀ c' ∈ Cs, ∀ C', mg c' = some (.ref C') → InsT K C' ∧ PySem.W.notFirst K C (.ref C') = true) ∧ Binds K fd ps [] ∧ FnG P w K mg base k f fd ps (toSp ⟨K, mg, none⟩ sp)
def fOwn (c : Str) (Ts : List String) (Cs : List Str) (sp : DSp) : F2 := fun x y μ Q => isCls c x μ (othC Ts Cs y μ (sp [x, y] μ Q xF))
def fOwnN (c : Str) (Ts : List String) (Cs : List Str) (sp : DSp) : F2 := fun x y μ Q => isCls c x μ (othC Ts Cs y μ (sp [x, y] μ (fun d μ1 => fBool d fun b => Q (.bl (!b)) μ1) xF))
section
variable {X : Cx} {k j : Nat} {ps : List Str} {c nm : Str} {Ts : List String} {Cs : List Str} {sp : DSp}
/-! y in x by x's own `__contains__` -/
def fHas (c : Str) (sp : DSp) : F2 := fun y x μ Q => isCls c x μ (sp [x, y] μ (fun d μ1 => fBool d fun b => Q (.bl b) μ1) xF)
def fHasN (c : Str) (sp : DSp) : F2 := fun y x μ Q => isCls c x μ (sp [x, y] μ (fun d μ1 => fBool d fun b => Q (.bl (!b)) μ1) xF)
structure HasD (P : Program) (w : World) (K : PySem.W.Frag) (mg : Str → Option Value) (base : Heap) (k : Nat) (c : Str) (ps : List Str) (sp : DSp) : Prop where
  ex : ∃ C f fd, mg c = some (.ref C) ∧ CmpFn K C "__contains__" f ∧ Binds K fd ps [] ∧ FnG P w K mg base k f fd ps (toSp ⟨K, mg, none⟩ sp)
end
/-! from the head's facts -/
end DL

set_option Elab.async false
set_option linter.all false
set_option maxRecDepth 100000
set_option maxHeartbeats 4000000
set_option autoImplicit false
namespace DL
open PySem PySem.Spec PyProof.Rows L2
/-! ### y op x, y of a built-in type, by x's own `__rop__` -/
structure RfFn (K : PySem.W.Frag) (C : Addr) (op : Operator) (f : Addr) : Prop where
  first : PySem.W.selfFirst K C = true
  at_ : ∃ g : Addr, PySem.W.findIn K (.ref C) (PySem.dunder op.info.2) = some (some (.ref g))
  back : PySem.W.findIn K (.ref C) (PySem.dunderR op.info.2) = some (some (.ref f))
  fn : PySem.W.isFn K (.ref f) = true
/-- what of the built-in type: whether it has the operator itself (l) -/
structure RfTy (K : PySem.W.Frag) (C : Addr) (op : Operator) (T : String) (l : Bool) : Prop where
  ex : ∃ fo ro, PySem.W.findIn K (.type T) (PySem.dunder op.info.2) = some fo ∧ PySem.W.findIn K (.type T) (PySem.dunderR op.info.2) = some ro ∧ ((fo.isSome && !isSeqSlot fo) || (ro.isSome && !isSeqSlot ro)) = l
  sub : PySem.W.subIn K (.ref C) (.type T) = some false
section
open PySem.W
variable {prog : Program} {w : World} {A : Around} {E : Value → Shared → Prop} {s : Shared} {K : Frag} {x C g : Addr} {ox : Obj} {od : Option Obj} {T : String}
end
section
open PySem.W
variable {prog : Program} {w : World} {A : Around} {E : Value → Shared → Prop} {s : Shared}
end
/-- y op x by x's own reflected def -/
structure BackD (P : Program) (w : World) (K : PySem.W.Frag) (mg : Str → Option Value) (base : Heap) (k : Nat) (c : Str) (op : Operator) (T : String) (l : Bool) (ps : List Str) (sp : DSp) : Prop where
  ex : ∃ C f fd, mg c = some (.ref C) ∧ RfFn K C op f ∧ RfTy K C op T l ∧ Binds K fd ps [] ∧ FnG P w K mg base k f fd ps (toSp ⟨K, mg, none⟩ sp)
def isTy (T : String) (y : D) (μ : Mu) (Q : Prop) : Prop := match tyD y μ with
  | some (.b T') => T' = T ∧ Q
  | _ => False
def wBack (c : Str) (T : String) (sp : DSp) (wa wb : WE) : WE := fun ρ μ Q Xd => wa ρ μ (fun y μ1 => wb ρ μ1 (fun x μ2 => isTy T y μ2 (isCls c x μ2 (sp [x, y] μ2 Q Xd))) Xd) Xd
section
variable {W : WX} {X : Cx} {a b : Expr} {wa wb : WE} {pos : Pos} {k j : Nat} {ps : List Str} {c : Str} {sp : DSp} {T : String} {l : Bool}
end
end DL

set_option Elab.async false
set_option linter.all false
set_option maxRecDepth 100000
set_option maxHeartbeats 4000000
set_option autoImplicit false
namespace DL
open PySem PySem.Spec PyProof.Rows L2
/-! ### C.m(), m a staticmethod -/
structure StatD (P : Program) (w : World) (K : PySem.W.Frag) (mg : Str → Option Value) (base : Heap) (k : Nat) (c m : Str) (ps : List Str) (sp : DSp) : Prop where
  ex : ∃ C p g fd, mg c = some (.ref C) ∧ PySem.W.specialIn K (.ref C) "__getattribute__" = some (some (.builtin "type.__getattribute__")) ∧ PySem.W.typeIn K (.ref C) = some (.type "type") ∧ PySem.W.readsIn K C (.type "type") = true ∧
    PySem.W.findCls K (.ref C) (.type "type") m = some (.get (.builtin "staticmethod.__get__") (.ref p) .none (.ref C)) ∧ (∃ rest, PySem.W.recIn K p "staticmethod" = some (.ref g :: rest)) ∧ PySem.W.handedIn (.ref g) = true ∧ PySem.W.keepIn K (.ref g) = true ∧
    Binds K fd ps [] ∧ FnG P w K mg base k g fd ps (toSp ⟨K, mg, none⟩ sp)
def wStat (sp : DSp) : WE := fun _ μ Q Xd => sp [] μ Q Xd
section
variable {W : WX} {X : Cx} {o : Expr} {pos apos : Pos} {k j : Nat} {ps : List Str} {c m : Str} {sp : DSp}
end
/-! ### a list of the def's own -/
section
variable {ex : Option (Addr × Addr × Addr)} {W : WX} {X : Cx} {tg e : Expr} {es : List Expr} {wa : WE} {ws : WA} {pos p0 apos cpos : Pos} {i : Nat} {x : Str}
def appO (i : Nat) (wa : WA) (E : DEnds) (ρ : DS) (μ : Mu) (o : Option Sl) : Prop := match o with
  | some (.own p (.lst ds)) => wa ρ μ (fun xs μ1 => ds.length < 1000000 ∧ ∃ d, xs = [d] ∧ E.nx (ρ.set i (.own p (.lst (ds ++ [d])))) μ1) fun c ks es μ' => E.xc c ks es ρ μ'
  | _ => False
def sAppO (i : Nat) (wa : WA) : WS := fun E ρ μ => appO i wa E ρ μ (ρ[i]?)
/-- .. a list put behind it -/
def extO (i : Nat) (wa : WA) (E : DEnds) (ρ : DS) (μ : Mu) (o : Option Sl) : Prop := match o with
  | some (.own p (.lst ds)) => wa ρ μ (fun xs μ1 => ∃ zs, xs = [.lst zs] ∧ ds.length + zs.length ≤ 1000000 ∧ E.nx (ρ.set i (.own p (.lst (ds ++ zs)))) μ1) fun c ks es μ' => E.xc c ks es ρ μ'
  | _ => False
def sExtO (i : Nat) (wa : WA) : WS := fun E ρ μ => extO i wa E ρ μ (ρ[i]?)
theorem extO_of {wa : WA} {E : DEnds} {ρ : DS} {μ : Mu} {o : Option Sl} {i : Nat} (h : extO i wa E ρ μ o) : ∃ p ds, o = some (.own p (.lst ds)) ∧ wa ρ μ (fun xs μ1 => ∃ zs, xs = [.lst zs] ∧ ds.length + zs.length ≤ 1000000 ∧ E.nx (ρ.set i (.own p (.lst (ds ++ zs)))) μ1) fun c ks es μ' => E.xc c ks es ρ μ' := by
  unfold extO at h
  split at h
  · exact ⟨_, _, rfl, h⟩
  · exact h.elim
theorem le_line {n : Nat} (h : n ≤ 1000000) : n ≤ sizeLine := Nat.le_trans h (by decide)
theorem ds_extO (hN : X.N[i]? = some x) (ha : DA ex W X [e] ws) (hv : Vis X.env.scope x := by first | exact Or.inl rfl | exact Or.inr (Or.inl rfl) | exact Or.inr (Or.inr rfl)) (hd : (x == ("__debug__" : Str)) = false := by decide) (hcd : (x == ("__classdict__" : Str)) = false := by decide)
    (hbase : attributeBase (.Name x p0) "extend" X.env (eval (.Name x p0) X.env) = eval (.Name x p0) X.env := by rfl)
    (hfew : ((backTo cpos (starEach [e] X.env)).all (fun x => !x.1) && (backToKw cpos (keywordEach [] X.env)).all (fun x => x.1.isSome)
      && decide (([e] : List Expr).length + ([] : List Keyword).length + (if ([] : List Keyword).isEmpty then 0 else 1) < 30)) = true := by rfl)
    (hline : (apos.endLine == cpos.line) = true := by rfl) (hs : starEach [e] X.env = (false, eval e X.env) :: starEach [] X.env := by rfl) (hplain : (backTo cpos (starEach [] X.env)).any (·.1) = false := by rfl)
    (hsw : swapsWith (.Call (.Attribute (.Name x p0) "extend" apos) [e] [] cpos) none pos.line X.env = pure false := by rfl) :
    DSt ex W X (.Expr (.Call (.Attribute (.Name x p0) "extend" apos) [e] [] cpos) pos) (sExtO i ws) :=
  ps_weak (ps_expr (pe_bm PySem.F.plainAttrs_list PySem.F.slot_list_extend PySem.F.type_list_extend mt_extend (pe_var hN hv hd hcd) ha hbase hfew hline hs hplain) hsw) fun De σ H q => by
  obtain ⟨Z, m, ρ, μ, E, S, q, kn, kr, kb, kc, kx⟩ := q
  obtain ⟨p, ds, hi, q⟩ := extO_of q
  obtain ⟨hs, nz, vs0, hp0, rs0⟩ := S.own i p _ hi
  refine ⟨_, hs, .inl ⟨rfl, _, .inl (.inl hp0)⟩, Z, m, ρ, μ, _, _, S, q, fun xs H1 P => ?_, fun cls d H' P => kx cls d σ H' (XSPost.of S P)⟩
  obtain ⟨m1, es, μ1, s1, r1, zs, rfl, hl, q1⟩ := P
  obtain ⟨v, t, rfl, r3, r2⟩ := r1.uncons
  rw [Reps] at r2
  subst r2
  rw [Rep] at r3
  obtain ⟨b, us, rfl, hb, rz⟩ := r3
  have S1 := S.step s1
  obtain ⟨_, _, vs, hp, rs⟩ := S1.own i p _ hi
  refine ⟨p, b, vs, us, rfl, rfl, hp, vis_le _ _ hb, by rw [← rs.len, ← rz.len]; exact le_line hl, ?_⟩
  obtain ⟨S2, s2⟩ := S1.putOwn (o := .lst (vs ++ us)) (c' := .lst (ds ++ zs)) hi ⟨vs ++ us, upd_same, Reps.append rs rz⟩
  exact kn _ _ ⟨m1, _, μ1, S2, (SStep.of s1).trans s2, q1⟩
/-! read: len(x), x[j], e in x -/
def wOwnLen (i : Nat) : WE := fun ρ μ Q _ => ownL (ρ[i]?) fun ds => Q (.int ds.length) μ
def wOwnIx (i : Nat) (wb : WE) : WE := fun ρ μ Q Xd => ownL (ρ[i]?) fun ds => wb ρ μ (fun y μ1 => intOr y fun j => match atI ds j with
    | some d => Q d μ1
    | none => False) Xd
def ownIn (neg : Bool) (x : D) (ds : List D) (Q : Bool → Prop) : Prop := ∃ p qs, toP x = some p ∧ toPs ds = some qs ∧ SeqAt.shaped p = true ∧ SeqAt.shaped (.list qs) = true ∧ Q (neg ^^ qs.any fun z => PyData.eqv z p)
def wOwnIn (neg : Bool) (i : Nat) (wa : WE) : WE := fun ρ μ Q Xd => ownL (ρ[i]?) fun ds => wa ρ μ (fun x μ1 => ownIn neg x ds fun b => Q (.bl b) μ1) Xd
end
end DL

set_option Elab.async false
set_option linter.all false
set_option maxRecDepth 100000
set_option maxHeartbeats 4000000
set_option autoImplicit false
namespace DL
open PySem PySem.Spec PyProof.Rows L2
/-! ### a dict of the module whose keys are tuples of ints -/
def intsV : List Value → Option (List Int)
  | [] => some []
  | .int i _ :: r => (intsV r).map (i :: ·)
  | _ => none
def keyInts (K : PySem.W.Frag) (a : Addr) : Option (List Int) := match K.lookup a with
  | some ⟨.type "tuple", _, .seq its _, _⟩ => intsV its.toList
  | _ => none
def hashT (ks : List Int) : Int := reduceHash (Builtin.Tuple.tupleHashOf (ks.map hashInt))
def rdE (K : PySem.W.Frag) (e : DictEntry) : Option (List Int × Addr × Value) := match e.key with
  | .ref a => (keyInts K a).map fun ks => (ks, a, e.val)
  | _ => none
def rdAll (K : PySem.W.Frag) : List DictEntry → Option (List (List Int × Addr × Value))
  | [] => some []
  | e :: r => match rdE K e, rdAll K r with
    | some x, some xs => if e.hash = hashT x.1 then some (x :: xs) else none
    | _, _ => none
def intV : Value → Option Int
  | .int i _ => some i
  | _ => none
theorem intsV_is {prog : Program} {w : World} : ∀ {vs : List Value} {ks : List Int}, intsV vs = some ks → ItemsAre (intKind prog w) ks vs
  | [], ks, h => by cases h; exact .nil
  | v :: vs, ks, h => by
    cases v with
    | int i t =>
      obtain ⟨r, hr, rfl⟩ := Option.map_eq_some_iff.mp (show (intsV vs).map (i :: ·) = some ks from h)
      exact .cons (intKind_is prog w i t) (intsV_is hr)
    | _ => cases h
theorem keyInts_is {prog : Program} {w : World} {K : PySem.W.Frag} {h : Heap} {a : Addr} {ks : List Int} (X : K.In h) (e : keyInts K a = some ks) : IsTupleKey (intKind prog w) h ks a := by
  unfold keyInts at e
  split at e
  · rename_i dd its n sl e1
    exact ⟨_, its, n, X _ _ e1, rfl, rfl, intsV_is e⟩
  · cases e
theorem rdAll_is {K : PySem.W.Frag} : ∀ {es : List DictEntry} {xs : List (List Int × Addr × Value)}, rdAll K es = some xs → es = xs.map (fun x => ⟨hashT x.1, .ref x.2.1, x.2.2⟩) ∧ ∀ x ∈ xs, keyInts K x.2.1 = some x.1
  | [], xs, h => by cases h; exact ⟨rfl, fun x hx => by cases hx⟩
  | e :: es, xs, h => by
    rw [rdAll] at h
    split at h
    · rename_i x xs' h1 h2
      split at h
      · rename_i hh
        cases h
        obtain ⟨q1, q2⟩ := rdAll_is h2
        unfold rdE at h1
        split at h1
        · rename_i a ha
          obtain ⟨ks, hk, rfl⟩ := Option.map_eq_some_iff.mp h1
          obtain ⟨eh, ek, ev⟩ := e
          simp only at ha hh
          subst ha hh
          refine ⟨by rw [List.map_cons, ← q1], fun y hy => ?_⟩
          rcases List.mem_cons.mp hy with rfl | hy
          · exact hk
          · exact q2 y hy
        · cases h1
      · cases h
    · cases h
def kdB (K : PySem.W.Frag) (d : Addr) (L : List (List Int × Int)) : Bool := !(d == sysModules) && (match K.lookup d with
  | some ⟨.type "dict", none, .dict es _, sl⟩ => decide (sl.size = 0) && (match rdAll K es.toList with
    | some xs => decide ((xs.map (·.1)).Nodup) && decide (xs.map (fun x => (x.1, intV x.2.2)) = L.map fun p => (p.1, some p.2))
    | none => false)
  | _ => false)
def kdGet (L : List (List Int × Int)) (ks : List Int) : Option Int := (L.find? fun x => decide (x.1 = ks)).map (·.2)
theorem find_two {xs : List (List Int × Addr × Value)} {L : List (List Int × Int)} {ks : List Int} {v : Int} (e : xs.map (fun x => (x.1, intV x.2.2)) = L.map fun p => (p.1, some p.2)) (h : kdGet L ks = some v) :
    ∃ a t, atKey xs ks = some (a, .int v t) := by
  induction xs generalizing L with
  | nil =>
    cases L with
    | nil => cases h
    | cons p L => cases e
  | cons x xs ih =>
    cases L with
    | nil => cases e
    | cons p L =>
      rw [List.map_cons, List.map_cons] at e
      injection e with e1 e2
      have e3 : x.1 = p.1 := congrArg Prod.fst e1
      have e4 : intV x.2.2 = some p.2 := congrArg Prod.snd e1
      unfold kdGet at h
      unfold atKey
      rw [List.find?_cons] at h ⊢
      rw [e3]
      by_cases c : p.1 = ks
      · rw [decide_eq_true c] at h ⊢
        cases h
        obtain ⟨k, a, u⟩ := x
        cases u <;> first | (cases e4; done) | skip
        cases e4
        exact ⟨a, _, rfl⟩
      · rw [decide_eq_false c] at h ⊢
        exact ih e2 h
def rKd (K : PySem.W.Frag) (L : List (List Int × Int)) : R2 := fun x y H Q => ∃ d a ks v, x = .ref d ∧ y = .ref a ∧ kdB K d L = true ∧ SqT K H a (ks.map V.int) ∧ kdGet L ks = some v ∧ Q (.int v) H
theorem vals_ints {prog : Program} {w : World} : ∀ {ks : List Int} {us : List Value}, Vals (ks.map V.int) us → ItemsAre (intKind prog w) ks us
  | [], us, h => by cases h; exact .nil
  | k :: ks, us, h => by
    cases h with
    | cons r1 r2 =>
      obtain ⟨t, rfl⟩ := r1
      exact .cons (intKind_is prog w k t) (vals_ints r2)
theorem ix_kd {X : Cx} {L : List (List Int × Int)} (hu : X.A.units + 1 < cLine) : IxR X (rKd X.K L) := by
  intro value slice pins s σ H x y v u Q I rx ry h hs
  obtain ⟨d, a, ks, r, rfl, rfl, B, sq, g, q⟩ := h
  obtain rfl : v = Value.ref d := rx
  obtain rfl : u = Value.ref a := ry
  unfold kdB at B
  rw [Bool.and_eq_true_iff] at B
  obtain ⟨B0, B⟩ := B
  split at B
  · rename_i es ep sl hl
    rw [Bool.and_eq_true_iff] at B
    obtain ⟨B1, B⟩ := B
    split at B
    · rename_i xs hx
      rw [Bool.and_eq_true_iff] at B
      obtain ⟨B2, B3⟩ := B
      obtain ⟨q1, q2⟩ := rdAll_is hx
      obtain ⟨a', t, hp⟩ := find_two (of_decide_eq_true B3) g
      have hsl : sl = #[] := Array.eq_empty_of_size_eq_zero (of_decide_eq_true B1)
      subst hsl
      have hd : s.heap.DictOfH (tupleKind (intKind X.prog X.w)) d xs := ⟨_, es, ep, I.kIn _ _ hl, ⟨rfl, rfl, rfl⟩, rfl, q1, fun x hx' => keyInts_is I.kIn (q2 x hx'), of_decide_eq_true B2⟩
      obtain ⟨its, o, n, rv, h1, h2, h3⟩ := sqT_at I.hok I.kIn sq
      have hkey : IsTupleKey (intKind X.prog X.w) s.heap ks a := ⟨o, _, n, h1, h2, h3, vals_ints rv⟩
      exact tail_any hd.typeIs slot_dict_getitem.lookup (wpAny_getItem_heap (knd := tupleKind (intKind X.prog X.w)) hu hkey hd hp ⟨.int r, H, I.tok _, ⟨_, rfl⟩, q⟩) hs
    · cases B
  · cases B
def fKd (L : List (List Int × Int)) : F1 := fun y μ Q => tupOr y fun ds => ∃ ks, intsD ds = some ks ∧ ∃ v, kdGet L ks = some v ∧ Q (.int v) μ
section
variable {ex : Option (Addr × Addr × Addr)} {W : WX} {X : Cx} {b : Expr} {wb : WE} {pos p0 : Pos} {x : Str} {L : List (List Int × Int)} {d : Addr}
theorem de_kd (hu : X.A.units + 1 < cLine) (hg : Gl X x) (hm : X.mg x = some (.ref d)) (B : kdB X.K d L = true) (hb : DE ex W X b wb) (hs : PlainIx b := by exact fun _ _ => rfl) (hd : (x == ("__debug__" : Str)) = false := by decide) :
    DE ex W X (.Subscript (.Name x p0) b pos) (w1 (fKd L) wb) := pe_weak (pe_ix (ix_kd (L := L) hu) (pe_glob hg hm (v := .ref d) rfl hd) hb hs) fun σ H Q' q => by
  obtain ⟨Z, m, ρ, μ, Q, Xd, S, q, k, kx⟩ := q
  refine ⟨Z, m, ρ, μ, _, Xd, S, q, fun v H1 P => ?_, kx⟩
  obtain ⟨m1, y, μ1, s1, r1, q1⟩ := P
  obtain ⟨ds, rfl, ks, hk, r, hr, q2⟩ := tupOr_of q1
  rw [Rep] at r1
  obtain ⟨a, vs, rfl, sq, rs⟩ := r1
  have e := ints_rep rs hk
  subst e
  exact ⟨d, a, ks, r, rfl, rfl, B, SqT.same vis_le sq, hr, k _ _ (VPost.from s1 (.now s1.mu (by rw [Rep]) q2))⟩
end
/-! ### plain data of the module -/
end DL

set_option Elab.async false
set_option linter.all false
set_option maxRecDepth 100000
set_option maxHeartbeats 4000000
set_option autoImplicit false
namespace DL
open PySem PySem.Spec PyProof.Rows L2 RZ
/-! ### zip(a tuple, a list) -/
section
variable {prog : Program} {w : World} {A : Around} {E : Value → Shared → Prop} {s : Shared} {zz pT pO u v m n : Addr} {c1 c2 : Nat} {ps qs : Array Value} {p q a0 b0 : Value}
end
/-! made -/
abbrev mx1 (h : Heap) (m : Addr) : Heap := h.push { cls := .type "tuple_iterator", data := .fields #[.ref m, .int 0 0] }
abbrev mx2 (h : Heap) (m n : Addr) : Heap := (mx1 h m).push { cls := .type "list_iterator", data := .fields #[.ref n, .int 0 0] }
abbrev mx3 (h : Heap) (m n : Addr) : Heap := (mx2 h m n).push { cls := .type "tuple", data := .seq #[.ref h.objs.size, .ref (mx1 h m).objs.size] }
abbrev mx4 (h : Heap) (m n : Addr) : Heap := (mx3 h m n).push { cls := .type "tuple", data := .seq #[.none, .none] }
abbrev mx5 (h : Heap) (m n : Addr) : Heap := (mx4 h m n).push { cls := .type "zip", data := .fields #[.none, .bool false, .bool false, .ref (mx2 h m n).objs.size, .ref (mx3 h m n).objs.size] }
section
variable {prog : Program} {w : World} {A : Around} {E : Value → Shared → Prop} {s : Shared}
end
def zipX2 (ds : List D) (Q : List D → Prop) : Prop := match ds with
  | [a, b] => match a, b with
    | .tup xs, .tup ys => Q (zipD xs ys)
    | .lst xs, .lst ys => Q (zipD xs ys)
    | .frl xs, .lst ys => Q (zipD xs ys)
    | .lst xs, .frl ys => Q (zipD xs ys)
    | .tup xs, .lst ys => Q (zipD xs ys)
    | _, _ => False
  | _ => False
def wiZipX (wa : WA) : WI := fun ρ μ Q Xd => wa ρ μ (fun ds μ1 => zipX2 ds fun es => Q es μ1) Xd
end DL

set_option Elab.async false
set_option linter.all false
set_option maxRecDepth 100000
set_option maxHeartbeats 4000000
set_option autoImplicit false
namespace DL
open PySem PySem.Spec PyProof.Rows L2 RZ
/-! ### enumerate(a tuple) -/
section
variable {prog : Program} {w : World} {A : Around} {E : Value → Shared → Prop} {s : Shared} {en it m : Addr} {i : Nat} {ps : Array Value} {p old : Value}
abbrev en1 (h : Heap) (m : Addr) : Heap := h.push { cls := .type "tuple_iterator", data := .fields #[.ref m, .int 0 0] }
abbrev en2 (h : Heap) (m : Addr) : Heap := (en1 h m).push { cls := .type "enumerate", data := .fields #[.none, .bool false, .ref h.objs.size, rawInt 0, .none, .none] }
end
def enX (ds : List D) (Q : List D → Prop) : Prop := match ds with
  | [.lst es] => Q (enumD es)
  | [.frl es] => Q (enumD es)
  | [.tup es] => Q (enumD es)
  | _ => False
def wiEnumX (wa : WA) : WI := fun ρ μ Q Xd => wa ρ μ (fun ds μ1 => enX ds fun es => Q es μ1) Xd
end DL

set_option Elab.async false
set_option linter.all false
set_option maxRecDepth 100000
set_option maxHeartbeats 4000000
set_option autoImplicit false
namespace DL
open PySem PySem.Spec PyProof.Rows L2
/-! ### sum of a list or a tuple of ints -/
section
variable {prog : Program} {w : World} {A : Around} {E : Value → Shared → Prop} {s : Shared} {l : Addr}
end
def fSumX : FN := fun xs μ Q => match xs with
  | [.tup ds] => ∃ ns, intsD ds = some ns ∧ Q (.int ns.sum) μ
  | [x] => lstInts x fun ns => Q (.int ns.sum) μ
  | _ => False
end DL

set_option Elab.async false
set_option linter.all false
set_option maxRecDepth 100000
set_option maxHeartbeats 4000000
set_option autoImplicit false
namespace DL
open PySem PySem.Spec PyProof.Rows L2
/-! ### f(e) in an except suite: a def that gets the caught exception -/
abbrev XSp := Str → List Str → List D → Mu → (D → Mu → Prop) → Prop
def startX (N : List Str) (c : Str) (ks : List Str) (es : List D) : DS := (List.replicate N.length Sl.no).set 0 (.exn c ks es)
def toSpX (K : PySem.W.Frag) (mg : Str → Option Value) (a : Addr) (cls : Value) (d : Option Addr) (sp : XSp) (H : Hp) (Q : VK) : Prop :=
  ∃ (Z : Addr → Prop) (m : List Addr) (μ : Mu) (c : Str) (ks : List Str) (es : List D) (C dd : Addr) (vs : List V) (Qd : D → Mu → Prop), MuOk ⟨K, mg, none⟩ Z m μ H ∧ exOf a cls d = some (a, C, dd) ∧ mg c = some (.ref C) ∧ vis Z m H dd = some (.xd (ks.zip vs)) ∧ ks.length = es.length ∧
    Reps ⟨K, mg, none⟩ m (vis Z m H) es vs ∧ sp c ks es μ Qd ∧ ∀ v H', VPost ⟨K, mg, none⟩ Z m H Qd v H' → Q v H'
structure FnX (P : Program) (wd : World) (K : PySem.W.Frag) (mg : Str → Option Value) (bs : Heap) (k : Nat) (f : Addr) (fd : FuncData) (ps : List Str) (sp : XSp) : Prop where
  one : ps.length = 1
  run : ∀ (A : Around) (fr : List Env) (s : Shared) (H : Hp) (args : Args) (a : Addr) (oe : Obj) (cls : Value) (d : Option Addr) (Q : VK), L2H.RoomH k A → A.guards = some [] → A.handled = some (.ref a) → L2H.PinOk fr H s (a, oe) → Zc cls d oe → (∃ vs, oe.data = .fields vs) →
    Env0 P wd K mg bs A fr s H → BindsTo s fd args (ps.zip [.ref a]) → toSpX K mg a cls d sp H Q → codeAny (model P wd) A (.call (.ref f) args) (CR (L2.CX P wd) fr P wd H s Q (fun _ _ _ => False)) s
theorem mark_eq {A : Around} {v : Value} (h : A.handled = some v) (env : Env) : (A.deeper env).mark (some v) = A.deeper env := by
  cases A
  cases h
  rfl
theorem repl_own {Z : Addr → Prop} {σ : L2.St} {n : Nat} : ownW Z σ (List.replicate n Sl.no) = Z := by
  funext b
  apply propext
  constructor
  · rintro (h | ⟨i, e, h⟩)
    · exact h
    · rw [List.getElem?_replicate] at h
      split at h <;> cases h
  · exact .inl
theorem SR.blank {G : Gx} {Z : Addr → Prop} {m : List Addr} {H : Hp} {μ : Mu} {σ : L2.St} (M : MuOk G Z m μ H) : SR G Z m σ H (List.replicate σ.length Sl.no) μ := by
  have no : ∀ {i : Nat} {x : Sl}, (List.replicate σ.length Sl.no)[i]? = some x → x = .no := fun {i x} h => by
    rw [List.getElem?_replicate] at h
    split at h
    · exact (Option.some.inj h).symm
    · cases h
  refine ⟨by rw [List.length_replicate], by rw [repl_own]; exact M, fun i d e => ?_, fun i a c e => ?_, fun i j a c c' e _ => ?_, fun i c ks ds e => ?_⟩
  all_goals cases no e
theorem wp_around {α : Type} {M : Model} {A B : Around} {x : Sem α} {Q : α → Shared → Prop} {E : Value → Shared → Prop} {s : Shared} (e : A = B) (h : wpAny M A x Q E s) : wpAny M B x Q E s := e ▸ h
section
variable {P : Program} {w : World} {K : PySem.W.Frag} {mg : Str → Option Value} {base : Heap}
theorem def_okX {x qual : Str} {params : Arguments} {body : List Stmt} {scope : Scope} {dvs : List V} {kws : List (Str × V)} {f : Addr} {fd : FuncData} {N ps : List Str} {k : Nat} {wb : WS} (F : FunD K x qual params body scope dvs kws f fd) (S : FnScope N ps scope) (h1 : ps.length = 1)
    (hbody : ∀ (cdv : Value) (A : Around) (fr : List Env) (s : Shared) (H : Hp) (E : XK) (a : Addr) (oe : Obj) (cls : Value) (d : Option Addr), L2H.RoomH k (A.deeper (envOfC qual scope s.heap.objs.size f cdv)) → (A.deeper (envOfC qual scope s.heap.objs.size f cdv)).guards = some [] → Zc cls d oe → (∃ vs, oe.data = .fields vs) →
      DSs (exOf a cls d) WF ((cxOf (L2.CX P w) P w K mg base N qual scope f cdv A fr s H E).suite a [(a, oe)]) body wb) : FnX P w K mg base (k + 1) f fd ps (fun c ks es μ Q => wb (defE Q fun _ _ _ _ => False) (startX N c ks es) μ) := by
  obtain ⟨oc, od, dV, kV, doc, pm, an, cdv, ct, osl, rfl, lk, hcd, _, _⟩ := F.ex
  refine ⟨h1, fun A fr s H args a oe cls d Q room gd hh pin hz hf env bd hsp => ?_⟩
  have kin : K.In s.heap := env.mod.kin.keeps fun b o e => (env.bs b o e).1
  have nolim : s.heap.NoLimit := env.mod.nolimit.keeps fun b o e => (env.bs b o e).1
  have rv : Vals [V.ref a] [Value.ref a] := .cons rfl .nil
  have kinds : ∀ y ∈ ps.zip [Value.ref a], scope.names.lookup y.1 = some .local ∨ (scope.names.lookup y.1 = some .cell ∧ ((cellsFrom (s.heap.objs.size + 1) scope.names []).lookup y.1).isSome = true) := by
    rintro ⟨n, v⟩ hy
    exact (S.par n (List.of_mem_zip hy).1).elim .inl fun q => .inr ⟨q, PySem.W.cellsFrom_some _ _ _ (.inl q)⟩
  refine codeAny_call_function room.depth (kin _ _ lk) rfl S.co S.gen rfl (PySem.W.codeRec_of kin hcd) (bd _ _ _ _ ?_)
  refine wpAny_newFunctionEnv_cells S.kind kinds fun env1 he1 s1 made => ?_
  subst he1
  refine ⟨nolim.keeps made.toInCall.keep, codeAny_func ?_⟩
  have I0 := L2H.inv_startH (CX := L2.CX P w) (E := fun _ _ _ => False) S pin env (show [V.ref a].length = ps.length by rw [h1]; rfl) rv made
  have B := hbody cdv A fr s H (fun _ _ _ => False) a oe cls d (room.deeper _) gd hz hf
  have eA := mark_eq hh (envOfC qual scope s.heap.objs.size f cdv)
  have I : Inv ((cxOf (L2.CX P w) P w K mg base N qual scope f cdv A fr s H (fun _ _ _ => False)).suite a [(a, oe)]) [] (L2.start N [V.ref a]) H s1 := by
    have ok := I0.ok
    exact ⟨⟨ok.mod, ok.kind, ok.glob, ok.blt, ok.above, ok.inj, ok.has, ok.cab, (fun z => absurd (show false = true from z) Bool.false_ne_true), ok.frames, ok.stk, ok.exf, ok.bs, ok.bsz, ok.noex, ok.exfs, ok.funs, ok.frf⟩,
      I0.os, I0.bare, I0.base, I0.loc, I0.cell, I0.free, I0.freeC, I0.pin, I0.hok, I0.len⟩
  obtain ⟨Z, m, μ, c, ks, es, C, dd, vs, Qd, M, hx, hC, hdd, hl, rs, q, kq⟩ := hsp
  have hlen : (L2.start N [V.ref a]).length = N.length := I.len
  have hN0 : 0 < N.length := by
    have hpl : ps.length ≤ N.length := by have := congrArg List.length S.pre; rw [List.length_take] at this; omega
    omega
  have S0 : SR ⟨K, mg, some (a, C, dd)⟩ Z m (L2.start N [V.ref a]) H (List.replicate (L2.start N [V.ref a]).length Sl.no) μ := SR.blank M.ex
  obtain ⟨S1, s1'⟩ := S0.setX (i := 0) (x := .exn c ks es) (o := some (.ref a)) (fun _ _ z => nomatch z) (fun _ z => nomatch z) (fun c2 ks2 ds2 e => by
    cases e
    rw [repl_own]
    exact ⟨a, C, dd, vs, rfl, hC, rfl, hdd, hl, Reps.ex _ _ rs⟩)
  have eσ : (L2.start N [V.ref a]).set 0 (some (.ref a)) = L2.start N [V.ref a] := by
    unfold L2.start
    rfl
  rw [eσ] at S1 s1'
  rw [hlen] at S1 s1'
  have hq : liftS ⟨K, mg, exOf a cls d⟩ WF wb { nx := fun _ H' => Q .non H', rt := Q } (L2.start N [V.ref a]) H := by
    rw [hx]
    refine ⟨Z, m, startX N c ks es, μ, defE Qd fun _ _ _ _ => False, S1, q, fun σ' H' P => ?_, fun v H' P => ?_, fun σ' H' P => ?_, fun σ' H' P => ?_, fun cls d σ' H' P => ?_⟩
    · obtain ⟨m', ρ', μ', S', s', q'⟩ := P
      have z := s1'.same.trans s'.same
      rw [repl_own] at z
      exact kq _ _ ⟨m', .non, μ', ⟨s'.pre, s'.hid, S'.mu.out_own.ex, z.trans vis_own⟩, by rw [Rep], q'⟩
    · obtain ⟨m', d, μ', h1, h2, h3, h4, h5, h6⟩ := P
      have z := s1'.same.trans h4
      rw [repl_own] at z
      exact kq _ _ ⟨m', d, μ', ⟨h1, h2, h3.ex, z⟩, Rep.ex _ _ h5, h6⟩
    · obtain ⟨m', ρ', μ', S', s', q'⟩ := P
      exact q'.elim
    · obtain ⟨m', ρ', μ', S', s', q'⟩ := P
      exact q'.elim
    · obtain ⟨_, _, _, _, _, _, _, _, _, _, _, _, _, _, _, _, _, z⟩ := P
      exact z.elim
  have R := B.run [] s1 (L2.start N [V.ref a]) H _ I hq
  refine wp_around eA (wpAny_mono R (fun fl s2 hs => ?_) fun er s2 hs => False.elim hs)
  match fl, hs with
  | .ret u, ⟨v, σ2, H2, J, rv2, q⟩ => exact ⟨v, H2, J.os, J.bare, J.base, J.hok, rv2, q⟩
  | .next, ⟨σ2, H2, J, q⟩ => exact ⟨V.non, H2, J.os, J.bare, J.base, J.hok, rfl, q⟩
  | .brk, ⟨_, _, _, q⟩ => exact q.elim
  | .cont, ⟨_, _, _, q⟩ => exact q.elim
structure HotD (P : Program) (w : World) (K : PySem.W.Frag) (mg : Str → Option Value) (base : Heap) (k : Nat) (x : Str) (ps : List Str) (sp : XSp) : Prop where
  ex : ∃ f fd, mg x = some (.ref f) ∧ PySem.W.keepIn K (.ref f) = true ∧ Binds K fd ps [] ∧ FnX P w K mg base k f fd ps sp
end
def wHotX (sp : XSp) (i : Nat) : WE := fun ρ μ Q _ => KExn (ρ[i]?) fun c ks es => sp c ks es μ Q
theorem room64H {k : Nat} {A : Around} (h : L2H.RoomH k A) : A.units + 64 < cLine := by have := h.un; omega
section
variable {X : Cx} {a : Addr} {oe : Obj} {cls : Value} {d : Option Addr} {pn : List (Addr × Obj)} {pos p1 p2 : Pos} {x y : Str} {i j k : Nat} {ps : List Str} {sp : XSp}
theorem de_hotX (C : HotD X.prog X.w X.K X.mg X.base k y ps sp) (hr : Room j X.A) (hkj : k ≤ j) (hgd : X.A.guards = some []) (hz : Zc cls d oe) (hf : ∃ vs, oe.data = .fields vs) (hg : Gl X y) (hN : X.N[i]? = some x)
    (hv : Vis X.env.scope x := by first | exact Or.inl rfl | exact Or.inr (Or.inl rfl) | exact Or.inr (Or.inr rfl)) (hd : (x == ("__debug__" : Str)) = false := by decide) (hcd : (x == ("__classdict__" : Str)) = false := by decide) (hdb : (y == ("__debug__" : Str)) = false := by decide)
    (he : starEach [Expr.Name x p2] X.env = (false, eval (.Name x p2) X.env) :: starEach [] X.env := by rfl) (hpl : (backTo pos (starEach [] X.env)).any (·.1) = false := by rfl) :
    DE (exOf a cls d) WF (X.suite a ((a, oe) :: pn)) (.Call (.Name y p1) [.Name x p2] [] pos) (wHotX sp i) := by
  obtain ⟨f, fd, hm, hk, hb, F⟩ := C.ex
  have A1 : PA (X.suite a ((a, oe) :: pn)) [.Name x p2] (tCons (tVar i) tNil) := pa_cons (pe_var (X := X.suite a ((a, oe) :: pn)) hN hv hd hcd) pa_nil
  refine ⟨fun pins s σ H Q' I q => ?_⟩
  obtain ⟨Z, m, ρ, μ, Q, Xd, S, q, kq, kx⟩ := q
  obtain ⟨c, ks, es, e, q⟩ := KExn_of q
  obtain ⟨a', C, dd, vs, h1, h2, h3, h4, h5, h6⟩ := S.exn i c ks es e
  obtain ⟨rfl, rfl, rfl⟩ := exOf_some h1
  have hsp : toSpX X.K X.mg a' (.ref C) (some dd) sp H Q' := ⟨ownW Z σ ρ, m, μ, c, ks, es, C, dd, vs, Q, S.mu.ex, rfl, h2, h4, h5, Reps.ex _ _ h6, q, fun v H' P => by
    obtain ⟨m', dv, μ', s', r', q'⟩ := P
    exact kq v H' ⟨m', dv, μ', ⟨s'.pre, s'.hid, s'.mu.ex, s'.same⟩, Rep.ex _ _ r', q'⟩⟩
  refine wpAny_Call_Name_kw (ld_glob (X := X.suite a' ((a', oe) :: pn)) I hg hm ?_ hdb)
  refine PySem.W.callWith_K (h₀ := X.base) I.ok.mod.kin hk (thn (A1.run pos pins s σ H (fun us H1 => us = [.ref a'] ∧ H1 = H) I ⟨_, h3, rfl, rfl⟩) fun us s1 ⟨us', H1, I1, rv, e1, e2⟩ => ⟨I1.kIn, ?_⟩) he hpl
  subst e1 e2
  obtain ⟨u, rfl, ru⟩ := rv.one
  cases ru
  have bd := hb s1 [.ref a'] I1.kIn (by rw [F.one]; rfl)
  rw [List.append_nil] at bd
  have P1 := I1.pin (a', oe) (List.mem_append_left _ List.mem_cons_self)
  have hpin : L2H.PinOk X.stack H1 s1 (a', oe) := ⟨P1.1, P1.2.1, fun hm => (List.mem_cons.mp (I1.stkSub a' hm)).elim P1.2.2.1 P1.2.2.2.1, P1.2.2.2.2⟩
  have R := F.run (X.A.mark (some (.ref a'))) X.stack s1 H1 ⟨[.ref a'], []⟩ a' oe (.ref C) (some dd) Q' (⟨by have := (hr.mono hkj).dp; exact this, by have := (hr.mono hkj).un; exact this⟩) hgd rfl hpin hz hf I1.env0 bd hsp
  refine wpAny_call (codeAny_mono R fun r s' hq => ?_)
  match r, hq with
  | .error er, hq =>
    obtain ⟨_, _, _, _, _, _, _, _, _, _, _, _, z⟩ := hq
    exact z.elim
  | .ok (.ret u), hq => exact I1.after hq
end
end DL

set_option Elab.async false
set_option linter.all false
set_option maxRecDepth 100000
set_option maxHeartbeats 4000000
set_option autoImplicit false
namespace DL
open PySem PySem.Spec PyProof.Rows L2
/-! ### xs.index(x), xs.count(x) of data; xs[::-1] -/
def rCountD (K : PySem.W.Frag) : V → List V → Hp → VK → Prop := fun x xs H Q => ∃ (a : Addr) (y : V) (d : PyData) (ds : List PyData), x = V.ref a ∧ xs = [y] ∧ Dp K H (V.ref a) (.list ds) ∧ Dp K H y d ∧
  SeqAt.shaped (.list ds) = true ∧ SeqAt.shaped d = true ∧ Q (.int ((ds.countP fun z => PyData.eqv z d : Nat))) H
theorem mt_countD {X : Cx} (hu : X.A.units + 65 < cLine) : MtR X "list.count" (rCountD X.K) := by
  intro pins s σ H x xs v us Q I rx rxs h
  obtain ⟨a, y, d, ds, rfl, rfl, hl, hy, sl, sd, q⟩ := h
  cases rx
  cases rxs with
  | cons ry rt =>
    rename_i uy ut
    cases rt
    obtain ⟨bs, r1⟩ := Dp.reads I d y uy hy ry
    have hxs : PyData.canLayAll0 ds = true := SeqAt.canLay_of_shaped sl
    have hroom : X.A.units + 1 + min (PyData.depthAll ds) d.depth < cLine := room_in_shaped sd hu
    cases hl with
    | lst hs ha =>
      obtain ⟨its, rv, ⟨⟨cls, dd, data, sls⟩, n, ho, hc, hdn, hdt⟩, hlen⟩ := I.list hs
      simp only at hc hdt
      subst hc hdt
      obtain ⟨as, h4⟩ := Dp.readsAll I ds _ its ha rv
      have hmap : its.map (SeqAt.readOf s.heap) = ds := SeqAt.readsAll_map ds its as hxs h4
      refine call_meets PySem.F.slot_list_count ⟨_, ho, rfl⟩ PySem.F.entry_list_count (PySem.F.args_list_count_2 _ _)
        (SeqAt.list_countAt a its.toArray n dd sls uy (fun u => PyData.eqv (SeqAt.readOf s.heap u) d)) ⟨ho, SeqAt.items_eqAt (vs := its.toArray) (show ReadsAll s.heap its.toArray.toList ds as from h4) r1 hxs (SeqAt.canLay_of_shaped sd) hroom, ?_⟩
      have ec : its.toArray.toList.countP (fun u => PyData.eqv (SeqAt.readOf s.heap u) d) = ds.countP fun z => PyData.eqv z d := by
        rw [← hmap, List.countP_map]
        rfl
      refine ⟨.int (ds.countP fun z => PyData.eqv z d : Nat), H, I.tok _, ⟨s.toks, ?_⟩, q⟩
      rw [ec]
def isL (x : D) (k : Prop) : Prop := match x with
  | .lst _ => k
  | .frl _ => k
  | _ => False
theorem isL_of {x : D} {k : Prop} (h : isL x k) : (∃ ds, x = .lst ds ∨ x = .frl ds) ∧ k := by
  unfold isL at h
  split at h
  · exact ⟨⟨_, .inl rfl⟩, h⟩
  · exact ⟨⟨_, .inr rfl⟩, h⟩
  · exact h.elim
def wMb (f : F2) (wo wa : WE) : WE := fun ρ μ Q Xd => wo ρ μ (fun x μ1 => isL x (wa ρ μ1 (fun y μ2 => f x y μ2 Q) Xd)) Xd
def fIdx : F2 := fun x y μ Q => ∃ p qs, toP y = some p ∧ toP x = some (.list qs) ∧ SeqAt.shaped p = true ∧ SeqAt.shaped (.list qs) = true ∧ ∃ (j : Nat) (z : PyData), qs[j]? = some z ∧ PyData.eqv z p = true ∧ (∀ (m : Nat) (z' : PyData), m < j → qs[m]? = some z' → PyData.eqv z' p = false) ∧ Q (.int (j : Nat)) μ
def fCnt : F2 := fun x y μ Q => ∃ p qs, toP y = some p ∧ toP x = some (.list qs) ∧ SeqAt.shaped p = true ∧ SeqAt.shaped (.list qs) = true ∧ Q (.int ((qs.countP fun z => PyData.eqv z p : Nat))) μ
theorem dp_ref {K : PySem.W.Frag} {H : Hp} {u : V} {qs : List PyData} (h : Dp K H u (.list qs)) : ∃ a, u = .ref a := by
  cases h with
  | lst s1 s2 => exact ⟨_, rfl⟩
theorem s2_idx {G : Gx} : S2 G (fun x y H Q => rIndexD G.K x [y] H Q) fIdx := by
  intro Z m μ H x y u v Q Q' M rx ry h k
  obtain ⟨p, qs, e1, e2, s1, s2, j, z, h1, h2, h3, h⟩ := h
  have d := dp_of vis_le _ _ _ rx e2
  obtain ⟨a, rfl⟩ := dp_ref d
  exact ⟨a, v, p, qs, j, z, rfl, rfl, d, dp_of vis_le _ _ _ ry e1, s2, s1, h1, h2, h3, k _ _ (.now M (by rw [Rep]) h)⟩
theorem s2_cnt {G : Gx} : S2 G (fun x y H Q => rCountD G.K x [y] H Q) fCnt := by
  intro Z m μ H x y u v Q Q' M rx ry h k
  obtain ⟨p, qs, e1, e2, s1, s2, h⟩ := h
  have d := dp_of vis_le _ _ _ rx e2
  obtain ⟨a, rfl⟩ := dp_ref d
  exact ⟨a, v, p, qs, rfl, rfl, d, dp_of vis_le _ _ _ ry e1, s2, s1, k _ _ (.now M (by rw [Rep]) h)⟩
section
variable {ex : Option (Addr × Addr × Addr)} {W : WX} {X : Cx} {e o : Expr} {wa wo : WE} {pos apos : Pos} {id : String} {name : Str} {r : V → List V → Hp → VK → Prop} {f : F2}
theorem de_mb (slot : Slot "list" name id) (hty : typeOf (.builtin id) = pure (.type "method_descriptor")) (hm : MtR X id r) (hf : S2 (gx X ex) (fun x y H Q => r x [y] H Q) f) (ho : DE ex W X o wo) (ha : DE ex W X e wa)
    (hbase : attributeBase o name X.env (eval o X.env) = eval o X.env := by rfl)
    (hfew : ((backTo pos (starEach [e] X.env)).all (fun x => !x.1) && (backToKw pos (keywordEach [] X.env)).all (fun x => x.1.isSome)
      && decide (([e] : List Expr).length + ([] : List Keyword).length + (if ([] : List Keyword).isEmpty then 0 else 1) < 30)) = true := by rfl)
    (hline : (apos.endLine == pos.line) = true := by rfl) (hs : starEach [e] X.env = (false, eval e X.env) :: starEach [] X.env := by rfl) (hplain : (backTo pos (starEach [] X.env)).any (·.1) = false := by rfl) :
    DE ex W X (.Call (.Attribute o name apos) [e] [] pos) (wMb f wo wa) :=
  pe_weak (pe_bm PySem.F.plainAttrs_list slot hty hm ho (pa_cons ha pa_nil hs) hbase hfew hline hs hplain) fun σ H Q' q => by
  refine lift_bind (f := fun x ρ μ1 Q Xd => isL x (wa ρ μ1 (fun y μ2 => f x y μ2 Q) Xd)) q fun Z m ρ μ Q Xd x v H1 S r1 q1 k kx => ?_
  obtain ⟨⟨ds, hd⟩, q2⟩ := isL_of q1
  obtain ⟨a, vs, rfl, sq, rs⟩ := lst_rep' hd r1
  refine ⟨.inl ⟨rfl, vs, SqL.same' vis_le sq⟩, Z, m, ρ, μ, _, Xd, S, q2, fun u H2 P => ?_, kx⟩
  obtain ⟨m2, y, μ2, s2, r2, q3⟩ := P
  exact hf _ m2 μ2 H2 x y (.ref a) u Q Q' s2.mu (Rep.mono s2.pre s2.same _ _ r1) r2 q3 fun z H' P => k z H' (VPost.from s2 P)
theorem de_idx (hu : X.A.units + 65 < cLine) (ho : DE ex W X o wo) (ha : DE ex W X e wa)
    (hbase : attributeBase o "index" X.env (eval o X.env) = eval o X.env := by rfl)
    (hfew : ((backTo pos (starEach [e] X.env)).all (fun x => !x.1) && (backToKw pos (keywordEach [] X.env)).all (fun x => x.1.isSome)
      && decide (([e] : List Expr).length + ([] : List Keyword).length + (if ([] : List Keyword).isEmpty then 0 else 1) < 30)) = true := by rfl)
    (hline : (apos.endLine == pos.line) = true := by rfl) (hs : starEach [e] X.env = (false, eval e X.env) :: starEach [] X.env := by rfl) (hplain : (backTo pos (starEach [] X.env)).any (·.1) = false := by rfl) :
    DE ex W X (.Call (.Attribute o "index" apos) [e] [] pos) (wMb fIdx wo wa) := de_mb PySem.F.slot_list_index PySem.F.type_list_index (mt_indexD hu) s2_idx ho ha hbase hfew hline hs hplain
theorem de_cnt (hu : X.A.units + 65 < cLine) (ho : DE ex W X o wo) (ha : DE ex W X e wa)
    (hbase : attributeBase o "count" X.env (eval o X.env) = eval o X.env := by rfl)
    (hfew : ((backTo pos (starEach [e] X.env)).all (fun x => !x.1) && (backToKw pos (keywordEach [] X.env)).all (fun x => x.1.isSome)
      && decide (([e] : List Expr).length + ([] : List Keyword).length + (if ([] : List Keyword).isEmpty then 0 else 1) < 30)) = true := by rfl)
    (hline : (apos.endLine == pos.line) = true := by rfl) (hs : starEach [e] X.env = (false, eval e X.env) :: starEach [] X.env := by rfl) (hplain : (backTo pos (starEach [] X.env)).any (·.1) = false := by rfl) :
    DE ex W X (.Call (.Attribute o "count" apos) [e] [] pos) (wMb fCnt wo wa) := de_mb PySem.F.slot_list_count PySem.F.type_list_count (mt_countD hu) s2_cnt ho ha hbase hfew hline hs hplain
/-! xs[::-1] -/
def fRev : F1 := fun x μ Q => lstOr x fun ds => Q (.lst ds.reverse) μ
end
end DL

set_option Elab.async false
set_option linter.all false
set_option maxRecDepth 100000
set_option maxHeartbeats 4000000
set_option autoImplicit false
namespace DL
open PySem PySem.Spec PyProof.Rows L2
/-! ### ==, != of lists whose items have an own `__eq__`, all alike -/
section
variable {prog : Program} {w : World} {A : Around} {R : Result → Shared → Prop}
end
def prsO (c : Str) (sp : DSp) (μ : Mu) (ds es : List D) : Prop := ds.length = es.length ∧ ∀ (i : Nat) d e, ds[i]? = some d → es[i]? = some e → isCls c d μ (isCls c e μ (sp [d, e] μ (fun r μ' => r = .bl true ∧ μ' = μ) xF))
section
variable {X : Cx} {k j : Nat} {ps : List Str} {c : Str} {Ts : List String} {Cs : List Str} {sp : DSp} {r : Bool}
end
end DL

set_option Elab.async false
set_option linter.all false
set_option maxRecDepth 100000
set_option maxHeartbeats 4000000
set_option autoImplicit false
namespace DL
open PySem PySem.Spec PyProof.Rows L2
/-! ### o.m(..) where o is of one of two classes, each with its own m -/
def wMethU (c1 c2 m : Str) (sp1 sp2 : DSp) (wo : WE) (wa : WA) : WE := fun ρ μ Q Xd => wo ρ μ (fun x μ1 => hasCls c1 m x μ1 (wa ρ μ1 (fun ds μ2 => sp1 (x :: ds) μ2 Q Xd) Xd) ∨ hasCls c2 m x μ1 (wa ρ μ1 (fun ds μ2 => sp2 (x :: ds) μ2 Q Xd) Xd)) Xd
section
variable {W : WX} {X : Cx} {e o : Expr} {es : List Expr} {wo : WE} {ws : WA} {pos p apos : Pos} {k1 k2 j : Nat} {ps1 ps2 : List Str} {c1 c2 m : Str} {sp1 sp2 : DSp}
end
end DL

set_option Elab.async false
set_option linter.all false
set_option maxRecDepth 100000
set_option maxHeartbeats 4000000
set_option autoImplicit false
namespace DL
open PySem PySem.Spec PyProof.Rows L2
/-! ### own special methods, of one class or of several with one def: o[i], ~o, o(x), len(o) -/
structure SpcD (P : Program) (w : World) (K : PySem.W.Frag) (mg : Str → Option Value) (base : Heap) (k : Nat) (cs : List Str) (nm : Str) (ps : List Str) (sp : DSp) : Prop where
  ex : ∃ f fd, PySem.W.isFn K (.ref f) = true ∧ PySem.W.fnIn K f = true ∧ (∀ c ∈ cs, ∃ C, mg c = some (.ref C) ∧ PySem.W.findIn K (.ref C) nm = some (some (.ref f)) ∧ PySem.W.noSeq K C = true) ∧ Binds K fd ps [] ∧ FnG P w K mg base k f fd ps (toSp ⟨K, mg, none⟩ sp)
def isClsU (cs : List Str) (d : D) (μ : Mu) (Q : Prop) : Prop := match insD d μ with
  | some (c', _, _) => c' ∈ cs ∧ Q
  | none => False
section
variable {W : WX} {X : Cx} {k : Nat} {f : Addr} {fd : FuncData} {ps : List Str} {sp0 : Sp}
end
section
variable {W : WX} {X : Cx} {k : Nat} {f : Addr} {fd : FuncData} {ps : List Str} {sp0 : Sp}
end
section
variable {W : WX} {X : Cx} {a b : Expr} {wa wb : WE} {ws : WA} {pos p apos : Pos} {k j : Nat} {ps cs : List Str} {nm : Str} {sp : DSp}
/-- o[i] -/
def wIxO (cs : List Str) (sp : DSp) (wa wb : WE) : WE := fun ρ μ Q Xd => wa ρ μ (fun x μ1 => wb ρ μ1 (fun i μ2 => isClsU cs x μ2 (sp [x, i] μ2 Q Xd)) Xd) Xd
/-- ~o -/
def wInv (cs : List Str) (sp : DSp) (wa : WE) : WE := fun ρ μ Q Xd => wa ρ μ (fun x μ1 => isClsU cs x μ1 (sp [x] μ1 Q Xd)) Xd
/-- o(x, ..) -/
def wCallO (cs : List Str) (sp : DSp) (wo : WE) (wa : WA) : WE := fun ρ μ Q Xd => wo ρ μ (fun x μ1 => isClsU cs x μ1 (wa ρ μ1 (fun ds μ2 => isClsU cs x μ2 (sp (x :: ds) μ2 Q Xd)) Xd)) Xd
/-- len(o) -/
def fLenO (cs : List Str) (sp : DSp) : FN := fun xs μ Q => match xs with
  | [x] => isClsU cs x μ (sp [x] μ (fun d μ1 => match d with
    | .int n => 0 ≤ n ∧ n < 2 ^ 62 ∧ Q (.int n) μ1
    | _ => False) xF)
  | _ => False
end
/-! from the head's facts -/
end DL

set_option Elab.async false
set_option linter.all false
set_option maxRecDepth 100000
set_option maxHeartbeats 4000000
set_option autoImplicit false
namespace DL
open PySem PySem.Spec PyProof.Rows L2
/-! ### a comprehension's list, kept as the def's own -/
noncomputable def without (H : Hp) (D : Addr) : Hp := fun b => open Classical in if b = D then none else H b
def sSetLcO (i : Nat) (w : WE) : WS := fun E ρ μ => w ρ μ (fun d μ1 => ∃ acc, d = .lst acc ∧ i < ρ.length ∧ ∀ p, E.nx (ρ.set i (.own p (.lst acc))) μ1) fun c ks es μ' => E.xc c ks es ρ μ'
section
variable {W : WX} {X : Cx} {elt tg iter : Expr} {ifs : List Expr} {scope : Scope} {own : List (Str × Nat)} {pos : Pos} {wi : WI} {g : TG} {k : WG} {tt : WT} {te : WE}
end
end DL

set_option Elab.async false
set_option linter.all false
set_option maxRecDepth 100000
set_option maxHeartbeats 2000000
/-! The Hook over a written list of addresses (no search of the heap in the kernel's run). -/
namespace DL
open PySem PySem.Spec PyProof.Rows L2
def obsL (as : List Addr) (fa : List He.Fa) (fn : List He5.DefA) (ex : PySem.W.Frag → Bool) (g : Addr → Option Obj) : AlY := (He5.obsA fa fn (He.frG g as), ex (He.frG g as))
def hookL (as : List Addr) (fa : List He.Fa) (fn : List He5.DefA) (ex : PySem.W.Frag → Bool) : PySem.W.Hook where
  α := AlY
  obs := fun s => obsL as fa fn ex s.heap.get?
  val := fun _ => (He5.valA fn, true)
  says := fun _ h => ∃ K : PySem.W.Frag, K.In h ∧ SaysY fa fn ex K
  of := fun _ _ e => ⟨_, He.frG_in, congrArg (fun z : AlY => z.1) e, congrArg (fun z : AlY => z.2) e⟩
  keeps := fun _ _ _ hx k => let ⟨K, hK, c⟩ := hx; ⟨K, PySem.W.Frag.In.keeps hK k, c⟩
theorem obsL_eq {as : List Addr} {fa : List He.Fa} {fn : List He5.DefA} {ex : PySem.W.Frag → Bool} {g : Addr → Option Obj} {s : Shared} (h : ∀ a, g a = s.heap.get? a) : obsL as fa fn ex g = (hookL as fa fn ex).obs s := by
  have e : g = s.heap.get? := funext h
  rw [e] <;> rfl
end DL

set_option Elab.async false
set_option linter.all false
set_option maxRecDepth 100000
set_option maxHeartbeats 2000000
/-! A comprehension in a suite (an exception is held). -/
namespace DL
open PySem PySem.Spec PyProof.Rows L2
section
variable {ex : Option (Addr × Addr × Addr)} {W : WX} {X : Cx} {elt tg iter : Expr} {ifs : List Expr} {scope : Scope} {own : List (Str × Nat)} {pos : Pos} {wi : WI} {g : TG} {k : WG} {tt : WT} {te : WE}
abbrev DTsX (ex : Option (Addr × Addr × Addr)) (X : Cx) (ifs : List Expr) (w : WT) : Prop := PTs X ifs (liftT (gx X ex) WF w)
end
end DL

set_option Elab.async false
set_option linter.all false
set_option maxRecDepth 100000
set_option maxHeartbeats 2000000
/-! A store into a list of the def's own: x[i] = v. -/
namespace DL
open PySem PySem.Spec PyProof.Rows L2
section
variable {X : Cx} {ix : Expr} {wi : WE} {pos p0 : Pos} {i : Nat} {x : Str}
def stO (i : Nat) (p : Addr) (ds : List D) (y d : D) (ρ : DS) (k : DS → Prop) : Prop := match y with
  | .int j => match ixN ds.length j with
    | some z => k (ρ.set i (.own p (.lst (ds.set z d))))
    | none => False
  | _ => False
def subO (i : Nat) (wi : WE) (d : D) (ρ : DS) (μ : Mu) (Q : DS → Mu → Prop) (o : Option Sl) : Prop := match o with
  | some (.own p (.lst ds)) => wi ρ μ (fun y μ2 => stO i p ds y d ρ fun ρ' => Q ρ' μ2) xF
  | _ => False
def kSubO (i : Nat) (wi : WE) : WG := fun d ρ μ Q => subO i wi d ρ μ Q (ρ[i]?)
end
end DL

set_option Elab.async false
set_option linter.all false
set_option maxRecDepth 100000
set_option maxHeartbeats 4000000
set_option autoImplicit false
/-! xs.remove(x) of data, of a list of the def's own. -/
namespace DL
open PySem PySem.Spec PyProof.Rows L2
section
variable {ex : Option (Addr × Addr × Addr)} {W : WX} {X : Cx} {e : Expr} {wa : WE} {pos p0 apos cpos : Pos} {i : Nat} {x : Str}
/-- the item that is taken away -/
def remD (ds : List D) (y : D) (k : List D → Prop) : Prop := ∃ p qs, toP y = some p ∧ toPs ds = some qs ∧ SeqAt.shaped p = true ∧ SeqAt.shaped (.list qs) = true ∧ ∃ (j : Nat) (z : PyData), qs[j]? = some z ∧ PyData.eqv z p = true ∧ (∀ (m : Nat) (z' : PyData), m < j → qs[m]? = some z' → PyData.eqv z' p = false) ∧ k (ds.eraseIdx j)
def remO (i : Nat) (wa : WA) (E : DEnds) (ρ : DS) (μ : Mu) (o : Option Sl) : Prop := match o with
  | some (.own p (.lst ds)) => wa ρ μ (fun xs μ1 => ∃ d, xs = [d] ∧ remD ds d fun ds' => E.nx (ρ.set i (.own p (.lst ds'))) μ1) fun c ks es μ' => E.xc c ks es ρ μ'
  | _ => False
def sRemO (i : Nat) (wa : WA) : WS := fun E ρ μ => remO i wa E ρ μ (ρ[i]?)
end
end DL

set_option Elab.async false
set_option linter.all false
set_option maxRecDepth 100000
set_option maxHeartbeats 4000000
set_option autoImplicit false
/-! xs.pop(i) of a cell. -/
namespace DL
open PySem PySem.Spec PyProof.Rows L2
def isC (x : D) (μ : Mu) (k : Prop) : Prop := match x with
  | .loc n => match μ[n]? with
    | some (.lst _) => k
    | _ => False
  | _ => False
def popL (x y : D) (μ : Mu) (Q : D → Mu → Prop) : Prop := match x, y with
  | .loc n, .int j => match μ[n]? with
    | some (.lst ds) => 0 ≤ j ∧ j < 2 ^ 62 ∧ (match ds[j.toNat]? with
      | some d => Q d (μ.set n (.lst (ds.eraseIdx j.toNat)))
      | none => False)
    | _ => False
  | _, _ => False
def wPopL (wo wa : WE) : WE := fun ρ μ Q Xd => wo ρ μ (fun x μ1 => isC x μ1 (wa ρ μ1 (fun y μ2 => popL x y μ2 Q) Xd)) Xd
section
variable {W : WX} {X : Cx} {e o : Expr} {wa wo : WE} {pos apos : Pos}
end
end DL

set_option Elab.async false
set_option linter.all false
set_option maxRecDepth 100000
set_option maxHeartbeats 4000000
set_option autoImplicit false
/-! A comprehension's list kept as a cell. -/
namespace DL
open PySem PySem.Spec PyProof.Rows L2
def cellQ (Q : D → Mu → Prop) : D → Mu → Prop := fun d μ => match d with
  | .lst acc => Q (.loc μ.length) (μ ++ [.lst acc])
  | _ => False
def wLcC (wi : WI) (k : WG) (tt : WT) (te : WE) (vs : List Nat) : WE := fun ρ μ Q Xd => wLc wi k tt te vs ρ μ (cellQ Q) Xd
section
variable {W : WX} {X : Cx} {elt tg iter : Expr} {ifs : List Expr} {scope : Scope} {own : List (Str × Nat)} {pos : Pos} {wi : WI} {g : TG} {k : WG} {tt : WT} {te : WE}
end
end DL

set_option Elab.async false
set_option linter.all false
set_option maxRecDepth 100000
set_option maxHeartbeats 2000000
set_option autoImplicit false
/-! x in found, x not in found of an own list, as tests. -/
namespace DL
open PySem PySem.Spec PyProof.Rows L2
section
variable {ex : Option (Addr × Addr × Addr)} {W : WX} {X : Cx} {e : Expr} {wa : WE} {pos p0 : Pos} {i : Nat} {x : Str}
end
end DL

set_option Elab.async false
set_option linter.all false
set_option maxRecDepth 100000
set_option maxHeartbeats 4000000
set_option autoImplicit false
/-! Changeable instances: attributes stored, property setters; == of tuples of own things; a sum of lists as an own list. -/
namespace DL
open PySem PySem.Spec PyProof.Rows L2
/-! ### o.f = value, o a cell -/
def putL (c f : Str) (x d : D) (μ : Mu) (k : Mu → Prop) : Prop := match x with
  | .loc n => match μ[n]? with
    | some (.ins c' ks ds) => c' = c ∧ ks.length < 1000 ∧ k (μ.set n (.ins c (putK f ks) (putD f d ks ds)))
    | _ => False
  | _ => False
def sFldL (c f : Str) (wo wa : WE) : WS := fun E ρ μ => wa ρ μ (fun d μ1 => wo ρ μ1 (fun x μ2 => putL c f x d μ2 (E.nx ρ)) (fun c ks es μ' => E.xc c ks es ρ μ')) fun c ks es μ' => E.xc c ks es ρ μ'
section
variable {W : WX} {X : Cx} {o value : Expr} {wa wo : WE} {pos pos' : Pos}
/-! ### o.f = value, f a property with a setter -/
structure SetD (P : Program) (w : World) (K : PySem.W.Frag) (mg : Str → Option Value) (base : Heap) (k : Nat) (c f : Str) (ps : List Str) (sp : DSp) : Prop where
  ex : ∃ C p g fd, mg c = some (.ref C) ∧ Cls K C ∧ PySem.W.takerIn K C f = some (some (.ref p)) ∧ PySem.W.typeIn K (.ref p) = some (.type "property") ∧ (∃ a rest, PySem.W.recIn K p "property" = some (a :: .ref g :: rest)) ∧ Binds K fd ps [] ∧ FnG P w K mg base k g fd ps (toSp ⟨K, mg, none⟩ sp)
def sPropS (c : Str) (sp : DSp) (wo wa : WE) : WS := fun E ρ μ => wa ρ μ (fun d μ1 => wo ρ μ1 (fun x μ2 => isCls c x μ2 (sp [x, d] μ2 (fun _ μ3 => E.nx ρ μ3) (fun c ks es μ' => E.xc c ks es ρ μ'))) (fun c ks es μ' => E.xc c ks es ρ μ')) fun c ks es μ' => E.xc c ks es ρ μ'
end
/-! ### == of tuples whose items have an own `__eq__` -/
def tupE (x : D) (k : List D → Prop) : Prop := match x with
  | .tup ds => k ds
  | _ => False
def fEqT (c : Str) (sp : DSp) : F2 := fun x y μ Q => tupE x fun ds => tupE y fun es => prsO c sp μ ds es ∧ Q (.bl true) μ
section
variable {X : Cx} {k j : Nat} {ps : List Str} {c : Str} {Ts : List String} {Cs : List Str} {sp : DSp}
end
/-! ### x = a + b, lists, x the def's own -/
def catO (x y : D) (k : List D → Prop) : Prop := match x, y with
  | .lst a, .lst b => a.length + b.length ≤ 1000 ∧ k (a ++ b)
  | _, _ => False
def sSetCat (i : Nat) (wa wb : WE) : WS := fun E ρ μ => wa ρ μ (fun x μ1 => wb ρ μ1 (fun y μ2 => catO x y fun ds => i < ρ.length ∧ ∀ p, E.nx (ρ.set i (.own p (.lst ds))) μ2) (fun c ks es μ' => E.xc c ks es ρ μ')) fun c ks es μ' => E.xc c ks es ρ μ'
section
variable {W : WX} {X : Cx} {a b : Expr} {wa wb : WE} {pos : Pos}
end
end DL

set_option Elab.async false
set_option linter.all false
set_option maxRecDepth 100000
set_option maxHeartbeats 4000000
set_option autoImplicit false
/-! Loops over lists that may be cells: the cell must stand at each turn. list(x), x.append(v), o[i] = v with cells. -/
namespace DL
open PySem PySem.Spec PyProof.Rows L2
structure ItOkC (G : Gx) (J : It) (m0 : List Addr) (E0 : Hp) (C : Mu → Prop) (ds : List D) : Prop where
  go : ∀ (i : Nat) (Z : Addr → Prop) (m : List Addr) (μ : Mu) H, i < ds.length → m0 <+: m → Same E0 (vis Z m H) → MuOk G Z m μ H → C μ → J.go i H
  stop : ∀ (Z : Addr → Prop) (m : List Addr) (μ : Mu) H, m0 <+: m → Same E0 (vis Z m H) → MuOk G Z m μ H → C μ → J.stop ds.length H
  yld : ∀ (i : Nat) (Z : Addr → Prop) (m : List Addr) (μ : Mu) H x H3, i < ds.length → m0 <+: m → Same E0 (vis Z m H) → MuOk G Z m μ H → C μ → J.yld i H x H3 →
    ∃ d, ds[i]? = some d ∧ ((H3 = H ∧ Rep G m (vis Z m H) d x) ∨ ∃ T o, H T = none ∧ H3 = upd H T o ∧ ∀ E, Same (vis Z m H) E → E T = some o → Rep G m E d x)
abbrev WIC := DS → Mu → (List D → (Mu → Prop) → Mu → Prop) → XD → Prop
def IPostC (G : Gx) (Z : Addr → Prop) (m : List Addr) (H : Hp) (Q : List D → (Mu → Prop) → Mu → Prop) (J : It) (H' : Hp) : Prop :=
  ∃ m' ds μ' C, Step G Z m H m' μ' H' ∧ ItOkC G J m' (vis Z m' H') C ds ∧ Q ds C μ'
def liftIC (G : Gx) (W : WX) (w : WIC) : TI := fun σ H R => ∃ Z m ρ μ Q Xd, SR G Z m σ H ρ μ ∧ w ρ μ Q Xd ∧ (∀ J H', IPostC G (ownW Z σ ρ) m H Q J H' → R J H') ∧ ∀ cls d H', XPost G (ownW Z σ ρ) m H Xd cls d H' → W cls d σ H'
abbrev DIC (ex : Option (Addr × Addr × Addr)) (W : WX) (X : Cx) (tg e : Expr) (w : WIC) : Prop := PI X tg e (liftIC (gx X ex) W w)
/-- a list, shown or a cell -/
def celOr (d : D) (μ : Mu) (k : List D → (Mu → Prop) → Prop) : Prop := match d with
  | .lst ds => k ds fun _ => True
  | .frl ds => k ds fun _ => True
  | .loc n => match μ[n]? with
    | some (.lst ds) => k ds fun μ' => μ'[n]? = some (.lst ds)
    | _ => False
  | _ => False
def wiCel (wa : WE) : WIC := fun ρ μ Q Xd => wa ρ μ (fun d μ1 => celOr d μ1 fun ds C => Q ds C μ1) Xd
def cel1 (ds : List D) (μ : Mu) (k : List D → (Mu → Prop) → Prop) : Prop := match ds with
  | [d] => celOr d μ fun es C => k (enumD es) C
  | _ => False
def wiEnC (wa : WA) : WIC := fun ρ μ Q Xd => wa ρ μ (fun ds μ1 => cel1 ds μ1 fun es C => Q es C μ1) Xd
section
variable {ex : Option (Addr × Addr × Addr)} {W : WX} {X : Cx} {tg e : Expr} {wa : WE} {ws : WA} {p pos : Pos}
end
/-! ### for -/
def forLC (g : WG) (b : WS) (E : DEnds) (C : Mu → Prop) : List D → DS → Mu → Prop
  | [], ρ, μ => C μ ∧ E.nx ρ μ
  | d :: ds, ρ, μ => C μ ∧ g d ρ μ fun ρ1 μ1 => b { E with nx := forLC g b E C ds, ct := forLC g b E C ds, bk := E.nx } ρ1 μ1
def sForC (wi : WIC) (g : WG) (b : WS) : WS := fun E ρ μ => wi ρ μ (fun ds C μ1 => forLC g b E C ds ρ μ1) fun c ks es μ' => E.xc c ks es ρ μ'
section
variable {ex : Option (Addr × Addr × Addr)} {W : WX} {X : Cx} {tg iter : Expr} {body : List Stmt} {wi : WIC} {g : WG} {b : WS} {pos : Pos}
end
/-! ### comprehensions -/
def lcLC (g : WG) (tt : WT) (te : WE) (ρw : DS) (C : Mu → Prop) : List D → List D → Mu → (D → Mu → Prop) → Prop
  | [], acc, μ, Q => C μ ∧ Q (.lst acc) μ
  | d :: ds, acc, μ, Q => C μ ∧ g d ρw μ fun ρ2 μ2 => tt ρ2 μ2 (fun b μ3 => if b = true then te ρ2 μ3 (fun y μ4 => acc.length < 1000000 ∧ lcLC g tt te ρw C ds (acc ++ [y]) μ4 Q) xF else lcLC g tt te ρw C ds acc μ3 Q) xF
def wLcU (wi : WIC) (g : WG) (tt : WT) (te : WE) (vs : List Nat) : WE := fun ρ μ Q Xd => wi ρ μ (fun ds C μ1 => (∀ v ∈ vs, notOwn ρ v) ∧ lcLC g tt te (wipeD ρ vs) C ds [] μ1 Q) Xd
section
variable {W : WX} {X : Cx} {elt tg iter : Expr} {ifs : List Expr} {scope : Scope} {own : List (Str × Nat)} {pos : Pos} {wi : WIC} {g : TG} {k : WG} {tt : WT} {te : WE}
end
/-! ### list(x) as a cell; x.append(v) of a cell -/
def fListOfC : FN := fun xs μ Q => match xs with
  | [x] => match itemsD x μ with
    | some ds => Q (.loc μ.length) (μ ++ [.lst ds])
    | none => False
  | _ => False
def appL (x y : D) (μ : Mu) (Q : D → Mu → Prop) : Prop := match x with
  | .loc n => match μ[n]? with
    | some (.lst ds) => ds.length < 1000000 ∧ Q .non (μ.set n (.lst (ds ++ [y])))
    | _ => False
  | _ => False
def wAppL (wo wa : WE) : WE := fun ρ μ Q Xd => wo ρ μ (fun x μ1 => isC x μ1 (wa ρ μ1 (fun y μ2 => appL x y μ2 Q) Xd)) Xd
section
variable {W : WX} {X : Cx} {e o : Expr} {wa wo : WE} {pos apos : Pos}
end
/-! ### o[i] = v by an own `__setitem__` -/
def sSetIx (cs : List Str) (sp : DSp) (wo wi wa : WE) : WS := fun E ρ μ => wa ρ μ (fun d μ1 => wo ρ μ1 (fun x μ2 => wi ρ μ2 (fun y μ3 => isClsU cs x μ3 (sp [x, y, d] μ3 (fun _ μ4 => E.nx ρ μ4) (fun c ks es μ' => E.xc c ks es ρ μ'))) (fun c ks es μ' => E.xc c ks es ρ μ')) (fun c ks es μ' => E.xc c ks es ρ μ')) fun c ks es μ' => E.xc c ks es ρ μ'
section
variable {W : WX} {X : Cx} {o ix value : Expr} {wa wo wi : WE} {pos p1 : Pos} {k j : Nat} {ps cs : List Str} {sp : DSp}
end
end DL

set_option Elab.async false
set_option linter.all false
set_option maxRecDepth 100000
set_option maxHeartbeats 4000000
set_option autoImplicit false
/-! ==, != of lists whose items have an own `__eq__`, either list shown or a cell. -/
namespace DL
open PySem PySem.Spec PyProof.Rows L2
section
variable {X : Cx} {k j : Nat} {ps : List Str} {c : Str} {Ts : List String} {Cs : List Str} {sp : DSp} {r : Bool}
end
end DL

set_option Elab.async false
set_option linter.all false
set_option maxRecDepth 100000
set_option maxHeartbeats 4000000
set_option autoImplicit false
/-! A list, shown or a cell, against the empty list. -/
namespace DL
open PySem PySem.Spec PyProof.Rows L2
section
variable {prog : Program} {w : World} {A : Around}
end
/-- a, b = e, []: the second a list of the def's own -/
def sPar2O (i j : Nat) (wa : WE) : WS := fun E ρ μ => wa ρ μ (fun d μ1 => j < ρ.length ∧ ∀ p, E.nx ((ρ.set j (.own p (.lst []))).set i (.v d)) μ1) fun c ks es μ' => E.xc c ks es ρ μ'
end DL

set_option Elab.async false
set_option linter.all false
set_option maxRecDepth 100000
set_option maxHeartbeats 4000000
set_option autoImplicit false
/-! ==, != of lists of tuples whose items are pairs or things with an own `__eq__`, all alike. -/
namespace DL
open PySem PySem.Spec PyProof.Rows L2
section
variable {X : Cx} {k j : Nat} {ps : List Str} {c : Str} {Ts : List String} {Cs : List Str} {sp : DSp}
end
section
variable {X : Cx} {k j : Nat} {ps : List Str} {c : Str} {Ts : List String} {Cs : List Str} {sp : DSp}
end
end DL

set_option Elab.async false
set_option linter.all false
set_option maxRecDepth 100000
set_option maxHeartbeats 4000000
set_option autoImplicit false
namespace DL
open PySem PySem.Spec PyProof.Rows L2
/-! sorted of ints, any number of them -/
end DL

set_option Elab.async false
set_option linter.all false
set_option maxRecDepth 100000
set_option maxHeartbeats 4000000
set_option autoImplicit false
/-! An __init__ that returns early. -/
namespace DL
open PySem PySem.Spec PyProof.Rows L2
/-- its end is a return -/
def liftR (G : Gx) (W : WX) (w : WS) : TS := fun D σ H => ∃ Z m ρ μ E, SR G Z m σ H ρ μ ∧ w E ρ μ ∧ (∀ σ' H', SPost G Z m σ ρ H E.nx σ' H' → D.rt .non H') ∧ (∀ v H', RPost G Z m σ ρ H E.rt v H' → D.rt v H') ∧
  (∀ σ' H', SPost G Z m σ ρ H E.bk σ' H' → D.bk σ' H') ∧ (∀ σ' H', SPost G Z m σ ρ H E.ct σ' H' → D.ct σ' H') ∧ ∀ cls d σ' H', XSPost G Z m σ ρ H E.xc cls d σ' H' → W cls d σ' H'
/-- its end is either -/
def liftIn (G : Gx) (W : WX) (w : WS) : TS := fun D σ H => ∃ Z m ρ μ E, SR G Z m σ H ρ μ ∧ w E ρ μ ∧ (∀ σ' H', SPost G Z m σ ρ H E.nx σ' H' → D.nx σ' H' ∧ D.rt .non H') ∧ (∀ v H', RPost G Z m σ ρ H E.rt v H' → D.rt v H') ∧
  (∀ σ' H', SPost G Z m σ ρ H E.bk σ' H' → D.bk σ' H') ∧ (∀ σ' H', SPost G Z m σ ρ H E.ct σ' H' → D.ct σ' H') ∧ ∀ cls d σ' H', XSPost G Z m σ ρ H E.xc cls d σ' H' → W cls d σ' H'
abbrev DSr (W : WX) (X : Cx) (st : List Stmt) (w : WS) : Prop := PSs X st (liftR (gx X none) W w)
abbrev DSi (W : WX) (X : Cx) (st : List Stmt) (w : WS) : Prop := PSs X st (liftIn (gx X none) W w)
section
variable {W : WX} {X : Cx} {st : Stmt} {rest x : List Stmt} {a b : WS} {t : WT} {pos : Pos} {c : Expr}
end
section
variable {P : Program} {w : World} {K : PySem.W.Frag} {mg : Str → Option Value} {base : Heap}
end
end DL

set_option Elab.async false
set_option linter.all false
set_option maxRecDepth 100000
set_option maxHeartbeats 4000000
set_option autoImplicit false
/-! [.. for a, b, c in lists] -/
namespace DL
open PySem PySem.Spec PyProof.Rows L2
end DL

set_option Elab.async false
set_option linter.all false
set_option maxRecDepth 100000
set_option maxHeartbeats 4000000
set_option autoImplicit false
/-! The head's run in four looks (hint split4). -/
namespace DL
open PySem PySem.Spec PyProof.Rows L2
end DL

set_option Elab.async false
set_option linter.all false
set_option maxRecDepth 100000
set_option maxHeartbeats 0
set_option autoImplicit false
namespace K02
open PySem PySem.Spec PyProof.Rows L2 DL
def top (i : Nat) : Stmt := PySem.Challenge.pw_filledonce_k02_directions.main.body.getD i (.Pass ⟨0, 0, 0, 0⟩)
def fn : List He5.DefA := [
  ⟨fun K => He.fAd K ("is_integer", none), "is_integer", "is_integer", defArgs (top 6), defBody (top 6), defScope (top 6), [], []⟩,
  ⟨fun K => He.fAd K ("Point", some "__init__"), "__init__", "Point.__init__", defArgs (inClass (top 8) 0), defBody (inClass (top 8) 0), defScope (inClass (top 8) 0), [], []⟩,
  ⟨fun K => He.fAd K ("numbers_of", none), "numbers_of", "numbers_of", defArgs (top 9), defBody (top 9), defScope (top 9), [], []⟩,
  ⟨fun K => He.fAd K ("Point", some "__add__"), "__add__", "Point.__add__", defArgs (inClass (top 8) 4), defBody (inClass (top 8) 4), defScope (inClass (top 8) 4), [], []⟩,
  ⟨fun K => He.fAd K ("Point", some "pair"), "pair", "Point.pair", defArgs (inClass (top 8) 2), defBody (inClass (top 8) 2), defScope (inClass (top 8) 2), [], []⟩,
  ⟨fun K => He.fAd K ("_law_error", none), "_law_error", "_law_error", defArgs (top 30), defBody (top 30), defScope (top 30), [], []⟩,
  ⟨fun K => He.fAd K ("pair_of", none), "pair_of", "pair_of", defArgs (top 10), defBody (top 10), defScope (top 10), [], []⟩,
  ⟨fun K => He.fAd K ("direction_of", none), "direction_of", "direction_of", defArgs (top 16), defBody (top 16), defScope (top 16), [], []⟩,
  ⟨fun K => He.fAd K ("sign_of", none), "sign_of", "sign_of", defArgs (top 15), defBody (top 15), defScope (top 15), [], []⟩,
  ⟨fun K => He.fAd K ("kind_of_pair", none), "kind_of_pair", "kind_of_pair", defArgs (top 17), defBody (top 17), defScope (top 17), [], []⟩,
  ⟨fun K => He.fAd K ("kind_of", none), "kind_of", "kind_of", defArgs (top 18), defBody (top 18), defScope (top 18), [], []⟩,
  ⟨fun K => He.fAd K ("common_divisor", none), "common_divisor", "common_divisor", defArgs (top 19), defBody (top 19), defScope (top 19), [], []⟩,
  ⟨fun K => He.fAd K ("lowest_pair", none), "lowest_pair", "lowest_pair", defArgs (top 20), defBody (top 20), defScope (top 20), [], []⟩,
  ⟨fun K => He.fAd K ("point_of", none), "point_of", "point_of", defArgs (top 11), defBody (top 11), defScope (top 11), [], []⟩,
  ⟨fun K => He.fAd K ("lowest", none), "lowest", "lowest", defArgs (top 21), defBody (top 21), defScope (top 21), [], []⟩,
  ⟨fun K => He.fAd K ("cross_of", none), "cross_of", "cross_of", defArgs (top 12), defBody (top 12), defScope (top 12), [], []⟩,
  ⟨fun K => He.fAd K ("is_ahead", none), "is_ahead", "is_ahead", defArgs (top 22), defBody (top 22), defScope (top 22), [], []⟩,
  ⟨fun K => He.fAd K ("put_in", none), "put_in", "put_in", defArgs (top 23), defBody (top 23), defScope (top 23), [], []⟩,
  ⟨fun K => He.fAd K ("sorted_around", none), "sorted_around", "sorted_around", defArgs (top 24), defBody (top 24), defScope (top 24), [], []⟩,
  ⟨fun K => He.fAd K ("_law_asked", none), "_law_asked", "_law_asked", defArgs (top 31), defBody (top 31), defScope (top 31), [], []⟩,
  ⟨fun K => He.fAd K ("_law_draw", none), "_law_draw", "_law_draw", defArgs (top 27), defBody (top 27), defScope (top 27), [], []⟩,
  ⟨fun K => He.fAd K ("_law_direction", none), "_law_direction", "_law_direction", defArgs (top 29), defBody (top 29), defScope (top 29), [], []⟩,
  ⟨fun K => He.fAd K ("_law_hand", none), "_law_hand", "_law_hand", defArgs (top 26), defBody (top 26), defScope (top 26), [], []⟩,
  ⟨fun K => He.fAd K ("_law_kind", none), "_law_kind", "_law_kind", defArgs (top 28), defBody (top 28), defScope (top 28), [], []⟩,
  ⟨fun K => He.fAd K ("_law_is_behind", none), "_law_is_behind", "_law_is_behind", defArgs (top 33), defBody (top 33), defScope (top 33), [], []⟩,
  ⟨fun K => He.fAd K ("_law_same_way", none), "_law_same_way", "_law_same_way", defArgs (top 32), defBody (top 32), defScope (top 32), [], []⟩,
  ⟨fun K => He.fAd K ("_law_in_order", none), "_law_in_order", "_law_in_order", defArgs (top 34), defBody (top 34), defScope (top 34), [], []⟩,
  ⟨fun K => He.fAd K ("law", none), "law", "law", defArgs (top 35), defBody (top 35), defScope (top 35), [], []⟩,
  ⟨fun K => He.fAd K ("InvalidPoint", some "__init__"), "__init__", "InvalidPoint.__init__", defArgs (inClass (top 3) 0), defBody (inClass (top 3) 0), defScope (inClass (top 3) 0), [], []⟩,
  ⟨fun K => He.fAd K ("NoDirection", some "__init__"), "__init__", "NoDirection.__init__", defArgs (inClass (top 4) 0), defBody (inClass (top 4) 0), defScope (inClass (top 4) 0), [], []⟩]
def fa : List He.Fa := [.glo "is_integer", .glo "numbers_of", .glo "_law_error", .glo "pair_of", .glo "direction_of", .glo "sign_of", .glo "kind_of_pair", .glo "kind_of", .glo "common_divisor", .glo "lowest_pair", .glo "point_of", .glo "lowest", .glo "cross_of", .glo "is_ahead", .glo "put_in", .glo "sorted_around", .glo "_law_asked", .glo "_law_draw", .glo "_law_direction", .glo "_law_hand", .glo "_law_kind", .glo "_law_is_behind", .glo "_law_same_way", .glo "_law_in_order", .glo "law", .glo "FillError", .glo "InvalidPoint", .glo "KINDS", .glo "NoDirection", .glo "Point", .free "abs", .free "bool", .free "int", .free "isinstance", .free "len", .free "list", .free "max", .free "min", .free "range", .free "repr", .free "tuple", .cls "Point", .noat "Point" "x", .noat "Point" "y", .mkr "Point", .meth "Point" "pair"]
def isiL : IsiL := [((.b "int", .b "int"), true), ((.b "bool", .b "int"), true), ((.b "str", .b "int"), false), ((.b "NoneType", .b "int"), false), ((.b "tuple", .b "int"), false), ((.b "list", .b "int"), false), ((.c "Point", .b "int"), false), ((.b "int", .b "bool"), false), ((.b "bool", .b "bool"), true), ((.b "str", .b "bool"), false), ((.b "NoneType", .b "bool"), false), ((.b "tuple", .b "bool"), false), ((.b "list", .b "bool"), false), ((.c "Point", .b "bool"), false), ((.b "int", .c "Point"), false), ((.b "bool", .c "Point"), false), ((.b "str", .c "Point"), false), ((.b "NoneType", .c "Point"), false), ((.b "tuple", .c "Point"), false), ((.b "list", .c "Point"), false), ((.c "Point", .c "Point"), true), ((.b "int", .b "tuple"), false), ((.b "bool", .b "tuple"), false), ((.b "str", .b "tuple"), false), ((.b "NoneType", .b "tuple"), false), ((.b "tuple", .b "tuple"), true), ((.b "list", .b "tuple"), false), ((.c "Point", .b "tuple"), false)]
abbrev isiT : TyN → TyN → Option Bool := isiF isiL
def kd_KINDS : List (List Int × Int) := [([(1), (0)], 0), ([(1), (1)], 1), ([(0), (1)], 2), ([(-1), (1)], 3), ([(-1), (0)], 4), ([(-1), (-1)], 5), ([(0), (-1)], 6), ([(1), (-1)], 7)]
def catL_FillError : List (Str × Bool) := [("InvalidPoint", true), ("NoDirection", true)]
def xfC_thing : List Str := ["InvalidPoint", "NoDirection"]
def isxL : IsxL := [(("InvalidPoint", "InvalidPoint"), true), (("InvalidPoint", "NoDirection"), false), (("NoDirection", "InvalidPoint"), false), (("NoDirection", "NoDirection"), true)]
def exB (K : PySem.W.Frag) : Bool := isiB isiL K && (opB K "Point" "__add__" "__radd__" ["tuple"] && (kdB K (He.ga K "KINDS") kd_KINDS && (rxB K "InvalidPoint" ["thing"] && (rxB K "NoDirection" ["thing"] && (catB K "FillError" catL_FillError && ((xfC_thing.all fun x => (He.Fa.glo x).ok K && (xfB K (He.ga K x) && He.eqO (PySem.W.findIn K (.ref (He.ga K x)) "thing") (some none))) && (isxB K isxL)))))))
def loose0 : List PySem.Str := ["_wall", "FillError", "InvalidPoint", "NoDirection", "is_integer", "Point", "numbers_of", "pair_of", "point_of", "cross_of", "KINDS", "sign_of", "direction_of", "kind_of_pair", "kind_of", "common_divisor", "lowest_pair", "lowest", "is_ahead", "put_in", "sorted_around", "_law_hand", "_law_draw", "_law_kind", "_law_direction", "_law_error", "_law_asked", "_law_same_way", "_law_is_behind", "_law_in_order"]
def loose : List PySem.Str := loose0
abbrev R : PySem.W.OpenRow := PySem.W.OpenLaw.row PySem.Challenge.rw_filledonce_k02_directions
def asL : List Addr := [3, 31, 51, 70, 79, 169, 180, 187, 194, 201, 202, 217, 224, 231, 238, 245, 252, 259, 266, 273, 278, 285, 292, 299, 306, 313, 320, 327, 334, 339, 344, 30, 50, 69, 78, 168, 179, 186, 193, 200, 216, 223, 230, 237, 244, 251, 258, 265, 272, 277, 284, 291, 298, 305, 312, 319, 326, 333, 338, 343, 48, 67, 93, 110, 124, 47, 66, 92, 109, 123, 203, 204, 205, 206, 207, 208, 209, 210]
abbrev hk : PySem.W.Hook := hookL asL fa fn exB
def ob (s : PySem.W.SharedT) : AlY := obsL asL fa fn exB (HandSHeadRun.getT s)
theorem ob_eq (s : PySem.W.SharedT) : ob s = hk.obs s.abs := obsL_eq (HandSHeadRun.getT_eq s)
abbrev loose_q : Program := PySem.W.view R.prog [35]
theorem runs_false (w : World) : HandSHeadRun.RunEq R loose_q hk ob 5000 loose (w.withFollow "special-get-raises" false) := by
  intro os
  kernel_rfl
theorem runs_true (w : World) : HandSHeadRun.RunEq R loose_q hk ob 5000 loose (w.withFollow "special-get-raises" true) := by
  intro os
  kernel_rfl
theorem run (w : World) : HandSHeadRun.RunEq R loose_q hk ob 5000 loose w := PySem.W.byRow2 "special-get-raises" (P := fun w => HandSHeadRun.RunEq R loose_q hk ob 5000 loose w) runs_false runs_true w
end K02

set_option Elab.async false
set_option linter.all false
set_option maxRecDepth 100000
set_option maxHeartbeats 4000000
set_option autoImplicit false
set_option exponentiation.threshold 3000
namespace DL
open PySem PySem.Spec PyProof.Rows L2
/-! ### plain data: comparisons, bounds, pools -/
theorem eqD_int {i j : Int} {k : Bool → Prop} : eqD (.int i) (.int j) k = k (decide (i = j)) := by
  apply propext
  constructor
  · rintro ⟨p, q, h1, h2, _, _, h⟩
    rw [toP] at h1 h2
    cases h1
    cases h2
    have e : PyData.eqv (.int i) (.int j) = decide (i = j) := by
      rw [Bool.eq_iff_iff]; simp [PyData.eqv]
    rw [← e]; exact h
  · intro h
    refine ⟨.int i, .int j, by rw [toP], by rw [toP], rfl, rfl, ?_⟩
    have e : PyData.eqv (.int i) (.int j) = decide (i = j) := by
      rw [Bool.eq_iff_iff]; simp [PyData.eqv]
    rw [e]; exact h
/-- numbers of at most 200 digits -/
def Bd (i : Int) : Prop := -(10 ^ 200) < i ∧ i < 10 ^ 200
theorem log2_bd {i : Int} (h : Bd i) : i.natAbs.log2 < 700 := by
  by_cases z : i.natAbs = 0
  · rw [z]; decide
  · rw [Nat.log2_lt z]
    have h1 : i.natAbs < 10 ^ 200 := by
      obtain ⟨a, b⟩ := h
      have e : (10 : Int) ^ 200 = ((10 ^ 200 : Nat) : Int) := by decide +kernel
      rw [e] at a b
      omega
    exact Nat.lt_of_lt_of_le h1 (by decide +kernel)
theorem cm_bd {i j : Int} (hi : Bd i) (hj : Bd j) : CM i j := by
  have h1 := log2_bd hi
  have h2 := log2_bd hj
  exact .inr (show i.natAbs.log2 + j.natAbs.log2 < 1000000 by omega)
theorem cd_bd {i j : Int} (h : 0 < j) (hj : Bd j) : CDivW i j := ⟨h, Nat.lt_of_lt_of_le (log2_bd hj) (by decide)⟩
/-- the cells with a pool behind them -/
def pl (μ : Mu) (p q : Int) : Mu := μ ++ [.lst [.int p, .int q]]
theorem pl_get {μ : Mu} {p q : Int} : (pl μ p q)[μ.length]? = some (.lst [.int p, .int q]) := List.getElem?_concat_length
theorem pl_set {μ : Mu} {p q : Int} {c : Cell} : (pl μ p q).set μ.length c = μ ++ [c] := by
  unfold pl
  rw [List.set_append_right _ _ (Nat.le_refl _), Nat.sub_self]
  rfl
theorem pl_fold {μ : Mu} {p q : Int} : μ ++ [Cell.lst [.int p, .int q]] = pl μ p q := rfl
theorem pl_items {μ : Mu} {p q : Int} : itemsD (.loc μ.length) (pl μ p q) = some [.int p, .int q] := by
  show (match (pl μ p q)[μ.length]? with
    | some (.lst ds) => some ds
    | _ => none) = _
  rw [pl_get]
theorem pl_st0 {μ : Mu} {p q : Int} {d : D} {k : Mu → Prop} : stL (.loc μ.length) (.int 0) d (pl μ p q) k = k (μ ++ [.lst [d, .int q]]) := by
  unfold stL
  simp only [pl_get, pl_set]
  rfl
theorem pl_st1 {μ : Mu} {p q : Int} {d : D} {k : Mu → Prop} : stL (.loc μ.length) (.int 1) d (pl μ p q) k = k (μ ++ [.lst [.int p, d]]) := by
  unfold stL
  simp only [pl_get, pl_set]
  rfl
theorem atI_nat {α : Type} {xs : List α} {n : Nat} : atI xs (n : Int) = xs[n]? := by
  unfold atI ixN
  rw [if_pos (Int.natCast_nonneg n)]
  by_cases h : (n : Int) < xs.length
  · rw [if_pos h]
    rfl
  · rw [if_neg h]
    have h2 : xs.length ≤ n := by omega
    rw [List.getElem?_eq_none h2]
    rfl
theorem atI_0 {α : Type} {a : α} {r : List α} : atI (a :: r) 0 = some a := atI_nat (n := 0)
theorem atI_1 {α : Type} {a b : α} {r : List α} : atI (a :: b :: r) 1 = some b := atI_nat (n := 1)
theorem atI_2 {α : Type} {a b c : α} {r : List α} : atI (a :: b :: c :: r) 2 = some c := atI_nat (n := 2)
theorem atI_3 {α : Type} {a b c d : α} {r : List α} : atI (a :: b :: c :: d :: r) 3 = some d := atI_nat (n := 3)
theorem items_tup {ds : List D} {μ : Mu} : itemsD (.tup ds) μ = some ds := rfl
theorem items_lst {ds : List D} {μ : Mu} : itemsD (.lst ds) μ = some ds := rfl
theorem items_frl {ds : List D} {μ : Mu} : itemsD (.frl ds) μ = some ds := rfl
/-! ### loops -/
theorem forL_inv {g : WG} {b : WS} {E : DEnds} (I : DS → Mu → Prop) (fin : ∀ ρ μ, I ρ μ → E.nx ρ μ) : ∀ {ds : List D}, (∀ d ∈ ds, ∀ ρ μ (K : DS → Mu → Prop), I ρ μ → (∀ ρ' μ', I ρ' μ' → K ρ' μ') → g d ρ μ fun ρ1 μ1 => b { E with nx := K, ct := K, bk := E.nx } ρ1 μ1) →
    ∀ {ρ μ}, I ρ μ → forL g b E ds ρ μ
  | [], _, ρ, μ, h => by rw [forL]; exact fin ρ μ h
  | d :: ds, step, ρ, μ, h => by
    rw [forL]
    exact step d (by simp) ρ μ _ h fun ρ' μ' h' => forL_inv I fin (fun d hd => step d (by simp [hd])) h'
theorem mem_range {lo : Int} {n : Nat} {d : D} (h : d ∈ rangeD lo n) : ∃ i : Nat, i < n ∧ d = .int (lo + i) := by
  unfold rangeD at h
  obtain ⟨i, hi, rfl⟩ := List.mem_map.mp h
  exact ⟨i, List.mem_range.mp hi, rfl⟩
/-- the script's k-th cell, or 0 -/
theorem cell_of {ns : List Int} {lo hi : Option Int} : ∃ c, atI (cutD (ns.map D.int) lo hi ++ [.int 0]) 0 = some (.int c) := by
  have h : ∀ l : List D, (∀ d ∈ l, ∃ c, d = .int c) → ∃ c, atI (l ++ [.int 0]) 0 = some (.int c) := by
    intro l hl
    cases l with
    | nil => exact ⟨0, atI_0⟩
    | cons d r =>
      obtain ⟨c, rfl⟩ := hl d (by simp)
      exact ⟨c, atI_0⟩
  refine h _ fun d hd => ?_
  unfold cutD at hd
  have h1 := List.mem_of_mem_take hd
  have h2 := List.mem_of_mem_drop h1
  obtain ⟨c, _, rfl⟩ := List.mem_map.mp h2
  exact ⟨c, rfl⟩
theorem cut_few {ns : List Int} {lo hi : Option Int} (h : ns.length ≤ 63) : (cutD (ns.map D.int) lo hi).length + 1 ≤ sizeLine := by
  unfold cutD
  rw [List.length_take, List.length_drop, List.length_map, sizeLine_eq]
  omega
theorem range_zero {lo : Int} : rangeD lo 0 = [] := rfl
theorem range_succ {lo : Int} {n : Nat} : rangeD lo (n + 1) = .int lo :: rangeD (lo + 1) n := by
  unfold rangeD
  rw [List.range_succ_eq_map, List.map_cons, List.map_map]
  congr 1
  · simp
  · refine List.map_congr_left fun i _ => ?_
    show D.int (lo + ((i + 1 : Nat) : Int)) = D.int (lo + 1 + (i : Int))
    congr 1
    omega
/-- how many turns: at least one, at most eight -/
def turns (n m : Nat) : Int := if (if (m : Int) < n then (m : Int) else n) > 1 then (if (m : Int) < n then (m : Int) else n) else 1
theorem turns_ok {n m : Nat} (hm : m ≤ 1000) : -2 ^ 62 ≤ turns n m ∧ turns n m < 2 ^ 62 ∧ (turns n m).toNat ≤ m + 1 := by
  unfold turns
  split <;> split <;> omega
end DL

set_option Elab.async false
set_option linter.all false
set_option maxRecDepth 100000
set_option maxHeartbeats 4000000
set_option autoImplicit false
set_option exponentiation.threshold 3000
namespace DL
open PySem PySem.Spec PyProof.Rows L2
/-! ### what is read is worked out from the head: frames and their equations -/
def KVar (o : Option Sl) (μ : Mu) (Q : D → Mu → Prop) : Prop := match o with
  | some (.v d) => Q d μ
  | _ => False
theorem r_var {i : Nat} {ρ : DS} {μ : Mu} {Q : D → Mu → Prop} {Xd : XD} : wVar i ρ μ Q Xd = KVar (ρ[i]?) μ Q := propext Iff.rfl
theorem r_var2 {d : D} {μ : Mu} {Q : D → Mu → Prop} : KVar (some (.v d)) μ Q = Q d μ := propext Iff.rfl
theorem r_c {d : D} {ρ : DS} {μ : Mu} {Q : D → Mu → Prop} {Xd : XD} : DL.wC d ρ μ Q Xd = Q d μ := propext Iff.rfl
def K2b (f : F2) (x : D) (Q : D → Mu → Prop) : D → Mu → Prop := fun y μ => f x y μ Q
def K2a (f : F2) (wb : WE) (ρ : DS) (Q : D → Mu → Prop) (Xd : XD) : D → Mu → Prop := fun x μ => wb ρ μ (K2b f x Q) Xd
theorem r_w2 {f : F2} {wa wb : WE} {ρ : DS} {μ : Mu} {Q : D → Mu → Prop} {Xd : XD} : DL.w2 f wa wb ρ μ Q Xd = wa ρ μ (K2a f wb ρ Q Xd) Xd := propext Iff.rfl
theorem r_w2a {f : F2} {wb : WE} {x : D} {ρ : DS} {μ : Mu} {Q : D → Mu → Prop} {Xd : XD} : K2a f wb ρ Q Xd x μ = wb ρ μ (K2b f x Q) Xd := propext Iff.rfl
theorem r_w2b {f : F2} {x y : D} {μ : Mu} {Q : D → Mu → Prop} : K2b f x Q y μ = f x y μ Q := propext Iff.rfl
def K1 (f : F1) (Q : D → Mu → Prop) : D → Mu → Prop := fun x μ => f x μ Q
theorem r_w1 {f : F1} {wa : WE} {ρ : DS} {μ : Mu} {Q : D → Mu → Prop} {Xd : XD} : DL.w1 f wa ρ μ Q Xd = wa ρ μ (K1 f Q) Xd := propext Iff.rfl
theorem r_w1a {f : F1} {x : D} {μ : Mu} {Q : D → Mu → Prop} : K1 f Q x μ = f x μ Q := propext Iff.rfl
def KB (Q : Bool → Mu → Prop) : D → Mu → Prop := fun d μ => fBool d fun b => Q b μ
theorem r_wB {w : WE} {ρ : DS} {μ : Mu} {Q : Bool → Mu → Prop} {Xd : XD} : wB w ρ μ Q Xd = w ρ μ (KB Q) Xd := propext Iff.rfl
theorem r_wBa {b : Bool} {μ : Mu} {Q : Bool → Mu → Prop} : KB Q (.bl b) μ = Q b μ := propext Iff.rfl
def KCh3 (f' : F2) (wc : WE) (y : D) (ρ : DS) (Q : D → Mu → Prop) (Xd : XD) : D → Mu → Prop := fun z μ3 => fBool z fun k => if k = true then wc ρ μ3 (fun w' μ4 => f' y w' μ4 Q) Xd else Q (.bl false) μ3
def KCh2 (f f' : F2) (wc : WE) (x : D) (ρ : DS) (Q : D → Mu → Prop) (Xd : XD) : D → Mu → Prop := fun y μ2 => f x y μ2 (KCh3 f' wc y ρ Q Xd)
def KCh1 (f f' : F2) (wb wc : WE) (ρ : DS) (Q : D → Mu → Prop) (Xd : XD) : D → Mu → Prop := fun x μ1 => wb ρ μ1 (KCh2 f f' wc x ρ Q Xd) Xd
theorem r_ch {f f' : F2} {wa wb wc : WE} {ρ : DS} {μ : Mu} {Q : D → Mu → Prop} {Xd : XD} : wChain f f' wa wb wc ρ μ Q Xd = wa ρ μ (KCh1 f f' wb wc ρ Q Xd) Xd := propext Iff.rfl
theorem r_ch1 {f f' : F2} {wb wc : WE} {x : D} {ρ : DS} {μ : Mu} {Q : D → Mu → Prop} {Xd : XD} : KCh1 f f' wb wc ρ Q Xd x μ = wb ρ μ (KCh2 f f' wc x ρ Q Xd) Xd := propext Iff.rfl
theorem r_ch2 {f f' : F2} {wc : WE} {x y : D} {ρ : DS} {μ : Mu} {Q : D → Mu → Prop} {Xd : XD} : KCh2 f f' wc x ρ Q Xd y μ = f x y μ (KCh3 f' wc y ρ Q Xd) := propext Iff.rfl
theorem r_ch3t {f' : F2} {wc : WE} {y : D} {ρ : DS} {μ : Mu} {Q : D → Mu → Prop} {Xd : XD} : KCh3 f' wc y ρ Q Xd (.bl true) μ = wc ρ μ (K2b f' y Q) Xd := propext Iff.rfl
theorem r_ch3f {f' : F2} {wc : WE} {y : D} {ρ : DS} {μ : Mu} {Q : D → Mu → Prop} {Xd : XD} : KCh3 f' wc y ρ Q Xd (.bl false) μ = Q (.bl false) μ := propext Iff.rfl
def KAnd (u : WT) (ρ : DS) (Q : Bool → Mu → Prop) (Xd : XD) : Bool → Mu → Prop := fun c μ1 => if c = true then u ρ μ1 Q Xd else Q false μ1
def KOr (u : WT) (ρ : DS) (Q : Bool → Mu → Prop) (Xd : XD) : Bool → Mu → Prop := fun c μ1 => if c = true then Q true μ1 else u ρ μ1 Q Xd
def KNot (Q : Bool → Mu → Prop) : Bool → Mu → Prop := fun c μ1 => Q (!c) μ1
theorem r_and {t u : WT} {ρ : DS} {μ : Mu} {Q : Bool → Mu → Prop} {Xd : XD} : wAnd t u ρ μ Q Xd = t ρ μ (KAnd u ρ Q Xd) Xd := propext Iff.rfl
theorem r_andt {u : WT} {ρ : DS} {μ : Mu} {Q : Bool → Mu → Prop} {Xd : XD} : KAnd u ρ Q Xd true μ = u ρ μ Q Xd := propext Iff.rfl
theorem r_andf {u : WT} {ρ : DS} {μ : Mu} {Q : Bool → Mu → Prop} {Xd : XD} : KAnd u ρ Q Xd false μ = Q false μ := propext Iff.rfl
theorem r_or {t u : WT} {ρ : DS} {μ : Mu} {Q : Bool → Mu → Prop} {Xd : XD} : wOr t u ρ μ Q Xd = t ρ μ (KOr u ρ Q Xd) Xd := propext Iff.rfl
theorem r_ort {u : WT} {ρ : DS} {μ : Mu} {Q : Bool → Mu → Prop} {Xd : XD} : KOr u ρ Q Xd true μ = Q true μ := propext Iff.rfl
theorem r_orf {u : WT} {ρ : DS} {μ : Mu} {Q : Bool → Mu → Prop} {Xd : XD} : KOr u ρ Q Xd false μ = u ρ μ Q Xd := propext Iff.rfl
theorem r_not {t : WT} {ρ : DS} {μ : Mu} {Q : Bool → Mu → Prop} {Xd : XD} : DL.wNot t ρ μ Q Xd = t ρ μ (KNot Q) Xd := propext Iff.rfl
theorem r_nota {c : Bool} {μ : Mu} {Q : Bool → Mu → Prop} : KNot Q c μ = Q (!c) μ := propext Iff.rfl
def KIfE (wa wb : WE) (ρ : DS) (Q : D → Mu → Prop) (Xd : XD) : Bool → Mu → Prop := fun k μ1 => if k = true then wa ρ μ1 Q Xd else wb ρ μ1 Q Xd
theorem r_ife {t : WT} {wa wb : WE} {ρ : DS} {μ : Mu} {Q : D → Mu → Prop} {Xd : XD} : wIf t wa wb ρ μ Q Xd = t ρ μ (KIfE wa wb ρ Q Xd) Xd := propext Iff.rfl
theorem r_ifet {wa wb : WE} {ρ : DS} {μ : Mu} {Q : D → Mu → Prop} {Xd : XD} : KIfE wa wb ρ Q Xd true μ = wa ρ μ Q Xd := propext Iff.rfl
theorem r_ifef {wa wb : WE} {ρ : DS} {μ : Mu} {Q : D → Mu → Prop} {Xd : XD} : KIfE wa wb ρ Q Xd false μ = wb ρ μ Q Xd := propext Iff.rfl
def KAndV (wb : WE) (ρ : DS) (Q : D → Mu → Prop) (Xd : XD) : D → Mu → Prop := fun x μ1 => fBool x fun k => if k = true then wb ρ μ1 Q Xd else Q (.bl false) μ1
def KOrV (wb : WE) (ρ : DS) (Q : D → Mu → Prop) (Xd : XD) : D → Mu → Prop := fun x μ1 => fBool x fun k => if k = true then Q (.bl true) μ1 else wb ρ μ1 Q Xd
theorem r_andv {wa wb : WE} {ρ : DS} {μ : Mu} {Q : D → Mu → Prop} {Xd : XD} : wAndV wa wb ρ μ Q Xd = wa ρ μ (KAndV wb ρ Q Xd) Xd := propext Iff.rfl
theorem r_andvt {wb : WE} {ρ : DS} {μ : Mu} {Q : D → Mu → Prop} {Xd : XD} : KAndV wb ρ Q Xd (.bl true) μ = wb ρ μ Q Xd := propext Iff.rfl
theorem r_andvf {wb : WE} {ρ : DS} {μ : Mu} {Q : D → Mu → Prop} {Xd : XD} : KAndV wb ρ Q Xd (.bl false) μ = Q (.bl false) μ := propext Iff.rfl
theorem r_orv {wa wb : WE} {ρ : DS} {μ : Mu} {Q : D → Mu → Prop} {Xd : XD} : wOrV wa wb ρ μ Q Xd = wa ρ μ (KOrV wb ρ Q Xd) Xd := propext Iff.rfl
theorem r_orvt {wb : WE} {ρ : DS} {μ : Mu} {Q : D → Mu → Prop} {Xd : XD} : KOrV wb ρ Q Xd (.bl true) μ = Q (.bl true) μ := propext Iff.rfl
theorem r_orvf {wb : WE} {ρ : DS} {μ : Mu} {Q : D → Mu → Prop} {Xd : XD} : KOrV wb ρ Q Xd (.bl false) μ = wb ρ μ Q Xd := propext Iff.rfl
def KNotV (Q : D → Mu → Prop) : D → Mu → Prop := fun x μ1 => fBool x fun k => Q (.bl (!k)) μ1
theorem r_notv {wa : WE} {ρ : DS} {μ : Mu} {Q : D → Mu → Prop} {Xd : XD} : wNotV wa ρ μ Q Xd = wa ρ μ (KNotV Q) Xd := propext Iff.rfl
theorem r_notva {b : Bool} {μ : Mu} {Q : D → Mu → Prop} : KNotV Q (.bl b) μ = Q (.bl (!b)) μ := propext Iff.rfl
theorem r_nil {ρ : DS} {μ : Mu} {Q : List D → Mu → Prop} {Xd : XD} : DL.wNil ρ μ Q Xd = Q [] μ := propext Iff.rfl
def KA2 (d : D) (Q : List D → Mu → Prop) : List D → Mu → Prop := fun ds μ2 => Q (d :: ds) μ2
def KA1 (wr : WA) (ρ : DS) (Q : List D → Mu → Prop) (Xd : XD) : D → Mu → Prop := fun d μ1 => wr ρ μ1 (KA2 d Q) Xd
theorem r_cons {wa : WE} {wr : WA} {ρ : DS} {μ : Mu} {Q : List D → Mu → Prop} {Xd : XD} : DL.wCons wa wr ρ μ Q Xd = wa ρ μ (KA1 wr ρ Q Xd) Xd := propext Iff.rfl
theorem r_cons1 {wr : WA} {d : D} {ρ : DS} {μ : Mu} {Q : List D → Mu → Prop} {Xd : XD} : KA1 wr ρ Q Xd d μ = wr ρ μ (KA2 d Q) Xd := propext Iff.rfl
theorem r_cons2 {d : D} {ds : List D} {μ : Mu} {Q : List D → Mu → Prop} : KA2 d Q ds μ = Q (d :: ds) μ := propext Iff.rfl
def KTup (Q : D → Mu → Prop) : List D → Mu → Prop := fun ds μ1 => ds.length ≤ 1000 ∧ Q (.tup ds) μ1
theorem r_tup {wa : WA} {ρ : DS} {μ : Mu} {Q : D → Mu → Prop} {Xd : XD} : wTup wa ρ μ Q Xd = wa ρ μ (KTup Q) Xd := propext Iff.rfl
theorem r_tupa {ds : List D} {μ : Mu} {Q : D → Mu → Prop} : KTup Q ds μ = (ds.length ≤ 1000 ∧ Q (.tup ds) μ) := propext Iff.rfl
def KLst (Q : D → Mu → Prop) : List D → Mu → Prop := fun ds μ1 => ds.length ≤ 1000 ∧ Q (.lst ds) μ1
theorem r_lst {wa : WA} {ρ : DS} {μ : Mu} {Q : D → Mu → Prop} {Xd : XD} : wLst wa ρ μ Q Xd = wa ρ μ (KLst Q) Xd := propext Iff.rfl
theorem r_lsta {ds : List D} {μ : Mu} {Q : D → Mu → Prop} : KLst Q ds μ = (ds.length ≤ 1000 ∧ Q (.lst ds) μ) := propext Iff.rfl
def KLstC (Q : D → Mu → Prop) : List D → Mu → Prop := fun ds μ1 => ds.length ≤ 1000 ∧ Q (.loc μ1.length) (μ1 ++ [.lst ds])
theorem r_lstc {wa : WA} {ρ : DS} {μ : Mu} {Q : D → Mu → Prop} {Xd : XD} : wLstC wa ρ μ Q Xd = wa ρ μ (KLstC Q) Xd := propext Iff.rfl
theorem r_lstca {ds : List D} {μ : Mu} {Q : D → Mu → Prop} : KLstC Q ds μ = (ds.length ≤ 1000 ∧ Q (.loc μ.length) (μ ++ [.lst ds])) := propext Iff.rfl
def KN (f : FN) (Q : D → Mu → Prop) : List D → Mu → Prop := fun ds μ1 => f ds μ1 Q
theorem r_wn {f : FN} {wa : WA} {ρ : DS} {μ : Mu} {Q : D → Mu → Prop} {Xd : XD} : DL.wN f wa ρ μ Q Xd = wa ρ μ (KN f Q) Xd := propext Iff.rfl
theorem r_wna {f : FN} {ds : List D} {μ : Mu} {Q : D → Mu → Prop} : KN f Q ds μ = f ds μ Q := propext Iff.rfl
def KCall (sp : DSp) (Q : D → Mu → Prop) (Xd : XD) : List D → Mu → Prop := fun ds μ1 => sp ds μ1 Q Xd
theorem r_call {sp : DSp} {wa : WA} {ρ : DS} {μ : Mu} {Q : D → Mu → Prop} {Xd : XD} : wCall sp wa ρ μ Q Xd = wa ρ μ (KCall sp Q Xd) Xd := propext Iff.rfl
theorem r_calla {sp : DSp} {ds : List D} {μ : Mu} {Q : D → Mu → Prop} {Xd : XD} : KCall sp Q Xd ds μ = sp ds μ Q Xd := propext Iff.rfl
def KMk2 (c : Str) (Q : D → Mu → Prop) : List Str → List D → Mu → Prop := fun ks es μ2 => Q (.obj c ks es) μ2
def KMk1 (c : Str) (sp : ISp) (Q : D → Mu → Prop) (Xd : XD) : List D → Mu → Prop := fun ds μ1 => sp ds μ1 (KMk2 c Q) Xd
theorem r_mk {c : Str} {sp : ISp} {wa : WA} {ρ : DS} {μ : Mu} {Q : D → Mu → Prop} {Xd : XD} : wMake c sp wa ρ μ Q Xd = wa ρ μ (KMk1 c sp Q Xd) Xd := propext Iff.rfl
theorem r_mk1 {c : Str} {sp : ISp} {ds : List D} {μ : Mu} {Q : D → Mu → Prop} {Xd : XD} : KMk1 c sp Q Xd ds μ = sp ds μ (KMk2 c Q) Xd := propext Iff.rfl
theorem r_mk2 {c : Str} {ks : List Str} {es : List D} {μ : Mu} {Q : D → Mu → Prop} : KMk2 c Q ks es μ = Q (.obj c ks es) μ := propext Iff.rfl
def KMkC2 (c : Str) (Q : D → Mu → Prop) : List Str → List D → Mu → Prop := fun ks es μ2 => Q (.loc μ2.length) (μ2 ++ [.ins c ks es])
def KMkC1 (c : Str) (sp : ISp) (Q : D → Mu → Prop) (Xd : XD) : List D → Mu → Prop := fun ds μ1 => sp ds μ1 (KMkC2 c Q) Xd
theorem r_mkc {c : Str} {sp : ISp} {wa : WA} {ρ : DS} {μ : Mu} {Q : D → Mu → Prop} {Xd : XD} : wMakeC c sp wa ρ μ Q Xd = wa ρ μ (KMkC1 c sp Q Xd) Xd := propext Iff.rfl
theorem r_mkc1 {c : Str} {sp : ISp} {ds : List D} {μ : Mu} {Q : D → Mu → Prop} {Xd : XD} : KMkC1 c sp Q Xd ds μ = sp ds μ (KMkC2 c Q) Xd := propext Iff.rfl
theorem r_mkc2 {c : Str} {ks : List Str} {es : List D} {μ : Mu} {Q : D → Mu → Prop} : KMkC2 c Q ks es μ = Q (.loc μ.length) (μ ++ [.ins c ks es]) := propext Iff.rfl
def KMe2 (sp : DSp) (x : D) (Q : D → Mu → Prop) (Xd : XD) : List D → Mu → Prop := fun ds μ2 => sp (x :: ds) μ2 Q Xd
def KMe1 (c m : Str) (sp : DSp) (wa : WA) (ρ : DS) (Q : D → Mu → Prop) (Xd : XD) : D → Mu → Prop := fun x μ1 => hasCls c m x μ1 (wa ρ μ1 (KMe2 sp x Q Xd) Xd)
theorem r_me {c m : Str} {sp : DSp} {wo : WE} {wa : WA} {ρ : DS} {μ : Mu} {Q : D → Mu → Prop} {Xd : XD} : wMeth c m sp wo wa ρ μ Q Xd = wo ρ μ (KMe1 c m sp wa ρ Q Xd) Xd := propext Iff.rfl
theorem r_me1 {c m : Str} {sp : DSp} {wa : WA} {x : D} {ρ : DS} {μ : Mu} {Q : D → Mu → Prop} {Xd : XD} : KMe1 c m sp wa ρ Q Xd x μ = hasCls c m x μ (wa ρ μ (KMe2 sp x Q Xd) Xd) := propext Iff.rfl
theorem r_me2 {sp : DSp} {x : D} {ds : List D} {μ : Mu} {Q : D → Mu → Prop} {Xd : XD} : KMe2 sp x Q Xd ds μ = sp (x :: ds) μ Q Xd := propext Iff.rfl
def KBo2 (c : Str) (Ts : List String) (sp : DSp) (x : D) (Q : D → Mu → Prop) (Xd : XD) : D → Mu → Prop := fun y μ2 => isCls c x μ2 (othTy c Ts y μ2 (sp [x, y] μ2 Q Xd))
def KBo1 (c : Str) (Ts : List String) (sp : DSp) (wb : WE) (ρ : DS) (Q : D → Mu → Prop) (Xd : XD) : D → Mu → Prop := fun x μ1 => wb ρ μ1 (KBo2 c Ts sp x Q Xd) Xd
theorem r_bo {c : Str} {Ts : List String} {sp : DSp} {wa wb : WE} {ρ : DS} {μ : Mu} {Q : D → Mu → Prop} {Xd : XD} : wBinO c Ts sp wa wb ρ μ Q Xd = wa ρ μ (KBo1 c Ts sp wb ρ Q Xd) Xd := propext Iff.rfl
theorem r_bo1 {c : Str} {Ts : List String} {sp : DSp} {wb : WE} {x : D} {ρ : DS} {μ : Mu} {Q : D → Mu → Prop} {Xd : XD} : KBo1 c Ts sp wb ρ Q Xd x μ = wb ρ μ (KBo2 c Ts sp x Q Xd) Xd := propext Iff.rfl
theorem r_bo2 {c : Str} {Ts : List String} {sp : DSp} {x y : D} {μ : Mu} {Q : D → Mu → Prop} {Xd : XD} : KBo2 c Ts sp x Q Xd y μ = isCls c x μ (othTy c Ts y μ (sp [x, y] μ Q Xd)) := propext Iff.rfl
theorem r_onone {ρ : DS} {μ : Mu} {Q : Option Int → Mu → Prop} {Xd : XD} : oNone ρ μ Q Xd = Q none μ := propext Iff.rfl
def KOs (Q : Option Int → Mu → Prop) : D → Mu → Prop := fun d μ1 => intOr d fun i => Q (some i) μ1
theorem r_osome {wa : WE} {ρ : DS} {μ : Mu} {Q : Option Int → Mu → Prop} {Xd : XD} : oSome wa ρ μ Q Xd = wa ρ μ (KOs Q) Xd := propext Iff.rfl
theorem r_osomea {i : Int} {μ : Mu} {Q : Option Int → Mu → Prop} : KOs Q (.int i) μ = Q (some i) μ := propext Iff.rfl
def KSl3 (x : D) (l : Option Int) (Q : D → Mu → Prop) : Option Int → Mu → Prop := fun u μ3 => lstOr x fun ds => Q (.lst (DL.cutD ds l u)) μ3
def KSl2 (hi : WO) (x : D) (ρ : DS) (Q : D → Mu → Prop) (Xd : XD) : Option Int → Mu → Prop := fun l μ2 => hi ρ μ2 (KSl3 x l Q) Xd
def KSl1 (lo hi : WO) (ρ : DS) (Q : D → Mu → Prop) (Xd : XD) : D → Mu → Prop := fun x μ1 => lo ρ μ1 (KSl2 hi x ρ Q Xd) Xd
theorem r_sl {wa : WE} {lo hi : WO} {ρ : DS} {μ : Mu} {Q : D → Mu → Prop} {Xd : XD} : wSl wa lo hi ρ μ Q Xd = wa ρ μ (KSl1 lo hi ρ Q Xd) Xd := propext Iff.rfl
theorem r_sl1 {lo hi : WO} {x : D} {ρ : DS} {μ : Mu} {Q : D → Mu → Prop} {Xd : XD} : KSl1 lo hi ρ Q Xd x μ = lo ρ μ (KSl2 hi x ρ Q Xd) Xd := propext Iff.rfl
theorem r_sl2 {hi : WO} {x : D} {l : Option Int} {ρ : DS} {μ : Mu} {Q : D → Mu → Prop} {Xd : XD} : KSl2 hi x ρ Q Xd l μ = hi ρ μ (KSl3 x l Q) Xd := propext Iff.rfl
theorem r_sl3 {ds : List D} {l u : Option Int} {μ : Mu} {Q : D → Mu → Prop} : KSl3 (.lst ds) l Q u μ = Q (.lst (DL.cutD ds l u)) μ := propext Iff.rfl
theorem r_sl3f {ds : List D} {l u : Option Int} {μ : Mu} {Q : D → Mu → Prop} : KSl3 (.frl ds) l Q u μ = Q (.lst (DL.cutD ds l u)) μ := propext Iff.rfl
theorem r_ii {C : Int → Int → Prop} {g : Int → Int → Int} {i j : Int} {μ : Mu} {Q : D → Mu → Prop} : fII C g (.int i) (.int j) μ Q = (C i j ∧ Q (.int (g i j)) μ) := propext Iff.rfl
theorem r_ii0 {g : Int → Int → Int} {i j : Int} {μ : Mu} {Q : D → Mu → Prop} : fII0 g (.int i) (.int j) μ Q = Q (.int (g i j)) μ := propext Iff.rfl
theorem r_ib {g : Int → Int → Bool} {i j : Int} {μ : Mu} {Q : D → Mu → Prop} : fIB g (.int i) (.int j) μ Q = Q (.bl (g i j)) μ := propext Iff.rfl
theorem r_i1 {g : Int → Int} {i : Int} {μ : Mu} {Q : D → Mu → Prop} : fI g (.int i) μ Q = Q (.int (g i)) μ := propext Iff.rfl
theorem r_plus {i j : Int} {μ : Mu} {Q : D → Mu → Prop} : fPlus (.int i) (.int j) μ Q = Q (.int (i + j)) μ := propext Iff.rfl
theorem r_plusl {a b : List D} {μ : Mu} {Q : D → Mu → Prop} : fPlus (.lst a) (.lst b) μ Q = (a.length + b.length ≤ sizeLine ∧ Q (.lst (a ++ b)) μ) := propext Iff.rfl
theorem r_times {i j : Int} {μ : Mu} {Q : D → Mu → Prop} : fTimes (.int i) (.int j) μ Q = (CM i j ∧ Q (.int (i * j)) μ) := propext Iff.rfl
theorem r_timesl {a : List D} {n : Int} {μ : Mu} {Q : D → Mu → Prop} : fTimes (.lst a) (.int n) μ Q = (-(2 ^ 63) ≤ n ∧ n < 2 ^ 63 ∧ a.length * n.toNat ≤ sizeLine ∧ Q (.lst (List.replicate n.toNat a).flatten) μ) := propext Iff.rfl
theorem r_isn {x : D} {μ : Mu} {Q : D → Mu → Prop} : fIsN x .non μ Q = Q (.bl (DL.isNon x)) μ := propext Iff.rfl
theorem r_notn {x : D} {μ : Mu} {Q : D → Mu → Prop} : fNotN x .non μ Q = Q (.bl (!DL.isNon x)) μ := propext Iff.rfl
theorem r_eqd {x y : D} {μ : Mu} {Q : D → Mu → Prop} : fEqD x y μ Q = eqD x y fun b => Q (.bl b) μ := propext Iff.rfl
theorem r_ned {x y : D} {μ : Mu} {Q : D → Mu → Prop} : fNeD x y μ Q = eqD x y fun b => Q (.bl (!b)) μ := propext Iff.rfl
theorem r_int1 {i : Int} {μ : Mu} {Q : D → Mu → Prop} : fInt1 [.int i] μ Q = Q (.int i) μ := propext Iff.rfl
theorem r_int1b {b : Bool} {μ : Mu} {Q : D → Mu → Prop} : fInt1 [.bl b] μ Q = Q (.int (if b then 1 else 0)) μ := propext Iff.rfl
theorem r_max2 {i j : Int} {μ : Mu} {Q : D → Mu → Prop} : fMax2 [.int i, .int j] μ Q = Q (.int (if j > i then j else i)) μ := propext Iff.rfl
theorem r_min2 {i j : Int} {μ : Mu} {Q : D → Mu → Prop} : fMin2 [.int i, .int j] μ Q = Q (.int (if j < i then j else i)) μ := propext Iff.rfl
theorem r_abs {i : Int} {μ : Mu} {Q : D → Mu → Prop} : fAbs [.int i] μ Q = Q (.int (if i < 0 then -i else i)) μ := propext Iff.rfl
def KIx (o : Option (List D)) (i : Int) (μ : Mu) (Q : D → Mu → Prop) : Prop := match o with
  | some ds => (match atI ds i with
    | some d => Q d μ
    | none => False)
  | none => False
theorem r_ix {x : D} {i : Int} {μ : Mu} {Q : D → Mu → Prop} : fIx x (.int i) μ Q = KIx (itemsD x μ) i μ Q := by
  unfold fIx KIx
  cases itemsD x μ <;> exact propext Iff.rfl
def KIx2 (o : Option D) (μ : Mu) (Q : D → Mu → Prop) : Prop := match o with
  | some d => Q d μ
  | none => False
theorem r_ix2 {ds : List D} {i : Int} {μ : Mu} {Q : D → Mu → Prop} : KIx (some ds) i μ Q = KIx2 (atI ds i) μ Q := propext Iff.rfl
theorem r_ix3 {d : D} {μ : Mu} {Q : D → Mu → Prop} : KIx2 (some d) μ Q = Q d μ := propext Iff.rfl
def KLen (o : Option (List D)) (μ : Mu) (Q : D → Mu → Prop) : Prop := match o with
  | some ds => Q (.int ds.length) μ
  | none => False
theorem r_len {x : D} {μ : Mu} {Q : D → Mu → Prop} : fLen [x] μ Q = KLen (itemsD x μ) μ Q := propext Iff.rfl
theorem r_len2 {ds : List D} {μ : Mu} {Q : D → Mu → Prop} : KLen (some ds) μ Q = Q (.int ds.length) μ := propext Iff.rfl
def KIsi (o : Option Bool) (μ : Mu) (Q : D → Mu → Prop) : Prop := match o with
  | some b => Q (.bl b) μ
  | none => False
theorem r_isi {f : TyN → TyN → Option Bool} {x c : D} {μ : Mu} {Q : D → Mu → Prop} : fIsi f [x, c] μ Q = KIsi (isiD f x c μ) μ Q := propext Iff.rfl
theorem r_isi2 {b : Bool} {μ : Mu} {Q : D → Mu → Prop} : KIsi (some b) μ Q = Q (.bl b) μ := propext Iff.rfl
def KFld2 (o : Option D) (μ : Mu) (Q : D → Mu → Prop) : Prop := match o with
  | some d => Q d μ
  | none => False
def KFld (c f : Str) (o : Option (Str × List Str × List D)) (μ : Mu) (Q : D → Mu → Prop) : Prop := match o with
  | some (c', ks, ds) => c' = c ∧ KFld2 (fldOf f ks ds) μ Q
  | none => False
theorem r_fld {c f : Str} {x : D} {μ : Mu} {Q : D → Mu → Prop} : fFld c f x μ Q = KFld c f (insD x μ) μ Q := by
  unfold fFld KFld KFld2
  exact propext Iff.rfl
theorem r_fld2 {c f c' : Str} {ks : List Str} {ds : List D} {μ : Mu} {Q : D → Mu → Prop} : KFld c f (some (c', ks, ds)) μ Q = (c' = c ∧ KFld2 (fldOf f ks ds) μ Q) := propext Iff.rfl
theorem r_fld3 {d : D} {μ : Mu} {Q : D → Mu → Prop} : KFld2 (some d) μ Q = Q d μ := propext Iff.rfl
theorem r_insobj {c : Str} {ks : List Str} {ds : List D} {μ : Mu} : insD (.obj c ks ds) μ = some (c, ks, ds) := rfl
def KX (E : DEnds) (ρ : DS) : XD := fun c ks es μ => E.xc c ks es ρ μ
theorem r_kx {c : Str} {ks : List Str} {es : List D} {E : DEnds} {ρ : DS} {μ : Mu} : KX E ρ c ks es μ = E.xc c ks es ρ μ := propext Iff.rfl
theorem r_next {E : DEnds} {ρ : DS} {μ : Mu} : sNext E ρ μ = E.nx ρ μ := propext Iff.rfl
theorem r_never {E : DEnds} {ρ : DS} {μ : Mu} : sNever E ρ μ = False := propext Iff.rfl
def KSeq (b : WS) (E : DEnds) : DS → Mu → Prop := fun ρ μ => b E ρ μ
theorem r_seq {a b : WS} {E : DEnds} {ρ : DS} {μ : Mu} : sSeq a b E ρ μ = a { E with nx := KSeq b E } ρ μ := propext Iff.rfl
theorem r_seqa {b : WS} {E : DEnds} {ρ : DS} {μ : Mu} : KSeq b E ρ μ = b E ρ μ := propext Iff.rfl
def KIf (a b : WS) (E : DEnds) (ρ : DS) : Bool → Mu → Prop := fun c μ1 => if c = true then a E ρ μ1 else b E ρ μ1
theorem r_if {t : WT} {a b : WS} {E : DEnds} {ρ : DS} {μ : Mu} : sIf t a b E ρ μ = t ρ μ (KIf a b E ρ) (KX E ρ) := propext Iff.rfl
theorem r_ift {a b : WS} {E : DEnds} {ρ : DS} {μ : Mu} : KIf a b E ρ true μ = a E ρ μ := propext Iff.rfl
theorem r_iff {a b : WS} {E : DEnds} {ρ : DS} {μ : Mu} : KIf a b E ρ false μ = b E ρ μ := propext Iff.rfl
theorem r_ret {wa : WE} {E : DEnds} {ρ : DS} {μ : Mu} : sRet wa E ρ μ = wa ρ μ E.rt (KX E ρ) := propext Iff.rfl
theorem r_retn {E : DEnds} {ρ : DS} {μ : Mu} : sRetN E ρ μ = E.rt .non μ := propext Iff.rfl
theorem r_brk {E : DEnds} {ρ : DS} {μ : Mu} : sBreak E ρ μ = E.bk ρ μ := propext Iff.rfl
theorem r_cnt {E : DEnds} {ρ : DS} {μ : Mu} : sCont E ρ μ = E.ct ρ μ := propext Iff.rfl
def KDrop (E : DEnds) (ρ : DS) : D → Mu → Prop := fun _ μ1 => E.nx ρ μ1
theorem r_drop {wa : WE} {E : DEnds} {ρ : DS} {μ : Mu} : sDrop wa E ρ μ = wa ρ μ (KDrop E ρ) (KX E ρ) := propext Iff.rfl
theorem r_dropa {d : D} {E : DEnds} {ρ : DS} {μ : Mu} : KDrop E ρ d μ = E.nx ρ μ := propext Iff.rfl
def KSet (i : Nat) (E : DEnds) (ρ : DS) : D → Mu → Prop := fun d μ1 => E.nx (ρ.set i (.v d)) μ1
theorem r_set {i : Nat} {wa : WE} {E : DEnds} {ρ : DS} {μ : Mu} : sSet i wa E ρ μ = wa ρ μ (KSet i E ρ) (KX E ρ) := propext Iff.rfl
theorem r_seta {i : Nat} {d : D} {E : DEnds} {ρ : DS} {μ : Mu} : KSet i E ρ d μ = E.nx (ρ.set i (.v d)) μ := propext Iff.rfl
def KAsg (g : WG) (E : DEnds) (ρ : DS) : D → Mu → Prop := fun d μ1 => g d ρ μ1 E.nx
theorem r_asg {g : WG} {wa : WE} {E : DEnds} {ρ : DS} {μ : Mu} : sAsg wa g E ρ μ = wa ρ μ (KAsg g E ρ) (KX E ρ) := propext Iff.rfl
theorem r_asga {g : WG} {d : D} {E : DEnds} {ρ : DS} {μ : Mu} : KAsg g E ρ d μ = g d ρ μ E.nx := propext Iff.rfl
theorem r_name {i : Nat} {d : D} {ρ : DS} {μ : Mu} {Q : DS → Mu → Prop} : kName i d ρ μ Q = Q (ρ.set i (.v d)) μ := propext Iff.rfl
theorem r_namec {i : Nat} {d : D} {ρ : DS} {μ : Mu} {Q : DS → Mu → Prop} : kNameC i d ρ μ Q = (notOwn ρ i ∧ Q (ρ.set i (.v d)) μ) := propext Iff.rfl
theorem r_ktup {n : Nat} {gs : WGs} {ds : List D} {ρ : DS} {μ : Mu} {Q : DS → Mu → Prop} : kTup n gs (.tup ds) ρ μ Q = (ds.length = n ∧ gs ds ρ μ Q) := propext Iff.rfl
theorem r_kunl {n : Nat} {gs : WGs} {ds : List D} {ρ : DS} {μ : Mu} {Q : DS → Mu → Prop} : kUnl n gs (.lst ds) ρ μ Q = (ds.length = n ∧ gs ds ρ μ Q) := propext Iff.rfl
def KCs (gs : WGs) (r : List D) (Q : DS → Mu → Prop) : DS → Mu → Prop := fun ρ1 μ1 => gs r ρ1 μ1 Q
theorem r_kcons {g : WG} {gs : WGs} {d : D} {r : List D} {ρ : DS} {μ : Mu} {Q : DS → Mu → Prop} : kCons g gs (d :: r) ρ μ Q = g d ρ μ (KCs gs r Q) := propext Iff.rfl
theorem r_kcs {gs : WGs} {r : List D} {ρ : DS} {μ : Mu} {Q : DS → Mu → Prop} : KCs gs r Q ρ μ = gs r ρ μ Q := propext Iff.rfl
theorem r_knil {ρ : DS} {μ : Mu} {Q : DS → Mu → Prop} : kNil [] ρ μ Q = Q ρ μ := propext Iff.rfl
theorem r_par2 {i j : Nat} {wa : WA} {E : DEnds} {ρ : DS} {μ : Mu} : sPar2 i j wa E ρ μ = wa ρ μ (kPar2 i j E ρ) (KX E ρ) := propext Iff.rfl
theorem r_par2a {i j : Nat} {a b : D} {E : DEnds} {ρ : DS} {μ : Mu} : kPar2 i j E ρ [a, b] μ = E.nx ((ρ.set i (.v a)).set j (.v b)) μ := propext Iff.rfl
theorem r_par3 {i j l : Nat} {wa : WA} {E : DEnds} {ρ : DS} {μ : Mu} : sPar3 i j l wa E ρ μ = wa ρ μ (kPar3 i j l E ρ) (KX E ρ) := propext Iff.rfl
theorem r_par3a {i j l : Nat} {a b c : D} {E : DEnds} {ρ : DS} {μ : Mu} : kPar3 i j l E ρ [a, b, c] μ = E.nx (((ρ.set i (.v a)).set j (.v b)).set l (.v c)) μ := propext Iff.rfl
def KAug2 (i : Nat) (E : DEnds) (ρ : DS) : D → Mu → Prop := fun z μ2 => E.nx (ρ.set i (.v z)) μ2
def KAug1 (i : Nat) (f : F2) (x : D) (E : DEnds) (ρ : DS) : D → Mu → Prop := fun y μ1 => f x y μ1 (KAug2 i E ρ)
def KAug (o : Option Sl) (i : Nat) (f : F2) (wa : WE) (E : DEnds) (ρ : DS) (μ : Mu) : Prop := match o with
  | some (.v x) => wa ρ μ (KAug1 i f x E ρ) (KX E ρ)
  | _ => False
theorem r_aug {i : Nat} {f : F2} {wa : WE} {E : DEnds} {ρ : DS} {μ : Mu} : sAug i f wa E ρ μ = KAug (ρ[i]?) i f wa E ρ μ := propext Iff.rfl
theorem r_auga {x : D} {i : Nat} {f : F2} {wa : WE} {E : DEnds} {ρ : DS} {μ : Mu} : KAug (some (.v x)) i f wa E ρ μ = wa ρ μ (KAug1 i f x E ρ) (KX E ρ) := propext Iff.rfl
theorem r_augb {x y : D} {i : Nat} {f : F2} {E : DEnds} {ρ : DS} {μ : Mu} : KAug1 i f x E ρ y μ = f x y μ (KAug2 i E ρ) := propext Iff.rfl
theorem r_augc {d : D} {i : Nat} {E : DEnds} {ρ : DS} {μ : Mu} : KAug2 i E ρ d μ = E.nx (ρ.set i (.v d)) μ := propext Iff.rfl
def KFor (g : WG) (b : WS) (E : DEnds) (ρ : DS) : List D → Mu → Prop := fun ds μ1 => forL g b E ds ρ μ1
theorem r_for {wi : WI} {g : WG} {b : WS} {E : DEnds} {ρ : DS} {μ : Mu} : sFor wi g b E ρ μ = wi ρ μ (KFor g b E ρ) (KX E ρ) := propext Iff.rfl
theorem r_fora {g : WG} {b : WS} {ds : List D} {E : DEnds} {ρ : DS} {μ : Mu} : KFor g b E ρ ds μ = forL g b E ds ρ μ := propext Iff.rfl
def KNx (E : DEnds) (μ : Mu) : DS → Prop := fun ρ => E.nx ρ μ
theorem r_knx {E : DEnds} {ρ : DS} {μ : Mu} : KNx E μ ρ = E.nx ρ μ := propext Iff.rfl
def KPut (c : Str) (i : Nat) (f : Str) (d : D) (ρ : DS) (k : DS → Prop) (o : Option Sl) : Prop := match o with
  | some (.own a (.ins c' ks ds)) => c' = c ∧ ks.length < 1000 ∧ k (ρ.set i (.own a (.ins c' (DL.putK f ks) (DL.putD f d ks ds))))
  | _ => False
def KFldO (c : Str) (i : Nat) (f : Str) (E : DEnds) (ρ : DS) : D → Mu → Prop := fun d μ1 => putOwnI c i f d ρ (KNx E μ1)
theorem r_fldo {c : Str} {i : Nat} {f : Str} {wa : WE} {E : DEnds} {ρ : DS} {μ : Mu} : sFldO c i f wa E ρ μ = wa ρ μ (KFldO c i f E ρ) (KX E ρ) := propext Iff.rfl
theorem r_fldoa {c : Str} {i : Nat} {f : Str} {d : D} {E : DEnds} {ρ : DS} {μ : Mu} : KFldO c i f E ρ d μ = KPut c i f d ρ (KNx E μ) (ρ[i]?) := by
  unfold KFldO putOwnI KPut
  exact propext Iff.rfl
theorem r_put {c c' : Str} {i : Nat} {f : Str} {d : D} {a : Addr} {ks : List Str} {ds : List D} {k : DS → Prop} {ρ : DS} : KPut c i f d ρ k (some (.own a (.ins c' ks ds))) = (c' = c ∧ ks.length < 1000 ∧ k (ρ.set i (.own a (.ins c' (DL.putK f ks) (DL.putD f d ks ds))))) := propext Iff.rfl
def KFrz2 (i : Nat) (ρ : DS) (k : DS → Prop) (o : Option D) : Prop := match o with
  | some d => k (ρ.set i (.v d))
  | none => False
def KFrz (i : Nat) (ρ : DS) (k : DS → Prop) (o : Option Sl) : Prop := match o with
  | some (.own _ c) => KFrz2 i ρ k (cellD c)
  | _ => False
def KFz (w : WS) (E : DEnds) (μ : Mu) : DS → Prop := fun ρ => w E ρ μ
theorem r_frz {i : Nat} {w : WS} {E : DEnds} {ρ : DS} {μ : Mu} : sFrz i w E ρ μ = KFrz i ρ (KFz w E μ) (ρ[i]?) := by
  unfold sFrz frz KFrz KFrz2
  exact propext Iff.rfl
theorem r_frz2 {i : Nat} {a : Addr} {c : Cell} {k : DS → Prop} {ρ : DS} : KFrz i ρ k (some (.own a c)) = KFrz2 i ρ k (cellD c) := propext Iff.rfl
theorem r_frz3 {i : Nat} {d : D} {k : DS → Prop} {ρ : DS} : KFrz2 i ρ k (some d) = k (ρ.set i (.v d)) := propext Iff.rfl
theorem r_frz4 {w : WS} {E : DEnds} {ρ : DS} {μ : Mu} : KFz w E μ ρ = w E ρ μ := propext Iff.rfl
theorem r_cl {ds : List D} : cellD (.lst ds) = some (.lst ds) := rfl
def KSetO (i : Nat) (E : DEnds) (ρ : DS) : List D → Mu → Prop := fun ds μ1 => ds.length ≤ 1000 ∧ i < ρ.length ∧ ∀ p, E.nx (ρ.set i (.own p (.lst ds))) μ1
theorem r_seto {i : Nat} {wa : WA} {E : DEnds} {ρ : DS} {μ : Mu} : sSetO i wa E ρ μ = wa ρ μ (KSetO i E ρ) (KX E ρ) := propext Iff.rfl
theorem r_setoa {i : Nat} {ds : List D} {E : DEnds} {ρ : DS} {μ : Mu} : KSetO i E ρ ds μ = (ds.length ≤ 1000 ∧ i < ρ.length ∧ ∀ p, E.nx (ρ.set i (.own p (.lst ds))) μ) := propext Iff.rfl
def KWil (Q : List D → Mu → Prop) : D → Mu → Prop := fun d μ1 => lstOr d fun ds => Q ds μ1
theorem r_wil {wa : WE} {ρ : DS} {μ : Mu} {Q : List D → Mu → Prop} {Xd : XD} : wiL wa ρ μ Q Xd = wa ρ μ (KWil Q) Xd := propext Iff.rfl
theorem r_wila {ds : List D} {μ : Mu} {Q : List D → Mu → Prop} : KWil Q (.lst ds) μ = Q ds μ := propext Iff.rfl
theorem r_wilf {ds : List D} {μ : Mu} {Q : List D → Mu → Prop} : KWil Q (.frl ds) μ = Q ds μ := propext Iff.rfl
def KWit (Q : List D → Mu → Prop) : D → Mu → Prop := fun d μ1 => tupOr d fun ds => Q ds μ1
theorem r_wit {wa : WE} {ρ : DS} {μ : Mu} {Q : List D → Mu → Prop} {Xd : XD} : wiT wa ρ μ Q Xd = wa ρ μ (KWit Q) Xd := propext Iff.rfl
theorem r_wita {ds : List D} {μ : Mu} {Q : List D → Mu → Prop} : KWit Q (.tup ds) μ = Q ds μ := propext Iff.rfl
def KWi1 (Q : List D → Mu → Prop) : List D → Mu → Prop := fun ds μ1 => rg1 ds fun es => Q es μ1
theorem r_wi1 {wa : WA} {ρ : DS} {μ : Mu} {Q : List D → Mu → Prop} {Xd : XD} : wiR1 wa ρ μ Q Xd = wa ρ μ (KWi1 Q) Xd := propext Iff.rfl
theorem r_wi1a {j : Int} {μ : Mu} {Q : List D → Mu → Prop} : KWi1 Q [.int j] μ = rg1 [.int j] fun es => Q es μ := propext Iff.rfl
def KWi2 (Q : List D → Mu → Prop) : List D → Mu → Prop := fun ds μ1 => rg2 ds fun es => Q es μ1
theorem r_wi2 {wa : WA} {ρ : DS} {μ : Mu} {Q : List D → Mu → Prop} {Xd : XD} : wiR2 wa ρ μ Q Xd = wa ρ μ (KWi2 Q) Xd := propext Iff.rfl
theorem r_wi2a {i j : Int} {μ : Mu} {Q : List D → Mu → Prop} : KWi2 Q [.int i, .int j] μ = rg2 [.int i, .int j] fun es => Q es μ := propext Iff.rfl
def KWie (Q : List D → Mu → Prop) : List D → Mu → Prop := fun ds μ1 => lst1 ds fun es => Q (enumD es) μ1
theorem r_wie {wa : WA} {ρ : DS} {μ : Mu} {Q : List D → Mu → Prop} {Xd : XD} : wiEnum wa ρ μ Q Xd = wa ρ μ (KWie Q) Xd := propext Iff.rfl
theorem r_wiea {ds : List D} {μ : Mu} {Q : List D → Mu → Prop} : KWie Q [.lst ds] μ = Q (enumD ds) μ := propext Iff.rfl
def KWiz (Q : List D → Mu → Prop) : List D → Mu → Prop := fun ds μ1 => zip2 ds fun es => Q es μ1
theorem r_wiz {wa : WA} {ρ : DS} {μ : Mu} {Q : List D → Mu → Prop} {Xd : XD} : wiZip wa ρ μ Q Xd = wa ρ μ (KWiz Q) Xd := propext Iff.rfl
theorem r_wiza {a b : List D} {μ : Mu} {Q : List D → Mu → Prop} : KWiz Q [.lst a, .lst b] μ = Q (zipD a b) μ := propext Iff.rfl
theorem r_wizt {a b : List D} {μ : Mu} {Q : List D → Mu → Prop} : KWiz Q [.tup a, .tup b] μ = Q (zipD a b) μ := propext Iff.rfl
def KLc3 (g : WG) (tt : WT) (te : WE) (ρw : DS) (ds acc : List D) (Q : D → Mu → Prop) : D → Mu → Prop := fun y μ4 => acc.length < 1000000 ∧ lcL g tt te ρw ds (acc ++ [y]) μ4 Q
def KLc2 (g : WG) (tt : WT) (te : WE) (ρw : DS) (ρ2 : DS) (ds acc : List D) (Q : D → Mu → Prop) : Bool → Mu → Prop := fun b μ3 => if b = true then te ρ2 μ3 (KLc3 g tt te ρw ds acc Q) xF else lcL g tt te ρw ds acc μ3 Q
def KLc1 (g : WG) (tt : WT) (te : WE) (ρw : DS) (ds acc : List D) (Q : D → Mu → Prop) : DS → Mu → Prop := fun ρ2 μ2 => tt ρ2 μ2 (KLc2 g tt te ρw ρ2 ds acc Q) xF
def KLc0 (g : WG) (tt : WT) (te : WE) (vs : List Nat) (ρ : DS) (Q : D → Mu → Prop) : List D → Mu → Prop := fun ds μ1 => (∀ v ∈ vs, notOwn ρ v) ∧ lcL g tt te (DL.wipeD ρ vs) ds [] μ1 Q
theorem r_lc {wi : WI} {g : WG} {tt : WT} {te : WE} {vs : List Nat} {ρ : DS} {μ : Mu} {Q : D → Mu → Prop} {Xd : XD} : wLc wi g tt te vs ρ μ Q Xd = wi ρ μ (KLc0 g tt te vs ρ Q) Xd := propext Iff.rfl
theorem r_lc0 {g : WG} {tt : WT} {te : WE} {vs : List Nat} {ds : List D} {ρ : DS} {μ : Mu} {Q : D → Mu → Prop} : KLc0 g tt te vs ρ Q ds μ = ((∀ v ∈ vs, notOwn ρ v) ∧ lcL g tt te (DL.wipeD ρ vs) ds [] μ Q) := propext Iff.rfl
theorem r_lcn {g : WG} {tt : WT} {te : WE} {ρw : DS} {acc : List D} {μ : Mu} {Q : D → Mu → Prop} : lcL g tt te ρw [] acc μ Q = Q (.lst acc) μ := propext Iff.rfl
theorem r_lcc {g : WG} {tt : WT} {te : WE} {ρw : DS} {d : D} {ds acc : List D} {μ : Mu} {Q : D → Mu → Prop} : lcL g tt te ρw (d :: ds) acc μ Q = g d ρw μ (KLc1 g tt te ρw ds acc Q) := by
  rw [lcL]
  exact propext Iff.rfl
theorem r_lc1 {g : WG} {tt : WT} {te : WE} {ρw : DS} {ds acc : List D} {ρ : DS} {μ : Mu} {Q : D → Mu → Prop} : KLc1 g tt te ρw ds acc Q ρ μ = tt ρ μ (KLc2 g tt te ρw ρ ds acc Q) xF := propext Iff.rfl
theorem r_lc2t {g : WG} {tt : WT} {te : WE} {ρw : DS} {ds acc : List D} {ρ : DS} {μ : Mu} {Q : D → Mu → Prop} : KLc2 g tt te ρw ρ ds acc Q true μ = te ρ μ (KLc3 g tt te ρw ds acc Q) xF := propext Iff.rfl
theorem r_lc2f {g : WG} {tt : WT} {te : WE} {ρw : DS} {ds acc : List D} {ρ : DS} {μ : Mu} {Q : D → Mu → Prop} : KLc2 g tt te ρw ρ ds acc Q false μ = lcL g tt te ρw ds acc μ Q := propext Iff.rfl
theorem r_lc3 {g : WG} {tt : WT} {te : WE} {ρw : DS} {ds acc : List D} {y : D} {μ : Mu} {Q : D → Mu → Prop} : KLc3 g tt te ρw ds acc Q y μ = (acc.length < 1000000 ∧ lcL g tt te ρw ds (acc ++ [y]) μ Q) := propext Iff.rfl
theorem r_yes {ρ : DS} {μ : Mu} {Q : Bool → Mu → Prop} {Xd : XD} : wYes ρ μ Q Xd = Q true μ := propext Iff.rfl
def KSub3 (ρ : DS) (Q : DS → Mu → Prop) : Mu → Prop := fun μ3 => Q ρ μ3
def KSub2 (x d : D) (ρ : DS) (Q : DS → Mu → Prop) : D → Mu → Prop := fun y μ2 => stL x y d μ2 (KSub3 ρ Q)
def KSub1 (wi : WE) (d : D) (ρ : DS) (Q : DS → Mu → Prop) : D → Mu → Prop := fun x μ1 => wi ρ μ1 (KSub2 x d ρ Q) xF
theorem r_sub {wo wi : WE} {d : D} {ρ : DS} {μ : Mu} {Q : DS → Mu → Prop} : kSub wo wi d ρ μ Q = wo ρ μ (KSub1 wi d ρ Q) xF := propext Iff.rfl
theorem r_sub1 {wi : WE} {x d : D} {ρ : DS} {μ : Mu} {Q : DS → Mu → Prop} : KSub1 wi d ρ Q x μ = wi ρ μ (KSub2 x d ρ Q) xF := propext Iff.rfl
theorem r_sub2 {x y d : D} {ρ : DS} {μ : Mu} {Q : DS → Mu → Prop} : KSub2 x d ρ Q y μ = stL x y d μ (KSub3 ρ Q) := propext Iff.rfl
theorem r_sub3 {ρ : DS} {μ : Mu} {Q : DS → Mu → Prop} : KSub3 ρ Q μ = Q ρ μ := propext Iff.rfl
theorem r_dnx {Q : D → Mu → Prop} {Xd : XD} {ρ : DS} {μ : Mu} : (defE Q Xd).nx ρ μ = Q .non μ := propext Iff.rfl
theorem r_drt {Q : D → Mu → Prop} {Xd : XD} : (defE Q Xd).rt = Q := rfl
theorem r_dxc {c : Str} {ks : List Str} {es : List D} {Q : D → Mu → Prop} {Xd : XD} {ρ : DS} {μ : Mu} : (defE Q Xd).xc c ks es ρ μ = Xd c ks es μ := propext Iff.rfl
def KInit (Q : List Str → List D → Mu → Prop) (μ : Mu) : List Str → List D → Prop := fun ks ds => Q ks ds μ
theorem r_inx {c : Str} {a : Addr} {Q : List Str → List D → Mu → Prop} {Xd : XD} {ρ : DS} {μ : Mu} : (defI c a Q Xd).nx ρ μ = initEnd c a (KInit Q μ) ρ := propext Iff.rfl
theorem r_init {ks : List Str} {ds : List D} {Q : List Str → List D → Mu → Prop} {μ : Mu} : KInit Q μ ks ds = Q ks ds μ := propext Iff.rfl
theorem r_ixc {n c : Str} {a : Addr} {ks : List Str} {es : List D} {Q : List Str → List D → Mu → Prop} {Xd : XD} {ρ : DS} {μ : Mu} : (defI n a Q Xd).xc c ks es ρ μ = Xd c ks es μ := propext Iff.rfl
end DL

set_option Elab.async false
set_option linter.all false
set_option maxRecDepth 100000
set_option maxHeartbeats 4000000
set_option autoImplicit false
set_option exponentiation.threshold 3000
namespace DL
open PySem PySem.Spec PyProof.Rows L2
/-! ### frames of exceptions, properties, while -/
section
variable {E : DEnds} {ρ : DS} {μ : Mu} {Q : D → Mu → Prop} {Xd : XD} {c : Str} {ks : List Str} {ds es : List D} {i : Nat}
def KRaise (c : Str) (ks : List Str) (E : DEnds) (ρ : DS) : List D → Mu → Prop := fun ds μ1 => ds.length ≤ 1000 ∧ ds.length = ks.length ∧ E.xc c ks.reverse ds.reverse ρ μ1
theorem t_raise {wa : WA} : sRaise c ks wa E ρ μ = wa ρ μ (KRaise c ks E ρ) (KX E ρ) := propext Iff.rfl
theorem t_raise2 : KRaise c ks E ρ ds μ = (ds.length ≤ 1000 ∧ ds.length = ks.length ∧ E.xc c ks.reverse ds.reverse ρ μ) := propext Iff.rfl
theorem t_try {mt : Str → Option Bool} {wb wsu : WS} : sTry mt i wb wsu E ρ μ = wb { E with xc := caught mt i wsu E } ρ μ := propext Iff.rfl
def KCat (o : Option Bool) (i : Nat) (wsu : WS) (E : DEnds) (c : Str) (ks : List Str) (es : List D) (ρ : DS) (μ : Mu) : Prop := match o with
  | some true => wsu (suiteE i E) (ρ.set i (.exn c ks es)) μ
  | some false => E.xc c ks es ρ μ
  | none => False
theorem t_cat {mt : Str → Option Bool} {wsu : WS} : caught mt i wsu E c ks es ρ μ = KCat (mt c) i wsu E c ks es ρ μ := propext Iff.rfl
theorem t_catt {wsu : WS} : KCat (some true) i wsu E c ks es ρ μ = wsu (suiteE i E) (ρ.set i (.exn c ks es)) μ := propext Iff.rfl
theorem t_catf {wsu : WS} : KCat (some false) i wsu E c ks es ρ μ = E.xc c ks es ρ μ := propext Iff.rfl
theorem t_sunx : (suiteE i E).nx ρ μ = (noExn (ρ.set i .no) = true ∧ E.nx (ρ.set i .no) μ) := propext Iff.rfl
theorem t_surt : (suiteE i E).rt = E.rt := rfl
theorem t_nx0 : noExn [] = true := rfl
theorem t_nx1 : noExn (.no :: ρ) = noExn ρ := rfl
theorem t_nx2 {d : D} : noExn (.v d :: ρ) = noExn ρ := rfl
theorem t_nx3 {a : Addr} {c : Cell} : noExn (.own a c :: ρ) = noExn ρ := rfl
def KProp (c : Str) (sp : DSp) (Q : D → Mu → Prop) : D → Mu → Prop := fun x μ1 => isCls c x μ1 (sp [x] μ1 Q xF)
theorem t_prop {sp : DSp} {wa : WE} : wProp c sp wa ρ μ Q Xd = wa ρ μ (KProp c sp Q) Xd := propext Iff.rfl
theorem t_prop2 {sp : DSp} {x : D} : KProp c sp Q x μ = isCls c x μ (sp [x] μ Q xF) := propext Iff.rfl
def KXf (o : Option Sl) (cs : List Str) (f : Str) (μ : Mu) (Q : D → Mu → Prop) : Prop := match o with
  | some (.exn c ks ds) => c ∈ cs ∧ KFld2 (fldOf f ks ds) μ Q
  | _ => False
theorem t_xf {cs : List Str} {f : Str} : wXf cs i f ρ μ Q Xd = KXf (ρ[i]?) cs f μ Q := by
  unfold wXf KXf KExn getX KFld2
  exact propext Iff.rfl
theorem t_xf2 {cs : List Str} {f : Str} : KXf (some (.exn c ks ds)) cs f μ Q = (c ∈ cs ∧ KFld2 (fldOf f ks ds) μ Q) := propext Iff.rfl
def KIsX (o : Option Sl) (f : TyN → TyN → Option Bool) (cn : Str) (μ : Mu) (Q : D → Mu → Prop) : Prop := match o with
  | some (.exn c _ _) => KIsi (f (.c c) (.c cn)) μ Q
  | _ => False
theorem t_isx {f : TyN → TyN → Option Bool} {cn : Str} : wIsE f i cn ρ μ Q Xd = KIsX (ρ[i]?) f cn μ Q := by
  unfold wIsE KIsX KExn KIsi
  exact propext Iff.rfl
theorem t_isx2 {f : TyN → TyN → Option Bool} {cn : Str} : KIsX (some (.exn c ks ds)) f cn μ Q = KIsi (f (.c c) (.c cn)) μ Q := propext Iff.rfl
def KWh (b : WS) (K : DS → Mu → Prop) (E : DEnds) (ρ : DS) : Bool → Mu → Prop := fun k μ1 => if k = true then b { E with nx := K, ct := K, bk := E.nx } ρ μ1 else E.nx ρ μ1
theorem t_wht {b : WS} {K : DS → Mu → Prop} : KWh b K E ρ true μ = b { E with nx := K, ct := K, bk := E.nx } ρ μ := propext Iff.rfl
theorem t_whf {b : WS} {K : DS → Mu → Prop} : KWh b K E ρ false μ = E.nx ρ μ := propext Iff.rfl
/-- a while loop: a measure falls -/
theorem while_ind {t : WT} {b : WS} (I : Nat → DS → Mu → Prop) (step : ∀ n ρ μ (K : DS → Mu → Prop), I n ρ μ → (∀ m ρ' μ', m < n → I m ρ' μ' → K ρ' μ') → t ρ μ (KWh b K E ρ) (KX E ρ)) {n : Nat} (h : I n ρ μ) : sWhile t b E ρ μ := by
  have all : ∀ n ρ μ, I n ρ μ → ∀ N, n < N → whileL t b E N ρ μ := by
    intro n
    induction n using Nat.strongRecOn with
    | _ n ih =>
      intro ρ μ h N hN
      cases N with
      | zero => exact absurd hN (Nat.not_lt_zero _)
      | succ N => exact step n ρ μ (whileL t b E N) h fun m ρ' μ' hm hi => ih m hm ρ' μ' hi N (by omega)
  exact ⟨n + 1, all n ρ μ h _ (Nat.lt_succ_self n)⟩
end
theorem t_equ {x y : D} {μ : Mu} {Q : D → Mu → Prop} : fEqU x y μ Q = eqU x y fun b => Q (.bl b) μ := propext Iff.rfl
theorem t_neu {x y : D} {μ : Mu} {Q : D → Mu → Prop} : fNeU x y μ Q = eqU x y fun b => Q (.bl (!b)) μ := propext Iff.rfl
/-! ### comparisons of texts and lists -/
theorem atoms_no {x y : D} {k : Bool → Prop} {u v : V} (h1 : atomV x = some u) (h2 : atomV y = some v) (hs : scal u v = true) (hd : ∀ k', eqD x y k' → k' (decide (u = v))) : eqU x y k = k (decide (u = v)) := by
  apply propext
  constructor
  · rintro (⟨u', v', e1, e2, _, h⟩ | h)
    · rw [h1] at e1
      rw [h2] at e2
      cases e1
      cases e2
      exact h
    · exact hd k h
  · intro h
    exact .inl ⟨u, v, h1, h2, hs, h⟩
theorem eqU_int {i j : Int} {k : Bool → Prop} : eqU (.int i) (.int j) k = k (decide (i = j)) := by
  have e : decide (V.int i = V.int j) = decide (i = j) := by rw [dec_int, Bool.beq_eq_decide_eq]
  rw [atoms_no (x := .int i) (y := .int j) rfl rfl rfl fun k' h => by rw [eqD_int] at h; rw [e]; exact h, e]
theorem eqU_str {a b : Str} {k : Bool → Prop} : eqU (.str a) (.str b) k = k (decide (a = b)) := by
  have e : decide (V.str a = V.str b) = decide (a = b) := by
    rw [Bool.eq_iff_iff]
    simp
  rw [atoms_no (x := .str a) (y := .str b) rfl rfl rfl fun k' h => by
    obtain ⟨p, q, h1, h2, _, _, h⟩ := h
    rw [toP] at h1 h2
    cases h1
    cases h2
    have e' : PyData.eqv (.str a) (.str b) = decide (a = b) := by
      rw [Bool.eq_iff_iff]; simp [PyData.eqv]
    rw [e, ← e']; exact h, e]
theorem eqU_bl {a b : Bool} {k : Bool → Prop} : eqU (.bl a) (.bl b) k = k (a == b) := by
  have e : decide (V.bl a = V.bl b) = (a == b) := by cases a <;> cases b <;> decide
  rw [atoms_no (x := .bl a) (y := .bl b) rfl rfl rfl fun k' h => by
    obtain ⟨p, q, h1, h2, _, _, h⟩ := h
    rw [toP] at h1 h2
    cases h1
    cases h2
    have e' : PyData.eqv (.bool a) (.bool b) = (a == b) := by cases a <;> cases b <;> rfl
    rw [e, ← e']; exact h, e]
/-! ### a comprehension that tells of each item -/
def KEl (te : WE) (K : D → Mu → Prop) : DS → Mu → Prop := fun ρ2 μ2 => te ρ2 μ2 K xF
theorem t_el {te : WE} {K : D → Mu → Prop} {ρ : DS} {μ : Mu} : KEl te K ρ μ = te ρ μ K xF := propext Iff.rfl
end DL

set_option Elab.async false
set_option linter.all false
set_option maxRecDepth 100000
set_option maxHeartbeats 4000000
set_option autoImplicit false
set_option exponentiation.threshold 3000
namespace DL
open PySem PySem.Spec PyProof.Rows L2
/-! frames of DX8 to DX11 -/
section
variable {Q : D → Mu → Prop} {Xd : XD} {ρ : DS} {μ : Mu} {E : DEnds}
def KLof (o : Option (List D)) (μ : Mu) (Q : D → Mu → Prop) : Prop := match o with
  | some ds => Q (.lst ds) μ
  | none => False
def KTof (o : Option (List D)) (μ : Mu) (Q : D → Mu → Prop) : Prop := match o with
  | some ds => Q (.tup ds) μ
  | none => False
theorem u_lof {x : D} : fListOf [x] μ Q = KLof (itemsD x μ) μ Q := propext Iff.rfl
theorem u_lof2 {ds : List D} : KLof (some ds) μ Q = Q (.lst ds) μ := propext Iff.rfl
theorem u_tof {x : D} : fTupOf [x] μ Q = KTof (itemsD x μ) μ Q := propext Iff.rfl
theorem u_tof2 {ds : List D} : KTof (some ds) μ Q = Q (.tup ds) μ := propext Iff.rfl
theorem u_isiT {f : TyN → TyN → Option Bool} {x : D} {cs : List D} : fIsiT f [x, .tup cs] μ Q = KIsi (isiDT f x cs μ) μ Q := propext Iff.rfl
theorem u_dict {i j : Int} : wDictII i j ρ μ Q Xd = Q (.opq (.dK [(.inl i, .int j)])) μ := propext Iff.rfl
/-! own comparisons -/
def KBl (neg : Bool) (Q : D → Mu → Prop) : D → Mu → Prop := fun d μ1 => fBool d fun b => Q (.bl (neg ^^ b)) μ1
theorem u_bl {neg b : Bool} : KBl neg Q (.bl b) μ = Q (.bl (neg ^^ b)) μ := propext Iff.rfl
theorem u_own {c : Str} {Ts : List String} {Cs : List Str} {sp : DSp} {x y : D} : fOwn c Ts Cs sp x y μ Q = isCls c x μ (othC Ts Cs y μ (sp [x, y] μ Q xF)) := propext Iff.rfl
theorem u_ownN {c : Str} {Ts : List String} {Cs : List Str} {sp : DSp} {x y : D} : fOwnN c Ts Cs sp x y μ Q = isCls c x μ (othC Ts Cs y μ (sp [x, y] μ (KBl true Q) xF)) := by
  unfold fOwnN KBl
  simp only [Bool.true_xor]
theorem u_has {c : Str} {sp : DSp} {x y : D} : fHas c sp y x μ Q = isCls c x μ (sp [x, y] μ (KBl false Q) xF) := by
  unfold fHas KBl
  simp only [Bool.false_xor]
theorem u_hasN {c : Str} {sp : DSp} {x y : D} : fHasN c sp y x μ Q = isCls c x μ (sp [x, y] μ (KBl true Q) xF) := by
  unfold fHasN KBl
  simp only [Bool.true_xor]
/-! reflected, static -/
def KBk2 (c T : Str) (T' : String) (sp : DSp) (y : D) (Q : D → Mu → Prop) (Xd : XD) : D → Mu → Prop := fun x μ2 => isTy T' y μ2 (isCls c x μ2 (sp [x, y] μ2 Q Xd))
def KBk1 (c : Str) (T : String) (sp : DSp) (wb : WE) (ρ : DS) (Q : D → Mu → Prop) (Xd : XD) : D → Mu → Prop := fun y μ1 => wb ρ μ1 (KBk2 c c T sp y Q Xd) Xd
theorem u_bk {c : Str} {T : String} {sp : DSp} {wa wb : WE} : wBack c T sp wa wb ρ μ Q Xd = wa ρ μ (KBk1 c T sp wb ρ Q Xd) Xd := propext Iff.rfl
theorem u_bk1 {c : Str} {T : String} {sp : DSp} {wb : WE} {y : D} : KBk1 c T sp wb ρ Q Xd y μ = wb ρ μ (KBk2 c c T sp y Q Xd) Xd := propext Iff.rfl
theorem u_bk2 {c c' : Str} {T : String} {sp : DSp} {x y : D} : KBk2 c c' T sp y Q Xd x μ = isTy T y μ (isCls c x μ (sp [x, y] μ Q Xd)) := propext Iff.rfl
theorem u_stat {sp : DSp} : wStat sp ρ μ Q Xd = sp [] μ Q Xd := propext Iff.rfl
/-! own lists -/
def KAp (i : Nat) (p : Addr) (ds : List D) (E : DEnds) (ρ : DS) : List D → Mu → Prop := fun xs μ1 => ds.length < 1000000 ∧ ∃ d, xs = [d] ∧ E.nx (ρ.set i (.own p (.lst (ds ++ [d])))) μ1
theorem u_ap {i : Nat} {wa : WA} : sAppO i wa E ρ μ = appO i wa E ρ μ (ρ[i]?) := propext Iff.rfl
theorem u_ap1 {i : Nat} {wa : WA} {p : Addr} {ds : List D} : appO i wa E ρ μ (some (.own p (.lst ds))) = wa ρ μ (KAp i p ds E ρ) (KX E ρ) := propext Iff.rfl
theorem u_ap2 {i : Nat} {p : Addr} {ds : List D} {d : D} : KAp i p ds E ρ [d] μ = (ds.length < 1000000 ∧ E.nx (ρ.set i (.own p (.lst (ds ++ [d])))) μ) := by
  apply propext
  constructor
  · rintro ⟨h, d', e, q⟩
    cases e
    exact ⟨h, q⟩
  · rintro ⟨h, q⟩
    exact ⟨h, d, rfl, q⟩
def KEx (i : Nat) (p : Addr) (ds : List D) (E : DEnds) (ρ : DS) : List D → Mu → Prop := fun xs μ1 => ∃ zs, xs = [.lst zs] ∧ ds.length + zs.length ≤ 1000000 ∧ E.nx (ρ.set i (.own p (.lst (ds ++ zs)))) μ1
theorem u_ex {i : Nat} {wa : WA} : sExtO i wa E ρ μ = extO i wa E ρ μ (ρ[i]?) := propext Iff.rfl
theorem u_ex1 {i : Nat} {wa : WA} {p : Addr} {ds : List D} : extO i wa E ρ μ (some (.own p (.lst ds))) = wa ρ μ (KEx i p ds E ρ) (KX E ρ) := propext Iff.rfl
theorem u_ex2 {i : Nat} {p : Addr} {ds zs : List D} : KEx i p ds E ρ [.lst zs] μ = (ds.length + zs.length ≤ 1000000 ∧ E.nx (ρ.set i (.own p (.lst (ds ++ zs)))) μ) := by
  apply propext
  constructor
  · rintro ⟨zs', e, h, q⟩
    cases e
    exact ⟨h, q⟩
  · rintro ⟨h, q⟩
    exact ⟨zs, rfl, h, q⟩
theorem room2 {k : Nat} {A : Around} (r : Room k A) : A.units + 1 < cLine := by have := r.un; omega
theorem u_kd {L : List (List Int × Int)} {ds : List D} : fKd L (.tup ds) μ Q = ∃ ks, intsD ds = some ks ∧ ∃ v, kdGet L ks = some v ∧ Q (.int v) μ := propext Iff.rfl
def KWizX (Q : List D → Mu → Prop) : List D → Mu → Prop := fun ds μ1 => zipX2 ds fun es => Q es μ1
theorem u_wzx {wa : WA} {Q : List D → Mu → Prop} : wiZipX wa ρ μ Q Xd = wa ρ μ (KWizX Q) Xd := propext Iff.rfl
theorem u_wzl {a b : List D} {Q : List D → Mu → Prop} : KWizX Q [.lst a, .lst b] μ = Q (zipD a b) μ := propext Iff.rfl
theorem u_wzt {a b : List D} {Q : List D → Mu → Prop} : KWizX Q [.tup a, .tup b] μ = Q (zipD a b) μ := propext Iff.rfl
theorem u_wzm {a b : List D} {Q : List D → Mu → Prop} : KWizX Q [.tup a, .lst b] μ = Q (zipD a b) μ := propext Iff.rfl
theorem u_zd {a b : List D} {x y : D} : zipD (x :: a) (y :: b) = .tup [x, y] :: zipD a b := rfl
theorem u_zd0 {b : List D} : zipD [] b = [] := rfl
def KWeX (Q : List D → Mu → Prop) : List D → Mu → Prop := fun ds μ1 => enX ds fun es => Q es μ1
theorem u_wex {wa : WA} {Q : List D → Mu → Prop} : wiEnumX wa ρ μ Q Xd = wa ρ μ (KWeX Q) Xd := propext Iff.rfl
theorem u_wel {a : List D} {Q : List D → Mu → Prop} : KWeX Q [.lst a] μ = Q (enumD a) μ := propext Iff.rfl
theorem u_wef {a : List D} {Q : List D → Mu → Prop} : KWeX Q [.frl a] μ = Q (enumD a) μ := propext Iff.rfl
theorem u_wet {a : List D} {Q : List D → Mu → Prop} : KWeX Q [.tup a] μ = Q (enumD a) μ := propext Iff.rfl
def enN : Nat → List D → List D
  | _, [] => []
  | n, d :: ds => .tup [.int n, d] :: enN (n + 1) ds
theorem enN_eq : ∀ (ds : List D) (n : Nat), ds.mapIdx (fun i d => D.tup [.int ((n + i : Nat) : Int), d]) = enN n ds
  | [], n => rfl
  | d :: ds, n => by
    rw [List.mapIdx_cons, enN, ← enN_eq ds (n + 1)]
    congr 1
    refine List.ext_getElem? fun i => ?_
    rw [List.getElem?_mapIdx, List.getElem?_mapIdx]
    have e : n + (i + 1) = n + 1 + i := by omega
    rw [e]
theorem u_en {d : D} {ds : List D} : enumD (d :: ds) = enN 0 (d :: ds) := by
  rw [← enN_eq]
  unfold enumD
  refine List.ext_getElem? fun i => ?_
  rw [List.getElem?_mapIdx, List.getElem?_mapIdx, Nat.zero_add]
theorem u_en0 : enumD [] = [] := rfl
theorem u_enc {n : Nat} {d : D} {ds : List D} : enN n (d :: ds) = .tup [.int n, d] :: enN (n + 1) ds := rfl
theorem u_enn {n : Nat} : enN n [] = [] := rfl
theorem u_ownL {p : Addr} {ds : List D} {k : List D → Prop} : ownL (some (.own p (.lst ds))) k = k ds := propext Iff.rfl
theorem u_olen {i : Nat} : wOwnLen i ρ μ Q Xd = ownL (ρ[i]?) fun ds => Q (.int ds.length) μ := propext Iff.rfl
def KOx (ds : List D) (Q : D → Mu → Prop) : D → Mu → Prop := fun y μ1 => intOr y fun j => KIx2 (atI ds j) μ1 Q
theorem u_oix {i : Nat} {wb : WE} : wOwnIx i wb ρ μ Q Xd = ownL (ρ[i]?) fun ds => wb ρ μ (KOx ds Q) Xd := propext Iff.rfl
theorem u_oix1 {ds : List D} {j : Int} : KOx ds Q (.int j) μ = KIx2 (atI ds j) μ Q := propext Iff.rfl
def KOi (neg : Bool) (ds : List D) (Q : D → Mu → Prop) : D → Mu → Prop := fun x μ1 => ownIn neg x ds fun b => Q (.bl b) μ1
theorem u_oin {neg : Bool} {i : Nat} {wa : WE} : wOwnIn neg i wa ρ μ Q Xd = ownL (ρ[i]?) fun ds => wa ρ μ (KOi neg ds Q) Xd := propext Iff.rfl
def KHotX (sp : XSp) (o : Option Sl) (μ : Mu) (Q : D → Mu → Prop) : Prop := KExn o fun c ks es => sp c ks es μ Q
theorem u_hot {sp : XSp} {i : Nat} : wHotX sp i ρ μ Q Xd = KHotX sp (ρ[i]?) μ Q := propext Iff.rfl
theorem u_hot1 {sp : XSp} {c : Str} {ks : List Str} {es : List D} : KHotX sp (some (.exn c ks es)) μ Q = sp c ks es μ Q := propext Iff.rfl
def KMb2 (f : F2) (x : D) (Q : D → Mu → Prop) : D → Mu → Prop := fun y μ2 => f x y μ2 Q
def KMb (f : F2) (wa : WE) (ρ : DS) (Q : D → Mu → Prop) (Xd : XD) : D → Mu → Prop := fun x μ1 => isL x (wa ρ μ1 (KMb2 f x Q) Xd)
theorem u_mb {f : F2} {wo wa : WE} : wMb f wo wa ρ μ Q Xd = wo ρ μ (KMb f wa ρ Q Xd) Xd := propext Iff.rfl
theorem u_mb1 {f : F2} {wa : WE} {ds : List D} : KMb f wa ρ Q Xd (.lst ds) μ = wa ρ μ (KMb2 f (.lst ds) Q) Xd := propext Iff.rfl
theorem u_mb1f {f : F2} {wa : WE} {ds : List D} : KMb f wa ρ Q Xd (.frl ds) μ = wa ρ μ (KMb2 f (.frl ds) Q) Xd := propext Iff.rfl
theorem u_mb2 {f : F2} {x y : D} : KMb2 f x Q y μ = f x y μ Q := propext Iff.rfl
theorem u_rev {ds : List D} : fRev (.lst ds) μ Q = Q (.lst ds.reverse) μ := propext Iff.rfl
theorem u_revf {ds : List D} : fRev (.frl ds) μ Q = Q (.lst ds.reverse) μ := propext Iff.rfl
def KMu (c1 c2 m : Str) (sp1 sp2 : DSp) (wa : WA) (ρ : DS) (Q : D → Mu → Prop) (Xd : XD) : D → Mu → Prop := fun x μ1 => hasCls c1 m x μ1 (wa ρ μ1 (KMe2 sp1 x Q Xd) Xd) ∨ hasCls c2 m x μ1 (wa ρ μ1 (KMe2 sp2 x Q Xd) Xd)
theorem u_mu {c1 c2 m : Str} {sp1 sp2 : DSp} {wo : WE} {wa : WA} : wMethU c1 c2 m sp1 sp2 wo wa ρ μ Q Xd = wo ρ μ (KMu c1 c2 m sp1 sp2 wa ρ Q Xd) Xd := propext Iff.rfl
theorem u_mu1 {c1 c2 m : Str} {sp1 sp2 : DSp} {wa : WA} {x : D} : KMu c1 c2 m sp1 sp2 wa ρ Q Xd x μ = (hasCls c1 m x μ (wa ρ μ (KMe2 sp1 x Q Xd) Xd) ∨ hasCls c2 m x μ (wa ρ μ (KMe2 sp2 x Q Xd) Xd)) := propext Iff.rfl
theorem u_sumT {ds : List D} : fSumX [.tup ds] μ Q = ∃ ns, intsD ds = some ns ∧ Q (.int ns.sum) μ := propext Iff.rfl
theorem u_sumL {ds : List D} : fSumX [.lst ds] μ Q = ∃ ns, intsD ds = some ns ∧ Q (.int ns.sum) μ := propext Iff.rfl
theorem u_wio {i : Nat} {Q : List D → Mu → Prop} : wiOwn i ρ μ Q Xd = ownL (ρ[i]?) fun ds => Q ds μ := propext Iff.rfl
end
end DL

set_option Elab.async false
set_option linter.all false
set_option maxRecDepth 100000
set_option maxHeartbeats 4000000
set_option autoImplicit false
set_option exponentiation.threshold 3000
namespace DL
open PySem PySem.Spec PyProof.Rows L2
/-! ### == of plain data, by recursion -/
def P0 : D → Bool
  | .non => true
  | .bl _ => true
  | .int _ => true
  | .str s => PyData.strOk s
  | _ => false
def Pn (p : D → Bool) : D → Bool
  | .tup ds => ds.all p
  | .lst ds => ds.all p
  | .frl ds => ds.all p
  | d => P0 d
abbrev P5 : D → Bool := Pn (Pn (Pn (Pn (Pn P0))))
mutual
def deq : D → D → Bool
  | .non, .non => true
  | .bl a, .bl b => a == b
  | .bl a, .int j => decide ((if a then 1 else 0) = j)
  | .int i, .bl b => decide (i = (if b then 1 else 0))
  | .int i, .int j => decide (i = j)
  | .str a, .str b => decide (a = b)
  | .tup a, .tup b => deqs a b
  | .lst a, .lst b => deqs a b
  | .lst a, .frl b => deqs a b
  | .frl a, .lst b => deqs a b
  | .frl a, .frl b => deqs a b
  | _, _ => false
def deqs : List D → List D → Bool
  | [], [] => true
  | x :: xs, y :: ys => deq x y && deqs xs ys
  | _, _ => false
end
/-- data of depth n -/
structure Lay (n : Nat) (d : D) (p : PyData) : Prop where
  to : toP d = some p
  lay : p.canLay0 = true
  dep : p.depth ≤ n
theorem P0_lay {d : D} (h : P0 d = true) : ∃ p, Lay 0 d p := by
  cases d <;> first | (cases h; done) | skip
  · exact ⟨.none, ⟨by rw [toP], rfl, Nat.le_refl _⟩⟩
  · exact ⟨.bool _, ⟨by rw [toP], rfl, Nat.le_refl _⟩⟩
  · exact ⟨.int _, ⟨by rw [toP], rfl, Nat.le_refl _⟩⟩
  · exact ⟨.str _, ⟨by rw [toP], h, Nat.le_refl _⟩⟩
theorem lays {p : D → Bool} {n : Nat} (hp : ∀ d, p d = true → ∃ q, Lay n d q) : ∀ ds : List D, ds.all p = true → ∃ qs, toPs ds = some qs ∧ PyData.canLayAll0 qs = true ∧ PyData.depthAll qs ≤ n
  | [], _ => ⟨[], by rw [toPs], rfl, Nat.zero_le _⟩
  | d :: ds, h => by
    rw [List.all_cons, Bool.and_eq_true_iff] at h
    obtain ⟨q, h1⟩ := hp d h.1
    obtain ⟨qs, h2, h3, h4⟩ := lays hp ds h.2
    refine ⟨q :: qs, by rw [toPs, h1.to, h2], ?_, ?_⟩
    · rw [PyData.canLayAll0, h1.lay, h3]
      rfl
    · rw [PyData.depthAll]
      exact Nat.max_le.mpr ⟨h1.dep, h4⟩
theorem Pn_lay {p : D → Bool} {n : Nat} (hp : ∀ d, p d = true → ∃ q, Lay n d q) {d : D} (h : Pn p d = true) : ∃ q, Lay (n + 1) d q := by
  have low : P0 d = true → ∃ q, Lay (n + 1) d q := fun h => by
    obtain ⟨q, h1⟩ := P0_lay h
    exact ⟨q, h1.to, h1.lay, by have := h1.dep; omega⟩
  cases d with
  | tup ds =>
    obtain ⟨qs, h2, h3, h4⟩ := lays hp ds h
    exact ⟨.tuple qs, by rw [toP, h2]; rfl, h3, Nat.succ_le_succ h4⟩
  | lst ds =>
    obtain ⟨qs, h2, h3, h4⟩ := lays hp ds h
    exact ⟨.list qs, by rw [toP, h2]; rfl, h3, Nat.succ_le_succ h4⟩
  | frl ds =>
    obtain ⟨qs, h2, h3, h4⟩ := lays hp ds h
    exact ⟨.list qs, by rw [toP, h2]; rfl, h3, Nat.succ_le_succ h4⟩
  | non => exact low h
  | bl b => exact low h
  | int i => exact low h
  | str z => exact low h
  | obj c ks ds => exact low h
  | loc n => exact low h
  | ty n => exact low h
  | cls c => exact low h
  | opq o => exact low h
theorem P5_lay {d : D} (h : P5 d = true) : ∃ q, Lay 5 d q := Pn_lay (fun _ h => Pn_lay (fun _ h => Pn_lay (fun _ h => Pn_lay (fun _ h => Pn_lay (fun _ h => P0_lay h) h) h) h) h) h
mutual
theorem deq_eqv : ∀ (x y : D) (p q : PyData), toP x = some p → toP y = some q → PyData.eqv p q = deq x y := by
  intro x y p q hx hy
  cases x <;> simp only [toP, Option.map_eq_some_iff, Option.some.injEq, reduceCtorEq] at hx <;> cases y <;> simp only [toP, Option.map_eq_some_iff, Option.some.injEq, reduceCtorEq] at hy
  all_goals first
    | (subst hx hy; simp [PyData.eqv, deq]; done)
    | (subst hx hy; rw [PyData.eqv, deq, Bool.beq_eq_decide_eq]; done)
    | (obtain ⟨ps, hx, rfl⟩ := hx; obtain ⟨qs, hy, rfl⟩ := hy; rw [PyData.eqv, deq]; exact deqs_eqv _ _ _ _ hx hy)
    | (obtain ⟨ps, hx, rfl⟩ := hx; subst hy; simp [PyData.eqv, deq]; done)
    | (obtain ⟨qs, hy, rfl⟩ := hy; subst hx; simp [PyData.eqv, deq]; done)
    | (obtain ⟨ps, hx, rfl⟩ := hx; obtain ⟨qs, hy, rfl⟩ := hy; simp [PyData.eqv, deq]; done)
theorem deqs_eqv : ∀ (xs ys : List D) (ps qs : List PyData), toPs xs = some ps → toPs ys = some qs → PyData.eqvAll ps qs = deqs xs ys := by
  intro xs ys ps qs hx hy
  cases xs with
  | nil =>
    rw [toPs] at hx
    cases hx
    cases ys with
    | nil => rw [toPs] at hy; cases hy; rfl
    | cons y ys =>
      rw [toPs] at hy
      split at hy
      · cases hy; simp [PyData.eqvAll, deqs]
      · cases hy
  | cons x xs =>
    rw [toPs] at hx
    split at hx
    · rename_i p ps' h1 h2
      cases hx
      cases ys with
      | nil => rw [toPs] at hy; cases hy; simp [PyData.eqvAll, deqs]
      | cons y ys =>
        rw [toPs] at hy
        split at hy
        · rename_i q qs' h3 h4
          cases hy
          rw [PyData.eqvAll, deqs, deq_eqv x y _ _ h1 h3, deqs_eqv xs ys _ _ h2 h4]
        · cases hy
    · cases hx
end
theorem eqU_pl {x y : D} (hx : P5 x = true) (hy : P5 y = true) {k : Bool → Prop} : eqU x y k = k (deq x y) := by
  apply propext
  constructor
  · rintro (⟨u, v, h1, h2, hs, h⟩ | ⟨p, q, h1, h2, _, _, h⟩)
    · have e : decide (u = v) = deq x y := by
        cases x <;> cases h1 <;> cases y <;> cases h2 <;> first
          | (cases hs; done)
          | (simp [deq]; done)
          | (simp only [deq]; rw [Bool.eq_iff_iff]; simp)
      rw [← e]
      exact h
    · rw [← deq_eqv x y p q h1 h2]
      exact h
  · intro h
    obtain ⟨p, a1, a2, a3⟩ := P5_lay hx
    obtain ⟨q, b1, b2, b3⟩ := P5_lay hy
    refine .inr ⟨p, q, a1, b1, ?_, ?_, ?_⟩
    · unfold SeqAt.shaped
      rw [a2]
      exact decide_eq_true (by omega)
    · unfold SeqAt.shaped
      rw [b2]
      exact decide_eq_true (by omega)
    · rw [deq_eqv x y p q a1 b1]
      exact h
/-! count, index of plain data -/
theorem P5_shaped {d : D} (h : P5 d = true) : ∃ p, toP d = some p ∧ SeqAt.shaped p = true := by
  obtain ⟨p, a1, a2, a3⟩ := P5_lay h
  refine ⟨p, a1, ?_⟩
  unfold SeqAt.shaped
  rw [a2]
  exact decide_eq_true (by omega)
theorem toPs_get : ∀ {ds : List D} {qs : List PyData}, toPs ds = some qs → ∀ j : Nat, qs[j]? = (ds[j]?).bind toP
  | [], qs, e, j => by
    rw [toPs] at e
    cases e
    simp
  | d :: ds, qs, e, j => by
    rw [toPs] at e
    split at e
    · rename_i p ps h1 h2
      cases e
      cases j with
      | zero => simp [h1]
      | succ j => simpa using toPs_get h2 j
    · cases e
theorem toPs_count {y : D} {p : PyData} (hy : toP y = some p) : ∀ {ds : List D} {qs : List PyData}, toPs ds = some qs → (qs.countP fun z => PyData.eqv z p) = ds.countP fun d => deq d y
  | [], qs, e => by
    rw [toPs] at e
    cases e
    rfl
  | d :: ds, qs, e => by
    rw [toPs] at e
    split at e
    · rename_i z ps h1 h2
      cases e
      rw [List.countP_cons, List.countP_cons, toPs_count hy h2, deq_eqv d y z p h1 hy]
    · cases e
theorem lst_toP {ds : List D} {q : PyData} (h : toP (.lst ds) = some q) : ∃ qs, q = .list qs ∧ toPs ds = some qs := by
  rw [toP, Option.map_eq_some_iff] at h
  obtain ⟨qs, h1, h2⟩ := h
  exact ⟨qs, h2.symm, h1⟩
theorem cnt_pl {ds : List D} {y : D} {μ : Mu} {Q : D → Mu → Prop} (hx : P5 (.lst ds) = true) (hy : P5 y = true) (h : Q (.int ((ds.countP fun d => deq d y : Nat))) μ) : fCnt (.lst ds) y μ Q := by
  obtain ⟨q, a1, a2⟩ := P5_shaped hx
  obtain ⟨p, b1, b2⟩ := P5_shaped hy
  obtain ⟨qs, rfl, h1⟩ := lst_toP a1
  exact ⟨p, qs, b1, a1, b2, a2, by rw [toPs_count b1 h1]; exact h⟩
theorem toPs_len : ∀ {ds : List D} {qs : List PyData}, toPs ds = some qs → ds.length = qs.length
  | [], qs, e => by
    rw [toPs] at e
    cases e
    rfl
  | d :: ds, qs, e => by
    rw [toPs] at e
    split at e
    · rename_i p ps h1 h2
      cases e
      rw [List.length_cons, List.length_cons, toPs_len h2]
    · cases e
theorem idx_pl {ds : List D} {y d : D} {μ : Mu} {Q : D → Mu → Prop} (hx : P5 (.lst ds) = true) (hy : P5 y = true) {j : Nat} (hj : ds[j]? = some d) (hd : deq d y = true) (hlt : ∀ m e, m < j → ds[m]? = some e → deq e y = false) (h : Q (.int j) μ) : fIdx (.lst ds) y μ Q := by
  obtain ⟨q, a1, a2⟩ := P5_shaped hx
  obtain ⟨p, b1, b2⟩ := P5_shaped hy
  obtain ⟨qs, rfl, h1⟩ := lst_toP a1
  have back : ∀ {m : Nat} {z : PyData}, qs[m]? = some z → ∃ e, ds[m]? = some e ∧ toP e = some z := fun {m z} hz => by
    rw [toPs_get h1 m, Option.bind_eq_some_iff] at hz
    exact hz
  have hl : j < qs.length := by
    rw [← toPs_len h1]
    exact (List.getElem?_eq_some_iff.mp hj).1
  obtain ⟨e, he, hz⟩ := back (List.getElem?_eq_getElem hl)
  rw [hj] at he
  cases he
  refine ⟨p, qs, b1, a1, b2, a2, j, _, List.getElem?_eq_getElem hl, by rw [deq_eqv d y _ p hz b1]; exact hd, fun m z' hm hz' => ?_, h⟩
  obtain ⟨e, he, hz⟩ := back hz'
  rw [deq_eqv e y _ p hz b1]
  exact hlt m e hm he
/-! simp lemmas -/
section
variable {p : D → Bool}
theorem p_int {i : Int} : Pn p (.int i) = true := rfl
theorem p_bl {i : Bool} : Pn p (.bl i) = true := rfl
theorem p_non : Pn p .non = true := rfl
theorem p_tup {ds : List D} : Pn p (.tup ds) = ds.all p := rfl
theorem p_lst {ds : List D} : Pn p (.lst ds) = ds.all p := rfl
theorem p_frl {ds : List D} : Pn p (.frl ds) = ds.all p := rfl
theorem p0_int {i : Int} : P0 (.int i) = true := rfl
theorem p0_bl {i : Bool} : P0 (.bl i) = true := rfl
theorem p0_non : P0 .non = true := rfl
theorem all_map {α : Type} {f : α → D} {l : List α} (h : ∀ x, p (f x) = true) : (l.map f).all p = true := by
  rw [List.all_eq_true]
  intro d hd
  obtain ⟨x, _, rfl⟩ := List.mem_map.mp hd
  exact h x
end
/-- lists of data that are told by values -/
theorem deqs_map {α : Type} [DecidableEq α] {f : α → D} (h : ∀ a b, deq (f a) (f b) = decide (a = b)) : ∀ xs ys : List α, deqs (xs.map f) (ys.map f) = decide (xs = ys)
  | [], [] => rfl
  | [], y :: ys => by simp [deqs]
  | x :: xs, [] => by simp [deqs]
  | x :: xs, y :: ys => by
    rw [List.map_cons, List.map_cons, deqs, h, deqs_map h xs ys, Bool.eq_iff_iff]
    simp
end DL

set_option Elab.async false
set_option linter.all false
set_option maxRecDepth 100000
set_option maxHeartbeats 4000000
set_option autoImplicit false
set_option exponentiation.threshold 3000
namespace DL
open PySem PySem.Spec PyProof.Rows L2
/-! loops and comprehensions over lists that are told by values -/
section
variable {α : Type} {g : WG} {tt : WT} {te : WE} {ρw : DS} {b : WS} {E : DEnds} {ρ : DS} {μ : Mu} {Q : D → Mu → Prop}
theorem lc_ind {f : α → D} (h : α → Option D) : ∀ {l : List α} {acc : List D}, (∀ a ∈ l, ∀ ds acc, acc.length < 1000000 → lcL g tt te ρw ds (acc ++ (h a).toList) μ Q → g (f a) ρw μ (KLc1 g tt te ρw ds acc Q)) → acc.length + l.length ≤ 1000000 →
    Q (.lst (acc ++ l.filterMap h)) μ → lcL g tt te ρw (l.map f) acc μ Q
  | [], acc, step, hl, fin => by
    rw [List.map_nil, lcL]
    simpa using fin
  | a :: l, acc, step, hl, fin => by
    rw [List.map_cons, r_lcc]
    rw [List.length_cons] at hl
    refine step a List.mem_cons_self (l.map f) acc (by omega) (lc_ind h (fun a' ha => step a' (List.mem_cons_of_mem _ ha)) ?_ ?_)
    · rw [List.length_append]
      cases h a
      · simp; omega
      · simp; omega
    · have e : acc ++ (h a).toList ++ l.filterMap h = acc ++ (a :: l).filterMap h := by
        rw [List.filterMap_cons]
        cases h a <;> simp
      rw [e]
      exact fin
theorem lc_mp {f : α → D} (h : α → D) {l : List α} (step : ∀ a ∈ l, ∀ ds acc, acc.length < 1000000 → lcL g tt te ρw ds (acc ++ [h a]) μ Q → g (f a) ρw μ (KLc1 g tt te ρw ds acc Q)) (hl : l.length ≤ 1000000) (fin : Q (.lst (l.map h)) μ) :
    lcL g tt te ρw (l.map f) [] μ Q := lc_ind (fun a => some (h a)) step (by simpa using hl) (by simpa [List.filterMap_eq_map] using fin)
theorem fm_filter {c : α → Bool} {h : α → D} : ∀ {l : List α}, l.filterMap (fun a => if c a then some (h a) else none) = (l.filter c).map h
  | [] => rfl
  | a :: l => by
    rw [List.filterMap_cons, List.filter_cons, fm_filter]
    cases c a <;> rfl
theorem lc_filter {f : α → D} (c : α → Bool) (h : α → D) {l : List α} (step : ∀ a ∈ l, ∀ ds acc, acc.length < 1000000 → (c a = true → lcL g tt te ρw ds (acc ++ [h a]) μ Q) → (c a = false → lcL g tt te ρw ds acc μ Q) → g (f a) ρw μ (KLc1 g tt te ρw ds acc Q)) (hl : l.length ≤ 1000000)
    (fin : Q (.lst ((l.filter c).map h)) μ) : lcL g tt te ρw (l.map f) [] μ Q := by
  refine lc_ind (fun a => if c a then some (h a) else none) (fun a ha ds acc hacc hK => step a ha ds acc hacc (fun e => ?_) fun e => ?_) (by simpa using hl) ?_
  · rw [e] at hK
    simpa using hK
  · rw [e] at hK
    simpa using hK
  · rw [fm_filter]
    simpa using fin
/-- elements that draw from the pool -/
theorem lc_pool {f : α → D} (P : Nat → α → Prop) {lo : Int} {n : Nat} (hn : n ≤ 1000000)
    (step : ∀ i, i < n → ∀ p q, PoolOk p q → ∀ K : D → Mu → Prop, (∀ a p' q', PoolOk p' q' → P i a → K (f a) (pl μ p' q')) → g (.int (lo + (i : Nat))) ρw (pl μ p q) (KEl te K))
    (fin : ∀ l : List α, l.length = n → (∀ i a, l[i]? = some a → P i a) → ∀ p q, PoolOk p q → Q (.lst (l.map f)) (pl μ p q)) {p q : Int} (ok : PoolOk p q) : lcL g wYes te ρw (rangeD lo n) [] (pl μ p q) Q := by
  have all : ∀ k i, i + k = n → ∀ (l : List α), l.length = i → (∀ j a, l[j]? = some a → P j a) → ∀ p q, PoolOk p q → lcL g wYes te ρw ((List.range' i k).map fun j => D.int (lo + (j : Nat))) (l.map f) (pl μ p q) Q := by
    intro k
    induction k with
    | zero =>
      intro i hi l hl hP p q ok
      rw [List.range'_zero, List.map_nil, r_lcn]
      exact fin l (by omega) hP p q ok
    | succ k ih =>
      intro i hi l hl hP p q ok
      rw [List.range'_succ, List.map_cons, r_lcc]
      have e : KLc1 g wYes te ρw ((List.range' (i + 1) k).map fun j => D.int (lo + (j : Nat))) (l.map f) Q = KEl te (KLc3 g wYes te ρw ((List.range' (i + 1) k).map fun j => D.int (lo + (j : Nat))) (l.map f) Q) := by
        funext ρ2 μ2
        rw [r_lc1, r_yes, r_lc2t, t_el]
      rw [e]
      refine step i (by omega) p q ok _ fun a p' q' ok' ha => ?_
      rw [r_lc3]
      refine ⟨by rw [List.length_map]; omega, ?_⟩
      have e2 : l.map f ++ [f a] = (l ++ [a]).map f := by simp
      rw [e2]
      refine ih (i + 1) (by omega) (l ++ [a]) (by rw [List.length_append, List.length_singleton, hl]) (fun j b hb => ?_) p' q' ok'
      by_cases hj : j < l.length
      · rw [List.getElem?_append_left hj] at hb
        exact hP j b hb
      · rw [List.getElem?_append_right (by omega)] at hb
        have hj0 : j - l.length = 0 := by
          by_cases c : j - l.length = 0
          · exact c
          · rw [List.getElem?_eq_none (by rw [List.length_singleton]; omega)] at hb
            cases hb
        rw [hj0] at hb
        cases hb
        have : j = i := by omega
        subst this
        exact ha
  have e : rangeD lo n = (List.range' 0 n).map fun j => D.int (lo + (j : Nat)) := by
    unfold rangeD
    rw [List.range_eq_range']
  rw [e]
  exact all n 0 (by omega) [] rfl (fun j a h => by simp at h) p q ok
/-- over range(lo, lo + n) -/
theorem forL_rng {lo : Int} {n : Nat} (I : Nat → DS → Mu → Prop) (step : ∀ i, i < n → ∀ ρ μ (K : DS → Mu → Prop), I i ρ μ → (∀ ρ' μ', I (i + 1) ρ' μ' → K ρ' μ') → g (.int (lo + (i : Nat))) ρ μ fun ρ1 μ1 => b { E with nx := K, ct := K, bk := E.nx } ρ1 μ1)
    (fin : ∀ ρ μ, I n ρ μ → E.nx ρ μ) (h : I 0 ρ μ) : forL g b E (rangeD lo n) ρ μ := by
  have all : ∀ k i, i + k = n → ∀ ρ μ, I i ρ μ → forL g b E ((List.range' i k).map fun j => D.int (lo + (j : Nat))) ρ μ := by
    intro k
    induction k with
    | zero =>
      intro i hi ρ μ h
      have e : i = n := by omega
      subst e
      rw [List.range'_zero, List.map_nil, forL]
      exact fin _ _ h
    | succ k ih =>
      intro i hi ρ μ h
      rw [List.range'_succ, List.map_cons, forL]
      exact step i (by omega) ρ μ _ h fun ρ' μ' h' => ih (i + 1) (by omega) ρ' μ' h'
  have e : rangeD lo n = (List.range' 0 n).map fun j => D.int (lo + (j : Nat)) := by
    unfold rangeD
    rw [List.range_eq_range']
  rw [e]
  exact all n 0 (by omega) ρ μ h
/-- over data told by values, with what has been gone through -/
theorem forL_pre {f : α → D} {l : List α} (I : List α → DS → Mu → Prop) (step : ∀ pre a post, l = pre ++ a :: post → ∀ ρ μ (K : DS → Mu → Prop), I pre ρ μ → (∀ ρ' μ', I (pre ++ [a]) ρ' μ' → K ρ' μ') → g (f a) ρ μ fun ρ1 μ1 => b { E with nx := K, ct := K, bk := E.nx } ρ1 μ1)
    (fin : ∀ ρ μ, I l ρ μ → E.nx ρ μ) (h : I [] ρ μ) : forL g b E (l.map f) ρ μ := by
  have all : ∀ post pre, l = pre ++ post → ∀ ρ μ, I pre ρ μ → forL g b E (post.map f) ρ μ := by
    intro post
    induction post with
    | nil =>
      intro pre e ρ μ h
      rw [List.append_nil] at e
      subst e
      rw [List.map_nil, forL]
      exact fin _ _ h
    | cons a post ih =>
      intro pre e ρ μ h
      rw [List.map_cons, forL]
      exact step pre a post e ρ μ _ h fun ρ' μ' h' => ih (pre ++ [a]) (by rw [e]; simp) ρ' μ' h'
  exact all l [] rfl ρ μ h
end
end DL

set_option Elab.async false
set_option linter.all false
set_option maxRecDepth 100000
set_option maxHeartbeats 4000000
set_option autoImplicit false
set_option exponentiation.threshold 3000
namespace DL
open PySem PySem.Spec PyProof.Rows L2
/-! frames of DX20 -/
section
variable {Q : D → Mu → Prop} {Xd : XD} {ρ : DS} {μ : Mu} {E : DEnds} {cs : List Str} {sp : DSp} {wa wb wo : WE} {ws : WA} {x y : D}
def KIxO2 (cs : List Str) (sp : DSp) (x : D) (Q : D → Mu → Prop) (Xd : XD) : D → Mu → Prop := fun i μ2 => isClsU cs x μ2 (sp [x, i] μ2 Q Xd)
def KIxO1 (cs : List Str) (sp : DSp) (wb : WE) (ρ : DS) (Q : D → Mu → Prop) (Xd : XD) : D → Mu → Prop := fun x μ1 => wb ρ μ1 (KIxO2 cs sp x Q Xd) Xd
theorem v_ix : wIxO cs sp wa wb ρ μ Q Xd = wa ρ μ (KIxO1 cs sp wb ρ Q Xd) Xd := propext Iff.rfl
theorem v_ix1 : KIxO1 cs sp wb ρ Q Xd x μ = wb ρ μ (KIxO2 cs sp x Q Xd) Xd := propext Iff.rfl
theorem v_ix2 : KIxO2 cs sp x Q Xd y μ = isClsU cs x μ (sp [x, y] μ Q Xd) := propext Iff.rfl
def KInv (cs : List Str) (sp : DSp) (Q : D → Mu → Prop) (Xd : XD) : D → Mu → Prop := fun x μ1 => isClsU cs x μ1 (sp [x] μ1 Q Xd)
theorem v_inv : wInv cs sp wa ρ μ Q Xd = wa ρ μ (KInv cs sp Q Xd) Xd := propext Iff.rfl
theorem v_inv1 : KInv cs sp Q Xd x μ = isClsU cs x μ (sp [x] μ Q Xd) := propext Iff.rfl
def KCo2 (cs : List Str) (sp : DSp) (x : D) (Q : D → Mu → Prop) (Xd : XD) : List D → Mu → Prop := fun ds μ2 => isClsU cs x μ2 (sp (x :: ds) μ2 Q Xd)
def KCo1 (cs : List Str) (sp : DSp) (ws : WA) (ρ : DS) (Q : D → Mu → Prop) (Xd : XD) : D → Mu → Prop := fun x μ1 => isClsU cs x μ1 (ws ρ μ1 (KCo2 cs sp x Q Xd) Xd)
theorem v_co : wCallO cs sp wo ws ρ μ Q Xd = wo ρ μ (KCo1 cs sp ws ρ Q Xd) Xd := propext Iff.rfl
theorem v_co1 : KCo1 cs sp ws ρ Q Xd x μ = isClsU cs x μ (ws ρ μ (KCo2 cs sp x Q Xd) Xd) := propext Iff.rfl
theorem v_co2 {ds : List D} : KCo2 cs sp x Q Xd ds μ = isClsU cs x μ (sp (x :: ds) μ Q Xd) := propext Iff.rfl
def KLnO (Q : D → Mu → Prop) : D → Mu → Prop := fun d μ1 => match d with
    | .int n => 0 ≤ n ∧ n < 2 ^ 62 ∧ Q (.int n) μ1
    | _ => False
theorem v_len : fLenO cs sp [x] μ Q = isClsU cs x μ (sp [x] μ (KLnO Q) xF) := propext Iff.rfl
theorem v_len1 {n : Int} : KLnO Q (.int n) μ = (0 ≤ n ∧ n < 2 ^ 62 ∧ Q (.int n) μ) := propext Iff.rfl
def KSlo (i : Nat) (E : DEnds) (ρ : DS) : D → Mu → Prop := fun d μ1 => ∃ acc, d = .lst acc ∧ i < ρ.length ∧ ∀ p, E.nx (ρ.set i (.own p (.lst acc))) μ1
theorem v_slo {i : Nat} {w : WE} : sSetLcO i w E ρ μ = w ρ μ (KSlo i E ρ) (KX E ρ) := propext Iff.rfl
theorem v_slo1 {i : Nat} {acc : List D} : KSlo i E ρ (.lst acc) μ = (i < ρ.length ∧ ∀ p, E.nx (ρ.set i (.own p (.lst acc))) μ) := by
  apply propext
  constructor
  · rintro ⟨acc', e, h⟩
    cases e
    exact h
  · intro h
    exact ⟨acc, rfl, h⟩
theorem v_f2or {f g : F2} : F2.or f g x y μ Q = (f x y μ Q ∨ g x y μ Q) := propext Iff.rfl
end
theorem w_ff : (false == false) = true := rfl
theorem w_ft : (false == true) = false := rfl
theorem w_tf : (true == false) = false := rfl
theorem w_tt : (true == true) = true := rfl
/-! in, by data -/
end DL

set_option Elab.async false
set_option linter.all false
set_option maxRecDepth 100000
set_option maxHeartbeats 2000000
/-! Frames: stores into own lists. -/
namespace DL
open PySem PySem.Spec PyProof.Rows L2
section
variable {i : Nat} {wi : WE} {d : D} {ρ : DS} {μ : Mu} {Q : DS → Mu → Prop} {p : Addr} {ds : List D} {j : Int}
def KSubO (i : Nat) (p : Addr) (ds : List D) (d : D) (ρ : DS) (Q : DS → Mu → Prop) : D → Mu → Prop := fun y μ2 => stO i p ds y d ρ fun ρ' => Q ρ' μ2
theorem x_subO : kSubO i wi d ρ μ Q = subO i wi d ρ μ Q (ρ[i]?) := propext Iff.rfl
theorem x_subO1 : subO i wi d ρ μ Q (some (.own p (.lst ds))) = wi ρ μ (KSubO i p ds d ρ Q) xF := propext Iff.rfl
theorem x_subO2 : KSubO i p ds d ρ Q (.int j) μ = (match ixN ds.length j with
    | some z => Q (ρ.set i (.own p (.lst (ds.set z d)))) μ
    | none => False) := propext Iff.rfl
end
end DL

set_option Elab.async false
set_option linter.all false
set_option maxRecDepth 100000
set_option maxHeartbeats 2000000
/-! Frames: remove, pop, comprehensions kept as cells. -/
namespace DL
open PySem PySem.Spec PyProof.Rows L2
section
variable {i n : Nat} {wa wo : WE} {ws : WA} {wi : WI} {k : WG} {tt : WT} {te : WE} {vs : List Nat} {d x : D} {ρ : DS} {μ : Mu} {E : DEnds} {Q : D → Mu → Prop} {Xd : XD} {p : Addr} {ds acc : List D} {j : Int}
def KPop2 (x : D) (Q : D → Mu → Prop) : D → Mu → Prop := fun y μ2 => popL x y μ2 Q
def KPop1 (wa : WE) (ρ : DS) (Q : D → Mu → Prop) (Xd : XD) : D → Mu → Prop := fun x μ1 => isC x μ1 (wa ρ μ1 (KPop2 x Q) Xd)
theorem y_pop : wPopL wo wa ρ μ Q Xd = wo ρ μ (KPop1 wa ρ Q Xd) Xd := propext Iff.rfl
theorem y_pop1 : KPop1 wa ρ Q Xd x μ = isC x μ (wa ρ μ (KPop2 x Q) Xd) := propext Iff.rfl
theorem y_pop2 : KPop2 x Q d μ = popL x d μ Q := propext Iff.rfl
theorem y_lcC : wLcC wi k tt te vs ρ μ Q Xd = wLc wi k tt te vs ρ μ (cellQ Q) Xd := propext Iff.rfl
theorem y_cell : cellQ Q (.lst acc) μ = Q (.loc μ.length) (μ ++ [.lst acc]) := propext Iff.rfl
def KRem (i : Nat) (p : Addr) (ds : List D) (E : DEnds) (ρ : DS) : List D → Mu → Prop := fun xs μ1 => ∃ d, xs = [d] ∧ remD ds d fun ds' => E.nx (ρ.set i (.own p (.lst ds'))) μ1
theorem y_rem : sRemO i ws E ρ μ = remO i ws E ρ μ (ρ[i]?) := propext Iff.rfl
theorem y_rem1 : remO i ws E ρ μ (some (.own p (.lst ds))) = ws ρ μ (KRem i p ds E ρ) (KX E ρ) := propext Iff.rfl
theorem y_rem2 : KRem i p ds E ρ [d] μ = remD ds d fun ds' => E.nx (ρ.set i (.own p (.lst ds'))) μ := by
  apply propext
  constructor
  · rintro ⟨d', e, h⟩
    cases e
    exact h
  · exact fun h => ⟨d, rfl, h⟩
end
end DL

set_option Elab.async false
set_option linter.all false
set_option maxRecDepth 100000
set_option maxHeartbeats 2000000
/-! Frames: changeable instances, setters, own sums of lists, == of tuples. -/
namespace DL
open PySem PySem.Spec PyProof.Rows L2
section
variable {i n : Nat} {c f : Str} {sp : DSp} {wa wb wo : WE} {d x y : D} {ρ : DS} {μ : Mu} {E : DEnds} {Q : D → Mu → Prop} {ds es : List D}
def KFl2 (c f : Str) (d : D) (E : DEnds) (ρ : DS) : D → Mu → Prop := fun x μ2 => putL c f x d μ2 (E.nx ρ)
def KFl1 (c f : Str) (wo : WE) (E : DEnds) (ρ : DS) : D → Mu → Prop := fun d μ1 => wo ρ μ1 (KFl2 c f d E ρ) (KX E ρ)
theorem z_fl : sFldL c f wo wa E ρ μ = wa ρ μ (KFl1 c f wo E ρ) (KX E ρ) := propext Iff.rfl
theorem z_fl1 : KFl1 c f wo E ρ d μ = wo ρ μ (KFl2 c f d E ρ) (KX E ρ) := propext Iff.rfl
theorem z_fl2 : KFl2 c f d E ρ x μ = putL c f x d μ (E.nx ρ) := propext Iff.rfl
def KPs3 (E : DEnds) (ρ : DS) : D → Mu → Prop := fun _ μ3 => E.nx ρ μ3
def KPs2 (c : Str) (sp : DSp) (d : D) (E : DEnds) (ρ : DS) : D → Mu → Prop := fun x μ2 => isCls c x μ2 (sp [x, d] μ2 (KPs3 E ρ) (KX E ρ))
def KPs1 (c : Str) (sp : DSp) (wo : WE) (E : DEnds) (ρ : DS) : D → Mu → Prop := fun d μ1 => wo ρ μ1 (KPs2 c sp d E ρ) (KX E ρ)
theorem z_ps : sPropS c sp wo wa E ρ μ = wa ρ μ (KPs1 c sp wo E ρ) (KX E ρ) := propext Iff.rfl
theorem z_ps1 : KPs1 c sp wo E ρ d μ = wo ρ μ (KPs2 c sp d E ρ) (KX E ρ) := propext Iff.rfl
theorem z_ps2 : KPs2 c sp d E ρ x μ = isCls c x μ (sp [x, d] μ (KPs3 E ρ) (KX E ρ)) := propext Iff.rfl
theorem z_ps3 : KPs3 E ρ d μ = E.nx ρ μ := propext Iff.rfl
theorem z_eqT : fEqT c sp (.tup ds) (.tup es) μ Q = (prsO c sp μ ds es ∧ Q (.bl true) μ) := propext Iff.rfl
def KCat2 (i : Nat) (x : D) (E : DEnds) (ρ : DS) : D → Mu → Prop := fun y μ2 => catO x y fun ds => i < ρ.length ∧ ∀ p, E.nx (ρ.set i (.own p (.lst ds))) μ2
def KCat1 (i : Nat) (wb : WE) (E : DEnds) (ρ : DS) : D → Mu → Prop := fun x μ1 => wb ρ μ1 (KCat2 i x E ρ) (KX E ρ)
theorem z_cat : sSetCat i wa wb E ρ μ = wa ρ μ (KCat1 i wb E ρ) (KX E ρ) := propext Iff.rfl
theorem z_cat1 : KCat1 i wb E ρ x μ = wb ρ μ (KCat2 i x E ρ) (KX E ρ) := propext Iff.rfl
theorem z_cat2 {a b : List D} : KCat2 i (.lst a) E ρ (.lst b) μ = (a.length + b.length ≤ 1000 ∧ i < ρ.length ∧ ∀ p, E.nx (ρ.set i (.own p (.lst (a ++ b)))) μ) := propext Iff.rfl
end
end DL

set_option Elab.async false
set_option linter.all false
set_option maxRecDepth 100000
set_option maxHeartbeats 2000000
set_option autoImplicit false
/-! Frames: loops over cells, list(x) as a cell, append, o[i] = v. -/
namespace DL
open PySem PySem.Spec PyProof.Rows L2
section
variable {i n : Nat} {c f : Str} {cs : List Str} {sp : DSp} {wa wb wo wi : WE} {ws : WA} {wc : WIC} {g : WG} {b : WS} {tt : WT} {te : WE} {vs : List Nat} {d x y : D} {ρ ρw : DS} {μ : Mu} {E : DEnds} {Q : D → Mu → Prop} {Qc : List D → (Mu → Prop) → Mu → Prop} {Xd : XD} {ds es acc : List D} {C : Mu → Prop}
def KWic (Q : List D → (Mu → Prop) → Mu → Prop) : D → Mu → Prop := fun d μ1 => celOr d μ1 fun ds C => Q ds C μ1
theorem c_wi : wiCel wa ρ μ Qc Xd = wa ρ μ (KWic Qc) Xd := propext Iff.rfl
def KEnC (Q : List D → (Mu → Prop) → Mu → Prop) : List D → Mu → Prop := fun ds μ1 => cel1 ds μ1 fun es C => Q es C μ1
theorem c_en : wiEnC ws ρ μ Qc Xd = ws ρ μ (KEnC Qc) Xd := propext Iff.rfl
theorem c_en1 : KEnC Qc [d] μ = KWic (fun es C μ => Qc (enumD es) C μ) d μ := propext Iff.rfl
def KForC (g : WG) (b : WS) (E : DEnds) (ρ : DS) : List D → (Mu → Prop) → Mu → Prop := fun ds C μ1 => forLC g b E C ds ρ μ1
theorem c_for : sForC wc g b E ρ μ = wc ρ μ (KForC g b E ρ) (KX E ρ) := propext Iff.rfl
theorem c_for1 : KForC g b E ρ ds C μ = forLC g b E C ds ρ μ := propext Iff.rfl
def KLcU (g : WG) (tt : WT) (te : WE) (vs : List Nat) (ρ : DS) (Q : D → Mu → Prop) : List D → (Mu → Prop) → Mu → Prop := fun ds C μ1 => (∀ v ∈ vs, notOwn ρ v) ∧ lcLC g tt te (wipeD ρ vs) C ds [] μ1 Q
theorem c_lc : wLcU wc g tt te vs ρ μ Q Xd = wc ρ μ (KLcU g tt te vs ρ Q) Xd := propext Iff.rfl
theorem c_lc1 : KLcU g tt te vs ρ Q ds C μ = ((∀ v ∈ vs, notOwn ρ v) ∧ lcLC g tt te (wipeD ρ vs) C ds [] μ Q) := propext Iff.rfl
def KLofC (o : Option (List D)) (μ : Mu) (Q : D → Mu → Prop) : Prop := match o with
  | some ds => Q (.loc μ.length) (μ ++ [.lst ds])
  | none => False
theorem c_lof : fListOfC [x] μ Q = KLofC (itemsD x μ) μ Q := propext Iff.rfl
theorem c_lof1 : KLofC (some ds) μ Q = Q (.loc μ.length) (μ ++ [.lst ds]) := propext Iff.rfl
def KAL2 (x : D) (Q : D → Mu → Prop) : D → Mu → Prop := fun y μ2 => appL x y μ2 Q
def KAL1 (wa : WE) (ρ : DS) (Q : D → Mu → Prop) (Xd : XD) : D → Mu → Prop := fun x μ1 => isC x μ1 (wa ρ μ1 (KAL2 x Q) Xd)
theorem c_ap : wAppL wo wa ρ μ Q Xd = wo ρ μ (KAL1 wa ρ Q Xd) Xd := propext Iff.rfl
theorem c_ap1 : KAL1 wa ρ Q Xd x μ = isC x μ (wa ρ μ (KAL2 x Q) Xd) := propext Iff.rfl
theorem c_ap2 : KAL2 x Q y μ = appL x y μ Q := propext Iff.rfl
def KSi3 (cs : List Str) (sp : DSp) (d x : D) (E : DEnds) (ρ : DS) : D → Mu → Prop := fun y μ3 => isClsU cs x μ3 (sp [x, y, d] μ3 (KPs3 E ρ) (KX E ρ))
def KSi2 (cs : List Str) (sp : DSp) (wi : WE) (d : D) (E : DEnds) (ρ : DS) : D → Mu → Prop := fun x μ2 => wi ρ μ2 (KSi3 cs sp d x E ρ) (KX E ρ)
def KSi1 (cs : List Str) (sp : DSp) (wo wi : WE) (E : DEnds) (ρ : DS) : D → Mu → Prop := fun d μ1 => wo ρ μ1 (KSi2 cs sp wi d E ρ) (KX E ρ)
theorem c_si : sSetIx cs sp wo wi wa E ρ μ = wa ρ μ (KSi1 cs sp wo wi E ρ) (KX E ρ) := propext Iff.rfl
theorem c_si1 : KSi1 cs sp wo wi E ρ d μ = wo ρ μ (KSi2 cs sp wi d E ρ) (KX E ρ) := propext Iff.rfl
theorem c_si2 : KSi2 cs sp wi d E ρ x μ = wi ρ μ (KSi3 cs sp d x E ρ) (KX E ρ) := propext Iff.rfl
theorem c_si3 : KSi3 cs sp d x E ρ y μ = isClsU cs x μ (sp [x, y, d] μ (KPs3 E ρ) (KX E ρ)) := propext Iff.rfl
/-- a comprehension that leaves the cells as they are -/
def KLu3 (g : WG) (tt : WT) (te : WE) (ρw : DS) (C : Mu → Prop) (ds acc : List D) (Q : D → Mu → Prop) : D → Mu → Prop := fun y μ4 => acc.length < 1000000 ∧ lcLC g tt te ρw C ds (acc ++ [y]) μ4 Q
def KLu2 (g : WG) (tt : WT) (te : WE) (ρw : DS) (C : Mu → Prop) (ds acc : List D) (Q : D → Mu → Prop) (ρ2 : DS) : Bool → Mu → Prop := fun b μ3 => if b = true then te ρ2 μ3 (KLu3 g tt te ρw C ds acc Q) xF else lcLC g tt te ρw C ds acc μ3 Q
def KLu1 (g : WG) (tt : WT) (te : WE) (ρw : DS) (C : Mu → Prop) (ds acc : List D) (Q : D → Mu → Prop) : DS → Mu → Prop := fun ρ2 μ2 => tt ρ2 μ2 (KLu2 g tt te ρw C ds acc Q ρ2) xF
theorem c_lu1 : KLu1 g tt te ρw C ds acc Q ρ μ = tt ρ μ (KLu2 g tt te ρw C ds acc Q ρ) xF := propext Iff.rfl
theorem c_lu2 : KLu2 g tt te ρw C ds acc Q ρ true μ = te ρ μ (KLu3 g tt te ρw C ds acc Q) xF := propext (by unfold KLu2; rw [if_pos rfl])
theorem c_lu3 : KLu3 g tt te ρw C ds acc Q d μ = (acc.length < 1000000 ∧ lcLC g tt te ρw C ds (acc ++ [d]) μ Q) := propext Iff.rfl
end
end DL

set_option Elab.async false
set_option linter.all false
set_option maxRecDepth 100000
set_option maxHeartbeats 2000000
set_option autoImplicit false
/-! Frames: == of lists with own items, shown or cells. -/
namespace DL
open PySem PySem.Spec PyProof.Rows L2
end DL

set_option Elab.async false
set_option linter.all false
set_option maxRecDepth 100000
set_option maxHeartbeats 2000000
set_option autoImplicit false
/-! Frames: a list against the empty list, a, b = e, []. -/
namespace DL
open PySem PySem.Spec PyProof.Rows L2
def KP2O (i j : Nat) (E : DEnds) (ρ : DS) : D → Mu → Prop := fun d μ1 => j < ρ.length ∧ ∀ p, E.nx ((ρ.set j (.own p (.lst []))).set i (.v d)) μ1
theorem y_p2 {i j : Nat} {wa : WE} {E : DEnds} {ρ : DS} {μ : Mu} : sPar2O i j wa E ρ μ = wa ρ μ (KP2O i j E ρ) (KX E ρ) := propext Iff.rfl
theorem y_p21 {i j : Nat} {d : D} {E : DEnds} {ρ : DS} {μ : Mu} : KP2O i j E ρ d μ = (j < ρ.length ∧ ∀ p, E.nx ((ρ.set j (.own p (.lst []))).set i (.v d)) μ) := propext Iff.rfl
end DL

set_option Elab.async false
set_option linter.all false
set_option maxRecDepth 100000
set_option maxHeartbeats 4000000
set_option autoImplicit false
/-! A sleeping generator stays as it is while other code runs: what a run reads of it is but where it stands. -/
namespace DL
open PySem

def badK : Resume → Sem Fin := fun _ => .unsupported "asleep"
/-- the same generator as others see it, which none can wake -/
def mute : GenState → GenState
  | .suspended _ l c p fs cl => .suspended badK l c p fs cl
  | x => x
def asleep : GenState → Bool
  | .suspended .. => true
  | _ => false
def NG : GenState → Prop
  | .suspended _ _ _ _ fs _ => splitAtGen fs = none
  | _ => True
theorem mute_seen (x : GenState) : (mute x).seen = x.seen := by cases x <;> rfl
theorem mute_bare (x : GenState) : (mute x).bare = x.bare := by cases x <;> rfl
/-- which of them are held asleep -/
abbrev Sleepers := Nat → Option GenState
/-- g: the generators as they are; g2: those held asleep muted -/
structure Rl (B : Sleepers) (g2 g : Array GenState) : Prop where
  size : g2.size = g.size
  free : ∀ i, B i = none → g[i]? = g2[i]? ∧ ∀ x, g[i]? = some x → NG x
  held : ∀ i x, B i = some x → g[i]? = some x ∧ g2[i]? = some (mute x) ∧ asleep x = true
theorem Rl.seen {B : Sleepers} {g2 g : Array GenState} (r : Rl B g2 g) {i : Nat} {y : GenState} (q : g2[i]? = some y) : ∃ x, g[i]? = some x ∧ x.seen = y.seen := by
  cases hB : B i with
  | none => exact ⟨y, (r.free i hB).1.trans q, rfl⟩
  | some x =>
    obtain ⟨h1, h2, _⟩ := r.held i x hB
    rw [q] at h2
    obtain rfl := Option.some.inj h2
    exact ⟨x, h1, (mute_seen x).symm⟩
theorem Rl.set {B : Sleepers} {g2 g : Array GenState} (r : Rl B g2 g) {i : Nat} {x : GenState} (hi : B i = none) (hx : NG x) : Rl B (g2.setIfInBounds i x) (g.setIfInBounds i x) where
  size := by simp [r.size]
  free := fun j hj => by
    obtain ⟨e, n⟩ := r.free j hj
    by_cases h : i = j
    · subst h
      simp only [Array.getElem?_setIfInBounds_self, r.size]
      refine ⟨trivial, fun y hy => ?_⟩
      split at hy
      · cases hy; exact hx
      · cases hy
    · rw [Array.getElem?_setIfInBounds_ne h, Array.getElem?_setIfInBounds_ne h]
      exact ⟨e, n⟩
  held := fun j y hj => by
    have h : i ≠ j := fun z => by rw [z, hj] at hi; cases hi
    rw [Array.getElem?_setIfInBounds_ne h, Array.getElem?_setIfInBounds_ne h]
    exact r.held j y hj
theorem Rl.push {B : Sleepers} {g2 g : Array GenState} (r : Rl B g2 g) {c : Code} : Rl B (g2.push (.fresh c)) (g.push (.fresh c)) where
  size := by simp [r.size]
  free := fun j hj => by
    obtain ⟨e, n⟩ := r.free j hj
    simp only [Array.getElem?_push, r.size]
    split
    · exact ⟨rfl, fun x hx => by cases hx; trivial⟩
    · exact ⟨e, n⟩
  held := fun j y hj => by
    obtain ⟨h1, h2, h3⟩ := r.held j y hj
    have l1 : j < g.size := (Array.getElem?_eq_some_iff.mp h1).1
    have l2 : j < g2.size := by rw [r.size]; exact l1
    simp only [Array.getElem?_push]
    rw [if_neg (Nat.ne_of_lt l1), if_neg (Nat.ne_of_lt l2)]
    exact ⟨h1, h2, h3⟩
/-- an end that keeps no generator's frame -/
def NGE : End → Prop
  | .susp _ _ _ _ _ _ fs => splitAtGen fs = none
  | _ => True
theorem NGE.gen {e : End} (h : NGE e) : NG e.genState := by
  cases e with
  | ret _ => trivial
  | susp v g l k c p fs => exact h
abbrev withG (s : Shared) (g : Array GenState) : Shared := { s with gens := g }
end DL

set_option Elab.async false
set_option linter.all false
set_option maxRecDepth 100000
set_option maxHeartbeats 4000000
set_option autoImplicit false
namespace DL
open PySem PySem.Spec PyProof.Rows
open Sem (wp)

theorem Rl.bare {B : Sleepers} {g2 g : Array GenState} (r : Rl B g2 g) (h : AllBare g2) : AllBare g := fun y hy => by
  obtain ⟨i, hi, e⟩ := Array.mem_iff_getElem.mp hy
  have q : g[i]? = some y := by rw [Array.getElem?_eq_getElem hi, e]
  cases hB : B i with
  | none =>
    have q2 := (r.free i hB).1.symm.trans q
    exact h y (Array.mem_of_getElem? q2)
  | some x =>
    obtain ⟨h1, h2, _⟩ := r.held i x hB
    rw [q] at h1
    cases h1
    have z := h _ (Array.mem_of_getElem? h2)
    rw [mute_bare] at z
    exact z
section
open L2
variable {X : Cx} {pins : List (Addr × Obj)} {σ : List (Option V)} {H : Hp} {s : Shared}
theorem Inv.gens {g : Array GenState} (I : Inv X pins σ H s) (hg : AllBare g) : Inv X pins σ H (withG s g) :=
  ⟨I.ok, I.os, hg, I.base, I.loc, I.cell, I.free, I.freeC, I.pin, I.hok, I.len⟩
end
end DL

set_option Elab.async false
set_option linter.all false
set_option maxRecDepth 100000
set_option maxHeartbeats 4000000
set_option autoImplicit false
namespace DL
open PySem PySem.Spec PyProof.Rows L2

/-! ### a heap's first L things -/
def cutH (h : Heap) (L : Addr) : Heap := ⟨h.objs.extract 0 L, h.life⟩
/-! ### a generator's frame -/
structure GE where
  prog : Program
  w : World
  K : PySem.W.Frag
  mg : Str → Option Value
  base : Heap
  /-- around the one who wakes it -/
  A : Around
  N : List Str
  env : Env
  outer : List Env
abbrev GE.L (g : GE) : Addr := g.env.locals
abbrev GE.gx (g : GE) : Gx := ⟨g.K, g.mg, none⟩
/-- its context from one waking to the next sleep -/
abbrev GE.cx (g : GE) (s0 : Shared) (H0 : Hp) (pn : List (Addr × Obj)) : Cx where
  prog := g.prog
  w := g.w
  K := g.K
  mg := g.mg
  base := g.base
  A := g.A.deeper g.env
  N := g.N
  s_0 := s0
  H_0 := H0
  env := g.env
  outer := g.outer
  stack := g.env :: g.outer
  ex := []
  fn := fun _ => true
  calm := true
  pn := pn
  xe := fun _ _ => False
structure GE.Ok (g : GE) : Prop where
  mod : Mod g.K g.mg g.base
  kind : g.env.scope.kind = .function
  glob : g.env.globals = mainGlobals
  blt : g.env.builtins = builtinsNs
  cells : ∀ x, g.env.cells.lookup x = none
  has : ∀ x, ¬ (g.env.kindOf x = some .cell ∨ g.env.kindOf x = some .free)
  hd : g.A.handled = none
  frames : g.A.frames = some g.outer
  frame : g.env.frame = some g.env.locals
  bsz : g.base.objs.size ≤ g.L
  old : ∀ b ∈ frs g.outer, b < g.L
/-- who wakes it -/
structure Cons (g : GE) (a : Addr) (go : Obj) (X : Cx) (pins : List (Addr × Obj)) (σ : L2.St) (H : Hp) (Z : Addr → Prop) (m : List Addr) (μ : Mu) (s : Shared) (lo : Obj) : Prop where
  inv : Inv X pins σ H s
  prog : X.prog = g.prog
  w : X.w = g.w
  K : X.K = g.K
  mg : X.mg = g.mg
  base : X.base = g.base
  stack : X.stack = g.outer
  elo : s.heap.get? g.L = some lo
  ego : s.heap.get? a = some go
  goc : ∀ v, go.data ≠ .cell v
  fL : FpOk X pins H g.L
  fa : FpOk X pins H a
  ne : a ≠ g.L
  mu : MuOk g.gx Z m μ H
  sz : X.s_0.heap.objs.size ≤ g.L
  cl : ∀ x c, X.env.cells.lookup x = some c → c < g.L
def cutA (H : Hp) (L : Addr) : Hp := fun b => if b < L then H b else none
/-- the waker's own block, if it is younger -/
def blkPin (g : GE) (X : Cx) (h : Heap) : List (Addr × Obj) := if X.env.locals < g.L then [] else pinsAt [X.env.locals] h
def wakePins (g : GE) (a : Addr) (go : Obj) (X : Cx) (pins : List (Addr × Obj)) (h : Heap) : List (Addr × Obj) := (a, go) :: blkPin g X h ++ (X.pn ++ pins)
section
variable {g : GE} {a : Addr} {go lo : Obj} {X : Cx} {pins : List (Addr × Obj)} {σ σg : L2.St} {H : Hp} {Z : Addr → Prop} {m : List Addr} {μ : Mu} {s : Shared}
theorem Cons.stk (c : Cons g a go X pins σ H Z m μ s lo) : ∀ b, b ∈ frs g.outer → b = X.env.locals ∨ b ∈ X.fs := fun b hb => by
  rw [← c.stack] at hb
  exact List.mem_cons.mp (c.inv.stkSub b hb)
open Classical in
/-- what may have changed, for the waker: the young that are not pinned -/
noncomputable def young (g : GE) (P : List (Addr × Obj)) (h : Heap) : List Addr := (List.range h.objs.size).filter fun b => decide (g.L ≤ b ∧ ∀ p ∈ P, p.1 ≠ b)
end
end DL

set_option Elab.async false
set_option linter.all false
set_option maxRecDepth 100000
set_option maxHeartbeats 4000000
set_option autoImplicit false
/-! A generator's code from one waking to the next sleep. -/
namespace DL
open PySem PySem.Spec PyProof.Rows L2 GenW
open Sem (wp)

def Sg (M : Model) (A : Around) (Φ : End → Shared → Prop) (c : Code) (t : Sem PySem.Fin) (fs : List Frame) (s : Shared) : Prop :=
  ∀ (Γ : PySem.Ctx) (p : Pos), Γ.code = c → Γ.Woken A → ∃ e s', Runs M Γ p t fs s e s' ∧ Φ e s'
section
variable {M : Model} {A : Around} {Φ : End → Shared → Prop} {c : Code} {fs : List Frame} {s : Shared}
end
/-- a sleeping generator, woken: what comes of it -/
def GoesS (M : Model) (A : Around) (gs : GenState) (Φ : End → Shared → Prop) (s : Shared) : Prop := match gs with
  | .fresh c => Sg M A Φ c (M.den c) [] s
  | .suspended k _ c _ fs _ => Sg M A Φ c (k (.send .none)) fs s
  | _ => False
section
variable {prog : Program} {w : World} {A : Around} {Φ : End → Shared → Prop} {s : Shared} {E : Value → Shared → Prop}
end
end DL

set_option Elab.async false
set_option linter.all false
set_option maxRecDepth 100000
set_option maxHeartbeats 4000000
set_option autoImplicit false
/-! A generator's body, told by data: the data it hands out. -/
namespace DL
open PySem PySem.Spec PyProof.Rows L2 GenW
open Sem (wp)

/-- the waker: all that is fixed from one waking to the next sleep -/
structure Wk where
  X : Cx
  pins : List (Addr × Obj)
  σ : L2.St
  H : Hp
  Z : Addr → Prop
  m : List Addr
  μ : Mu
  s : Shared
def AftE (g : GE) (a : Addr) (go : Obj) (k : Wk) (e : End) (s1 : Shared) : Prop :=
  (∃ r, e = .ret r ∧ (r = .ok (.ret .none) ∨ r = .ok .next)) ∧ ∃ m' H', Inv k.X k.pins k.σ H' s1 ∧ Step g.gx k.Z k.m k.H m' k.μ H' ∧ H' g.L = none ∧ H' a = none
def AftY (g : GE) (a : Addr) (go : Obj) (k : Wk) (d : D) (P : List Addr → Hp → Obj → GenState → Prop) (e : End) (s1 : Shared) : Prop :=
  ∃ v gd l kk c p fs x m' H' lo', e = .susp v gd l kk c p fs ∧ e.quiet = true ∧ RelV x v ∧ Inv k.X k.pins k.σ H' s1 ∧ Step g.gx k.Z k.m k.H m' k.μ H' ∧ Rep g.gx m' (vis k.Z m' H') d x ∧ s1.heap.get? g.L = some lo' ∧ (∀ v, lo'.data ≠ .cell v) ∧ s1.heap.get? a = some go ∧
    H' g.L = none ∧ H' a = none ∧ P m' (vis k.Z m' H') lo' e.genState
/-- a generator that hands out just these -/
def GenP (g : GE) (a : Addr) (go : Obj) : List D → List Addr → Hp → Obj → GenState → Prop
  | [], m0, E0, lo, gs => ∀ k : Wk, Cons g a go k.X k.pins k.σ k.H k.Z k.m k.μ k.s lo → m0 <+: k.m → Same E0 (vis k.Z k.m k.H) → GoesS (model g.prog g.w) g.A gs (AftE g a go k) k.s
  | d :: ds, m0, E0, lo, gs => ∀ k : Wk, Cons g a go k.X k.pins k.σ k.H k.Z k.m k.μ k.s lo → m0 <+: k.m → Same E0 (vis k.Z k.m k.H) → GoesS (model g.prog g.w) g.A gs (AftY g a go k d (GenP g a go ds)) k.s
def FinP (g : GE) (a : Addr) (go : Obj) (k : Wk) : List D → End → Shared → Prop
  | [] => AftE g a go k
  | d :: ds => AftY g a go k d (GenP g a go ds)
def NoOwn (ρ : DS) : Prop := ∀ (i : Nat) (b : Addr) (c : Cell), ρ[i]? ≠ some (.own b c)
/-- it runs, its slots are ρ -/
def RunG (g : GE) (a : Addr) (go : Obj) (k : Wk) (ρ : DS) (s : Shared) : Prop :=
  ∃ lo0 σg H m, Cons g a go k.X k.pins k.σ k.H k.Z k.m k.μ k.s lo0 ∧ Inv (g.cx { k.s with heap := cutH k.s.heap g.L } (cutA k.H g.L) (wakePins g a go k.X k.pins k.s.heap)) [] σg H s ∧ Step g.gx k.Z k.m k.H m k.μ H ∧
    SR g.gx k.Z m σg H ρ k.μ ∧ NoOwn ρ ∧ ∀ (i : Nat) c ks ds, ρ[i]? ≠ some (.exn c ks ds)
structure GD where
  nx : List D → DS → Prop
abbrev TGen := GD → List D → DS → Prop
/-- where its code stands -/
structure At (g : GE) (c : Code) (fs : List Frame) (gd : Bool → Bool) : Prop where
  over : g.A.over c fs = g.A.deeper g.env
  split : splitAtGen fs = none
  guard : fs.any Frame.guarded = false
  gd : gd false = false
/-- what follows -/
def Goes (g : GE) (a : Addr) (go : Obj) (D0 : GD) (c : Code) (fs : List Frame) (K : Flow → Sem PySem.Fin) : Prop :=
  ∀ (k : Wk) (ds : List D) (ρ : DS) (s : Shared), RunG g a go k ρ s → D0.nx ds ρ → Sg (model g.prog g.w) g.A (FinP g a go k ds) c (K .next) fs s
structure GSt (g : GE) (st : Stmt) (t : TGen) : Prop where
  run : ∀ (a : Addr) (go : Obj) (c : Code) (fs : List Frame) (K : Flow → Sem PySem.Fin) (J : Value → Sem PySem.Fin) (gd : Bool → Bool) (lv : List Value → List Value) (D0 : GD), At g c fs gd → Goes g a go D0 c fs K →
    ∀ (k : Wk) (ds : List D) (ρ : DS) (s : Shared), RunG g a go k ρ s → t D0 ds ρ → Sg (model g.prog g.w) g.A (FinP g a go k ds) c ((exec st g.env).wrap K J gd lv) fs s
structure GSts (g : GE) (sts : List Stmt) (t : TGen) : Prop where
  run : ∀ (a : Addr) (go : Obj) (c : Code) (fs : List Frame) (K : Flow → Sem PySem.Fin) (J : Value → Sem PySem.Fin) (gd : Bool → Bool) (lv : List Value → List Value) (D0 : GD), At g c fs gd → Goes g a go D0 c fs K →
    ∀ (k : Wk) (ds : List D) (ρ : DS) (s : Shared), RunG g a go k ρ s → t D0 ds ρ → Sg (model g.prog g.w) g.A (FinP g a go k ds) c ((execs sts g.env).wrap K J gd lv) fs s
section
variable {g : GE} {st : Stmt} {rest body : List Stmt} {t u : TGen} {pos : Pos}
end
end DL

set_option Elab.async false
set_option linter.all false
set_option maxRecDepth 100000
set_option maxHeartbeats 4000000
set_option autoImplicit false
namespace DL
open PySem PySem.Spec PyProof.Rows L2 GenW
open Sem (wp)
section
variable {g : GE} {st : Stmt} {rest body : List Stmt} {t u : TGen} {pos : Pos}
/-! ### while -/
theorem At.loop {c c' : Code} {fs : List Frame} {gd : Bool → Bool} {k : Result → Sem PySem.Fin} {l kp : List Value} {p : Pos} (ha : At g c fs gd) (hw : c'.weight = 0) (hu : c'.cUnits = 0) : At g c' (.ret k none (gd false) l c p kp :: fs) id where
  over := (over_loop hw hu).trans ha.over
  split := by
    rw [splitAtGen_ret, ha.split]; rfl
  guard := by
    show (gd false || fs.any Frame.guarded) = false
    rw [ha.gd, ha.guard]; rfl
  gd := rfl
/-! ### the whole body -/
end
end DL

set_option Elab.async false
set_option linter.all false
set_option maxRecDepth 100000
set_option maxHeartbeats 4000000
set_option autoImplicit false
/-! A generator def: what a call of it makes. -/
namespace DL
open PySem PySem.Spec PyProof.Rows L2 GenW
/-- what the waker has of a generator that was just made -/
structure Born (P : Program) (w : World) (K : PySem.W.Frag) (mg : Str → Option Value) (base : Heap) (kk : Nat) (fr : List Env) (g : GE) (a gn : Nat) (go lo : Obj) (gs : GenState) (H : Hp) (s s' : Shared) : Prop where
  keep : ∀ b o, s.heap.get? b = some o → s'.heap.get? b = some o
  os : s'.os = s.os
  bare : AllBare s'.gens
  prog : g.prog = P
  w : g.w = w
  K : g.K = K
  mg : g.mg = mg
  base : g.base = base
  fr : g.outer = fr
  la : s.heap.objs.size ≤ a
  lL : s.heap.objs.size ≤ g.L
  ne : a ≠ g.L
  isg : ∀ h : Heap, h.get? a = some go → h.IsGen a gn
  goc : ∀ v, go.data ≠ .cell v
  loc : ∀ v, lo.data ≠ .cell v
  ego : s'.heap.get? a = some go
  elo : s'.heap.get? g.L = some lo
  egs : s'.gens[gn]? = some gs
abbrev GE.wake (g : GE) (A : Around) : GE := { g with A := A }
/-- for whoever wakes it: the data -/
def Gives (kk : Nat) (fr : List Env) (g : GE) (a : Nat) (go lo : Obj) (gs : GenState) (ys : List D) (m : List Addr) (E0 : Hp) : Prop :=
  ∀ A : Around, Room kk A → A.guards = some [] → A.frames = some fr → (g.wake A).Ok ∧ GenP (g.wake A) a go ys m E0 lo gs
abbrev GSp := List D → List D → Prop
structure GenD (P : Program) (w : World) (K : PySem.W.Frag) (mg : Str → Option Value) (base : Heap) (k : Nat) (f : Addr) (fd : FuncData) (ps : List Str) (sp : GSp) : Prop where
  len : ∀ ds ys, sp ds ys → ds.length = ps.length
  run : ∀ (A : Around) (fr : List Env) (s : Shared) (H : Hp) (args : Args) (us : List Value) (vs : List V) (Z : Addr → Prop) (m : List Addr) (μ : Mu) (ds ys : List D), Room k A → A.guards = some [] → Env0 P w K mg base A fr s H → BindsTo s fd args (ps.zip us) → Vals vs us →
    MuOk ⟨K, mg, none⟩ Z m μ H → Reps ⟨K, mg, none⟩ m (vis Z m H) ds vs → sp ds ys →
    codeAny (model P w) A (.call (.ref f) args) (fun r s' => ∃ g a gn go lo gs, r = .ok (.ret (.ref a)) ∧ Born P w K mg base k fr g a gn go lo gs H s s' ∧ Gives k fr g a go lo gs ys m (vis Z m H)) s
end DL

set_option Elab.async false
set_option linter.all false
set_option maxRecDepth 100000
set_option maxHeartbeats 4000000
set_option autoImplicit false
/-! Who walks a generator. -/
namespace DL
open PySem PySem.Spec PyProof.Rows L2 GenW
/-- a generator that X walks -/
abbrev gw (X : Cx) (N : List Str) (env : Env) : GE := ⟨X.prog, X.w, X.K, X.mg, X.base, X.A.in1, N, env, X.stack⟩
abbrev gx0 (X : Cx) : Gx := ⟨X.K, X.mg, none⟩
structure Walk (X : Cx) (env : Env) (a gn : Nat) (go : Obj) : Prop where
  ne : a ≠ env.locals
  isg : ∀ h : Heap, h.get? a = some go → h.IsGen a gn
  goc : ∀ v, go.data ≠ .cell v
  sz : X.s_0.heap.objs.size ≤ env.locals
  cl : ∀ x c, X.env.cells.lookup x = some c → c < env.locals
/-- the generator sleeps (or has not begun), ys are left -/
structure Rest (X : Cx) (N : List Str) (env : Env) (a gn : Nat) (go : Obj) (ys : List D) (Z : Addr → Prop) (m : List Addr) (H : Hp) (s : Shared) : Prop where
  ex : ∃ lo gs m0 E0, s.heap.get? env.locals = some lo ∧ (∀ v, lo.data ≠ .cell v) ∧ s.heap.get? a = some go ∧ H env.locals = none ∧ H a = none ∧ s.gens[gn]? = some gs ∧ m0 <+: m ∧ Same E0 (vis Z m H) ∧ GenP (gw X N env) a go ys m0 E0 lo gs
/-! ### over other code -/
theorem Rest.after {X : Cx} {N : List Str} {env : Env} {a gn : Nat} {go : Obj} {pins : List (Addr × Obj)} {σ' : L2.St} {Z Z' : Addr → Prop} {m m' : List Addr} {H H' : Hp} {s s' : Shared} {ys : List D} (R : Rest X N env a gn go ys Z m H s) (I : Inv X (pins ++ pinsAt [a, env.locals] s.heap) σ' H' s')
    (hg : s'.gens[gn]? = s.gens[gn]?) (pre : m <+: m') (same : Same (vis Z m H) (vis Z' m' H')) : Rest X N env a gn go ys Z' m' H' s' := by
  obtain ⟨lo, gs, m0, E0, elo, lc, ego, hL, ha, egs, pre0, same0, gp⟩ := R.ex
  have p1 := I.pin (env.locals, lo) (List.mem_append_right _ (List.mem_append_right _ (mem_pinsAt (by simp) elo)))
  have p2 := I.pin (a, go) (List.mem_append_right _ (List.mem_append_right _ (mem_pinsAt (by simp) ego)))
  exact ⟨lo, gs, m0, E0, p1.1, lc, p2.1, p1.2.1, p2.2.1, hg.trans egs, pre0.trans pre, same0.trans same, gp⟩
theorem Rest.pin {X : Cx} {N : List Str} {env : Env} {a gn : Nat} {go : Obj} {pins : List (Addr × Obj)} {σ : L2.St} {Z : Addr → Prop} {m : List Addr} {H : Hp} {s : Shared} {ys : List D} (R : Rest X N env a gn go ys Z m H s) (gc : ∀ v, go.data ≠ .cell v) (I : Inv X pins σ H s) (fL : FpOk X pins H env.locals) (fa : FpOk X pins H a) :
    Inv X (pins ++ pinsAt [a, env.locals] s.heap) σ H s := by
  obtain ⟨lo, gs, m0, E0, elo, lc, ego, hL, ha, egs, pre0, same0, gp⟩ := R.ex
  refine I.pinned (fun b hb => ?_) fun b hb => ?_
  · rcases List.mem_cons.mp hb with rfl | hb
    · exact fa
    · rw [List.mem_singleton.mp hb]; exact fL
  · rcases List.mem_cons.mp hb with rfl | hb
    · exact ⟨go, ego, gc⟩
    · rw [List.mem_singleton.mp hb]; exact ⟨lo, elo, lc⟩
end DL

set_option Elab.async false
set_option linter.all false
set_option maxRecDepth 100000
set_option maxHeartbeats 4000000
set_option autoImplicit false
namespace DL
open PySem PySem.Spec PyProof.Rows L2 GenW
/-- an expression that makes a generator -/
structure DGn (W : WX) (X : Cx) (kk : Nat) (e : Expr) (wi : WI) : Prop where
  run : ∀ (pins : List (Addr × Obj)) (s : Shared) (σ : L2.St) (H : Hp) (Z : Addr → Prop) (m : List Addr) (ρ : DS) (μ : Mu) (Q : List D → Mu → Prop) (Xd : XD), Inv X pins σ H s → SR (gx0 X) Z m σ H ρ μ → wi ρ μ Q Xd →
    (∀ cls d H', XPost (gx0 X) (ownW Z σ ρ) m H Xd cls d H' → W cls d σ H') →
    wpAny (model X.prog X.w) X.A (eval e X.env) (fun v s2 => ∃ g a gn go lo gs ys s1 H1 m1 μ1, v = .ref a ∧ Inv X pins σ H1 s1 ∧ Born X.prog X.w X.K X.mg X.base kk X.stack g a gn go lo gs H1 s1 s2 ∧ Step (gx0 X) (ownW Z σ ρ) m H m1 μ1 H1 ∧
      Gives kk X.stack g a go lo gs ys m1 (vis (ownW Z σ ρ) m1 H1) ∧ Q ys μ1) X.xe s
def wGen (sp : GSp) (wa : WA) : WI := fun ρ μ Q Xd => wa ρ μ (fun ds μ1 => ∃ ys, sp ds ys ∧ Q ys μ1) Xd
section
variable {W : WX} {X : Cx} {e : Expr} {es : List Expr} {wa : WE} {ws : WA} {pos : Pos} {k : Nat} {f : Addr} {fd : FuncData} {ps : List Str} {sp : GSp}
end
section
variable {W : WX} {X : Cx} {tg iter : Expr} {body : List Stmt} {wi : WI} {g : WG} {b : WS} {pos : Pos} {kk : Nat}
end
end DL

set_option Elab.async false
set_option linter.all false
set_option maxRecDepth 100000
set_option maxHeartbeats 4000000
set_option autoImplicit false
/-! A comprehension over a generator. -/
namespace DL
open PySem PySem.Spec PyProof.Rows L2 GenW
section
variable {W : WX} {X : Cx} {elt tg iter : Expr} {ifs : List Expr} {scope : Scope} {own : List (Str × Nat)} {pos pos' : Pos} {wi : WI} {g : L2.TG} {k : WG} {tt : WT} {te : WE} {kk : Nat}
end
end DL

set_option Elab.async false
set_option linter.all false
set_option maxRecDepth 100000
set_option maxHeartbeats 4000000
set_option autoImplicit false
/-! Generator defs by name; frames. -/
namespace DL
open PySem PySem.Spec PyProof.Rows L2 GenW
structure GenC (P : Program) (w : World) (K : PySem.W.Frag) (mg : Str → Option Value) (base : Heap) (k : Nat) (x : Str) (ps : List Str) (sp : GSp) : Prop where
  ex : ∃ f fd, mg x = some (.ref f) ∧ PySem.W.keepIn K (.ref f) = true ∧ Binds K fd ps [] ∧ GenD P w K mg base k f fd ps sp
section
variable {W : WX} {X : Cx} {e : Expr} {es : List Expr} {ws : WA} {pos p : Pos} {k j : Nat} {ps : List Str} {sp : GSp} {x : Str}
end
section
variable {W : WX} {X : Cx} {tg iter : Expr} {body : List Stmt} {wi : WI} {g : WG} {b : WS} {pos : Pos} {k j : Nat}
end
section
variable {W : WX} {X : Cx} {elt tg iter : Expr} {ifs : List Expr} {scope : Scope} {own : List (Str × Nat)} {pos : Pos} {wi : WI} {g : L2.TG} {k : WG} {tt : WT} {te : WE} {kk j : Nat}
end
/-! ### frames -/
def KGen (sp : GSp) (Q : List D → Mu → Prop) : List D → Mu → Prop := fun ds μ => ∃ ys, sp ds ys ∧ Q ys μ
theorem g_gen {sp : GSp} {wa : WA} {ρ : DS} {μ : Mu} {Q : List D → Mu → Prop} {Xd : XD} : wGen sp wa ρ μ Q Xd = wa ρ μ (KGen sp Q) Xd := propext Iff.rfl
end DL

set_option Elab.async false
set_option linter.all false
set_option maxRecDepth 100000
set_option maxHeartbeats 4000000
set_option autoImplicit false
/-! f(a, .., k = v, ..) -/
namespace DL
open PySem PySem.Spec PyProof.Rows L2
/-- how the values lie: written ones, keywords' ones -/
def GOk (gD : List D → List D → List D) (gV : List V → List V → List V) : Prop := ∀ {G : Gx} {m : List Addr} {E : Hp} {ds zs : List D} {vs ws : List V}, Reps G m E ds vs → Reps G m E zs ws → Reps G m E (gD ds zs) (gV vs ws)
/-- a def called with n written values and keywords ks -/
structure KwC (P : Program) (w : World) (K : PySem.W.Frag) (mg : Str → Option Value) (base : Heap) (k : Nat) (x : Str) (ps : List Str) (n : Nat) (ks : List Str) (gD : List D → List D → List D) (sp : DSp) : Prop where
  ex : ∃ f fd g gV, mg x = some (.ref f) ∧ PySem.W.keepIn K (.ref f) = true ∧ KBn K fd ps n ks g gV ∧ GOk gD gV ∧ FnG P w K mg base k f fd ps (toSp ⟨K, mg, none⟩ sp)
def wKw (n m : Nat) (gD : List D → List D → List D) (sp : DSp) (wa wz : WA) : WE := fun ρ μ Q Xd => wa ρ μ (fun ds μ1 => wz ρ μ1 (fun zs μ2 => ds.length = n ∧ zs.length = m ∧ sp (gD ds zs) μ2 Q Xd) Xd) Xd
abbrev DK (ex : Option (Addr × Addr × Addr)) (W : WX) (X : Cx) (kws : List Keyword) (w : WA) : Prop := PK X kws (liftA (gx X ex) W w)
section
variable {ex : Option (Addr × Addr × Addr)} {W : WX} {X : Cx} {e : Expr} {es : List Expr} {kws : List Keyword} {wa : WE} {ws wz : WA} {pos p : Pos} {nm : Option Str} {kpos : Pos} {k n : Nat} {x : Str} {ps ks : List Str} {sp : DSp} {gD : List D → List D → List D}
def wKw0 (n : Nat) (gD : List D → List D → List D) (sp : DSp) (wa : WA) : WE := fun ρ μ Q Xd => wa ρ μ (fun ds μ1 => ds.length = n ∧ sp (gD ds []) μ1 Q Xd) Xd
end
section
variable {gD : List D → List D → List D} {sp : DSp} {wa wz : WA} {n k : Nat} {ρ : DS} {μ : Mu} {Q : D → Mu → Prop} {Xd : XD}
def KKw1 (n m : Nat) (gD : List D → List D → List D) (sp : DSp) (wz : WA) (ρ : DS) (Q : D → Mu → Prop) (Xd : XD) : List D → Mu → Prop := fun ds μ1 => wz ρ μ1 (fun zs μ2 => ds.length = n ∧ zs.length = m ∧ sp (gD ds zs) μ2 Q Xd) Xd
def KKw2 (n m : Nat) (gD : List D → List D → List D) (sp : DSp) (ds : List D) (Q : D → Mu → Prop) (Xd : XD) : List D → Mu → Prop := fun zs μ2 => ds.length = n ∧ zs.length = m ∧ sp (gD ds zs) μ2 Q Xd
def KKw0 (n : Nat) (gD : List D → List D → List D) (sp : DSp) (Q : D → Mu → Prop) (Xd : XD) : List D → Mu → Prop := fun ds μ1 => ds.length = n ∧ sp (gD ds []) μ1 Q Xd
theorem r_kw {m : Nat} : wKw n m gD sp wa wz ρ μ Q Xd = wa ρ μ (KKw1 n m gD sp wz ρ Q Xd) Xd := propext Iff.rfl
theorem r_kw1 {m : Nat} {ds : List D} : KKw1 n m gD sp wz ρ Q Xd ds μ = wz ρ μ (KKw2 n m gD sp ds Q Xd) Xd := propext Iff.rfl
theorem r_kw2 {m : Nat} {ds zs : List D} : KKw2 n m gD sp ds Q Xd zs μ = (ds.length = n ∧ zs.length = m ∧ sp (gD ds zs) μ Q Xd) := propext Iff.rfl
theorem r_kw0 : wKw0 n gD sp wa ρ μ Q Xd = wa ρ μ (KKw0 n gD sp Q Xd) Xd := propext Iff.rfl
theorem r_kw00 {ds : List D} : KKw0 n gD sp Q Xd ds μ = (ds.length = n ∧ sp (gD ds []) μ Q Xd) := propext Iff.rfl
end
end DL

set_option Elab.async false
set_option linter.all false
set_option maxRecDepth 100000
set_option maxHeartbeats 4000000
set_option autoImplicit false
/-! a, b = [], []: both lists of the def's own. -/
namespace DL
open PySem PySem.Spec PyProof.Rows L2
def sPar2OO (i j : Nat) : WS := fun E ρ μ => (i < ρ.length ∧ j < ρ.length) ∧ ∀ p1 p2, E.nx ((ρ.set i (.own p1 (.lst []))).set j (.own p2 (.lst []))) μ
theorem y_oo {i j : Nat} {E : DEnds} {ρ : DS} {μ : Mu} : sPar2OO i j E ρ μ = ((i < ρ.length ∧ j < ρ.length) ∧ ∀ p1 p2, E.nx ((ρ.set i (.own p1 (.lst []))).set j (.own p2 (.lst []))) μ) := propext Iff.rfl
/-! ### a target self.f, self the thing that is being made -/
section
variable {X : Cx} {o : Expr} {to : TE} {f : Str} {pos p0 : Pos}
def kFldO (c : Str) (i : Nat) (f : Str) : WG := fun d ρ μ Q => putOwnI c i f d ρ fun ρ1 => Q ρ1 μ
/-- self.f, self the thing that is being made -/
def ofld (c f : Str) (o : Option Sl) (k : D → Prop) : Prop := match o with
  | some (.own _ (.ins c' ks ds)) => c' = c ∧ match fldOf f ks ds with
    | some d => k d
    | none => False
  | _ => False
def wOwnFld (c : Str) (i : Nat) (f : Str) : WE := fun ρ μ Q _ => ofld c f (ρ[i]?) fun d => Q d μ
end
end DL

set_option Elab.async false
set_option linter.all false
set_option maxRecDepth 100000
set_option maxHeartbeats 2000000
set_option autoImplicit false
/-! Frames: a target self.f. -/
namespace DL
open PySem PySem.Spec PyProof.Rows L2
def KOQ (Q : DS → Mu → Prop) (μ : Mu) : DS → Prop := fun ρ => Q ρ μ
theorem y_foq {ρ : DS} {μ : Mu} {Q : DS → Mu → Prop} : KOQ Q μ ρ = Q ρ μ := propext Iff.rfl
theorem y_fo {c : Str} {i : Nat} {f : Str} {d : D} {ρ : DS} {μ : Mu} {Q : DS → Mu → Prop} : kFldO c i f d ρ μ Q = KPut c i f d ρ (KOQ Q μ) (ρ[i]?) := by
  unfold kFldO putOwnI KPut
  exact propext Iff.rfl
def KOF (c f : Str) (o : Option Sl) (Q : D → Mu → Prop) (μ : Mu) : Prop := match o with
  | some (.own _ (.ins c' ks ds)) => c' = c ∧ KFld2 (fldOf f ks ds) μ Q
  | _ => False
theorem y_of {c : Str} {i : Nat} {f : Str} {ρ : DS} {μ : Mu} {Q : D → Mu → Prop} {Xd : XD} : wOwnFld c i f ρ μ Q Xd = KOF c f (ρ[i]?) Q μ := by
  unfold wOwnFld ofld KOF KFld2
  exact propext Iff.rfl
theorem y_of2 {c c' f : Str} {a : Addr} {ks : List Str} {ds : List D} {μ : Mu} {Q : D → Mu → Prop} : KOF c f (some (.own a (.ins c' ks ds))) Q μ = (c' = c ∧ KFld2 (fldOf f ks ds) μ Q) := propext Iff.rfl
end DL

set_option Elab.async false
set_option linter.all false
set_option maxRecDepth 100000
set_option maxHeartbeats 4000000
set_option autoImplicit false
namespace DL
open PySem PySem.Spec PyProof.Rows L2
/-! ### x.m() in an except suite: a method that gets data only and raises nothing -/
abbrev YSp := List D → Mu → (D → Mu → Prop) → Prop
def toSpY (K : PySem.W.Frag) (mg : Str → Option Value) (sp : YSp) (vs : List V) (H : Hp) (Q : VK) : Prop :=
  ∃ (Z : Addr → Prop) (m : List Addr) (μ : Mu) (ds : List D) (Qd : D → Mu → Prop), MuOk ⟨K, mg, none⟩ Z m μ H ∧ Reps ⟨K, mg, none⟩ m (vis Z m H) ds vs ∧ sp ds μ Qd ∧ ∀ v H', VPost ⟨K, mg, none⟩ Z m H Qd v H' → Q v H'
structure FnY (P : Program) (wd : World) (K : PySem.W.Frag) (mg : Str → Option Value) (bs : Heap) (k : Nat) (f : Addr) (fd : FuncData) (ps : List Str) (sp : YSp) : Prop where
  len : ∀ ds μ Q, sp ds μ Q → ds.length = ps.length
  run : ∀ (A : Around) (fr : List Env) (s : Shared) (H : Hp) (args : Args) (us : List Value) (vs : List V) (a : Addr) (oe : Obj) (Q : VK), L2H.RoomH k A → A.guards = some [] → A.handled = some (.ref a) → L2H.PinOk fr H s (a, oe) →
    Env0 P wd K mg bs A fr s H → BindsTo s fd args (ps.zip us) → Vals vs us → toSpY K mg sp vs H Q → codeAny (model P wd) A (.call (.ref f) args) (CR (L2.CX P wd) fr P wd H s Q (fun _ _ _ => False)) s
section
variable {P : Program} {w : World} {K : PySem.W.Frag} {mg : Str → Option Value} {base : Heap}
structure MethY (P : Program) (w : World) (K : PySem.W.Frag) (mg : Str → Option Value) (base : Heap) (k : Nat) (c m : Str) (ps : List Str) (sp : YSp) : Prop where
  ex : ∃ C f fd, mg c = some (.ref C) ∧ Cls K C ∧ Meth K C m f ∧ Binds K fd ps [] ∧ FnY P w K mg base k f fd ps sp
end
section
variable {X : Cx} {a : Addr} {oe : Obj} {cls : Value} {d : Option Addr} {pn : List (Addr × Obj)} {pos apos : Pos} {o : Expr} {wo : WE} {c m : Str} {j k : Nat} {ps : List Str} {sp : YSp}
end
end DL

set_option Elab.async false
set_option linter.all false
set_option maxRecDepth 100000
set_option maxHeartbeats 4000000
set_option autoImplicit false
namespace DL
open PySem PySem.Spec PyProof.Rows L2
/-! ### a dict of the def's own, from ints to ints -/
def putI (kvs : List (Int × Int)) (k v : Int) : List (Int × Int) := if (kvs.any fun p => decide (p.1 = k)) = true then kvs.map (fun p => if p.1 = k then (p.1, v) else p) else kvs ++ [(k, v)]
def sNewD (i : Nat) : WS := fun E ρ μ => i < ρ.length ∧ ∀ p, E.nx (ρ.set i (.own p (.dct []))) μ
def KPutD (i : Nat) (p : Addr) (kvs : List (Int × Int)) (E : DEnds) (ρ : DS) (d : D) : D → Mu → Prop := fun y μ2 => ∃ k v, y = .int k ∧ d = .int v ∧ kvs.length < 1000 ∧ E.nx (ρ.set i (.own p (.dct (putI kvs k v)))) μ2
section
variable {ex : Option (Addr × Addr × Addr)} {W : WX} {X : Cx} {e ix value tg : Expr} {wi wv w : WE} {pos pos' p0 lp : Pos} {i : Nat} {x : Str}
end
section
variable {ex : Option (Addr × Addr × Addr)} {W : WX} {X : Cx} {e : Expr} {w : WE} {i : Nat}
end
end DL

set_option Elab.async false
set_option linter.all false
set_option maxRecDepth 100000
set_option maxHeartbeats 4000000
set_option autoImplicit false
namespace DL
open PySem PySem.Spec PyProof.Rows L2
/-! frames -/
section
variable {ρ : DS} {μ : Mu} {Q : D → Mu → Prop} {Xd : XD} {E : DEnds} {i : Nat} {wi wv w : WE}
theorem r_newD : sNewD i E ρ μ = (i < ρ.length ∧ ∀ p, E.nx (ρ.set i (.own p (.dct []))) μ) := propext Iff.rfl
def KPutD0 (i : Nat) (wi : WE) (p : Addr) (kvs : List (Int × Int)) (E : DEnds) (ρ : DS) : D → Mu → Prop := fun d μ1 => wi ρ μ1 (KPutD i p kvs E ρ d) (KX E ρ)
theorem r_put0 {p : Addr} {kvs : List (Int × Int)} {d : D} : KPutD0 i wi p kvs E ρ d μ = wi ρ μ (KPutD i p kvs E ρ d) (KX E ρ) := propext Iff.rfl
end
end DL

set_option Elab.async false
set_option linter.all false
set_option maxRecDepth 100000
set_option maxHeartbeats 4000000
set_option autoImplicit false
namespace DL
open PySem PySem.Spec PyProof.Rows L2
/-! an empty dict, as a datum; x.m() in a def that gets the caught exception -/
section
variable {ex : Option (Addr × Addr × Addr)} {W : WX} {X : Cx} {pos : Pos}
end
section
variable {X : Cx} {a : Addr} {oe : Obj} {cls : Value} {d : Option Addr} {pn : List (Addr × Obj)} {pos apos : Pos} {o : Expr} {wo : WE} {c m : Str} {j k : Nat} {ps : List Str} {sp : YSp}
end
end DL

set_option Elab.async false
set_option linter.all false
set_option maxRecDepth 100000
set_option maxHeartbeats 4000000
set_option autoImplicit false
/-! list == data, where the list may be a cell of plain data. -/
namespace DL
open PySem PySem.Spec PyProof.Rows L2
section
variable {ex : Option (Addr × Addr × Addr)} {W : WX} {X : Cx} {a b : Expr} {wa wb : WE} {pos : Pos}
end
/-! is True, is not False -/
def fIsB : F2 := fun x y μ Q => ∃ a b, x = .bl a ∧ y = .bl b ∧ Q (.bl (decide (a = b))) μ
def fNotB : F2 := fun x y μ Q => ∃ a b, x = .bl a ∧ y = .bl b ∧ Q (.bl (!decide (a = b))) μ
theorem r_isb {a b : Bool} {μ : Mu} {Q : D → Mu → Prop} : fIsB (.bl a) (.bl b) μ Q = Q (.bl (decide (a = b))) μ :=
  propext ⟨fun ⟨x, y, e1, e2, q⟩ => by cases e1; cases e2; exact q, fun q => ⟨a, b, rfl, rfl, q⟩⟩
theorem r_notb {a b : Bool} {μ : Mu} {Q : D → Mu → Prop} : fNotB (.bl a) (.bl b) μ Q = Q (.bl (!decide (a = b))) μ :=
  propext ⟨fun ⟨x, y, e1, e2, q⟩ => by cases e1; cases e2; exact q, fun q => ⟨a, b, rfl, rfl, q⟩⟩
end DL

set_option Elab.async false
set_option linter.all false
set_option maxRecDepth 100000
set_option maxHeartbeats 4000000
set_option autoImplicit false
/-! Calls with all arguments by names: f(a = .., b = ..), C(a = ..), o.m(a = ..), o(a = ..). -/
namespace DL
open PySem PySem.Spec PyProof.Rows L2
/-- in the order of the parameters -/
def perm {α : Type} : List Nat → List α → List α
  | [], _ => []
  | i :: is, ws => match ws[i]? with
    | some x => x :: perm is ws
    | none => perm is ws
/-- a def whose n first values are written by position (the instance), the others by names -/
structure KwB (K : PySem.W.Frag) (fd : FuncData) (ps : List Str) (n : Nat) (ks : List Str) (pi : List Nat) : Prop where
  to : ∀ (s : Shared) (us ws : List Value), us.length = n → ws.length = ks.length → BindsTo s fd ⟨us, ks.zip ws⟩ (ps.zip (us ++ perm pi ws))
structure KwCallD (P : Program) (w : World) (K : PySem.W.Frag) (mg : Str → Option Value) (base : Heap) (k : Nat) (x : Str) (ps ks : List Str) (pi : List Nat) (sp : DSp) : Prop where
  ex : ∃ f fd, mg x = some (.ref f) ∧ PySem.W.keepIn K (.ref f) = true ∧ KwB K fd ps 0 ks pi ∧ FnG P w K mg base k f fd ps (toSp ⟨K, mg, none⟩ sp)
structure KwMakeD (P : Program) (w : World) (K : PySem.W.Frag) (mg : Str → Option Value) (base : Heap) (k : Nat) (c : Str) (ps ks : List Str) (pi : List Nat) (sp : ISp) : Prop where
  ex : ∃ C f fd, mg c = some (.ref C) ∧ Mk K C f ∧ KwB K fd ps 1 ks pi ∧ FnG P w K mg base k f fd ps (toSpI ⟨K, mg, none⟩ c sp)
structure KwMethD (P : Program) (w : World) (K : PySem.W.Frag) (mg : Str → Option Value) (base : Heap) (k : Nat) (c m : Str) (ps ks : List Str) (pi : List Nat) (sp : DSp) : Prop where
  ex : ∃ C f fd, mg c = some (.ref C) ∧ Cls K C ∧ Meth K C m f ∧ KwB K fd ps 1 ks pi ∧ FnG P w K mg base k f fd ps (toSp ⟨K, mg, none⟩ sp)
structure KwSpcD (P : Program) (w : World) (K : PySem.W.Frag) (mg : Str → Option Value) (base : Heap) (k : Nat) (cs : List Str) (nm : Str) (ps ks : List Str) (pi : List Nat) (sp : DSp) : Prop where
  ex : ∃ f fd, PySem.W.isFn K (.ref f) = true ∧ PySem.W.fnIn K f = true ∧ (∀ c ∈ cs, ∃ C, mg c = some (.ref C) ∧ PySem.W.findIn K (.ref C) nm = some (some (.ref f)) ∧ PySem.W.noSeq K C = true) ∧ KwB K fd ps 1 ks pi ∧ FnG P w K mg base k f fd ps (toSp ⟨K, mg, none⟩ sp)
def wPm (pi : List Nat) (wz : WA) : WA := fun ρ μ Q Xd => wz ρ μ (fun zs μ1 => zs.length = pi.length ∧ Q (perm pi zs) μ1) Xd
section
variable {W : WX} {X : Cx} {o : Expr} {wo : WE} {kws : List Keyword} {wz : WA} {pos p apos : Pos} {k j : Nat} {x c m : Str} {ps ks cs : List Str} {pi : List Nat} {sp : DSp}
abbrev KwOk (pos : Pos) (kws : List Keyword) (X : Cx) (ks : List Str) : Prop := (backToKw pos (keywordEach kws X.env)).all (·.1.isSome) = true ∧ (backToKw pos (keywordEach kws X.env)).filterMap (·.1) = ks ∧ ((backTo pos (starEach [] X.env)).any (·.1) || (backToKw pos (keywordEach kws X.env)).any (·.1.isNone)) = false
end
section
variable {pi : List Nat} {wz : WA} {ρ : DS} {μ : Mu} {Q : List D → Mu → Prop} {Xd : XD}
def KPm (pi : List Nat) (Q : List D → Mu → Prop) : List D → Mu → Prop := fun zs μ1 => zs.length = pi.length ∧ Q (perm pi zs) μ1
theorem r_pm : wPm pi wz ρ μ Q Xd = wz ρ μ (KPm pi Q) Xd := propext Iff.rfl
theorem r_pm1 {zs : List D} : KPm pi Q zs μ = (zs.length = pi.length ∧ Q (perm pi zs) μ) := propext Iff.rfl
end
end DL

set_option Elab.async false
set_option linter.all false
set_option maxRecDepth 100000
set_option maxHeartbeats 4000000
set_option autoImplicit false
/-! != of tuples whose items have an own `__eq__` and are all alike. -/
namespace DL
open PySem PySem.Spec PyProof.Rows L2
section
variable {prog : Program} {w : World} {A : Around}
open PySem.SeqAt AutoSeq1 MeetsSeq MeetsSeq2 MeetsSeq3 SeqRoads2 in
end
def fNeT (c : Str) (sp : DSp) : F2 := fun x y μ Q => tupE x fun ds => tupE y fun es => prsO c sp μ ds es ∧ Q (.bl false) μ
section
variable {X : Cx} {k j : Nat} {ps : List Str} {c : Str} {Ts : List String} {Cs : List Str} {sp : DSp}
end
theorem z_neT {c : Str} {sp : DSp} {ds es : List D} {μ : Mu} {Q : D → Mu → Prop} : fNeT c sp (.tup ds) (.tup es) μ Q = (prsO c sp μ ds es ∧ Q (.bl false) μ) := propext Iff.rfl
end DL

set_option Elab.async false
set_option linter.all false
set_option maxRecDepth 100000
set_option maxHeartbeats 4000000
set_option autoImplicit false
/-! + of tuples. -/
namespace DL
open PySem PySem.Spec PyProof.Rows L2
def fCatT : F2
  | .tup a, .tup b, μ, Q => a.length + b.length ≤ sizeLine ∧ Q (.tup (a ++ b)) μ
  | _, _, _, _ => False
section
variable {ex : Option (Addr × Addr × Addr)} {W : WX} {X : Cx} {a b : Expr} {wa wb : WE} {pos : Pos}
end
theorem z_catT {a b : List D} {μ : Mu} {Q : D → Mu → Prop} : fCatT (.tup a) (.tup b) μ Q = (a.length + b.length ≤ sizeLine ∧ Q (.tup (a ++ b)) μ) := propext Iff.rfl
end DL

set_option Elab.async false
set_option linter.all false
set_option maxRecDepth 100000
set_option maxHeartbeats 4000000
set_option autoImplicit false
/-! An exception out of a comprehension: the element is a call that lets one out. -/
namespace DL
open PySem PySem.Spec PyProof.Rows L2
/-- the frames stand, whatever became of C -/
theorem funs_but {h h' base : Heap} {C : Addr} (sb : Heap.SameBut C h h') : ∀ {l : List Env}, C ∉ frs l → h.FunFrames base l → h'.FunFrames base l
  | [], _, _ => trivial
  | env :: r, hs, hl => by
    obtain ⟨hk, ⟨F, o, hf, hn, ho, hd⟩, hr⟩ := hl
    have e1 : frs (env :: r) = F :: frs r := by
      unfold frs
      rw [List.filterMap_cons, hf]
    rw [e1] at hs
    exact ⟨hk, ⟨F, o, hf, hn, (sb.2 F fun z => hs (by rw [z]; exact List.mem_cons_self)).trans ho, hd⟩, funs_but sb (fun z => hs (List.mem_cons_of_mem _ z)) hr⟩
theorem note_same {e : Value} {env ce : Env} (h : ce.frame = env.frame) : noteFrame e ce = noteFrame e env := by
  unfold noteFrame PySem.frameOf
  rw [h]
section
variable {X : Cx} {W : WX} {E : XK}
/-- what is wanted of an exception that comes out of the block whose dict is C -/
def ErrC (X : Cx) (C : Addr) (u : Value) (s2 : Shared) : Prop :=
  ∃ m, s2.heap.Ns C m ∧ ∀ h', Heap.SameBut C s2.heap h' → ∀ c2 : Env, c2.locals = C → c2.frame = X.env.frame → wpAny (model X.prog X.w) X.A (PySem.passOn "comprehension.variables-let-go" u c2 : Sem Value) (fun _ _ => False) X.xe { s2 with heap := h' }
theorem out_blk {pins : List (Addr × Obj)} {σ : L2.St} {H6 : Hp} {s6 s' : Shared} {C : Addr} {m : Str → Option Value} {u : Value} {ce : Env} (hs : X.stack = X.env :: X.outer) (hf : X.env.frame = some X.env.locals) (tk : Takes X W) (hW : ∀ cls d H', E cls d H' → W cls d σ H')
    (hce : ce.frame = X.env.frame) (I6 : Inv X pins σ H6 s6) (hC : s6.heap.Ns C m) (fC : FpOk X pins H6 C) (hnF : C ∉ frs X.stack) (c : L2.CX X.prog X.w X.stack H6 s6 E u s') :
    notedBy (model X.prog X.w) X.A ce (ErrC X C) u s' := by
  obtain ⟨a, B, H', cls, d, rfl, fl, hok, ub, na, os, ag, hE⟩ := c
  have hfr : X.A.frames = some (X.env :: X.outer) := by rw [I6.ok.frames, hs]
  obtain ⟨f0, f1, f2, f3, f4, f5⟩ := fC
  show wpAny (model X.prog X.w) X.A (noteFrame (.ref a) ce) _ _ s'
  rw [note_same hce]
  have fl' := fl
  rw [hs] at fl'
  refine HandSPX.looks_onZ Zc.steady hfr hf fl' fun h2 hd up2 => ?_
  obtain ⟨oC, es, ep, eC, dC, rC⟩ := hC
  have bC : B.get? C = some oC := ub.keep C oC eC f0 hnF
  refine ⟨m, ⟨oC, es, ep, hd.1 C oC bC, dC, rC⟩, fun h3 sb c2 el ef => ?_⟩
  obtain ⟨k1, k2, k3, oe, vs, T, oT, ts, he, hz, hdat, h1, hnT, hTe, hT, hdT, h3'⟩ := hd
  have aC : a ≠ C := fun z => by rw [z, bC] at k2; cases k2
  have tC : T ≠ C := fun z => by rw [z, bC] at hnT; cases hnT
  obtain ⟨B1, g1, g2⟩ := restrict h3 fun b => (B.get? b).isSome
  have b1 : ∀ b o, B.get? b = some o → b ≠ C → B1.get? b = some o := fun b o e nb => by
    rw [g1 b (by simp [e]), sb.2 b nb]
    exact k1 b o e
  have b1n : ∀ b, B.get? b = none → B1.get? b = none := fun b e => g2 b (by simp [e])
  have b1s : ∀ b o, B1.get? b = some o → h3.get? b = some o ∧ (B.get? b).isSome = true := fun b o e => by
    cases q : (B.get? b).isSome with
    | false => rw [g2 b q] at e; cases e
    | true => rw [g1 b q] at e; exact ⟨e, rfl⟩
  have held : HandSPX.HeldZ B1 X.stack a (Zc cls d) X.env.locals h3 := by
    refine ⟨fun b o e => (b1s b o e).1, b1n a k2, ?_, oe, vs, T, oT, ts, (sb.2 a aC).trans he, hz, hdat, h1, b1n T hnT, hTe, (sb.2 T tC).trans hT, hdT, h3'⟩
    have := funs_but sb (by rw [← hs]; exact hnF) k3
    rw [hs]
    refine funFrames_none this fun b hb => b1n b ?_
    exact (k3.mem hb).1
  unfold PySem.passOn
  refine wpAny_bind (wpAny_field ((sb.2 a aC).trans he) hdat h1 ?_)
  rw [if_neg (show ¬ ((Value.ref T == Value.none) = true) from by simp)]
  rw [ef, hf]
  refine wpAny_bind (HandSPX.setFlight_onZ held fun h4 hd4 up4 => wpAny_throw ?_)
  -- in the def's air
  obtain ⟨G, q1, q2⟩ := restrict h4 fun b => (B1.get? b).isSome || decide (b ∈ frs X.stack)
  have gB : ∀ b o, B1.get? b = some o → G.get? b = some o := fun b o e => by
    rw [q1 b (by simp [e])]
    exact hd4.1 b o e
  have gF : ∀ b, b ∈ frs X.stack → G.get? b = h4.get? b := fun b hb => q1 b (by simp [hb])
  have og : ∀ b o, G.get? b = some o → h4.get? b = some o ∧ ((B1.get? b).isSome = true ∨ b ∈ frs X.stack) := fun b o e => by
    cases q : ((B1.get? b).isSome || decide (b ∈ frs X.stack)) with
    | false => rw [q2 b q] at e; cases e
    | true =>
      rw [q1 b q] at e
      exact ⟨e, by simpa [Bool.or_eq_true] using q⟩
  have sF : ∀ b o, s6.heap.get? b = some o → b ∈ frs X.stack → ∃ sl, h4.get? b = some { o with slots := sl } := fun b o e hb => by
    obtain ⟨_, o₀, e₀, hnf⟩ := I6.stack.mem hb
    rw [e] at e₀; cases e₀
    obtain ⟨sl, e1⟩ := ub.slot b o e hb
    obtain ⟨sl2, e2⟩ := up2 b _ e1 hnf
    have nb : b ≠ C := fun z => hnF (by rw [← z]; exact hb)
    obtain ⟨sl3, e3⟩ := up4 b _ ((sb.2 b nb).trans e2) hnf
    exact ⟨sl3, e3⟩
  have hC' : H' C = none := ub.free C oC eC f0
  have hokG : HOk X.prog X.w H' G := fun b o q => (hok b o q).stay (fun c v hc r => gB c v (b1 c v r fun z => by
    rw [z] at hc
    rcases hc with hc | hc
    · rw [← hc, hC'] at q; cases q
    · rw [hC'] at hc; cases hc)) (fun _ r => r) fun _ _ r => r
  have J : Inv X pins σ H' { s6 with heap := G, gens := s'.gens, drawn := s'.drawn, toks := s'.toks } := by
    refine I6.call (ch := [C]) ⟨fun b o e n hb hc => gB b o (b1 b o (ub.keep b o e n hb) (by simpa using hc)), fun b o e n hb _ => ?_, fun b o e n _ => ub.free b o e n, fun b o e hc => ?_, ub.tups, ub.frzs, ub.tbls⟩ hokG ag (fun b hb => ?_)
    · obtain ⟨sl, q⟩ := sF b o e hb
      exact ⟨sl, by rw [gF b hb]; exact q⟩
    · by_cases hb : b ∈ frs X.stack
      · obtain ⟨sl, q⟩ := sF b o e hb
        exact ⟨_, by rw [gF b hb]; exact q⟩
      · obtain ⟨o', q⟩ := ub.there b o e hb
        exact ⟨o', gB b o' (b1 b o' q (by simpa using hc))⟩
    · have e : b = C := by simpa using hb
      subst e
      exact ⟨f3, f1, f4, f5⟩
  refine tk _ _ ⟨a, B1, _, pins, σ, H', cls, d, rfl, J, fun b o e hb => ?_, Heap.UpToSlots.of_keeps fun b o e => (og b o e).1, .inr (.inr hd4), na, os, ag, hW _ _ _ hE⟩
  obtain ⟨e', h⟩ := og b o e
  rcases h with h | h
  · obtain ⟨o', q⟩ := Option.isSome_iff_exists.mp h
    have z := hd4.1 b o' q
    rw [e'] at z; cases z
    exact q
  · exact absurd h hb
end

/-- behind the block: as the kit has it, but an exception's notes lie in the frame of the block's maker -/
def cpE (M : Model) (A : Around) (E : Value → Shared → Prop) (fr : Option Addr) (use : Option (Value → Sem Unit)) (Q : Value → Shared → Prop) (acc : Value) (C : Addr) (r : Result) (s' : Shared) : Prop :=
  match r with
  | .ok x => compPost M A E use Q acc C (.ok x) s'
  | .error u => ∃ m, s'.heap.Ns C m ∧ ∀ h', Heap.SameBut C s'.heap h' → ∀ c2 : Env, c2.locals = C → c2.frame = fr → wpAny M A (PySem.passOn "comprehension.variables-let-go" u c2 : Sem Value) (fun _ _ => False) E { s' with heap := h' }
section
variable {M : Model} {A : Around} {E : Value → Shared → Prop} {s : Shared} {env : Env}
theorem any_compE {e : Expr} {scope : Scope} {pos : Pos} {newAcc first : Sem Value} {g : Comprehension} {gs : List Comprehension} {cl : List (Str × Addr)} {use : Option (Value → Sem Unit)}
    {Q : Value → Shared → Prop}
    (hcl : clausesOf e = g :: gs) (hs : ∀ x, foldedSetIterable g.iter env x = pure x) (hclos : closureFor scope env = pure cl)
    (hkind : scope.kind = .function) (hnames : ∀ x ∈ scope.names, x.2 = .local → scope.names.lookup x.1 = some .local)
    (h : wpAny M A first (fun x s₁ => wpAny M A (pyIter x) (fun it s₂ => wpAny M A newAcc (fun acc s₃ =>
      wpAny M A (newFunctionEnv scope env.globals cl [] env.qual none .none (some env)) (fun cenv s₄ =>
        codeAny M A (.compStart e 0 it acc { cenv with scope := relabel scope env }) (cpE M A E cenv.frame use Q acc cenv.locals) s₄) E s₃) E s₂) E s₁) E s) :
    wpAny M A (comprehension e scope env pos newAcc false first use) Q E s := by
  unfold comprehension
  rw [hclos, hcl]
  refine wpAny_bind (wpAny_mono h (fun x s₁ h₁ => wpAny_bind (wpAny_standAt (wpAny_bind (wpAny_of_eq (hs x) (wpAny_bind (wpAny_holding (wpAny_mono h₁ (fun it s₂ h₂ =>
    wpAny_standIf (wpAny_bind (wpAny_mono h₂ (fun acc s₃ h₃ => wpAny_bind (wpAny_pure (wpAny_bind (wpAny_mono h₃ (fun cenv s₄ h₄ => ?_) fun _ _ h' => h')))) fun _ _ h' => h')))
      fun _ _ h' => h'))))))) fun _ _ h' => h')
  dsimp only
  have hv : ∀ x ∈ (scope.names.filter fun x => (x.2 == .local || x.2 == .cell) && x.1 != (".0" : Str)).reverse, x.2 = .local →
      Env.kindOf { cenv with scope := relabel scope env } x.1 = some .local := fun x hx hl => lookup_relabel_local (hnames x (List.mem_filter.mp (List.mem_reverse.mp hx)).1 hl)
  have hv' : ∀ x ∈ (scope.names.filter fun x => (x.2 == .local || x.2 == .cell) && x.1 != (".0" : Str)).reverse.drop 1 ++ (scope.names.filter fun x => (x.2 == .local || x.2 == .cell) && x.1 != (".0" : Str)).reverse.take 1,
      x.2 = .local → Env.kindOf { cenv with scope := relabel scope env } x.1 = some .local := fun x hx hl => by
    rcases List.mem_append.mp hx with h1 | h1
    · exact hv x (List.mem_of_mem_drop h1) hl
    · exact hv x (List.mem_of_mem_take h1) hl
  refine wpAny_holding (wpAny_bind (wpAny_attempt (wpAny_holding (wpAny_run (codeAny_mono h₄ fun r s' hr => ?_)))))
  cases r with
  | ok f =>
    cases use with
    | none =>
      obtain ⟨m, hn, hr⟩ := hr
      exact wpAny_bind (wpAny_holding (wpAny_comp_letGo (cenv := { cenv with scope := relabel scope env }) hkind _ s' m hv hn fun h' m' _ hs' => wpAny_pure (hr h' hs')))
    | some u =>
      refine wpAny_bind (wpAny_rule (wpAny_bind (wpAny_holding (wpAny_mono hr (fun _ s'' hr' => ?_) fun _ _ h' => h'))))
      obtain ⟨m, hn, hr'⟩ := hr'
      exact wpAny_bind (wpAny_comp_letGo (cenv := { cenv with scope := relabel scope env }) hkind _ s'' m hv' hn fun h' m' _ hs' => wpAny_pure (hr' h' hs'))
  | error x =>
    obtain ⟨m, hn, hr⟩ := hr
    exact wpAny_bind (wpAny_holding (wpAny_comp_letGo (cenv := { cenv with scope := relabel scope env }) hkind _ s' m hv hn fun h' m' _ hs' => wpAny_mono (hr h' hs' _ rfl rfl) (fun _ _ f => f.elim) fun _ _ y => y))
end
def wCallR (sp : DSp) (wa : WA) : WE := fun ρ μ Q Xd => wa ρ μ (fun ds μ1 => sp ds μ1 Q Xd) xF
/-- an element that may let an exception out -/
abbrev TER := L2.St → Hp → VK → XK → Prop
structure PER (B : Cx) (elt : Expr) (te : TER) : Prop where
  run : ∀ (pins : List (Addr × Obj)) (s : Shared) (σ : L2.St) (H : Hp) (Q : VK) (E : XK), Inv B pins σ H s → te σ H Q E →
    wpAny (model B.prog B.w) B.A (eval elt B.env) (EP B pins σ Q) (fun u s2 => ∃ H1 s1, Inv B pins σ H1 s1 ∧ L2.CX B.prog B.w B.stack H1 s1 E u s2) s
def liftER (G : Gx) (te : WE) : TER := fun σ H Q' E => ∃ Z m ρ μ Q Xd, SR G Z m σ H ρ μ ∧ te ρ μ Q Xd ∧ (∀ v H', VPost G (ownW Z σ ρ) m H Q v H' → Q' v H') ∧ ∀ cls d H', XPost G (ownW Z σ ρ) m H Xd cls d H' → E cls d H'
section
variable {B : Cx} {e : Expr} {es : List Expr} {ws : WA} {pos p : Pos} {k j : Nat} {ps : List Str} {x : Str} {sp : DSp}
theorem per_call (C : CallD B.prog B.w B.K B.mg B.base k x ps sp) (hr : Room j B.A) (hkj : k ≤ j) (hgd : B.A.guards = some []) (hg : Gl B x) (hxe : B.xe = fun _ _ => False) (ha : DA none WF B (e :: es) ws) (hdb : (x == ("__debug__" : Str)) = false := by decide)
    (he : starEach (e :: es) B.env = (false, eval e B.env) :: starEach es B.env := by rfl) (hpl : (backTo pos (starEach es B.env)).any (·.1) = false := by rfl) : PER B (.Call (.Name x p) (e :: es) [] pos) (liftER (gx B none) (wCallR sp ws)) := by
  obtain ⟨f, fd, h1, h2, h3, F⟩ := C.ex
  refine ⟨fun pins s σ H Q E I h => ?_⟩
  obtain ⟨Z, m, ρ, μ, Q0, Xd, S, q, kq, kx⟩ := h
  refine wpAny_Call_Name_kw (ld_glob I hg h1 ?_ hdb)
  have a := ha.run pos pins s σ H (fun vs H1 => APost (gx B none) (ownW Z σ ρ) m H (fun ds μ1 => sp ds μ1 Q0 Xd) vs H1) I ⟨Z, m, ρ, μ, _, xF, S, q, fun vs H1 P => P, fun cls d H' P => (xpF P).elim⟩
  rw [hxe] at a
  refine PySem.W.callWith_K (h₀ := B.base) I.ok.mod.kin h2 (thnF a fun us s1 ⟨vs, H1, I1, rv, q⟩ => ⟨I1.kIn, ?_⟩) he hpl
  obtain ⟨m1, ds, μ1, s1', r1, q1⟩ := q
  have hsp : toSp (gx B none) sp vs H1 Q E := ⟨_, m1, μ1, ds, Q0, Xd, s1'.mu, r1, q1, fun v H' P => kq v H' (VPost.from s1' P), fun cls d H' P => kx cls d H' (XPost.from s1' P)⟩
  have e0 : us.length = ps.length := rv.length.symm.trans (F.len _ _ _ _ hsp)
  have bd : BindsTo s1 fd ⟨us, []⟩ (ps.zip us) := by simpa using h3 s1 us I1.kIn (by simpa using e0)
  refine wpAny_call (codeAny_mono (F.run B.A B.stack s1 H1 ⟨us, []⟩ us vs Q _ (hr.mono hkj) hgd I1.env0 bd rv hsp) fun res s2 hres => ?_)
  match res, hres with
  | .error er, hres => exact ⟨H1, s1, I1, hres⟩
  | .ok (.ret u), hres => exact I1.after hres
end
/-- [elt for target in iter if ..], the element may let an exception out: W what is then asked, of the slots as they were -/
def tLcR (wi : TI) (g : TG) (tt : TT) (te : TER) (W : WX) (vs : List Nat) : TE := fun σ H Q => wi σ H fun J H1 => ∀ D, H1 D = none → ∃ V : Nat → Nat → Hp → Prop, (∃ m, V 0 m (upd H1 D (.lst []))) ∧ ∀ i m H, V i m H →
  (J.stop i H ∧ Q (.ref D) H) ∨ (J.go i H ∧ ∃ Nx : Hp → Prop, (∀ H', Nx H' → ∃ m', m' < m ∧ V (i + 1) m' H') ∧ ∀ x H', J.yld i H x H' → g x (wipe σ vs) H' fun σ2 H2 => wipe σ2 vs = wipe σ vs ∧ tt σ2 H2 fun b H3 =>
    if b = true then te σ2 H3 (fun y H4 => ∃ acc, H4 D = some (.lst acc) ∧ acc.length < sizeLine ∧ Nx (upd H4 D (.lst (acc ++ [y])))) (fun cls d H' => W cls d σ H') else Nx H3)
section
variable {X : Cx} {W : WX}
theorem lcR_core {pins : List (Addr × Obj)} {s : Shared} {σ : L2.St} {H : Hp} {Q : VK} {elt tg iter : Expr} {ifs : List Expr} {scope : Scope} {own : List (Str × Nat)} {pos pos' : Pos} {wi : TI} {g : TG} {tt : TT} {te : TER} {use : Option (Value → Sem Unit)} {Qf : Value → Shared → Prop}
    (hsk : X.stack = X.env :: X.outer) (hf : X.env.frame = some X.env.locals) (tk : Takes X W) (hc : X.calm = true) (hN : X.N.Nodup) (I : Inv X pins σ H s) (hi : PI X tg iter wi) (ok : BlkOk X.N X.env.scope scope own)
    (hg : ∀ (s : Shared) (H : Hp) (C : Addr) (cl : List (Str × Addr)) (fp : List Addr), PG (X.blk s H scope (compEnvC scope cl C X.env) fp) tg g) (ht : ∀ (s : Shared) (H : Hp) (C : Addr) (cl : List (Str × Addr)) (fp : List Addr), PTs (X.blk s H scope (compEnvC scope cl C X.env) fp) ifs tt)
    (he : ∀ (s : Shared) (H : Hp) (C : Addr) (cl : List (Str × Addr)) (fp : List Addr), PER (X.blk s H scope (compEnvC scope cl C X.env) fp) elt te) (hs : ∀ x, foldedSetIterable iter X.env x = pure x)
    (h : tLcR wi g tt te W (own.map (·.2)) σ H Q)
    (hRR : ∀ D C s' m H', Inv X pins σ H' s' → Q (.ref D) H' → s'.heap.Ns C m → FpOk X pins H' C → compPost (model X.prog X.w) X.A X.xe use Qf (.ref D) C (.ok .next) s') :
    wpAny (model X.prog X.w) X.A (comprehension (.ListComp elt [⟨tg, iter, ifs, 0⟩] scope pos) scope X.env pos' (newList []) false (eval iter X.env) use) Qf X.xe s := by
  have hfree : ∀ y ∈ scope.names, y.2 = .free → ∃ c, X.env.cells.lookup y.1 = some c := fun y hy e => by
    rcases ok.free y hy e with k | k
    · exact I.ok.has _ (.inl k)
    · exact I.ok.has _ (.inr k)
  refine any_compE (use := use) rfl hs (closure_ok hfree) ok.kind (fun y hy e => by rw [ok.uniq y hy, e])
    (thn (hi.run pins s σ H _ I h) fun xv s1 hx => thn hx fun itv s2 h2 => ?_)
  obtain ⟨it, fp, tn, J, H2, e, I2, T, st2, f2, q⟩ := h2
  subst e
  refine wpAny_newObj_type (newEnv_comp ?_) (by show 0 ≤ sizeLine; decide)
  generalize hD : s2.heap.objs.size = D
  have hDn : H2 D = none := I2.hok.fresh (Nat.le_of_eq hD)
  obtain ⟨V, ⟨m0, w0⟩, turn⟩ := q D hDn
  -- the new list
  generalize hs3 : ({ s2 with heap := s2.heap.push { cls := .type "list", data := .seq ([] : List Value).toArray } } : Shared) = s3
  have I3 : Inv X pins σ (upd H2 D (.lst [])) s3 := by
    rw [← hs3]
    refine I2.laid (t' := s2.toks) (fun b o e => Heap.get?_push_of_some _ e) (Nat.le_of_eq hD) ⟨Nat.zero_le _, [], 0, .nil, ?_⟩
    rw [← hD]
    exact Heap.get?_push_size _ rfl
  have h3 : s3.heap = s2.heap.push { cls := .type "list", data := .seq ([] : List Value).toArray } := by rw [← hs3]
  have sz : ∀ b ∈ fp, b < s2.heap.objs.size := fun b hb => by
    obtain ⟨o, e, _⟩ := T.obj _ _ st2 b hb
    exact Heap.lt_size e
  have f3 : ∀ b ∈ fp, FpOk X pins (upd H2 D (.lst [])) b ∧ b < s3.heap.objs.size := fun b hb => by
    have hlt := sz b hb
    refine ⟨⟨?_, (f2 b hb).2⟩, by rw [h3, Heap.size_push]; exact Nat.lt_succ_of_lt hlt⟩
    rw [upd_ne (by rw [← hD]; exact Nat.ne_of_lt hlt)]
    exact (f2 b hb).1
  have st3 : tn 0 s3.heap := T.keep _ _ _ st2 fun b _ o e => by rw [h3]; exact Heap.get?_push_of_some _ e
  have I4 := block_start I3 ok hN f3
  have pg := hg s3 (upd H2 D (.lst [])) s3.heap.objs.size (cellsFrom (s3.heap.objs.size + 1) scope.names (cloFrom X.env.cells scope.names [])) fp
  have pt := ht s3 (upd H2 D (.lst [])) s3.heap.objs.size (cellsFrom (s3.heap.objs.size + 1) scope.names (cloFrom X.env.cells scope.names [])) fp
  have pe := he s3 (upd H2 D (.lst [])) s3.heap.objs.size (cellsFrom (s3.heap.objs.size + 1) scope.names (cloFrom X.env.cells scope.names [])) fp
  show codeAny _ _ (.compStart (.ListComp elt [⟨tg, iter, ifs, 0⟩] scope pos) 0 (.ref it) (.ref D) (compEnvC scope (cellsFrom (s3.heap.objs.size + 1) scope.names (cloFrom X.env.cells scope.names [])) s3.heap.objs.size X.env)) (cpE (model X.prog X.w) X.A X.xe X.env.frame use Qf (.ref D) s3.heap.objs.size) { s3 with heap := pushCells (s3.heap.push { cls := .type "dict", data := .dict #[] }) scope.names }
  have nfp : ∀ b ∈ fp, (upd H2 D (.lst [])) b = none := fun b hb => (f3 b hb).1.1
  generalize hce : compEnvC scope (cellsFrom (s3.heap.objs.size + 1) scope.names (cloFrom X.env.cells scope.names [])) s3.heap.objs.size X.env = ce at I4 pg pt pe ⊢
  have cL : ce.locals = s3.heap.objs.size := by subst hce; rfl
  have cf : ce.frame = X.env.frame := by subst hce; rfl
  generalize hH3 : upd H2 D (.lst []) = H3 at I3 I4 pg pt pe w0 nfp f3
  generalize hs4 : ({ s3 with heap := pushCells (s3.heap.push { cls := .type "dict", data := .dict #[] }) scope.names } : Shared) = s4 at I4 ⊢
  have st4 : tn 0 s4.heap := T.keep _ _ _ st3 fun b _ o e => by rw [← hs4]; exact pushCells_keeps _ _ _ _ (Heap.get?_push_of_some _ e)
  have stat : ∀ {σ' : L2.St} {H' : Hp} {s' : Shared}, Inv (X.blk s3 H3 scope ce fp) [] σ' H' s' → (∀ b ∈ fp, H' b = none) → ∀ b ∈ fp, FpOk (X.blk s3 H3 scope ce fp) [] H' b := fun {σ' H' s'} I' hn b hb =>
    ⟨hn b hb, (I'.ok.exf b hb).1, I'.ok.exfs b hb, .inl hb, fun x c e => (I'.ok.exf b hb).2 x c e, fun p hp => absurd (show p ∈ ([] : List (Addr × Obj)) ++ [] from hp) (by simp)⟩
  have loop : codeAny (model X.prog X.w) X.A (.compLoop (.ListComp elt [⟨tg, iter, ifs, 0⟩] scope pos) 0 (.ref it) (.ref D) ce) (cpE (model X.prog X.w) X.A X.xe X.env.frame use Qf (.ref D) s3.heap.objs.size) s4 := by
    refine compLoop_any (fun n s' => ∃ i H', Inv (X.blk s3 H3 scope ce fp) [] (wipe σ (own.map (·.2))) H' s' ∧ tn i s'.heap ∧ (∀ b ∈ fp, H' b = none) ∧ V i n H') ?_ m0 ⟨0, H3, I4, st4, nfp, w0⟩
    rintro n s5 ⟨i, H5, I5, st5, n5, w5⟩
    rcases turn i n H5 w5 with ⟨stop, qq⟩ | ⟨go, Nx, hNx, step⟩
    · have td := T.done (X.blk s3 H3 scope ce fp) rfl rfl rfl hc i [] s5 _ H5 (fun _ _ => False) I5 (stat I5 n5) st5 stop
      refine thnF td fun r s6 ⟨hr, I6⟩ => ?_
      subst hr
      -- back in the def's context
      have I7 : Inv X pins σ H5 s6 := I3.call' (ch := fp) I6.os I6.base I6.hok I6.bare fun b hb => ⟨(f3 b hb).1.2.2.2.1, (f3 b hb).1.2.1, (f3 b hb).1.2.2.2.2.1, (f3 b hb).1.2.2.2.2.2⟩
      have nC : H5 s3.heap.objs.size = none := by
        have z : H5 ce.locals = none := I6.free
        rw [cL] at z
        exact z
      obtain ⟨m, hn, _⟩ := I6.loc
      have hn : s6.heap.Ns ce.locals m := hn
      rw [cL] at hn
      exact hRR D s3.heap.objs.size s6 m H5 I7 qq hn (I3.fpOk (Nat.le_refl _) nC)
    · have ti := T.item (X.blk s3 H3 scope ce fp) rfl rfl rfl hc i [] s5 _ H5 (fun _ _ => False) I5 (stat I5 n5) st5 go
      refine thnF ti fun r s6 ⟨u, hr, h6⟩ => ?_
      subst hr
      refine thnF h6 fun _ s7 ⟨x, H7, I7, r7, y7, st7, n7⟩ => ?_
      have I7' := I7.pinned (stat I7 n7) (T.obj _ _ st7)
      refine thnF (pg.run _ s7 _ H7 x u _ I7' r7 (step x H7 y7)) fun _ s8 ⟨σ8, H8, I8, hw8, q8⟩ => ?_
      refine thnF (pt.run _ s8 σ8 H8 _ I8 q8) fun b s9 ⟨H9, I9, q9⟩ => ?_
      -- the turn's end
      have fin : ∀ {s' : Shared} {H' : Hp}, Inv (X.blk s3 H3 scope ce fp) ([] ++ pinsAt fp s7.heap) σ8 H' s' → Nx H' → ∃ m, m < n ∧ ∃ i H', Inv (X.blk s3 H3 scope ce fp) [] (wipe σ (own.map (·.2))) H' s' ∧ tn i s'.heap ∧ (∀ b ∈ fp, H' b = none) ∧ V i m H' := fun {s' H'} I' nx => by
        obtain ⟨m', hm, w'⟩ := hNx H' nx
        have pin' : ∀ b ∈ fp, ∀ o, s7.heap.get? b = some o → s'.heap.get? b = some o ∧ H' b = none := fun b hb o e =>
          let z := I'.pin (b, o) (List.mem_append_right _ (List.mem_append_right _ (mem_pinsAt hb e)))
          ⟨z.1, z.2.1⟩
        have hl : (wipe σ (own.map (·.2))).length = σ8.length := by rw [← hw8, wipe_length]
        refine ⟨m', hm, i + 1, H', (I'.unpinned (pins := [])).weak hl (fun j v e => ?_), T.keep _ _ _ st7 fun b hb o e => (pin' b hb o e).1, fun b hb => ?_, w'⟩
        · rw [← hw8] at e
          exact (wipe_some e).1
        · obtain ⟨o, e, _⟩ := T.obj _ _ st7 b hb
          exact (pin' b hb o e).2
      cases b with
      | false =>
        simp only [Bool.false_eq_true, if_false] at q9 ⊢
        exact fin I9 q9
      | true =>
        simp only [if_true] at q9 ⊢
        refine wpAny_mono (pe.run _ s9 σ8 H9 _ _ I9 q9) (fun z s10 ⟨yv, H10, I10, r10, acc, hD10, hz10, nx⟩ => app_ok (X := X.blk s3 H3 scope ce fp) I10 hD10 hz10 r10 fun s11 I11 => fin I11 nx) fun u s10 ⟨Hc, sc, Ic, c⟩ => ?_
        have Iu : Inv X pins σ Hc sc := I3.call' (ch := fp) Ic.os Ic.base Ic.hok Ic.bare fun b hb => ⟨(f3 b hb).1.2.2.2.1, (f3 b hb).1.2.1, (f3 b hb).1.2.2.2.2.1, (f3 b hb).1.2.2.2.2.2⟩
        have nC : Hc s3.heap.objs.size = none := by
          have z : Hc ce.locals = none := Ic.free
          rw [cL] at z
          exact z
        obtain ⟨m, hn, _⟩ := Ic.loc
        have hn : sc.heap.Ns ce.locals m := hn
        rw [cL] at hn
        have fC : FpOk X pins Hc s3.heap.objs.size := I3.fpOk (Nat.le_refl _) nC
        have hnF : s3.heap.objs.size ∉ frs X.stack := fun hb => (List.mem_cons.mp (I3.stkSub _ hb)).elim (fun z => fC.2.1 z) fun z => fC.2.2.1 z
        exact out_blk hsk hf tk (fun _ _ _ q => q) cf Iu hn fC hnF c
  exact codeAny_compStart_list loop (T.self X.A 0 _ _ _ st4 loop)
end
def wLcR (wi : WI) (g : WG) (tt : WT) (te : WE) (vs : List Nat) : WE := fun ρ μ Q Xd => wLc wi g tt (fun ρ μ Q _ => te ρ μ Q Xd) vs ρ μ Q Xd
theorem y_lcR {wi : WI} {g : WG} {tt : WT} {te : WE} {vs : List Nat} {ρ : DS} {μ : Mu} {Q : D → Mu → Prop} {Xd : XD} : wLcR wi g tt te vs ρ μ Q Xd = wLc wi g tt (fun ρ μ Q _ => te ρ μ Q Xd) vs ρ μ Q Xd := rfl
theorem y_callR {sp : DSp} {wa : WA} {ρ : DS} {μ : Mu} {Q : D → Mu → Prop} {Xd : XD} : wCallR sp wa ρ μ Q Xd = wa ρ μ (fun ds μ1 => sp ds μ1 Q Xd) xF := rfl
theorem XPost.out {G : Gx} {W W' : Addr → Prop} {m1 m5 : List Addr} {H1 H5 H6 : Hp} {Xd : XD} {cls : Value} {d : Option Addr} (sub : ∀ b, W b → W' b) (pm : m1 <+: m5) (hid : ∀ z, W z → H5 z = H1 z) (sm : Same (vis W m1 H1) (vis W' m5 H5)) (P : XPost G W' m5 H5 Xd cls d H6) : XPost G W m1 H1 Xd cls d H6 := by
  obtain ⟨m', c, ks, es, μ', C, dd, vs, s', e1, e2, e3, e4, e5, e6, q⟩ := P
  exact ⟨m', c, ks, es, μ', C, dd, vs, ⟨pm.trans s'.pre, fun z hz => (s'.hid z (sub z hz)).trans (hid z hz), s'.mu.less sub, (sm.trans s'.same).trans (vis_mono sub)⟩, e1, e2, e3, vis_mono sub _ _ e4, e5, Reps.mono (List.prefix_refl _) (vis_mono sub) _ _ e6, q⟩
theorem lift_lcR {G : Gx} {W : WX} {wi : WI} {g : TG} {k : WG} {tt : WT} {te : WE} {vs : List Nat} (hg : LcG G vs g k) {σ : L2.St} {H : Hp} {Q' : VK} (q : lift G W (wLcR wi k tt te vs) σ H Q') :
    tLcR (liftIF G W wi) g (liftT G WF tt) (liftER G te) W vs σ H Q' := by
  obtain ⟨Z, m, ρ, μ, Q, Xd, S, q, kq, kx⟩ := q
  refine ⟨Z, m, ρ, μ, _, Xd, S, q, fun J H1 P => ?_, kx⟩
  obtain ⟨m1, ds, μ1, F, s1, hF, ok, no', q1⟩ := P
  have no : noOwn ρ vs := fun v hv a ds => notOwn_of (no' v hv) a ds
  intro D nD
  have S1 := S.step s1
  have E0 := own_wipe' (Z := Z) (σ := σ) (ρ := ρ) (vs := vs) no
  have Sw := S1.wiped (vs := vs) no
  obtain ⟨Mh, sh⟩ := MuOk.hide (o := .lst []) S1.mu nD
  -- the state of a turn
  have base : SR G (addZ Z D) m1 (wipe σ vs) (upd H1 D (.lst [])) (wipeD ρ vs) μ1 := by
    refine ⟨Sw.len, by rw [own_add, E0]; exact Mh, fun i d e => ?_, fun i a es e => ?_, Sw.dis, fun i c ks es e => ?_⟩
    · obtain ⟨v, h1, h2⟩ := Sw.val i d e
      rw [E0] at h2
      exact ⟨v, h1, by rw [own_add, E0]; exact Rep.mono (List.prefix_refl _) sh _ _ h2⟩
    · obtain ⟨h1, h2, h4⟩ := Sw.own i a es e
      rw [E0] at h4
      have na : a ≠ D := fun z => h4.there (by rw [z, nD])
      exact ⟨h1, fun z => z.elim h2 na, by rw [own_add, E0]; exact h4.keep (List.prefix_refl _) sh (upd_ne na)⟩
    · have z := Sw.exn i c ks es e
      rw [E0] at z
      rw [own_add, E0]
      exact z.mono (List.prefix_refl _) sh
  have nDW : ¬ ownW Z σ ρ D := fun z => S1.mu.hw D z nD
  let In : List DL.D → Hp → Prop := fun rest H' => ∃ m' μ' acc us, m1 <+: m' ∧ (∀ z, ownW Z σ ρ z → H' z = H1 z) ∧ SR G (addZ Z D) m' (wipe σ vs) H' (wipeD ρ vs) μ' ∧ Same (vis (ownW Z σ ρ) m1 H1) (vis (addZ (ownW Z σ ρ) D) m' H') ∧
    H' D = some (.lst us) ∧ Reps G m' (vis (addZ (ownW Z σ ρ) D) m' H') acc us ∧ lcL k tt (fun ρ μ Q _ => te ρ μ Q Xd) (wipeD ρ vs) rest acc μ' Q
  refine ⟨fun i n H' => n = ds.length - i ∧ i ≤ ds.length ∧ In (ds.drop i) H', ⟨_, rfl, Nat.zero_le _, m1, μ1, [], [], List.prefix_refl _, fun z hz => upd_ne fun e => nDW (e ▸ hz), base, sh, upd_same, Reps.nil, q1⟩, ?_⟩
  rintro i n H' ⟨rfl, hle, m', μ', acc, us, pm, hid, S', sm, hD, ra, q'⟩
  have vis' : Same (vis (ownW Z σ ρ) m1 H1) H' := sm.trans vis_le
  by_cases hlt : i < ds.length
  · refine .inr ⟨ok.go i H' hlt vis' (hF H' hid), In (ds.drop (i + 1)), fun H2 h2 => ⟨_, (by omega : ds.length - (i + 1) < ds.length - i), rfl, hlt, h2⟩, fun x H3 y => ?_⟩
    obtain ⟨d, ed, hy⟩ := ok.yld i H' x H3 hlt vis' (hF H' hid) y
    obtain ⟨hi', ee⟩ := List.getElem?_eq_some_iff.mp ed
    rw [List.drop_eq_getElem_cons hi', lcL, ee] at q'
    have ow : ownW (addZ Z D) (wipe σ vs) (wipeD ρ vs) = addZ (ownW Z σ ρ) D := by rw [own_add, E0]
    have : SR G (addZ Z D) m' (wipe σ vs) H3 (wipeD ρ vs) μ' ∧ Same (vis (addZ (ownW Z σ ρ) D) m' H') (vis (addZ (ownW Z σ ρ) D) m' H3) ∧ (∀ z, addZ (ownW Z σ ρ) D z → H3 z = H' z) ∧ Rep G m' (vis (addZ (ownW Z σ ρ) D) m' H3) d x := by
      rcases hy with ⟨rfl, rd⟩ | ⟨T, o, nT, rfl, rd⟩
      · exact ⟨S', Same.refl _, fun _ _ => rfl, Rep.mono pm sm _ _ rd⟩
      · have st := Step.laid (o := o) S'.mu nT
        rw [ow] at st
        exact ⟨S'.step (by rw [ow]; exact st), st.same, st.hid, rd _ _ pm (sm.trans st.same) (by rw [vis_upd (ow ▸ S'.mu) nT, upd_same])⟩
    obtain ⟨S3, sm3, hid3, rd⟩ := this
    refine hg (addZ Z D) m' μ' (wipe σ vs) H3 (wipeD ρ vs) d x _ _ S3 (by rw [ow]; exact rd) q' fun σ4 ρ4 S4 ow4 ew q4 => ⟨?_, ?_⟩
    · exact ew.trans (wipe_wipe σ vs)
    · refine ⟨addZ Z D, m', ρ4, μ', _, _, S4, q4, fun b H5 P => ?_, fun cls dd H5 P => (xpF P).elim⟩
      obtain ⟨m5, μ5, s5, q5⟩ := P
      rw [ow4, ow] at s5
      have back : ∀ {m6 μ6 H6}, Step G (addZ (ownW Z σ ρ) D) m' H3 m6 μ6 H6 → SR G (addZ Z D) m6 (wipe σ vs) H6 (wipeD ρ vs) μ6 := fun {m6 μ6 H6} s6 => S3.step (by rw [ow]; exact s6)
      cases b with
      | false =>
        rw [if_neg Bool.false_ne_true] at q5 ⊢
        exact ⟨m5, μ5, acc, us, pm.trans s5.pre, fun z hz => ((s5.hid z (.inl hz)).trans (hid3 z (.inl hz))).trans (hid z hz), back s5, (sm.trans sm3).trans s5.same, ((s5.hid D (.inr rfl)).trans (hid3 D (.inr rfl))).trans hD, Reps.mono s5.pre (sm3.trans s5.same) _ _ ra, q5⟩
      | true =>
        rw [if_pos rfl] at q5 ⊢
        refine ⟨addZ Z D, m5, ρ4, μ5, _, Xd, S4.step (by rw [ow4, ow]; exact s5), q5, fun u H6 P => ?_, fun cls dd H6 P => kx cls dd H6 (XPost.from s1 (XPost.out (fun b h => .inl h) (pm.trans s5.pre) (fun z hz => ((s5.hid z (.inl hz)).trans (hid3 z (.inl hz))).trans (hid z hz)) ((sm.trans sm3).trans s5.same) (by rw [ow4, ow] at P; exact P)))⟩
        obtain ⟨m6, yd, μ6, s6, r6, hlen, q6⟩ := P
        rw [ow4, ow] at s6 r6
        have s56 := s5.trans s6
        refine ⟨us, ((s56.hid D (.inr rfl)).trans (hid3 D (.inr rfl))).trans hD, by rw [← ra.len]; exact Nat.lt_of_lt_of_le hlen (by decide), ?_⟩
        refine ⟨m6, μ6, acc ++ [yd], us ++ [u], pm.trans s56.pre, fun z hz => ?_, (back s56).hid, ?_, upd_same, ?_, q6⟩
        · have hb : z ≠ D := fun e => nDW (e ▸ hz)
          rw [upd_ne hb]
          exact ((s56.hid z (.inl hz)).trans (hid3 z (.inl hz))).trans (hid z hz)
        · rw [vis_hidden]
          exact (sm.trans sm3).trans s56.same
        · rw [vis_hidden]
          exact Reps.append (Reps.mono s56.pre (sm3.trans s56.same) _ _ ra) (Reps.cons r6 Reps.nil)
  · have e : i = ds.length := by omega
    subst e
    rw [List.drop_length, lcL] at q'
    refine .inl ⟨ok.stop H' vis' (hF H' hid), kq _ _ (VPost.from s1 ?_)⟩
    have ow : ownW (addZ Z D) (wipe σ vs) (wipeD ρ vs) = addZ (ownW Z σ ρ) D := by rw [own_add, E0]
    have M' := S'.mu
    rw [ow] at M'
    have sub : ∀ b, ownW Z σ ρ b → addZ (ownW Z σ ρ) D b := fun b h => .inl h
    refine ⟨m', .lst acc, μ', ⟨pm, hid, M'.less sub, sm.trans (vis_mono sub)⟩, ?_, q'⟩
    rw [Rep]
    exact ⟨D, us, rfl, vis_some.mpr ⟨nDW, fun z => M'.out D z (.inr rfl), hD⟩, Reps.mono (List.prefix_refl _) (vis_mono sub) _ _ ra⟩
section
variable {W : WX} {X : Cx} {elt tg iter : Expr} {ifs : List Expr} {scope : Scope} {own : List (Str × Nat)} {pos : Pos} {wi : WI} {g : TG} {k : WG} {tt : WT} {te : WE}
/-- name = [..] on one line; the element may let an exception out -/
theorem ds_setLcRF {i : Nat} {y : Str} {py spos : Pos} (hsk : X.stack = X.env :: X.outer) (hf : X.env.frame = some X.env.locals) (tk : Takes X W) (hc : X.calm = true) (hN : X.N.Nodup) (hy : X.N[i]? = some y) (hsw : swapsWith (.ListComp elt [⟨tg, iter, ifs, 0⟩] scope pos) (some (.Name y py)) spos.line X.env = pure true)
    (hi : DIF none W X tg iter wi) (ok : BlkOk X.N X.env.scope scope own) (hk : LcG (gx X none) (own.map (·.2)) g k)
    (hg : ∀ (s : Shared) (H : Hp) (C : Addr) (cl : List (Str × Addr)) (fp : List Addr), PG (X.blk s H scope (compEnvC scope cl C X.env) fp) tg g) (ht : ∀ (s : Shared) (H : Hp) (C : Addr) (cl : List (Str × Addr)) (fp : List Addr), DTs (X.blk s H scope (compEnvC scope cl C X.env) fp) ifs tt)
    (he : ∀ (s : Shared) (H : Hp) (C : Addr) (cl : List (Str × Addr)) (fp : List Addr), PER (X.blk s H scope (compEnvC scope cl C X.env) fp) elt (liftER (gx X none) te)) (hyl : X.env.scope.names.lookup y = some .local := by rfl) (hs : ∀ x, foldedSetIterable iter X.env x = pure x := by intro _; rfl) :
    DSt none W X (.Assign [.Name y py] (.ListComp elt [⟨tg, iter, ifs, 0⟩] scope pos) spos) (sSet i (wLcR wi k tt te (own.map (·.2)))) := by
  refine ⟨fun pins s σ H De I h => ?_⟩
  obtain ⟨Z, m, ρ, μ, E, S, q, kn, kr, kb, kc, kx⟩ := h
  rw [exec_Assign_Name_used _ _ _ _ hsw]
  refine wpAny_bind (wpAny_standAt (wpAny_bind ?_))
  show wpAny (model X.prog X.w) X.A (do let _ ← comprehension (.ListComp elt [⟨tg, iter, ifs, 0⟩] scope pos) scope X.env (firstIterPos [⟨tg, iter, ifs, 0⟩] pos) (newList []) false (eval iter X.env) (some (assign (.Name y py) X.env))) _ _ s
  refine wpAny_bind (thn (lcR_core (Q := fun v H1 => De.nx (σ.set i (some v)) H1) (Qf := fun _ s' => SP X pins De .next s') hsk hf tk hc hN I hi ok hg ht he hs (lift_lcR hk ⟨Z, m, ρ, μ, _, _, S, q, fun v H1 P => ?_, fun cls d H' P => kx cls d σ H' (XSPost.of S P)⟩) fun L C s' mm H' I' q' hn f => ?_) fun _ s' hq => wpAny_pure (wpAny_pure hq))
  · obtain ⟨m1, d, μ1, s1, r1, q1⟩ := P
    obtain ⟨S1, s2⟩ := (S.step s1).set (i := i) r1
    exact kn _ _ ⟨m1, _, μ1, S1, (SStep.of s1).trans s2, q1⟩
  · show wpAny _ _ (assign (.Name y py) X.env (.ref L)) _ _ _
    refine wpAny_assign_Name (store_ok2 (v := V.ref L) I' hN hy (.inl hyl) rfl (fun s2 I2 ⟨b, sb, ha⟩ => ?_) (.inr hyl))
    obtain ⟨f0, f1, f2, f3, f4, f5⟩ := f
    have haC : C ≠ b := ha.elim (fun z => by rw [z]; exact f1) fun z e => f4 y b z e.symm
    refine ⟨mm, hn.sameBut sb haC, fun h3 sb3 => ?_⟩
    exact ⟨_, H', I2.turned (t' := s2.toks) (fun b o hb e => (sb3.2 b hb).trans e) f0 f1 f3 f4 f5, q'⟩
theorem ds_setLcR {i : Nat} {y : Str} {py spos : Pos} (hsk : X.stack = X.env :: X.outer) (hf : X.env.frame = some X.env.locals) (tk : Takes X W) (hc : X.calm = true) (hN : X.N.Nodup) (hy : X.N[i]? = some y) (hsw : swapsWith (.ListComp elt [⟨tg, iter, ifs, 0⟩] scope pos) (some (.Name y py)) spos.line X.env = pure true)
    (hi : DI none W X tg iter wi) (ok : BlkOk X.N X.env.scope scope own) (hk : LcG (gx X none) (own.map (·.2)) g k)
    (hg : ∀ (s : Shared) (H : Hp) (C : Addr) (cl : List (Str × Addr)) (fp : List Addr), PG (X.blk s H scope (compEnvC scope cl C X.env) fp) tg g) (ht : ∀ (s : Shared) (H : Hp) (C : Addr) (cl : List (Str × Addr)) (fp : List Addr), DTs (X.blk s H scope (compEnvC scope cl C X.env) fp) ifs tt)
    (he : ∀ (s : Shared) (H : Hp) (C : Addr) (cl : List (Str × Addr)) (fp : List Addr), PER (X.blk s H scope (compEnvC scope cl C X.env) fp) elt (liftER (gx X none) te)) (hyl : X.env.scope.names.lookup y = some .local := by rfl) (hs : ∀ x, foldedSetIterable iter X.env x = pure x := by intro _; rfl) :
    DSt none W X (.Assign [.Name y py] (.ListComp elt [⟨tg, iter, ifs, 0⟩] scope pos) spos) (sSet i (wLcR wi k tt te (own.map (·.2)))) := ds_setLcRF hsk hf tk hc hN hy hsw hi.toF ok hk hg ht he hyl hs
end
end DL

set_option Elab.async false
set_option linter.all false
set_option maxRecDepth 100000
set_option maxHeartbeats 4000000
set_option autoImplicit false
namespace SO
/-! directions, their order against the clock: plain lists of pairs -/
abbrev P := Int × Int
def cr (p q : P) : Int := p.1 * q.2 - p.2 * q.1
def sg (x : Int) : Int := if x = 0 then 0 else if 0 < x then 1 else -1
/-- the kind -/
def kd (p : P) : Int := if p.2 = 0 then (if 0 < p.1 then 0 else 4) else if 0 < p.2 then (if 0 < p.1 then 1 else if p.1 = 0 then 2 else 3) else (if p.1 < 0 then 5 else if p.1 = 0 then 6 else 7)
def nz (p : P) : Prop := ¬ (p.1 = 0 ∧ p.2 = 0)
theorem kd_rng (p : P) : 0 ≤ kd p ∧ kd p ≤ 7 := by
  unfold kd
  repeat' split
  all_goals omega
/-- a way that all of a kind go with -/
def up (k : Int) : P := if k = 0 then (1, 0) else if k = 1 then (1, 1) else if k = 2 then (0, 1) else if k = 3 then (-1, 1) else if k = 4 then (-1, 0) else if k = 5 then (-1, -1) else if k = 6 then (0, -1) else (1, -1)
def dt (p q : P) : Int := p.1 * q.1 + p.2 * q.2
theorem dt_up {p : P} (h : nz p) : 0 < dt (up (kd p)) p := by
  obtain ⟨x, y⟩ := p
  unfold nz at h
  simp only at h
  unfold kd
  simp only
  repeat' split
  all_goals simp [up, dt]
  all_goals omega
theorem cr_dt (u p q r : P) : cr p r * dt u q = cr p q * dt u r + cr q r * dt u p := by
  unfold cr dt
  grind
theorem cr_anti (p q : P) : cr q p = - cr p q := by
  unfold cr
  grind
theorem pos_of_mul {a b : Int} (hb : 0 < b) (h : 0 ≤ a * b) : 0 ≤ a := by
  apply Int.not_lt.mp
  intro ha
  have := Int.mul_neg_of_neg_of_pos ha hb
  omega
/-- p is not behind q -/
def Ord (p q : P) : Prop := kd p < kd q ∨ (kd p = kd q ∧ 0 ≤ cr p q)
theorem le_trans' {p q r : P} (hp : nz p) (hq : nz q) (hr : nz r) (h1 : kd p = kd q) (h2 : kd q = kd r) (a : 0 ≤ cr p q) (b : 0 ≤ cr q r) : 0 ≤ cr p r := by
  have u1 := dt_up hp
  have u2 := dt_up hq
  have u3 := dt_up hr
  rw [h1] at u1
  rw [← h2] at u3
  have e := cr_dt (up (kd q)) p q r
  have z1 := Int.mul_nonneg a (Int.le_of_lt u3)
  have z2 := Int.mul_nonneg b (Int.le_of_lt u1)
  exact pos_of_mul u2 (by omega)
theorem Ord.trans {p q r : P} (hp : nz p) (hq : nz q) (hr : nz r) (a : Ord p q) (b : Ord q r) : Ord p r := by
  rcases a with a | ⟨a, a'⟩
  · rcases b with b | ⟨b, b'⟩
    · exact .inl (by omega)
    · exact .inl (by omega)
  · rcases b with b | ⟨b, b'⟩
    · exact .inl (by omega)
    · exact .inr ⟨by omega, le_trans' hp hq hr a b a' b'⟩
/-! put_in -/
def insR (p : P) : List P → List P
  | [] => [p]
  | q :: t => if 0 < cr p q then q :: insR p t else p :: q :: t
def insP (p : P) (l : List P) : List P := (insR p l.reverse).reverse
theorem insR_go {p : P} : ∀ {b t : List P}, (∀ q ∈ b, 0 < cr p q) → insR p (b ++ t) = b ++ insR p t
  | [], t, h => rfl
  | q :: b, t, h => by
    rw [List.cons_append, insR, if_pos (h q List.mem_cons_self), insR_go fun q' hq => h q' (List.mem_cons_of_mem _ hq), List.cons_append]
theorem insP_eq {p : P} {a b : List P} (hb : ∀ q ∈ b, 0 < cr p q) (ha : ∀ q, a.getLast? = some q → ¬ 0 < cr p q) : insP p (a ++ b) = a ++ p :: b := by
  unfold insP
  rw [List.reverse_append, insR_go (fun q hq => hb q (List.mem_reverse.mp hq))]
  have e : insR p a.reverse = p :: a.reverse := by
    cases h : a.reverse with
    | nil => rfl
    | cons q t =>
      have hq : a.getLast? = some q := by rw [← List.head?_reverse, h]; rfl
      rw [insR, if_neg (ha q hq)]
  rw [e]
  simp
/-- how it splits -/
theorem ins_split (p : P) : ∀ l : List P, ∃ a b, l = a ++ b ∧ insP p l = a ++ p :: b ∧ (∀ q ∈ b, 0 < cr p q) ∧ ∀ q, a.getLast? = some q → ¬ 0 < cr p q := by
  intro l
  have h : ∀ r : List P, ∃ b t, r = b ++ t ∧ insR p r = b ++ p :: t ∧ (∀ q ∈ b, 0 < cr p q) ∧ ∀ q, t.head? = some q → ¬ 0 < cr p q := by
    intro r
    induction r with
    | nil => exact ⟨[], [], rfl, rfl, fun _ h => (nomatch h), fun _ h => (nomatch h)⟩
    | cons q r ih =>
      by_cases c : 0 < cr p q
      · obtain ⟨b, t, h1, h2, h3, h4⟩ := ih
        refine ⟨q :: b, t, by rw [h1]; rfl, by rw [insR, if_pos c, h2]; rfl, fun q' hq => ?_, h4⟩
        rcases List.mem_cons.mp hq with rfl | hq
        · exact c
        · exact h3 q' hq
      · refine ⟨[], q :: r, rfl, by rw [insR, if_neg c]; rfl, fun _ h => (nomatch h), fun q' hq => ?_⟩
        cases hq
        exact c
  obtain ⟨b, t, h1, h2, h3, h4⟩ := h l.reverse
  refine ⟨t.reverse, b.reverse, ?_, ?_, fun q hq => h3 q (List.mem_reverse.mp hq), fun q hq => h4 q ?_⟩
  · rw [← List.reverse_append, ← h1, List.reverse_reverse]
  · unfold insP
    rw [h2]
    simp
  · rw [List.getLast?_reverse] at hq
    exact hq
theorem ins_perm (p : P) (l : List P) : (insP p l).Perm (p :: l) := by
  obtain ⟨a, b, h1, h2, _, _⟩ := ins_split p l
  rw [h2, h1]
  exact List.perm_middle
def sortK (l : List P) : List P := l.foldl (fun acc p => insP p acc) []
theorem sortK_snoc (l : List P) (p : P) : sortK (l ++ [p]) = insP p (sortK l) := by
  unfold sortK
  rw [List.foldl_append]
  rfl
theorem snoc_ind {α : Type} {M : List α → Prop} (h0 : M []) (h1 : ∀ l a, M l → M (l ++ [a])) (l : List α) : M l := by
  have h : ∀ r : List α, M r.reverse := by
    intro r
    induction r with
    | nil => exact h0
    | cons a r ih =>
      rw [List.reverse_cons]
      exact h1 _ _ ih
  have := h l.reverse
  rwa [List.reverse_reverse] at this
theorem sortK_perm (l : List P) : (sortK l).Perm l := by
  refine snoc_ind (M := fun l => (sortK l).Perm l) (List.Perm.refl _) (fun l a ih => ?_) l
  rw [sortK_snoc]
  exact (ins_perm a _).trans ((List.Perm.cons a ih).trans (List.perm_append_comm (l₁ := [a])))
/-- sorted within a kind -/
theorem ins_sorted {k : Int} {p : P} {l : List P} (hp : nz p ∧ kd p = k) (hl : ∀ q ∈ l, nz q ∧ kd q = k) (hs : l.Pairwise fun x y => 0 ≤ cr x y) : (insP p l).Pairwise fun x y => 0 ≤ cr x y := by
  obtain ⟨a, b, rfl, h2, h3, h4⟩ := ins_split p l
  rw [h2]
  obtain ⟨sa, sb, sab⟩ := List.pairwise_append.mp hs
  have ap : ∀ x ∈ a, 0 ≤ cr x p := by
    intro x hx
    cases hla : a.getLast? with
    | none =>
      rw [List.getLast?_eq_none_iff] at hla
      subst hla
      cases hx
    | some z =>
      have hz : 0 ≤ cr z p := by
        have := h4 z hla
        rw [cr_anti p z]
        omega
      obtain ⟨a', rfl⟩ := List.getLast?_eq_some_iff.mp hla
      rcases List.mem_append.mp hx with hx' | hx'
      · have xz := (List.pairwise_append.mp sa).2.2 x hx' z (by simp)
        have Hx := hl x (by simp [hx'])
        have Hz := hl z (by simp)
        exact le_trans' Hx.1 Hz.1 hp.1 (Hx.2.trans Hz.2.symm) (Hz.2.trans hp.2.symm) xz hz
      · rw [List.mem_singleton] at hx'
        subst hx'
        exact hz
  refine List.pairwise_append.mpr ⟨sa, List.pairwise_cons.mpr ⟨fun q hq => Int.le_of_lt (h3 q hq), sb⟩, fun x hx y hy => ?_⟩
  rcases List.mem_cons.mp hy with rfl | hy
  · exact ap x hx
  · exact sab x hx y hy
theorem sortK_sorted {k : Int} {l : List P} (hl : ∀ q ∈ l, nz q ∧ kd q = k) : (sortK l).Pairwise fun x y => 0 ≤ cr x y := by
  revert hl
  refine snoc_ind (M := fun l => (∀ q ∈ l, nz q ∧ kd q = k) → (sortK l).Pairwise fun x y => 0 ≤ cr x y) (fun _ => List.Pairwise.nil) (fun l a ih hl => ?_) l
  rw [sortK_snoc]
  refine ins_sorted (k := k) (hl a (by simp)) (fun q hq => hl q ?_) (ih fun q hq => hl q (by simp [hq]))
  have := (sortK_perm l).mem_iff.mp hq
  simp [this]
/-! those that go the same way keep their order -/
def same (p q : P) : Prop := p.1 * q.2 = p.2 * q.1 ∧ 0 < p.1 * q.1 + p.2 * q.2
instance (p q : P) : Decidable (same p q) := by unfold same; infer_instance
theorem same_cr {p q w : P} (h1 : same p w) (h2 : same q w) : cr p q = 0 := by
  have e := cr_dt w p w q
  have c1 : cr p w = 0 := by unfold cr; have := h1.1; omega
  have c2 : cr w q = 0 := by rw [cr_anti q w]; unfold cr; have := h2.1; omega
  have d : dt w w ≠ 0 := by
    intro hz
    have s1 : 0 ≤ w.1 * w.1 := by rcases Int.le_total 0 w.1 with c | c; exact Int.mul_nonneg c c; exact Int.mul_nonneg_of_nonpos_of_nonpos c c
    have s2 : 0 ≤ w.2 * w.2 := by rcases Int.le_total 0 w.2 with c | c; exact Int.mul_nonneg c c; exact Int.mul_nonneg_of_nonpos_of_nonpos c c
    unfold dt at hz
    have z1 : w.1 = 0 := by
      have : w.1 * w.1 = 0 := by omega
      rcases Int.mul_eq_zero.mp this with h | h <;> exact h
    have z2 : w.2 = 0 := by
      have : w.2 * w.2 = 0 := by omega
      rcases Int.mul_eq_zero.mp this with h | h <;> exact h
    have := h1.2
    rw [z1, z2] at this
    simp at this
  rw [c1, c2] at e
  simp only [Int.zero_mul, Int.add_zero] at e
  rcases Int.mul_eq_zero.mp e with h | h
  · exact h
  · exact absurd h d
theorem ins_same {p w : P} {l : List P} : (insP p l).filter (same · w) = (l ++ [p]).filter (same · w) := by
  obtain ⟨a, b, rfl, h2, h3, h4⟩ := ins_split p l
  rw [h2]
  simp only [List.filter_append, List.filter_cons, List.filter_nil]
  by_cases c : same p w
  · have hb : b.filter (same · w) = [] := by
      rw [List.filter_eq_nil_iff]
      intro q hq hs
      have := same_cr c (of_decide_eq_true hs)
      have := h3 q hq
      omega
    simp [c, hb]
  · simp [c]
theorem sortK_same {w : P} (l : List P) : (sortK l).filter (same · w) = l.filter (same · w) := by
  refine snoc_ind (M := fun l => (sortK l).filter (same · w) = l.filter (same · w)) rfl (fun l a ih => ?_) l
  rw [sortK_snoc, ins_same, List.filter_append, List.filter_append, ih]
end SO

set_option Elab.async false
set_option linter.all false
set_option maxRecDepth 100000
set_option maxHeartbeats 4000000
set_option autoImplicit false
namespace SO
theorem sign_same {a b c d : Int} (h1 : a * d = b * c) (h2 : 0 < a * c + b * d) : (0 < a → 0 < c) ∧ (a = 0 → c = 0) := by
  constructor
  · intro ha
    apply Int.not_le.mp
    intro hc
    have e1 := Int.mul_nonpos_of_nonneg_of_nonpos (Int.le_of_lt ha) hc
    have e2 : 0 < b * d := by omega
    rcases Int.lt_trichotomy d 0 with hd | hd | hd
    · have hb : b < 0 := by
        apply Int.not_le.mp
        intro hb
        have := Int.mul_nonpos_of_nonneg_of_nonpos hb (Int.le_of_lt hd)
        omega
      have e3 := Int.mul_neg_of_pos_of_neg ha hd
      have e4 := Int.mul_nonneg_of_nonpos_of_nonpos (Int.le_of_lt hb) hc
      omega
    · subst hd
      simp at e2
    · have hb : 0 < b := by
        apply Int.not_le.mp
        intro hb
        have := Int.mul_nonpos_of_nonpos_of_nonneg hb (Int.le_of_lt hd)
        omega
      have e3 := Int.mul_pos ha hd
      have e4 := Int.mul_nonpos_of_nonneg_of_nonpos (Int.le_of_lt hb) hc
      omega
  · intro ha
    subst ha
    rw [Int.zero_mul] at h1 h2
    rcases Int.mul_eq_zero.mp h1.symm with h | h
    · subst h
      rw [Int.zero_mul] at h2
      omega
    · exact h
theorem same_kd {p w : P} (h : same p w) : kd p = kd w := by
  obtain ⟨a, b⟩ := p
  obtain ⟨c, d⟩ := w
  obtain ⟨h1, h2⟩ := h
  simp only at h1 h2
  have s1 := sign_same h1 h2
  have s2 := sign_same (a := -a) (b := -b) (c := -c) (d := -d) (by rw [Int.neg_mul_neg, Int.neg_mul_neg]; exact h1) (by rw [Int.neg_mul_neg, Int.neg_mul_neg]; exact h2)
  have s3 := sign_same (a := b) (b := a) (c := d) (d := c) h1.symm (by omega)
  have s4 := sign_same (a := -b) (b := -a) (c := -d) (d := -c) (by rw [Int.neg_mul_neg, Int.neg_mul_neg]; exact h1.symm) (by rw [Int.neg_mul_neg, Int.neg_mul_neg]; omega)
  unfold kd
  simp only
  repeat' split
  all_goals omega
/-- sorted_around -/
def S (l : List P) : List P := (List.range 8).flatMap fun k => sortK (l.filter fun p => decide (kd p = (k : Nat)))
theorem perm_kinds (l : List P) : ∀ n : Nat, ((List.range n).flatMap fun k => l.filter fun p => decide (kd p = (k : Nat))).Perm (l.filter fun p => decide (kd p < (n : Nat)))
  | 0 => by
    have e : l.filter (fun p => decide (kd p < ((0 : Nat) : Int))) = [] := by
      rw [List.filter_eq_nil_iff]
      intro p _ h
      have := (kd_rng p).1
      have := of_decide_eq_true h
      omega
    rw [e]
    exact List.Perm.refl _
  | n + 1 => by
    rw [List.range_succ, List.flatMap_append]
    refine ((perm_kinds l n).append (List.Perm.refl _)).trans ?_
    clear perm_kinds
    induction l with
    | nil => exact List.Perm.refl _
    | cons p l ih =>
      simp only [List.flatMap_cons, List.flatMap_nil, List.append_nil, List.filter_cons] at ih ⊢
      have cases3 : (decide (kd p < (n : Int)) = true ∧ decide (kd p = (n : Int)) = false ∧ decide (kd p < ((n + 1 : Nat) : Int)) = true) ∨ (decide (kd p < (n : Int)) = false ∧ decide (kd p = (n : Int)) = true ∧ decide (kd p < ((n + 1 : Nat) : Int)) = true) ∨
          (decide (kd p < (n : Int)) = false ∧ decide (kd p = (n : Int)) = false ∧ decide (kd p < ((n + 1 : Nat) : Int)) = false) := by
        simp only [decide_eq_true_eq, decide_eq_false_iff_not]
        omega
      rcases cases3 with ⟨c1, c2, c3⟩ | ⟨c1, c2, c3⟩ | ⟨c1, c2, c3⟩
      · simp only [c1, c2, c3, if_true, if_false, Bool.false_eq_true, List.cons_append]
        exact List.Perm.cons p ih
      · simp only [c1, c2, c3, if_true, if_false, Bool.false_eq_true]
        exact List.perm_middle.trans (List.Perm.cons p ih)
      · simp only [c1, c2, c3, if_false, Bool.false_eq_true]
        exact ih
theorem S_perm (l : List P) : (S l).Perm l := by
  have h1 : (S l).Perm ((List.range 8).flatMap fun k => l.filter fun p => decide (kd p = (k : Nat))) := by
    unfold S
    generalize List.range 8 = r
    induction r with
    | nil => exact List.Perm.refl _
    | cons k r ih =>
      rw [List.flatMap_cons, List.flatMap_cons]
      exact (sortK_perm _).append ih
  refine h1.trans ((perm_kinds l 8).trans ?_)
  have e : l.filter (fun p => decide (kd p < ((8 : Nat) : Int))) = l := by
    rw [List.filter_eq_self]
    intro p _
    have := (kd_rng p).2
    exact decide_eq_true (by omega)
  rw [e]
theorem S_mem {l : List P} {p : P} : p ∈ S l ↔ p ∈ l := (S_perm l).mem_iff
/-- what stands in the part of a kind -/
theorem part_mem {l : List P} {k : Nat} {p : P} (h : p ∈ sortK (l.filter fun p => decide (kd p = (k : Nat)))) : p ∈ l ∧ kd p = k := by
  have := (sortK_perm _).mem_iff.mp h
  rw [List.mem_filter] at this
  exact ⟨this.1, of_decide_eq_true this.2⟩
theorem S_sorted {l : List P} (hl : ∀ q ∈ l, nz q) : (S l).Pairwise Ord := by
  unfold S
  have h : ∀ n m : Nat, ((List.range' m n).flatMap fun k => sortK (l.filter fun p => decide (kd p = (k : Nat)))).Pairwise Ord ∧ ∀ p ∈ ((List.range' m n).flatMap fun k => sortK (l.filter fun p => decide (kd p = (k : Nat)))), (m : Int) ≤ kd p := by
    intro n
    induction n with
    | zero => intro m; exact ⟨List.Pairwise.nil, fun p h => (nomatch h)⟩
    | succ n ih =>
      intro m
      rw [List.range'_succ, List.flatMap_cons]
      obtain ⟨i1, i2⟩ := ih (m + 1)
      refine ⟨List.pairwise_append.mpr ⟨?_, i1, fun x hx y hy => ?_⟩, fun p hp => ?_⟩
      · have := sortK_sorted (k := m) (l := l.filter fun p => decide (kd p = (m : Nat))) fun q hq => by
          rw [List.mem_filter] at hq
          exact ⟨hl q hq.1, of_decide_eq_true hq.2⟩
        exact List.Pairwise.imp_of_mem (fun {x y} hx hy h => .inr ⟨by rw [(part_mem hx).2, (part_mem hy).2], h⟩) this
      · have h1 := (part_mem hx).2
        have h2 := i2 y hy
        exact .inl (by omega)
      · rcases List.mem_append.mp hp with hp | hp
        · have := (part_mem hp).2
          omega
        · have := i2 p hp
          omega
  rw [List.range_eq_range']
  exact (h 8 0).1
theorem S_same (l : List P) (w : P) : (S l).filter (same · w) = l.filter (same · w) := by
  have none : ∀ (k : Nat), (k : Int) ≠ kd w → (sortK (l.filter fun p => decide (kd p = (k : Nat)))).filter (same · w) = [] := fun k hk => by
    rw [List.filter_eq_nil_iff]
    intro p hp hs
    have h1 := (part_mem hp).2
    have h2 := same_kd (of_decide_eq_true hs)
    exact hk (h1.symm.trans h2)
  have one : ∀ (k : Nat), (k : Int) = kd w → (sortK (l.filter fun p => decide (kd p = (k : Nat)))).filter (same · w) = l.filter (same · w) := fun k hk => by
    rw [sortK_same, List.filter_filter]
    refine List.filter_congr fun p hp => ?_
    by_cases c : same p w
    · have := same_kd c
      simp [c, this, hk]
    · simp [c]
  have all : ∀ n m : Nat, ((List.range' m n).flatMap fun k => sortK (l.filter fun p => decide (kd p = (k : Nat)))).filter (same · w) = if (m : Int) ≤ kd w ∧ kd w < ((m + n : Nat) : Int) then l.filter (same · w) else [] := by
    intro n
    induction n with
    | zero =>
      intro m
      rw [if_neg (by omega)]
      rfl
    | succ n ih =>
      intro m
      rw [List.range'_succ, List.flatMap_cons, List.filter_append, ih (m + 1)]
      by_cases c : (m : Int) = kd w
      · rw [one m c, if_neg (by omega), if_pos (by omega), List.append_nil]
      · rw [none m c, List.nil_append]
        by_cases c2 : ((m + 1 : Nat) : Int) ≤ kd w ∧ kd w < ((m + 1 + n : Nat) : Int)
        · rw [if_pos c2, if_pos (by omega)]
        · rw [if_neg c2, if_neg (by omega)]
  unfold S
  rw [List.range_eq_range', all 8 0, if_pos]
  have := kd_rng w
  omega
/-! only one order -/
/-! a quarter -/
theorem kd_tab (x y : Int) : (y = 0 ∧ 0 < x ∧ kd (x, y) = 0) ∨ (y = 0 ∧ x ≤ 0 ∧ kd (x, y) = 4) ∨ (0 < y ∧ 0 < x ∧ kd (x, y) = 1) ∨ (0 < y ∧ x = 0 ∧ kd (x, y) = 2) ∨ (0 < y ∧ x < 0 ∧ kd (x, y) = 3) ∨ (y < 0 ∧ x < 0 ∧ kd (x, y) = 5) ∨ (y < 0 ∧ x = 0 ∧ kd (x, y) = 6) ∨ (y < 0 ∧ 0 < x ∧ kd (x, y) = 7) := by
  unfold kd
  simp only
  repeat' split
  all_goals omega
/-- the first n kinds -/
def Sn (l : List P) (n : Nat) : List P := (List.range n).flatMap fun k => sortK (l.filter fun p => decide (kd p = (k : Nat)))
theorem Sn_succ (l : List P) (n : Nat) : Sn l (n + 1) = Sn l n ++ sortK (l.filter fun p => decide (kd p = (n : Nat))) := by
  unfold Sn
  rw [List.range_succ, List.flatMap_append, List.flatMap_cons, List.flatMap_nil, List.append_nil]
theorem Sn_len (l : List P) (n : Nat) : (Sn l n).length ≤ l.length := by
  have h1 : (Sn l n).Perm ((List.range n).flatMap fun k => l.filter fun p => decide (kd p = (k : Nat))) := by
    unfold Sn
    generalize List.range n = r
    induction r with
    | nil => exact List.Perm.refl _
    | cons k r ih =>
      rw [List.flatMap_cons, List.flatMap_cons]
      exact (sortK_perm _).append ih
  rw [(h1.trans (perm_kinds l n)).length_eq]
  exact List.length_filter_le _ _
theorem sortK_len (l : List P) : (sortK l).length = l.length := (sortK_perm l).length_eq
theorem sortK_mem {l : List P} {p : P} : p ∈ sortK l ↔ p ∈ l := (sortK_perm l).mem_iff
end SO

set_option Elab.async false
set_option linter.all false
set_option maxRecDepth 100000
set_option maxHeartbeats 4000000
set_option autoImplicit false
namespace K02
open PySem PySem.Spec PyProof.Rows L2 DL
structure Hd (K : PySem.W.Frag) (mg : Str → Option Value) : Prop where
  c : He5.SaysA fa fn K
  more : exB K = true
  ex : ∃ h : Heap, K.In h ∧ h.Ns mainGlobals mg
section
variable {K : PySem.W.Frag} {mg : Str → Option Value}
theorem Hd.g_is_integer (A : Hd K mg) : mg "is_integer" = some (.ref (He.ga K "is_integer")) := by
  obtain ⟨h, X, G⟩ := A.ex
  exact He.glo_ok X G (A.c.fact 0)
theorem Hd.g_numbers_of (A : Hd K mg) : mg "numbers_of" = some (.ref (He.ga K "numbers_of")) := by
  obtain ⟨h, X, G⟩ := A.ex
  exact He.glo_ok X G (A.c.fact 1)
theorem Hd.g__law_error (A : Hd K mg) : mg "_law_error" = some (.ref (He.ga K "_law_error")) := by
  obtain ⟨h, X, G⟩ := A.ex
  exact He.glo_ok X G (A.c.fact 2)
theorem Hd.g_pair_of (A : Hd K mg) : mg "pair_of" = some (.ref (He.ga K "pair_of")) := by
  obtain ⟨h, X, G⟩ := A.ex
  exact He.glo_ok X G (A.c.fact 3)
theorem Hd.g_direction_of (A : Hd K mg) : mg "direction_of" = some (.ref (He.ga K "direction_of")) := by
  obtain ⟨h, X, G⟩ := A.ex
  exact He.glo_ok X G (A.c.fact 4)
theorem Hd.g_sign_of (A : Hd K mg) : mg "sign_of" = some (.ref (He.ga K "sign_of")) := by
  obtain ⟨h, X, G⟩ := A.ex
  exact He.glo_ok X G (A.c.fact 5)
theorem Hd.g_kind_of_pair (A : Hd K mg) : mg "kind_of_pair" = some (.ref (He.ga K "kind_of_pair")) := by
  obtain ⟨h, X, G⟩ := A.ex
  exact He.glo_ok X G (A.c.fact 6)
theorem Hd.g_kind_of (A : Hd K mg) : mg "kind_of" = some (.ref (He.ga K "kind_of")) := by
  obtain ⟨h, X, G⟩ := A.ex
  exact He.glo_ok X G (A.c.fact 7)
theorem Hd.g_common_divisor (A : Hd K mg) : mg "common_divisor" = some (.ref (He.ga K "common_divisor")) := by
  obtain ⟨h, X, G⟩ := A.ex
  exact He.glo_ok X G (A.c.fact 8)
theorem Hd.g_lowest_pair (A : Hd K mg) : mg "lowest_pair" = some (.ref (He.ga K "lowest_pair")) := by
  obtain ⟨h, X, G⟩ := A.ex
  exact He.glo_ok X G (A.c.fact 9)
theorem Hd.g_point_of (A : Hd K mg) : mg "point_of" = some (.ref (He.ga K "point_of")) := by
  obtain ⟨h, X, G⟩ := A.ex
  exact He.glo_ok X G (A.c.fact 10)
theorem Hd.g_lowest (A : Hd K mg) : mg "lowest" = some (.ref (He.ga K "lowest")) := by
  obtain ⟨h, X, G⟩ := A.ex
  exact He.glo_ok X G (A.c.fact 11)
theorem Hd.g_cross_of (A : Hd K mg) : mg "cross_of" = some (.ref (He.ga K "cross_of")) := by
  obtain ⟨h, X, G⟩ := A.ex
  exact He.glo_ok X G (A.c.fact 12)
theorem Hd.g_is_ahead (A : Hd K mg) : mg "is_ahead" = some (.ref (He.ga K "is_ahead")) := by
  obtain ⟨h, X, G⟩ := A.ex
  exact He.glo_ok X G (A.c.fact 13)
theorem Hd.g_put_in (A : Hd K mg) : mg "put_in" = some (.ref (He.ga K "put_in")) := by
  obtain ⟨h, X, G⟩ := A.ex
  exact He.glo_ok X G (A.c.fact 14)
theorem Hd.g_sorted_around (A : Hd K mg) : mg "sorted_around" = some (.ref (He.ga K "sorted_around")) := by
  obtain ⟨h, X, G⟩ := A.ex
  exact He.glo_ok X G (A.c.fact 15)
theorem Hd.g__law_asked (A : Hd K mg) : mg "_law_asked" = some (.ref (He.ga K "_law_asked")) := by
  obtain ⟨h, X, G⟩ := A.ex
  exact He.glo_ok X G (A.c.fact 16)
theorem Hd.g__law_draw (A : Hd K mg) : mg "_law_draw" = some (.ref (He.ga K "_law_draw")) := by
  obtain ⟨h, X, G⟩ := A.ex
  exact He.glo_ok X G (A.c.fact 17)
theorem Hd.g__law_direction (A : Hd K mg) : mg "_law_direction" = some (.ref (He.ga K "_law_direction")) := by
  obtain ⟨h, X, G⟩ := A.ex
  exact He.glo_ok X G (A.c.fact 18)
theorem Hd.g__law_hand (A : Hd K mg) : mg "_law_hand" = some (.ref (He.ga K "_law_hand")) := by
  obtain ⟨h, X, G⟩ := A.ex
  exact He.glo_ok X G (A.c.fact 19)
theorem Hd.g__law_kind (A : Hd K mg) : mg "_law_kind" = some (.ref (He.ga K "_law_kind")) := by
  obtain ⟨h, X, G⟩ := A.ex
  exact He.glo_ok X G (A.c.fact 20)
theorem Hd.g__law_is_behind (A : Hd K mg) : mg "_law_is_behind" = some (.ref (He.ga K "_law_is_behind")) := by
  obtain ⟨h, X, G⟩ := A.ex
  exact He.glo_ok X G (A.c.fact 21)
theorem Hd.g__law_same_way (A : Hd K mg) : mg "_law_same_way" = some (.ref (He.ga K "_law_same_way")) := by
  obtain ⟨h, X, G⟩ := A.ex
  exact He.glo_ok X G (A.c.fact 22)
theorem Hd.g__law_in_order (A : Hd K mg) : mg "_law_in_order" = some (.ref (He.ga K "_law_in_order")) := by
  obtain ⟨h, X, G⟩ := A.ex
  exact He.glo_ok X G (A.c.fact 23)
theorem Hd.g_law (A : Hd K mg) : mg "law" = some (.ref (He.ga K "law")) := by
  obtain ⟨h, X, G⟩ := A.ex
  exact He.glo_ok X G (A.c.fact 24)
theorem Hd.g_InvalidPoint (A : Hd K mg) : mg "InvalidPoint" = some (.ref (He.ga K "InvalidPoint")) := by
  obtain ⟨h, X, G⟩ := A.ex
  exact He.glo_ok X G (A.c.fact 26)
theorem Hd.g_KINDS (A : Hd K mg) : mg "KINDS" = some (.ref (He.ga K "KINDS")) := by
  obtain ⟨h, X, G⟩ := A.ex
  exact He.glo_ok X G (A.c.fact 27)
theorem Hd.g_NoDirection (A : Hd K mg) : mg "NoDirection" = some (.ref (He.ga K "NoDirection")) := by
  obtain ⟨h, X, G⟩ := A.ex
  exact He.glo_ok X G (A.c.fact 28)
theorem Hd.g_Point (A : Hd K mg) : mg "Point" = some (.ref (He.ga K "Point")) := by
  obtain ⟨h, X, G⟩ := A.ex
  exact He.glo_ok X G (A.c.fact 29)
theorem Hd.f_abs (A : Hd K mg) : mg "abs" = none := by
  obtain ⟨h, X, G⟩ := A.ex
  exact He.free_ok X G (A.c.fact 30)
theorem Hd.f_bool (A : Hd K mg) : mg "bool" = none := by
  obtain ⟨h, X, G⟩ := A.ex
  exact He.free_ok X G (A.c.fact 31)
theorem Hd.f_int (A : Hd K mg) : mg "int" = none := by
  obtain ⟨h, X, G⟩ := A.ex
  exact He.free_ok X G (A.c.fact 32)
theorem Hd.f_isinstance (A : Hd K mg) : mg "isinstance" = none := by
  obtain ⟨h, X, G⟩ := A.ex
  exact He.free_ok X G (A.c.fact 33)
theorem Hd.f_len (A : Hd K mg) : mg "len" = none := by
  obtain ⟨h, X, G⟩ := A.ex
  exact He.free_ok X G (A.c.fact 34)
theorem Hd.f_list (A : Hd K mg) : mg "list" = none := by
  obtain ⟨h, X, G⟩ := A.ex
  exact He.free_ok X G (A.c.fact 35)
theorem Hd.f_max (A : Hd K mg) : mg "max" = none := by
  obtain ⟨h, X, G⟩ := A.ex
  exact He.free_ok X G (A.c.fact 36)
theorem Hd.f_min (A : Hd K mg) : mg "min" = none := by
  obtain ⟨h, X, G⟩ := A.ex
  exact He.free_ok X G (A.c.fact 37)
theorem Hd.f_range (A : Hd K mg) : mg "range" = none := by
  obtain ⟨h, X, G⟩ := A.ex
  exact He.free_ok X G (A.c.fact 38)
theorem Hd.f_repr (A : Hd K mg) : mg "repr" = none := by
  obtain ⟨h, X, G⟩ := A.ex
  exact He.free_ok X G (A.c.fact 39)
theorem Hd.f_tuple (A : Hd K mg) : mg "tuple" = none := by
  obtain ⟨h, X, G⟩ := A.ex
  exact He.free_ok X G (A.c.fact 40)
theorem Hd.fl_Point_x (A : Hd K mg) : FldD K mg "Point" "x" := ⟨_, A.g_Point, He.cls_ok (A.c.fact 41), He.noat_ok (A.c.fact 42)⟩
theorem Hd.fl_Point_y (A : Hd K mg) : FldD K mg "Point" "y" := ⟨_, A.g_Point, He.cls_ok (A.c.fact 41), He.noat_ok (A.c.fact 43)⟩
theorem Hd.isi (A : Hd K mg) : IsiTab ⟨K, mg, none⟩ isiT := by
  obtain ⟨h, X, G⟩ := A.ex
  exact isiTab_of X G (He.ba A.more).1
variable {P : Program} {w : World} {base : Heap}
theorem Hd.k_KINDS (A : Hd K mg) : kdB K (He.ga K "KINDS") kd_KINDS = true := (He.ba (He.ba (He.ba A.more).2).2).1
theorem scx_InvalidPoint : FnScope ["self", "thing"] ["self", "thing"] (defScope (inClass (top 3) 0)) := ⟨rfl, rfl, rfl, by decide +kernel, rfl, by decide +kernel, by decide +kernel⟩
theorem Hd.rx_InvalidPoint (A : Hd K mg) : RaiseD P w K mg base 1 "InvalidPoint" ["thing"] := by
  obtain ⟨fd, F⟩ := A.c.def_ 28
  obtain ⟨h, X, G⟩ := A.ex
  obtain ⟨h1, h2, h3, h4⟩ := rxB_ok (He.ba (He.ba (He.ba (He.ba A.more).2).2).2).1
  exact raise1 (rx_glo X G (He.ba (He.ba (He.ba (He.ba A.more).2).2).2).1) h1 (h4 _ (by simp)) h2 h3 F scx_InvalidPoint (F.bindsN fun _ _ _ _ _ _ us hl => match us, hl with | [_, _], _ => rfl) fun _ _ _ _ _ _ => pss_one (ps_ost (pe_var (i := 0) rfl (Or.inl rfl)) (pe_var (i := 1) rfl (Or.inl rfl)))
theorem scx_NoDirection : FnScope ["self", "thing"] ["self", "thing"] (defScope (inClass (top 4) 0)) := ⟨rfl, rfl, rfl, by decide +kernel, rfl, by decide +kernel, by decide +kernel⟩
theorem Hd.rx_NoDirection (A : Hd K mg) : RaiseD P w K mg base 1 "NoDirection" ["thing"] := by
  obtain ⟨fd, F⟩ := A.c.def_ 29
  obtain ⟨h, X, G⟩ := A.ex
  obtain ⟨h1, h2, h3, h4⟩ := rxB_ok (He.ba (He.ba (He.ba (He.ba (He.ba A.more).2).2).2).2).1
  exact raise1 (rx_glo X G (He.ba (He.ba (He.ba (He.ba (He.ba A.more).2).2).2).2).1) h1 (h4 _ (by simp)) h2 h3 F scx_NoDirection (F.bindsN fun _ _ _ _ _ _ us hl => match us, hl with | [_, _], _ => rfl) fun _ _ _ _ _ _ => pss_one (ps_ost (pe_var (i := 0) rfl (Or.inl rfl)) (pe_var (i := 1) rfl (Or.inl rfl)))
theorem Hd.cat_FillError (A : Hd K mg) : CatchD K mg (.ref (He.ga K "FillError")) (catF catL_FillError) ∧ mg "FillError" = some (.ref (He.ga K "FillError")) := by
  obtain ⟨h, X, G⟩ := A.ex
  exact catchD_of X G (He.ba (He.ba (He.ba (He.ba (He.ba (He.ba A.more).2).2).2).2).2).1
theorem Hd.xf_thing (A : Hd K mg) : XfD K mg xfC_thing "thing" := by
  obtain ⟨h, X, G⟩ := A.ex
  exact xfD_of X G (He.ba (He.ba (He.ba (He.ba (He.ba (He.ba (He.ba A.more).2).2).2).2).2).2).1
theorem Hd.isx (A : Hd K mg) : IsxTab K mg (isxF isxL) := by
  obtain ⟨h, X, G⟩ := A.ex
  exact isxTab_of X G (He.ba (He.ba (He.ba (He.ba (He.ba (He.ba (He.ba A.more).2).2).2).2).2).2).2
/-! is_integer -/
abbrev N_is_integer : List Str := ["thing"]
theorem sc_is_integer : FnScope N_is_integer ["thing"] (defScope (top 6)) := ⟨rfl, rfl, rfl, by decide +kernel, rfl, by decide +kernel, by decide +kernel⟩
def w_is_integer : WS := (sRet (wAndV (wN (fIsi isiT) (wCons (wVar 0) (wCons (wC (.ty "int")) wNil))) (wNotV (wN (fIsi isiT) (wCons (wVar 0) (wCons (wC (.ty "bool")) wNil))))))
def sp_is_integer : DSp := fun ds μ Q Xd => ds.length = 1 ∧ w_is_integer (defE Q Xd) (startD N_is_integer ds) μ
theorem d_is_integer (A : Hd K mg) {cdv : Value} {A2 : Around} {fr : List Env} {s : Shared} {H : Hp} {E : XK} {f : Addr} (hr : Room 0 (A2.deeper (envOfC "is_integer" (defScope (top 6)) s.heap.objs.size f cdv))) (hgd : (A2.deeper (envOfC "is_integer" (defScope (top 6)) s.heap.objs.size f cdv)).guards = some []) :
    DSs none (fun cls d _ H2 => E cls d H2) (cxOf (L2.CX P w) P w K mg base N_is_integer "is_integer" (defScope (top 6)) f cdv A2 fr s H E) (defBody (top 6)) w_is_integer := by
  have hN := (sc_is_integer).nd
  exact (dss_one (ds_ret (de_and (de_callB call_isi (sn_isi A.isi) rfl A.f_isinstance bt_isinstance (da_cons (dv 0) (da_cons (de_ty rfl A.f_int bt_int) da_nil))) (de_one (de_not (de_callB call_isi (sn_isi A.isi) rfl A.f_isinstance bt_isinstance (da_cons (dv 0) (da_cons (de_ty rfl A.f_bool bt_bool) da_nil))))))))
theorem Hd.ok_is_integer (A : Hd K mg) : CallD P w K mg base 1 "is_integer" ["thing"] sp_is_integer := by
  obtain ⟨fd, F⟩ := A.c.def_ 0
  exact ⟨_, fd, A.g_is_integer, F.kp, F.bindsN fun _ _ _ _ _ _ us hl => match us, hl with | [_], _ => rfl, def_ok F sc_is_integer (fun ds μ Q Xd h => h.1) (fun cdv A2 fr s H E hr hgd => d_is_integer A hr hgd) fun ds μ Q Xd h => h.2⟩
/-! Point_init -/
abbrev N_Point_init : List Str := ["self", "x", "y"]
theorem sc_Point_init : FnScope N_Point_init ["self", "x", "y"] (defScope (inClass (top 8) 0)) := ⟨rfl, rfl, rfl, by decide +kernel, rfl, by decide +kernel, by decide +kernel⟩
def w_Point_init : WS := (sSeq (sIf (wOr (wNot (wB (wCall sp_is_integer (wCons (wVar 1) wNil)))) (wNot (wB (wCall sp_is_integer (wCons (wVar 2) wNil)))))
  (sRaise "InvalidPoint" ["thing"] (wCons (wTup (wCons (wVar 1) (wCons (wVar 2) wNil))) wNil))
  sNext)
 (sSeq (sFldO "Point" 0 "x" (wVar 1))
 (sFldO "Point" 0 "y" (wVar 2))))
def sp_Point_init : ISp := fun ds μ Q Xd => ds.length = 2 ∧ ∀ a, w_Point_init (defI "Point" a Q Xd) (startI N_Point_init "Point" a ds) μ
theorem d_Point_init (A : Hd K mg) {cdv : Value} {A2 : Around} {fr : List Env} {s : Shared} {H : Hp} {E : XK} {f : Addr} (hr : Room 2 (A2.deeper (envOfC "Point.__init__" (defScope (inClass (top 8) 0)) s.heap.objs.size f cdv))) (hgd : (A2.deeper (envOfC "Point.__init__" (defScope (inClass (top 8) 0)) s.heap.objs.size f cdv)).guards = some []) :
    DSs none (fun cls d _ H2 => E cls d H2) (cxOf (L2.CX P w) P w K mg base N_Point_init "Point.__init__" (defScope (inClass (top 8) 0)) f cdv A2 fr s H E) (defBody (inClass (top 8) 0)) w_Point_init := by
  have hN := (sc_Point_init).nd
  exact (dss_cons (ds_if (dt_w (dw_or (dt_not (dt_val (de_callD A.ok_is_integer hr (by decide) hgd rfl (takes_of rfl rfl rfl rfl) (da_cons (dv 1) da_nil)))) (dw_or1 (dt_not (dt_val (de_callD A.ok_is_integer hr (by decide) hgd rfl (takes_of rfl rfl rfl rfl) (da_cons (dv 2) da_nil))))))) (dss_one (ds_raiseD A.rx_InvalidPoint rfl hr (by decide) rfl (takes_of rfl rfl rfl rfl) (da_cons (de_tup (da_cons (dv 1) (da_cons (dv 2) da_nil))) da_nil))) dss_nil)
 (dss_cons (ds_fldOD A.fl_Point_x rfl (dv 1))
 (dss_one (ds_fldOD A.fl_Point_y rfl (dv 2)))))
theorem Hd.ok_Point_init (A : Hd K mg) : MakeD P w K mg base 3 "Point" ["self", "x", "y"] sp_Point_init := by
  obtain ⟨fd, F⟩ := A.c.def_ 1
  refine ⟨_, _, fd, A.g_Point, He.mkr_ok (A.c.fact 44), F.bindsN fun _ _ _ _ _ _ us hl => match us, hl with | [_, _, _], _ => rfl, def_okI F sc_Point_init (fun ds μ Q Xd h => by rw [h.1]; rfl) (fun cdv A2 fr s H E hr hgd => d_Point_init A hr hgd) fun ds μ Q Xd a h => h.2 a⟩
/-! numbers_of -/
abbrev N_numbers_of : List Str := ["thing"]
theorem sc_numbers_of : FnScope N_numbers_of ["thing"] (defScope (top 9)) := ⟨rfl, rfl, rfl, by decide +kernel, rfl, by decide +kernel, by decide +kernel⟩
def w_numbers_of : WS := (sSeq (sIf (wB (wN (fIsi isiT) (wCons (wVar 0) (wCons (wC (.cls "Point")) wNil))))
  (sRet (wTup (wCons (w1 (fFld "Point" "x") (wVar 0)) (wCons (w1 (fFld "Point" "y") (wVar 0)) wNil))))
  sNext)
 (sSeq (sIf (wAnd (wB (wN (fIsi isiT) (wCons (wVar 0) (wCons (wC (.ty "tuple")) wNil)))) (wAnd (wB (w2 fEqU (wN fLen (wCons (wVar 0) wNil)) (wC (.int (2))))) (wAnd (wB (wCall sp_is_integer (wCons (w2 fIx (wVar 0) (wC (.int (0)))) wNil))) (wB (wCall sp_is_integer (wCons (w2 fIx (wVar 0) (wC (.int (1)))) wNil))))))
  (sRet (wTup (wCons (wN fInt1 (wCons (w2 fIx (wVar 0) (wC (.int (0)))) wNil)) (wCons (wN fInt1 (wCons (w2 fIx (wVar 0) (wC (.int (1)))) wNil)) wNil))))
  sNext)
 (sRet (wC .non))))
def sp_numbers_of : DSp := fun ds μ Q Xd => ds.length = 1 ∧ w_numbers_of (defE Q Xd) (startD N_numbers_of ds) μ
theorem d_numbers_of (A : Hd K mg) {cdv : Value} {A2 : Around} {fr : List Env} {s : Shared} {H : Hp} {E : XK} {f : Addr} (hr : Room 1 (A2.deeper (envOfC "numbers_of" (defScope (top 9)) s.heap.objs.size f cdv))) (hgd : (A2.deeper (envOfC "numbers_of" (defScope (top 9)) s.heap.objs.size f cdv)).guards = some []) :
    DSs none (fun cls d _ H2 => E cls d H2) (cxOf (L2.CX P w) P w K mg base N_numbers_of "numbers_of" (defScope (top 9)) f cdv A2 fr s H E) (defBody (top 9)) w_numbers_of := by
  have hN := (sc_numbers_of).nd
  exact (dss_cons (ds_if (dt_val (de_callB call_isi (sn_isi A.isi) rfl A.f_isinstance bt_isinstance (da_cons (dv 0) (da_cons (de_cls rfl A.g_Point) da_nil)))) (dss_one (ds_ret (de_tup (da_cons (de_fldD A.fl_Point_x (dv 0)) (da_cons (de_fldD A.fl_Point_y (dv 0)) da_nil))))) dss_nil)
 (dss_cons (ds_if (dt_w (dw_and (dt_val (de_callB call_isi (sn_isi A.isi) rfl A.f_isinstance bt_isinstance (da_cons (dv 0) (da_cons (de_ty rfl A.f_tuple bt_tuple) da_nil)))) (dw_and (dt_cmp (op_eqU (have z := room64 hr; z)) s2_eqU (de_callB call_len_seq sn_len rfl A.f_len bt_len (da_cons (dv 0) da_nil)) de_int (nomark _)) (dw_and (dt_val (de_callD A.ok_is_integer hr (by decide) hgd rfl (takes_of rfl rfl rfl rfl) (da_cons (de_item (dv 0) de_int) da_nil))) (dw_and1 (dt_val (de_callD A.ok_is_integer hr (by decide) hgd rfl (takes_of rfl rfl rfl rfl) (da_cons (de_item (dv 0) de_int) da_nil)))))))) (dss_one (ds_ret (de_tup (da_cons (de_callTy call_int1 sn_int1 rfl A.f_int bt_int (da_cons (de_item (dv 0) de_int) da_nil)) (da_cons (de_callTy call_int1 sn_int1 rfl A.f_int bt_int (da_cons (de_item (dv 0) de_int) da_nil)) da_nil))))) dss_nil)
 (dss_one (ds_ret de_non))))
theorem Hd.ok_numbers_of (A : Hd K mg) : CallD P w K mg base 2 "numbers_of" ["thing"] sp_numbers_of := by
  obtain ⟨fd, F⟩ := A.c.def_ 2
  exact ⟨_, fd, A.g_numbers_of, F.kp, F.bindsN fun _ _ _ _ _ _ us hl => match us, hl with | [_], _ => rfl, def_ok F sc_numbers_of (fun ds μ Q Xd h => h.1) (fun cdv A2 fr s H E hr hgd => d_numbers_of A hr hgd) fun ds μ Q Xd h => h.2⟩
/-! Point_add -/
abbrev N_Point_add : List Str := ["self", "other", "numbers"]
theorem sc_Point_add : FnScope N_Point_add ["self", "other"] (defScope (inClass (top 8) 4)) := ⟨rfl, rfl, rfl, by decide +kernel, rfl, by decide +kernel, by decide +kernel⟩
def w_Point_add : WS := (sSeq (sSet 2 (wCall sp_numbers_of (wCons (wVar 1) wNil)))
 (sSeq (sIf (wB (w2 fIsN (wVar 2) (wC .non)))
  sNever
  sNext)
 (sRet (wMake "Point" sp_Point_init (wCons (w2 fPlus (w1 (fFld "Point" "x") (wVar 0)) (w2 fIx (wVar 2) (wC (.int (0))))) (wCons (w2 fPlus (w1 (fFld "Point" "y") (wVar 0)) (w2 fIx (wVar 2) (wC (.int (1))))) wNil))))))
def sp_Point_add : DSp := fun ds μ Q Xd => ds.length = 2 ∧ w_Point_add (defE Q Xd) (startD N_Point_add ds) μ
theorem d_Point_add (A : Hd K mg) {cdv : Value} {A2 : Around} {fr : List Env} {s : Shared} {H : Hp} {E : XK} {f : Addr} (hr : Room 4 (A2.deeper (envOfC "Point.__add__" (defScope (inClass (top 8) 4)) s.heap.objs.size f cdv))) (hgd : (A2.deeper (envOfC "Point.__add__" (defScope (inClass (top 8) 4)) s.heap.objs.size f cdv)).guards = some []) :
    DSs none (fun cls d _ H2 => E cls d H2) (cxOf (L2.CX P w) P w K mg base N_Point_add "Point.__add__" (defScope (inClass (top 8) 4)) f cdv A2 fr s H E) (defBody (inClass (top 8) 4)) w_Point_add := by
  have hN := (sc_Point_add).nd
  exact (dss_cons (ds_set (i := 2) hN rfl (de_callD A.ok_numbers_of hr (by decide) hgd rfl (takes_of rfl rfl rfl rfl) (da_cons (dv 1) da_nil)))
 (dss_cons (ds_if (dt_cmp op_isN s2_isN (dv 2) de_non (nomark _)) (dss_one ds_never) dss_nil)
 (dss_one (ds_ret (de_makeD A.ok_Point_init hr (by decide) hgd rfl (takes_of rfl rfl rfl rfl) (da_cons (de_plus (de_fldD A.fl_Point_x (dv 0)) (de_item (dv 2) de_int)) (da_cons (de_plus (de_fldD A.fl_Point_y (dv 0)) (de_item (dv 2) de_int)) da_nil)))))))
theorem Hd.ok_Point_add (A : Hd K mg) : OperD P w K mg base 5 "Point" .Add ["tuple"] ["self", "other"] sp_Point_add := by
  obtain ⟨fd, F⟩ := A.c.def_ 3
  obtain ⟨h, X, G⟩ := A.ex
  exact operD_of X G (He.ba (He.ba A.more).2).1 (by decide) (by decide) (F.bindsN fun _ _ _ _ _ _ us hl => match us, hl with | [_, _], _ => rfl) (def_ok F sc_Point_add (fun ds μ Q Xd h => h.1) (fun cdv A2 fr s H E hr hgd => d_Point_add A hr hgd) fun ds μ Q Xd h => h.2)
/-! Point_pair -/
abbrev N_Point_pair : List Str := ["self"]
theorem sc_Point_pair : FnScope N_Point_pair ["self"] (defScope (inClass (top 8) 2)) := ⟨rfl, rfl, rfl, by decide +kernel, rfl, by decide +kernel, by decide +kernel⟩
def w_Point_pair : WS := (sRet (wTup (wCons (w1 (fFld "Point" "x") (wVar 0)) (wCons (w1 (fFld "Point" "y") (wVar 0)) wNil))))
def sp_Point_pair : DSp := fun ds μ Q Xd => ds.length = 1 ∧ w_Point_pair (defE Q Xd) (startD N_Point_pair ds) μ
theorem d_Point_pair (A : Hd K mg) {cdv : Value} {A2 : Around} {fr : List Env} {s : Shared} {H : Hp} {E : XK} {f : Addr} (hr : Room 0 (A2.deeper (envOfC "Point.pair" (defScope (inClass (top 8) 2)) s.heap.objs.size f cdv))) (hgd : (A2.deeper (envOfC "Point.pair" (defScope (inClass (top 8) 2)) s.heap.objs.size f cdv)).guards = some []) :
    DSs none (fun cls d _ H2 => E cls d H2) (cxOf (L2.CX P w) P w K mg base N_Point_pair "Point.pair" (defScope (inClass (top 8) 2)) f cdv A2 fr s H E) (defBody (inClass (top 8) 2)) w_Point_pair := by
  have hN := (sc_Point_pair).nd
  exact (dss_one (ds_ret (de_tup (da_cons (de_fldD A.fl_Point_x (dv 0)) (da_cons (de_fldD A.fl_Point_y (dv 0)) da_nil)))))
theorem Hd.ok_Point_pair (A : Hd K mg) : MethD P w K mg base 1 "Point" "pair" ["self"] sp_Point_pair := by
  obtain ⟨fd, F⟩ := A.c.def_ 4
  exact ⟨_, _, fd, A.g_Point, He.cls_ok (A.c.fact 41), He.meth_ok (A.c.fact 45), F.bindsN fun _ _ _ _ _ _ us hl => match us, hl with | [_], _ => rfl, def_ok F sc_Point_pair (fun ds μ Q Xd h => h.1) (fun cdv A2 fr s H E hr hgd => d_Point_pair A hr hgd) fun ds μ Q Xd h => h.2⟩
/-! _law_error -/
abbrev N__law_error : List Str := ["e"]
theorem sc__law_error : FnScope N__law_error ["e"] (defScope (top 30)) := ⟨rfl, rfl, rfl, by decide +kernel, rfl, by decide +kernel, by decide +kernel⟩
def w__law_error : WS := (sSeq (sIf (wB (wIsE (isxF isxL) 0 "NoDirection"))
  (sRet (wTup (wCons (wC (.str "none")) (wCons (wN fRepr (wCons (wXf xfC_thing 0 "thing") wNil)) wNil))))
  sNext)
 (sRet (wTup (wCons (wC (.str "point")) (wCons (wAndV (wIsE (isxF isxL) 0 "InvalidPoint") (wN fRepr (wCons (wXf xfC_thing 0 "thing") wNil))) wNil)))))
def sp__law_error : XSp := fun c ks es μ Q => w__law_error (defE Q fun _ _ _ _ => False) (startX N__law_error c ks es) μ
theorem d__law_error (A : Hd K mg) {cdv : Value} {A2 : Around} {fr : List Env} {s : Shared} {H : Hp} {E : XK} {f : Addr} {a : Addr} {oe : Obj} {cls : Value} {d : Option Addr} (hr : L2H.RoomH 0 (A2.deeper (envOfC "_law_error" (defScope (top 30)) s.heap.objs.size f cdv))) (hgd : (A2.deeper (envOfC "_law_error" (defScope (top 30)) s.heap.objs.size f cdv)).guards = some []) (hz : Zc cls d oe) (hf : ∃ vs, oe.data = .fields vs) :
    DSs (exOf a cls d) WF ((cxOf (L2.CX P w) P w K mg base N__law_error "_law_error" (defScope (top 30)) f cdv A2 fr s H E).suite a [(a, oe)]) (defBody (top 30)) w__law_error := by
  have hN := (sc__law_error).nd
  exact (dss_cons (ds_if (dt_val (de_isX (i := 0) A.isx hz hf rfl A.f_isinstance rfl rfl A.g_NoDirection)) (dss_one (ds_ret (de_tup (da_cons de_str (da_cons (de_callB (call_reprD hgd (have z := room64H hr; z)) sn_repr rfl A.f_repr bt_repr (da_cons (de_xf (i := 0) (cs := xfC_thing) hz hf A.xf_thing rfl) da_nil)) da_nil))))) dss_nil)
 (dss_one (ds_ret (de_tup (da_cons de_str (da_cons (de_and (de_isX (i := 0) A.isx hz hf rfl A.f_isinstance rfl rfl A.g_InvalidPoint) (de_one (de_callB (call_reprD hgd (have z := room64H hr; z)) sn_repr rfl A.f_repr bt_repr (da_cons (de_xf (i := 0) (cs := xfC_thing) hz hf A.xf_thing rfl) da_nil)))) da_nil))))))
theorem Hd.ok__law_error (A : Hd K mg) : HotD P w K mg base 1 "_law_error" ["e"] sp__law_error := by
  obtain ⟨fd, F⟩ := A.c.def_ 5
  exact ⟨_, fd, A.g__law_error, F.kp, F.bindsN fun _ _ _ _ _ _ us hl => match us, hl with | [_], _ => rfl, def_okX F sc__law_error rfl fun cdv A2 fr s H E a oe cls d hr hgd hz hf => d__law_error A hr hgd hz hf⟩
/-! pair_of -/
abbrev N_pair_of : List Str := ["thing", "numbers"]
theorem sc_pair_of : FnScope N_pair_of ["thing"] (defScope (top 10)) := ⟨rfl, rfl, rfl, by decide +kernel, rfl, by decide +kernel, by decide +kernel⟩
def w_pair_of : WS := (sSeq (sSet 1 (wCall sp_numbers_of (wCons (wVar 0) wNil)))
 (sSeq (sIf (wB (w2 fIsN (wVar 1) (wC .non)))
  (sRaise "InvalidPoint" ["thing"] (wCons (wVar 0) wNil))
  sNext)
 (sRet (wVar 1))))
def sp_pair_of : DSp := fun ds μ Q Xd => ds.length = 1 ∧ w_pair_of (defE Q Xd) (startD N_pair_of ds) μ
theorem d_pair_of (A : Hd K mg) {cdv : Value} {A2 : Around} {fr : List Env} {s : Shared} {H : Hp} {E : XK} {f : Addr} (hr : Room 2 (A2.deeper (envOfC "pair_of" (defScope (top 10)) s.heap.objs.size f cdv))) (hgd : (A2.deeper (envOfC "pair_of" (defScope (top 10)) s.heap.objs.size f cdv)).guards = some []) :
    DSs none (fun cls d _ H2 => E cls d H2) (cxOf (L2.CX P w) P w K mg base N_pair_of "pair_of" (defScope (top 10)) f cdv A2 fr s H E) (defBody (top 10)) w_pair_of := by
  have hN := (sc_pair_of).nd
  exact (dss_cons (ds_set (i := 1) hN rfl (de_callD A.ok_numbers_of hr (by decide) hgd rfl (takes_of rfl rfl rfl rfl) (da_cons (dv 0) da_nil)))
 (dss_cons (ds_if (dt_cmp op_isN s2_isN (dv 1) de_non (nomark _)) (dss_one (ds_raiseD A.rx_InvalidPoint rfl hr (by decide) rfl (takes_of rfl rfl rfl rfl) (da_cons (dv 0) da_nil))) dss_nil)
 (dss_one (ds_ret (dv 1)))))
theorem Hd.ok_pair_of (A : Hd K mg) : CallD P w K mg base 3 "pair_of" ["thing"] sp_pair_of := by
  obtain ⟨fd, F⟩ := A.c.def_ 6
  exact ⟨_, fd, A.g_pair_of, F.kp, F.bindsN fun _ _ _ _ _ _ us hl => match us, hl with | [_], _ => rfl, def_ok F sc_pair_of (fun ds μ Q Xd h => h.1) (fun cdv A2 fr s H E hr hgd => d_pair_of A hr hgd) fun ds μ Q Xd h => h.2⟩
/-! direction_of -/
abbrev N_direction_of : List Str := ["thing", "pair"]
theorem sc_direction_of : FnScope N_direction_of ["thing"] (defScope (top 16)) := ⟨rfl, rfl, rfl, by decide +kernel, rfl, by decide +kernel, by decide +kernel⟩
def w_direction_of : WS := (sSeq (sSet 1 (wCall sp_pair_of (wCons (wVar 0) wNil)))
 (sSeq (sIf (wB (w2 fEqU (wVar 1) (wTup (wCons (wC (.int (0))) (wCons (wC (.int (0))) wNil)))))
  (sRaise "NoDirection" ["thing"] (wCons (wVar 0) wNil))
  sNext)
 (sRet (wVar 1))))
def sp_direction_of : DSp := fun ds μ Q Xd => ds.length = 1 ∧ w_direction_of (defE Q Xd) (startD N_direction_of ds) μ
theorem d_direction_of (A : Hd K mg) {cdv : Value} {A2 : Around} {fr : List Env} {s : Shared} {H : Hp} {E : XK} {f : Addr} (hr : Room 3 (A2.deeper (envOfC "direction_of" (defScope (top 16)) s.heap.objs.size f cdv))) (hgd : (A2.deeper (envOfC "direction_of" (defScope (top 16)) s.heap.objs.size f cdv)).guards = some []) :
    DSs none (fun cls d _ H2 => E cls d H2) (cxOf (L2.CX P w) P w K mg base N_direction_of "direction_of" (defScope (top 16)) f cdv A2 fr s H E) (defBody (top 16)) w_direction_of := by
  have hN := (sc_direction_of).nd
  exact (dss_cons (ds_set (i := 1) hN rfl (de_callD A.ok_pair_of hr (by decide) hgd rfl (takes_of rfl rfl rfl rfl) (da_cons (dv 0) da_nil)))
 (dss_cons (ds_if (dt_cmp (op_eqU (have z := room64 hr; z)) s2_eqU (dv 1) (de_tup (da_cons de_int (da_cons de_int da_nil))) (nomark _)) (dss_one (ds_raiseD A.rx_NoDirection rfl hr (by decide) rfl (takes_of rfl rfl rfl rfl) (da_cons (dv 0) da_nil))) dss_nil)
 (dss_one (ds_ret (dv 1)))))
theorem Hd.ok_direction_of (A : Hd K mg) : CallD P w K mg base 4 "direction_of" ["thing"] sp_direction_of := by
  obtain ⟨fd, F⟩ := A.c.def_ 7
  exact ⟨_, fd, A.g_direction_of, F.kp, F.bindsN fun _ _ _ _ _ _ us hl => match us, hl with | [_], _ => rfl, def_ok F sc_direction_of (fun ds μ Q Xd h => h.1) (fun cdv A2 fr s H E hr hgd => d_direction_of A hr hgd) fun ds μ Q Xd h => h.2⟩
/-! sign_of -/
abbrev N_sign_of : List Str := ["number"]
theorem sc_sign_of : FnScope N_sign_of ["number"] (defScope (top 15)) := ⟨rfl, rfl, rfl, by decide +kernel, rfl, by decide +kernel, by decide +kernel⟩
def w_sign_of : WS := (sSeq (sIf (wB (w2 fEqU (wVar 0) (wC (.int (0)))))
  (sRet (wC (.int (0))))
  sNext)
 (sRet (wIf (wB (w2 fGt (wVar 0) (wC (.int (0))))) (wC (.int (1))) (w1 fNeg (wC (.int (1)))))))
def sp_sign_of : DSp := fun ds μ Q Xd => ds.length = 1 ∧ w_sign_of (defE Q Xd) (startD N_sign_of ds) μ
theorem d_sign_of (A : Hd K mg) {cdv : Value} {A2 : Around} {fr : List Env} {s : Shared} {H : Hp} {E : XK} {f : Addr} (hr : Room 0 (A2.deeper (envOfC "sign_of" (defScope (top 15)) s.heap.objs.size f cdv))) (hgd : (A2.deeper (envOfC "sign_of" (defScope (top 15)) s.heap.objs.size f cdv)).guards = some []) :
    DSs none (fun cls d _ H2 => E cls d H2) (cxOf (L2.CX P w) P w K mg base N_sign_of "sign_of" (defScope (top 15)) f cdv A2 fr s H E) (defBody (top 15)) w_sign_of := by
  have hN := (sc_sign_of).nd
  exact (dss_cons (ds_if (dt_cmp (op_eqU (have z := room64 hr; z)) s2_eqU (dv 0) de_int (nomark _)) (dss_one (ds_ret de_int)) dss_nil)
 (dss_one (ds_ret (de_if (dt_cmp op_gt s2_IB (dv 0) de_int (nomark _)) de_int (de_neg de_int)))))
theorem Hd.ok_sign_of (A : Hd K mg) : CallD P w K mg base 1 "sign_of" ["number"] sp_sign_of := by
  obtain ⟨fd, F⟩ := A.c.def_ 8
  exact ⟨_, fd, A.g_sign_of, F.kp, F.bindsN fun _ _ _ _ _ _ us hl => match us, hl with | [_], _ => rfl, def_ok F sc_sign_of (fun ds μ Q Xd h => h.1) (fun cdv A2 fr s H E hr hgd => d_sign_of A hr hgd) fun ds μ Q Xd h => h.2⟩
/-! kind_of_pair -/
abbrev N_kind_of_pair : List Str := ["pair"]
theorem sc_kind_of_pair : FnScope N_kind_of_pair ["pair"] (defScope (top 17)) := ⟨rfl, rfl, rfl, by decide +kernel, rfl, by decide +kernel, by decide +kernel⟩
def w_kind_of_pair : WS := (sRet (w1 (fKd kd_KINDS) (wTup (wCons (wCall sp_sign_of (wCons (w2 fIx (wVar 0) (wC (.int (0)))) wNil)) (wCons (wCall sp_sign_of (wCons (w2 fIx (wVar 0) (wC (.int (1)))) wNil)) wNil)))))
def sp_kind_of_pair : DSp := fun ds μ Q Xd => ds.length = 1 ∧ w_kind_of_pair (defE Q Xd) (startD N_kind_of_pair ds) μ
theorem d_kind_of_pair (A : Hd K mg) {cdv : Value} {A2 : Around} {fr : List Env} {s : Shared} {H : Hp} {E : XK} {f : Addr} (hr : Room 1 (A2.deeper (envOfC "kind_of_pair" (defScope (top 17)) s.heap.objs.size f cdv))) (hgd : (A2.deeper (envOfC "kind_of_pair" (defScope (top 17)) s.heap.objs.size f cdv)).guards = some []) :
    DSs none (fun cls d _ H2 => E cls d H2) (cxOf (L2.CX P w) P w K mg base N_kind_of_pair "kind_of_pair" (defScope (top 17)) f cdv A2 fr s H E) (defBody (top 17)) w_kind_of_pair := by
  have hN := (sc_kind_of_pair).nd
  exact (dss_one (ds_ret (de_kd (have z := room2 hr; z) rfl A.g_KINDS A.k_KINDS (de_tup (da_cons (de_callD A.ok_sign_of hr (by decide) hgd rfl (takes_of rfl rfl rfl rfl) (da_cons (de_item (dv 0) de_int) da_nil)) (da_cons (de_callD A.ok_sign_of hr (by decide) hgd rfl (takes_of rfl rfl rfl rfl) (da_cons (de_item (dv 0) de_int) da_nil)) da_nil))))))
theorem Hd.ok_kind_of_pair (A : Hd K mg) : CallD P w K mg base 2 "kind_of_pair" ["pair"] sp_kind_of_pair := by
  obtain ⟨fd, F⟩ := A.c.def_ 9
  exact ⟨_, fd, A.g_kind_of_pair, F.kp, F.bindsN fun _ _ _ _ _ _ us hl => match us, hl with | [_], _ => rfl, def_ok F sc_kind_of_pair (fun ds μ Q Xd h => h.1) (fun cdv A2 fr s H E hr hgd => d_kind_of_pair A hr hgd) fun ds μ Q Xd h => h.2⟩
/-! kind_of -/
abbrev N_kind_of : List Str := ["direction"]
theorem sc_kind_of : FnScope N_kind_of ["direction"] (defScope (top 18)) := ⟨rfl, rfl, rfl, by decide +kernel, rfl, by decide +kernel, by decide +kernel⟩
def w_kind_of : WS := (sRet (wCall sp_kind_of_pair (wCons (wCall sp_direction_of (wCons (wVar 0) wNil)) wNil)))
def sp_kind_of : DSp := fun ds μ Q Xd => ds.length = 1 ∧ w_kind_of (defE Q Xd) (startD N_kind_of ds) μ
theorem d_kind_of (A : Hd K mg) {cdv : Value} {A2 : Around} {fr : List Env} {s : Shared} {H : Hp} {E : XK} {f : Addr} (hr : Room 4 (A2.deeper (envOfC "kind_of" (defScope (top 18)) s.heap.objs.size f cdv))) (hgd : (A2.deeper (envOfC "kind_of" (defScope (top 18)) s.heap.objs.size f cdv)).guards = some []) :
    DSs none (fun cls d _ H2 => E cls d H2) (cxOf (L2.CX P w) P w K mg base N_kind_of "kind_of" (defScope (top 18)) f cdv A2 fr s H E) (defBody (top 18)) w_kind_of := by
  have hN := (sc_kind_of).nd
  exact (dss_one (ds_ret (de_callD A.ok_kind_of_pair hr (by decide) hgd rfl (takes_of rfl rfl rfl rfl) (da_cons (de_callD A.ok_direction_of hr (by decide) hgd rfl (takes_of rfl rfl rfl rfl) (da_cons (dv 0) da_nil)) da_nil))))
theorem Hd.ok_kind_of (A : Hd K mg) : CallD P w K mg base 5 "kind_of" ["direction"] sp_kind_of := by
  obtain ⟨fd, F⟩ := A.c.def_ 10
  exact ⟨_, fd, A.g_kind_of, F.kp, F.bindsN fun _ _ _ _ _ _ us hl => match us, hl with | [_], _ => rfl, def_ok F sc_kind_of (fun ds μ Q Xd h => h.1) (fun cdv A2 fr s H E hr hgd => d_kind_of A hr hgd) fun ds μ Q Xd h => h.2⟩
/-! common_divisor -/
abbrev N_common_divisor : List Str := ["one", "other"]
theorem sc_common_divisor : FnScope N_common_divisor ["one", "other"] (defScope (top 19)) := ⟨rfl, rfl, rfl, by decide +kernel, rfl, by decide +kernel, by decide +kernel⟩
def w_common_divisor : WS := (sSeq (sPar2 0 1 (wCons (wN fAbs (wCons (wVar 0) wNil)) (wCons (wN fAbs (wCons (wVar 1) wNil)) wNil)))
 (sSeq (sWhile (wB (w2 fGt (wVar 1) (wC (.int (0)))))
  (sPar2 0 1 (wCons (wVar 1) (wCons (w2 fMod (wVar 0) (wVar 1)) wNil))))
 (sRet (wVar 0))))
def sp_common_divisor : DSp := fun ds μ Q Xd => ds.length = 2 ∧ w_common_divisor (defE Q Xd) (startD N_common_divisor ds) μ
theorem d_common_divisor (A : Hd K mg) {cdv : Value} {A2 : Around} {fr : List Env} {s : Shared} {H : Hp} {E : XK} {f : Addr} (hr : Room 0 (A2.deeper (envOfC "common_divisor" (defScope (top 19)) s.heap.objs.size f cdv))) (hgd : (A2.deeper (envOfC "common_divisor" (defScope (top 19)) s.heap.objs.size f cdv)).guards = some []) :
    DSs none (fun cls d _ H2 => E cls d H2) (cxOf (L2.CX P w) P w K mg base N_common_divisor "common_divisor" (defScope (top 19)) f cdv A2 fr s H E) (defBody (top 19)) w_common_divisor := by
  have hN := (sc_common_divisor).nd
  exact (dss_cons (ds_par2 (i := 0) (j := 1) rfl hN rfl rfl (by decide) (da_cons (de_callB call_abs sn_abs rfl A.f_abs bt_abs (da_cons (dv 0) da_nil)) (da_cons (de_callB call_abs sn_abs rfl A.f_abs bt_abs (da_cons (dv 1) da_nil)) da_nil)))
 (dss_cons (ds_while (passes_of rfl) (dt_cmp op_gt s2_IB (dv 1) de_int (nomark _)) (dss_one (ds_par2 (i := 0) (j := 1) rfl hN rfl rfl (by decide) (da_cons (dv 1) (da_cons (de_mod (dv 0) (dv 1)) da_nil)))))
 (dss_one (ds_ret (dv 0)))))
theorem Hd.ok_common_divisor (A : Hd K mg) : CallD P w K mg base 1 "common_divisor" ["one", "other"] sp_common_divisor := by
  obtain ⟨fd, F⟩ := A.c.def_ 11
  exact ⟨_, fd, A.g_common_divisor, F.kp, F.bindsN fun _ _ _ _ _ _ us hl => match us, hl with | [_, _], _ => rfl, def_ok F sc_common_divisor (fun ds μ Q Xd h => h.1) (fun cdv A2 fr s H E hr hgd => d_common_divisor A hr hgd) fun ds μ Q Xd h => h.2⟩
/-! lowest_pair -/
abbrev N_lowest_pair : List Str := ["pair", "divisor"]
theorem sc_lowest_pair : FnScope N_lowest_pair ["pair"] (defScope (top 20)) := ⟨rfl, rfl, rfl, by decide +kernel, rfl, by decide +kernel, by decide +kernel⟩
def w_lowest_pair : WS := (sSeq (sSet 1 (wCall sp_common_divisor (wCons (w2 fIx (wVar 0) (wC (.int (0)))) (wCons (w2 fIx (wVar 0) (wC (.int (1)))) wNil))))
 (sRet (wTup (wCons (w2 fDiv (w2 fIx (wVar 0) (wC (.int (0)))) (wVar 1)) (wCons (w2 fDiv (w2 fIx (wVar 0) (wC (.int (1)))) (wVar 1)) wNil)))))
def sp_lowest_pair : DSp := fun ds μ Q Xd => ds.length = 1 ∧ w_lowest_pair (defE Q Xd) (startD N_lowest_pair ds) μ
theorem d_lowest_pair (A : Hd K mg) {cdv : Value} {A2 : Around} {fr : List Env} {s : Shared} {H : Hp} {E : XK} {f : Addr} (hr : Room 1 (A2.deeper (envOfC "lowest_pair" (defScope (top 20)) s.heap.objs.size f cdv))) (hgd : (A2.deeper (envOfC "lowest_pair" (defScope (top 20)) s.heap.objs.size f cdv)).guards = some []) :
    DSs none (fun cls d _ H2 => E cls d H2) (cxOf (L2.CX P w) P w K mg base N_lowest_pair "lowest_pair" (defScope (top 20)) f cdv A2 fr s H E) (defBody (top 20)) w_lowest_pair := by
  have hN := (sc_lowest_pair).nd
  exact (dss_cons (ds_set (i := 1) hN rfl (de_callD A.ok_common_divisor hr (by decide) hgd rfl (takes_of rfl rfl rfl rfl) (da_cons (de_item (dv 0) de_int) (da_cons (de_item (dv 0) de_int) da_nil))))
 (dss_one (ds_ret (de_tup (da_cons (de_div (de_item (dv 0) de_int) (dv 1)) (da_cons (de_div (de_item (dv 0) de_int) (dv 1)) da_nil))))))
theorem Hd.ok_lowest_pair (A : Hd K mg) : CallD P w K mg base 2 "lowest_pair" ["pair"] sp_lowest_pair := by
  obtain ⟨fd, F⟩ := A.c.def_ 12
  exact ⟨_, fd, A.g_lowest_pair, F.kp, F.bindsN fun _ _ _ _ _ _ us hl => match us, hl with | [_], _ => rfl, def_ok F sc_lowest_pair (fun ds μ Q Xd h => h.1) (fun cdv A2 fr s H E hr hgd => d_lowest_pair A hr hgd) fun ds μ Q Xd h => h.2⟩
/-! point_of -/
abbrev N_point_of : List Str := ["pair"]
theorem sc_point_of : FnScope N_point_of ["pair"] (defScope (top 11)) := ⟨rfl, rfl, rfl, by decide +kernel, rfl, by decide +kernel, by decide +kernel⟩
def w_point_of : WS := (sRet (wMake "Point" sp_Point_init (wCons (w2 fIx (wVar 0) (wC (.int (0)))) (wCons (w2 fIx (wVar 0) (wC (.int (1)))) wNil))))
def sp_point_of : DSp := fun ds μ Q Xd => ds.length = 1 ∧ w_point_of (defE Q Xd) (startD N_point_of ds) μ
theorem d_point_of (A : Hd K mg) {cdv : Value} {A2 : Around} {fr : List Env} {s : Shared} {H : Hp} {E : XK} {f : Addr} (hr : Room 4 (A2.deeper (envOfC "point_of" (defScope (top 11)) s.heap.objs.size f cdv))) (hgd : (A2.deeper (envOfC "point_of" (defScope (top 11)) s.heap.objs.size f cdv)).guards = some []) :
    DSs none (fun cls d _ H2 => E cls d H2) (cxOf (L2.CX P w) P w K mg base N_point_of "point_of" (defScope (top 11)) f cdv A2 fr s H E) (defBody (top 11)) w_point_of := by
  have hN := (sc_point_of).nd
  exact (dss_one (ds_ret (de_makeD A.ok_Point_init hr (by decide) hgd rfl (takes_of rfl rfl rfl rfl) (da_cons (de_item (dv 0) de_int) (da_cons (de_item (dv 0) de_int) da_nil)))))
theorem Hd.ok_point_of (A : Hd K mg) : CallD P w K mg base 5 "point_of" ["pair"] sp_point_of := by
  obtain ⟨fd, F⟩ := A.c.def_ 13
  exact ⟨_, fd, A.g_point_of, F.kp, F.bindsN fun _ _ _ _ _ _ us hl => match us, hl with | [_], _ => rfl, def_ok F sc_point_of (fun ds μ Q Xd h => h.1) (fun cdv A2 fr s H E hr hgd => d_point_of A hr hgd) fun ds μ Q Xd h => h.2⟩
/-! lowest -/
abbrev N_lowest : List Str := ["direction"]
theorem sc_lowest : FnScope N_lowest ["direction"] (defScope (top 21)) := ⟨rfl, rfl, rfl, by decide +kernel, rfl, by decide +kernel, by decide +kernel⟩
def w_lowest : WS := (sRet (wCall sp_point_of (wCons (wCall sp_lowest_pair (wCons (wCall sp_direction_of (wCons (wVar 0) wNil)) wNil)) wNil)))
def sp_lowest : DSp := fun ds μ Q Xd => ds.length = 1 ∧ w_lowest (defE Q Xd) (startD N_lowest ds) μ
theorem d_lowest (A : Hd K mg) {cdv : Value} {A2 : Around} {fr : List Env} {s : Shared} {H : Hp} {E : XK} {f : Addr} (hr : Room 5 (A2.deeper (envOfC "lowest" (defScope (top 21)) s.heap.objs.size f cdv))) (hgd : (A2.deeper (envOfC "lowest" (defScope (top 21)) s.heap.objs.size f cdv)).guards = some []) :
    DSs none (fun cls d _ H2 => E cls d H2) (cxOf (L2.CX P w) P w K mg base N_lowest "lowest" (defScope (top 21)) f cdv A2 fr s H E) (defBody (top 21)) w_lowest := by
  have hN := (sc_lowest).nd
  exact (dss_one (ds_ret (de_callD A.ok_point_of hr (by decide) hgd rfl (takes_of rfl rfl rfl rfl) (da_cons (de_callD A.ok_lowest_pair hr (by decide) hgd rfl (takes_of rfl rfl rfl rfl) (da_cons (de_callD A.ok_direction_of hr (by decide) hgd rfl (takes_of rfl rfl rfl rfl) (da_cons (dv 0) da_nil)) da_nil)) da_nil))))
theorem Hd.ok_lowest (A : Hd K mg) : CallD P w K mg base 6 "lowest" ["direction"] sp_lowest := by
  obtain ⟨fd, F⟩ := A.c.def_ 14
  exact ⟨_, fd, A.g_lowest, F.kp, F.bindsN fun _ _ _ _ _ _ us hl => match us, hl with | [_], _ => rfl, def_ok F sc_lowest (fun ds μ Q Xd h => h.1) (fun cdv A2 fr s H E hr hgd => d_lowest A hr hgd) fun ds μ Q Xd h => h.2⟩
/-! cross_of -/
abbrev N_cross_of : List Str := ["one", "other"]
theorem sc_cross_of : FnScope N_cross_of ["one", "other"] (defScope (top 12)) := ⟨rfl, rfl, rfl, by decide +kernel, rfl, by decide +kernel, by decide +kernel⟩
def w_cross_of : WS := (sRet (w2 fSub (w2 fTimes (w2 fIx (wVar 0) (wC (.int (0)))) (w2 fIx (wVar 1) (wC (.int (1))))) (w2 fTimes (w2 fIx (wVar 0) (wC (.int (1)))) (w2 fIx (wVar 1) (wC (.int (0)))))))
def sp_cross_of : DSp := fun ds μ Q Xd => ds.length = 2 ∧ w_cross_of (defE Q Xd) (startD N_cross_of ds) μ
theorem d_cross_of (A : Hd K mg) {cdv : Value} {A2 : Around} {fr : List Env} {s : Shared} {H : Hp} {E : XK} {f : Addr} (hr : Room 0 (A2.deeper (envOfC "cross_of" (defScope (top 12)) s.heap.objs.size f cdv))) (hgd : (A2.deeper (envOfC "cross_of" (defScope (top 12)) s.heap.objs.size f cdv)).guards = some []) :
    DSs none (fun cls d _ H2 => E cls d H2) (cxOf (L2.CX P w) P w K mg base N_cross_of "cross_of" (defScope (top 12)) f cdv A2 fr s H E) (defBody (top 12)) w_cross_of := by
  have hN := (sc_cross_of).nd
  exact (dss_one (ds_ret (de_sub (de_times (de_item (dv 0) de_int) (de_item (dv 1) de_int)) (de_times (de_item (dv 0) de_int) (de_item (dv 1) de_int)))))
theorem Hd.ok_cross_of (A : Hd K mg) : CallD P w K mg base 1 "cross_of" ["one", "other"] sp_cross_of := by
  obtain ⟨fd, F⟩ := A.c.def_ 15
  exact ⟨_, fd, A.g_cross_of, F.kp, F.bindsN fun _ _ _ _ _ _ us hl => match us, hl with | [_, _], _ => rfl, def_ok F sc_cross_of (fun ds μ Q Xd h => h.1) (fun cdv A2 fr s H E hr hgd => d_cross_of A hr hgd) fun ds μ Q Xd h => h.2⟩
/-! is_ahead -/
abbrev N_is_ahead : List Str := ["one", "other"]
theorem sc_is_ahead : FnScope N_is_ahead ["one", "other"] (defScope (top 22)) := ⟨rfl, rfl, rfl, by decide +kernel, rfl, by decide +kernel, by decide +kernel⟩
def w_is_ahead : WS := (sRet (w2 fGt (wCall sp_cross_of (wCons (wVar 0) (wCons (wVar 1) wNil))) (wC (.int (0)))))
def sp_is_ahead : DSp := fun ds μ Q Xd => ds.length = 2 ∧ w_is_ahead (defE Q Xd) (startD N_is_ahead ds) μ
theorem d_is_ahead (A : Hd K mg) {cdv : Value} {A2 : Around} {fr : List Env} {s : Shared} {H : Hp} {E : XK} {f : Addr} (hr : Room 1 (A2.deeper (envOfC "is_ahead" (defScope (top 22)) s.heap.objs.size f cdv))) (hgd : (A2.deeper (envOfC "is_ahead" (defScope (top 22)) s.heap.objs.size f cdv)).guards = some []) :
    DSs none (fun cls d _ H2 => E cls d H2) (cxOf (L2.CX P w) P w K mg base N_is_ahead "is_ahead" (defScope (top 22)) f cdv A2 fr s H E) (defBody (top 22)) w_is_ahead := by
  have hN := (sc_is_ahead).nd
  exact (dss_one (ds_ret (de_cmp op_gt s2_IB (de_callD A.ok_cross_of hr (by decide) hgd rfl (takes_of rfl rfl rfl rfl) (da_cons (dv 0) (da_cons (dv 1) da_nil))) de_int (nomark _))))
theorem Hd.ok_is_ahead (A : Hd K mg) : CallD P w K mg base 2 "is_ahead" ["one", "other"] sp_is_ahead := by
  obtain ⟨fd, F⟩ := A.c.def_ 16
  exact ⟨_, fd, A.g_is_ahead, F.kp, F.bindsN fun _ _ _ _ _ _ us hl => match us, hl with | [_, _], _ => rfl, def_ok F sc_is_ahead (fun ds μ Q Xd h => h.1) (fun cdv A2 fr s H E hr hgd => d_is_ahead A hr hgd) fun ds μ Q Xd h => h.2⟩
/-! put_in -/
abbrev N_put_in : List Str := ["pairs", "pair", "at"]
theorem sc_put_in : FnScope N_put_in ["pairs", "pair"] (defScope (top 23)) := ⟨rfl, rfl, rfl, by decide +kernel, rfl, by decide +kernel, by decide +kernel⟩
def w_put_in : WS := (sSeq (sSet 2 (wN fLen (wCons (wVar 0) wNil)))
 (sSeq (sWhile (wAnd (wB (w2 fGt (wVar 2) (wC (.int (0))))) (wB (wCall sp_is_ahead (wCons (wVar 1) (wCons (w2 fIx (wVar 0) (w2 fSub (wVar 2) (wC (.int (1))))) wNil)))))
  (sAug 2 fSub (wC (.int (1)))))
 (sRet (w2 fPlus (w2 fPlus (wSl (wVar 0) oNone (oSome (wVar 2))) (wLst (wCons (wVar 1) wNil))) (wSl (wVar 0) (oSome (wVar 2)) oNone)))))
def sp_put_in : DSp := fun ds μ Q Xd => ds.length = 2 ∧ w_put_in (defE Q Xd) (startD N_put_in ds) μ
theorem d_put_in (A : Hd K mg) {cdv : Value} {A2 : Around} {fr : List Env} {s : Shared} {H : Hp} {E : XK} {f : Addr} (hr : Room 2 (A2.deeper (envOfC "put_in" (defScope (top 23)) s.heap.objs.size f cdv))) (hgd : (A2.deeper (envOfC "put_in" (defScope (top 23)) s.heap.objs.size f cdv)).guards = some []) :
    DSs none (fun cls d _ H2 => E cls d H2) (cxOf (L2.CX P w) P w K mg base N_put_in "put_in" (defScope (top 23)) f cdv A2 fr s H E) (defBody (top 23)) w_put_in := by
  have hN := (sc_put_in).nd
  exact (dss_cons (ds_set (i := 2) hN rfl (de_callB call_len_seq sn_len rfl A.f_len bt_len (da_cons (dv 0) da_nil)))
 (dss_cons (ds_while (passes_of rfl) (dt_w (dw_and (dt_cmp op_gt s2_IB (dv 2) de_int (nomark _)) (dw_and1 (dt_val (de_callD A.ok_is_ahead hr (by decide) hgd rfl (takes_of rfl rfl rfl rfl) (da_cons (dv 1) (da_cons (de_item (dv 0) (de_sub (dv 2) de_int)) da_nil))))))) (dss_one (ds_aug (i := 2) iop_sub s2_II0 hN rfl de_int)))
 (dss_one (ds_ret (de_plus (de_plus (de_slice (dv 0) do_none (do_some (dv 2))) (de_lst (da_cons (dv 1) da_nil))) (de_slice (dv 0) (do_some (dv 2)) do_none))))))
theorem Hd.ok_put_in (A : Hd K mg) : CallD P w K mg base 3 "put_in" ["pairs", "pair"] sp_put_in := by
  obtain ⟨fd, F⟩ := A.c.def_ 17
  exact ⟨_, fd, A.g_put_in, F.kp, F.bindsN fun _ _ _ _ _ _ us hl => match us, hl with | [_, _], _ => rfl, def_ok F sc_put_in (fun ds μ Q Xd h => h.1) (fun cdv A2 fr s H E hr hgd => d_put_in A hr hgd) fun ds μ Q Xd h => h.2⟩
/-! sorted_around -/
abbrev N_sorted_around : List Str := ["directions", "pairs", "found", "kind", "alike", "pair", "thing"]
theorem sc_sorted_around : FnScope N_sorted_around ["directions"] (defScope (top 24)) := ⟨rfl, rfl, rfl, by decide +kernel, rfl, by decide +kernel, by decide +kernel⟩
def w_sorted_around : WS := (sSeq (sSet 1 (wLcR (wiL (wVar 0)) (kNameC 6) wYes (wCallR sp_direction_of (wCons (wVar 6) wNil)) [6]))
 (sSeq (sSetO 2 wNil)
 (sSeq (sFor (wiR1 (wCons (wC (.int (8))) wNil)) (kName 3)
  (sSeq (sSet 4 (wLst wNil))
 (sSeq (sFor (wiL (wVar 1)) (kName 5)
  (sIf (wB (w2 fEqU (wCall sp_kind_of_pair (wCons (wVar 5) wNil)) (wVar 3)))
  (sSet 4 (wCall sp_put_in (wCons (wVar 4) (wCons (wVar 5) wNil))))
  sNext))
 (sExtO 2 (wCons (wLc (wiL (wVar 4)) (kNameC 5) wYes (wCall sp_point_of (wCons (wVar 5) wNil)) [5]) wNil)))))
 (sFrz 2 (sRet (wVar 2))))))
def sp_sorted_around : DSp := fun ds μ Q Xd => ds.length = 1 ∧ w_sorted_around (defE Q Xd) (startD N_sorted_around ds) μ
theorem d_sorted_around (A : Hd K mg) {cdv : Value} {A2 : Around} {fr : List Env} {s : Shared} {H : Hp} {E : XK} {f : Addr} (hr : Room 5 (A2.deeper (envOfC "sorted_around" (defScope (top 24)) s.heap.objs.size f cdv))) (hgd : (A2.deeper (envOfC "sorted_around" (defScope (top 24)) s.heap.objs.size f cdv)).guards = some []) :
    DSs none (fun cls d _ H2 => E cls d H2) (cxOf (L2.CX P w) P w K mg base N_sorted_around "sorted_around" (defScope (top 24)) f cdv A2 fr s H E) (defBody (top 24)) w_sorted_around := by
  have hN := (sc_sorted_around).nd
  exact (dss_cons (ds_setLcR (i := 1) rfl rfl (takes_of rfl rfl rfl rfl) rfl hN rfl rfl (di_list (dv 0)) (blkOk_by (own := [("thing", 6)]) (by show blkC N_sorted_around (defScope (top 24)) _ _ = true; decide +kernel)) (lcg_name (by decide)) (fun _ _ _ _ _ => (pg_name hN rfl (by first | exact Or.inl rfl | exact Or.inr rfl) (by first | exact .inl rfl | exact .inr rfl))) (fun _ _ _ _ _ => dts_nil) (fun _ _ _ _ _ => (per_call A.ok_direction_of hr (by decide) hgd rfl rfl (da_cons (dv 6) da_nil))))
 (dss_cons (ds_setO (i := 2) hN rfl da_nil)
 (dss_cons (ds_for (passes_of rfl) rfl (di_range1 (by rfl) A.f_range (da_cons de_int da_nil)) (dg_name hN rfl) (dss_cons (ds_set (i := 4) hN rfl (de_lst da_nil))
 (dss_cons (ds_for (passes_of rfl) rfl (di_list (dv 1)) (dg_name hN rfl) (dss_one (ds_if (dt_cmp (op_eqU (have z := room64 hr; z)) s2_eqU (de_callD A.ok_kind_of_pair hr (by decide) hgd rfl (takes_of rfl rfl rfl rfl) (da_cons (dv 5) da_nil)) (dv 3) (nomark _)) (dss_one (ds_set (i := 4) hN rfl (de_callD A.ok_put_in hr (by decide) hgd rfl (takes_of rfl rfl rfl rfl) (da_cons (dv 4) (da_cons (dv 5) da_nil))))) dss_nil)))
 (dss_one (ds_extO (i := 2) rfl (da_cons (de_lc rfl hN (di_list (dv 4)) (blkOk_by (own := [("pair", 5)]) (by show blkC N_sorted_around (defScope (top 24)) _ _ = true; decide +kernel)) (lcg_name (by decide)) (fun _ _ _ _ _ => (pg_name hN rfl (by first | exact Or.inl rfl | exact Or.inr rfl) (by first | exact .inl rfl | exact .inr rfl))) (fun _ _ _ _ _ => dts_nil) (fun _ _ _ _ _ => (de_callD A.ok_point_of hr (by decide) hgd rfl takes0 (da_cons (dv 5) da_nil)))) da_nil))))))
 (dss_one (ds_frz 2 (ds_ret (dv 2)))))))
theorem Hd.ok_sorted_around (A : Hd K mg) : CallD P w K mg base 6 "sorted_around" ["directions"] sp_sorted_around := by
  obtain ⟨fd, F⟩ := A.c.def_ 18
  exact ⟨_, fd, A.g_sorted_around, F.kp, F.bindsN fun _ _ _ _ _ _ us hl => match us, hl with | [_], _ => rfl, def_ok F sc_sorted_around (fun ds μ Q Xd h => h.1) (fun cdv A2 fr s H E hr hgd => d_sorted_around A hr hgd) fun ds μ Q Xd h => h.2⟩
/-! _law_asked -/
abbrev N__law_asked : List Str := ["door", "thing", "e"]
theorem sc__law_asked : FnScope N__law_asked ["door", "thing"] (defScope (top 31)) := ⟨rfl, rfl, rfl, by decide +kernel, rfl, by decide +kernel, by decide +kernel⟩
def w__law_asked : WS := (sTry (catF catL_FillError) 2 (sSeq (sIf (wB (w2 fEqU (wVar 0) (wC (.int (0)))))
  (sRet (wCall sp_kind_of (wCons (wVar 1) wNil)))
  sNext)
 (sSeq (sIf (wB (w2 fEqU (wVar 0) (wC (.int (1)))))
  (sRet (wCall sp_lowest (wCons (wVar 1) wNil)))
  sNext)
 (sRet (wCall sp_sorted_around (wCons (wVar 1) wNil))))) (sRet (wHotX sp__law_error 2)))
def sp__law_asked : DSp := fun ds μ Q Xd => ds.length = 2 ∧ w__law_asked (defE Q Xd) (startD N__law_asked ds) μ
theorem d__law_asked (A : Hd K mg) {cdv : Value} {A2 : Around} {fr : List Env} {s : Shared} {H : Hp} {E : XK} {f : Addr} (hr : Room 6 (A2.deeper (envOfC "_law_asked" (defScope (top 31)) s.heap.objs.size f cdv))) (hgd : (A2.deeper (envOfC "_law_asked" (defScope (top 31)) s.heap.objs.size f cdv)).guards = some []) :
    DSs none (fun cls d _ H2 => E cls d H2) (cxOf (L2.CX P w) P w K mg base N__law_asked "_law_asked" (defScope (top 31)) f cdv A2 fr s H E) (defBody (top 31)) w__law_asked := by
  have hN := (sc__law_asked).nd
  exact (dss_one (ds_try (i := 2) rfl rfl hN rfl rfl ⟨rfl, by decide, .inl A.cat_FillError.2⟩ (takes_of rfl rfl rfl rfl) A.cat_FillError.1 (fun W2 pn xe tk2 po2 => (dss_cons (ds_if (dt_cmp (op_eqU (have z := room64 hr; z)) s2_eqU (dv 0) de_int (nomark _)) (dss_one (ds_ret (de_callD A.ok_kind_of hr (by decide) hgd rfl tk2 (da_cons (dv 1) da_nil)))) dss_nil)
 (dss_cons (ds_if (dt_cmp (op_eqU (have z := room64 hr; z)) s2_eqU (dv 0) de_int (nomark _)) (dss_one (ds_ret (de_callD A.ok_lowest hr (by decide) hgd rfl tk2 (da_cons (dv 1) da_nil)))) dss_nil)
 (dss_one (ds_ret (de_callD A.ok_sorted_around hr (by decide) hgd rfl tk2 (da_cons (dv 1) da_nil))))))) (fun a oe cls d pn hz hf => (dss_one (ds_ret (de_hotX (i := 2) A.ok__law_error hr (by decide) hgd hz hf rfl rfl))))))
theorem Hd.ok__law_asked (A : Hd K mg) : CallD P w K mg base 7 "_law_asked" ["door", "thing"] sp__law_asked := by
  obtain ⟨fd, F⟩ := A.c.def_ 19
  exact ⟨_, fd, A.g__law_asked, F.kp, F.bindsN fun _ _ _ _ _ _ us hl => match us, hl with | [_, _], _ => rfl, def_ok F sc__law_asked (fun ds μ Q Xd h => h.1) (fun cdv A2 fr s H E hr hgd => d__law_asked A hr hgd) fun ds μ Q Xd h => h.2⟩
/-! _law_draw -/
abbrev N__law_draw : List Str := ["pool", "many", "found"]
theorem sc__law_draw : FnScope N__law_draw ["pool", "many"] (defScope (top 27)) := ⟨rfl, rfl, rfl, by decide +kernel, rfl, by decide +kernel, by decide +kernel⟩
def w__law_draw : WS := (sSeq (sIf (wB (w2 fGt (w2 fIx (wVar 0) (wC (.int (0)))) (wC (.int (0)))))
  (sSeq (sSet 2 (w2 fMod (wN fInt1 (wCons (w2 fIx (wVar 0) (wC (.int (0)))) wNil)) (wVar 1)))
 (sSeq (sAsg (w2 fDiv (w2 fIx (wVar 0) (wC (.int (0)))) (wVar 1)) (kSub (wVar 0) (wC (.int (0)))))
 (sRet (wVar 2))))
  sNext)
 (sSeq (sAsg (w2 fMod (wN fInt1 (wCons (w2 fPlus (w2 fTimes (w2 fIx (wVar 0) (wC (.int (1)))) (wC (.int (48271)))) (wC (.int (11)))) wNil)) (wC (.int (2147483647)))) (kSub (wVar 0) (wC (.int (1)))))
 (sRet (w2 fMod (w2 fDiv (w2 fMod (wN fInt1 (wCons (w2 fTimes (w2 fIx (wVar 0) (wC (.int (1)))) (w2 fIx (wVar 0) (wC (.int (1))))) wNil)) (wC (.int (2147483629)))) (wC (.int (64)))) (wVar 1)))))
def sp__law_draw : DSp := fun ds μ Q Xd => ds.length = 2 ∧ w__law_draw (defE Q Xd) (startD N__law_draw ds) μ
theorem d__law_draw (A : Hd K mg) {cdv : Value} {A2 : Around} {fr : List Env} {s : Shared} {H : Hp} {E : XK} {f : Addr} (hr : Room 0 (A2.deeper (envOfC "_law_draw" (defScope (top 27)) s.heap.objs.size f cdv))) (hgd : (A2.deeper (envOfC "_law_draw" (defScope (top 27)) s.heap.objs.size f cdv)).guards = some []) :
    DSs none (fun cls d _ H2 => E cls d H2) (cxOf (L2.CX P w) P w K mg base N__law_draw "_law_draw" (defScope (top 27)) f cdv A2 fr s H E) (defBody (top 27)) w__law_draw := by
  have hN := (sc__law_draw).nd
  exact (dss_cons (ds_if (dt_cmp op_gt s2_IB (de_item (dv 0) de_int) de_int (nomark _)) (dss_cons (ds_set (i := 2) hN rfl (de_mod (de_callTy call_int1 sn_int1 rfl A.f_int bt_int (da_cons (de_item (dv 0) de_int) da_nil)) (dv 1)))
 (dss_cons (ds_asg (de_div (de_item (dv 0) de_int) (dv 1)) (dg_sub (dv 0) de_int))
 (dss_one (ds_ret (dv 2))))) dss_nil)
 (dss_cons (ds_asg (de_mod (de_callTy call_int1 sn_int1 rfl A.f_int bt_int (da_cons (de_plus (de_times (de_item (dv 0) de_int) de_int) de_int) da_nil)) de_int) (dg_sub (dv 0) de_int))
 (dss_one (ds_ret (de_mod (de_div (de_mod (de_callTy call_int1 sn_int1 rfl A.f_int bt_int (da_cons (de_times (de_item (dv 0) de_int) (de_item (dv 0) de_int)) da_nil)) de_int) de_int) (dv 1))))))
theorem Hd.ok__law_draw (A : Hd K mg) : CallD P w K mg base 1 "_law_draw" ["pool", "many"] sp__law_draw := by
  obtain ⟨fd, F⟩ := A.c.def_ 20
  exact ⟨_, fd, A.g__law_draw, F.kp, F.bindsN fun _ _ _ _ _ _ us hl => match us, hl with | [_, _], _ => rfl, def_ok F sc__law_draw (fun ds μ Q Xd h => h.1) (fun cdv A2 fr s H E hr hgd => d__law_draw A hr hgd) fun ds μ Q Xd h => h.2⟩
/-! _law_direction -/
abbrev N__law_direction : List Str := ["pool", "x", "y", "many"]
theorem sc__law_direction : FnScope N__law_direction ["pool"] (defScope (top 29)) := ⟨rfl, rfl, rfl, by decide +kernel, rfl, by decide +kernel, by decide +kernel⟩
def w__law_direction : WS := (sSeq (sPar2 1 2 (wCons (w2 fSub (wCall sp__law_draw (wCons (wVar 0) (wCons (wC (.int (9))) wNil))) (wC (.int (4)))) (wCons (w2 fSub (wCall sp__law_draw (wCons (wVar 0) (wCons (wC (.int (9))) wNil))) (wC (.int (4)))) wNil)))
 (sSeq (sIf (wB (w2 fEqU (wTup (wCons (wVar 1) (wCons (wVar 2) wNil))) (wTup (wCons (wC (.int (0))) (wCons (wC (.int (0))) wNil)))))
  (sSet 1 (wC (.int (3))))
  sNext)
 (sSeq (sSet 3 (w2 fIx (wLst (wCons (wC (.int (1))) (wCons (wC (.int (1))) (wCons (wC (.int (2))) (wCons (w2 fPow (wC (.int (10))) (wC (.int (20)))) wNil))))) (wCall sp__law_draw (wCons (wVar 0) (wCons (wC (.int (4))) wNil)))))
 (sRet (wTup (wCons (w2 fTimes (wVar 1) (wVar 3)) (wCons (w2 fTimes (wVar 2) (wVar 3)) wNil)))))))
def sp__law_direction : DSp := fun ds μ Q Xd => ds.length = 1 ∧ w__law_direction (defE Q Xd) (startD N__law_direction ds) μ
theorem d__law_direction (A : Hd K mg) {cdv : Value} {A2 : Around} {fr : List Env} {s : Shared} {H : Hp} {E : XK} {f : Addr} (hr : Room 1 (A2.deeper (envOfC "_law_direction" (defScope (top 29)) s.heap.objs.size f cdv))) (hgd : (A2.deeper (envOfC "_law_direction" (defScope (top 29)) s.heap.objs.size f cdv)).guards = some []) :
    DSs none (fun cls d _ H2 => E cls d H2) (cxOf (L2.CX P w) P w K mg base N__law_direction "_law_direction" (defScope (top 29)) f cdv A2 fr s H E) (defBody (top 29)) w__law_direction := by
  have hN := (sc__law_direction).nd
  exact (dss_cons (ds_par2 (i := 1) (j := 2) rfl hN rfl rfl (by decide) (da_cons (de_sub (de_callD A.ok__law_draw hr (by decide) hgd rfl (takes_of rfl rfl rfl rfl) (da_cons (dv 0) (da_cons de_int da_nil))) de_int) (da_cons (de_sub (de_callD A.ok__law_draw hr (by decide) hgd rfl (takes_of rfl rfl rfl rfl) (da_cons (dv 0) (da_cons de_int da_nil))) de_int) da_nil)))
 (dss_cons (ds_if (dt_cmp (op_eqU (have z := room64 hr; z)) s2_eqU (de_tup (da_cons (dv 1) (da_cons (dv 2) da_nil))) (de_tup (da_cons de_int (da_cons de_int da_nil))) (nomark _)) (dss_one (ds_set (i := 1) hN rfl de_int)) dss_nil)
 (dss_cons (ds_set (i := 3) hN rfl (de_item (de_lst (da_cons de_int (da_cons de_int (da_cons de_int (da_cons (de_pow de_int de_int) da_nil))))) (de_callD A.ok__law_draw hr (by decide) hgd rfl (takes_of rfl rfl rfl rfl) (da_cons (dv 0) (da_cons de_int da_nil)))))
 (dss_one (ds_ret (de_tup (da_cons (de_times (dv 1) (dv 3)) (da_cons (de_times (dv 2) (dv 3)) da_nil))))))))
theorem Hd.ok__law_direction (A : Hd K mg) : CallD P w K mg base 2 "_law_direction" ["pool"] sp__law_direction := by
  obtain ⟨fd, F⟩ := A.c.def_ 21
  exact ⟨_, fd, A.g__law_direction, F.kp, F.bindsN fun _ _ _ _ _ _ us hl => match us, hl with | [_], _ => rfl, def_ok F sc__law_direction (fun ds μ Q Xd h => h.1) (fun cdv A2 fr s H E hr hgd => d__law_direction A hr hgd) fun ds μ Q Xd h => h.2⟩
/-! _law_hand -/
abbrev N__law_hand : List Str := ["script", "k", "cell", "seed"]
theorem sc__law_hand : FnScope N__law_hand ["script", "k"] (defScope (top 26)) := ⟨rfl, rfl, rfl, by decide +kernel, rfl, by decide +kernel, by decide +kernel⟩
def w__law_hand : WS := (sSeq (sSet 2 (w2 fIx (w2 fPlus (wSl (wVar 0) (oSome (wVar 1)) (oSome (w2 fPlus (wVar 1) (wC (.int (1)))))) (wLst (wCons (wC (.int (0))) wNil))) (wC (.int (0)))))
 (sSeq (sSet 3 (w2 fMod (w2 fTimes (w2 fPlus (w2 fPlus (w2 fMod (wN fInt1 (wCons (wVar 2) wNil)) (wC (.int (2147483647)))) (w2 fTimes (wC (.int (7919))) (wVar 1))) (wC (.int (1)))) (wC (.int (48271)))) (wC (.int (2147483629)))))
 (sRet (wLstC (wCons (w2 fTimes (wN fInt1 (wCons (w2 fGe (wVar 2) (w2 fPow (wC (.int (10))) (wC (.int (18))))) wNil)) (wVar 2)) (wCons (wVar 3) wNil))))))
def sp__law_hand : DSp := fun ds μ Q Xd => ds.length = 2 ∧ w__law_hand (defE Q Xd) (startD N__law_hand ds) μ
theorem d__law_hand (A : Hd K mg) {cdv : Value} {A2 : Around} {fr : List Env} {s : Shared} {H : Hp} {E : XK} {f : Addr} (hr : Room 0 (A2.deeper (envOfC "_law_hand" (defScope (top 26)) s.heap.objs.size f cdv))) (hgd : (A2.deeper (envOfC "_law_hand" (defScope (top 26)) s.heap.objs.size f cdv)).guards = some []) :
    DSs none (fun cls d _ H2 => E cls d H2) (cxOf (L2.CX P w) P w K mg base N__law_hand "_law_hand" (defScope (top 26)) f cdv A2 fr s H E) (defBody (top 26)) w__law_hand := by
  have hN := (sc__law_hand).nd
  exact (dss_cons (ds_set (i := 2) hN rfl (de_item (de_plus (de_slice (dv 0) (do_some (dv 1)) (do_some (de_plus (dv 1) de_int))) (de_lst (da_cons de_int da_nil))) de_int))
 (dss_cons (ds_set (i := 3) hN rfl (de_mod (de_times (de_plus (de_plus (de_mod (de_callTy call_int1 sn_int1 rfl A.f_int bt_int (da_cons (dv 2) da_nil)) de_int) (de_times de_int (dv 1))) de_int) de_int) de_int))
 (dss_one (ds_ret (de_lstC (da_cons (de_times (de_callTy call_int1 sn_int1 rfl A.f_int bt_int (da_cons (de_cmp op_ge s2_IB (dv 2) (de_pow de_int de_int) (nomark _)) da_nil)) (dv 2)) (da_cons (dv 3) da_nil)))))))
theorem Hd.ok__law_hand (A : Hd K mg) : CallD P w K mg base 1 "_law_hand" ["script", "k"] sp__law_hand := by
  obtain ⟨fd, F⟩ := A.c.def_ 22
  exact ⟨_, fd, A.g__law_hand, F.kp, F.bindsN fun _ _ _ _ _ _ us hl => match us, hl with | [_, _], _ => rfl, def_ok F sc__law_hand (fun ds μ Q Xd h => h.1) (fun cdv A2 fr s H E hr hgd => d__law_hand A hr hgd) fun ds μ Q Xd h => h.2⟩
/-! _law_kind -/
abbrev N__law_kind : List Str := ["d", "signs"]
theorem sc__law_kind : FnScope N__law_kind ["d"] (defScope (top 28)) := ⟨rfl, rfl, rfl, by decide +kernel, rfl, by decide +kernel, by decide +kernel⟩
def w__law_kind : WS := (sSeq (sSet 1 (wLst (wCons (wTup (wCons (wC (.int (1))) (wCons (wC (.int (0))) wNil))) (wCons (wTup (wCons (wC (.int (1))) (wCons (wC (.int (1))) wNil))) (wCons (wTup (wCons (wC (.int (0))) (wCons (wC (.int (1))) wNil))) (wCons (wTup (wCons (w1 fNeg (wC (.int (1)))) (wCons (wC (.int (1))) wNil))) (wCons (wTup (wCons (w1 fNeg (wC (.int (1)))) (wCons (wC (.int (0))) wNil))) (wCons (wTup (wCons (w1 fNeg (wC (.int (1)))) (wCons (w1 fNeg (wC (.int (1)))) wNil))) (wCons (wTup (wCons (wC (.int (0))) (wCons (w1 fNeg (wC (.int (1)))) wNil))) (wCons (wTup (wCons (wC (.int (1))) (wCons (w1 fNeg (wC (.int (1)))) wNil))) wNil))))))))))
 (sRet (wMb fIdx (wVar 1) (wTup (wCons (w2 fSub (wN fInt1 (wCons (w2 fGt (w2 fIx (wVar 0) (wC (.int (0)))) (wC (.int (0)))) wNil)) (wN fInt1 (wCons (w2 fLt (w2 fIx (wVar 0) (wC (.int (0)))) (wC (.int (0)))) wNil))) (wCons (w2 fSub (wN fInt1 (wCons (w2 fGt (w2 fIx (wVar 0) (wC (.int (1)))) (wC (.int (0)))) wNil)) (wN fInt1 (wCons (w2 fLt (w2 fIx (wVar 0) (wC (.int (1)))) (wC (.int (0)))) wNil))) wNil))))))
def sp__law_kind : DSp := fun ds μ Q Xd => ds.length = 1 ∧ w__law_kind (defE Q Xd) (startD N__law_kind ds) μ
theorem d__law_kind (A : Hd K mg) {cdv : Value} {A2 : Around} {fr : List Env} {s : Shared} {H : Hp} {E : XK} {f : Addr} (hr : Room 0 (A2.deeper (envOfC "_law_kind" (defScope (top 28)) s.heap.objs.size f cdv))) (hgd : (A2.deeper (envOfC "_law_kind" (defScope (top 28)) s.heap.objs.size f cdv)).guards = some []) :
    DSs none (fun cls d _ H2 => E cls d H2) (cxOf (L2.CX P w) P w K mg base N__law_kind "_law_kind" (defScope (top 28)) f cdv A2 fr s H E) (defBody (top 28)) w__law_kind := by
  have hN := (sc__law_kind).nd
  exact (dss_cons (ds_set (i := 1) hN rfl (de_lst (da_cons (de_tup (da_cons de_int (da_cons de_int da_nil))) (da_cons (de_tup (da_cons de_int (da_cons de_int da_nil))) (da_cons (de_tup (da_cons de_int (da_cons de_int da_nil))) (da_cons (de_tup (da_cons (de_neg de_int) (da_cons de_int da_nil))) (da_cons (de_tup (da_cons (de_neg de_int) (da_cons de_int da_nil))) (da_cons (de_tup (da_cons (de_neg de_int) (da_cons (de_neg de_int) da_nil))) (da_cons (de_tup (da_cons de_int (da_cons (de_neg de_int) da_nil))) (da_cons (de_tup (da_cons de_int (da_cons (de_neg de_int) da_nil))) da_nil))))))))))
 (dss_one (ds_ret (de_idx (have z := room65 hr; z) (dv 1) (de_tup (da_cons (de_sub (de_callTy call_int1 sn_int1 rfl A.f_int bt_int (da_cons (de_cmp op_gt s2_IB (de_item (dv 0) de_int) de_int (nomark _)) da_nil)) (de_callTy call_int1 sn_int1 rfl A.f_int bt_int (da_cons (de_cmp op_lt s2_IB (de_item (dv 0) de_int) de_int (nomark _)) da_nil))) (da_cons (de_sub (de_callTy call_int1 sn_int1 rfl A.f_int bt_int (da_cons (de_cmp op_gt s2_IB (de_item (dv 0) de_int) de_int (nomark _)) da_nil)) (de_callTy call_int1 sn_int1 rfl A.f_int bt_int (da_cons (de_cmp op_lt s2_IB (de_item (dv 0) de_int) de_int (nomark _)) da_nil))) da_nil)))))))
theorem Hd.ok__law_kind (A : Hd K mg) : CallD P w K mg base 1 "_law_kind" ["d"] sp__law_kind := by
  obtain ⟨fd, F⟩ := A.c.def_ 23
  exact ⟨_, fd, A.g__law_kind, F.kp, F.bindsN fun _ _ _ _ _ _ us hl => match us, hl with | [_], _ => rfl, def_ok F sc__law_kind (fun ds μ Q Xd h => h.1) (fun cdv A2 fr s H E hr hgd => d__law_kind A hr hgd) fun ds μ Q Xd h => h.2⟩
/-! _law_is_behind -/
abbrev N__law_is_behind : List Str := ["one", "other", "kinds_here"]
theorem sc__law_is_behind : FnScope N__law_is_behind ["one", "other"] (defScope (top 33)) := ⟨rfl, rfl, rfl, by decide +kernel, rfl, by decide +kernel, by decide +kernel⟩
def w__law_is_behind : WS := (sSeq (sSet 2 (wTup (wCons (wCall sp__law_kind (wCons (wVar 0) wNil)) (wCons (wCall sp__law_kind (wCons (wVar 1) wNil)) wNil))))
 (sSeq (sIf (wB (w2 fNeU (w2 fIx (wVar 2) (wC (.int (0)))) (w2 fIx (wVar 2) (wC (.int (1))))))
  (sRet (w2 fGt (w2 fIx (wVar 2) (wC (.int (0)))) (w2 fIx (wVar 2) (wC (.int (1))))))
  sNext)
 (sRet (w2 fLt (w2 fSub (w2 fTimes (w2 fIx (wVar 0) (wC (.int (0)))) (w2 fIx (wVar 1) (wC (.int (1))))) (w2 fTimes (w2 fIx (wVar 0) (wC (.int (1)))) (w2 fIx (wVar 1) (wC (.int (0)))))) (wC (.int (0)))))))
def sp__law_is_behind : DSp := fun ds μ Q Xd => ds.length = 2 ∧ w__law_is_behind (defE Q Xd) (startD N__law_is_behind ds) μ
theorem d__law_is_behind (A : Hd K mg) {cdv : Value} {A2 : Around} {fr : List Env} {s : Shared} {H : Hp} {E : XK} {f : Addr} (hr : Room 1 (A2.deeper (envOfC "_law_is_behind" (defScope (top 33)) s.heap.objs.size f cdv))) (hgd : (A2.deeper (envOfC "_law_is_behind" (defScope (top 33)) s.heap.objs.size f cdv)).guards = some []) :
    DSs none (fun cls d _ H2 => E cls d H2) (cxOf (L2.CX P w) P w K mg base N__law_is_behind "_law_is_behind" (defScope (top 33)) f cdv A2 fr s H E) (defBody (top 33)) w__law_is_behind := by
  have hN := (sc__law_is_behind).nd
  exact (dss_cons (ds_set (i := 2) hN rfl (de_tup (da_cons (de_callD A.ok__law_kind hr (by decide) hgd rfl (takes_of rfl rfl rfl rfl) (da_cons (dv 0) da_nil)) (da_cons (de_callD A.ok__law_kind hr (by decide) hgd rfl (takes_of rfl rfl rfl rfl) (da_cons (dv 1) da_nil)) da_nil))))
 (dss_cons (ds_if (dt_cmp (op_neU (have z := room64 hr; z)) s2_neU (de_item (dv 2) de_int) (de_item (dv 2) de_int) (nomark _)) (dss_one (ds_ret (de_cmp op_gt s2_IB (de_item (dv 2) de_int) (de_item (dv 2) de_int) (nomark _)))) dss_nil)
 (dss_one (ds_ret (de_cmp op_lt s2_IB (de_sub (de_times (de_item (dv 0) de_int) (de_item (dv 1) de_int)) (de_times (de_item (dv 0) de_int) (de_item (dv 1) de_int))) de_int (nomark _))))))
theorem Hd.ok__law_is_behind (A : Hd K mg) : CallD P w K mg base 2 "_law_is_behind" ["one", "other"] sp__law_is_behind := by
  obtain ⟨fd, F⟩ := A.c.def_ 24
  exact ⟨_, fd, A.g__law_is_behind, F.kp, F.bindsN fun _ _ _ _ _ _ us hl => match us, hl with | [_, _], _ => rfl, def_ok F sc__law_is_behind (fun ds μ Q Xd h => h.1) (fun cdv A2 fr s H E hr hgd => d__law_is_behind A hr hgd) fun ds μ Q Xd h => h.2⟩
/-! _law_same_way -/
abbrev N__law_same_way : List Str := ["one", "other"]
theorem sc__law_same_way : FnScope N__law_same_way ["one", "other"] (defScope (top 32)) := ⟨rfl, rfl, rfl, by decide +kernel, rfl, by decide +kernel, by decide +kernel⟩
def w__law_same_way : WS := (sRet (wAndV (w2 fEqU (w2 fTimes (w2 fIx (wVar 0) (wC (.int (0)))) (w2 fIx (wVar 1) (wC (.int (1))))) (w2 fTimes (w2 fIx (wVar 0) (wC (.int (1)))) (w2 fIx (wVar 1) (wC (.int (0)))))) (w2 fGt (w2 fPlus (w2 fTimes (w2 fIx (wVar 0) (wC (.int (0)))) (w2 fIx (wVar 1) (wC (.int (0))))) (w2 fTimes (w2 fIx (wVar 0) (wC (.int (1)))) (w2 fIx (wVar 1) (wC (.int (1)))))) (wC (.int (0))))))
def sp__law_same_way : DSp := fun ds μ Q Xd => ds.length = 2 ∧ w__law_same_way (defE Q Xd) (startD N__law_same_way ds) μ
theorem d__law_same_way (A : Hd K mg) {cdv : Value} {A2 : Around} {fr : List Env} {s : Shared} {H : Hp} {E : XK} {f : Addr} (hr : Room 0 (A2.deeper (envOfC "_law_same_way" (defScope (top 32)) s.heap.objs.size f cdv))) (hgd : (A2.deeper (envOfC "_law_same_way" (defScope (top 32)) s.heap.objs.size f cdv)).guards = some []) :
    DSs none (fun cls d _ H2 => E cls d H2) (cxOf (L2.CX P w) P w K mg base N__law_same_way "_law_same_way" (defScope (top 32)) f cdv A2 fr s H E) (defBody (top 32)) w__law_same_way := by
  have hN := (sc__law_same_way).nd
  exact (dss_one (ds_ret (de_and (de_cmp (op_eqU (have z := room64 hr; z)) s2_eqU (de_times (de_item (dv 0) de_int) (de_item (dv 1) de_int)) (de_times (de_item (dv 0) de_int) (de_item (dv 1) de_int)) (nomark _)) (de_one (de_cmp op_gt s2_IB (de_plus (de_times (de_item (dv 0) de_int) (de_item (dv 1) de_int)) (de_times (de_item (dv 0) de_int) (de_item (dv 1) de_int))) de_int (nomark _))))))
theorem Hd.ok__law_same_way (A : Hd K mg) : CallD P w K mg base 1 "_law_same_way" ["one", "other"] sp__law_same_way := by
  obtain ⟨fd, F⟩ := A.c.def_ 25
  exact ⟨_, fd, A.g__law_same_way, F.kp, F.bindsN fun _ _ _ _ _ _ us hl => match us, hl with | [_, _], _ => rfl, def_ok F sc__law_same_way (fun ds μ Q Xd h => h.1) (fun cdv A2 fr s H E hr hgd => d__law_same_way A hr hgd) fun ds μ Q Xd h => h.2⟩
/-! _law_in_order -/
abbrev N__law_in_order : List Str := ["ways", "found", "pairs", "way", "point", "k", "one"]
theorem sc__law_in_order : FnScope N__law_in_order ["ways", "found"] (defScope (top 34)) := ⟨rfl, rfl, rfl, by decide +kernel, rfl, by decide +kernel, by decide +kernel⟩
def w__law_in_order : WS := (sSeq (sSet 2 (wLc (wiL (wVar 1)) (kNameC 4) wYes (wMeth "Point" "pair" sp_Point_pair (wVar 4) wNil) [4]))
 (sSeq (sIf (wOr (wB (w2 fNeU (wLc (wiL (wVar 0)) (kNameC 3) (wB (w2 fNeU (wMb fCnt (wVar 0) (wVar 3)) (wMb fCnt (wVar 2) (wVar 3)))) (wC (.int (1))) [3]) (wLst wNil))) (wB (w2 fNeU (wN fLen (wCons (wVar 0) wNil)) (wN fLen (wCons (wVar 2) wNil)))))
  (sRet (wC (.bl false)))
  sNext)
 (sSeq (sIf (wB (w2 fNeU (wLc (wiR1 (wCons (w2 fSub (wN fLen (wCons (wVar 2) wNil)) (wC (.int (1)))) wNil)) (kNameC 5) (wB (wCall sp__law_is_behind (wCons (w2 fIx (wVar 2) (wVar 5)) (wCons (w2 fIx (wVar 2) (w2 fPlus (wVar 5) (wC (.int (1))))) wNil)))) (wVar 5) [5]) (wLst wNil)))
  (sRet (wC (.bl false)))
  sNext)
 (sSeq (sFor (wiL (wVar 0)) (kName 3)
  (sIf (wB (w2 fNeU (wLc (wiL (wVar 2)) (kNameC 6) (wB (wCall sp__law_same_way (wCons (wVar 6) (wCons (wVar 3) wNil)))) (wVar 6) [6]) (wLc (wiL (wVar 0)) (kNameC 6) (wB (wCall sp__law_same_way (wCons (wVar 6) (wCons (wVar 3) wNil)))) (wVar 6) [6])))
  (sRet (wC (.bl false)))
  sNext))
 (sRet (wC (.bl true)))))))
def sp__law_in_order : DSp := fun ds μ Q Xd => ds.length = 2 ∧ w__law_in_order (defE Q Xd) (startD N__law_in_order ds) μ
theorem d__law_in_order (A : Hd K mg) {cdv : Value} {A2 : Around} {fr : List Env} {s : Shared} {H : Hp} {E : XK} {f : Addr} (hr : Room 2 (A2.deeper (envOfC "_law_in_order" (defScope (top 34)) s.heap.objs.size f cdv))) (hgd : (A2.deeper (envOfC "_law_in_order" (defScope (top 34)) s.heap.objs.size f cdv)).guards = some []) :
    DSs none (fun cls d _ H2 => E cls d H2) (cxOf (L2.CX P w) P w K mg base N__law_in_order "_law_in_order" (defScope (top 34)) f cdv A2 fr s H E) (defBody (top 34)) w__law_in_order := by
  have hN := (sc__law_in_order).nd
  exact (dss_cons (ds_set (i := 2) hN rfl (de_lc rfl hN (di_list (dv 1)) (blkOk_by (own := [("point", 4)]) (by show blkC N__law_in_order (defScope (top 34)) _ _ = true; decide +kernel)) (lcg_name (by decide)) (fun _ _ _ _ _ => (pg_name hN rfl (by first | exact Or.inl rfl | exact Or.inr rfl) (by first | exact .inl rfl | exact .inr rfl))) (fun _ _ _ _ _ => dts_nil) (fun _ _ _ _ _ => (de_methD0 A.ok_Point_pair hr (by decide) hgd takes0 (dv 4)))))
 (dss_cons (ds_if (dt_w (dw_or (dt_cmp (op_neU (have z := room64 hr; z)) s2_neU (de_lc rfl hN (di_list (dv 0)) (blkOk_by (own := [("way", 3)]) (by show blkC N__law_in_order (defScope (top 34)) _ _ = true; decide +kernel)) (lcg_name (by decide)) (fun _ _ _ _ _ => (pg_name hN rfl (by first | exact Or.inl rfl | exact Or.inr rfl) (by first | exact .inl rfl | exact .inr rfl))) (fun _ _ _ _ _ => (dts_one (dt_cmp (op_neU (have z := room64 hr; z)) s2_neU (de_cnt (have z := room65 hr; z) (dv 0) (dv 3)) (de_cnt (have z := room65 hr; z) (dv 2) (dv 3)) (nomark _)))) (fun _ _ _ _ _ => de_int)) (de_lst da_nil) (nomark _)) (dw_or1 (dt_cmp (op_neU (have z := room64 hr; z)) s2_neU (de_callB call_len_seq sn_len rfl A.f_len bt_len (da_cons (dv 0) da_nil)) (de_callB call_len_seq sn_len rfl A.f_len bt_len (da_cons (dv 2) da_nil)) (nomark _))))) (dss_one (ds_ret de_bl)) dss_nil)
 (dss_cons (ds_if (dt_cmp (op_neU (have z := room64 hr; z)) s2_neU (de_lc rfl hN (di_range1 (by rfl) A.f_range (da_cons (de_sub (de_callB call_len_seq sn_len (by rfl) A.f_len bt_len (da_cons (dv 2) da_nil)) de_int) da_nil)) (blkOk_by (own := [("k", 5)]) (by show blkC N__law_in_order (defScope (top 34)) _ _ = true; decide +kernel)) (lcg_name (by decide)) (fun _ _ _ _ _ => (pg_name hN rfl (by first | exact Or.inl rfl | exact Or.inr rfl) (by first | exact .inl rfl | exact .inr rfl))) (fun _ _ _ _ _ => (dts_one (dt_val (de_callD A.ok__law_is_behind hr (by decide) hgd rfl takes0 (da_cons (de_item (dv 2) (dv 5)) (da_cons (de_item (dv 2) (de_plus (dv 5) de_int)) da_nil)))))) (fun _ _ _ _ _ => (dv 5))) (de_lst da_nil) (nomark _)) (dss_one (ds_ret de_bl)) dss_nil)
 (dss_cons (ds_for (passes_of rfl) rfl (di_list (dv 0)) (dg_name hN rfl) (dss_one (ds_if (dt_cmp (op_neU (have z := room64 hr; z)) s2_neU (de_lc rfl hN (di_list (dv 2)) (blkOk_by (own := [("one", 6)]) (by show blkC N__law_in_order (defScope (top 34)) _ _ = true; decide +kernel)) (lcg_name (by decide)) (fun _ _ _ _ _ => (pg_name hN rfl (by first | exact Or.inl rfl | exact Or.inr rfl) (by first | exact .inl rfl | exact .inr rfl))) (fun _ _ _ _ _ => (dts_one (dt_val (de_callD A.ok__law_same_way hr (by decide) hgd rfl takes0 (da_cons (dv 6) (da_cons (dv 3) da_nil)))))) (fun _ _ _ _ _ => (dv 6))) (de_lc rfl hN (di_list (dv 0)) (blkOk_by (own := [("one", 6)]) (by show blkC N__law_in_order (defScope (top 34)) _ _ = true; decide +kernel)) (lcg_name (by decide)) (fun _ _ _ _ _ => (pg_name hN rfl (by first | exact Or.inl rfl | exact Or.inr rfl) (by first | exact .inl rfl | exact .inr rfl))) (fun _ _ _ _ _ => (dts_one (dt_val (de_callD A.ok__law_same_way hr (by decide) hgd rfl takes0 (da_cons (dv 6) (da_cons (dv 3) da_nil)))))) (fun _ _ _ _ _ => (dv 6))) (nomark _)) (dss_one (ds_ret de_bl)) dss_nil)))
 (dss_one (ds_ret de_bl))))))
theorem Hd.ok__law_in_order (A : Hd K mg) : CallD P w K mg base 3 "_law_in_order" ["ways", "found"] sp__law_in_order := by
  obtain ⟨fd, F⟩ := A.c.def_ 26
  exact ⟨_, fd, A.g__law_in_order, F.kp, F.bindsN fun _ _ _ _ _ _ us hl => match us, hl with | [_, _], _ => rfl, def_ok F sc__law_in_order (fun ds μ Q Xd h => h.1) (fun cdv A2 fr s H E hr hgd => d__law_in_order A hr hgd) fun ds μ Q Xd h => h.2⟩
/-! law -/
abbrev N_law : List Str := ["script", "k", "pool", "ways", "way", "given", "odd", "short", "part", "due", "turn"]
theorem sc_law : FnScope N_law ["script"] (defScope (top 35)) := ⟨rfl, rfl, rfl, by decide +kernel, rfl, by decide +kernel, by decide +kernel⟩
def w_law : WS := (sSeq (sFor (wiR1 (wCons (wN fMax2 (wCons (wC (.int (1))) (wCons (wN fMin2 (wCons (wN fLen (wCons (wVar 0) wNil)) (wCons (wC (.int (8))) wNil))) wNil))) wNil)) (kName 1)
  (sSeq (sSet 2 (wCall sp__law_hand (wCons (wVar 0) (wCons (wVar 1) wNil))))
 (sSeq (sSet 3 (wLc (wiR1 (wCons (wCall sp__law_draw (wCons (wVar 2) (wCons (wC (.int (11))) wNil))) wNil)) (kNameC 10) wYes (wCall sp__law_direction (wCons (wVar 2) wNil)) [10]))
 (sSeq (sFor (wiL (wVar 3)) (kName 4)
  (sSeq (sIf (wOr (wB (w2 fNeU (wCall sp_kind_of (wCons (wVar 4) wNil)) (wCall sp__law_kind (wCons (wVar 4) wNil)))) (wB (w2 fNeU (wCall sp_kind_of (wCons (wMake "Point" sp_Point_init (wCons (w2 fIx (wVar 4) (wC (.int (0)))) (wCons (w2 fIx (wVar 4) (wC (.int (1)))) wNil))) wNil)) (wCall sp__law_kind (wCons (wVar 4) wNil)))))
  (sRet (wC (.bl false)))
  sNext)
 (sSeq (sSet 7 (wMeth "Point" "pair" sp_Point_pair (wCall sp_lowest (wCons (wVar 4) wNil)) wNil))
 (sSeq (sIf (wOr (wNot (wB (wCall sp__law_same_way (wCons (wVar 7) (wCons (wVar 4) wNil))))) (wB (w2 fNeU (wMeth "Point" "pair" sp_Point_pair (wCall sp_lowest (wCons (wVar 7) wNil)) wNil) (wVar 7))))
  (sRet (wC (.bl false)))
  sNext)
 (sSeq (sIf (wB (w2 fNeU (wMeth "Point" "pair" sp_Point_pair (wCall sp_lowest (wCons (wBinO "Point" ["tuple"] sp_Point_add (wMake "Point" sp_Point_init (wCons (wC (.int (0))) (wCons (wC (.int (0))) wNil))) (wVar 4)) wNil)) wNil) (wVar 7)))
  (sRet (wC (.bl false)))
  sNext)
 (sFor (wiR2 (wCons (wC (.int (2))) (wCons (wC (.int (9))) wNil))) (kName 8)
  (sIf (wAnd (wB (w2 fEqU (w2 fMod (w2 fIx (wVar 7) (wC (.int (0)))) (wVar 8)) (wC (.int (0))))) (wB (w2 fEqU (w2 fMod (w2 fIx (wVar 7) (wC (.int (1)))) (wVar 8)) (wC (.int (0))))))
  (sRet (wC (.bl false)))
  sNext)))))))
 (sSeq (sSet 5 (wN fListOf (wCons (wVar 3) wNil)))
 (sSeq (sIf (wOr (wNot (wB (wCall sp__law_in_order (wCons (wVar 3) (wCons (wCall sp_sorted_around (wCons (wVar 5) wNil)) wNil))))) (wB (w2 fNeU (wVar 5) (wVar 3))))
  (sRet (wC (.bl false)))
  sNext)
 (sFor (wiL (wLst (wCons (wTup (wCons (wC (.int (0))) (wCons (wC (.int (0))) wNil))) (wCons (wC .non) (wCons (wTup (wCons (wC (.int (1))) wNil)) (wCons (wTup (wCons (wC (.bl true)) (wCons (wC (.int (1))) wNil))) (wCons (wC (.str "x")) wNil))))))) (kName 6)
  (sSeq (sSet 9 (wTup (wCons (wIf (wB (w2 fEqU (wVar 6) (wTup (wCons (wC (.int (0))) (wCons (wC (.int (0))) wNil))))) (wC (.str "none")) (wC (.str "point"))) (wCons (wN fRepr (wCons (wVar 6) wNil)) wNil))))
 (sIf (wOr (wB (w2 fNeU (wCall sp__law_asked (wCons (wC (.int (0))) (wCons (wVar 6) wNil))) (wVar 9))) (wOr (wB (w2 fNeU (wCall sp__law_asked (wCons (wC (.int (1))) (wCons (wVar 6) wNil))) (wVar 9))) (wB (w2 fNeU (wCall sp__law_asked (wCons (wC (.int (2))) (wCons (w2 fPlus (wVar 3) (wLst (wCons (wVar 6) (wCons (wC .non) wNil)))) wNil))) (wVar 9)))))
  (sRet (wC (.bl false)))
  sNext)))))))))
 (sRet (wC (.bl true))))
def sp_law : DSp := fun ds μ Q Xd => ds.length = 1 ∧ w_law (defE Q Xd) (startD N_law ds) μ
theorem d_law (A : Hd K mg) {cdv : Value} {A2 : Around} {fr : List Env} {s : Shared} {H : Hp} {E : XK} {f : Addr} (hr : Room 7 (A2.deeper (envOfC "law" (defScope (top 35)) s.heap.objs.size f cdv))) (hgd : (A2.deeper (envOfC "law" (defScope (top 35)) s.heap.objs.size f cdv)).guards = some []) :
    DSs none (fun cls d _ H2 => E cls d H2) (cxOf (L2.CX P w) P w K mg base N_law "law" (defScope (top 35)) f cdv A2 fr s H E) (defBody (top 35)) w_law := by
  have hN := (sc_law).nd
  exact (dss_cons (ds_for (passes_of rfl) rfl (di_range1 (by rfl) A.f_range (da_cons (de_callB (call_max2 (by rfl)) sn_max2 (by rfl) A.f_max bt_max (da_cons de_int (da_cons (de_callB (call_min2 (by rfl)) sn_min2 (by rfl) A.f_min bt_min (da_cons (de_callB call_len_seq sn_len (by rfl) A.f_len bt_len (da_cons (dv 0) da_nil)) (da_cons de_int da_nil))) da_nil))) da_nil)) (dg_name hN rfl) (dss_cons (ds_set (i := 2) hN rfl (de_callD A.ok__law_hand hr (by decide) hgd rfl (takes_of rfl rfl rfl rfl) (da_cons (dv 0) (da_cons (dv 1) da_nil))))
 (dss_cons (ds_setLc (i := 3) rfl hN rfl rfl (di_range1 (by rfl) A.f_range (da_cons (de_callD A.ok__law_draw hr (by decide) hgd (by rfl) (takes_of (by rfl) (by rfl) (by rfl) (by rfl)) (da_cons (dv 2) (da_cons de_int da_nil))) da_nil)) (blkOk_by (own := [("turn", 10)]) (by show blkC N_law (defScope (top 35)) _ _ = true; decide +kernel)) (lcg_name (by decide)) (fun _ _ _ _ _ => (pg_name hN rfl (by first | exact Or.inl rfl | exact Or.inr rfl) (by first | exact .inl rfl | exact .inr rfl))) (fun _ _ _ _ _ => dts_nil) (fun _ _ _ _ _ => (de_callD A.ok__law_direction hr (by decide) hgd rfl takes0 (da_cons (dv 2) da_nil))))
 (dss_cons (ds_for (passes_of rfl) rfl (di_list (dv 3)) (dg_name hN rfl) (dss_cons (ds_if (dt_w (dw_or (dt_cmp (op_neU (have z := room64 hr; z)) s2_neU (de_callD A.ok_kind_of hr (by decide) hgd rfl (takes_of rfl rfl rfl rfl) (da_cons (dv 4) da_nil)) (de_callD A.ok__law_kind hr (by decide) hgd rfl (takes_of rfl rfl rfl rfl) (da_cons (dv 4) da_nil)) (nomark _)) (dw_or1 (dt_cmp (op_neU (have z := room64 hr; z)) s2_neU (de_callD A.ok_kind_of hr (by decide) hgd rfl (takes_of rfl rfl rfl rfl) (da_cons (de_makeD A.ok_Point_init hr (by decide) hgd rfl (takes_of rfl rfl rfl rfl) (da_cons (de_item (dv 4) de_int) (da_cons (de_item (dv 4) de_int) da_nil))) da_nil)) (de_callD A.ok__law_kind hr (by decide) hgd rfl (takes_of rfl rfl rfl rfl) (da_cons (dv 4) da_nil)) (nomark _))))) (dss_one (ds_ret de_bl)) dss_nil)
 (dss_cons (ds_set (i := 7) hN rfl (de_methD0 A.ok_Point_pair hr (by decide) hgd (takes_of rfl rfl rfl rfl) (de_callD A.ok_lowest hr (by decide) hgd rfl (takes_of rfl rfl rfl rfl) (da_cons (dv 4) da_nil))))
 (dss_cons (ds_if (dt_w (dw_or (dt_not (dt_val (de_callD A.ok__law_same_way hr (by decide) hgd rfl (takes_of rfl rfl rfl rfl) (da_cons (dv 7) (da_cons (dv 4) da_nil))))) (dw_or1 (dt_cmp (op_neU (have z := room64 hr; z)) s2_neU (de_methD0 A.ok_Point_pair hr (by decide) hgd (takes_of rfl rfl rfl rfl) (de_callD A.ok_lowest hr (by decide) hgd rfl (takes_of rfl rfl rfl rfl) (da_cons (dv 7) da_nil))) (dv 7) (nomark _))))) (dss_one (ds_ret de_bl)) dss_nil)
 (dss_cons (ds_if (dt_cmp (op_neU (have z := room64 hr; z)) s2_neU (de_methD0 A.ok_Point_pair hr (by decide) hgd (takes_of rfl rfl rfl rfl) (de_callD A.ok_lowest hr (by decide) hgd rfl (takes_of rfl rfl rfl rfl) (da_cons (de_operD A.ok_Point_add hr (by decide) hgd (takes_of rfl rfl rfl rfl) (de_makeD A.ok_Point_init hr (by decide) hgd rfl (takes_of rfl rfl rfl rfl) (da_cons de_int (da_cons de_int da_nil))) (dv 4)) da_nil))) (dv 7) (nomark _)) (dss_one (ds_ret de_bl)) dss_nil)
 (dss_one (ds_for (passes_of rfl) rfl (di_range2 (by rfl) A.f_range (da_cons de_int (da_cons de_int da_nil))) (dg_name hN rfl) (dss_one (ds_if (dt_w (dw_and (dt_cmp (op_eqU (have z := room64 hr; z)) s2_eqU (de_mod (de_item (dv 7) de_int) (dv 8)) de_int (nomark _)) (dw_and1 (dt_cmp (op_eqU (have z := room64 hr; z)) s2_eqU (de_mod (de_item (dv 7) de_int) (dv 8)) de_int (nomark _))))) (dss_one (ds_ret de_bl)) dss_nil)))))))))
 (dss_cons (ds_set (i := 5) hN rfl (de_callTy call_list_of sn_listOf rfl A.f_list bt_list (da_cons (dv 3) da_nil)))
 (dss_cons (ds_if (dt_w (dw_or (dt_not (dt_val (de_callD A.ok__law_in_order hr (by decide) hgd rfl (takes_of rfl rfl rfl rfl) (da_cons (dv 3) (da_cons (de_callD A.ok_sorted_around hr (by decide) hgd rfl (takes_of rfl rfl rfl rfl) (da_cons (dv 5) da_nil)) da_nil))))) (dw_or1 (dt_cmp (op_neU (have z := room64 hr; z)) s2_neU (dv 5) (dv 3) (nomark _))))) (dss_one (ds_ret de_bl)) dss_nil)
 (dss_one (ds_for (passes_of rfl) rfl (di_list (de_lst (da_cons (de_tup (da_cons de_int (da_cons de_int da_nil))) (da_cons de_non (da_cons (de_tup (da_cons de_int da_nil)) (da_cons (de_tup (da_cons de_bl (da_cons de_int da_nil))) (da_cons de_str da_nil))))))) (dg_name hN rfl) (dss_cons (ds_set (i := 9) hN rfl (de_tup (da_cons (de_if (dt_cmp (op_eqU (have z := room64 hr; z)) s2_eqU (dv 6) (de_tup (da_cons de_int (da_cons de_int da_nil))) (nomark _)) de_str de_str) (da_cons (de_callB (call_reprD hgd (have z := room64 hr; z)) sn_repr rfl A.f_repr bt_repr (da_cons (dv 6) da_nil)) da_nil))))
 (dss_one (ds_if (dt_w (dw_or (dt_cmp (op_neU (have z := room64 hr; z)) s2_neU (de_callD A.ok__law_asked hr (by decide) hgd rfl (takes_of rfl rfl rfl rfl) (da_cons de_int (da_cons (dv 6) da_nil))) (dv 9) (nomark _)) (dw_or (dt_cmp (op_neU (have z := room64 hr; z)) s2_neU (de_callD A.ok__law_asked hr (by decide) hgd rfl (takes_of rfl rfl rfl rfl) (da_cons de_int (da_cons (dv 6) da_nil))) (dv 9) (nomark _)) (dw_or1 (dt_cmp (op_neU (have z := room64 hr; z)) s2_neU (de_callD A.ok__law_asked hr (by decide) hgd rfl (takes_of rfl rfl rfl rfl) (da_cons de_int (da_cons (de_plus (dv 3) (de_lst (da_cons (dv 6) (da_cons de_non da_nil)))) da_nil))) (dv 9) (nomark _)))))) (dss_one (ds_ret de_bl)) dss_nil)))))))))))
 (dss_one (ds_ret de_bl)))
end
theorem isi_0 : isiF isiL (.b "int") (.b "int") = some true := by decide +kernel
theorem isi_1 : isiF isiL (.b "bool") (.b "int") = some true := by decide +kernel
theorem isi_2 : isiF isiL (.b "str") (.b "int") = some false := by decide +kernel
theorem isi_3 : isiF isiL (.b "NoneType") (.b "int") = some false := by decide +kernel
theorem isi_4 : isiF isiL (.b "tuple") (.b "int") = some false := by decide +kernel
theorem isi_5 : isiF isiL (.b "list") (.b "int") = some false := by decide +kernel
theorem isi_6 : isiF isiL (.c "Point") (.b "int") = some false := by decide +kernel
theorem isi_7 : isiF isiL (.b "int") (.b "bool") = some false := by decide +kernel
theorem isi_8 : isiF isiL (.b "bool") (.b "bool") = some true := by decide +kernel
theorem isi_9 : isiF isiL (.b "str") (.b "bool") = some false := by decide +kernel
theorem isi_10 : isiF isiL (.b "NoneType") (.b "bool") = some false := by decide +kernel
theorem isi_11 : isiF isiL (.b "tuple") (.b "bool") = some false := by decide +kernel
theorem isi_12 : isiF isiL (.b "list") (.b "bool") = some false := by decide +kernel
theorem isi_13 : isiF isiL (.c "Point") (.b "bool") = some false := by decide +kernel
theorem isi_14 : isiF isiL (.b "int") (.c "Point") = some false := by decide +kernel
theorem isi_15 : isiF isiL (.b "bool") (.c "Point") = some false := by decide +kernel
theorem isi_16 : isiF isiL (.b "str") (.c "Point") = some false := by decide +kernel
theorem isi_17 : isiF isiL (.b "NoneType") (.c "Point") = some false := by decide +kernel
theorem isi_18 : isiF isiL (.b "tuple") (.c "Point") = some false := by decide +kernel
theorem isi_19 : isiF isiL (.b "list") (.c "Point") = some false := by decide +kernel
theorem isi_20 : isiF isiL (.c "Point") (.c "Point") = some true := by decide +kernel
theorem isi_21 : isiF isiL (.b "int") (.b "tuple") = some false := by decide +kernel
theorem isi_22 : isiF isiL (.b "bool") (.b "tuple") = some false := by decide +kernel
theorem isi_23 : isiF isiL (.b "str") (.b "tuple") = some false := by decide +kernel
theorem isi_24 : isiF isiL (.b "NoneType") (.b "tuple") = some false := by decide +kernel
theorem isi_25 : isiF isiL (.b "tuple") (.b "tuple") = some true := by decide +kernel
theorem isi_26 : isiF isiL (.b "list") (.b "tuple") = some false := by decide +kernel
theorem isi_27 : isiF isiL (.c "Point") (.b "tuple") = some false := by decide +kernel
theorem isi_28 : catF catL_FillError (Str.ofString "InvalidPoint") = some true := by decide +kernel
theorem isi_29 : catF catL_FillError (Str.ofString "NoDirection") = some true := by decide +kernel
theorem isi_30 : isxF isxL (.c (Str.ofString "InvalidPoint")) (.c (Str.ofString "InvalidPoint")) = some true := by decide +kernel
theorem isi_31 : isxF isxL (.c (Str.ofString "InvalidPoint")) (.c (Str.ofString "NoDirection")) = some false := by decide +kernel
theorem isi_32 : isxF isxL (.c (Str.ofString "NoDirection")) (.c (Str.ofString "InvalidPoint")) = some false := by decide +kernel
theorem isi_33 : isxF isxL (.c (Str.ofString "NoDirection")) (.c (Str.ofString "NoDirection")) = some true := by decide +kernel
end K02

set_option Elab.async false
set_option linter.all false
set_option maxRecDepth 100000
set_option maxHeartbeats 4000000
set_option autoImplicit false
set_option exponentiation.threshold 3000
namespace K02
open PySem PySem.Spec PyProof.Rows L2 DL
local macro_rules
  | `(tactic| walk_at "dk") => `(tactic| try simp only [g_gen, r_newD, r_put0, r_kw, r_kw1, r_kw2, r_kw0, r_kw00, c_wi, c_en, c_en1, c_for, c_for1, c_lc, c_lc1, c_lof, c_lof1, c_ap, c_ap1, c_ap2, y_p2, y_p21, y_oo, y_fo, y_foq, y_of, y_of2, c_si, c_si1, c_si2, c_si3, c_lu1, c_lu2, c_lu3, z_fl, z_fl1, z_fl2, z_ps, z_ps1, z_ps2, z_ps3, z_eqT, z_cat, z_cat1, z_cat2, y_pop, y_pop1, y_pop2, y_lcC, y_lcR, y_callR, y_cell, y_rem, y_rem1, y_rem2, x_subO, x_subO1, x_subO2, v_slo, v_slo1, w_ff, w_ft, w_tf, w_tt, false_and, and_false, v_ix, v_ix1, v_ix2, v_inv, v_inv1, v_co, v_co1, v_co2, v_len, v_len1, isiD, tyD, clD, r_insobj, fldOf, DL.isNon, items_tup, items_lst, items_frl, hasCls, othTy, insD, DL.putK, DL.putD, initEnd, startI, startD, DL.wipeD, List.map_cons, List.map_nil, List.length_cons, List.length_nil, List.getElem?_cons_zero, List.getElem?_cons_succ, List.getElem?_nil, List.set_cons_zero, List.set_cons_succ, List.cons_append, List.nil_append, List.append_nil, List.replicate, Nat.sub_self, Nat.reduceSub, Nat.reduceAdd, Nat.reduceLeDiff, Nat.reduceEqDiff, Nat.reduceLT, Int.reduceLT, Int.reduceLE, if_true, if_false, Bool.not_true, Bool.not_false, reduceIte, reduceCtorEq, true_and, and_true, Nat.zero_add, Bool.true_eq_false, Bool.false_eq_true, eqU_int, eqU_str, eqU_bl, str_eq, str_beq, String.reduceEq, decide_true, decide_false, decide_eq_true_eq, pl_items, pl_st0, pl_st1, pl_fold, notOwn, List.mem_singleton, List.mem_cons, List.not_mem_nil, or_false, false_or, or_true, true_or, forall_eq, forall_eq_or_imp, implies_true, Int.reduceToNat, Int.reduceEq, Int.reduceNe, Int.reduceAdd, Int.reduceSub, Int.reduceMul, Int.reducePow, Int.reduceMod, Int.reduceDiv, atI_0, atI_1, atI_2, atI_3, rg1, rg2, startI, r_var, r_var2, r_c, r_w2, r_w2a, r_w2b, r_w1, r_w1a, r_wB, r_wBa, r_ch, r_ch1, r_ch2, r_ch3t, r_ch3f, r_and, r_andt, r_andf, r_or, r_ort, r_orf, r_not, r_nota, r_ife, r_ifet, r_ifef, r_andv, r_andvt, r_andvf, r_orv, r_orvt, r_orvf, r_notv, r_notva, r_nil, r_cons, r_cons1, r_cons2, r_tup, r_tupa, r_lst, r_lsta, r_lstc, r_lstca, r_wn, r_wna, r_call, r_calla, r_mk, r_mk1, r_mk2, r_mkc, r_mkc1, r_mkc2, r_me, r_me1, r_me2, r_bo, r_bo1, r_bo2, r_onone, r_osome, r_osomea, r_sl, r_sl1, r_sl2, r_sl3, r_sl3f, r_ii, r_ii0, r_ib, r_i1, r_plus, r_plusl, r_times, r_timesl, r_isn, r_notn, r_isb, r_notb, r_pm, r_pm1, DL.perm, z_neT, z_catT, r_eqd, r_ned, r_int1, r_int1b, r_max2, r_min2, r_abs, r_ix, r_ix2, r_ix3, r_len, r_len2, r_isi, r_isi2, r_fld, r_fld2, r_fld3, r_insobj, r_kx, r_next, r_never, r_seq, r_seqa, r_if, r_ift, r_iff, r_ret, r_retn, r_brk, r_cnt, r_drop, r_dropa, r_set, r_seta, r_asg, r_asga, r_name, r_namec, r_ktup, r_kunl, r_kcons, r_kcs, r_knil, r_par2, r_par2a, r_par3, r_par3a, r_aug, r_auga, r_augb, r_augc, r_for, r_fora, r_knx, r_fldo, r_fldoa, r_put, r_frz, r_frz2, r_frz3, r_frz4, r_cl, r_seto, r_setoa, r_wil, r_wila, r_wilf, r_wit, r_wita, r_wi1, r_wi1a, r_wi2, r_wi2a, r_wie, r_wiea, r_wiz, r_wiza, r_wizt, r_lc, r_lc0, r_lcn, r_lcc, r_lc1, r_lc2t, r_lc2f, r_lc3, r_yes, r_sub, r_sub1, r_sub2, r_sub3, r_dnx, r_drt, r_dxc, r_inx, r_init, r_ixc, t_raise, t_raise2, t_try, t_cat, t_catt, t_catf, t_sunx, t_surt, t_nx0, t_nx1, t_nx2, t_nx3, t_prop, t_prop2, t_xf, t_xf2, t_isx, t_isx2, t_wht, t_whf, t_equ, t_neu, t_el, List.reverse_cons, List.reverse_nil, isiDT, anyT, List.all_cons, List.all_nil, Option.isSome_some, Bool.and_true, Bool.true_and, u_lof, u_lof2, u_tof, u_tof2, u_isiT, u_dict, u_bl, u_ownN, u_has, u_hasN, u_bk, u_bk1, u_bk2, u_stat, u_ap, u_ap1, u_ap2, u_ex, u_ex1, u_ex2, u_ownL, u_olen, u_oix, u_oix1, u_oin, u_sumT, u_sumL, u_mu, u_mu1, u_hot, u_hot1, startX, u_mb, u_mb1, u_mb1f, u_mb2, u_rev, u_revf, u_wio, u_wex, u_wel, u_wef, u_wet, u_en, u_en0, u_enc, u_enn, Int.cast_ofNat_Int, u_wzx, u_wzl, u_wzt, u_wzm, u_zd, u_zd0, intsD, DL.intD, u_kd, isTy, Bool.true_xor, Bool.false_xor, eqU_pl, p_int, p_bl, p_non, p_tup, p_lst, p_frl, p0_int, p0_bl, p0_non, deq, deqs, Bool.and_true, Bool.and_false, Bool.false_and, List.contains_cons, List.contains_nil, Bool.or_false, Bool.false_or, Bool.or_self, eq_self, beq_self_eq_true, Bool.not_true, Bool.not_false, List.flatten_cons, List.flatten_nil, isi_0, isi_1, isi_2, isi_3, isi_4, isi_5, isi_6, isi_7, isi_8, isi_9, isi_10, isi_11, isi_12, isi_13, isi_14, isi_15, isi_16, isi_17, isi_18, isi_19, isi_20, isi_21, isi_22, isi_23, isi_24, isi_25, isi_26, isi_27, isi_28, isi_29, isi_30, isi_31, isi_32, isi_33])
local macro_rules
  | `(tactic| walk_at "ds") => `(tactic| try simp only [g_gen, r_newD, r_put0, r_kw, r_kw1, r_kw2, r_kw0, r_kw00, c_wi, c_en, c_en1, c_for, c_for1, c_lc, c_lc1, c_lof, c_lof1, c_ap, c_ap1, c_ap2, y_p2, y_p21, y_oo, y_fo, y_foq, y_of, y_of2, c_si, c_si1, c_si2, c_si3, c_lu1, c_lu2, c_lu3, z_fl, z_fl1, z_fl2, z_ps, z_ps1, z_ps2, z_ps3, z_eqT, z_cat, z_cat1, z_cat2, y_pop, y_pop1, y_pop2, y_lcC, y_lcR, y_callR, y_cell, y_rem, y_rem1, y_rem2, x_subO, x_subO1, x_subO2, v_slo, v_slo1, w_ff, w_ft, w_tf, w_tt, false_and, and_false, isClsU, v_ix, v_ix1, v_ix2, v_inv, v_inv1, v_co, v_co1, v_co2, v_len, v_len1, v_f2or, isiD, tyD, clD, r_insobj, fldOf, DL.isNon, items_tup, items_lst, items_frl, hasCls, isCls, othTy, insD, DL.putK, DL.putD, initEnd, startI, startD, DL.wipeD, List.map_cons, List.map_nil, List.length_cons, List.length_nil, List.getElem?_cons_zero, List.getElem?_cons_succ, List.getElem?_nil, List.set_cons_zero, List.set_cons_succ, List.cons_append, List.nil_append, List.append_nil, List.replicate, Nat.sub_self, Nat.reduceSub, Nat.reduceAdd, Nat.reduceLeDiff, Nat.reduceEqDiff, Nat.reduceLT, Int.reduceLT, Int.reduceLE, if_true, if_false, Bool.not_true, Bool.not_false, reduceIte, reduceCtorEq, true_and, and_true, Nat.zero_add, Bool.true_eq_false, Bool.false_eq_true, eqU_int, eqU_str, eqU_bl, str_eq, str_beq, String.reduceEq, decide_true, decide_false, decide_eq_true_eq, pl_items, pl_st0, pl_st1, pl_fold, notOwn, List.mem_singleton, List.mem_cons, List.not_mem_nil, or_false, false_or, or_true, true_or, forall_eq, forall_eq_or_imp, implies_true, Int.reduceToNat, Int.reduceEq, Int.reduceNe, Int.reduceAdd, Int.reduceSub, Int.reduceMul, Int.reducePow, Int.reduceMod, Int.reduceDiv, atI_0, atI_1, atI_2, atI_3, rg1, rg2, startI, r_var, r_var2, r_c, r_w2, r_w2a, r_w2b, r_w1, r_w1a, r_wB, r_wBa, r_ch, r_ch1, r_ch2, r_ch3t, r_ch3f, r_and, r_andt, r_andf, r_or, r_ort, r_orf, r_not, r_nota, r_ife, r_ifet, r_ifef, r_andv, r_andvt, r_andvf, r_orv, r_orvt, r_orvf, r_notv, r_notva, r_nil, r_cons, r_cons1, r_cons2, r_tup, r_tupa, r_lst, r_lsta, r_lstc, r_lstca, r_wn, r_wna, r_call, r_calla, r_mk, r_mk1, r_mk2, r_mkc, r_mkc1, r_mkc2, r_me, r_me1, r_me2, r_bo, r_bo1, r_bo2, r_onone, r_osome, r_osomea, r_sl, r_sl1, r_sl2, r_sl3, r_sl3f, r_ii, r_ii0, r_ib, r_i1, r_plus, r_plusl, r_times, r_timesl, r_isn, r_notn, r_isb, r_notb, r_pm, r_pm1, DL.perm, z_neT, z_catT, r_eqd, r_ned, r_int1, r_int1b, r_max2, r_min2, r_abs, r_ix, r_ix2, r_ix3, r_len, r_len2, r_isi, r_isi2, r_fld, r_fld2, r_fld3, r_insobj, r_kx, r_next, r_never, r_seqa, r_if, r_ift, r_iff, r_ret, r_retn, r_brk, r_cnt, r_drop, r_dropa, r_set, r_seta, r_asg, r_asga, r_name, r_namec, r_ktup, r_kunl, r_kcons, r_kcs, r_knil, r_par2, r_par2a, r_par3, r_par3a, r_aug, r_auga, r_augb, r_augc, r_for, r_fora, r_knx, r_fldo, r_fldoa, r_put, r_frz, r_frz2, r_frz3, r_frz4, r_cl, r_seto, r_setoa, r_wil, r_wila, r_wilf, r_wit, r_wita, r_wi1, r_wi1a, r_wi2, r_wi2a, r_wie, r_wiea, r_wiz, r_wiza, r_wizt, r_lc, r_lc0, r_lcn, r_lcc, r_lc1, r_lc2t, r_lc2f, r_lc3, r_yes, r_sub, r_sub1, r_sub2, r_sub3, r_dnx, r_drt, r_dxc, r_inx, r_init, r_ixc, t_raise, t_raise2, t_try, t_cat, t_catt, t_catf, t_sunx, t_surt, t_nx0, t_nx1, t_nx2, t_nx3, t_prop, t_prop2, t_xf, t_xf2, t_isx, t_isx2, t_wht, t_whf, t_equ, t_neu, t_el, List.reverse_cons, List.reverse_nil, isiDT, anyT, List.all_cons, List.all_nil, Option.isSome_some, Bool.and_true, Bool.true_and, u_lof, u_lof2, u_tof, u_tof2, u_isiT, u_dict, u_bl, u_own, u_ownN, u_has, u_hasN, u_bk, u_bk1, u_bk2, u_stat, u_ap, u_ap1, u_ap2, u_ex, u_ex1, u_ex2, u_ownL, u_olen, u_oix, u_oix1, u_oin, u_sumT, u_sumL, u_mu, u_mu1, u_hot, u_hot1, startX, u_mb, u_mb1, u_mb1f, u_mb2, u_rev, u_revf, u_wio, u_wex, u_wel, u_wef, u_wet, u_en, u_en0, u_enc, u_enn, Int.cast_ofNat_Int, u_wzx, u_wzl, u_wzt, u_wzm, u_zd, u_zd0, intsD, DL.intD, u_kd, othC, isTy, Bool.true_xor, Bool.false_xor, eqU_pl, p_int, p_bl, p_non, p_tup, p_lst, p_frl, p0_int, p0_bl, p0_non, deq, deqs, Bool.and_true, Bool.and_false, Bool.false_and, List.contains_cons, List.contains_nil, Bool.or_false, Bool.false_or, Bool.or_self, eq_self, beq_self_eq_true, Bool.not_true, Bool.not_false, List.flatten_cons, List.flatten_nil, isi_0, isi_1, isi_2, isi_3, isi_4, isi_5, isi_6, isi_7, isi_8, isi_9, isi_10, isi_11, isi_12, isi_13, isi_14, isi_15, isi_16, isi_17, isi_18, isi_19, isi_20, isi_21, isi_22, isi_23, isi_24, isi_25, isi_26, isi_27, isi_28, isi_29, isi_30, isi_31, isi_32, isi_33])
local macro_rules
  | `(tactic| walk_at "dn") => `(tactic| try simp only [g_gen, r_newD, r_put0, r_kw, r_kw1, r_kw2, r_kw0, r_kw00, c_wi, c_en, c_en1, c_for, c_for1, c_lc, c_lc1, c_lof, c_lof1, c_ap, c_ap1, c_ap2, y_p2, y_p21, y_oo, y_fo, y_foq, y_of, y_of2, c_si, c_si1, c_si2, c_si3, c_lu1, c_lu2, c_lu3, z_fl, z_fl1, z_fl2, z_ps, z_ps1, z_ps2, z_ps3, z_eqT, z_cat, z_cat1, z_cat2, y_pop, y_pop1, y_pop2, y_lcC, y_lcR, y_callR, y_cell, y_rem, y_rem1, y_rem2, x_subO, x_subO1, x_subO2, v_slo, v_slo1, w_ff, w_ft, w_tf, w_tt, false_and, and_false, isClsU, v_ix, v_ix1, v_ix2, v_inv, v_inv1, v_co, v_co1, v_co2, v_len, v_len1, v_f2or, isiD, tyD, clD, r_insobj, fldOf, DL.isNon, items_tup, items_lst, items_frl, hasCls, isCls, othTy, insD, DL.putK, DL.putD, initEnd, startI, startD, DL.wipeD, List.map_cons, List.map_nil, List.length_cons, List.length_nil, List.getElem?_cons_zero, List.getElem?_cons_succ, List.getElem?_nil, List.set_cons_zero, List.set_cons_succ, List.cons_append, List.nil_append, List.append_nil, List.replicate, Nat.sub_self, Nat.reduceSub, Nat.reduceAdd, Nat.reduceLeDiff, Nat.reduceEqDiff, Nat.reduceLT, Int.reduceLT, Int.reduceLE, if_true, if_false, Bool.not_true, Bool.not_false, reduceIte, reduceCtorEq, true_and, and_true, Nat.zero_add, Bool.true_eq_false, Bool.false_eq_true, eqU_int, eqU_str, eqU_bl, str_eq, str_beq, String.reduceEq, decide_true, decide_false, decide_eq_true_eq, pl_items, pl_st0, pl_st1, pl_fold, notOwn, List.mem_singleton, List.mem_cons, List.not_mem_nil, or_false, false_or, or_true, true_or, forall_eq, forall_eq_or_imp, implies_true, Int.reduceToNat, Int.reduceEq, Int.reduceNe, Int.reduceAdd, Int.reduceSub, Int.reduceMul, Int.reducePow, Int.reduceMod, Int.reduceDiv, atI_0, atI_1, atI_2, atI_3, rg1, rg2, startI, r_var, r_var2, r_c, r_w2, r_w2a, r_w2b, r_w1, r_w1a, r_wB, r_wBa, r_ch, r_ch1, r_ch2, r_ch3t, r_ch3f, r_and, r_andt, r_andf, r_or, r_ort, r_orf, r_not, r_nota, r_ife, r_ifet, r_ifef, r_andv, r_andvt, r_andvf, r_orv, r_orvt, r_orvf, r_notv, r_notva, r_nil, r_cons, r_cons1, r_cons2, r_tup, r_tupa, r_lst, r_lsta, r_lstc, r_lstca, r_wn, r_wna, r_call, r_calla, r_mk, r_mk1, r_mk2, r_mkc, r_mkc1, r_mkc2, r_me, r_me1, r_me2, r_bo, r_bo1, r_bo2, r_onone, r_osome, r_osomea, r_sl, r_sl1, r_sl2, r_sl3, r_sl3f, r_ii, r_ii0, r_ib, r_i1, r_plus, r_plusl, r_times, r_timesl, r_isn, r_notn, r_isb, r_notb, r_pm, r_pm1, DL.perm, z_neT, z_catT, r_eqd, r_ned, r_int1, r_int1b, r_max2, r_min2, r_abs, r_ix, r_ix2, r_ix3, r_len, r_len2, r_isi, r_isi2, r_fld, r_fld2, r_fld3, r_insobj, r_kx, r_next, r_never, r_seq, r_seqa, r_if, r_ift, r_iff, r_ret, r_retn, r_brk, r_cnt, r_drop, r_dropa, r_set, r_seta, r_asg, r_asga, r_name, r_namec, r_ktup, r_kunl, r_kcons, r_kcs, r_knil, r_par2, r_par2a, r_par3, r_par3a, r_aug, r_auga, r_augb, r_augc, r_for, r_fora, r_knx, r_fldo, r_fldoa, r_put, r_frz, r_frz2, r_frz3, r_frz4, r_cl, r_seto, r_setoa, r_wil, r_wila, r_wilf, r_wit, r_wita, r_wi1, r_wi1a, r_wi2, r_wi2a, r_wie, r_wiea, r_wiz, r_wiza, r_wizt, r_lc, r_lc0, r_lcn, r_lcc, r_lc1, r_lc2t, r_lc2f, r_lc3, r_yes, r_sub, r_sub1, r_sub2, r_sub3, r_dnx, r_drt, r_dxc, r_inx, r_init, r_ixc, t_raise, t_raise2, t_try, t_cat, t_catt, t_catf, t_sunx, t_surt, t_nx0, t_nx1, t_nx2, t_nx3, t_prop, t_prop2, t_xf, t_xf2, t_isx, t_isx2, t_wht, t_whf, t_equ, t_neu, t_el, List.reverse_cons, List.reverse_nil, isiDT, anyT, List.all_cons, List.all_nil, Option.isSome_some, Bool.and_true, Bool.true_and, u_lof, u_lof2, u_tof, u_tof2, u_isiT, u_dict, u_bl, u_own, u_ownN, u_has, u_hasN, u_bk, u_bk1, u_bk2, u_stat, u_ap, u_ap1, u_ap2, u_ex, u_ex1, u_ex2, u_ownL, u_olen, u_oix, u_oix1, u_oin, u_sumT, u_sumL, u_mu, u_mu1, u_hot, u_hot1, startX, u_mb, u_mb1, u_mb1f, u_mb2, u_rev, u_revf, u_wio, u_wex, u_wel, u_wef, u_wet, u_en, u_en0, u_enc, u_enn, Int.cast_ofNat_Int, u_wzx, u_wzl, u_wzt, u_wzm, u_zd, u_zd0, intsD, DL.intD, u_kd, othC, isTy, Bool.true_xor, Bool.false_xor, eqU_pl, p_int, p_bl, p_non, p_tup, p_lst, p_frl, p0_int, p0_bl, p0_non, deq, deqs, Bool.and_true, Bool.and_false, Bool.false_and, List.contains_cons, List.contains_nil, Bool.or_false, Bool.false_or, Bool.or_self, eq_self, beq_self_eq_true, Bool.not_true, Bool.not_false, List.flatten_cons, List.flatten_nil, isi_0, isi_1, isi_2, isi_3, isi_4, isi_5, isi_6, isi_7, isi_8, isi_9, isi_10, isi_11, isi_12, isi_13, isi_14, isi_15, isi_16, isi_17, isi_18, isi_19, isi_20, isi_21, isi_22, isi_23, isi_24, isi_25, isi_26, isi_27, isi_28, isi_29, isi_30, isi_31, isi_32, isi_33])
local macro_rules
  | `(tactic| walk_at "dl1") => `(tactic| simp only [g_gen, r_newD, r_put0, r_kw, r_kw1, r_kw2, r_kw0, r_kw00, c_wi, c_en, c_en1, c_for, c_for1, c_lc, c_lc1, c_lof, c_lof1, c_ap, c_ap1, c_ap2, y_p2, y_p21, y_oo, y_fo, y_foq, y_of, y_of2, c_si, c_si1, c_si2, c_si3, c_lu1, c_lu2, c_lu3, z_fl, z_fl1, z_fl2, z_ps, z_ps1, z_ps2, z_ps3, z_eqT, z_cat, z_cat1, z_cat2, y_pop, y_pop1, y_pop2, y_lcC, y_lcR, y_callR, y_cell, y_rem, y_rem1, y_rem2, x_subO, x_subO1, x_subO2, v_slo, v_slo1, w_ff, w_ft, w_tf, w_tt, false_and, and_false, isClsU, v_ix, v_ix1, v_ix2, v_inv, v_inv1, v_co, v_co1, v_co2, v_len, v_len1, v_f2or, isiD, tyD, clD, r_insobj, fldOf, DL.isNon, items_tup, items_lst, items_frl, hasCls, isCls, othTy, insD, DL.putK, DL.putD, initEnd, startI, startD, DL.wipeD, List.map_cons, List.map_nil, List.length_cons, List.length_nil, List.getElem?_cons_zero, List.getElem?_cons_succ, List.getElem?_nil, List.set_cons_zero, List.set_cons_succ, List.cons_append, List.nil_append, List.append_nil, List.replicate, Nat.sub_self, Nat.reduceSub, Nat.reduceAdd, Nat.reduceLeDiff, Nat.reduceEqDiff, Nat.reduceLT, Int.reduceLT, Int.reduceLE, if_true, if_false, Bool.not_true, Bool.not_false, reduceIte, reduceCtorEq, true_and, and_true, Nat.zero_add, Bool.true_eq_false, Bool.false_eq_true, eqU_int, eqU_str, eqU_bl, str_eq, str_beq, String.reduceEq, decide_true, decide_false, decide_eq_true_eq, pl_items, pl_st0, pl_st1, pl_fold, notOwn, List.mem_singleton, List.mem_cons, List.not_mem_nil, or_false, false_or, or_true, true_or, forall_eq, forall_eq_or_imp, implies_true, range_succ, range_zero, Int.reduceToNat, Int.reduceEq, Int.reduceNe, Int.reduceAdd, Int.reduceSub, Int.reduceMul, Int.reducePow, Int.reduceMod, Int.reduceDiv, atI_0, atI_1, atI_2, atI_3, rg1, rg2, startI, r_var, r_var2, r_c, r_w2, r_w2a, r_w2b, r_w1, r_w1a, r_wB, r_wBa, r_ch, r_ch1, r_ch2, r_ch3t, r_ch3f, r_and, r_andt, r_andf, r_or, r_ort, r_orf, r_not, r_nota, r_ife, r_ifet, r_ifef, r_andv, r_andvt, r_andvf, r_orv, r_orvt, r_orvf, r_notv, r_notva, r_nil, r_cons, r_cons1, r_cons2, r_tup, r_tupa, r_lst, r_lsta, r_lstc, r_lstca, r_wn, r_wna, r_call, r_calla, r_mk, r_mk1, r_mk2, r_mkc, r_mkc1, r_mkc2, r_me, r_me1, r_me2, r_bo, r_bo1, r_bo2, r_onone, r_osome, r_osomea, r_sl, r_sl1, r_sl2, r_sl3, r_sl3f, r_ii, r_ii0, r_ib, r_i1, r_plus, r_plusl, r_times, r_timesl, r_isn, r_notn, r_isb, r_notb, r_pm, r_pm1, DL.perm, z_neT, z_catT, r_eqd, r_ned, r_int1, r_int1b, r_max2, r_min2, r_abs, r_ix, r_ix2, r_ix3, r_len, r_len2, r_isi, r_isi2, r_fld, r_fld2, r_fld3, r_insobj, r_kx, r_next, r_never, r_seq, r_seqa, r_if, r_ift, r_iff, r_ret, r_retn, r_brk, r_cnt, r_drop, r_dropa, r_set, r_seta, r_asg, r_asga, r_name, r_namec, r_ktup, r_kunl, r_kcons, r_kcs, r_knil, r_par2, r_par2a, r_par3, r_par3a, r_aug, r_auga, r_augb, r_augc, r_for, r_fora, r_knx, r_fldo, r_fldoa, r_put, r_frz, r_frz2, r_frz3, r_frz4, r_cl, r_seto, r_setoa, r_wil, r_wila, r_wilf, r_wit, r_wita, r_wi1, r_wi1a, r_wi2, r_wi2a, r_wie, r_wiea, r_wiz, r_wiza, r_wizt, r_lc, r_lc0, r_lcn, r_lcc, r_lc1, r_lc2t, r_lc2f, r_lc3, r_yes, r_sub, r_sub1, r_sub2, r_sub3, r_dnx, r_drt, r_dxc, r_inx, r_init, r_ixc, t_raise, t_raise2, t_try, t_cat, t_catt, t_catf, t_sunx, t_surt, t_nx0, t_nx1, t_nx2, t_nx3, t_prop, t_prop2, t_xf, t_xf2, t_isx, t_isx2, t_wht, t_whf, t_equ, t_neu, t_el, List.reverse_cons, List.reverse_nil, isiDT, anyT, List.all_cons, List.all_nil, Option.isSome_some, Bool.and_true, Bool.true_and, u_lof, u_lof2, u_tof, u_tof2, u_isiT, u_dict, u_bl, u_own, u_ownN, u_has, u_hasN, u_bk, u_bk1, u_bk2, u_stat, u_ap, u_ap1, u_ap2, u_ex, u_ex1, u_ex2, u_ownL, u_olen, u_oix, u_oix1, u_oin, u_sumT, u_sumL, u_mu, u_mu1, u_hot, u_hot1, startX, u_mb, u_mb1, u_mb1f, u_mb2, u_rev, u_revf, u_wio, u_wex, u_wel, u_wef, u_wet, u_en, u_en0, u_enc, u_enn, Int.cast_ofNat_Int, u_wzx, u_wzl, u_wzt, u_wzm, u_zd, u_zd0, intsD, DL.intD, u_kd, othC, isTy, Bool.true_xor, Bool.false_xor, eqU_pl, p_int, p_bl, p_non, p_tup, p_lst, p_frl, p0_int, p0_bl, p0_non, deq, deqs, Bool.and_true, Bool.and_false, Bool.false_and, List.contains_cons, List.contains_nil, Bool.or_false, Bool.false_or, Bool.or_self, eq_self, beq_self_eq_true, Bool.not_true, Bool.not_false, List.flatten_cons, List.flatten_nil, isi_0, isi_1, isi_2, isi_3, isi_4, isi_5, isi_6, isi_7, isi_8, isi_9, isi_10, isi_11, isi_12, isi_13, isi_14, isi_15, isi_16, isi_17, isi_18, isi_19, isi_20, isi_21, isi_22, isi_23, isi_24, isi_25, isi_26, isi_27, isi_28, isi_29, isi_30, isi_31, isi_32, isi_33])
local macro_rules
  | `(tactic| walk_at "dl") => `(tactic| try simp only [g_gen, r_newD, r_put0, r_kw, r_kw1, r_kw2, r_kw0, r_kw00, c_wi, c_en, c_en1, c_for, c_for1, c_lc, c_lc1, c_lof, c_lof1, c_ap, c_ap1, c_ap2, y_p2, y_p21, y_oo, y_fo, y_foq, y_of, y_of2, c_si, c_si1, c_si2, c_si3, c_lu1, c_lu2, c_lu3, z_fl, z_fl1, z_fl2, z_ps, z_ps1, z_ps2, z_ps3, z_eqT, z_cat, z_cat1, z_cat2, y_pop, y_pop1, y_pop2, y_lcC, y_lcR, y_callR, y_cell, y_rem, y_rem1, y_rem2, x_subO, x_subO1, x_subO2, v_slo, v_slo1, w_ff, w_ft, w_tf, w_tt, false_and, and_false, isClsU, v_ix, v_ix1, v_ix2, v_inv, v_inv1, v_co, v_co1, v_co2, v_len, v_len1, v_f2or, isiD, tyD, clD, r_insobj, fldOf, DL.isNon, items_tup, items_lst, items_frl, hasCls, isCls, othTy, insD, DL.putK, DL.putD, initEnd, startI, startD, DL.wipeD, List.map_cons, List.map_nil, List.length_cons, List.length_nil, List.getElem?_cons_zero, List.getElem?_cons_succ, List.getElem?_nil, List.set_cons_zero, List.set_cons_succ, List.cons_append, List.nil_append, List.append_nil, List.replicate, Nat.sub_self, Nat.reduceSub, Nat.reduceAdd, Nat.reduceLeDiff, Nat.reduceEqDiff, Nat.reduceLT, Int.reduceLT, Int.reduceLE, if_true, if_false, Bool.not_true, Bool.not_false, reduceIte, reduceCtorEq, true_and, and_true, Nat.zero_add, Bool.true_eq_false, Bool.false_eq_true, eqU_int, eqU_str, eqU_bl, str_eq, str_beq, String.reduceEq, decide_true, decide_false, decide_eq_true_eq, pl_items, pl_st0, pl_st1, pl_fold, notOwn, List.mem_singleton, List.mem_cons, List.not_mem_nil, or_false, false_or, or_true, true_or, forall_eq, forall_eq_or_imp, implies_true, range_succ, range_zero, Int.reduceToNat, Int.reduceEq, Int.reduceNe, Int.reduceAdd, Int.reduceSub, Int.reduceMul, Int.reducePow, Int.reduceMod, Int.reduceDiv, atI_0, atI_1, atI_2, atI_3, rg1, rg2, startI, r_var, r_var2, r_c, r_w2, r_w2a, r_w2b, r_w1, r_w1a, r_wB, r_wBa, r_ch, r_ch1, r_ch2, r_ch3t, r_ch3f, r_and, r_andt, r_andf, r_or, r_ort, r_orf, r_not, r_nota, r_ife, r_ifet, r_ifef, r_andv, r_andvt, r_andvf, r_orv, r_orvt, r_orvf, r_notv, r_notva, r_nil, r_cons, r_cons1, r_cons2, r_tup, r_tupa, r_lst, r_lsta, r_lstc, r_lstca, r_wn, r_wna, r_call, r_calla, r_mk, r_mk1, r_mk2, r_mkc, r_mkc1, r_mkc2, r_me, r_me1, r_me2, r_bo, r_bo1, r_bo2, r_onone, r_osome, r_osomea, r_sl, r_sl1, r_sl2, r_sl3, r_sl3f, r_ii, r_ii0, r_ib, r_i1, r_plus, r_plusl, r_times, r_timesl, r_isn, r_notn, r_isb, r_notb, r_pm, r_pm1, DL.perm, z_neT, z_catT, r_eqd, r_ned, r_int1, r_int1b, r_max2, r_min2, r_abs, r_ix, r_ix2, r_ix3, r_len, r_len2, r_isi, r_isi2, r_fld, r_fld2, r_fld3, r_insobj, r_kx, r_next, r_never, r_seq, r_seqa, r_if, r_ift, r_iff, r_ret, r_retn, r_brk, r_cnt, r_drop, r_dropa, r_set, r_seta, r_asg, r_asga, r_name, r_namec, r_ktup, r_kunl, r_kcons, r_kcs, r_knil, r_par2, r_par2a, r_par3, r_par3a, r_aug, r_auga, r_augb, r_augc, r_for, r_fora, r_knx, r_fldo, r_fldoa, r_put, r_frz, r_frz2, r_frz3, r_frz4, r_cl, r_seto, r_setoa, r_wil, r_wila, r_wilf, r_wit, r_wita, r_wi1, r_wi1a, r_wi2, r_wi2a, r_wie, r_wiea, r_wiz, r_wiza, r_wizt, r_lc, r_lc0, r_lcn, r_lcc, r_lc1, r_lc2t, r_lc2f, r_lc3, r_yes, r_sub, r_sub1, r_sub2, r_sub3, r_dnx, r_drt, r_dxc, r_inx, r_init, r_ixc, t_raise, t_raise2, t_try, t_cat, t_catt, t_catf, t_sunx, t_surt, t_nx0, t_nx1, t_nx2, t_nx3, t_prop, t_prop2, t_xf, t_xf2, t_isx, t_isx2, t_wht, t_whf, t_equ, t_neu, t_el, List.reverse_cons, List.reverse_nil, isiDT, anyT, List.all_cons, List.all_nil, Option.isSome_some, Bool.and_true, Bool.true_and, u_lof, u_lof2, u_tof, u_tof2, u_isiT, u_dict, u_bl, u_own, u_ownN, u_has, u_hasN, u_bk, u_bk1, u_bk2, u_stat, u_ap, u_ap1, u_ap2, u_ex, u_ex1, u_ex2, u_ownL, u_olen, u_oix, u_oix1, u_oin, u_sumT, u_sumL, u_mu, u_mu1, u_hot, u_hot1, startX, u_mb, u_mb1, u_mb1f, u_mb2, u_rev, u_revf, u_wio, u_wex, u_wel, u_wef, u_wet, u_en, u_en0, u_enc, u_enn, Int.cast_ofNat_Int, u_wzx, u_wzl, u_wzt, u_wzm, u_zd, u_zd0, intsD, DL.intD, u_kd, othC, isTy, Bool.true_xor, Bool.false_xor, eqU_pl, p_int, p_bl, p_non, p_tup, p_lst, p_frl, p0_int, p0_bl, p0_non, deq, deqs, Bool.and_true, Bool.and_false, Bool.false_and, List.contains_cons, List.contains_nil, Bool.or_false, Bool.false_or, Bool.or_self, eq_self, beq_self_eq_true, Bool.not_true, Bool.not_false, List.flatten_cons, List.flatten_nil, isi_0, isi_1, isi_2, isi_3, isi_4, isi_5, isi_6, isi_7, isi_8, isi_9, isi_10, isi_11, isi_12, isi_13, isi_14, isi_15, isi_16, isi_17, isi_18, isi_19, isi_20, isi_21, isi_22, isi_23, isi_24, isi_25, isi_26, isi_27, isi_28, isi_29, isi_30, isi_31, isi_32, isi_33])
local macro_rules
  | `(tactic| walk_at "cm") => `(tactic| first | exact .inl (.inr ⟨by omega, by omega⟩) | exact .inl (.inl ⟨by omega, by omega⟩) | exact cm_bd (by unfold Bd; omega) (by unfold Bd; omega))
local macro_rules
  | `(tactic| walk_at "cs") => `(tactic| repeat ((with_reducible refine And.intro ?_ ?_); (· first | decide | (walk_at "cm") | exact ⟨by decide, by decide, by decide⟩ | omega)))
local macro_rules
  | `(tactic| walk_at "go") => `(tactic| (walk_at "dl"; walk_at "cs"))
section
variable {Q : D → Mu → Prop} {Xd : XD} {μ : Mu}
theorem ii_int {i : Int} (h : Q (.bl true) μ) : sp_is_integer [.int i] μ Q Xd := by
  unfold sp_is_integer w_is_integer
  walk_at "dl"
  exact h
abbrev pr (x y : Int) : D := .tup [.int x, .int y]
abbrev pt (x y : Int) : D := .obj "Point" ["x", "y"] [.int x, .int y]
theorem point_init {Q : List Str → List D → Mu → Prop} {x y : Int} (h : Q ["x", "y"] [.int x, .int y] μ) : sp_Point_init [.int x, .int y] μ Q Xd := by
  unfold sp_Point_init w_Point_init
  refine ⟨rfl, fun a => ?_⟩
  walk_at "dl"
  refine ii_int ?_
  walk_at "dl"
  refine ii_int ?_
  walk_at "dl"
  exact h
/-- a point or a pair -/
def IsP (d : D) (x y : Int) : Prop := d = pr x y ∨ d = pt x y
theorem isP_pr {x y : Int} : IsP (pr x y) x y := .inl rfl
theorem isP_pt {x y : Int} : IsP (pt x y) x y := .inr rfl
theorem nums {d : D} {x y : Int} (hd : IsP d x y) (h : Q (pr x y) μ) : sp_numbers_of [d] μ Q Xd := by
  unfold sp_numbers_of w_numbers_of
  rcases hd with rfl | rfl
  · walk_at "dl"
    refine ii_int ?_
    walk_at "dl"
    refine ii_int ?_
    walk_at "dl"
    exact h
  · walk_at "dl"
    exact h
theorem pair_ev {d : D} {x y : Int} (hd : IsP d x y) (h : Q (pr x y) μ) : sp_pair_of [d] μ Q Xd := by
  unfold sp_pair_of w_pair_of
  walk_at "dl"
  refine nums hd ?_
  walk_at "dl"
  exact h
theorem cross_ev {x y z w : Int} (h1 : CM x w) (h2 : CM y z) (h : Q (.int (x * w - y * z)) μ) : sp_cross_of [pr x y, pr z w] μ Q Xd := by
  unfold sp_cross_of w_cross_of
  walk_at "dl"
  exact ⟨h1, h2, h⟩
theorem draw_ev {p q many : Int} (ok : PoolOk p q) (h1 : 1 ≤ many) (h2 : Bd many) (h : ∀ r p' q', PoolOk p' q' → 0 ≤ r → r < many → Q (.int r) (pl μ p' q')) : sp__law_draw [.loc μ.length, .int many] (pl μ p q) Q Xd := by
  obtain ⟨p0, q0, q1⟩ := ok
  unfold sp__law_draw w__law_draw
  walk_at "dl"
  by_cases c : 0 < p
  · rw [decide_eq_true c]
    walk_at "dl"
    refine ⟨by omega, cd_bd (by omega) h2, ?_⟩
    exact h _ _ _ ⟨Int.ediv_nonneg p0 (by omega), q0, q1⟩ (Int.emod_nonneg _ (by omega)) (Int.emod_lt_of_pos _ (by omega))
  · rw [decide_eq_false c]
    walk_at "dl"
    have m1 := Int.emod_nonneg (q * 48271 + 11) (show (2147483647 : Int) ≠ 0 by decide)
    have m2 := Int.emod_lt_of_pos (q * 48271 + 11) (show (0 : Int) < 2147483647 by decide)
    refine ⟨cm_bd (by unfold Bd; omega) (by unfold Bd; omega), ?_⟩
    generalize (q * 48271 + 11) % 2147483647 = q' at m1 m2 ⊢
    exact ⟨cm_bd (by unfold Bd; omega) (by unfold Bd; omega), cd_bd (by omega) (by unfold Bd; omega), by omega, h _ _ _ ⟨p0, m1, m2⟩ (Int.emod_nonneg _ (by omega)) (Int.emod_lt_of_pos _ (by omega))⟩
theorem hand_ev {ns : List Int} {k : Int} (hl : ns.length ≤ 63) (k0 : 0 ≤ k) (k1 : k ≤ 63) (h : ∀ p q, PoolOk p q → Q (.loc μ.length) (pl μ p q)) : sp__law_hand [.frl (ns.map D.int), .int k] μ Q Xd := by
  unfold sp__law_hand w__law_hand
  walk_at "dl"
  refine ⟨cut_few hl, ?_⟩
  obtain ⟨c, hc⟩ := cell_of (ns := ns) (lo := some k) (hi := some (k + 1))
  rw [hc]
  walk_at "dl"
  have m1 := Int.emod_nonneg c (show (2147483647 : Int) ≠ 0 by decide)
  have m2 := Int.emod_lt_of_pos c (show (0 : Int) < 2147483647 by decide)
  refine ⟨cm_bd (by unfold Bd; omega) (by unfold Bd; omega), cm_bd (by unfold Bd; omega) (by unfold Bd; omega), ⟨by decide, by decide, by decide⟩, .inl (.inl ?_), h _ _ ⟨?_, Int.emod_nonneg _ (by decide), ?_⟩⟩
  · split <;> decide
  · have e : (10 : Int) ^ Int.toNat 18 = 1000000000000000000 := by decide
    try rw [e]
    split <;> omega
  · have := Int.emod_lt_of_pos ((c % 2147483647 + 7919 * k + 1) * 48271) (show (0 : Int) < 2147483629 by decide)
    omega

theorem pp_ev {x y : Int} (h : Q (pr x y) μ) : sp_Point_pair [pt x y] μ Q Xd := by
  unfold sp_Point_pair w_Point_pair
  walk_at "dl"
  exact h
theorem add_ev {b : D} {x y z w : Int} (hb : IsP b z w) (h : Q (pt (x + z) (y + w)) μ) : sp_Point_add [pt x y, b] μ Q Xd := by
  unfold sp_Point_add w_Point_add
  walk_at "dl"
  refine nums hb ?_
  walk_at "dl"
  refine point_init ?_
  exact h
/-- no integer -/
def NotInt (d : D) : Prop := d = .non ∨ (∃ b, d = .bl b) ∨ (∃ s, d = .str s) ∨ (∃ ds, d = .tup ds) ∨ ∃ ds, d = .lst ds
theorem ii_not {d : D} (hd : NotInt d) (h : Q (.bl false) μ) : sp_is_integer [d] μ Q Xd := by
  unfold sp_is_integer w_is_integer
  rcases hd with rfl | ⟨b, rfl⟩ | ⟨b, rfl⟩ | ⟨b, rfl⟩ | ⟨b, rfl⟩
  all_goals
    walk_at "dl"
    exact h
/-- no point and no pair -/
def NoP (d : D) : Prop := d = .non ∨ (∃ i, d = .int i) ∨ (∃ b, d = .bl b) ∨ (∃ s, d = .str s) ∨ (∃ ds, d = .lst ds) ∨ (∃ ds, d = .tup ds ∧ ds.length ≠ 2) ∨ (∃ a b, d = .tup [a, b] ∧ NotInt a) ∨ ∃ i b, d = .tup [.int i, b] ∧ NotInt b
theorem nums_no {d : D} (hd : NoP d) (h : Q .non μ) : sp_numbers_of [d] μ Q Xd := by
  unfold sp_numbers_of w_numbers_of
  rcases hd with rfl | ⟨b, rfl⟩ | ⟨b, rfl⟩ | ⟨b, rfl⟩ | ⟨b, rfl⟩ | ⟨ds, rfl, hl⟩ | ⟨a, b, rfl, ha⟩ | ⟨i, b, rfl, hb⟩
  case inr.inr.inr.inr.inr.inl =>
    walk_at "dl"
    rw [decide_eq_false (by omega)]
    walk_at "dl"
    exact h
  case inr.inr.inr.inr.inr.inr.inl =>
    walk_at "dl"
    refine ii_not ha ?_
    walk_at "dl"
    exact h
  case inr.inr.inr.inr.inr.inr.inr =>
    walk_at "dl"
    refine ii_int ?_
    walk_at "dl"
    refine ii_not hb ?_
    walk_at "dl"
    exact h
  all_goals
    walk_at "dl"
    exact h
theorem pair_no {d : D} (hd : NoP d) (h : Xd "InvalidPoint" ["thing"] [d] μ) : sp_pair_of [d] μ Q Xd := by
  unfold sp_pair_of w_pair_of
  walk_at "dl"
  refine nums_no hd ?_
  walk_at "dl"
  exact h
abbrev pd (p : SO.P) : D := pr p.1 p.2
abbrev ptd (p : SO.P) : D := pt p.1 p.2
theorem sg_ev {x : Int} (h : Q (.int (SO.sg x)) μ) : sp_sign_of [.int x] μ Q Xd := by
  unfold sp_sign_of w_sign_of
  unfold SO.sg at h
  walk_at "dl"
  by_cases c : x = 0
  · rw [decide_eq_true c]
    rw [if_pos c] at h
    walk_at "dl"
    exact h
  · rw [decide_eq_false c]
    rw [if_neg c] at h
    walk_at "dl"
    by_cases c2 : 0 < x
    · rw [decide_eq_true c2]
      rw [if_pos c2] at h
      walk_at "dl"
      exact h
    · rw [decide_eq_false c2]
      rw [if_neg c2] at h
      walk_at "dl"
      exact h
theorem dir_ev {d : D} {x y : Int} (hd : IsP d x y) (h0 : SO.nz (x, y)) (h : Q (pr x y) μ) : sp_direction_of [d] μ Q Xd := by
  unfold sp_direction_of w_direction_of
  walk_at "dl"
  refine pair_ev hd ?_
  walk_at "dl"
  have e : (decide (x = 0) && decide (y = 0)) = false := by
    rw [Bool.and_eq_false_iff, decide_eq_false_iff_not, decide_eq_false_iff_not]
    unfold SO.nz at h0
    omega
  try simp only [Bool.and_true]
  rw [e]
  walk_at "dl"
  exact h
theorem kp_ev {x y : Int} (h0 : SO.nz (x, y)) (h : Q (.int (SO.kd (x, y))) μ) : sp_kind_of_pair [pr x y] μ Q Xd := by
  unfold sp_kind_of_pair w_kind_of_pair
  walk_at "dl"
  refine sg_ev ?_
  walk_at "dl"
  refine sg_ev ?_
  walk_at "dl"
  refine ⟨[SO.sg x, SO.sg y], rfl, SO.kd (x, y), ?_, h⟩
  unfold SO.nz at h0
  simp only at h0
  have s : ∀ z : Int, (z = 0 ∧ SO.sg z = 0) ∨ (0 < z ∧ SO.sg z = 1) ∨ (z < 0 ∧ SO.sg z = -1) := fun z => by
    unfold SO.sg
    repeat' split
    all_goals omega
  rcases SO.kd_tab x y with ⟨y0, x0, k⟩ | ⟨y0, x0, k⟩ | ⟨y0, x0, k⟩ | ⟨y0, x0, k⟩ | ⟨y0, x0, k⟩ | ⟨y0, x0, k⟩ | ⟨y0, x0, k⟩ | ⟨y0, x0, k⟩ <;> rw [k] <;> rcases s x with ⟨x1, e1⟩ | ⟨x1, e1⟩ | ⟨x1, e1⟩ <;> first
    | (exfalso; omega)
    | (rw [e1]; rcases s y with ⟨y1, e2⟩ | ⟨y1, e2⟩ | ⟨y1, e2⟩ <;> first
        | (exfalso; omega)
        | (rw [e2]; decide +kernel))
theorem ko_ev {d : D} {x y : Int} (hd : IsP d x y) (h0 : SO.nz (x, y)) (h : Q (.int (SO.kd (x, y))) μ) : sp_kind_of [d] μ Q Xd := by
  unfold sp_kind_of w_kind_of
  walk_at "dl"
  refine dir_ev hd h0 ?_
  walk_at "dl"
  exact kp_ev h0 h
theorem pof_ev {x y : Int} (h : Q (pt x y) μ) : sp_point_of [pr x y] μ Q Xd := by
  unfold sp_point_of w_point_of
  walk_at "dl"
  refine point_init ?_
  exact h
theorem gcd_step {x y : Int} (hx : 0 ≤ x) (hy : 0 < y) : Int.gcd y (x % y) = Int.gcd x y := by
  obtain ⟨n, rfl⟩ := Int.eq_ofNat_of_zero_le hx
  obtain ⟨m, rfl⟩ := Int.eq_ofNat_of_zero_le (Int.le_of_lt hy)
  show Nat.gcd m (n % m) = Nat.gcd n m
  rw [Nat.gcd_comm m, ← Nat.gcd_rec, Nat.gcd_comm]
theorem cdv_ev {x y : Int} (hy : Bd y) (h : Q (.int (Int.gcd x y)) μ) : sp_common_divisor [.int x, .int y] μ Q Xd := by
  unfold sp_common_divisor w_common_divisor
  walk_at "dl"
  refine while_ind (fun n ρ μ' => μ' = μ ∧ ∃ a b : Int, ρ = [.v (.int a), .v (.int b)] ∧ 0 ≤ a ∧ 0 ≤ b ∧ Bd b ∧ Int.gcd a b = Int.gcd x y ∧ n = b.toNat) (fun n ρ μ' K hI hK => ?_) ⟨rfl, _, _, rfl, by split <;> omega, by split <;> omega, by unfold Bd at *; split <;> omega, ?_, rfl⟩
  · obtain ⟨rfl, a, b, rfl, a0, b0, bb, hg, rfl⟩ := hI
    walk_at "dl"
    by_cases c : 0 < b
    · rw [decide_eq_true c]
      walk_at "dl"
      refine ⟨c, ?_⟩
      have m1 := Int.emod_nonneg a (show b ≠ 0 by omega)
      have m2 := Int.emod_lt_of_pos a c
      exact hK _ _ _ (by omega) ⟨rfl, _, _, rfl, b0, m1, by unfold Bd at *; omega, by rw [gcd_step a0 c]; exact hg, rfl⟩
    · rw [decide_eq_false c]
      walk_at "dl"
      have e : b = 0 := by omega
      subst e
      rw [Int.gcd_zero_right] at hg
      rw [← hg] at h
      have e2 : ((a.natAbs : Nat) : Int) = a := by omega
      rw [e2] at h
      exact h
  · split <;> split <;> simp
theorem low_ev {d : D} {x y : Int} (hd : IsP d x y) (h0 : SO.nz (x, y)) (bx : Bd x) (by_ : Bd y) (h : Q (pt (x / Int.gcd x y) (y / Int.gcd x y)) μ) : sp_lowest [d] μ Q Xd := by
  unfold sp_lowest w_lowest
  have g0 : 0 < Int.gcd x y := by
    unfold SO.nz at h0
    simp only at h0
    by_cases c : x = 0
    · exact Int.gcd_pos_of_ne_zero_right _ (by omega)
    · exact Int.gcd_pos_of_ne_zero_left _ (by omega)
  have gb : Bd (Int.gcd x y : Int) := by
    unfold SO.nz at h0
    simp only at h0
    unfold Bd at *
    by_cases c : x = 0
    · have : Int.gcd x y ≤ y.natAbs := Nat.le_of_dvd (by omega) (Int.gcd_dvd_natAbs_right x y)
      omega
    · have : Int.gcd x y ≤ x.natAbs := Nat.le_of_dvd (by omega) (Int.gcd_dvd_natAbs_left x y)
      omega
  walk_at "dl"
  refine dir_ev hd h0 ?_
  walk_at "dl"
  unfold sp_lowest_pair w_lowest_pair
  walk_at "dl"
  refine cdv_ev by_ ?_
  walk_at "dl"
  refine ⟨cd_bd (by omega) gb, cd_bd (by omega) gb, ?_⟩
  exact pof_ev h
theorem ah_ev {p q : SO.P} (h1 : CM p.1 q.2) (h2 : CM p.2 q.1) (h : Q (.bl (decide (0 < SO.cr p q))) μ) : sp_is_ahead [pd p, pd q] μ Q Xd := by
  unfold sp_is_ahead w_is_ahead
  walk_at "dl"
  refine cross_ev h1 h2 ?_
  exact h
/-- numbers that can be multiplied -/
def Bp (p : SO.P) : Prop := Bd p.1 ∧ Bd p.2
theorem cut_take {ds : List D} {n : Nat} : DL.cutD ds none (some (n : Int)) = ds.take n := by
  unfold DL.cutD
  rw [HT.sIx_none, HT.sIx_nat, List.drop_zero, Nat.sub_zero]
  by_cases c : n ≤ ds.length
  · rw [Nat.min_eq_left c]
  · rw [Nat.min_eq_right (by omega), List.take_length, List.take_of_length_le (by omega)]
theorem cut_drop {ds : List D} {n : Nat} : DL.cutD ds (some (n : Int)) none = ds.drop n := by
  unfold DL.cutD
  rw [HT.sIx_none, HT.sIx_nat]
  by_cases c : n ≤ ds.length
  · rw [Nat.min_eq_left c, List.take_of_length_le (by rw [List.length_drop]; omega)]
  · rw [Nat.min_eq_right (by omega), List.drop_length, List.drop_of_length_le (by omega)]
    simp
theorem put_out {l : List SO.P} {p : SO.P} {n : Nat} (hn : l.length ≤ 1000) (h : Q (.lst ((l.take n).map pd ++ pd p :: (l.drop n).map pd)) μ) :
    (DL.cutD (List.map pd l) none (some (n : Int))).length + 1 ≤ sizeLine ∧ (DL.cutD (List.map pd l) none (some (n : Int)) ++ [pd p]).length + (DL.cutD (List.map pd l) (some (n : Int)) none).length ≤ sizeLine ∧
      Q (.lst (DL.cutD (List.map pd l) none (some (n : Int)) ++ [pd p] ++ DL.cutD (List.map pd l) (some (n : Int)) none)) μ := by
  rw [cut_take, cut_drop, sizeLine_eq]
  refine ⟨?_, ?_, ?_⟩
  · rw [List.length_take, List.length_map]
    omega
  · rw [List.length_append, List.length_take, List.length_drop, List.length_map, List.length_singleton]
    omega
  · rw [← List.map_take, ← List.map_drop]
    simpa using h
theorem put_ev {p : SO.P} {l : List SO.P} (hp : Bp p) (hl : ∀ q ∈ l, Bp q) (hn : l.length ≤ 1000) (h : Q (.lst ((SO.insP p l).map pd)) μ) : sp_put_in [.lst (l.map pd), pd p] μ Q Xd := by
  unfold sp_put_in w_put_in
  walk_at "dl"
  refine while_ind (fun n ρ μ' => μ' = μ ∧ n ≤ l.length ∧ ρ = [.v (.lst (l.map pd)), .v (pd p), .v (.int n)] ∧ ∀ q ∈ l.drop n, 0 < SO.cr p q) (fun n ρ μ' K hI hK => ?_) ⟨rfl, Nat.le_refl _, by rw [List.length_map], fun q hq => by rw [List.drop_length] at hq; cases hq⟩
  obtain ⟨rfl, hn', rfl, ha⟩ := hI
  have out : (∀ q, (l.take n).getLast? = some q → ¬ 0 < SO.cr p q) → Q (.lst ((l.take n).map pd ++ pd p :: (l.drop n).map pd)) μ' := fun hb => by
    have e := SO.insP_eq (p := p) (a := l.take n) (b := l.drop n) ha hb
    rw [List.take_append_drop] at e
    rw [e] at h
    simpa using h
  walk_at "dl"
  by_cases c : 0 < (n : Int)
  · rw [decide_eq_true c]
    walk_at "dl"
    have e : (n : Int) - 1 = ((n - 1 : Nat) : Int) := by omega
    have hlt : n - 1 < l.length := by omega
    rw [e, DL.atI_nat, List.getElem?_map, List.getElem?_eq_getElem hlt]
    walk_at "dl"
    have bq := hl _ (List.getElem_mem hlt)
    refine ah_ev (q := l[n - 1]) (cm_bd hp.1 bq.2) (cm_bd hp.2 bq.1) ?_
    walk_at "dl"
    by_cases c2 : 0 < SO.cr p l[n - 1]
    · rw [decide_eq_true c2]
      walk_at "dl"
      rw [e]
      refine hK (n - 1) _ _ (by omega) ⟨rfl, by omega, rfl, fun q hq => ?_⟩
      rw [List.drop_eq_getElem_cons hlt] at hq
      rcases List.mem_cons.mp hq with rfl | hq
      · exact c2
      · have e3 : n - 1 + 1 = n := by omega
        rw [e3] at hq
        exact ha q hq
    · rw [decide_eq_false c2]
      walk_at "dl"
      refine put_out hn (out fun q hq => ?_)
      rw [List.getLast?_eq_getElem?, List.length_take, List.getElem?_take_of_lt (by omega)] at hq
      have e2 : min n l.length - 1 = n - 1 := by omega
      rw [e2, List.getElem?_eq_getElem hlt] at hq
      cases hq
      exact c2
  · rw [decide_eq_false c]
    walk_at "dl"
    have e : n = 0 := by omega
    subst e
    exact put_out (n := 0) hn (out fun q hq => by simp at hq)
theorem sa_ev {f : SO.P → D} {l : List SO.P} (hf : ∀ p, IsP (f p) p.1 p.2) (hl : ∀ p ∈ l, SO.nz p ∧ Bp p) (hn : l.length ≤ 100) (h : Q (.lst ((SO.S l).map ptd)) μ) : sp_sorted_around [.lst (l.map f)] μ Q Xd := by
  unfold sp_sorted_around w_sorted_around
  walk_at "dl"
  refine lc_mp (α := SO.P) pd (fun p hp ds acc ha hK => ?_) (by omega) ?_
  · walk_at "dl"
    refine dir_ev (hf p) (hl p hp).1 ?_
    walk_at "dl"
    exact ⟨ha, hK⟩
  walk_at "dl"
  intro p
  change forL _ _ _ (rangeD 0 8) _ _
  refine forL_rng (lo := 0) (n := 8) (fun i ρ μ' => μ' = μ ∧ ∃ s3 s4 s5, (s5 = .no ∨ ∃ d, s5 = .v d) ∧ ρ = [.v (.lst (l.map f)), .v (.lst (l.map pd)), .own p (.lst ((SO.Sn l i).map ptd)), s3, s4, s5, .no]) (fun i hi ρ μ' K hI hK => ?_) (fun ρ μ' hI => ?_) ⟨rfl, _, _, _, .inl rfl, rfl⟩
  · obtain ⟨rfl, s3, s4, s5, h5, rfl⟩ := hI
    walk_at "dl"
    refine forL_pre (f := pd) (l := l) (fun pre ρ μ2 => μ2 = μ' ∧ ∃ s5, (s5 = .no ∨ ∃ d, s5 = .v d) ∧ ρ = [.v (.lst (l.map f)), .v (.lst (l.map pd)), .own p (.lst ((SO.Sn l i).map ptd)), .v (.int (0 + (i : Nat))), .v (.lst ((SO.sortK (pre.filter fun q => decide (SO.kd q = (i : Nat)))).map pd)), s5, .no])
      (fun pre a post hl' ρ μ2 K2 hI hK2 => ?_) (fun ρ μ2 hI => ?_) ⟨rfl, _, h5, rfl⟩
    · obtain ⟨rfl, s5, h5, rfl⟩ := hI
      have ha : a ∈ l := by rw [hl']; simp
      have hsub : ∀ q ∈ pre, q ∈ l := fun q hq => by rw [hl']; simp [hq]
      walk_at "dl"
      refine kp_ev (hl a ha).1 ?_
      walk_at "dl"
      by_cases c : SO.kd (a.1, a.2) = 0 + (i : Int)
      · have c2 : decide (SO.kd a = (i : Nat)) = true := decide_eq_true (by simpa using c)
        rw [decide_eq_true c]
        walk_at "dl"
        refine put_ev (hl a ha).2 (fun q hq => (hl q (hsub q (List.mem_filter.mp (SO.sortK_mem.mp hq)).1)).2) ?_ ?_
        · rw [SO.sortK_len]
          have := List.length_filter_le (fun q => decide (SO.kd q = ((i : Nat) : Int))) pre
          have : pre.length ≤ l.length := by rw [hl', List.length_append]; omega
          omega
        · walk_at "dl"
          refine hK2 _ _ ⟨rfl, .v (pd a), .inr ⟨pd a, rfl⟩, ?_⟩
          rw [List.filter_append, List.filter_cons, c2, if_pos rfl, List.filter_nil, SO.sortK_snoc]
      · have c2 : decide (SO.kd a = (i : Nat)) = false := decide_eq_false (by simpa using c)
        rw [decide_eq_false c]
        walk_at "dl"
        refine hK2 _ _ ⟨rfl, .v (pd a), .inr ⟨pd a, rfl⟩, ?_⟩
        rw [List.filter_append, List.filter_cons, c2, if_neg (by decide), List.filter_nil, List.append_nil]
    · obtain ⟨rfl, s5, h5, rfl⟩ := hI
      have len := List.length_filter_le (fun q => decide (SO.kd q = ((i : Nat) : Int))) l
      walk_at "dl"
      refine ⟨by rcases h5 with rfl | ⟨d, rfl⟩ <;> trivial, ?_⟩
      refine lc_mp (α := SO.P) (l := SO.sortK (l.filter fun q => decide (SO.kd q = ((i : Nat) : Int)))) ptd (fun q hq ds acc hacc hK3 => ?_) (by rw [SO.sortK_len]; omega) ?_
      · walk_at "dl"
        refine pof_ev ?_
        walk_at "dl"
        exact ⟨hacc, hK3⟩
      walk_at "dl"
      have len2 := SO.Sn_len l i
      refine ⟨?_, ?_⟩
      · rw [List.length_map, List.length_map, SO.sortK_len]
        omega
      · rw [← List.map_append, ← SO.Sn_succ]
        exact hK _ _ ⟨rfl, _, _, _, h5, rfl⟩
  · obtain ⟨rfl, s3, s4, s5, h5, rfl⟩ := hI
    walk_at "dl"
    exact h

theorem P5_pds (l : List SO.P) : P5 (.lst (l.map pd)) = true := all_map (p := Pn (Pn (Pn (Pn P0)))) fun p => rfl
theorem P5_ones {α : Type} (l : List α) : P5 (.lst (l.map fun _ => D.int 1)) = true := all_map (p := Pn (Pn (Pn (Pn P0)))) fun p => rfl
theorem P5_ints {α : Type} (f : α → Int) (l : List α) : P5 (.lst (l.map fun a => D.int (f a))) = true := all_map (p := Pn (Pn (Pn (Pn P0)))) fun p => rfl
theorem pd_deq (p q : SO.P) : deq (pd p) (pd q) = decide (p = q) := by
  obtain ⟨a, b⟩ := p
  obtain ⟨c, d⟩ := q
  simp only [deq, deqs, Bool.and_true, Prod.mk.injEq, Bool.decide_and]
theorem eq_pds {l m : List SO.P} {k : Bool → Prop} : eqU (.lst (l.map pd)) (.lst (m.map pd)) k = k (decide (l = m)) := by
  rw [eqU_pl (P5_pds l) (P5_pds m)]
  show k (deqs (l.map pd) (m.map pd)) = _
  rw [deqs_map pd_deq]
theorem eq_none {α : Type} {f : α → D} {l : List α} (hf : P5 (.lst (l.map f)) = true) (hl : l = []) {k : Bool → Prop} (h : k true) : eqU (.lst (l.map f)) (.lst []) k := by
  subst hl
  rw [eqU_pl hf rfl]
  exact h
/-- numbers up to n -/
def Sz (n : Int) (p : SO.P) : Prop := -n ≤ p.1 ∧ p.1 ≤ n ∧ -n ≤ p.2 ∧ p.2 ≤ n
abbrev big : Int := 400000000000000000000
theorem ldir_ev {p q : Int} (ok : PoolOk p q) (h : ∀ d p' q', PoolOk p' q' → SO.nz d → Sz 400000000000000000000 d → Q (pd d) (pl μ p' q')) : sp__law_direction [.loc μ.length] (pl μ p q) Q Xd := by
  unfold sp__law_direction w__law_direction
  walk_at "go"
  refine draw_ev ok (by decide) (by unfold Bd; omega) fun r p1 q1 ok1 r0 r1 => ?_
  walk_at "go"
  refine draw_ev ok1 (by decide) (by unfold Bd; omega) fun r2 p2 q2 ok2 r20 r21 => ?_
  walk_at "go"
  have pick : ∀ z : Int, 0 ≤ z → z < 4 → ∃ m : Int, atI [D.int 1, D.int 1, D.int 2, D.int 100000000000000000000] z = some (.int m) ∧ 0 < m ∧ m ≤ 100000000000000000000 := fun z z0 z1 => by
    have c : z = 0 ∨ z = 1 ∨ z = 2 ∨ z = 3 := by omega
    rcases c with rfl | rfl | rfl | rfl
    · exact ⟨_, atI_0, by decide, by decide⟩
    · exact ⟨_, atI_1, by decide, by decide⟩
    · exact ⟨_, atI_2, by decide, by decide⟩
    · exact ⟨_, atI_3, by decide, by decide⟩
  have sz : ∀ x y m : Int, -4 ≤ x → x ≤ 4 → -4 ≤ y → y ≤ 4 → ¬ (x = 0 ∧ y = 0) → 0 < m → m ≤ 100000000000000000000 → SO.nz (x * m, y * m) ∧ Sz 400000000000000000000 (x * m, y * m) := fun x y m a1 a2 a3 a4 a5 m0 m1 => by
    refine ⟨?_, ?_⟩
    · unfold SO.nz
      simp only
      intro z
      rcases Int.mul_eq_zero.mp z.1 with e | e
      · rcases Int.mul_eq_zero.mp z.2 with e2 | e2 <;> omega
      · omega
    · have b : ∀ z : Int, -4 ≤ z → z ≤ 4 → -400000000000000000000 ≤ z * m ∧ z * m ≤ 400000000000000000000 := fun z z0 z1 => by
        have h1 : z.natAbs * m.natAbs ≤ 4 * 100000000000000000000 := Nat.mul_le_mul (by omega) (by omega)
        rw [← Int.natAbs_mul] at h1
        omega
      exact ⟨(b x a1 a2).1, (b x a1 a2).2, (b y a3 a4).1, (b y a3 a4).2⟩
  by_cases c : r - 4 = 0 ∧ r2 - 4 = 0
  · have e : (decide (r - 4 = 0) && decide (r2 - 4 = 0)) = true := by rw [Bool.and_eq_true_iff, decide_eq_true_eq, decide_eq_true_eq]; exact c
    rw [e]
    walk_at "go"
    refine draw_ev ok2 (by decide) (by unfold Bd; omega) fun r3 p3 q3 ok3 r30 r31 => ?_
    obtain ⟨m, hm, m0, m1⟩ := pick r3 r30 r31
    walk_at "go"
    rw [hm]
    walk_at "go"
    have s := sz 3 (r2 - 4) m (by omega) (by omega) (by omega) (by omega) (by omega) m0 m1
    exact h (3 * m, (r2 - 4) * m) _ _ ok3 s.1 s.2
  · have e : (decide (r - 4 = 0) && decide (r2 - 4 = 0)) = false := by rw [Bool.and_eq_false_iff, decide_eq_false_iff_not, decide_eq_false_iff_not]; omega
    rw [e]
    walk_at "go"
    refine draw_ev ok2 (by decide) (by unfold Bd; omega) fun r3 p3 q3 ok3 r30 r31 => ?_
    obtain ⟨m, hm, m0, m1⟩ := pick r3 r30 r31
    walk_at "go"
    rw [hm]
    walk_at "go"
    have s := sz (r - 4) (r2 - 4) m (by omega) (by omega) (by omega) (by omega) c m0 m1
    exact h ((r - 4) * m, (r2 - 4) * m) _ _ ok3 s.1 s.2
theorem idx_k {ds : List D} {y d : D} (hx : P5 (.lst ds) = true) (hy : P5 y = true) (j : Nat) (hj : ds[j]? = some d) (hd : deq d y = true) (hlt : ((List.range j).all fun m => !deq ((ds[m]?).getD .non) y) = true) (h : Q (.int j) μ) : fIdx (.lst ds) y μ Q :=
  idx_pl hx hy hj hd (fun m e hm he => by
    have := List.all_eq_true.mp hlt m (List.mem_range.mpr hm)
    rw [he] at this
    simpa using this) h
theorem kind_ev {d : SO.P} (hd : SO.nz d) (h : Q (.int (SO.kd d)) μ) : sp__law_kind [pd d] μ Q Xd := by
  unfold sp__law_kind w__law_kind
  walk_at "dl"
  unfold SO.nz at hd
  rcases SO.kd_tab d.1 d.2 with ⟨y0, x0, k⟩ | ⟨y0, x0, k⟩ | ⟨y0, x0, k⟩ | ⟨y0, x0, k⟩ | ⟨y0, x0, k⟩ | ⟨y0, x0, k⟩ | ⟨y0, x0, k⟩ | ⟨y0, x0, k⟩ <;> rw [show SO.kd d = _ from k] at h
  · rw [if_pos (by omega), if_neg (by omega), if_neg (by omega), if_neg (by omega)]
    exact idx_k rfl rfl 0 rfl (by decide +kernel) (by decide +kernel) h
  · rw [if_neg (by omega), if_pos (by omega), if_neg (by omega), if_neg (by omega)]
    exact idx_k rfl rfl 4 rfl (by decide +kernel) (by decide +kernel) h
  · rw [if_pos (by omega), if_neg (by omega), if_pos (by omega), if_neg (by omega)]
    exact idx_k rfl rfl 1 rfl (by decide +kernel) (by decide +kernel) h
  · rw [if_neg (by omega), if_neg (by omega), if_pos (by omega), if_neg (by omega)]
    exact idx_k rfl rfl 2 rfl (by decide +kernel) (by decide +kernel) h
  · rw [if_neg (by omega), if_pos (by omega), if_pos (by omega), if_neg (by omega)]
    exact idx_k rfl rfl 3 rfl (by decide +kernel) (by decide +kernel) h
  · rw [if_neg (by omega), if_pos (by omega), if_neg (by omega), if_pos (by omega)]
    exact idx_k rfl rfl 5 rfl (by decide +kernel) (by decide +kernel) h
  · rw [if_neg (by omega), if_neg (by omega), if_neg (by omega), if_pos (by omega)]
    exact idx_k rfl rfl 6 rfl (by decide +kernel) (by decide +kernel) h
  · rw [if_pos (by omega), if_neg (by omega), if_neg (by omega), if_pos (by omega)]
    exact idx_k rfl rfl 7 rfl (by decide +kernel) (by decide +kernel) h
theorem way_ev {p q : SO.P} (hp : Sz 400000000000000000000 p) (hq : Sz 400000000000000000000 q) (h : Q (.bl (decide (SO.same p q))) μ) : sp__law_same_way [pd p, pd q] μ Q Xd := by
  unfold sp__law_same_way w__law_same_way
  unfold Sz at hp hq
  walk_at "go"
  by_cases c1 : p.1 * q.2 = p.2 * q.1
  · rw [decide_eq_true c1]
    walk_at "go"
    by_cases c2 : 0 < p.1 * q.1 + p.2 * q.2
    · rw [decide_eq_true (show SO.same p q from ⟨c1, c2⟩)] at h
      rw [decide_eq_true c2]
      exact h
    · rw [decide_eq_false (show ¬ SO.same p q from fun z => c2 z.2)] at h
      rw [decide_eq_false c2]
      exact h
  · rw [decide_eq_false (show ¬ SO.same p q from fun z => c1 z.1)] at h
    rw [decide_eq_false c1]
    walk_at "go"
    exact h
theorem behind_ev {p q : SO.P} (hp : SO.nz p ∧ Sz 400000000000000000000 p) (hq : SO.nz q ∧ Sz 400000000000000000000 q) (ho : SO.Ord p q) (h : Q (.bl false) μ) : sp__law_is_behind [pd p, pd q] μ Q Xd := by
  unfold sp__law_is_behind w__law_is_behind
  obtain ⟨p0, hp⟩ := hp
  obtain ⟨q0, hq⟩ := hq
  unfold Sz at hp hq
  walk_at "go"
  refine kind_ev p0 ?_
  walk_at "go"
  refine kind_ev q0 ?_
  walk_at "go"
  by_cases c1 : SO.kd p = SO.kd q
  · rw [decide_eq_true c1]
    walk_at "go"
    have c2 : ¬ p.1 * q.2 - p.2 * q.1 < 0 := by
      rcases ho with z | ⟨_, z⟩
      · omega
      · unfold SO.cr at z
        omega
    rw [decide_eq_false c2]
    exact h
  · rw [decide_eq_false c1]
    walk_at "go"
    have c2 : ¬ SO.kd q < SO.kd p := by rcases ho with z | ⟨z, _⟩ <;> omega
    rw [decide_eq_false c2]
    exact h
theorem inord_ev {l : List SO.P} (hl : ∀ p ∈ l, SO.nz p ∧ Sz 400000000000000000000 p) (hn : l.length ≤ 100) (h : Q (.bl true) μ) : sp__law_in_order [.lst (l.map pd), .lst ((SO.S l).map ptd)] μ Q Xd := by
  unfold sp__law_in_order w__law_in_order
  have ln : (SO.S l).length = l.length := (SO.S_perm l).length_eq
  walk_at "dl"
  refine lc_mp (α := SO.P) pd (fun p hp ds acc ha hK => ?_) (by omega) ?_
  · walk_at "dl"
    refine pp_ev ?_
    walk_at "dl"
    exact ⟨ha, hK⟩
  walk_at "dl"
  refine lc_filter (α := SO.P) (fun _ => false) (fun _ => .int 1) (fun w hw ds acc ha ht hf => ?_) (by omega) ?_
  · walk_at "dl"
    refine cnt_pl (P5_pds _) rfl ?_
    walk_at "dl"
    refine cnt_pl (P5_pds _) rfl ?_
    walk_at "dl"
    have e : ((SO.S l).map pd).countP (fun d => deq d (pd w)) = (l.map pd).countP (fun d => deq d (pd w)) := ((SO.S_perm l).map pd).countP_eq _
    rw [e, decide_eq_true rfl]
    walk_at "dl"
    exact hf rfl
  walk_at "dl"
  refine eq_none (P5_ones _) (by simp) ?_
  walk_at "dl"
  rw [List.length_map, List.length_map, ln, decide_eq_true rfl]
  walk_at "dl"
  have e0 : (((SO.S l).map pd).length : Int) - 1 = (l.length : Int) - 1 := by rw [List.length_map, ln]
  rw [e0]
  refine ⟨by omega, by omega, ?_⟩
  show lcL _ _ _ _ ((List.range ((l.length : Int) - 1).toNat).map fun i => D.int (0 + (i : Nat))) [] _ _
  have so := SO.S_sorted (l := l) fun q hq => (hl q hq).1
  refine lc_filter (α := Nat) (fun _ => false) (fun i => .int (i : Nat)) (fun i hi ds acc ha ht hf => ?_) (by rw [List.length_range]; omega) ?_
  · have hi := List.mem_range.mp hi
    have j0 : i < (SO.S l).length := by omega
    have j1 : i + 1 < (SO.S l).length := by omega
    have e2 : (0 + (i : Int)) + 1 = ((i + 1 : Nat) : Int) := by omega
    have f0 : atI ((SO.S l).map pd) (i : Int) = some (pd (SO.S l)[i]) := by rw [DL.atI_nat, List.getElem?_map, List.getElem?_eq_getElem j0]; rfl
    have f1 : atI ((SO.S l).map pd) ((i + 1 : Nat) : Int) = some (pd (SO.S l)[i + 1]) := by rw [DL.atI_nat, List.getElem?_map, List.getElem?_eq_getElem j1]; rfl
    walk_at "dl"
    rw [Int.zero_add (i : Int), f0]
    walk_at "dl"
    rw [Int.zero_add] at e2
    rw [e2, f1]
    walk_at "dl"
    refine behind_ev (hl _ (SO.S_mem.mp (List.getElem_mem j0))) (hl _ (SO.S_mem.mp (List.getElem_mem j1))) (List.pairwise_iff_getElem.mp so i (i + 1) j0 j1 (by omega)) ?_
    walk_at "dl"
    exact hf rfl
  walk_at "dl"
  refine eq_none (P5_ints (fun i : Nat => (i : Int)) _) (by simp) ?_
  walk_at "dl"
  refine forL_pre (f := pd) (l := l) (fun pre ρ μ' => μ' = μ ∧ ∃ s3, ρ = [.v (.lst (l.map pd)), .v (.lst ((SO.S l).map ptd)), .v (.lst ((SO.S l).map pd)), s3, .no, .no, .no]) (fun pre w post hl' ρ μ' K hI hK => ?_) (fun ρ μ' hI => ?_) ⟨rfl, _, rfl⟩
  · obtain ⟨rfl, s3, rfl⟩ := hI
    have hw := hl w (by rw [hl']; simp)
    walk_at "dl"
    refine lc_filter (α := SO.P) (l := SO.S l) (fun q => decide (SO.same q w)) pd (fun q hq ds acc ha ht hf => ?_) (by omega) ?_
    · walk_at "dl"
      refine way_ev (hl q (SO.S_mem.mp hq)).2 hw.2 ?_
      walk_at "dl"
      by_cases c : SO.same q w
      · rw [decide_eq_true c]
        walk_at "dl"
        exact ⟨ha, ht (decide_eq_true c)⟩
      · rw [decide_eq_false c]
        walk_at "dl"
        exact hf (decide_eq_false c)
    walk_at "dl"
    refine lc_filter (α := SO.P) (l := l) (fun q => decide (SO.same q w)) pd (fun q hq ds acc ha ht hf => ?_) (by omega) ?_
    · walk_at "dl"
      refine way_ev (hl q hq).2 hw.2 ?_
      walk_at "dl"
      by_cases c : SO.same q w
      · rw [decide_eq_true c]
        walk_at "dl"
        exact ⟨ha, ht (decide_eq_true c)⟩
      · rw [decide_eq_false c]
        walk_at "dl"
        exact hf (decide_eq_false c)
    walk_at "dl"
    rw [SO.S_same, eq_pds, decide_eq_true rfl]
    walk_at "dl"
    exact hK _ _ ⟨rfl, _, rfl⟩
  · obtain ⟨rfl, s3, rfl⟩ := hI
    walk_at "dl"
    exact h
/-- a thing that is no direction -/
def Bad (c : Str) (d : D) : Prop := ∀ {Q : D → Mu → Prop} {Xd : XD} {μ : Mu}, Xd c ["thing"] [d] μ → sp_direction_of [d] μ Q Xd
theorem bad_no {d : D} (hd : NoP d) : Bad "InvalidPoint" d := fun h => by
  unfold sp_direction_of w_direction_of
  walk_at "dl"
  refine pair_no hd ?_
  walk_at "dl"
  exact h
theorem bad_0 : Bad "NoDirection" (pr 0 0) := fun h => by
  unfold sp_direction_of w_direction_of
  walk_at "dl"
  refine pair_ev isP_pr ?_
  walk_at "dl"
  exact h
theorem ko_x {c : Str} {d : D} (hb : Bad c d) (h : Xd c ["thing"] [d] μ) : sp_kind_of [d] μ Q Xd := by
  unfold sp_kind_of w_kind_of
  walk_at "dl"
  refine hb ?_
  walk_at "dl"
  exact h
theorem low_x {c : Str} {d : D} (hb : Bad c d) (h : Xd c ["thing"] [d] μ) : sp_lowest [d] μ Q Xd := by
  unfold sp_lowest w_lowest
  walk_at "dl"
  refine hb ?_
  walk_at "dl"
  exact h
theorem lc_lead {α : Type} {g : WG} {tt : WT} {te : WE} {ρw : DS} {f : α → D} {rest : List D} (h : α → D) : ∀ {l : List α} {acc : List D}, (∀ a ∈ l, ∀ ds acc, acc.length < 1000000 → lcL g tt te ρw ds (acc ++ [h a]) μ Q → g (f a) ρw μ (KLc1 g tt te ρw ds acc Q)) → acc.length + l.length ≤ 1000000 →
    lcL g tt te ρw rest (acc ++ l.map h) μ Q → lcL g tt te ρw (l.map f ++ rest) acc μ Q
  | [], acc, _, _, fin => by simpa using fin
  | a :: l, acc, step, hl, fin => by
    rw [List.length_cons] at hl
    rw [List.map_cons, List.cons_append, r_lcc]
    refine step a List.mem_cons_self _ _ (by omega) (lc_lead h (fun b hb => step b (List.mem_cons_of_mem _ hb)) (by rw [List.length_append, List.length_singleton]; omega) ?_)
    simpa using fin
theorem sa_x {c : Str} {d : D} {rr : List D} {l : List SO.P} (hb : Bad c d) (hl : ∀ p ∈ l, SO.nz p) (hn : l.length ≤ 100) (h : Xd c ["thing"] [d] μ) : sp_sorted_around [.lst (l.map pd ++ d :: rr)] μ Q Xd := by
  unfold sp_sorted_around w_sorted_around
  walk_at "dl"
  refine lc_lead (α := SO.P) pd (fun p hp ds acc ha hK => ?_) (by rw [List.length_nil]; omega) ?_
  · walk_at "dl"
    refine dir_ev isP_pr (hl p hp) ?_
    walk_at "dl"
    exact ⟨ha, hK⟩
  rw [r_lcc]
  walk_at "dl"
  refine hb ?_
  walk_at "dl"
  exact h
theorem asked_x {c w : Str} {d : D} {p : PyData} (hb : Bad c d) (hp : toP d = some p) (hr : reprC p) (hc : (c = "NoDirection" ∧ w = "none") ∨ (c = "InvalidPoint" ∧ w = "point")) (h : Q (.tup [.str w, .str p.shown]) μ) :
    sp__law_asked [.int 0, d] μ Q Xd ∧ sp__law_asked [.int 1, d] μ Q Xd ∧ ∀ (l : List SO.P) (rr : List D), (∀ p ∈ l, SO.nz p) → l.length ≤ 100 → sp__law_asked [.int 2, .lst (l.map pd ++ d :: rr)] μ Q Xd := by
  have er : ∀ K : D → Mu → Prop, K (.tup [.str w, .str p.shown]) μ → sp__law_error c ["thing"] [d] μ K := fun K hK => by
    unfold sp__law_error w__law_error
    rcases hc with ⟨rfl, rfl⟩ | ⟨rfl, rfl⟩
    · walk_at "dl"
      refine ⟨by decide +kernel, p, hp, hr, ?_⟩
      walk_at "dl"
      exact hK
    · walk_at "dl"
      refine ⟨by decide +kernel, p, hp, hr, ?_⟩
      walk_at "dl"
      exact hK
  have ct : catF catL_FillError c = some true := by rcases hc with ⟨rfl, rfl⟩ | ⟨rfl, rfl⟩ <;> decide +kernel
  refine ⟨?_, ?_, fun l rr hl hn => ?_⟩ <;> unfold sp__law_asked w__law_asked <;> walk_at "dl"
  · refine ko_x hb ?_
    walk_at "dl"
    rw [ct]
    walk_at "dl"
    exact er _ (by walk_at "dl"; exact h)
  · refine low_x hb ?_
    walk_at "dl"
    rw [ct]
    walk_at "dl"
    exact er _ (by walk_at "dl"; exact h)
  · refine sa_x hb hl hn ?_
    walk_at "dl"
    rw [ct]
    walk_at "dl"
    exact er _ (by walk_at "dl"; exact h)
theorem low_facts {x y : Int} (h : SO.nz (x, y)) (hz : Sz 400000000000000000000 (x, y)) : SO.nz (x / Int.gcd x y, y / Int.gcd x y) ∧ Sz 400000000000000000000 (x / Int.gcd x y, y / Int.gcd x y) ∧ Int.gcd (x / Int.gcd x y) (y / Int.gcd x y) = 1 ∧ SO.same (x / Int.gcd x y, y / Int.gcd x y) (x, y) := by
  have g0 : 0 < Int.gcd x y := by
    unfold SO.nz at h
    simp only at h
    by_cases c : x = 0
    · exact Int.gcd_pos_of_ne_zero_right _ (by omega)
    · exact Int.gcd_pos_of_ne_zero_left _ (by omega)
  have g1 := Int.gcd_ediv_gcd_ediv_gcd g0
  have ex := Int.ediv_mul_cancel (Int.gcd_dvd_left x y)
  have ey := Int.ediv_mul_cancel (Int.gcd_dvd_right x y)
  generalize x / (Int.gcd x y : Int) = a at *
  generalize y / (Int.gcd x y : Int) = b at *
  generalize (Int.gcd x y) = g at *
  have nz : SO.nz (a, b) := by
    unfold SO.nz at h ⊢
    simp only at h ⊢
    intro z
    rw [z.1, Int.zero_mul] at ex
    rw [z.2, Int.zero_mul] at ey
    omega
  have le : ∀ u v : Int, u * (g : Int) = v → u.natAbs ≤ v.natAbs := fun u v e => by
    rw [← e, Int.natAbs_mul]
    exact Nat.le_mul_of_pos_right _ (by omega)
  have la := le a x ex
  have lb := le b y ey
  unfold Sz at hz ⊢
  simp only at hz ⊢
  refine ⟨nz, by omega, g1, ?_, ?_⟩
  · show a * y = b * x
    rw [← ex, ← ey, ← Int.mul_assoc, ← Int.mul_assoc, Int.mul_comm a b]
  · show 0 < a * x + b * y
    rw [← ex, ← ey, ← Int.mul_assoc, ← Int.mul_assoc, ← Int.add_mul]
    refine Int.mul_pos ?_ (by omega)
    have s1 : ∀ z : Int, 0 ≤ z * z ∧ (z ≠ 0 → 0 < z * z) := fun z => by
      rcases Int.lt_trichotomy z 0 with c | c | c
      · have := Int.mul_pos_of_neg_of_neg c c
        omega
      · subst c
        simp
      · have := Int.mul_pos c c
        omega
    have a1 := s1 a
    have a2 := s1 b
    unfold SO.nz at nz
    simp only at nz
    by_cases c : a = 0
    · have := a2.2 (by omega)
      omega
    · have := a1.2 c
      omega
theorem eq_due {w z : Str} (h1 : P5 (.tup [.str w, .str z]) = true) {k : Bool → Prop} : eqU (.tup [.str w, .str z]) (.tup [.str w, .str z]) k = k true := by
  rw [eqU_pl h1 h1, show deq (.tup [.str w, .str z]) (.tup [.str w, .str z]) = true from by simp [deq, deqs]]
theorem odds {d : D} (hd : d ∈ [D.tup [.int 0, .int 0], .non, .tup [.int 1], .tup [.bl true, .int 1], .str "x"]) : ∃ (c w : Str) (p : PyData), Bad c d ∧ toP d = some p ∧ reprC p ∧ P5 (.tup [.str w, .str p.shown]) = true ∧ ((c = "NoDirection" ∧ w = "none") ∨ (c = "InvalidPoint" ∧ w = "point")) ∧
    ((w = "none" ∧ ∀ k : Bool → Prop, eqU d (.tup [.int 0, .int 0]) k = k true) ∨ (w = "point" ∧ ∀ k : Bool → Prop, eqU d (.tup [.int 0, .int 0]) k = k false)) := by
  simp only [List.mem_cons, List.not_mem_nil, or_false] at hd
  rcases hd with rfl | rfl | rfl | rfl | rfl
  · exact ⟨_, _, _, bad_0, rfl, by unfold reprC; decide +kernel, by decide +kernel, .inl ⟨rfl, rfl⟩, .inl ⟨rfl, fun k => by rw [eqU_pl rfl rfl]; simp [deq, deqs]⟩⟩
  · exact ⟨_, _, _, bad_no (.inl rfl), rfl, by unfold reprC; decide +kernel, by decide +kernel, .inr ⟨rfl, rfl⟩, .inr ⟨rfl, fun k => by rw [eqU_pl rfl rfl]; simp [deq, deqs]⟩⟩
  · exact ⟨_, _, _, bad_no (.inr (.inr (.inr (.inr (.inr (.inl ⟨_, rfl, by decide⟩)))))), rfl, by unfold reprC; decide +kernel, by decide +kernel, .inr ⟨rfl, rfl⟩, .inr ⟨rfl, fun k => by rw [eqU_pl rfl rfl]; simp [deq, deqs]⟩⟩
  · exact ⟨_, _, _, bad_no (.inr (.inr (.inr (.inr (.inr (.inr (.inl ⟨_, _, rfl, .inr (.inl ⟨_, rfl⟩)⟩))))))), rfl, by unfold reprC; decide +kernel, by decide +kernel, .inr ⟨rfl, rfl⟩, .inr ⟨rfl, fun k => by rw [eqU_pl rfl rfl]; simp [deq, deqs]⟩⟩
  · exact ⟨_, _, _, bad_no (.inr (.inr (.inr (.inl ⟨_, rfl⟩)))), rfl, by unfold reprC; decide +kernel, by decide +kernel, .inr ⟨rfl, rfl⟩, .inr ⟨rfl, fun k => by rw [eqU_pl (by decide +kernel) rfl]; simp [deq, deqs]⟩⟩
def NO (s : Sl) : Prop := s = .no ∨ ∃ d, s = .v d
theorem NO.ok {s : Sl} (h : NO s) : (match some s with | some (.own _ _) => False | _ => True) := by rcases h with rfl | ⟨d, rfl⟩ <;> trivial
def Iv (ns : List Int) (ρ : DS) (_ : Mu) : Prop := ∃ s1 s2 s3 s4 s5 s6 s7 s8 s9 s10, NO s10 ∧ ρ = [.v (.frl (ns.map D.int)), s1, s2, s3, s4, s5, s6, s7, s8, s9, s10]
theorem law_ev {ns : List Int} (hl : ns.length ≤ 63) (h : ∀ μ, Q (.bl true) μ) : sp_law [.frl (ns.map D.int)] [] Q Xd := by
  unfold sp_law w_law
  walk_at "dl"
  obtain ⟨t1, t2, t3⟩ := turns_ok (n := (ns.map D.int).length) (m := 8) (by decide)
  refine ⟨t1, t2, ?_⟩
  change forL _ _ _ (rangeD 0 (turns (ns.map D.int).length 8).toNat) _ _
  refine forL_inv (Iv ns) (fun ρ μ hI => ?_) (fun d hd ρ μ K hI hK => ?_) ?_
  · walk_at "dl"
    exact h _
  · obtain ⟨i, hi, rfl⟩ := mem_range hd
    obtain ⟨s1, s2, s3, s4, s5, s6, s7, s8, s9, s10, n10, rfl⟩ := hI
    walk_at "dl"
    refine hand_ev hl (by omega) (by omega) fun p q ok => ?_
    walk_at "dl"
    refine draw_ev ok (by decide) (by unfold Bd; omega) fun r p1 q1 ok1 r0 r1 => ?_
    walk_at "dl"
    obtain ⟨n, rfl⟩ := Int.eq_ofNat_of_zero_le r0
    refine ⟨by omega, by omega, n10.ok, ?_⟩
    rw [Int.toNat_natCast]
    refine lc_pool (α := SO.P) (f := pd) (fun _ d => SO.nz d ∧ Sz 400000000000000000000 d) (by omega) (fun i' hi' p q ok K hK => ?_) (fun l hll hP p2 q2 ok2 => ?_) ok1
    · walk_at "dl"
      refine ldir_ev ok fun d p' q' ok' dz ds => ?_
      walk_at "dl"
      exact hK _ _ _ ok' ⟨dz, ds⟩
    have hl' : ∀ d ∈ l, SO.nz d ∧ Sz 400000000000000000000 d := fun d hd => by
      obtain ⟨j, hj⟩ := List.getElem?_of_mem hd
      exact hP j d hj
    have bp : ∀ p ∈ l, SO.nz p ∧ Bp p := fun p hp => by
      have := (hl' p hp).2
      unfold Sz at this
      exact ⟨(hl' p hp).1, by unfold Bd; omega, by unfold Bd; omega⟩
    walk_at "dl"
    generalize pl μ p2 q2 = μ2
    refine forL_pre (f := pd) (l := l) (fun pre ρ μ' => μ' = μ2 ∧ ∃ (s4' s7' s8' : Sl), ρ = [.v (.frl (ns.map D.int)), .v (.int (0 + i)), .v (.loc μ.length), .v (.lst (l.map pd)), s4', s5, s6, s7', s8', s9, s10])
      (fun pre d post hl2 ρ μ' K2 hI hK2 => ?_) (fun ρ μ' hI => ?_) ⟨rfl, _, _, _, rfl⟩
    · obtain ⟨rfl, s4', s7', s8', rfl⟩ := hI
      obtain ⟨dz, ds⟩ := hl' d (by rw [hl2]; simp)
      obtain ⟨x, y⟩ := d
      obtain ⟨lz, ls, lg, lw⟩ := low_facts dz ds
      have b1 := ds
      have b2 := ls
      unfold Sz at b1 b2
      simp only at b1 b2
      walk_at "go"
      refine ko_ev isP_pr dz ?_
      walk_at "go"
      refine kind_ev (d := (x, y)) dz ?_
      walk_at "go"
      try rw [decide_eq_true rfl]
      walk_at "go"
      refine point_init ?_
      walk_at "go"
      refine ko_ev isP_pt dz ?_
      walk_at "go"
      refine kind_ev (d := (x, y)) dz ?_
      walk_at "go"
      try rw [decide_eq_true rfl]
      walk_at "go"
      refine low_ev isP_pr dz (by unfold Bd; omega) (by unfold Bd; omega) ?_
      walk_at "go"
      refine pp_ev ?_
      walk_at "go"
      refine way_ev (p := (x / Int.gcd x y, y / Int.gcd x y)) (q := (x, y)) ls ds ?_
      walk_at "go"
      rw [decide_eq_true lw]
      walk_at "go"
      refine low_ev isP_pr lz (by unfold Bd; omega) (by unfold Bd; omega) ?_
      walk_at "go"
      refine pp_ev ?_
      walk_at "go"
      rw [lg, show ((1 : Nat) : Int) = 1 from rfl, Int.ediv_one, Int.ediv_one]
      try rw [decide_eq_true rfl]
      walk_at "go"
      refine point_init ?_
      walk_at "go"
      refine add_ev isP_pr ?_
      rw [Int.zero_add x, Int.zero_add y]
      walk_at "go"
      refine low_ev isP_pt dz (by unfold Bd; omega) (by unfold Bd; omega) ?_
      walk_at "go"
      refine pp_ev ?_
      walk_at "dn"
      try rw [decide_eq_true rfl]
      walk_at "dn"
      generalize x / (Int.gcd x y : Int) = a at *
      generalize y / (Int.gcd x y : Int) = b at *
      refine forL_rng (lo := 2) (n := 7) (fun j ρ μ'' => μ'' = μ' ∧ ∃ s8', ρ = [.v (.frl (ns.map D.int)), .v (.int (0 + i)), .v (.loc μ.length), .v (.lst (l.map pd)), .v (pd (x, y)), s5, s6, .v (pr a b), s8', s9, s10]) (fun j hj ρ μ'' K3 hI hK3 => ?_) (fun ρ μ'' hI => ?_) ⟨rfl, _, rfl⟩
      · obtain ⟨rfl, s8'', rfl⟩ := hI
        walk_at "go"
        by_cases c1 : a % (2 + (j : Int)) = 0
        · by_cases c2 : b % (2 + (j : Int)) = 0
          · exfalso
            have d := Int.dvd_coe_gcd (Int.dvd_of_emod_eq_zero c1) (Int.dvd_of_emod_eq_zero c2)
            rw [lg] at d
            have := Int.le_of_dvd (by decide) d
            omega
          · rw [decide_eq_true c1]
            walk_at "go"
            rw [decide_eq_false c2]
            walk_at "go"
            exact hK3 _ _ ⟨rfl, _, rfl⟩
        · rw [decide_eq_false c1]
          walk_at "go"
          exact hK3 _ _ ⟨rfl, _, rfl⟩
      · obtain ⟨rfl, s8'', rfl⟩ := hI
        walk_at "go"
        exact hK2 _ _ ⟨rfl, _, _, _, rfl⟩
    · obtain ⟨rfl, s4', s7', s8', rfl⟩ := hI
      walk_at "dl"
      refine sa_ev (f := pd) (fun p => isP_pr) bp (by omega) ?_
      walk_at "dl"
      refine inord_ev hl' (by omega) ?_
      walk_at "dl"
      rw [eq_pds, decide_eq_true rfl]
      walk_at "dl"
      refine forL_inv (fun ρ _ => ∃ (s6' s9' : Sl), ρ = [.v (.frl (ns.map D.int)), .v (.int (0 + i)), .v (.loc μ.length), .v (.lst (l.map pd)), s4', .v (.lst (l.map pd)), s6', s7', s8', s9', s10]) (fun ρ μ' hI => ?_) (fun d hd ρ μ' K2 hI hK2 => ?_) ⟨_, _, rfl⟩
      · obtain ⟨s6', s9', rfl⟩ := hI
        exact hK _ _ ⟨_, _, _, _, _, _, _, _, _, _, n10, rfl⟩
      · obtain ⟨s6', s9', rfl⟩ := hI
        obtain ⟨c, w, p, hb, hp, hr, h5, hc, he⟩ := odds hd
        have ln : (l.map pd).length + 2 ≤ sizeLine := by rw [List.length_map, sizeLine_eq]; omega
        walk_at "dl"
        rcases he with ⟨rfl, he⟩ | ⟨rfl, he⟩ <;> rw [he] <;> walk_at "dl"
        · refine ⟨p, hp, hr, ?_⟩
          walk_at "dl"
          refine (asked_x hb hp hr hc ?_).1
          walk_at "dl"
          rw [eq_due h5]
          walk_at "dl"
          refine (asked_x hb hp hr hc ?_).2.1
          walk_at "dl"
          rw [eq_due h5]
          walk_at "dl"
          refine ⟨ln, (asked_x hb hp hr hc ?_).2.2 l _ (fun p hp => (hl' p hp).1) (by omega)⟩
          walk_at "dl"
          rw [eq_due h5]
          walk_at "dl"
          exact hK2 _ _ ⟨_, _, rfl⟩
        · refine ⟨p, hp, hr, ?_⟩
          walk_at "dl"
          refine (asked_x hb hp hr hc ?_).1
          walk_at "dl"
          rw [eq_due h5]
          walk_at "dl"
          refine (asked_x hb hp hr hc ?_).2.1
          walk_at "dl"
          rw [eq_due h5]
          walk_at "dl"
          refine ⟨ln, (asked_x hb hp hr hc ?_).2.2 l _ (fun p hp => (hl' p hp).1) (by omega)⟩
          walk_at "dl"
          rw [eq_due h5]
          walk_at "dl"
          exact hK2 _ _ ⟨_, _, rfl⟩
  · exact ⟨_, _, _, _, _, _, _, _, _, _, .inl rfl, rfl⟩
end
end K02

set_option Elab.async false
set_option linter.all false
set_option maxRecDepth 100000
set_option maxHeartbeats 0
namespace K02
open PySem PySem.Spec PyProof.Rows L2 DL
theorem law_at {P : Program} {w : World} {K : PySem.W.Frag} {mg : Str → Option Value} {h : Heap} {f : Addr} (X : K.In h) (G : h.Ns mainGlobals mg) (hm : mg ("law" : Str) = some (.ref f)) (c : SaysY fa fn exB K) :
    ∃ fd : FuncData, (∀ (s : Shared) (v : Value), BindsTo s fd ⟨[v], []⟩ [("script", v)]) ∧ ∀ base : Heap, K.In base → base.Ns mainGlobals mg → FnG P w K mg base 8 f fd ["script"] (toSp ⟨K, mg, none⟩ sp_law) := by
  have A : Hd K mg := ⟨c.d, c.more, h, X, G⟩
  obtain ⟨fd, F⟩ := A.c.def_ 27
  have e := hm.symm.trans A.g_law
  cases e
  have b := FunD.bindsA (ps := ["script"]) F fun _ _ _ _ _ _ us hl => match us, hl with | [_], _ => rfl
  exact ⟨fd, fun s v => b s [v] rfl, fun base _ _ => def_ok F sc_law (fun ds μ Q Xd h => h.1) (fun cdv A2 fr s H E hr hgd => d_law A hr hgd) fun ds μ Q Xd h => h.2⟩
end K02
open PySem PySem.W PySem.Calls PyProof.Rows
theorem PySem.Challenge.cw_filledonce_k02_directions_holds : PySem.Challenge.rw_filledonce_k02_directions.Holds := by
  w_on; o_law
  refine HandSHeadRun.head_any (r := OpenLaw.row PySem.Challenge.rw_filledonce_k02_directions) (q := view (OpenLaw.row PySem.Challenge.rw_filledonce_k02_directions).prog [35]) (H := K02.hk) (ob := K02.ob) (M := 5000) (loose := K02.loose) (d := HandSHeadRun.topDef (OpenLaw.row PySem.Challenge.rw_filledonce_k02_directions).prog 35) (kwd := []) K02.ob_eq
    (by kernel_rfl) (fun s => by kernel_rfl) K02.run (by kernel_rfl) (by kernel_rfl) (by kernel_rfl) (by rfl) (by first | assumption | decide +kernel) (by decide +kernel) ⟨rfl, rfl, rfl, rfl, rfl, by decide +kernel⟩ ?hw ?hc
  case hw => w_witness2
  case hc =>
    refine DL.walk_ofD (l := PySem.Challenge.rw_filledonce_k02_directions) (n := 63) (k := 8) (x := "script") (sp := K02.sp_law) rfl (by decide) (by kernel_rfl) ⟨rfl, by decide, by decide⟩ ?F fun ns hl => K02.law_ev hl fun _ => rfl
    intro w mg fa h Y G hmg0
    obtain ⟨K, KX, c⟩ := Y
    have hmg : mg ("law" : PySem.Str) = some (.ref fa) := by
      have e : (HandSHeadRun.topDef (OpenLaw.row PySem.Challenge.rw_filledonce_k02_directions).prog 35).name = ("law" : PySem.Str) := by kernel_rfl
      rw [← e]
      exact hmg0
    obtain ⟨fd, hb, hF⟩ := K02.law_at (P := (PySem.Challenge.rw_filledonce_k02_directions).prog) (w := w) KX G hmg c
    exact ⟨K, fd, KX, hb, hF⟩

