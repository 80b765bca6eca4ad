import PyProof.Rows.All
import PyProof.Rows.TupTab
import Wide.All
import OpenK.AllK
import Wide.FinOn
import HandS.ForMost
import HandS.Exc
import HandS.ExcInit
import HandS.ExcField
import HandS.ExcIs
import HandS.TryOnly
import HandS.WordsExc
import HandS.IsInst
import HandS.Wide
import HandS.WideMore
import HandS.Walk
import HandS.Zip
import HandS.Style
import HandS.RaiseMore
import HandS.Deep
import HandS.Defaults
import HandS.HeadHook2
import KE.KOpsOwn
import HandS.NoneIn
import HandS.Property
import HandS.ClsMeth
import HandS.SlotsOwn
import HandS.Ends
import HandS.HeadEnd
import HandS.HeadHook4
import HandS.Head2
import KE.KExcIs
import PyProof.CallFns
import PyProof.ReprRoads
import HandS.HeadNt
import HandS.Spec
import HandS.Head0
import HandS.Head1
import PyProof.InstNe
import HandS.OwnEq
import HandS.HotCalls
import PyProof.NeKinds
import HandS.Star
import HandS.SetFor
import KE.DataFind
import OpenK.KMake
import HandS.SortInts
import PySem.Challenge.RW_filledonce_k85_histories
import HandS.GenList
import HandS.MakeKwOnly
import HandS.Iter
import HandS.TupLe
import HandS.TupAny
import HandS.DictComp
import HandS.Steps
import HandS.WordsDict
import HandS.Small
import PyProof.EqKinds
import PyProof.FactsAll.NoneType
import KE.KStateDown
import Lean
set_option Elab.async false
set_option linter.all false
set_option maxRecDepth 100000
set_option maxHeartbeats 4000000
set_option autoImplicit false
/-! The value layer: data in place of the heap. -/
namespace DL
open PySem PySem.Spec PyProof.Rows L2

/-- a datum: what a value is worth -/
inductive D where
  | non | bl (b : Bool) | int (i : Int) | str (s : Str)
  | tup (ds : List D) | lst (ds : List D)
  /-- a list that is known to the object (the script) -/
  | frl (ds : List D)
  /-- an instance that is not changed any more: its class, its attributes' names and values -/
  | obj (c : Str) (ks : List Str) (ds : List D)
  /-- a changeable thing, by its number -/
  | loc (n : Nat)
  | ty (n : String) | cls (c : Str)
  /-- any tracked thing -/
  | opq (o : HO)
/-- a changeable thing -/
inductive Cell where
  | lst (ds : List D)
  | ins (c : Str) (ks : List Str) (ds : List D)
  /-- a pool of draws -/
  | pool
  /-- a dict from ints to ints -/
  | dct (kvs : List (Int × Int))
  /-- a dict of texts: its keys in their order, their values -/
  | dic (ks : List Str) (ds : List D)
/-- a slot: empty, a datum, or a thing of the def's own that is being filled -/
inductive Sl where
  | no | v (d : D) | own (a : Addr) (c : Cell)
  /-- the exception that a suite holds -/
  | exn (c : Str) (ks : List Str) (ds : List D)
structure Gx where
  K : PySem.W.Frag
  mg : Str → Option Value
  ex : Option (Addr × Addr × Addr)
def PoolOk (p q : Int) : Prop := 0 ≤ p ∧ 0 ≤ q ∧ q < 2147483647

mutual
def Rep (G : Gx) (m : List Addr) (E : Hp) : D → V → Prop
  | .non, v => v = .non
  | .bl b, v => v = .bl b
  | .int i, v => v = .int i
  | .str s, v => v = .str s
  | .ty n, v => v = .ty n
  | .cls c, v => ∃ C, G.mg c = some (.ref C) ∧ v = .ref C
  | .tup ds, v => ∃ a vs, v = .ref a ∧ SqT G.K E a vs ∧ Reps G m E ds vs
  | .lst ds, v => ∃ a vs, v = .ref a ∧ E a = some (.lst vs) ∧ Reps G m E ds vs
  | .frl ds, v => ∃ a vs, v = .ref a ∧ SqL G.K E a vs ∧ Reps G m E ds vs
  | .obj c ks ds, v => ∃ a C dx vs, v = .ref a ∧ G.mg c = some (.ref C) ∧ E a = some (.ins C dx (ks.zip vs)) ∧ ks.length = ds.length ∧ Reps G m E ds vs
  | .loc n, v => ∃ a, v = .ref a ∧ m[n]? = some a
  | .opq o, v => ∃ a, v = .ref a ∧ E a = some o
def Reps (G : Gx) (m : List Addr) (E : Hp) : List D → List V → Prop
  | [], vs => vs = []
  | d :: ds, vs => ∃ v r, vs = v :: r ∧ Rep G m E d v ∧ Reps G m E ds r
end

theorem SqT.same {K : PySem.W.Frag} {H H' : Hp} {a : Addr} {xs : List V} (e : Same H H') (h : SqT K H a xs) : SqT K H' a xs := by
  rcases h with (h | ⟨o, h⟩) | h
  · exact .inl (.inl (e _ _ h))
  · exact .inl (.inr ⟨o, e _ _ h⟩)
  · exact .inr h
theorem pre_get {m m' : List Addr} {n : Nat} {a : Addr} (hp : m <+: m') (h : m[n]? = some a) : m'[n]? = some a := by
  obtain ⟨e, rfl⟩ := hp
  obtain ⟨hl, _⟩ := List.getElem?_eq_some_iff.mp h
  rw [List.getElem?_append_left hl]
  exact h
mutual
theorem Rep.mono {G : Gx} {m m' : List Addr} {E E' : Hp} (hp : m <+: m') (he : Same E E') : ∀ (d : D) (v : V), Rep G m E d v → Rep G m' E' d v
  | .non, v, r => by rw [Rep] at r ⊢; exact r
  | .bl b, v, r => by rw [Rep] at r ⊢; exact r
  | .int i, v, r => by rw [Rep] at r ⊢; exact r
  | .str s, v, r => by rw [Rep] at r ⊢; exact r
  | .ty n, v, r => by rw [Rep] at r ⊢; exact r
  | .cls c, v, r => by rw [Rep] at r ⊢; exact r
  | .tup ds, v, r => by
    rw [Rep] at r ⊢
    obtain ⟨a, vs, e, s, q⟩ := r
    exact ⟨a, vs, e, SqT.same he s, Reps.mono hp he _ _ q⟩
  | .lst ds, v, r => by
    rw [Rep] at r ⊢
    obtain ⟨a, vs, e, s, q⟩ := r
    exact ⟨a, vs, e, he _ _ s, Reps.mono hp he _ _ q⟩
  | .frl ds, v, r => by
    rw [Rep] at r ⊢
    obtain ⟨a, vs, e, s, q⟩ := r
    exact ⟨a, vs, e, Same.seq he s, Reps.mono hp he _ _ q⟩
  | .obj c ks ds, v, r => by
    rw [Rep] at r ⊢
    obtain ⟨a, C, dx, vs, e, g, s, l, q⟩ := r
    exact ⟨a, C, dx, vs, e, g, he _ _ s, l, Reps.mono hp he _ _ q⟩
  | .loc n, v, r => by
    rw [Rep] at r ⊢
    obtain ⟨a, e, s⟩ := r
    exact ⟨a, e, pre_get hp s⟩
  | .opq o, v, r => by
    rw [Rep] at r ⊢
    obtain ⟨a, e, s⟩ := r
    exact ⟨a, e, he _ _ s⟩
theorem Reps.mono {G : Gx} {m m' : List Addr} {E E' : Hp} (hp : m <+: m') (he : Same E E') : ∀ (ds : List D) (vs : List V), Reps G m E ds vs → Reps G m' E' ds vs
  | [], vs, r => by rw [Reps] at r ⊢; exact r
  | d :: ds, vs, r => by
    rw [Reps] at r ⊢
    obtain ⟨v, t, e, s, q⟩ := r
    exact ⟨v, t, e, Rep.mono hp he _ _ s, Reps.mono hp he _ _ q⟩
end
theorem Reps.len {G : Gx} {m : List Addr} {E : Hp} : ∀ {ds : List D} {vs : List V}, Reps G m E ds vs → ds.length = vs.length
  | [], vs, r => by rw [Reps] at r; rw [r]; rfl
  | d :: ds, vs, r => by
    rw [Reps] at r
    obtain ⟨v, t, e, _, q⟩ := r
    rw [e, List.length_cons, List.length_cons, Reps.len q]
theorem Reps.nil {G : Gx} {m : List Addr} {E : Hp} : Reps G m E [] [] := by rw [Reps]
theorem Reps.cons {G : Gx} {m : List Addr} {E : Hp} {d : D} {ds : List D} {v : V} {vs : List V} (h : Rep G m E d v) (t : Reps G m E ds vs) : Reps G m E (d :: ds) (v :: vs) := by
  rw [Reps]; exact ⟨v, vs, rfl, h, t⟩
theorem Reps.uncons {G : Gx} {m : List Addr} {E : Hp} {d : D} {ds : List D} {vs : List V} (h : Reps G m E (d :: ds) vs) : ∃ v r, vs = v :: r ∧ Rep G m E d v ∧ Reps G m E ds r := by
  rw [Reps] at h; exact h
theorem Reps.get {G : Gx} {m : List Addr} {E : Hp} : ∀ {ds : List D} {vs : List V} {i : Nat} {d : D}, Reps G m E ds vs → ds[i]? = some d → ∃ v, vs[i]? = some v ∧ Rep G m E d v
  | [], _, _, _, _, h => by simp at h
  | d0 :: ds, vs, 0, d, r, h => by
    obtain ⟨v, t, rfl, q, _⟩ := r.uncons
    simp at h; subst h
    exact ⟨v, rfl, q⟩
  | d0 :: ds, vs, i + 1, d, r, h => by
    obtain ⟨v, t, rfl, _, q⟩ := r.uncons
    obtain ⟨u, e, s⟩ := Reps.get (i := i) (d := d) q (by simpa using h)
    exact ⟨u, by simpa using e, s⟩
theorem Reps.get' {G : Gx} {m : List Addr} {E : Hp} {ds : List D} {vs : List V} {i : Nat} {v : V} (r : Reps G m E ds vs) (h : vs[i]? = some v) : ∃ d, ds[i]? = some d ∧ Rep G m E d v := by
  obtain ⟨hl, _⟩ := List.getElem?_eq_some_iff.mp h
  have hd : i < ds.length := by rw [r.len]; exact hl
  obtain ⟨u, e, s⟩ := r.get (List.getElem?_eq_getElem hd)
  rw [h] at e; cases e
  exact ⟨_, List.getElem?_eq_getElem hd, s⟩
theorem Reps.append {G : Gx} {m : List Addr} {E : Hp} : ∀ {ds es : List D} {vs us : List V}, Reps G m E ds vs → Reps G m E es us → Reps G m E (ds ++ es) (vs ++ us)
  | [], es, vs, us, r, q => by rw [Reps] at r; subst r; exact q
  | d :: ds, es, vs, us, r, q => by
    obtain ⟨v, t, rfl, h, r'⟩ := r.uncons
    exact Reps.cons h (Reps.append r' q)
theorem Reps.take {G : Gx} {m : List Addr} {E : Hp} : ∀ {ds : List D} {vs : List V} (n : Nat), Reps G m E ds vs → Reps G m E (ds.take n) (vs.take n)
  | ds, vs, 0, r => by simp [Reps]
  | [], vs, n + 1, r => by rw [Reps] at r; subst r; simp [Reps]
  | d :: ds, vs, n + 1, r => by
    obtain ⟨v, t, rfl, h, r'⟩ := r.uncons
    exact Reps.cons h (Reps.take n r')
theorem Reps.drop {G : Gx} {m : List Addr} {E : Hp} : ∀ {ds : List D} {vs : List V} (n : Nat), Reps G m E ds vs → Reps G m E (ds.drop n) (vs.drop n)
  | ds, vs, 0, r => r
  | [], vs, n + 1, r => by rw [Reps] at r; subst r; simp [Reps]
  | d :: ds, vs, n + 1, r => by
    obtain ⟨v, t, rfl, h, r'⟩ := r.uncons
    exact Reps.drop n r'
theorem Reps.set {G : Gx} {m : List Addr} {E : Hp} {d : D} {v : V} (h : Rep G m E d v) : ∀ {ds : List D} {vs : List V} (n : Nat), Reps G m E ds vs → Reps G m E (ds.set n d) (vs.set n v)
  | [], vs, n, r => by rw [Reps] at r; subst r; simp [Reps]
  | d0 :: ds, vs, 0, r => by
    obtain ⟨u, t, rfl, _, r'⟩ := r.uncons
    exact Reps.cons h r'
  | d0 :: ds, vs, n + 1, r => by
    obtain ⟨u, t, rfl, q, r'⟩ := r.uncons
    exact Reps.cons q (Reps.set h n r')
theorem Reps.eraseIdx {G : Gx} {m : List Addr} {E : Hp} : ∀ {ds : List D} {vs : List V} (n : Nat), Reps G m E ds vs → Reps G m E (ds.eraseIdx n) (vs.eraseIdx n)
  | [], vs, n, r => by rw [Reps] at r; subst r; simp [Reps]
  | d0 :: ds, vs, 0, r => by
    obtain ⟨u, t, rfl, _, r'⟩ := r.uncons
    exact r'
  | d0 :: ds, vs, n + 1, r => by
    obtain ⟨u, t, rfl, q, r'⟩ := r.uncons
    exact Reps.cons q (Reps.eraseIdx n r')
theorem Reps.reverse {G : Gx} {m : List Addr} {E : Hp} : ∀ {ds : List D} {vs : List V}, Reps G m E ds vs → Reps G m E ds.reverse vs.reverse
  | [], vs, r => by rw [Reps] at r; subst r; exact Reps.nil
  | d0 :: ds, vs, r => by
    obtain ⟨u, t, rfl, q, r'⟩ := r.uncons
    rw [List.reverse_cons, List.reverse_cons]
    exact Reps.append (Reps.reverse r') (Reps.cons q Reps.nil)
theorem Reps.map_of {G : Gx} {m : List Addr} {E : Hp} {α : Type} {f : α → D} {g : α → V} (h : ∀ x, Rep G m E (f x) (g x)) : ∀ l : List α, Reps G m E (l.map f) (l.map g)
  | [] => Reps.nil
  | x :: l => Reps.cons (h x) (Reps.map_of h l)

/-! ### what is seen of the heap: all but the hidden and the changeable -/
noncomputable def vis (W : Addr → Prop) (m : List Addr) (H : Hp) : Hp := fun b => open Classical in if W b ∨ b ∈ m then none else H b
theorem vis_some {W : Addr → Prop} {m : List Addr} {H : Hp} {b : Addr} {o : HO} : vis W m H b = some o ↔ (¬ W b ∧ b ∉ m ∧ H b = some o) := by
  unfold vis
  by_cases h : W b ∨ b ∈ m
  · rw [if_pos h]
    constructor
    · intro z; cases z
    · rintro ⟨h1, h2, _⟩
      exact absurd h (by simp [h1, h2])
  · rw [if_neg h]
    constructor
    · intro z
      exact ⟨fun q => h (.inl q), fun q => h (.inr q), z⟩
    · exact fun z => z.2.2
theorem vis_le {W : Addr → Prop} {m : List Addr} {H : Hp} : Same (vis W m H) H := fun b o h => (vis_some.mp h).2.2
def dkV (kvs : List (Int × Int)) : List (Key × V) := kvs.map fun p => (.inl p.1, .int p.2)
def skV (ks : List Str) (vs : List V) : List (Key × V) := (ks.zip vs).map fun p => (.inr p.1, p.2)
def CellOk (G : Gx) (m : List Addr) (E H : Hp) (c : Cell) (a : Addr) : Prop :=
  match c with
  | .lst ds => ∃ vs, H a = some (.lst vs) ∧ Reps G m E ds vs
  | .ins c ks ds => ∃ C dx vs, G.mg c = some (.ref C) ∧ H a = some (.ins C dx (ks.zip vs)) ∧ ks.length = ds.length ∧ Reps G m E ds vs
  | .pool => ∃ p q, PoolOk p q ∧ H a = some (.lst [.int p, .int q])
  | .dct kvs => H a = some (.dK (dkV kvs))
  | .dic ks ds => ∃ vs, H a = some (.dK (skV ks vs)) ∧ ks.length = ds.length ∧ Reps G m E ds vs
structure MuOk (G : Gx) (W : Addr → Prop) (m : List Addr) (μ : List Cell) (H : Hp) : Prop where
  len : m.length = μ.length
  nd : m.Nodup
  out : ∀ a ∈ m, ¬ W a
  hw : ∀ z, W z → H z ≠ none
  cell : ∀ (n : Nat) (c : Cell) (a : Addr), μ[n]? = some c → m[n]? = some a → CellOk G m (vis W m H) H c a
theorem CellOk.there {G : Gx} {m : List Addr} {E H : Hp} {c : Cell} {a : Addr} (h : CellOk G m E H c a) : H a ≠ none := by
  cases c with
  | lst ds => obtain ⟨_, e, _⟩ := h; rw [e]; intro z; cases z
  | ins c ks ds => obtain ⟨_, _, _, _, e, _⟩ := h; rw [e]; intro z; cases z
  | pool => obtain ⟨_, _, _, e⟩ := h; rw [e]; intro z; cases z
  | dct kvs => intro z; rw [show H a = some (.dK (dkV kvs)) from h] at z; cases z
  | dic ks ds => obtain ⟨_, e, _⟩ := h; rw [e]; intro z; cases z
theorem CellOk.keep {G : Gx} {m m' : List Addr} {E E' H H' : Hp} {c : Cell} {a : Addr} (hp : m <+: m') (he : Same E E') (e : H' a = H a) (h : CellOk G m E H c a) : CellOk G m' E' H' c a := by
  cases c with
  | lst ds =>
    obtain ⟨vs, h1, h2⟩ := h
    exact ⟨vs, e.trans h1, Reps.mono hp he _ _ h2⟩
  | ins c ks ds =>
    obtain ⟨C, dx, vs, h0, h1, hl, h2⟩ := h
    exact ⟨C, dx, vs, h0, e.trans h1, hl, Reps.mono hp he _ _ h2⟩
  | pool =>
    obtain ⟨p, q, h0, h1⟩ := h
    exact ⟨p, q, h0, e.trans h1⟩
  | dct kvs => exact e.trans h
  | dic ks ds =>
    obtain ⟨vs, h1, hl, h2⟩ := h
    exact ⟨vs, e.trans h1, hl, Reps.mono hp he _ _ h2⟩
theorem MuOk.mem {G : Gx} {W : Addr → Prop} {m : List Addr} {μ : List Cell} {H : Hp} (M : MuOk G W m μ H) {a : Addr} (h : a ∈ m) : H a ≠ none := by
  obtain ⟨n, hn, e⟩ := List.mem_iff_getElem.mp h
  have hn' : n < μ.length := by rw [← M.len]; exact hn
  exact (M.cell n μ[n] a (List.getElem?_eq_getElem hn') (by rw [List.getElem?_eq_getElem hn, e])).there
/-- a step of code: what was hidden stays, what was seen stays -/
structure Step (G : Gx) (W : Addr → Prop) (m : List Addr) (H : Hp) (m' : List Addr) (μ' : List Cell) (H' : Hp) : Prop where
  pre : m <+: m'
  hid : ∀ z, W z → H' z = H z
  mu : MuOk G W m' μ' H'
  same : Same (vis W m H) (vis W m' H')
theorem Step.refl {G : Gx} {W : Addr → Prop} {m : List Addr} {μ : List Cell} {H : Hp} (M : MuOk G W m μ H) : Step G W m H m μ H := ⟨List.prefix_refl _, fun _ _ => rfl, M, Same.refl _⟩
theorem Step.trans {G : Gx} {W : Addr → Prop} {m m1 m2 : List Addr} {μ1 μ2 : List Cell} {H H1 H2 : Hp} (a : Step G W m H m1 μ1 H1) (b : Step G W m1 H1 m2 μ2 H2) : Step G W m H m2 μ2 H2 :=
  ⟨a.pre.trans b.pre, fun z h => (b.hid z h).trans (a.hid z h), b.mu, a.same.trans b.same⟩
abbrev Mu := List Cell
abbrev DS := List Sl
/-- behind an expression -/
def VPost (G : Gx) (W : Addr → Prop) (m : List Addr) (H : Hp) (Q : D → Mu → Prop) (v : V) (H' : Hp) : Prop :=
  ∃ m' d μ', Step G W m H m' μ' H' ∧ Rep G m' (vis W m' H') d v ∧ Q d μ'
theorem VPost.now {G : Gx} {W : Addr → Prop} {m : List Addr} {μ : Mu} {H : Hp} {Q : D → Mu → Prop} {d : D} {v : V} (M : MuOk G W m μ H) (r : Rep G m (vis W m H) d v) (q : Q d μ) : VPost G W m H Q v H := ⟨m, d, μ, .refl M, r, q⟩
theorem VPost.from {G : Gx} {W : Addr → Prop} {m m1 : List Addr} {μ1 : Mu} {H H1 H' : Hp} {Q : D → Mu → Prop} {v : V} (s : Step G W m H m1 μ1 H1) (p : VPost G W m1 H1 Q v H') : VPost G W m H Q v H' := by
  obtain ⟨m', d, μ', s', r, q⟩ := p
  exact ⟨m', d, μ', s.trans s', r, q⟩
theorem VPost.imp {G : Gx} {W : Addr → Prop} {m : List Addr} {H H' : Hp} {Q Q' : D → Mu → Prop} {v : V} (p : VPost G W m H Q v H') (h : ∀ d μ, Q d μ → Q' d μ) : VPost G W m H Q' v H' := by
  obtain ⟨m', d, μ', s', r, q⟩ := p
  exact ⟨m', d, μ', s', r, h _ _ q⟩
/-- an exception's data: its class, its attributes -/
abbrev XD := Str → List Str → List D → Mu → Prop
def XPost (G : Gx) (W : Addr → Prop) (m : List Addr) (H : Hp) (Xd : XD) (cls : Value) (d : Option Addr) (H' : Hp) : Prop :=
  ∃ m' c ks es μ' C dd vs, Step G W m H m' μ' H' ∧ cls = .ref C ∧ d = some dd ∧ G.mg c = some (.ref C) ∧ vis W m' H' dd = some (.xd (ks.zip vs)) ∧ ks.length = es.length ∧ Reps G m' (vis W m' H') es vs ∧ Xd c ks es μ'
theorem XPost.from {G : Gx} {W : Addr → Prop} {m m1 : List Addr} {μ1 : Mu} {H H1 H' : Hp} {Xd : XD} {cls : Value} {d : Option Addr} (s : Step G W m H m1 μ1 H1) (p : XPost G W m1 H1 Xd cls d H') : XPost G W m H Xd cls d H' := by
  obtain ⟨m', c, ks, es, μ', C, dd, vs, s', r⟩ := p
  exact ⟨m', c, ks, es, μ', C, dd, vs, s.trans s', r⟩
theorem XPost.imp {G : Gx} {W : Addr → Prop} {m : List Addr} {H H' : Hp} {Xd Xd' : XD} {cls : Value} {d : Option Addr} (p : XPost G W m H Xd cls d H') (h : ∀ c ks es μ, Xd c ks es μ → Xd' c ks es μ) : XPost G W m H Xd' cls d H' := by
  obtain ⟨m', c, ks, es, μ', C, dd, vs, s', e1, e2, e3, e4, e5, e6, q⟩ := p
  exact ⟨m', c, ks, es, μ', C, dd, vs, s', e1, e2, e3, e4, e5, e6, h _ _ _ _ q⟩
/-- a new thing, seen -/
theorem MuOk.fresh {G : Gx} {W : Addr → Prop} {m : List Addr} {μ : Mu} {H : Hp} (M : MuOk G W m μ H) {p : Addr} (np : H p = none) : ¬ W p ∧ p ∉ m :=
  ⟨fun z => M.hw p z np, fun z => M.mem z np⟩
theorem vis_upd {G : Gx} {W : Addr → Prop} {m : List Addr} {μ : Mu} {H : Hp} (M : MuOk G W m μ H) {p : Addr} {o : HO} (np : H p = none) : vis W m (upd H p o) = upd (vis W m H) p o := by
  obtain ⟨h1, h2⟩ := M.fresh np
  funext b
  by_cases hb : b = p
  · subst hb
    rw [upd_same]
    exact vis_some.mpr ⟨h1, h2, upd_same⟩
  · rw [upd_ne hb]
    unfold vis
    rw [upd_ne hb]
theorem same_new {H : Hp} {p : Addr} {o : HO} (np : H p = none) : Same H (upd H p o) := fun b x e => by
  rw [upd_ne (ne_of_none e np)]; exact e
theorem vis_none {W : Addr → Prop} {m : List Addr} {H : Hp} {p : Addr} (np : H p = none) : vis W m H p = none := by
  cases e : vis W m H p with
  | none => rfl
  | some o => rw [(vis_some.mp e).2.2] at np; cases np
theorem MuOk.laid {G : Gx} {W : Addr → Prop} {m : List Addr} {μ : Mu} {H : Hp} (M : MuOk G W m μ H) {p : Addr} {o : HO} (np : H p = none) : MuOk G W m μ (upd H p o) := by
  obtain ⟨h1, h2⟩ := M.fresh np
  refine ⟨M.len, M.nd, M.out, fun z hz => ?_, fun n c a hc ha => ?_⟩
  · by_cases e : z = p
    · subst e; rw [upd_same]; intro q; cases q
    · rw [upd_ne e]; exact M.hw z hz
  · have ne : a ≠ p := fun e => h2 (e ▸ List.mem_of_getElem? ha)
    rw [vis_upd M np]
    exact (M.cell n c a hc ha).keep (List.prefix_refl _) (same_new (vis_none np)) (upd_ne ne)
theorem Step.laid {G : Gx} {W : Addr → Prop} {m : List Addr} {μ : Mu} {H : Hp} (M : MuOk G W m μ H) {p : Addr} {o : HO} (np : H p = none) : Step G W m H m μ (upd H p o) := by
  refine ⟨List.prefix_refl _, fun z hz => upd_ne fun e => ?_, M.laid np, ?_⟩
  · subst e; exact M.hw z hz np
  · rw [vis_upd M np]; exact same_new (vis_none np)

/-! ### slots -/
def ownW (Z : Addr → Prop) (σ : L2.St) (ρ : DS) (b : Addr) : Prop := Z b ∨ ∃ (i : Nat) (c : Cell), ρ[i]? = some (Sl.own b c)
def ExOk (G : Gx) (m : List Addr) (E : Hp) (o : Option (Option V)) (c : Str) (ks : List Str) (ds : List D) : Prop :=
  ∃ a C dd vs, G.ex = some (a, C, dd) ∧ G.mg c = some (.ref C) ∧ o = some (some (V.ref a)) ∧ E dd = some (.xd (ks.zip vs)) ∧ ks.length = ds.length ∧ Reps G m E ds vs
theorem ExOk.mono {G : Gx} {m m' : List Addr} {E E' : Hp} {o : Option (Option V)} {c : Str} {ks : List Str} {ds : List D} (hp : m <+: m') (he : Same E E') (h : ExOk G m E o c ks ds) : ExOk G m' E' o c ks ds := by
  obtain ⟨a, C, dd, vs, h1, h2, h3, h4, h5, h6⟩ := h
  exact ⟨a, C, dd, vs, h1, h2, h3, he _ _ h4, h5, Reps.mono hp he _ _ h6⟩
structure SR (G : Gx) (Z : Addr → Prop) (m : List Addr) (σ : L2.St) (H : Hp) (ρ : DS) (μ : Mu) : Prop where
  len : ρ.length = σ.length
  mu : MuOk G (ownW Z σ ρ) m μ H
  val : ∀ (i : Nat) d, ρ[i]? = some (Sl.v d) → ∃ v, σ[i]? = some (some v) ∧ Rep G m (vis (ownW Z σ ρ) m H) d v
  own : ∀ (i : Nat) a c, ρ[i]? = some (Sl.own a c) → σ[i]? = some (some (V.ref a)) ∧ ¬ Z a ∧ CellOk G m (vis (ownW Z σ ρ) m H) H c a
  dis : ∀ (i j : Nat) (a : Addr) c c', ρ[i]? = some (Sl.own a c) → ρ[j]? = some (Sl.own a c') → i = j
  exn : ∀ (i : Nat) c ks ds, ρ[i]? = some (Sl.exn c ks ds) → ExOk G m (vis (ownW Z σ ρ) m H) (σ[i]?) c ks ds
theorem SR.step {G : Gx} {Z : Addr → Prop} {m m' : List Addr} {σ : L2.St} {H H' : Hp} {ρ : DS} {μ μ' : Mu} (S : SR G Z m σ H ρ μ) (s : Step G (ownW Z σ ρ) m H m' μ' H') : SR G Z m' σ H' ρ μ' := by
  refine ⟨S.len, s.mu, fun i d e => ?_, fun i a c e => ?_, S.dis, fun i c ks ds e => (S.exn i c ks ds e).mono s.pre s.same⟩
  · obtain ⟨v, e1, r⟩ := S.val i d e
    exact ⟨v, e1, Rep.mono s.pre s.same _ _ r⟩
  · obtain ⟨e1, nz, r⟩ := S.own i a c e
    exact ⟨e1, nz, r.keep s.pre s.same (s.hid a (.inr ⟨i, c, e⟩))⟩

/-! ### expressions -/
abbrev WE := DS → Mu → (D → Mu → Prop) → XD → Prop
/-- a reading by data as a reading: where the state is told by data -/
def lift (G : Gx) (W : WX) (w : WE) : TE := fun σ H Q' => ∃ Z m ρ μ Q Xd, SR G Z m σ H ρ μ ∧ w ρ μ Q Xd ∧ (∀ v H', VPost G (ownW Z σ ρ) m H Q v H' → Q' v H') ∧ ∀ cls d H', XPost G (ownW Z σ ρ) m H Xd cls d H' → W cls d σ H'
abbrev gx (X : Cx) (ex : Option (Addr × Addr × Addr)) : Gx := ⟨X.K, X.mg, ex⟩
abbrev DE (ex : Option (Addr × Addr × Addr)) (W : WX) (X : Cx) (e : Expr) (w : WE) : Prop := PE X e (lift (gx X ex) W w)
theorem pe_weak {X : Cx} {e : Expr} {t t' : TE} (h : PE X e t) (k : ∀ σ H Q, t' σ H Q → t σ H Q) : PE X e t' := ⟨fun pins s σ H Q I q => h.run pins s σ H Q I (k σ H Q q)⟩
/-- a name -/
def wVar (i : Nat) : WE := fun ρ μ Q _ => match ρ[i]? with
  | some (.v d) => Q d μ
  | _ => False
def wC (d : D) : WE := fun _ μ Q _ => Q d μ
section
variable {ex : Option (Addr × Addr × Addr)} {W : WX} {X : Cx}
theorem de_name {e : Expr} {i : Nat} (h : PE X e (tVar i)) : DE ex W X e (wVar i) := pe_weak h fun σ H Q' q => by
  obtain ⟨Z, m, ρ, μ, Q, Xd, S, q, k, kx⟩ := q
  unfold wVar at q
  split at q
  · rename_i d e
    obtain ⟨v, e1, r⟩ := S.val i d e
    exact ⟨v, e1, k v H (.now S.mu r q)⟩
  · exact q.elim
theorem dv (i : Nat) {x : Str} {pos : Pos} (hN : X.N[i]? = some x := by rfl) (hv : Vis X.env.scope x := by first | exact Or.inl rfl | exact Or.inr (Or.inl rfl) | exact Or.inr (Or.inr rfl)) (hd : (x == ("__debug__" : Str)) = false := by decide)
    (hcd : (x == ("__classdict__" : Str)) = false := by decide) : DE ex W X (.Name x pos) (wVar i) := de_name (pe_var hN hv hd hcd)
theorem de_c {e : Expr} {v : V} {d : D} (h : PE X e (tC v)) (hr : ∀ m E, Rep (gx X ex) m E d v) : DE ex W X e (wC d) := pe_weak h fun σ H Q' q => by
  obtain ⟨Z, m, ρ, μ, Q, Xd, S, q, k, kx⟩ := q
  exact k v H (.now S.mu (hr _ _) q)
theorem de_int {i j pos} : DE ex W X (.Constant (.int i) j pos) (wC (.int i)) := de_c pe_int fun _ _ => by rw [Rep]
theorem de_bl {b j pos} : DE ex W X (.Constant (.bool b) j pos) (wC (.bl b)) := de_c pe_bl fun _ _ => by rw [Rep]
theorem de_non {j pos} : DE ex W X (.Constant .none j pos) (wC .non) := de_c pe_non fun _ _ => by rw [Rep]
theorem de_str {x j pos} : DE ex W X (.Constant (.str x) j pos) (wC (.str x)) := de_c pe_str fun _ _ => by rw [Rep]
/-- a class of the text, as a value -/
theorem de_cls {x : Str} {C : Addr} {pos : Pos} (hg : Gl X x) (hm : X.mg x = some (.ref C)) (hd : (x == ("__debug__" : Str)) = false := by decide) : DE ex W X (.Name x pos) (wC (.cls x)) :=
  de_c (pe_glob hg hm (v := .ref C) rfl hd) fun _ _ => by rw [Rep]; exact ⟨C, hm, rfl⟩
/-- a built-in type, as a value -/
theorem de_ty {x : Str} {T : String} {pos : Pos} (hg : Gl X x) (hm : X.mg x = none) (hv : bootBuiltins x = some (.type T)) (hn : x ≠ "__name__" := by decide) (hd : (x == ("__debug__" : Str)) = false := by decide) : DE ex W X (.Name x pos) (wC (.ty T)) :=
  de_c (pe_bltn hg hm hv (v := .ty T) rfl hn hd) fun _ _ => by rw [Rep]
/-- a module's int -/
theorem de_gint {x : Str} {i : Int} {t : Tok} {pos : Pos} (hg : Gl X x) (hm : X.mg x = some (.int i t)) (hd : (x == ("__debug__" : Str)) = false := by decide) : DE ex W X (.Name x pos) (wC (.int i)) :=
  de_c (pe_glob hg hm (v := .int i) ⟨t, rfl⟩ hd) fun _ _ => by rw [Rep]
/-- a module's text -/
theorem de_gstr {x z : Str} {t : Tok} {pos : Pos} (hg : Gl X x) (hm : X.mg x = some (.str z t)) (hd : (x == ("__debug__" : Str)) = false := by decide) : DE ex W X (.Name x pos) (wC (.str z)) :=
  de_c (pe_glob hg hm (v := .str z) ⟨t, rfl⟩ hd) fun _ _ => by rw [Rep]
end
/-! ### operations on values -/
abbrev F2 := D → D → Mu → (D → Mu → Prop) → Prop
abbrev F1 := D → Mu → (D → Mu → Prop) → Prop
abbrev FN := List D → Mu → (D → Mu → Prop) → Prop
def w2 (f : F2) (wa wb : WE) : WE := fun ρ μ Q Xd => wa ρ μ (fun x μ1 => wb ρ μ1 (fun y μ2 => f x y μ2 Q) Xd) Xd
def w1 (f : F1) (wa : WE) : WE := fun ρ μ Q Xd => wa ρ μ (fun x μ1 => f x μ1 Q) Xd
def S2 (G : Gx) (r : R2) (f : F2) : Prop := ∀ (Z : Addr → Prop) (m : List Addr) (μ : Mu) (H : Hp) (x y : D) (u v : V) (Q : D → Mu → Prop) (Q' : VK),
  MuOk G Z m μ H → Rep G m (vis Z m H) x u → Rep G m (vis Z m H) y v → f x y μ Q → (∀ z H', VPost G Z m H Q z H' → Q' z H') → r u v H Q'
def S1 (G : Gx) (r : V → Hp → VK → Prop) (f : F1) : Prop := ∀ (Z : Addr → Prop) (m : List Addr) (μ : Mu) (H : Hp) (x : D) (u : V) (Q : D → Mu → Prop) (Q' : VK),
  MuOk G Z m μ H → Rep G m (vis Z m H) x u → f x μ Q → (∀ z H', VPost G Z m H Q z H' → Q' z H') → r u H Q'
def SN (G : Gx) (r : List V → Hp → VK → Prop) (f : FN) : Prop := ∀ (Z : Addr → Prop) (m : List Addr) (μ : Mu) (H : Hp) (xs : List D) (us : List V) (Q : D → Mu → Prop) (Q' : VK),
  MuOk G Z m μ H → Reps G m (vis Z m H) xs us → f xs μ Q → (∀ z H', VPost G Z m H Q z H' → Q' z H') → r us H Q'
/-- one operand behind another -/
theorem lift_bind {G : Gx} {W : WX} {wa : WE} {σ : L2.St} {H : Hp} {Q' : VK} {f : D → DS → Mu → (D → Mu → Prop) → XD → Prop} {R : V → Hp → Prop}
    (q : lift G W (fun ρ μ Q Xd => wa ρ μ (fun x μ1 => f x ρ μ1 Q Xd) Xd) σ H Q')
    (h : ∀ (Z : Addr → Prop) (m : List Addr) (ρ : DS) (μ : Mu) (Q : D → Mu → Prop) (Xd : XD) (x : D) (v : V) (H1 : Hp), SR G Z m σ H1 ρ μ → Rep G m (vis (ownW Z σ ρ) m H1) x v → f x ρ μ Q Xd →
      (∀ v H', VPost G (ownW Z σ ρ) m H1 Q v H' → Q' v H') → (∀ cls d H', XPost G (ownW Z σ ρ) m H1 Xd cls d H' → W cls d σ H') → R v H1) : lift G W wa σ H R := by
  obtain ⟨Z, m, ρ, μ, Q, Xd, S, q, k, kx⟩ := q
  refine ⟨Z, m, ρ, μ, _, Xd, S, q, fun v H1 P => ?_, kx⟩
  obtain ⟨m1, d, μ1, s1, r1, q1⟩ := P
  exact h Z m1 ρ μ1 Q Xd d v H1 (S.step s1) r1 q1 (fun v H' P => k v H' (VPost.from s1 P)) fun cls d H' P => kx cls d H' (XPost.from s1 P)
theorem lift_w2 {G : Gx} {W : WX} {r : R2} {f : F2} (hf : S2 G r f) {wa wb : WE} {σ : L2.St} {H : Hp} {Q' : VK} (q : lift G W (w2 f wa wb) σ H Q') : tOp r (lift G W wa) (lift G W wb) σ H Q' := by
  refine lift_bind (f := fun x ρ μ1 Q Xd => wb ρ μ1 (fun y μ2 => f x y μ2 Q) Xd) q fun Z m ρ μ Q Xd x v H1 S r1 q1 k kx => ?_
  refine ⟨Z, m, ρ, μ, _, Xd, S, q1, fun u H2 P => ?_, kx⟩
  obtain ⟨m2, y, μ2, s2, r2, q2⟩ := P
  exact hf _ m2 μ2 H2 x y v u Q Q' s2.mu (Rep.mono s2.pre s2.same _ _ r1) r2 q2 fun z H' P => k z H' (VPost.from s2 P)
theorem lift_w1 {G : Gx} {W : WX} {r : V → Hp → VK → Prop} {f : F1} (hf : S1 G r f) {wa : WE} {σ : L2.St} {H : Hp} {Q' : VK} (q : lift G W (w1 f wa) σ H Q') : tUn r (lift G W wa) σ H Q' := by
  refine lift_bind (f := fun x ρ μ1 Q Xd => f x μ1 Q) q fun Z m ρ μ Q Xd x v H1 S r1 q1 k kx => ?_
  exact hf _ m μ H1 x v Q Q' S.mu r1 q1 k
section
variable {ex : Option (Addr × Addr × Addr)} {W : WX} {X : Cx} {a b c : Expr} {wa wb wc : WE} {pos : Pos}
theorem de_op {op : Operator} {r : R2} {f : F2} (ho : OpR X (binaryOp op) r) (hf : S2 (gx X ex) r f) (ha : DE ex W X a wa) (hb : DE ex W X b wb) : DE ex W X (.BinOp a op b pos) (w2 f wa wb) := pe_weak (pe_op ho ha hb) fun _ _ _ q => lift_w2 hf q
theorem de_un {op : UnaryOp} {r : V → Hp → VK → Prop} {f : F1} (ho : UnR X (unaryOp op) r) (hf : S1 (gx X ex) r f) (ha : DE ex W X a wa) : DE ex W X (.UnaryOp op a pos) (w1 f wa) := pe_weak (pe_un ho ha) fun _ _ _ q => lift_w1 hf q
theorem de_cmp {op : CmpOp} {r : R2} {f : F2} (ho : OpR X (compareOp op) r) (hf : S2 (gx X ex) r f) (ha : DE ex W X a wa) (hb : DE ex W X b wb) (hm : behindInMarks op b = false) : DE ex W X (.Compare a [op] [b] pos) (w2 f wa wb) := pe_weak (pe_cmpR ho ha hb hm) fun _ _ _ q => lift_w2 hf q
theorem de_ix {r : R2} {f : F2} (hr : IxR X r) (hf : S2 (gx X ex) r f) (ha : DE ex W X a wa) (hb : DE ex W X b wb) (hs : PlainIx b := by exact fun _ _ => rfl) : DE ex W X (.Subscript a b pos) (w2 f wa wb) := pe_weak (pe_ix hr ha hb hs) fun _ _ _ q => lift_w2 hf q
end
/-! ### tests -/
abbrev WT := DS → Mu → (Bool → Mu → Prop) → XD → Prop
def BPost (G : Gx) (Z : Addr → Prop) (m : List Addr) (H : Hp) (Q : Bool → Mu → Prop) (b : Bool) (H' : Hp) : Prop :=
  ∃ m' μ', Step G Z m H m' μ' H' ∧ Q b μ'
theorem BPost.from {G : Gx} {Z : Addr → Prop} {m m1 : List Addr} {μ1 : Mu} {H H1 H' : Hp} {Q : Bool → Mu → Prop} {v : Bool} (s : Step G Z m H m1 μ1 H1) (p : BPost G Z m1 H1 Q v H') : BPost G Z m H Q v H' := by
  obtain ⟨m', μ', s', q⟩ := p
  exact ⟨m', μ', s.trans s', q⟩
def liftT (G : Gx) (W : WX) (w : WT) : TT := fun σ H Q' => ∃ Z m ρ μ Q Xd, SR G Z m σ H ρ μ ∧ w ρ μ Q Xd ∧ (∀ b H', BPost G (ownW Z σ ρ) m H Q b H' → Q' b H') ∧ ∀ cls d H', XPost G (ownW Z σ ρ) m H Xd cls d H' → W cls d σ H'
abbrev DT (ex : Option (Addr × Addr × Addr)) (W : WX) (X : Cx) (e : Expr) (w : WT) : Prop := PT X e (liftT (gx X ex) W w)
abbrev DW (ex : Option (Addr × Addr × Addr)) (W : WX) (X : Cx) (e : Expr) (w : WT) : Prop := PW X e (liftT (gx X ex) W w)
theorem pt_weak {X : Cx} {e : Expr} {t t' : TT} (h : PT X e t) (k : ∀ σ H Q, t' σ H Q → t σ H Q) : PT X e t' := ⟨fun pins s σ H Q I q => h.run pins s σ H Q I (k σ H Q q)⟩
theorem pw_weak {X : Cx} {e : Expr} {t t' : TT} (h : PW X e t) (k : ∀ σ H Q, t' σ H Q → t σ H Q) : PW X e t' := ⟨fun wh pins s σ H Q I q => h.run wh pins s σ H Q I (k σ H Q q)⟩
/-- an expression that gives a truth, as a test -/
def fBool : D → (Bool → Prop) → Prop
  | .bl b, Q => Q b
  | _, _ => False
def wB (w : WE) : WT := fun ρ μ Q Xd => w ρ μ (fun d μ1 => fBool d fun b => Q b μ1) Xd
theorem fBool_of {d : D} {Q : Bool → Prop} (h : fBool d Q) : ∃ b, d = .bl b ∧ Q b := by
  cases d <;> first | exact h.elim | exact ⟨_, rfl, h⟩
theorem lift_wB {G : Gx} {W : WX} {w : WE} {σ : L2.St} {H : Hp} {Q' : Bool → Hp → Prop} (q : liftT G W (wB w) σ H Q') : tTest (lift G W w) σ H Q' := by
  obtain ⟨Z, m, ρ, μ, Q, Xd, S, q, k, kx⟩ := q
  refine ⟨Z, m, ρ, μ, _, Xd, S, q, fun v H1 P => ?_, kx⟩
  obtain ⟨m1, d, μ1, s1, r1, q1⟩ := P
  obtain ⟨b, rfl, q2⟩ := fBool_of q1
  rw [Rep] at r1
  exact ⟨b, r1, k b H1 ⟨m1, μ1, s1, q2⟩⟩
section
variable {ex : Option (Addr × Addr × Addr)} {W : WX} {X : Cx} {a b c : Expr} {wa wb wc : WE} {ta tb tc : WT} {pos : Pos} {rest : List Expr}
theorem dt_val (h : DE ex W X a wa) (he : ∀ whole, isTrue a X.env whole = (do let v ← whole; standAt a.pos; holding [v] (truthy v)) := by intro _; rfl) : DT ex W X a (wB wa) :=
  pt_weak (pt_val h he) fun _ _ _ q => lift_wB q
theorem dt_cmp {op : CmpOp} {r : R2} {f : F2} (ho : OpR X (compareOp op) r) (hf : S2 (gx X ex) r f) (ha : DE ex W X a wa) (hb : DE ex W X b wb) (hm : behindInMarks op b = false) : DT ex W X (.Compare a [op] [b] pos) (wB (w2 f wa wb)) :=
  pt_weak (pt_cmpR ho ha hb hm) fun σ H Q q => by
    have h := lift_wB q
    obtain h : lift _ _ _ σ H _ := h
    exact lift_w2 hf h
/-- chained comparisons -/
def wChain (f f' : F2) (wa wb wc : WE) : WE := fun ρ μ Q Xd => wa ρ μ (fun x μ1 => wb ρ μ1 (fun y μ2 => f x y μ2 fun z μ3 => fBool z fun k => if k = true then wc ρ μ3 (fun w' μ4 => f' y w' μ4 Q) Xd else Q (.bl false) μ3) Xd) Xd
theorem lift_chain {G : Gx} {r r' : R2} {f f' : F2} (hf : S2 G r f) (hf' : S2 G r' f') {σ : L2.St} {H : Hp} {Q' : VK} (q : lift G W (wChain f f' wa wb wc) σ H Q') : tChain r r' (lift G W wa) (lift G W wb) (lift G W wc) σ H Q' := by
  refine lift_bind (f := fun x ρ μ1 Q Xd => wb ρ μ1 (fun y μ2 => f x y μ2 fun z μ3 => fBool z fun k => if k = true then wc ρ μ3 (fun w' μ4 => f' y w' μ4 Q) Xd else Q (.bl false) μ3) Xd) q fun Z m ρ μ Q Xd x v H1 S r1 q1 k kx => ?_
  refine ⟨Z, m, ρ, μ, _, Xd, S, q1, fun u H2 P => ?_, kx⟩
  obtain ⟨m2, y, μ2, s2, r2, q2⟩ := P
  refine hf _ m2 μ2 H2 x y v u _ _ s2.mu (Rep.mono s2.pre s2.same _ _ r1) r2 q2 fun z H3 P => ?_
  obtain ⟨m3, zd, μ3, s3, r3, q3⟩ := P
  obtain ⟨b, rfl, q4⟩ := fBool_of q3
  rw [Rep] at r3
  refine ⟨b, r3, ?_⟩
  have S3 := (S.step s2).step s3
  cases b with
  | false =>
    rw [if_neg Bool.false_ne_true] at q4 ⊢
    exact k _ _ (VPost.from (s2.trans s3) (.now s3.mu (by rw [Rep]) q4))
  | true =>
    rw [if_pos rfl] at q4 ⊢
    refine ⟨Z, m3, ρ, μ3, _, Xd, S3, q4, fun w' H4 P => ?_, fun cls d H' P => kx cls d H' (XPost.from (s2.trans s3) P)⟩
    obtain ⟨m4, wd, μ4, s4, r4, q5⟩ := P
    exact hf' _ m4 μ4 H4 y wd u w' Q Q' s4.mu (Rep.mono (s3.trans s4).pre (s3.trans s4).same _ _ r2) r4 q5 fun z H' P => k z H' (VPost.from ((s2.trans s3).trans s4) P)
theorem de_chain {op op' : CmpOp} {r r' : R2} {f f' : F2} (ho : OpR X (compareOp op) r) (hf : S2 (gx X ex) r f) (ho' : OpR X (compareOp op') r') (hf' : S2 (gx X ex) r' f') (ha : DE ex W X a wa) (hb : DE ex W X b wb) (hc : DE ex W X c wc)
    (hm : lastMarks [op, op'] [b, c] = false := by with_unfolding_all rfl) : DE ex W X (.Compare a [op, op'] [b, c] pos) (wChain f f' wa wb wc) := pe_weak (pe_chain ho ho' ha hb hc hm) fun _ _ _ q => lift_chain hf hf' q
theorem dt_chain {op op' : CmpOp} {r r' : R2} {f f' : F2} (ho : OpR X (compareOp op) r) (hf : S2 (gx X ex) r f) (ho' : OpR X (compareOp op') r') (hf' : S2 (gx X ex) r' f') (ha : DE ex W X a wa) (hb : DE ex W X b wb) (hc : DE ex W X c wc)
    (hm : lastMarks [op, op'] [b, c] = false := by with_unfolding_all rfl) : DT ex W X (.Compare a [op, op'] [b, c] pos) (wB (wChain f f' wa wb wc)) := pt_weak (pt_chain ho ho' ha hb hc hm) fun σ H Q q => by
    have h := lift_wB q
    obtain h : lift _ _ _ σ H _ := h
    exact lift_chain hf hf' h
/-! and, or, not, as tests -/
def wAnd (t u : WT) : WT := fun ρ μ Q Xd => t ρ μ (fun c μ1 => if c = true then u ρ μ1 Q Xd else Q false μ1) Xd
def wOr (t u : WT) : WT := fun ρ μ Q Xd => t ρ μ (fun c μ1 => if c = true then Q true μ1 else u ρ μ1 Q Xd) Xd
def wNot (t : WT) : WT := fun ρ μ Q Xd => t ρ μ (fun c μ1 => Q (!c) μ1) Xd
theorem dw_and1 (h : DT ex W X a ta) : DW ex W X (.BoolOp .And [a] pos) ta := pw_and1 h
theorem dw_or1 (h : DT ex W X a ta) : DW ex W X (.BoolOp .Or [a] pos) ta := pw_or1 h
theorem dw_and (ha : DT ex W X a ta) (hb : DW ex W X (.BoolOp .And (b :: rest) pos) tb) : DW ex W X (.BoolOp .And (a :: b :: rest) pos) (wAnd ta tb) := pw_weak (pw_and ha hb) fun σ H Q' q => by
  obtain ⟨Z, m, ρ, μ, Q, Xd, S, q, k, kx⟩ := q
  refine ⟨Z, m, ρ, μ, _, Xd, S, q, fun c H1 P => ?_, kx⟩
  obtain ⟨m1, μ1, s1, q1⟩ := P
  cases c with
  | false => exact k false H1 ⟨m1, μ1, s1, q1⟩
  | true =>
    rw [if_pos rfl] at q1 ⊢
    exact ⟨Z, m1, ρ, μ1, _, Xd, S.step s1, q1, fun b H2 P => k b H2 (BPost.from s1 P), fun cls d H' P => kx cls d H' (XPost.from s1 P)⟩
theorem dw_or (ha : DT ex W X a ta) (hb : DW ex W X (.BoolOp .Or (b :: rest) pos) tb) : DW ex W X (.BoolOp .Or (a :: b :: rest) pos) (wOr ta tb) := pw_weak (pw_or ha hb) fun σ H Q' q => by
  obtain ⟨Z, m, ρ, μ, Q, Xd, S, q, k, kx⟩ := q
  refine ⟨Z, m, ρ, μ, _, Xd, S, q, fun c H1 P => ?_, kx⟩
  obtain ⟨m1, μ1, s1, q1⟩ := P
  cases c with
  | true => exact k true H1 ⟨m1, μ1, s1, q1⟩
  | false =>
    rw [if_neg Bool.false_ne_true] at q1 ⊢
    exact ⟨Z, m1, ρ, μ1, _, Xd, S.step s1, q1, fun b H2 P => k b H2 (BPost.from s1 P), fun cls d H' P => kx cls d H' (XPost.from s1 P)⟩
theorem dt_w {e : Expr} (h : DW ex W X e ta) : DT ex W X e ta := PW.pt h
theorem dt_not (h : DT ex W X a ta) : DT ex W X (.UnaryOp .Not a pos) (wNot ta) := pt_weak (pt_not h) fun σ H Q' q => by
  obtain ⟨Z, m, ρ, μ, Q, Xd, S, q, k, kx⟩ := q
  refine ⟨Z, m, ρ, μ, _, Xd, S, q, fun c H1 P => ?_, kx⟩
  obtain ⟨m1, μ1, s1, q1⟩ := P
  exact k (!c) H1 ⟨m1, μ1, s1, q1⟩
end
end DL

set_option Elab.async false
set_option linter.all false
set_option maxRecDepth 100000
set_option maxHeartbeats 4000000
set_option autoImplicit false
namespace DL
open PySem PySem.Spec PyProof.Rows L2
/-! ### argument lists, displays, calls -/
abbrev WA := DS → Mu → (List D → Mu → Prop) → XD → Prop
def APost (G : Gx) (Z : Addr → Prop) (m : List Addr) (H : Hp) (Q : List D → Mu → Prop) (vs : List V) (H' : Hp) : Prop :=
  ∃ m' ds μ', Step G Z m H m' μ' H' ∧ Reps G m' (vis Z m' H') ds vs ∧ Q ds μ'
theorem APost.from {G : Gx} {Z : Addr → Prop} {m m1 : List Addr} {μ1 : Mu} {H H1 H' : Hp} {Q : List D → Mu → Prop} {vs : List V} (s : Step G Z m H m1 μ1 H1) (p : APost G Z m1 H1 Q vs H') : APost G Z m H Q vs H' := by
  obtain ⟨m', d, μ', s', r, q⟩ := p
  exact ⟨m', d, μ', s.trans s', r, q⟩
def liftA (G : Gx) (W : WX) (w : WA) : TA := fun σ H Q' => ∃ Z m ρ μ Q Xd, SR G Z m σ H ρ μ ∧ w ρ μ Q Xd ∧ (∀ vs H', APost G (ownW Z σ ρ) m H Q vs H' → Q' vs H') ∧ ∀ cls d H', XPost G (ownW Z σ ρ) m H Xd cls d H' → W cls d σ H'
abbrev DA (ex : Option (Addr × Addr × Addr)) (W : WX) (X : Cx) (es : List Expr) (w : WA) : Prop := PA X es (liftA (gx X ex) W w)
theorem pa_weak {X : Cx} {es : List Expr} {t t' : TA} (h : PA X es t) (k : ∀ σ H Q, t' σ H Q → t σ H Q) : PA X es t' := ⟨fun pos pins s σ H Q I q => h.run pos pins s σ H Q I (k σ H Q q)⟩
def wNil : WA := fun _ μ Q _ => Q [] μ
def wCons (wa : WE) (wr : WA) : WA := fun ρ μ Q Xd => wa ρ μ (fun d μ1 => wr ρ μ1 (fun ds μ2 => Q (d :: ds) μ2) Xd) Xd
def wTup (wa : WA) : WE := fun ρ μ Q Xd => wa ρ μ (fun ds μ1 => ds.length ≤ 1000 ∧ Q (.tup ds) μ1) Xd
def wLst (wa : WA) : WE := fun ρ μ Q Xd => wa ρ μ (fun ds μ1 => ds.length ≤ 1000 ∧ Q (.lst ds) μ1) Xd
def wN (f : FN) (wa : WA) : WE := fun ρ μ Q Xd => wa ρ μ (fun ds μ1 => f ds μ1 Q) Xd
abbrev DSp := List D → Mu → (D → Mu → Prop) → XD → Prop
def wCall (sp : DSp) (wa : WA) : WE := fun ρ μ Q Xd => wa ρ μ (fun ds μ1 => sp ds μ1 Q Xd) Xd
theorem le1000 {n : Nat} (h : n ≤ 1000) : n ≤ sizeLine := Nat.le_trans h (by decide)
section
variable {ex : Option (Addr × Addr × Addr)} {W : WX} {X : Cx} {e : Expr} {es : List Expr} {wa : WE} {ws : WA} {pos : Pos}
theorem da_nil : DA ex W X [] wNil := pa_weak pa_nil fun σ H Q' q => by
  obtain ⟨Z, m, ρ, μ, Q, Xd, S, q, k, kx⟩ := q
  exact k [] H ⟨m, [], μ, .refl S.mu, Reps.nil, q⟩
theorem lift_cons {G : Gx} {σ : L2.St} {H : Hp} {Q' : List V → Hp → Prop} (q : liftA G W (wCons wa ws) σ H Q') : tCons (lift G W wa) (liftA G W ws) σ H Q' := by
  obtain ⟨Z, m, ρ, μ, Q, Xd, S, q, k, kx⟩ := q
  refine ⟨Z, m, ρ, μ, _, Xd, S, q, fun v H1 P => ?_, kx⟩
  obtain ⟨m1, d, μ1, s1, r1, q1⟩ := P
  refine ⟨Z, m1, ρ, μ1, _, Xd, S.step s1, q1, fun vs H2 P => ?_, fun cls d H' P => kx cls d H' (XPost.from s1 P)⟩
  obtain ⟨m2, ds, μ2, s2, r2, q2⟩ := P
  exact k _ _ ⟨m2, d :: ds, μ2, s1.trans s2, Reps.cons (Rep.mono s2.pre s2.same _ _ r1) r2, q2⟩
theorem da_cons (ha : DE ex W X e wa) (hr : DA ex W X es ws) (hs : starEach (e :: es) X.env = (false, eval e X.env) :: starEach es X.env := by rfl) : DA ex W X (e :: es) (wCons wa ws) :=
  pa_weak (pa_cons ha hr hs) fun _ _ _ q => lift_cons q
theorem de_tup {x1} (h : DA ex W X es ws) : DE ex W X (.Tuple es x1 pos) (wTup ws) := pe_weak (pe_tup h) fun σ H Q' q => by
  obtain ⟨Z, m, ρ, μ, Q, Xd, S, q, k, kx⟩ := q
  refine ⟨Z, m, ρ, μ, _, Xd, S, q, fun vs H1 P => ?_, kx⟩
  obtain ⟨m1, ds, μ1, s1, r1, hl, q1⟩ := P
  refine ⟨by rw [← r1.len]; exact le1000 hl, fun p np => k _ _ ?_⟩
  have s2 := Step.laid (o := .tup vs) s1.mu np
  refine VPost.from s1 ⟨m1, _, μ1, s2, ?_, q1⟩
  rw [Rep]
  refine ⟨p, vs, rfl, .inl (.inl ?_), Reps.mono s2.pre s2.same _ _ r1⟩
  rw [vis_upd s1.mu np, upd_same]
theorem lift_lst {G : Gx} {σ : L2.St} {H : Hp} {Q' : VK} (q : lift G W (wLst ws) σ H Q') : tLst (liftA G W ws) σ H Q' := by
  obtain ⟨Z, m, ρ, μ, Q, Xd, S, q, k, kx⟩ := q
  refine ⟨Z, m, ρ, μ, _, Xd, S, q, fun vs H1 P => ?_, kx⟩
  obtain ⟨m1, ds, μ1, s1, r1, hl, q1⟩ := P
  refine ⟨by rw [← r1.len]; exact le1000 hl, fun p np => k _ _ ?_⟩
  have s2 := Step.laid (o := .lst vs) s1.mu np
  refine VPost.from s1 ⟨m1, _, μ1, s2, ?_, q1⟩
  rw [Rep]
  refine ⟨p, vs, rfl, ?_, Reps.mono s2.pre s2.same _ _ r1⟩
  rw [vis_upd s1.mu np, upd_same]
theorem de_lst (h : DA ex W X es ws) : DE ex W X (.List es pos) (wLst ws) := pe_weak (pe_lst h) fun _ _ _ q => lift_lst q
theorem lift_wN {G : Gx} {r : List V → Hp → VK → Prop} {f : FN} (hf : SN G r f) {σ : L2.St} {H : Hp} {Q' : VK} (q : lift G W (wN f ws) σ H Q') : tCB r (liftA G W ws) σ H Q' := by
  obtain ⟨Z, m, ρ, μ, Q, Xd, S, q, k, kx⟩ := q
  refine ⟨Z, m, ρ, μ, _, Xd, S, q, fun vs H1 P => ?_, kx⟩
  obtain ⟨m1, ds, μ1, s1, r1, q1⟩ := P
  exact hf _ m1 μ1 H1 ds vs Q Q' s1.mu r1 q1 fun z H' P => k z H' (VPost.from s1 P)
theorem de_callB {x : Str} {id : String} {p : Pos} {r : List V → Hp → VK → Prop} {f : FN} (hc : CallR X (.builtin id) r) (hf : SN (gx X ex) r f) (hg : Gl X x) (hm : X.mg x = none) (hv : bootBuiltins x = some (.builtin id)) (ha : DA ex W X (e :: es) ws)
    (hn : x ≠ "__name__" := by decide) (hdb : (x == ("__debug__" : Str)) = false := by decide) (he : starEach (e :: es) X.env = (false, eval e X.env) :: starEach es X.env := by rfl) (hpl : (backTo pos (starEach es X.env)).any (·.1) = false := by rfl) :
    DE ex W X (.Call (.Name x p) (e :: es) [] pos) (wN f ws) := pe_weak (pe_callB hc hg hm hv ha hn hdb he hpl) fun _ _ _ q => lift_wN hf q
theorem de_callTy {x : Str} {T : String} {p : Pos} {r : List V → Hp → VK → Prop} {f : FN} (hc : CallR X (.type T) r) (hf : SN (gx X ex) r f) (hg : Gl X x) (hm : X.mg x = none) (hv : bootBuiltins x = some (.type T)) (ha : DA ex W X (e :: es) ws)
    (hn : x ≠ "__name__" := by decide) (hdb : (x == ("__debug__" : Str)) = false := by decide) (he : starEach (e :: es) X.env = (false, eval e X.env) :: starEach es X.env := by rfl) (hpl : (backTo pos (starEach es X.env)).any (·.1) = false := by rfl) :
    DE ex W X (.Call (.Name x p) (e :: es) [] pos) (wN f ws) := pe_weak (pe_callTy hc hg hm hv ha hn hdb he hpl) fun _ _ _ q => lift_wN hf q
/-- a def keeps its promise wherever no repr is under way -/
structure FnG (P : Program) (wd : World) (K : PySem.W.Frag) (mg : Str → Option Value) (bs : Heap) (k : Nat) (f : Addr) (fd : FuncData) (ps : List Str) (sp : Sp) : Prop where
  len : ∀ vs H Q E, sp vs H Q E → vs.length = ps.length
  run : ∀ (A : Around) (fr : List Env) (s : Shared) (H : Hp) (args : Args) (us : List Value) (vs : List V) (Q : VK) (E : XK), Room k A → A.guards = some [] → Env0 P wd K mg bs A fr s H → BindsTo s fd args (ps.zip us) → Vals vs us →
    sp vs H Q E → codeAny (model P wd) A (.call (.ref f) args) (CR (L2.CX P wd) fr P wd H s Q E) s
section
variable {k : Nat} {f : Addr} {fd : FuncData} {ps : List Str} {sp0 : Sp}
theorem run_fnG {pins : List (Addr × Obj)} {σ : L2.St} {H : Hp} {s : Shared} {Q : VK} {us : List Value} {vs : List V} (F : FnG X.prog X.w X.K X.mg X.base k f fd ps sp0) (hr : Room k X.A) (hgd : X.A.guards = some []) (hb : Binds X.K fd ps []) (tk : Takes X W)
    (I : Inv X pins σ H s) (rv : Vals vs us) (h : sp0 vs H Q (L2.WE W σ)) : wpAny (model X.prog X.w) X.A (call (.ref f) us) (EP X pins σ Q) X.xe s := by
  have e0 : us.length = ps.length := rv.length.symm.trans (F.len _ _ _ _ h)
  have bd : BindsTo s fd ⟨us, []⟩ (ps.zip us) := by simpa using hb s us I.kIn (by simpa using e0)
  refine wpAny_call (codeAny_mono (F.run X.A X.stack s H ⟨us, []⟩ us vs Q _ hr hgd I.env0 bd rv h) fun res s2 hres => ?_)
  match res, hres with
  | .error er, hres => exact passAt tk σ pins H s er s2 I hres
  | .ok (.ret u), hres => exact I.after hres
end
/-- what a def promises, told by data -/
def toSp (G : Gx) (sp : DSp) : Sp := fun vs H Q' E => ∃ Z m μ ds Q Xd, MuOk G Z m μ H ∧ Reps G m (vis Z m H) ds vs ∧ sp ds μ Q Xd ∧ (∀ v H', VPost G Z m H Q v H' → Q' v H') ∧ ∀ cls d H', XPost G Z m H Xd cls d H' → E cls d H'
theorem lift_call {G : Gx} {sp : DSp} {σ : L2.St} {H : Hp} {Q' : VK} (q : lift G W (wCall sp ws) σ H Q') : tCallS (toSp G sp) (L2.WE W) (liftA G W ws) σ H Q' := by
  obtain ⟨Z, m, ρ, μ, Q, Xd, S, q, k, kx⟩ := q
  refine ⟨Z, m, ρ, μ, _, Xd, S, q, fun vs H1 P => ?_, kx⟩
  obtain ⟨m1, ds, μ1, s1, r1, q1⟩ := P
  exact ⟨_, m1, μ1, ds, Q, Xd, s1.mu, r1, q1, fun v H' P => k v H' (VPost.from s1 P), fun cls d H' P => kx cls d H' (XPost.from s1 P)⟩
theorem de_call {x : Str} {k : Nat} {f : Addr} {fd : FuncData} {ps : List Str} {sp : DSp} {p : Pos} (F : FnG X.prog X.w X.K X.mg X.base k f fd ps (toSp (gx X ex) sp)) (hr : Room k X.A) (hgd : X.A.guards = some []) (hg : Gl X x) (hm : X.mg x = some (.ref f))
    (hk : PySem.W.keepIn X.K (.ref f) = true) (hb : Binds X.K fd ps []) (tk : Takes X W) (ha : DA ex W X (e :: es) ws) (hdb : (x == ("__debug__" : Str)) = false := by decide)
    (he : starEach (e :: es) X.env = (false, eval e X.env) :: starEach es X.env := by rfl) (hpl : (backTo pos (starEach es X.env)).any (·.1) = false := by rfl) :
    DE ex W X (.Call (.Name x p) (e :: es) [] pos) (wCall sp ws) := by
  refine ⟨fun pins s σ H Q I h => ?_⟩
  refine wpAny_Call_Name_kw (ld_glob I hg hm ?_ hdb)
  exact PySem.W.callWith_K (h₀ := X.base) I.ok.mod.kin hk (thn (ha.run pos pins s σ H _ I (lift_call h)) fun us s1 ⟨vs, H1, I1, rv, q⟩ => ⟨I1.kIn, run_fnG F hr hgd hb tk I1 rv q⟩) he hpl
end

/-! ### statements -/
abbrev XS := Str → List Str → List D → DS → Mu → Prop
structure DEnds where
  nx : DS → Mu → Prop
  rt : D → Mu → Prop
  bk : DS → Mu → Prop := fun _ _ => False
  ct : DS → Mu → Prop := fun _ _ => False
  xc : XS := fun _ _ _ _ _ => False
abbrev WS := DEnds → DS → Mu → Prop
structure SStep (G : Gx) (Z : Addr → Prop) (m : List Addr) (σ : L2.St) (ρ : DS) (H : Hp) (m' : List Addr) (σ' : L2.St) (ρ' : DS) (H' : Hp) : Prop where
  pre : m <+: m'
  hid : ∀ z, Z z → H' z = H z
  same : Same (vis (ownW Z σ ρ) m H) (vis (ownW Z σ' ρ') m' H')
theorem SStep.refl {G : Gx} {Z : Addr → Prop} {m : List Addr} {σ : L2.St} {ρ : DS} {H : Hp} : SStep G Z m σ ρ H m σ ρ H := ⟨List.prefix_refl _, fun _ _ => rfl, Same.refl _⟩
theorem SStep.trans {G : Gx} {Z : Addr → Prop} {m m1 m2 : List Addr} {σ σ1 σ2 : L2.St} {ρ ρ1 ρ2 : DS} {H H1 H2 : Hp} (a : SStep G Z m σ ρ H m1 σ1 ρ1 H1) (b : SStep G Z m1 σ1 ρ1 H1 m2 σ2 ρ2 H2) : SStep G Z m σ ρ H m2 σ2 ρ2 H2 :=
  ⟨a.pre.trans b.pre, fun z h => (b.hid z h).trans (a.hid z h), a.same.trans b.same⟩
theorem SStep.of {G : Gx} {Z : Addr → Prop} {m m' : List Addr} {σ : L2.St} {ρ : DS} {μ' : Mu} {H H' : Hp} (s : Step G (ownW Z σ ρ) m H m' μ' H') : SStep G Z m σ ρ H m' σ ρ H' := ⟨s.pre, fun z h => s.hid z (.inl h), s.same⟩
def SPost (G : Gx) (Z : Addr → Prop) (m : List Addr) (σ : L2.St) (ρ : DS) (H : Hp) (P : DS → Mu → Prop) (σ' : L2.St) (H' : Hp) : Prop :=
  ∃ m' ρ' μ', SR G Z m' σ' H' ρ' μ' ∧ SStep G Z m σ ρ H m' σ' ρ' H' ∧ P ρ' μ'
def RPost (G : Gx) (Z : Addr → Prop) (m : List Addr) (σ : L2.St) (ρ : DS) (H : Hp) (Q : D → Mu → Prop) (v : V) (H' : Hp) : Prop :=
  ∃ m' d μ', m <+: m' ∧ (∀ z, Z z → H' z = H z) ∧ MuOk G Z m' μ' H' ∧ Same (vis (ownW Z σ ρ) m H) (vis Z m' H') ∧ Rep G m' (vis Z m' H') d v ∧ Q d μ'
def XSPost (G : Gx) (Z : Addr → Prop) (m : List Addr) (σ : L2.St) (ρ : DS) (H : Hp) (Xs : XS) (cls : Value) (d : Option Addr) (σ' : L2.St) (H' : Hp) : Prop :=
  ∃ m' c ks es ρ' μ' C dd vs, SR G Z m' σ' H' ρ' μ' ∧ SStep G Z m σ ρ H m' σ' ρ' H' ∧ cls = .ref C ∧ d = some dd ∧ G.mg c = some (.ref C) ∧ vis (ownW Z σ' ρ') m' H' dd = some (.xd (ks.zip vs)) ∧ ks.length = es.length ∧
    Reps G m' (vis (ownW Z σ' ρ') m' H') es vs ∧ Xs c ks es ρ' μ'
section
variable {G : Gx} {Z : Addr → Prop} {m m1 : List Addr} {σ σ1 σ' : L2.St} {ρ ρ1 : DS} {H H1 H' : Hp}
theorem SPost.from {P : DS → Mu → Prop} (s : SStep G Z m σ ρ H m1 σ1 ρ1 H1) (p : SPost G Z m1 σ1 ρ1 H1 P σ' H') : SPost G Z m σ ρ H P σ' H' := by
  obtain ⟨m', ρ', μ', S, s', q⟩ := p
  exact ⟨m', ρ', μ', S, s.trans s', q⟩
theorem RPost.from {Q : D → Mu → Prop} {v : V} (s : SStep G Z m σ ρ H m1 σ1 ρ1 H1) (p : RPost G Z m1 σ1 ρ1 H1 Q v H') : RPost G Z m σ ρ H Q v H' := by
  obtain ⟨m', d, μ', h1, h2, h3, h4, h5, h6⟩ := p
  exact ⟨m', d, μ', s.pre.trans h1, fun z hz => (h2 z hz).trans (s.hid z hz), h3, s.same.trans h4, h5, h6⟩
theorem XSPost.from {Xs : XS} {cls : Value} {d : Option Addr} (s : SStep G Z m σ ρ H m1 σ1 ρ1 H1) (p : XSPost G Z m1 σ1 ρ1 H1 Xs cls d σ' H') : XSPost G Z m σ ρ H Xs cls d σ' H' := by
  obtain ⟨m', c, ks, es, ρ', μ', C, dd, vs, S, s', r⟩ := p
  exact ⟨m', c, ks, es, ρ', μ', C, dd, vs, S, s.trans s', r⟩
theorem vis_own {m : List Addr} {H : Hp} : Same (vis (ownW Z σ ρ) m H) (vis Z m H) := fun b o h => by
  obtain ⟨h1, h2, h3⟩ := vis_some.mp h
  exact vis_some.mpr ⟨fun z => h1 (.inl z), h2, h3⟩
theorem MuOk.out_own {μ : Mu} (M : MuOk G (ownW Z σ ρ) m μ H) : MuOk G Z m μ H :=
  ⟨M.len, M.nd, fun a h z => M.out a h (.inl z), fun z h => M.hw z (.inl h), fun n c a h1 h2 => (M.cell n c a h1 h2).keep (List.prefix_refl _) vis_own rfl⟩
theorem RPost.of {Q : D → Mu → Prop} {v : V} (p : VPost G (ownW Z σ ρ) m H Q v H') : RPost G Z m σ ρ H Q v H' := by
  obtain ⟨m', d, μ', s, r, q⟩ := p
  exact ⟨m', d, μ', s.pre, fun z h => s.hid z (.inl h), s.mu.out_own, s.same.trans vis_own, Rep.mono (List.prefix_refl _) vis_own _ _ r, q⟩
theorem XSPost.of {μ : Mu} (S : SR G Z m σ H ρ μ) {Xs : XS} {cls : Value} {d : Option Addr} (p : XPost G (ownW Z σ ρ) m H (fun c ks es μ' => Xs c ks es ρ μ') cls d H') : XSPost G Z m σ ρ H Xs cls d σ H' := by
  obtain ⟨m', c, ks, es, μ', C, dd, vs, s, e1, e2, e3, e4, e5, e6, q⟩ := p
  exact ⟨m', c, ks, es, ρ, μ', C, dd, vs, S.step s, SStep.of s, e1, e2, e3, e4, e5, e6, q⟩
end
def liftS (G : Gx) (W : WX) (w : WS) : TS := fun D σ H => ∃ Z m ρ μ E, SR G Z m σ H ρ μ ∧ w E ρ μ ∧ (∀ σ' H', SPost G Z m σ ρ H E.nx σ' H' → D.nx σ' H') ∧ (∀ v H', RPost G Z m σ ρ H E.rt v H' → D.rt v H') ∧
  (∀ σ' H', SPost G Z m σ ρ H E.bk σ' H' → D.bk σ' H') ∧ (∀ σ' H', SPost G Z m σ ρ H E.ct σ' H' → D.ct σ' H') ∧ ∀ cls d σ' H', XSPost G Z m σ ρ H E.xc cls d σ' H' → W cls d σ' H'
abbrev DSt (ex : Option (Addr × Addr × Addr)) (W : WX) (X : Cx) (st : Stmt) (w : WS) : Prop := PS X st (liftS (gx X ex) W w)
abbrev DSs (ex : Option (Addr × Addr × Addr)) (W : WX) (X : Cx) (st : List Stmt) (w : WS) : Prop := PSs X st (liftS (gx X ex) W w)
theorem ps_weak {X : Cx} {st : Stmt} {t t' : TS} (h : PS X st t) (k : ∀ D σ H, t' D σ H → t D σ H) : PS X st t' := ⟨fun pins s σ H D I q => h.run pins s σ H D I (k D σ H q)⟩
theorem pss_weak {X : Cx} {st : List Stmt} {t t' : TS} (h : PSs X st t) (k : ∀ D σ H, t' D σ H → t D σ H) : PSs X st t' := ⟨fun pins s σ H D I q => h.run pins s σ H D I (k D σ H q)⟩
def sNext : WS := fun E ρ μ => E.nx ρ μ
def sSeq (a b : WS) : WS := fun E ρ μ => a { E with nx := fun ρ' μ' => b E ρ' μ' } ρ μ
def sIf (t : WT) (a b : WS) : WS := fun E ρ μ => t ρ μ (fun c μ1 => if c = true then a E ρ μ1 else b E ρ μ1) fun c ks es μ' => E.xc c ks es ρ μ'
def sRet (wa : WE) : WS := fun E ρ μ => wa ρ μ E.rt fun c ks es μ' => E.xc c ks es ρ μ'
def sRetN : WS := fun E _ μ => E.rt .non μ
def sDrop (wa : WE) : WS := fun E ρ μ => wa ρ μ (fun _ μ1 => E.nx ρ μ1) fun c ks es μ' => E.xc c ks es ρ μ'
def sBreak : WS := fun E ρ μ => E.bk ρ μ
def sCont : WS := fun E ρ μ => E.ct ρ μ
def sNever : WS := fun _ _ _ => False
section
variable {ex : Option (Addr × Addr × Addr)} {W : WX} {X : Cx} {e : Expr} {es : List Expr} {wa : WE} {ws : WA} {pos : Pos} {st : Stmt} {rest : List Stmt} {a b : WS} {t : WT}
theorem dss_nil : DSs ex W X [] sNext := pss_weak pss_nil fun D σ H q => by
  obtain ⟨Z, m, ρ, μ, E, S, q, kn, kr, kb, kc, kx⟩ := q
  exact kn σ H ⟨m, ρ, μ, S, .refl, q⟩
theorem dss_cons (h1 : DSt ex W X st a) (h2 : DSs ex W X rest b) : DSs ex W X (st :: rest) (sSeq a b) := pss_weak (pss_cons h1 h2) fun D σ H q => by
  obtain ⟨Z, m, ρ, μ, E, S, q, kn, kr, kb, kc, kx⟩ := q
  refine ⟨Z, m, ρ, μ, _, S, q, fun σ1 H1 P => ?_, kr, kb, kc, kx⟩
  obtain ⟨m1, ρ1, μ1, S1, s1, q1⟩ := P
  exact ⟨Z, m1, ρ1, μ1, E, S1, q1, fun σ' H' P => kn σ' H' (SPost.from s1 P), fun v H' P => kr v H' (RPost.from s1 P), fun σ' H' P => kb σ' H' (SPost.from s1 P), fun σ' H' P => kc σ' H' (SPost.from s1 P), fun cls d σ' H' P => kx cls d σ' H' (XSPost.from s1 P)⟩
theorem dss_one (h1 : DSt ex W X st a) : DSs ex W X [st] a := pss_one h1
theorem ds_if {c : Expr} {x y : List Stmt} (hc : DT ex W X c t) (ha : DSs ex W X x a) (hb : DSs ex W X y b) : DSt ex W X (.If c x y pos) (sIf t a b) := ps_weak (ps_if hc ha hb) fun D σ H q => by
  obtain ⟨Z, m, ρ, μ, E, S, q, kn, kr, kb, kc, kx⟩ := q
  refine ⟨Z, m, ρ, μ, _, _, S, q, fun c H1 P => ?_, fun cls d H' P => kx cls d σ H' (XSPost.of S P)⟩
  obtain ⟨m1, μ1, s1, q1⟩ := P
  have S1 := S.step s1
  have s2 : SStep (gx X ex) Z m σ ρ H m1 σ ρ H1 := SStep.of s1
  cases c with
  | true =>
    rw [if_pos rfl] at q1 ⊢
    exact ⟨Z, m1, ρ, μ1, E, S1, q1, fun σ' H' P => kn σ' H' (SPost.from s2 P), fun v H' P => kr v H' (RPost.from s2 P), fun σ' H' P => kb σ' H' (SPost.from s2 P), fun σ' H' P => kc σ' H' (SPost.from s2 P), fun cls d σ' H' P => kx cls d σ' H' (XSPost.from s2 P)⟩
  | false =>
    rw [if_neg Bool.false_ne_true] at q1 ⊢
    exact ⟨Z, m1, ρ, μ1, E, S1, q1, fun σ' H' P => kn σ' H' (SPost.from s2 P), fun v H' P => kr v H' (RPost.from s2 P), fun σ' H' P => kb σ' H' (SPost.from s2 P), fun σ' H' P => kc σ' H' (SPost.from s2 P), fun cls d σ' H' P => kx cls d σ' H' (XSPost.from s2 P)⟩
theorem ds_ret (h : DE ex W X e wa) : DSt ex W X (.Return (some e) pos) (sRet wa) := ps_weak (ps_ret h) fun D σ H q => by
  obtain ⟨Z, m, ρ, μ, E, S, q, kn, kr, kb, kc, kx⟩ := q
  exact ⟨Z, m, ρ, μ, _, _, S, q, fun v H1 P => kr v H1 (RPost.of P), fun cls d H' P => kx cls d σ H' (XSPost.of S P)⟩
theorem ds_expr (h : DE ex W X e wa) (hs : swapsWith e none pos.line X.env = pure false := by rfl) : DSt ex W X (.Expr e pos) (sDrop wa) := ps_weak (ps_expr h hs) fun D σ H q => by
  obtain ⟨Z, m, ρ, μ, E, S, q, kn, kr, kb, kc, kx⟩ := q
  refine ⟨Z, m, ρ, μ, _, _, S, q, fun v H1 P => ?_, fun cls d H' P => kx cls d σ H' (XSPost.of S P)⟩
  obtain ⟨m1, d, μ1, s1, r1, q1⟩ := P
  exact kn σ H1 ⟨m1, ρ, μ1, S.step s1, SStep.of s1, q1⟩
end
/-! ### a slot is stored -/
theorem own_set {Z : Addr → Prop} {σ : L2.St} {ρ : DS} {i : Nat} {v : V} {d : D} {b : Addr} (h : ownW Z (σ.set i (some v)) (ρ.set i (.v d)) b) : ownW Z σ ρ b := by
  rcases h with h | ⟨j, ds, e1⟩
  · exact .inl h
  · by_cases hj : i = j
    · subst hj
      rw [List.getElem?_set] at e1
      simp at e1
    · rw [List.getElem?_set_ne hj] at e1
      exact .inr ⟨j, ds, e1⟩
theorem vis_mono {Z Z' : Addr → Prop} {m : List Addr} {H : Hp} (h : ∀ b, Z' b → Z b) : Same (vis Z m H) (vis Z' m H) := fun b o e => by
  obtain ⟨h1, h2, h3⟩ := vis_some.mp e
  exact vis_some.mpr ⟨fun z => h1 (h b z), h2, h3⟩
theorem MuOk.less {G : Gx} {Z Z' : Addr → Prop} {m : List Addr} {μ : Mu} {H : Hp} (M : MuOk G Z m μ H) (h : ∀ b, Z' b → Z b) : MuOk G Z' m μ H :=
  ⟨M.len, M.nd, fun a ha z => M.out a ha (h a z), fun z hz => M.hw z (h z hz), fun n c a h1 h2 => (M.cell n c a h1 h2).keep (List.prefix_refl _) (vis_mono h) rfl⟩
theorem SR.set {G : Gx} {Z : Addr → Prop} {m : List Addr} {σ : L2.St} {H : Hp} {ρ : DS} {μ : Mu} (S : SR G Z m σ H ρ μ) {i : Nat} {d : D} {v : V} (r : Rep G m (vis (ownW Z σ ρ) m H) d v) :
    SR G Z m (σ.set i (some v)) H (ρ.set i (.v d)) μ ∧ SStep G Z m σ ρ H m (σ.set i (some v)) (ρ.set i (.v d)) H := by
  have sm : Same (vis (ownW Z σ ρ) m H) (vis (ownW Z (σ.set i (some v)) (ρ.set i (.v d))) m H) := vis_mono fun b => own_set
  refine ⟨⟨by simpa using S.len, S.mu.less fun b => own_set, fun j e h => ?_, fun j a c h => ?_, fun j k a c c' h1 h2 => ?_, fun j c ks ds h => ?_⟩, List.prefix_refl _, fun _ _ => rfl, sm⟩
  · by_cases hj : i = j
    · subst hj
      rw [List.getElem?_set] at h
      simp at h
      obtain ⟨hl, rfl⟩ := h
      have hl' : i < σ.length := by rw [← S.len]; exact hl
      exact ⟨v, by simp [hl'], Rep.mono (List.prefix_refl _) sm _ _ r⟩
    · rw [List.getElem?_set_ne hj] at h
      obtain ⟨u, e1, q⟩ := S.val j e h
      exact ⟨u, by rw [List.getElem?_set_ne hj]; exact e1, Rep.mono (List.prefix_refl _) sm _ _ q⟩
  · by_cases hj : i = j
    · subst hj
      rw [List.getElem?_set] at h
      simp at h
    · rw [List.getElem?_set_ne hj] at h
      obtain ⟨e1, nz, q⟩ := S.own j a c h
      exact ⟨by rw [List.getElem?_set_ne hj]; exact e1, nz, q.keep (List.prefix_refl _) sm rfl⟩
  · have nj : i ≠ j := fun e => by subst e; rw [List.getElem?_set] at h1; simp at h1
    have nk : i ≠ k := fun e => by subst e; rw [List.getElem?_set] at h2; simp at h2
    rw [List.getElem?_set_ne nj] at h1
    rw [List.getElem?_set_ne nk] at h2
    exact S.dis j k a c c' h1 h2
  · have nj : i ≠ j := fun e => by subst e; rw [List.getElem?_set] at h; simp at h
    rw [List.getElem?_set_ne nj] at h ⊢
    exact (S.exn j c ks ds h).mono (List.prefix_refl _) sm
def sSet (i : Nat) (wa : WE) : WS := fun E ρ μ => wa ρ μ (fun d μ1 => E.nx (ρ.set i (.v d)) μ1) fun c ks es μ' => E.xc c ks es ρ μ'
/-! ### targets -/
abbrev WG := D → DS → Mu → (DS → Mu → Prop) → Prop
abbrev WGs := List D → DS → Mu → (DS → Mu → Prop) → Prop
def liftG (G : Gx) (g : WG) : TG := fun v σ H Q' => ∃ Z m ρ μ d Q, SR G Z m σ H ρ μ ∧ Rep G m (vis (ownW Z σ ρ) m H) d v ∧ g d ρ μ Q ∧ ∀ σ' H', SPost G Z m σ ρ H Q σ' H' → Q' σ' H'
def liftGs (G : Gx) (g : WGs) : TGs := fun vs σ H Q' => ∃ Z m ρ μ ds Q, SR G Z m σ H ρ μ ∧ Reps G m (vis (ownW Z σ ρ) m H) ds vs ∧ g ds ρ μ Q ∧ ∀ σ' H', SPost G Z m σ ρ H Q σ' H' → Q' σ' H'
abbrev DG (ex : Option (Addr × Addr × Addr)) (X : Cx) (e : Expr) (g : WG) : Prop := PG X e (liftG (gx X ex) g)
abbrev DGs (ex : Option (Addr × Addr × Addr)) (X : Cx) (e : List Expr) (g : WGs) : Prop := PGs X e (liftGs (gx X ex) g)
theorem pg_weak {X : Cx} {e : Expr} {t t' : TG} (h : PG X e t) (k : ∀ v σ H Q, t' v σ H Q → t v σ H Q) : PG X e t' := ⟨fun pins s σ H v u Q I r q => h.run pins s σ H v u Q I r (k v σ H Q q)⟩
theorem pgs_weak {X : Cx} {e : List Expr} {t t' : TGs} (h : PGs X e t) (k : ∀ v σ H Q, t' v σ H Q → t v σ H Q) : PGs X e t' := ⟨fun pins s σ H v u Q I r q => h.run pins s σ H v u Q I r (k v σ H Q q)⟩
def kName (i : Nat) : WG := fun d ρ μ Q => Q (ρ.set i (.v d)) μ
def kNil : WGs := fun ds ρ μ Q => match ds with
  | [] => Q ρ μ
  | _ :: _ => False
def kCons (g : WG) (gs : WGs) : WGs := fun ds ρ μ Q => match ds with
  | d :: r => g d ρ μ fun ρ1 μ1 => gs r ρ1 μ1 Q
  | [] => False
def kTup (n : Nat) (gs : WGs) : WG := fun d ρ μ Q => match d with
  | .tup ds => ds.length = n ∧ gs ds ρ μ Q
  | _ => False
section
variable {ex : Option (Addr × Addr × Addr)} {W : WX} {X : Cx} {e : Expr} {es : List Expr} {pos : Pos}
theorem dg_name {i : Nat} {x : Str} (hN : X.N.Nodup) (hi : X.N[i]? = some x) (hx : Loc X.env.scope x := by first | exact Or.inl rfl | exact Or.inr rfl) (hf : X.fn x = true ∨ X.env.scope.names.lookup x = some .local := by first | exact .inl rfl | exact .inr rfl | assumption) :
    DG ex X (.Name x pos) (kName i) := pg_weak (pg_name hN hi hx hf) fun v σ H Q' q => by
  obtain ⟨Z, m, ρ, μ, d, Q, S, r, q, k⟩ := q
  obtain ⟨S1, s1⟩ := S.set (i := i) r
  exact k _ _ ⟨m, _, μ, S1, s1, q⟩
theorem dgs_nil : DGs ex X [] kNil := pgs_weak pgs_nil fun vs σ H Q' q => by
  obtain ⟨Z, m, ρ, μ, ds, Q, S, r, q, k⟩ := q
  cases ds with
  | nil => rw [Reps] at r; exact ⟨r, k _ _ ⟨m, ρ, μ, S, .refl, q⟩⟩
  | cons d ds => exact q.elim
theorem dgs_cons {g : WG} {gs : WGs} (h1 : DG ex X e g) (h2 : DGs ex X es gs) (hs : (assignEach (e :: es) X.env).map (·.2) = assign e X.env :: (assignEach es X.env).map (·.2) := by rfl) : DGs ex X (e :: es) (kCons g gs) :=
  pgs_weak (pgs_cons h1 h2 hs) fun vs σ H Q' q => by
  obtain ⟨Z, m, ρ, μ, ds, Q, S, r, q, k⟩ := q
  cases ds with
  | nil => exact q.elim
  | cons d ds =>
    obtain ⟨v, vr, rfl, r1, r2⟩ := r.uncons
    refine ⟨v, vr, rfl, Z, m, ρ, μ, d, _, S, r1, q, fun σ1 H1 P => ?_⟩
    obtain ⟨m1, ρ1, μ1, S1, s1, q1⟩ := P
    exact ⟨Z, m1, ρ1, μ1, ds, Q, S1, Reps.mono s1.pre s1.same _ _ r2, q1, fun σ' H' P => k σ' H' (SPost.from s1 P)⟩
theorem dg_tup {k : Nat} {gs : WGs} {n : Nat} (hc : X.calm = true) (h : DGs ex X es gs) (hn : (assignEach es X.env).length = n := by rfl) (hst : (assignEach es X.env).findIdx? (·.1) = none := by rfl) : DG ex X (.Tuple es k pos) (kTup n gs) :=
  pg_weak (pg_tup hc h hn hst) fun v σ H Q' q => by
  obtain ⟨Z, m, ρ, μ, d, Q, S, r, q, k⟩ := q
  cases d with
  | tup ds =>
    obtain ⟨hl, q⟩ := q
    rw [Rep] at r
    obtain ⟨a, vs, e1, st, rs⟩ := r
    exact ⟨a, vs, e1, SqT.same vis_le st, by rw [← rs.len]; exact hl, Z, m, ρ, μ, ds, Q, S, rs, q, k⟩
  | _ => exact q.elim
/-- target = value -/
def sAsg (wa : WE) (g : WG) : WS := fun E ρ μ => wa ρ μ (fun d μ1 => g d ρ μ1 E.nx) fun c ks es μ' => E.xc c ks es ρ μ'
theorem ds_asg {tg : Expr} {wa : WE} {g : WG} (he : DE ex W X e wa) (hg : DG ex X tg g) (hs : swapsWithSole [tg] e pos.line X.env = pure false := by rfl) (hw : swappedStores [tg] e X.env = pure none := by rfl)
    (h1 : (assignEach [tg] X.env).map (·.2) = [assign tg X.env] := by rfl) : DSt ex W X (.Assign [tg] e pos) (sAsg wa g) := ps_weak (ps_asg he hg hs hw h1) fun D σ H q => by
  obtain ⟨Z, m, ρ, μ, E, S, q, kn, kr, kb, kc, kx⟩ := q
  refine ⟨Z, m, ρ, μ, _, _, S, q, fun v H1 P => ?_, fun cls d H' P => kx cls d σ H' (XSPost.of S P)⟩
  obtain ⟨m1, d, μ1, s1, r1, q1⟩ := P
  exact ⟨Z, m1, ρ, μ1, d, _, S.step s1, r1, q1, fun σ' H' P => kn σ' H' (SPost.from (SStep.of s1) P)⟩
theorem ds_set {i : Nat} {x : Str} {wa : WE} {pos' : Pos} (hN : X.N.Nodup) (hi : X.N[i]? = some x) (he : DE ex W X e wa) (hx : Loc X.env.scope x := by first | exact Or.inl rfl | exact Or.inr rfl)
    (hs : swapsWith e (some (.Name x pos')) pos.line X.env = pure false := by rfl) (hf : X.fn x = true ∨ X.env.scope.names.lookup x = some .local := by first | exact .inl rfl | exact .inr rfl | assumption) :
    DSt ex W X (.Assign [.Name x pos'] e pos) (sSet i wa) := ps_weak (ps_set (i := i) hN hi hx he hs hf) fun D σ H q => by
  obtain ⟨Z, m, ρ, μ, E, S, q, kn, kr, kb, kc, kx⟩ := q
  refine ⟨Z, m, ρ, μ, _, _, S, q, fun v H1 P => ?_, fun cls d H' P => kx cls d σ H' (XSPost.of S P)⟩
  obtain ⟨m1, d, μ1, s1, r1, q1⟩ := P
  obtain ⟨S1, s2⟩ := (S.step s1).set (i := i) r1
  exact kn _ _ ⟨m1, _, μ1, S1, (SStep.of s1).trans s2, q1⟩
/-- a, b = x, y and a, b, c = x, y, z: plain local names -/
def kPar2 (i j : Nat) (E : DEnds) (ρ : DS) : List D → Mu → Prop
  | [a, b], μ1 => E.nx ((ρ.set i (.v a)).set j (.v b)) μ1
  | _, _ => False
def kPar3 (i j l : Nat) (E : DEnds) (ρ : DS) : List D → Mu → Prop
  | [a, b, c], μ1 => E.nx (((ρ.set i (.v a)).set j (.v b)).set l (.v c)) μ1
  | _, _ => False
theorem kPar2_of {i j : Nat} {E : DEnds} {ρ : DS} {ds : List D} {μ : Mu} (h : kPar2 i j E ρ ds μ) : ∃ a b, ds = [a, b] ∧ E.nx ((ρ.set i (.v a)).set j (.v b)) μ := by
  match ds, h with
  | [a, b], h => exact ⟨a, b, rfl, h⟩
def sPar2 (i j : Nat) (wa : WA) : WS := fun E ρ μ => wa ρ μ (kPar2 i j E ρ) fun c ks es μ' => E.xc c ks es ρ μ'
def sPar3 (i j l : Nat) (wa : WA) : WS := fun E ρ μ => wa ρ μ (kPar3 i j l E ρ) fun c ks es μ' => E.xc c ks es ρ μ'
theorem ds_par2 {i j : Nat} {x y : Str} {a b : Expr} {ws : WA} {px py pt : Pos} {kt k2 pt2} (hc : X.calm = true) (hN : X.N.Nodup) (hi : X.N[i]? = some x) (hj : X.N[j]? = some y) (hij : i ≠ j)
    (ha : DA ex W X [a, b] ws) (hx : X.env.scope.names.lookup x = some .local := by rfl) (hy : X.env.scope.names.lookup y = some .local := by rfl)
    (hw : swappedStores [.Tuple [.Name x px, .Name y py] kt pt] (.Tuple [a, b] k2 pt2) X.env = pure (some [x, y]) := by rfl)
    (hs : swapsWithSole [.Tuple [.Name x px, .Name y py] kt pt] (.Tuple [a, b] k2 pt2) pos.line X.env = pure false := by rfl) :
    DSt ex W X (.Assign [.Tuple [.Name x px, .Name y py] kt pt] (.Tuple [a, b] k2 pt2) pos) (sPar2 i j ws) := ps_weak (ps_par hc hN hi hj hij hx hy ha hw hs) fun D σ H q => by
  obtain ⟨Z, m, ρ, μ, E, S, q, kn, kr, kb, kc, kx⟩ := q
  refine ⟨Z, m, ρ, μ, kPar2 i j E ρ, _, S, q, fun vs H1 P => ?_, fun cls d H' P => kx cls d σ H' (XSPost.of S P)⟩
  obtain ⟨m1, ds, μ1, s1, r1, q1⟩ := P
  obtain ⟨d1, d2, rfl, q1⟩ := kPar2_of q1
  obtain ⟨v1, _, rfl, h1, r1⟩ := r1.uncons
  obtain ⟨v2, _, rfl, h2, r1⟩ := r1.uncons
  rw [Reps] at r1
  subst r1
  obtain ⟨S1, t1⟩ := (S.step s1).set (i := i) h1
  obtain ⟨S2, t2⟩ := S1.set (i := j) (Rep.mono t1.pre t1.same _ _ h2)
  exact ⟨v1, v2, rfl, kn _ _ ⟨m1, _, μ1, S2, ((SStep.of s1).trans t1).trans t2, q1⟩⟩
/-- name op= e -/
def sAug (i : Nat) (f : F2) (wa : WE) : WS := fun E ρ μ => match ρ[i]? with
  | some (.v x) => wa ρ μ (fun y μ1 => f x y μ1 fun z μ2 => E.nx (ρ.set i (.v z)) μ2) fun c ks es μ' => E.xc c ks es ρ μ'
  | _ => False
end

/-! ### a def -/
def startD (N : List Str) (ds : List D) : DS := ds.map Sl.v ++ List.replicate (N.length - ds.length) Sl.no
theorem start_own {Z : Addr → Prop} {N : List Str} {ds : List D} {vs : List V} : ownW Z (L2.start N vs) (startD N ds) = Z := by
  funext b
  apply propext
  constructor
  · rintro (h | ⟨i, es, e1⟩)
    · exact h
    · unfold startD at e1
      rw [List.getElem?_append] at e1
      split at e1
      · rw [List.getElem?_map] at e1
        cases q : ds[i]? with
        | none => rw [q] at e1; cases e1
        | some d => rw [q] at e1; cases e1
      · have := List.mem_of_getElem? e1
        rw [List.mem_replicate] at this
        exact nomatch this.2
  · exact fun h => .inl h
theorem SR.start {G : Gx} {Z : Addr → Prop} {m : List Addr} {H : Hp} {μ : Mu} {N : List Str} {ds : List D} {vs : List V} (M : MuOk G Z m μ H) (r : Reps G m (vis Z m H) ds vs) : SR G Z m (L2.start N vs) H (startD N ds) μ := by
  refine ⟨by simp [startD, L2.start, r.len], by rw [start_own]; exact M, fun i d e => ?_, fun i a es e => ?_, fun i j a es fs e1 e2 => ?_, fun i c ks es e1 => ?_⟩
  · unfold startD at e
    rw [List.getElem?_append] at e
    split at e
    · rename_i hl
      rw [List.getElem?_map] at e
      rw [List.length_map] at hl
      cases q : ds[i]? with
      | none => rw [q] at e; cases e
      | some d' =>
        rw [q] at e
        cases e
        obtain ⟨v, ev, rv⟩ := r.get q
        refine ⟨v, ?_, by rw [start_own]; exact rv⟩
        unfold L2.start
        rw [List.getElem?_append_left (by rw [List.length_map, ← r.len]; exact hl), List.getElem?_map, ev]
        rfl
    · have := List.mem_of_getElem? e
      rw [List.mem_replicate] at this
      exact nomatch this.2
  · unfold startD at e
    rw [List.getElem?_append] at e
    split at e
    · rw [List.getElem?_map] at e
      cases q : ds[i]? with
      | none => rw [q] at e; cases e
      | some d' => rw [q] at e; cases e
    · have := List.mem_of_getElem? e
      rw [List.mem_replicate] at this
      exact nomatch this.2
  · unfold startD at e1
    rw [List.getElem?_append] at e1
    split at e1
    · rw [List.getElem?_map] at e1
      cases q : ds[i]? with
      | none => rw [q] at e1; cases e1
      | some d' => rw [q] at e1; cases e1
    · have := List.mem_of_getElem? e1
      rw [List.mem_replicate] at this
      exact nomatch this.2
  · unfold startD at e1
    rw [List.getElem?_append] at e1
    split at e1
    · rw [List.getElem?_map] at e1
      cases q : ds[i]? with
      | none => rw [q] at e1; cases e1
      | some d' => rw [q] at e1; cases e1
    · have := List.mem_of_getElem? e1
      rw [List.mem_replicate] at this
      exact nomatch this.2
section
variable {P : Program} {w : World} {K : PySem.W.Frag} {mg : Str → Option Value} {base : Heap}
/-- the ends of a def's body -/
def defE (Q : D → Mu → Prop) (Xd : XD) : DEnds := { nx := fun _ μ => Q .non μ, rt := Q, xc := fun c ks es _ μ => Xd c ks es μ }
theorem fnG_of {x qual : Str} {params : Arguments} {body : List Stmt} {scope : Scope} {dvs : List V} {kws : List (Str × V)} {f : Addr} {fd : FuncData} {N ps : List Str} {k : Nat} {sp : Sp} (F : FunD K x qual params body scope dvs kws f fd) (S : FnScope N ps scope)
    (len : ∀ vs H Q E, sp vs H Q E → vs.length = ps.length)
    (hbody : ∀ (cdv : Value) (A : Around) (fr : List Env) (s : Shared) (H : Hp) (vs : List V) (Q : VK) (E : XK), Room k (A.deeper (envOfC qual scope s.heap.objs.size f cdv)) → (A.deeper (envOfC qual scope s.heap.objs.size f cdv)).guards = some [] → sp vs H Q E →
      ∃ t, PSs (cxOf (L2.CX P w) P w K mg base N qual scope f cdv A fr s H E) body t ∧ t { nx := fun _ H' => Q .non H', rt := Q } (L2.start N vs) H) : FnG P w K mg base (k + 1) f fd ps sp := by
  obtain ⟨oc, od, dV, kV, doc, pm, an, cdv, ct, osl, rfl, lk, hcd, _, _⟩ := F.ex
  refine ⟨len, fun A fr s H args us vs Q E room gd env bd rv hsp => ?_⟩
  have hlen := len _ _ _ _ hsp
  have kin : K.In s.heap := env.mod.kin.keeps fun b o e => (env.bs b o e).1
  have nolim : s.heap.NoLimit := env.mod.nolimit.keeps fun b o e => (env.bs b o e).1
  have kinds : ∀ y ∈ ps.zip us, scope.names.lookup y.1 = some .local ∨ (scope.names.lookup y.1 = some .cell ∧ ((cellsFrom (s.heap.objs.size + 1) scope.names []).lookup y.1).isSome = true) := by
    rintro ⟨n, v⟩ hy
    exact (S.par n (List.of_mem_zip hy).1).elim .inl fun q => .inr ⟨q, PySem.W.cellsFrom_some _ _ _ (.inl q)⟩
  refine codeAny_call_function room.depth (kin _ _ lk) rfl S.co S.gen rfl (PySem.W.codeRec_of kin hcd) (bd _ _ _ _ ?_)
  refine wpAny_newFunctionEnv_cells S.kind kinds fun env1 he1 s1 made => ?_
  subst he1
  refine ⟨nolim.keeps made.toInCall.keep, codeAny_func ?_⟩
  obtain ⟨t, ht, hq⟩ := hbody cdv A fr s H vs Q E (room.deeper _) gd hsp
  have I : Inv (cxOf (L2.CX P w) P w K mg base N qual scope f cdv A fr s H E) [] (L2.start N vs) H s1 := inv_start S room.hd env hlen rv made
  refine wpAny_mono (ht.run [] s1 (L2.start N vs) H _ I hq) (fun fl s2 hs => ?_) fun er s2 hs => hs
  match fl, hs with
  | .ret u, ⟨v, σ2, H2, J, rv2, q⟩ => exact ⟨v, H2, J.os, J.bare, J.base, J.hok, rv2, q⟩
  | .next, ⟨σ2, H2, J, q⟩ => exact ⟨V.non, H2, J.os, J.bare, J.base, J.hok, rfl, q⟩
  | .brk, ⟨_, _, _, q⟩ => exact q.elim
  | .cont, ⟨_, _, _, q⟩ => exact q.elim
theorem def_ok {x qual : Str} {params : Arguments} {body : List Stmt} {scope : Scope} {dvs : List V} {kws : List (Str × V)} {f : Addr} {fd : FuncData} {N ps : List Str} {k : Nat} {sp : DSp} {wb : WS} (F : FunD K x qual params body scope dvs kws f fd) (S : FnScope N ps scope)
    (len : ∀ ds μ Q Xd, sp ds μ Q Xd → ds.length = ps.length)
    (hbody : ∀ (cdv : Value) (A : Around) (fr : List Env) (s : Shared) (H : Hp) (E : XK), Room k (A.deeper (envOfC qual scope s.heap.objs.size f cdv)) → (A.deeper (envOfC qual scope s.heap.objs.size f cdv)).guards = some [] →
      DSs none (fun cls d _ H' => E cls d H') (cxOf (L2.CX P w) P w K mg base N qual scope f cdv A fr s H E) body wb)
    (hw : ∀ ds μ Q Xd, sp ds μ Q Xd → wb (defE Q Xd) (startD N ds) μ) : FnG P w K mg base (k + 1) f fd ps (toSp ⟨K, mg, none⟩ sp) := by
  refine fnG_of F S (fun vs H Q E h => ?_) (fun cdv A outer s H vs Q E hr hgd h => ?_)
  · obtain ⟨Z, m, μ, ds, Q', Xd, M, r, q, _⟩ := h
    rw [← r.len]
    exact len _ _ _ _ q
  · refine ⟨_, hbody cdv A outer s H E hr hgd, ?_⟩
    obtain ⟨Z, m, μ, ds, Q', Xd, M, r, q, kq, kx⟩ := h
    refine ⟨Z, m, startD N ds, μ, defE Q' Xd, .start M r, hw ds μ Q' Xd q, fun σ' H' P => ?_, fun v H' P => ?_, fun σ' H' P => ?_, fun σ' H' P => ?_, fun cls d σ' H' P => ?_⟩
    · obtain ⟨m', ρ', μ', S', s', q'⟩ := P
      have z := s'.same
      rw [start_own] at z
      exact kq _ _ ⟨m', .non, μ', ⟨s'.pre, s'.hid, S'.mu.out_own, z.trans vis_own⟩, by rw [Rep], q'⟩
    · obtain ⟨m', d, μ', h1, h2, h3, h4, h5, h6⟩ := P
      rw [start_own] at h4
      exact kq _ _ ⟨m', d, μ', ⟨h1, h2, h3, h4⟩, h5, h6⟩
    · obtain ⟨m', ρ', μ', S', s', q'⟩ := P
      exact q'.elim
    · obtain ⟨m', ρ', μ', S', s', q'⟩ := P
      exact q'.elim
    · obtain ⟨m', c, ks, es, ρ', μ', C, dd, vs', S', s', e1, e2, e3, e4, e5, e6, q'⟩ := P
      have z := s'.same
      rw [start_own] at z
      exact kx _ _ _ ⟨m', c, ks, es, μ', C, dd, vs', ⟨s'.pre, s'.hid, S'.mu.out_own, z.trans vis_own⟩, e1, e2, e3, vis_own _ _ e4, e5, Reps.mono (List.prefix_refl _) vis_own _ _ e6, q'⟩
end
end DL

set_option Elab.async false
set_option linter.all false
set_option maxRecDepth 100000
set_option maxHeartbeats 4000000
set_option autoImplicit false
namespace DL
open PySem PySem.Spec PyProof.Rows L2
/-! ### operations on ints -/
def fII (C : Int → Int → Prop) (g : Int → Int → Int) : F2
  | .int i, .int j, μ, Q => C i j ∧ Q (.int (g i j)) μ
  | _, _, _, _ => False
def fII0 (g : Int → Int → Int) : F2
  | .int i, .int j, μ, Q => Q (.int (g i j)) μ
  | _, _, _, _ => False
def fIB (g : Int → Int → Bool) : F2
  | .int i, .int j, μ, Q => Q (.bl (g i j)) μ
  | _, _, _, _ => False
def fI (g : Int → Int) : F1
  | .int i, μ, Q => Q (.int (g i)) μ
  | _, _, _ => False
theorem fII_of {C : Int → Int → Prop} {g : Int → Int → Int} {x y : D} {μ : Mu} {Q : D → Mu → Prop} (h : fII C g x y μ Q) : ∃ i j, x = .int i ∧ y = .int j ∧ C i j ∧ Q (.int (g i j)) μ := by
  unfold fII at h
  split at h
  · exact ⟨_, _, rfl, rfl, h⟩
  · exact h.elim
theorem fII0_of {g : Int → Int → Int} {x y : D} {μ : Mu} {Q : D → Mu → Prop} (h : fII0 g x y μ Q) : ∃ i j, x = .int i ∧ y = .int j ∧ Q (.int (g i j)) μ := by
  unfold fII0 at h
  split at h
  · exact ⟨_, _, rfl, rfl, h⟩
  · exact h.elim
theorem fIB_of {g : Int → Int → Bool} {x y : D} {μ : Mu} {Q : D → Mu → Prop} (h : fIB g x y μ Q) : ∃ i j, x = .int i ∧ y = .int j ∧ Q (.bl (g i j)) μ := by
  unfold fIB at h
  split at h
  · exact ⟨_, _, rfl, rfl, h⟩
  · exact h.elim
theorem s2_II {G : Gx} {C : Int → Int → Prop} {g : Int → Int → Int} : S2 G (rI C fun i j => .int (g i j)) (fII C g) := by
  intro Z m μ H x y u v Q Q' M rx ry h k
  obtain ⟨i, j, rfl, rfl, c, q⟩ := fII_of h
  rw [Rep] at rx ry
  exact ⟨i, j, rx, ry, c, k _ _ (.now M (by rw [Rep]) q)⟩
theorem s2_II0 {G : Gx} {g : Int → Int → Int} : S2 G (rI0 fun i j => .int (g i j)) (fII0 g) := by
  intro Z m μ H x y u v Q Q' M rx ry h k
  obtain ⟨i, j, rfl, rfl, q⟩ := fII0_of h
  rw [Rep] at rx ry
  exact ⟨i, j, rx, ry, k _ _ (.now M (by rw [Rep]) q)⟩
theorem s2_IB {G : Gx} {g : Int → Int → Bool} : S2 G (rI0 fun i j => .bl (g i j)) (fIB g) := by
  intro Z m μ H x y u v Q Q' M rx ry h k
  obtain ⟨i, j, rfl, rfl, q⟩ := fIB_of h
  rw [Rep] at rx ry
  exact ⟨i, j, rx, ry, k _ _ (.now M (by rw [Rep]) q)⟩
theorem fI_of {g : Int → Int} {x : D} {μ : Mu} {Q : D → Mu → Prop} (h : fI g x μ Q) : ∃ i, x = .int i ∧ Q (.int (g i)) μ := by
  unfold fI at h
  split at h
  · exact ⟨_, rfl, h⟩
  · exact h.elim
theorem s1_I {G : Gx} {g : Int → Int} : S1 G (rU fun i => .int (g i)) (fI g) := by
  intro Z m μ H x u Q Q' M rx h k
  obtain ⟨i, rfl, q⟩ := fI_of h
  rw [Rep] at rx
  exact ⟨i, rx, k _ _ (.now M (by rw [Rep]) q)⟩
abbrev fAdd : F2 := fII0 fun i j => i + j
abbrev fSub : F2 := fII0 fun i j => i - j
def CM (i j : Int) : Prop := CMul i j ∨ CMulW i j
theorem op_mulU {X : Cx} : OpR X (binaryOp .Mult) (rI CM fun i j => .int (i * j)) := by
  intro pins s σ H x y v u Q I rx ry h
  obtain ⟨i, j, e1, e2, c, q⟩ := h
  rcases c with c | c
  · exact op_mul pins s σ H x y v u Q I rx ry ⟨i, j, e1, e2, c, q⟩
  · exact op_mulW pins s σ H x y v u Q I rx ry ⟨i, j, e1, e2, c, q⟩
abbrev fMul : F2 := fII CM fun i j => i * j
abbrev fDiv : F2 := fII CDivW fun i j => i / j
abbrev fMod : F2 := fII (fun _ j => 0 < j) fun i j => i % j
abbrev fPow : F2 := fII CPow fun i j => i ^ j.toNat
abbrev fNeg : F1 := fI fun i => -i
abbrev fLt : F2 := fIB fun i j => decide (i < j)
abbrev fLe : F2 := fIB fun i j => decide (i ≤ j)
abbrev fGt : F2 := fIB fun i j => decide (j < i)
abbrev fGe : F2 := fIB fun i j => decide (j ≤ i)
abbrev fEqI : F2 := fIB fun i j => decide (i = j)
abbrev fNeI : F2 := fIB fun i j => !decide (i = j)
/-- is, is not of a value and None -/
def isNon : D → Bool
  | .non => true
  | _ => false
def fIsN : F2
  | x, .non, μ, Q => Q (.bl (isNon x)) μ
  | _, _, _, _ => False
def fNotN : F2
  | x, .non, μ, Q => Q (.bl (!isNon x)) μ
  | _, _, _, _ => False
theorem rep_non {G : Gx} {m : List Addr} {E : Hp} {x : D} {u : V} (r : Rep G m E x u) : decide (u = .non) = isNon x := by
  cases x <;> rw [Rep] at r
  case non => subst r; rfl
  case bl => subst r; rfl
  case int => subst r; rfl
  case str => subst r; rfl
  case ty => subst r; rfl
  case tup => obtain ⟨a, vs, rfl, _⟩ := r; rfl
  case lst => obtain ⟨a, vs, rfl, _⟩ := r; rfl
  case frl => obtain ⟨a, vs, rfl, _⟩ := r; rfl
  case obj => obtain ⟨a, C, dx, vs, rfl, _⟩ := r; rfl
  case loc => obtain ⟨a, rfl, _⟩ := r; rfl
  case cls => obtain ⟨C, _, rfl⟩ := r; rfl
  case opq => obtain ⟨a, rfl, _⟩ := r; rfl
theorem s2_isN {G : Gx} : S2 G (fun x y H Q => y = .non ∧ Q (.bl (decide (x = .non))) H) fIsN := by
  intro Z m μ H x y u v Q Q' M rx ry h k
  unfold fIsN at h
  split at h
  · rw [Rep] at ry
    refine ⟨ry, k _ _ (.now M (d := .bl _) ?_ h)⟩
    rw [Rep, rep_non rx]
  · exact h.elim
section
variable {ex : Option (Addr × Addr × Addr)} {W : WX} {X : Cx} {a b c : Expr} {wa wb wc : WE} {pos : Pos}
theorem de_sub (ha : DE ex W X a wa) (hb : DE ex W X b wb) : DE ex W X (.BinOp a .Sub b pos) (w2 fSub wa wb) := de_op op_sub s2_II0 ha hb
theorem de_div (ha : DE ex W X a wa) (hb : DE ex W X b wb) : DE ex W X (.BinOp a .FloorDiv b pos) (w2 fDiv wa wb) := de_op op_fdivW s2_II ha hb
theorem de_mod (ha : DE ex W X a wa) (hb : DE ex W X b wb) : DE ex W X (.BinOp a .Mod b pos) (w2 fMod wa wb) := de_op op_mod s2_II ha hb
theorem de_pow (ha : DE ex W X a wa) (hb : DE ex W X b wb) : DE ex W X (.BinOp a .Pow b pos) (w2 fPow wa wb) := de_op op_pow s2_II ha hb
theorem de_neg (ha : DE ex W X a wa) : DE ex W X (.UnaryOp .USub a pos) (w1 fNeg wa) := de_un un_neg s1_I ha
end
/-! ### data of the library, and == by it -/
mutual
def toP : D → Option PyData
  | .non => some .none
  | .bl b => some (.bool b)
  | .int i => some (.int i)
  | .str s => some (.str s)
  | .tup ds => (toPs ds).map .tuple
  | .lst ds => (toPs ds).map .list
  | .frl ds => (toPs ds).map .list
  | _ => none
def toPs : List D → Option (List PyData)
  | [] => some []
  | d :: ds => match toP d, toPs ds with
    | some p, some ps => some (p :: ps)
    | _, _ => none
end
mutual
theorem dp_of {G : Gx} {m : List Addr} {E H : Hp} (hE : Same E H) : ∀ (d : D) (v : V) (p : PyData), Rep G m E d v → toP d = some p → Dp G.K H v p
  | .non, v, p, r, e => by rw [Rep] at r; rw [toP] at e; cases e; subst r; exact .non
  | .bl b, v, p, r, e => by rw [Rep] at r; rw [toP] at e; cases e; subst r; exact .bl b
  | .int i, v, p, r, e => by rw [Rep] at r; rw [toP] at e; cases e; subst r; exact .int i
  | .str s, v, p, r, e => by rw [Rep] at r; rw [toP] at e; cases e; subst r; exact .str s
  | .tup ds, v, p, r, e => by
    rw [Rep] at r; rw [toP] at e
    obtain ⟨a, vs, rfl, s, q⟩ := r
    cases h : toPs ds with
    | none => rw [h] at e; cases e
    | some ps =>
      rw [h] at e; cases e
      exact .tup (SqT.same hE s) (dps_of hE ds vs ps q h)
  | .lst ds, v, p, r, e => by
    rw [Rep] at r; rw [toP] at e
    obtain ⟨a, vs, rfl, s, q⟩ := r
    cases h : toPs ds with
    | none => rw [h] at e; cases e
    | some ps =>
      rw [h] at e; cases e
      exact .lst (.inl (.inl (hE _ _ s))) (dps_of hE ds vs ps q h)
  | .frl ds, v, p, r, e => by
    rw [Rep] at r; rw [toP] at e
    obtain ⟨a, vs, rfl, s, q⟩ := r
    cases h : toPs ds with
    | none => rw [h] at e; cases e
    | some ps =>
      rw [h] at e; cases e
      exact .lst (Same.seq hE s) (dps_of hE ds vs ps q h)
  | .obj _ _ _, v, p, r, e => by simp [toP] at e
  | .loc _, v, p, r, e => by simp [toP] at e
  | .ty _, v, p, r, e => by simp [toP] at e
  | .cls _, v, p, r, e => by simp [toP] at e
  | .opq _, v, p, r, e => by simp [toP] at e
theorem dps_of {G : Gx} {m : List Addr} {E H : Hp} (hE : Same E H) : ∀ (ds : List D) (vs : List V) (ps : List PyData), Reps G m E ds vs → toPs ds = some ps → DpAll G.K H vs ps
  | [], vs, ps, r, e => by rw [Reps] at r; rw [toPs] at e; cases e; subst r; exact .nil
  | d :: ds, vs, ps, r, e => by
    obtain ⟨v, t, rfl, h, q⟩ := r.uncons
    rw [toPs] at e
    cases h1 : toP d with
    | none => rw [h1] at e; cases e
    | some p =>
      cases h2 : toPs ds with
      | none => rw [h1, h2] at e; cases e
      | some ps' =>
        rw [h1, h2] at e; cases e
        exact .cons (dp_of hE d v p h h1) (dps_of hE ds t ps' q h2)
end
/-- == of data -/
def eqD (x y : D) (k : Bool → Prop) : Prop := ∃ p q, toP x = some p ∧ toP y = some q ∧ SeqAt.shaped p = true ∧ SeqAt.shaped q = true ∧ k (PyData.eqv p q)
def fEqD : F2 := fun x y μ Q => eqD x y fun b => Q (.bl b) μ
def fNeD : F2 := fun x y μ Q => eqD x y fun b => Q (.bl (!b)) μ
theorem s2_eqD {G : Gx} : S2 G (rEqD G.K) fEqD := by
  intro Z m μ H x y u v Q Q' M rx ry h k
  obtain ⟨p, q, e1, e2, s1, s2, h⟩ := h
  exact ⟨p, q, dp_of vis_le _ _ _ rx e1, dp_of vis_le _ _ _ ry e2, s1, s2, k _ _ (.now M (by rw [Rep]) h)⟩
theorem s2_neD {G : Gx} : S2 G (rNeD G.K) fNeD := by
  intro Z m μ H x y u v Q Q' M rx ry h k
  obtain ⟨p, q, e1, e2, s1, s2, h⟩ := h
  exact ⟨p, q, dp_of vis_le _ _ _ rx e1, dp_of vis_le _ _ _ ry e2, s1, s2, k _ _ (.now M (by rw [Rep]) h)⟩
def fNotInD : F2 := fun x y μ Q => ∃ p qs, toP x = some p ∧ toP y = some (.list qs) ∧ SeqAt.shaped p = true ∧ SeqAt.shaped (.list qs) = true ∧ Q (.bl (!qs.any fun z => PyData.eqv z p)) μ
theorem s2_notInD {G : Gx} : S2 G (rNotInD G.K) fNotInD := by
  intro Z m μ H x y u v Q Q' M rx ry h k
  obtain ⟨p, q, e1, e2, s1, s2, h⟩ := h
  exact ⟨p, q, dp_of vis_le _ _ _ rx e1, dp_of vis_le _ _ _ ry e2, s1, s2, k _ _ (.now M (by rw [Rep]) h)⟩
/-! ### items, lengths, cuts -/
/-- the items of a list or a tuple -/
def itemsD (d : D) (μ : Mu) : Option (List D) := match d with
  | .tup ds => some ds
  | .lst ds => some ds
  | .frl ds => some ds
  | .loc n => match μ[n]? with
    | some (.lst ds) => some ds
    | _ => none
  | _ => none
def fIx : F2 := fun x y μ Q => match itemsD x μ, y with
  | some ds, .int i => match atI ds i with
    | some d => Q d μ
    | none => False
  | _, _ => False
theorem atI_rep {G : Gx} {m : List Addr} {E : Hp} {ds : List D} {vs : List V} {i : Int} {d : D} (r : Reps G m E ds vs) (h : atI ds i = some d) : ∃ v, atI vs i = some v ∧ Rep G m E d v := by
  unfold atI at h ⊢
  rw [← r.len]
  cases e : ixN ds.length i with
  | none => rw [e] at h; cases h
  | some j =>
    rw [e] at h
    obtain ⟨v, e1, q⟩ := r.get (show ds[j]? = some d from h)
    exact ⟨v, e1, q⟩
theorem items_rep {G : Gx} {Z : Addr → Prop} {m : List Addr} {μ : Mu} {H : Hp} {x : D} {u : V} {ds : List D} (M : MuOk G Z m μ H) (r : Rep G m (vis Z m H) x u) (h : itemsD x μ = some ds) :
    ∃ a vs, u = .ref a ∧ (SqL G.K H a vs ∨ SqT G.K H a vs) ∧ Reps G m (vis Z m H) ds vs := by
  unfold itemsD at h
  split at h
  · cases h
    rw [Rep] at r
    obtain ⟨a, vs, e, s, q⟩ := r
    exact ⟨a, vs, e, .inr (SqT.same vis_le s), q⟩
  · cases h
    rw [Rep] at r
    obtain ⟨a, vs, e, s, q⟩ := r
    exact ⟨a, vs, e, .inl (.inl (.inl (vis_le _ _ s))), q⟩
  · cases h
    rw [Rep] at r
    obtain ⟨a, vs, e, s, q⟩ := r
    exact ⟨a, vs, e, .inl (Same.seq vis_le s), q⟩
  · rename_i n
    split at h
    · rename_i es e1
      cases h
      rw [Rep] at r
      obtain ⟨a, e, s⟩ := r
      obtain ⟨vs, h1, h2⟩ := M.cell n _ a e1 s
      exact ⟨a, vs, e, .inl (.inl (.inl h1)), h2⟩
    · cases h
  · cases h
def rIxLT (K : PySem.W.Frag) : R2 := fun x y H Q => rIxL K x y H Q ∨ rIxT K x y H Q
theorem s2_ix {G : Gx} : S2 G (rIxLT G.K) fIx := by
  intro Z m μ H x y u v Q Q' M rx ry h k
  unfold fIx at h
  split at h
  · rename_i ds i e1
    split at h
    · rename_i d e2
      rw [Rep] at ry
      obtain ⟨a, vs, e, s, q⟩ := items_rep M rx e1
      obtain ⟨w, ew, rw'⟩ := atI_rep q e2
      have fin := k w H (.now M rw' h)
      rcases s with s | s
      · exact .inl ⟨a, vs, i, w, e, ry, s, ew, fin⟩
      · exact .inr ⟨a, vs, i, w, e, ry, s, ew, fin⟩
    · exact h.elim
  · exact h.elim
def fLen : FN := fun xs μ Q => match xs with
  | [x] => match itemsD x μ with
    | some ds => Q (.int ds.length) μ
    | none => False
  | _ => False
theorem sn_len {G : Gx} : SN G (fun xs H Q => ∃ p ys, xs = [.ref p] ∧ (SqL G.K H p ys ∨ SqT G.K H p ys) ∧ Q (.int ys.length) H) fLen := by
  intro Z m μ H xs us Q Q' M r h k
  unfold fLen at h
  split at h
  · rename_i x
    split at h
    · rename_i ds e1
      obtain ⟨v, t, rfl, r1, r2⟩ := r.uncons
      rw [Reps] at r2
      subst r2
      obtain ⟨a, vs, rfl, s, q⟩ := items_rep M r1 e1
      exact ⟨a, vs, rfl, s, k _ _ (.now M (by rw [Rep, q.len]) h)⟩
    · exact h.elim
  · exact h.elim
/-- the cut of a list -/
def cutD (ds : List D) (lo hi : Option Int) : List D := (ds.drop (HT.sIx ds.length 0 lo)).take (HT.sIx ds.length ds.length hi - HT.sIx ds.length 0 lo)
theorem cut_rep {G : Gx} {m : List Addr} {E : Hp} {ds : List D} {vs : List V} {lo hi : Option Int} (r : Reps G m E ds vs) : Reps G m E (cutD ds lo hi) (cutV vs lo hi) := by
  unfold cutD cutV
  rw [← r.len]
  exact (r.drop _).take _
/-- a part of a slice -/
abbrev WO := DS → Mu → (Option Int → Mu → Prop) → XD → Prop
def oNone : WO := fun _ μ Q _ => Q none μ
def intOr (d : D) (Q : Int → Prop) : Prop := match d with
  | .int i => Q i
  | _ => False
theorem intOr_of {d : D} {Q : Int → Prop} (h : intOr d Q) : ∃ i, d = .int i ∧ Q i := by
  cases d <;> first | exact h.elim | exact ⟨_, rfl, h⟩
def oSome (wa : WE) : WO := fun ρ μ Q Xd => wa ρ μ (fun d μ1 => intOr d fun i => Q (some i) μ1) Xd
def OPost (G : Gx) (Z : Addr → Prop) (m : List Addr) (H : Hp) (Q : Option Int → Mu → Prop) (o : Option Int) (H' : Hp) : Prop := ∃ m' μ', Step G Z m H m' μ' H' ∧ Q o μ'
def liftO (G : Gx) (W : WX) (w : WO) : TO := fun σ H Q' => ∃ Z m ρ μ Q Xd, SR G Z m σ H ρ μ ∧ w ρ μ Q Xd ∧ (∀ o H', OPost G (ownW Z σ ρ) m H Q o H' → Q' o H') ∧ ∀ cls d H', XPost G (ownW Z σ ρ) m H Xd cls d H' → W cls d σ H'
abbrev DO (ex : Option (Addr × Addr × Addr)) (W : WX) (X : Cx) (e : Option Expr) (w : WO) : Prop := PO X e (liftO (gx X ex) W w)
theorem po_weak {X : Cx} {e : Option Expr} {t t' : TO} (h : PO X e t) (k : ∀ σ H Q, t' σ H Q → t σ H Q) : PO X e t' := ⟨fun pins s σ H Q I q => h.run pins s σ H Q I (k σ H Q q)⟩
def lstOr (d : D) (Q : List D → Prop) : Prop := match d with
  | .lst ds => Q ds
  | .frl ds => Q ds
  | _ => False
theorem lstOr_of {d : D} {Q : List D → Prop} (h : lstOr d Q) : ∃ ds, (d = .lst ds ∨ d = .frl ds) ∧ Q ds := by
  unfold lstOr at h
  split at h
  · exact ⟨_, .inl rfl, h⟩
  · exact ⟨_, .inr rfl, h⟩
  · exact h.elim
theorem lstOr_rep {G : Gx} {m : List Addr} {E : Hp} {d : D} {u : V} {Q : List D → Prop} (h : lstOr d Q) (r : Rep G m E d u) : ∃ ds a vs, u = .ref a ∧ SqL G.K E a vs ∧ Reps G m E ds vs ∧ Q ds := by
  obtain ⟨ds, e | e, q⟩ := lstOr_of h
  · subst e
    rw [Rep] at r
    obtain ⟨a, vs, e, s, r⟩ := r
    exact ⟨_, a, vs, e, .inl (.inl s), r, q⟩
  · subst e
    rw [Rep] at r
    obtain ⟨a, vs, e, s, r⟩ := r
    exact ⟨_, a, vs, e, s, r, q⟩
theorem SqL.same' {K : PySem.W.Frag} {H H' : Hp} {a : Addr} {xs : List V} (e : Same H H') (h : SqL K H a xs) : SqL K H' a xs := Same.seq e h
def wSl (wa : WE) (lo hi : WO) : WE := fun ρ μ Q Xd => wa ρ μ (fun x μ1 => lo ρ μ1 (fun l μ2 => hi ρ μ2 (fun u μ3 => lstOr x fun ds => Q (.lst (cutD ds l u)) μ3) Xd) Xd) Xd
section
variable {ex : Option (Addr × Addr × Addr)} {W : WX} {X : Cx} {a b c : Expr} {wa wb wc : WE} {wl wh : WO} {lo hi : Option Expr} {pos p2 : Pos}
theorem do_none : DO ex W X none oNone := po_weak po_none fun σ H Q' q => by
  obtain ⟨Z, m, ρ, μ, Q, Xd, S, q, k, kx⟩ := q
  exact k _ _ ⟨m, μ, .refl S.mu, q⟩
theorem do_some (h : DE ex W X a wa) : DO ex W X (some a) (oSome wa) := po_weak (po_some h) fun σ H Q' q => by
  obtain ⟨Z, m, ρ, μ, Q, Xd, S, q, k, kx⟩ := q
  refine ⟨Z, m, ρ, μ, _, Xd, S, q, fun v H1 P => ?_, kx⟩
  obtain ⟨m1, d, μ1, s1, r1, q1⟩ := P
  obtain ⟨i, rfl, q2⟩ := intOr_of q1
  rw [Rep] at r1
  exact ⟨i, r1, k _ _ ⟨m1, μ1, s1, q2⟩⟩
theorem de_slice (ha : DE ex W X a wa) (hl : DO ex W X lo wl) (hh : DO ex W X hi wh) : DE ex W X (.Subscript a (.Slice lo hi none p2) pos) (wSl wa wl wh) := pe_weak (pe_slice sl_list ha hl hh) fun σ H Q' q => by
  refine lift_bind (f := fun x ρ μ1 Q Xd => wl ρ μ1 (fun l μ2 => wh ρ μ2 (fun u μ3 => lstOr x fun ds => Q (.lst (cutD ds l u)) μ3) Xd) Xd) q fun Z m ρ μ Q Xd x v H1 S r1 q1 k kx => ?_
  refine ⟨Z, m, ρ, μ, _, Xd, S, q1, fun l H2 P => ?_, kx⟩
  obtain ⟨m2, μ2, s2, q2⟩ := P
  refine ⟨Z, m2, ρ, μ2, _, Xd, S.step s2, q2, fun u H3 P => ?_, fun cls d H' P => kx cls d H' (XPost.from s2 P)⟩
  obtain ⟨m3, μ3, s3, q3⟩ := P
  obtain ⟨ds, p, vs, e, sq, rs, q4⟩ := lstOr_rep q3 (Rep.mono (s2.trans s3).pre (s2.trans s3).same _ _ r1)
  refine ⟨p, vs, e, SqL.same' vis_le sq, fun np hnp => k _ _ ?_⟩
  have s4 := Step.laid (o := .lst (cutV vs l u)) s3.mu hnp
  refine VPost.from (s2.trans s3) ⟨m3, _, μ3, s4, ?_, q4⟩
  rw [Rep]
  refine ⟨np, _, rfl, ?_, cut_rep (Reps.mono s4.pre s4.same _ _ rs)⟩
  rw [vis_upd s3.mu hnp, upd_same]
theorem de_item (ha : DE ex W X a wa) (hb : DE ex W X b wb) (hs : PlainIx b := by exact fun _ _ => rfl) : DE ex W X (.Subscript a b pos) (w2 fIx wa wb) := de_ix (ix_list.or ix_tup) (s2_ix (G := gx X ex)) ha hb hs
end
/-! ### lists put together -/
def fCat : F2
  | .lst a, .lst b, μ, Q => a.length + b.length ≤ sizeLine ∧ Q (.lst (a ++ b)) μ
  | _, _, _, _ => False
theorem s2_cat {G : Gx} : S2 G rCat fCat := by
  intro Z m μ H x y u v Q Q' M rx ry h k
  unfold fCat at h
  split at h
  · obtain ⟨hl, h⟩ := h
    rw [Rep] at rx ry
    obtain ⟨p, vs, rfl, sp, rp⟩ := rx
    obtain ⟨q, us, rfl, sq, rq⟩ := ry
    refine ⟨p, q, vs, us, rfl, rfl, vis_le _ _ sp, vis_le _ _ sq, by rw [← rp.len, ← rq.len]; exact hl, fun t nt => k _ _ ?_⟩
    have s4 := Step.laid (o := .lst (vs ++ us)) M nt
    refine ⟨m, _, μ, s4, ?_, h⟩
    rw [Rep]
    refine ⟨t, _, rfl, ?_, Reps.append (Reps.mono s4.pre s4.same _ _ rp) (Reps.mono s4.pre s4.same _ _ rq)⟩
    rw [vis_upd M nt, upd_same]
  · exact h.elim
def fRep : F2
  | .lst a, .int n, μ, Q => -(2 ^ 63) ≤ n ∧ n < 2 ^ 63 ∧ a.length * n.toNat ≤ sizeLine ∧ Q (.lst (List.replicate n.toNat a).flatten) μ
  | _, _, _, _ => False
theorem Reps.reps {G : Gx} {m : List Addr} {E : Hp} {ds : List D} {vs : List V} (r : Reps G m E ds vs) : ∀ n : Nat, Reps G m E (List.replicate n ds).flatten (List.replicate n vs).flatten
  | 0 => Reps.nil
  | n + 1 => by
    rw [List.replicate_succ, List.replicate_succ, List.flatten_cons, List.flatten_cons]
    exact Reps.append r (Reps.reps r n)
theorem fRep_of {x y : D} {μ : Mu} {Q : D → Mu → Prop} (h : fRep x y μ Q) : ∃ a n, x = .lst a ∧ y = .int n ∧ -(2 ^ 63) ≤ n ∧ n < 2 ^ 63 ∧ a.length * n.toNat ≤ sizeLine ∧ Q (.lst (List.replicate n.toNat a).flatten) μ := by
  unfold fRep at h
  split at h
  · exact ⟨_, _, rfl, rfl, h⟩
  · exact h.elim
theorem s2_rep {G : Gx} : S2 G rRep fRep := by
  intro Z m μ H x y u v Q Q' M rx ry h k
  obtain ⟨a, n, rfl, rfl, h1, h2, hl, h⟩ := fRep_of h
  rw [Rep] at rx
  rw [Rep] at ry
  obtain ⟨p, vs, rfl, sp, rp⟩ := rx
  refine ⟨p, n, vs, rfl, ry, vis_le _ _ sp, h1, h2, by rw [← rp.len]; exact hl, fun t nt => k _ _ ?_⟩
  have s4 := Step.laid (o := .lst (List.replicate n.toNat vs).flatten) M nt
  refine ⟨m, _, μ, s4, ?_, h⟩
  rw [Rep]
  refine ⟨t, _, rfl, ?_, Reps.reps (Reps.mono s4.pre s4.same _ _ rp) _⟩
  rw [vis_upd M nt, upd_same]
/-! ### calls of built-ins -/
def fInt1 : FN := fun xs μ Q => match xs with
  | [.int i] => Q (.int i) μ
  | [.bl b] => Q (.int (if b then 1 else 0)) μ
  | _ => False
theorem sn_int1 {G : Gx} : SN G (fun xs H Q => (∃ i, xs = [.int i] ∧ Q (.int i) H) ∨ ∃ k, xs = [.bl k] ∧ Q (.int (if k then 1 else 0)) H) fInt1 := by
  intro Z m μ H xs us Q Q' M r h k
  unfold fInt1 at h
  split at h
  · obtain ⟨v, t, rfl, r1, r2⟩ := r.uncons
    rw [Reps] at r2
    rw [Rep] at r1
    subst r1 r2
    exact .inl ⟨_, rfl, k _ _ (.now M (by rw [Rep]) h)⟩
  · obtain ⟨v, t, rfl, r1, r2⟩ := r.uncons
    rw [Reps] at r2
    rw [Rep] at r1
    subst r1 r2
    exact .inr ⟨_, rfl, k _ _ (.now M (by rw [Rep]) h)⟩
  · exact h.elim
def fMax2 : FN := fun xs μ Q => match xs with
  | [.int i, .int j] => Q (.int (if j > i then j else i)) μ
  | _ => False
def fMin2 : FN := fun xs μ Q => match xs with
  | [.int i, .int j] => Q (.int (if j < i then j else i)) μ
  | _ => False
def fAbs : FN := fun xs μ Q => match xs with
  | [.int i] => Q (.int (if i < 0 then -i else i)) μ
  | _ => False
theorem sn_max2 {G : Gx} : SN G (fun xs H Q => ∃ i j, xs = [.int i, .int j] ∧ Q (.int (if j > i then j else i)) H) fMax2 := by
  intro Z m μ H xs us Q Q' M r h k
  unfold fMax2 at h
  split at h
  · obtain ⟨v, t, rfl, r1, r2⟩ := r.uncons
    obtain ⟨v2, t2, rfl, r3, r4⟩ := r2.uncons
    rw [Reps] at r4
    rw [Rep] at r1 r3
    subst r1 r3 r4
    exact ⟨_, _, rfl, k _ _ (.now M (by rw [Rep]) h)⟩
  · exact h.elim
theorem sn_min2 {G : Gx} : SN G (fun xs H Q => ∃ i j, xs = [.int i, .int j] ∧ Q (.int (if j < i then j else i)) H) fMin2 := by
  intro Z m μ H xs us Q Q' M r h k
  unfold fMin2 at h
  split at h
  · obtain ⟨v, t, rfl, r1, r2⟩ := r.uncons
    obtain ⟨v2, t2, rfl, r3, r4⟩ := r2.uncons
    rw [Reps] at r4
    rw [Rep] at r1 r3
    subst r1 r3 r4
    exact ⟨_, _, rfl, k _ _ (.now M (by rw [Rep]) h)⟩
  · exact h.elim
/-- the ints of a list of ints -/
def intD : D → Option Int
  | .int i => some i
  | _ => none
def intsD : List D → Option (List Int)
  | [] => some []
  | d :: ds => match intD d, intsD ds with
    | some i, some ns => some (i :: ns)
    | _, _ => none
theorem reps_ints {G : Gx} {m : List Addr} {E : Hp} (ns : List Int) : Reps G m E (ns.map D.int) (ns.map V.int) := Reps.map_of (fun _ => by rw [Rep]) ns
end DL

set_option Elab.async false
set_option linter.all false
set_option maxRecDepth 100000
set_option maxHeartbeats 4000000
set_option autoImplicit false
namespace DL
open PySem PySem.Spec PyProof.Rows L2 RZ
/-! ### what is walked -/
abbrev WI := DS → Mu → (List D → Mu → Prop) → XD → Prop
/-- an iterator that gives the data ds, as long as what E0 shows stands -/
structure ItOk (G : Gx) (J : It) (m0 : List Addr) (E0 : Hp) (ds : List D) : Prop where
  go : ∀ (i : Nat) H, i < ds.length → Same E0 H → J.go i H
  stop : ∀ H, Same E0 H → J.stop ds.length H
  yld : ∀ (i : Nat) H x H3, i < ds.length → Same E0 H → J.yld i H x H3 → ∃ d, ds[i]? = some d ∧ ((H3 = H ∧ Rep G m0 E0 d x) ∨ ∃ T o, H T = none ∧ H3 = upd H T o ∧ ∀ m E, m0 <+: m → Same E0 E → E T = some o → Rep G m E d x)
def IPost (G : Gx) (Z : Addr → Prop) (m : List Addr) (H : Hp) (Q : List D → Mu → Prop) (J : It) (H' : Hp) : Prop :=
  ∃ m' ds μ', Step G Z m H m' μ' H' ∧ ItOk G J m' (vis Z m' H') ds ∧ Q ds μ'
/-- the same, as long as what is hidden stands, too -/
structure ItOkF (G : Gx) (J : It) (m0 : List Addr) (E0 : Hp) (F : Hp → Prop) (ds : List D) : Prop where
  go : ∀ (i : Nat) H, i < ds.length → Same E0 H → F H → J.go i H
  stop : ∀ H, Same E0 H → F H → J.stop ds.length H
  yld : ∀ (i : Nat) H x H3, i < ds.length → Same E0 H → F H → J.yld i H x H3 → ∃ d, ds[i]? = some d ∧ ((H3 = H ∧ Rep G m0 E0 d x) ∨ ∃ T o, H T = none ∧ H3 = upd H T o ∧ ∀ m E, m0 <+: m → Same E0 E → E T = some o → Rep G m E d x)
theorem ItOk.toF {G : Gx} {J : It} {m0 : List Addr} {E0 : Hp} {F : Hp → Prop} {ds : List D} (h : ItOk G J m0 E0 ds) : ItOkF G J m0 E0 F ds := ⟨fun i H a b _ => h.go i H a b, fun H b _ => h.stop H b, fun i H x H3 a b _ c => h.yld i H x H3 a b c⟩
def IPostF (G : Gx) (Z : Addr → Prop) (m : List Addr) (H : Hp) (Q : List D → Mu → Prop) (J : It) (H' : Hp) : Prop :=
  ∃ m' ds μ' F, Step G Z m H m' μ' H' ∧ (∀ H2, (∀ z, Z z → H2 z = H' z) → F H2) ∧ ItOkF G J m' (vis Z m' H') F ds ∧ Q ds μ'
theorem IPost.toF {G : Gx} {Z : Addr → Prop} {m : List Addr} {H : Hp} {Q : List D → Mu → Prop} {J : It} {H' : Hp} (p : IPost G Z m H Q J H') : IPostF G Z m H Q J H' := by
  obtain ⟨m', ds, μ', s, ok, q⟩ := p
  exact ⟨m', ds, μ', fun _ => True, s, fun _ _ => trivial, ok.toF, q⟩
def liftIF (G : Gx) (W : WX) (w : WI) : TI := fun σ H R => ∃ Z m ρ μ Q Xd, SR G Z m σ H ρ μ ∧ w ρ μ Q Xd ∧ (∀ J H', IPostF G (ownW Z σ ρ) m H Q J H' → R J H') ∧ ∀ cls d H', XPost G (ownW Z σ ρ) m H Xd cls d H' → W cls d σ H'
def liftI (G : Gx) (W : WX) (w : WI) : TI := fun σ H R => ∃ Z m ρ μ Q Xd, SR G Z m σ H ρ μ ∧ w ρ μ Q Xd ∧ (∀ J H', IPost G (ownW Z σ ρ) m H Q J H' → R J H') ∧ ∀ cls d H', XPost G (ownW Z σ ρ) m H Xd cls d H' → W cls d σ H'
abbrev DI (ex : Option (Addr × Addr × Addr)) (W : WX) (X : Cx) (tg e : Expr) (w : WI) : Prop := PI X tg e (liftI (gx X ex) W w)
theorem pi_weak {X : Cx} {tg e : Expr} {t t' : TI} (h : PI X tg e t) (k : ∀ σ H Q, t' σ H Q → t σ H Q) : PI X tg e t' := ⟨fun pins s σ H Q I q => h.run pins s σ H Q I (k σ H Q q)⟩
abbrev DIF (ex : Option (Addr × Addr × Addr)) (W : WX) (X : Cx) (tg e : Expr) (w : WI) : Prop := PI X tg e (liftIF (gx X ex) W w)
theorem DI.toF {ex : Option (Addr × Addr × Addr)} {W : WX} {X : Cx} {tg e : Expr} {w : WI} (h : DI ex W X tg e w) : DIF ex W X tg e w := pi_weak h fun σ H R q => by
  obtain ⟨Z, m, ρ, μ, Q, Xd, S, q, k, kx⟩ := q
  exact ⟨Z, m, ρ, μ, Q, Xd, S, q, fun J H' P => k J H' P.toF, kx⟩
def tupOr (d : D) (Q : List D → Prop) : Prop := match d with
  | .tup ds => Q ds
  | _ => False
theorem tupOr_of {d : D} {Q : List D → Prop} (h : tupOr d Q) : ∃ ds, d = .tup ds ∧ Q ds := by
  unfold tupOr at h
  split at h
  · exact ⟨_, rfl, h⟩
  · exact h.elim
def wiL (wa : WE) : WI := fun ρ μ Q Xd => wa ρ μ (fun d μ1 => lstOr d fun ds => Q ds μ1) Xd
def wiT (wa : WE) : WI := fun ρ μ Q Xd => wa ρ μ (fun d μ1 => tupOr d fun ds => Q ds μ1) Xd
/-- lo, lo + 1, .. -/
def rangeD (lo : Int) (n : Nat) : List D := (List.range n).map fun (k : Nat) => D.int (lo + (k : Int))
def rg1 (ds : List D) (Q : List D → Prop) : Prop := match ds with
  | [.int j] => -(2 ^ 62) ≤ j ∧ j < 2 ^ 62 ∧ Q (rangeD 0 j.toNat)
  | _ => False
def rg2 (ds : List D) (Q : List D → Prop) : Prop := match ds with
  | [.int i, .int j] => (-(2 ^ 62) ≤ i ∧ i < 2 ^ 62 ∧ -(2 ^ 62) ≤ j ∧ j < 2 ^ 62) ∧ Q (rangeD i (j - i).toNat)
  | _ => False
theorem rg1_of {ds : List D} {Q : List D → Prop} (h : rg1 ds Q) : ∃ j : Int, ds = [.int j] ∧ -(2 ^ 62) ≤ j ∧ j < 2 ^ 62 ∧ Q (rangeD 0 j.toNat) := by
  unfold rg1 at h
  split at h
  · exact ⟨_, rfl, h⟩
  · exact h.elim
def wiR1 (wa : WA) : WI := fun ρ μ Q Xd => wa ρ μ (fun ds μ1 => rg1 ds fun es => Q es μ1) Xd
def wiR2 (wa : WA) : WI := fun ρ μ Q Xd => wa ρ μ (fun ds μ1 => rg2 ds fun es => Q es μ1) Xd
/-- enumerate, zip -/
def enumD (ds : List D) : List D := ds.mapIdx fun i d => D.tup [.int (i : Nat), d]
def zipD (a b : List D) : List D := (a.zip b).map fun p => D.tup [p.1, p.2]
def lst1 (ds : List D) (Q : List D → Prop) : Prop := match ds with
  | [d] => lstOr d Q
  | _ => False
def wiEnum (wa : WA) : WI := fun ρ μ Q Xd => wa ρ μ (fun ds μ1 => lst1 ds fun es => Q (enumD es) μ1) Xd
def zip2 (ds : List D) (Q : List D → Prop) : Prop := match ds with
  | [a, b] => match a, b with
    | .tup xs, .tup ys => Q (zipD xs ys)
    | .lst xs, .lst ys => Q (zipD xs ys)
    | .frl xs, .lst ys => Q (zipD xs ys)
    | .lst xs, .frl ys => Q (zipD xs ys)
    | _, _ => False
  | _ => False
def wiZip (wa : WA) : WI := fun ρ μ Q Xd => wa ρ μ (fun ds μ1 => zip2 ds fun es => Q es μ1) Xd
theorem itok_list {G : Gx} {m : List Addr} {E : Hp} {a : Addr} {vs : List V} {ds : List D} (s : SqL G.K E a vs) (r : Reps G m E ds vs) : ItOk G (Itl G.K a) m E ds := by
  refine ⟨fun i H hi hs => ?_, fun H hs => ⟨vs, Same.seq hs s, by rw [r.len]; exact Nat.le_refl _⟩, fun i H x H3 hi hs y => ?_⟩
  · obtain ⟨v, e, _⟩ := r.get (List.getElem?_eq_getElem hi)
    exact ⟨vs, v, Same.seq hs s, e⟩
  · obtain ⟨e, y⟩ := y
    obtain ⟨d, ed, rd⟩ := r.get' (y vs (Same.seq hs s))
    exact ⟨d, ed, .inl ⟨e, rd⟩⟩
theorem itok_tup {G : Gx} {m : List Addr} {E : Hp} {a : Addr} {vs : List V} {ds : List D} (s : SqT G.K E a vs) (r : Reps G m E ds vs) : ItOk G (Itt G.K a) m E ds := by
  refine ⟨fun i H hi hs => ?_, fun H hs => ⟨vs, SqT.same hs s, by rw [r.len]; exact Nat.le_refl _⟩, fun i H x H3 hi hs y => ?_⟩
  · obtain ⟨v, e, _⟩ := r.get (List.getElem?_eq_getElem hi)
    exact ⟨vs, v, SqT.same hs s, e⟩
  · obtain ⟨e, y⟩ := y
    obtain ⟨d, ed, rd⟩ := r.get' (y vs (SqT.same hs s))
    exact ⟨d, ed, .inl ⟨e, rd⟩⟩
theorem itok_range {G : Gx} {m : List Addr} {E : Hp} {lo : Int} {n : Nat} : ItOk G (Itr lo n) m E (rangeD lo n) := by
  have hl : (rangeD lo n).length = n := by simp [rangeD]
  refine ⟨fun i H hi hs => ?_, fun H hs => ?_, fun i H x H3 hi hs y => ?_⟩
  · rw [hl] at hi; exact hi
  · rw [hl]; exact Nat.le_refl _
  · rw [hl] at hi
    obtain ⟨e, ex⟩ := y
    refine ⟨.int (lo + i), ?_, .inl ⟨e, by rw [Rep]; exact ex⟩⟩
    simp [rangeD, hi]
theorem itok_enum {G : Gx} {m : List Addr} {E : Hp} {a : Addr} {vs : List V} {ds : List D} (s : SqL G.K E a vs) (r : Reps G m E ds vs) : ItOk G (Ite G.K a) m E (enumD ds) := by
  have hl : (enumD ds).length = ds.length := by simp [enumD]
  refine ⟨fun i H hi hs => ?_, fun H hs => ⟨vs, Same.seq hs s, by rw [hl, r.len]; exact Nat.le_refl _⟩, fun i H x H3 hi hs y => ?_⟩
  · rw [hl] at hi
    obtain ⟨v, e, _⟩ := r.get (List.getElem?_eq_getElem hi)
    exact ⟨vs, v, Same.seq hs s, e⟩
  · obtain ⟨T, x', e, nT, eH, y⟩ := y
    obtain ⟨d, ed, rd⟩ := r.get' (y vs (Same.seq hs s))
    refine ⟨.tup [.int (i : Nat), d], ?_, .inr ⟨T, _, nT, eH, fun m' E' hp hE eT => ?_⟩⟩
    · simp only [enumD, List.getElem?_mapIdx, ed, Option.map_some]
    · rw [Rep]
      exact ⟨T, _, e, .inl (.inl eT), Reps.cons (by rw [Rep]) (Reps.cons (Rep.mono hp hE _ _ rd) Reps.nil)⟩
section
variable {ex : Option (Addr × Addr × Addr)} {W : WX} {X : Cx} {tg e : Expr} {wa : WE} {ws : WA} {p pos : Pos}
theorem di_list (h : DE ex W X e wa) : DI ex W X tg e (wiL wa) := pi_weak (pi_list h) fun σ H R q => by
  obtain ⟨Z, m, ρ, μ, Q, Xd, S, q, k, kx⟩ := q
  refine ⟨Z, m, ρ, μ, _, Xd, S, q, fun v H1 P => ?_, kx⟩
  obtain ⟨m1, d, μ1, s1, r1, q1⟩ := P
  obtain ⟨ds, a, vs, e, sq, rs, q2⟩ := lstOr_rep q1 r1
  exact ⟨a, e, ⟨vs, Same.seq vis_le sq⟩, k _ _ ⟨m1, ds, μ1, s1, itok_list (G := gx X ex) sq rs, q2⟩⟩
theorem di_tup (h : DE ex W X e wa) : DI ex W X tg e (wiT wa) := pi_weak (pi_tup h) fun σ H R q => by
  obtain ⟨Z, m, ρ, μ, Q, Xd, S, q, k, kx⟩ := q
  refine ⟨Z, m, ρ, μ, _, Xd, S, q, fun v H1 P => ?_, kx⟩
  obtain ⟨m1, d, μ1, s1, r1, q1⟩ := P
  obtain ⟨ds, rfl, q2⟩ := tupOr_of q1
  rw [Rep] at r1
  obtain ⟨a, vs, e, sq, rs⟩ := r1
  exact ⟨a, e, ⟨vs, SqT.same vis_le sq⟩, k _ _ ⟨m1, ds, μ1, s1, itok_tup (G := gx X ex) sq rs, q2⟩⟩
theorem di_range1 (hg : Gl X "range") (hm : X.mg "range" = none) (ha : DA ex W X [e] ws) (hs : starEach [e] X.env = [(false, eval e X.env)] := by rfl) : DI ex W X tg (.Call (.Name "range" p) [e] [] pos) (wiR1 ws) := pi_weak (pi_range1 hg hm ha hs) fun σ H R q => by
  obtain ⟨Z, m, ρ, μ, Q, Xd, S, q, k, kx⟩ := q
  refine ⟨Z, m, ρ, μ, _, Xd, S, q, fun vs H1 P => ?_, kx⟩
  obtain ⟨m1, ds, μ1, s1, r1, q1⟩ := P
  obtain ⟨j, rfl, h1, h2, q2⟩ := rg1_of q1
  obtain ⟨v, t, rfl, r2, r3⟩ := r1.uncons
  rw [Reps] at r3
  rw [Rep] at r2
  subst r2 r3
  exact ⟨j, rfl, h1, h2, k _ _ ⟨m1, _, μ1, s1, itok_range, q2⟩⟩
theorem lst_rep' {G : Gx} {m : List Addr} {E : Hp} {d : D} {ds : List D} {u : V} (h : d = .lst ds ∨ d = .frl ds) (r : Rep G m E d u) : ∃ a vs, u = .ref a ∧ SqL G.K E a vs ∧ Reps G m E ds vs := by
  obtain ⟨es, a, vs, h1, h2, h3, h4⟩ := lstOr_rep (Q := fun es => es = ds) (by rcases h with e | e <;> (subst e; rfl)) r
  exact ⟨a, vs, h1, h2, h4 ▸ h3⟩
end
/-! ### a list of the def's own, walked while it stands -/
def ownL (o : Option Sl) (k : List D → Prop) : Prop := match o with
  | some (.own _ (.lst ds)) => k ds
  | _ => False
def wiOwn (i : Nat) : WI := fun ρ μ Q _ => ownL (ρ[i]?) fun ds => Q ds μ
/-! ### for -/
def forL (g : WG) (b : WS) (E : DEnds) : List D → DS → Mu → Prop
  | [], ρ, μ => E.nx ρ μ
  | d :: ds, ρ, μ => g d ρ μ fun ρ1 μ1 => b { E with nx := forL g b E ds, ct := forL g b E ds, bk := E.nx } ρ1 μ1
def sFor (wi : WI) (g : WG) (b : WS) : WS := fun E ρ μ => wi ρ μ (fun ds μ1 => forL g b E ds ρ μ1) fun c ks es μ' => E.xc c ks es ρ μ'
theorem SR.laid {G : Gx} {Z : Addr → Prop} {m : List Addr} {σ : L2.St} {H : Hp} {ρ : DS} {μ : Mu} (S : SR G Z m σ H ρ μ) {p : Addr} {o : HO} (np : H p = none) : SR G Z m σ (upd H p o) ρ μ ∧ SStep G Z m σ ρ H m σ ρ (upd H p o) :=
  ⟨S.step (Step.laid S.mu np), SStep.of (μ' := μ) (Step.laid S.mu np)⟩
theorem forL_cons {g : WG} {b : WS} {E : DEnds} {ds : List D} {i : Nat} {d : D} {ρ : DS} {μ : Mu} (hd : ds[i]? = some d) (h : forL g b E (ds.drop i) ρ μ) :
    g d ρ μ fun ρ1 μ1 => b { E with nx := forL g b E (ds.drop (i + 1)), ct := forL g b E (ds.drop (i + 1)), bk := E.nx } ρ1 μ1 := by
  obtain ⟨hi, e⟩ := List.getElem?_eq_some_iff.mp hd
  rw [List.drop_eq_getElem_cons hi, forL, e] at h
  exact h
section
variable {ex : Option (Addr × Addr × Addr)} {W : WX} {X : Cx} {tg iter : Expr} {body : List Stmt} {wi : WI} {g : WG} {b : WS} {pos : Pos}
theorem ds_for (hp : PassesOwn (model X.prog X.w) X.A X.env X.xe) (hc : X.calm = true) (hi : DI ex W X tg iter wi) (hg : DG ex X tg g) (hb : DSs ex W X body b) (hs : ∀ x, foldedSetIterable iter X.env x = pure x := by intro _; rfl) :
    DSt ex W X (.For tg iter body [] pos) (sFor wi g b) := ps_weak (ps_for hp hc hi hg hb hs) fun De σ H q => by
  obtain ⟨Z, m, ρ, μ, E, S, q, kn, kr, kb, kc, kx⟩ := q
  refine ⟨Z, m, ρ, μ, _, _, S, q, fun J H1 P => ?_, fun cls d H' P => kx cls d σ H' (XSPost.of S P)⟩
  obtain ⟨m1, ds, μ1, s1, ok, q1⟩ := P
  have t1 : SStep (gx X ex) Z m σ ρ H m1 σ ρ H1 := SStep.of s1
  refine ⟨fun i n σ' H' => n = ds.length - i ∧ i ≤ ds.length ∧ ∃ m' ρ' μ', SR (gx X ex) Z m' σ' H' ρ' μ' ∧ SStep (gx X ex) Z m1 σ ρ H1 m' σ' ρ' H' ∧ forL g b E (ds.drop i) ρ' μ', ⟨_, rfl, Nat.zero_le _, m1, ρ, μ1, S.step s1, .refl, q1⟩, ?_⟩
  rintro i n σ' H' ⟨rfl, hle, m', ρ', μ', S', s', q'⟩
  have vis' : Same (vis (ownW Z σ ρ) m1 H1) H' := s'.same.trans vis_le
  by_cases hlt : i < ds.length
  · refine .inr ⟨ok.go i H' hlt vis', fun σ2 H2 => ∃ m2 ρ2 μ2, SR (gx X ex) Z m2 σ2 H2 ρ2 μ2 ∧ SStep (gx X ex) Z m1 σ ρ H1 m2 σ2 ρ2 H2 ∧ forL g b E (ds.drop (i + 1)) ρ2 μ2,
      fun σ2 H2 ⟨m2, ρ2, μ2, S2, s2, q2⟩ => ⟨_, (by omega : ds.length - (i + 1) < ds.length - i), rfl, hlt, m2, ρ2, μ2, S2, s2, q2⟩, fun x H3 y => ?_⟩
    obtain ⟨d, ed, hy⟩ := ok.yld i H' x H3 hlt vis' y
    have q2 := forL_cons ed q'
    have : ∃ S3 : SR (gx X ex) Z m' σ' H3 ρ' μ', SStep (gx X ex) Z m1 σ ρ H1 m' σ' ρ' H3 ∧ Rep (gx X ex) m' (vis (ownW Z σ' ρ') m' H3) d x := by
      rcases hy with ⟨rfl, rd⟩ | ⟨T, o, nT, rfl, rd⟩
      · exact ⟨S', s', Rep.mono s'.pre s'.same _ _ rd⟩
      · obtain ⟨S3, s3⟩ := S'.laid (o := o) nT
        exact ⟨S3, s'.trans s3, rd _ _ s'.pre (s'.trans s3).same (by rw [vis_upd S'.mu nT, upd_same])⟩
    obtain ⟨S3, s3, rd⟩ := this
    refine ⟨Z, m', ρ', μ', d, _, S3, rd, q2, fun σ4 H4 P => ?_⟩
    obtain ⟨m4, ρ4, μ4, S4, s4, q4⟩ := P
    have t4 := s3.trans s4
    refine ⟨Z, m4, ρ4, μ4, _, S4, q4, fun σ5 H5 P => ?_, fun v H5 P => kr v H5 (RPost.from (t1.trans t4) P), fun σ5 H5 P => kn σ5 H5 (SPost.from (t1.trans t4) P), fun σ5 H5 P => ?_, fun cls d σ5 H5 P => kx cls d σ5 H5 (XSPost.from (t1.trans t4) P)⟩
    · obtain ⟨m5, ρ5, μ5, S5, s5, q5⟩ := P
      exact ⟨m5, ρ5, μ5, S5, t4.trans s5, q5⟩
    · obtain ⟨m5, ρ5, μ5, S5, s5, q5⟩ := P
      exact ⟨m5, ρ5, μ5, S5, t4.trans s5, q5⟩
  · have e : i = ds.length := by omega
    subst e
    refine .inl ⟨ok.stop H' vis', kn σ' H' ⟨m', ρ', μ', S', t1.trans s', ?_⟩⟩
    rw [List.drop_length, forL] at q'
    exact q'
/-! ### while -/
end
end DL

set_option Elab.async false
set_option linter.all false
set_option maxRecDepth 100000
set_option maxHeartbeats 4000000
set_option autoImplicit false
namespace DL
open PySem PySem.Spec PyProof.Rows L2
/-! ### comprehensions -/
def wipeD (ρ : DS) : List Nat → DS
  | [] => ρ
  | v :: vs => (wipeD ρ vs).set v .no
theorem wipeD_len (ρ : DS) : ∀ vs, (wipeD ρ vs).length = ρ.length
  | [] => rfl
  | v :: vs => by rw [wipeD, List.length_set, wipeD_len]
theorem wipeD_get {ρ : DS} {i : Nat} {x : Sl} (hx : x ≠ .no) : ∀ {vs : List Nat}, (wipeD ρ vs)[i]? = some x → ρ[i]? = some x ∧ i ∉ vs
  | [], h => ⟨h, by simp⟩
  | v :: vs, h => by
    rw [wipeD] at h
    by_cases hv : v = i
    · subst hv
      rw [List.getElem?_set] at h
      simp at h
      exact absurd h.2.symm hx
    · rw [List.getElem?_set_ne hv] at h
      obtain ⟨h1, h2⟩ := wipeD_get hx h
      exact ⟨h1, by simp [h2, Ne.symm hv]⟩
theorem wipe_get {σ : L2.St} {i : Nat} : ∀ {vs : List Nat}, i ∉ vs → (wipe σ vs)[i]? = σ[i]?
  | [], _ => rfl
  | v :: vs, h => by
    rw [wipe, List.getElem?_set_ne (fun e => h (by simp [e]))]
    exact wipe_get fun q => h (by simp [q])
/-- no slot at vs is a list that is being filled -/
def noOwn (ρ : DS) (vs : List Nat) : Prop := ∀ v ∈ vs, ∀ a ds, ρ[v]? ≠ some (.own a ds)
theorem own_wipe {Z : Addr → Prop} {σ : L2.St} {ρ : DS} {vs : List Nat} {b : Addr} (h : ownW Z (wipe σ vs) (wipeD ρ vs) b) : ownW Z σ ρ b := by
  rcases h with h | ⟨i, ds, e1⟩
  · exact .inl h
  · obtain ⟨e3, e4⟩ := wipeD_get (by intro z; cases z) e1
    exact .inr ⟨i, ds, e3⟩
theorem own_wipe' {Z : Addr → Prop} {σ : L2.St} {ρ : DS} {vs : List Nat} (no : noOwn ρ vs) : ownW Z (wipe σ vs) (wipeD ρ vs) = ownW Z σ ρ := by
  funext b
  refine propext ⟨own_wipe, fun h => ?_⟩
  rcases h with h | ⟨i, ds, e1⟩
  · exact .inl h
  · have hi : i ∉ vs := fun q => no i q b ds e1
    refine .inr ⟨i, ds, ?_⟩
    have : ∀ {l : List Nat}, i ∉ l → (wipeD ρ l)[i]? = ρ[i]? := by
      intro l
      induction l with
      | nil => intro _; rfl
      | cons v l ih =>
        intro hv
        rw [wipeD, List.getElem?_set_ne (fun e => hv (by simp [e]))]
        exact ih fun q => hv (by simp [q])
    rw [this hi]; exact e1
/-- hiding one thing more -/
def addZ (Z : Addr → Prop) (D : Addr) : Addr → Prop := fun b => Z b ∨ b = D
theorem own_add {Z : Addr → Prop} {D : Addr} {σ : L2.St} {ρ : DS} : ownW (addZ Z D) σ ρ = addZ (ownW Z σ ρ) D := by
  funext b
  apply propext
  unfold ownW addZ
  constructor
  · rintro ((h | h) | h)
    · exact .inl (.inl h)
    · exact .inr h
    · exact .inl (.inr h)
  · rintro ((h | h) | h)
    · exact .inl (.inl h)
    · exact .inr h
    · exact .inl (.inr h)
theorem SR.wiped {G : Gx} {Z : Addr → Prop} {m : List Addr} {σ : L2.St} {H : Hp} {ρ : DS} {μ : Mu} (S : SR G Z m σ H ρ μ) {vs : List Nat} (no : noOwn ρ vs) : SR G Z m (wipe σ vs) H (wipeD ρ vs) μ := by
  refine ⟨by rw [wipeD_len, wipe_length]; exact S.len, by rw [own_wipe' no]; exact S.mu, fun i d e => ?_, fun i a ds e => ?_, fun i j a ds es e1 e2 => ?_, fun i c ks ds e => ?_⟩
  · obtain ⟨e1, e2⟩ := wipeD_get (by intro z; cases z) e
    obtain ⟨v, h1, h2⟩ := S.val i d e1
    exact ⟨v, by rw [wipe_get e2]; exact h1, by rw [own_wipe' no]; exact h2⟩
  · obtain ⟨e1, e2⟩ := wipeD_get (by intro z; cases z) e
    obtain ⟨h1, h2, h4⟩ := S.own i a ds e1
    exact ⟨by rw [wipe_get e2]; exact h1, h2, by rw [own_wipe' no]; exact h4⟩
  · obtain ⟨h1, h2⟩ := wipeD_get (by intro z; cases z) e1
    obtain ⟨h3, h4⟩ := wipeD_get (by intro z; cases z) e2
    exact S.dis i j a ds es h1 h3
  · obtain ⟨e1, e2⟩ := wipeD_get (by intro z; cases z) e
    rw [wipe_get e2, own_wipe' no]
    exact S.exn i c ks ds e1
/-- the new list is hidden: it is in nobody's sight -/
theorem MuOk.hide {G : Gx} {Z : Addr → Prop} {m : List Addr} {μ : Mu} {H : Hp} (M : MuOk G Z m μ H) {D : Addr} {o : HO} (nD : H D = none) : MuOk G (addZ Z D) m μ (upd H D o) ∧ Same (vis Z m H) (vis (addZ Z D) m (upd H D o)) := by
  obtain ⟨h1, h2⟩ := M.fresh nD
  have sm : Same (vis Z m H) (vis (addZ Z D) m (upd H D o)) := fun b x e => by
    obtain ⟨z1, z2, z3⟩ := vis_some.mp e
    have hb : b ≠ D := fun q => by rw [q, nD] at z3; cases z3
    exact vis_some.mpr ⟨fun q => q.elim z1 hb, z2, by rw [upd_ne hb]; exact z3⟩
  refine ⟨⟨M.len, M.nd, fun a ha q => q.elim (M.out a ha) fun e => h2 (e ▸ ha), fun z hz => ?_, fun n c a hc ha => ?_⟩, sm⟩
  · rcases hz with hz | hz
    · by_cases e : z = D
      · rw [e, upd_same]; intro q; cases q
      · rw [upd_ne e]; exact M.hw z hz
    · rw [hz, upd_same]; intro q; cases q
  · have hb : a ≠ D := fun e => h2 (e ▸ List.mem_of_getElem? ha)
    exact (M.cell n c a hc ha).keep (List.prefix_refl _) sm (upd_ne hb)
theorem vis_hidden {Z : Addr → Prop} {m : List Addr} {H : Hp} {D : Addr} {o : HO} : vis (addZ Z D) m (upd H D o) = vis (addZ Z D) m H := by
  funext b
  unfold vis
  by_cases hb : b = D
  · rw [if_pos (.inl (.inr hb)), if_pos (.inl (.inr hb))]
  · rw [upd_ne hb]
/-- a hidden thing is written -/
theorem MuOk.hid {G : Gx} {Z : Addr → Prop} {m : List Addr} {μ : Mu} {H : Hp} {D : Addr} {o : HO} (M : MuOk G (addZ Z D) m μ H) : MuOk G (addZ Z D) m μ (upd H D o) := by
  refine ⟨M.len, M.nd, M.out, fun z hz => ?_, fun n c a hc ha => ?_⟩
  · by_cases e : z = D
    · rw [e, upd_same]; intro q; cases q
    · rw [upd_ne e]; exact M.hw z hz
  · have hb : a ≠ D := fun e => M.out a (List.mem_of_getElem? ha) (.inr e)
    rw [vis_hidden]
    exact (M.cell n c a hc ha).keep (List.prefix_refl _) (Same.refl _) (upd_ne hb)
theorem SR.hid {G : Gx} {Z : Addr → Prop} {m : List Addr} {σ : L2.St} {H : Hp} {ρ : DS} {μ : Mu} {D : Addr} {o : HO} (S : SR G (addZ Z D) m σ H ρ μ) : SR G (addZ Z D) m σ (upd H D o) ρ μ := by
  have e := own_add (Z := Z) (D := D) (σ := σ) (ρ := ρ)
  refine ⟨S.len, ?_, fun i d h => ?_, fun i a ds h => ?_, S.dis, fun i c ks ds h => ?_⟩
  · rw [e]; exact MuOk.hid (e ▸ S.mu)
  · obtain ⟨v, h1, h2⟩ := S.val i d h
    rw [e] at h2
    exact ⟨v, h1, by rw [e, vis_hidden]; exact h2⟩
  · obtain ⟨h1, h2, h4⟩ := S.own i a ds h
    rw [e] at h4
    exact ⟨h1, h2, by rw [e, vis_hidden]; exact h4.keep (List.prefix_refl _) (Same.refl _) (upd_ne (fun q => h2 (.inr q)))⟩
  · have z := S.exn i c ks ds h
    rw [e] at z ⊢
    rw [vis_hidden]
    exact z
/-- a comprehension's target: what it does to the slots -/
def LcG (G : Gx) (vs : List Nat) (g : TG) (k : WG) : Prop := ∀ (Z : Addr → Prop) (m : List Addr) (μ : Mu) (σ : L2.St) (H : Hp) (ρ : DS) (d : D) (v : V) (Q : DS → Mu → Prop) (R : L2.St → Hp → Prop),
  SR G Z m σ H ρ μ → Rep G m (vis (ownW Z σ ρ) m H) d v → k d ρ μ Q → (∀ σ' ρ', SR G Z m σ' H ρ' μ → ownW Z σ' ρ' = ownW Z σ ρ → wipe σ' vs = wipe σ vs → Q ρ' μ → R σ' H) → g v σ H R
theorem wipe_set {σ : L2.St} {i : Nat} {x : Option V} : ∀ {vs : List Nat}, i ∈ vs → wipe (σ.set i x) vs = wipe σ vs
  | v :: vs, h => by
    rw [wipe, wipe]
    by_cases hi : i ∈ vs
    · rw [wipe_set hi]
    · have e : v = i := by simpa [hi, eq_comm] using h
      subst e
      have : ∀ {l : List Nat}, v ∉ l → wipe (σ.set v x) l = (wipe σ l).set v x := by
        intro l
        induction l with
        | nil => intro _; rfl
        | cons u l ih =>
          intro hu
          rw [wipe, wipe, ih fun q => hu (by simp [q]), List.set_comm _ _ (fun q => hu (by simp [q]))]
      rw [this hi, List.set_set]
theorem own_set_no {Z : Addr → Prop} {σ : L2.St} {ρ : DS} {i : Nat} {v : V} {d : D} (h : ∀ a ds, ρ[i]? ≠ some (.own a ds)) : ownW Z (σ.set i (some v)) (ρ.set i (.v d)) = ownW Z σ ρ := by
  funext b
  refine propext ⟨own_set, fun q => ?_⟩
  rcases q with q | ⟨j, ds, e1⟩
  · exact .inl q
  · have hj : i ≠ j := fun e => h b ds (e ▸ e1)
    exact .inr ⟨j, ds, by rw [List.getElem?_set_ne hj]; exact e1⟩
/-- a slot that is not being filled: checked where it is stored -/
def notOwn (ρ : DS) (i : Nat) : Prop := match ρ[i]? with
  | some (.own _ _) => False
  | _ => True
theorem notOwn_of {ρ : DS} {i : Nat} (h : notOwn ρ i) : ∀ a ds, ρ[i]? ≠ some (.own a ds) := fun a ds e => by
  unfold notOwn at h
  rw [e] at h
  exact h
def kNameC (i : Nat) : WG := fun d ρ μ Q => notOwn ρ i ∧ Q (ρ.set i (.v d)) μ
theorem lcg_name {G : Gx} {vs : List Nat} {i : Nat} (hi : i ∈ vs) : LcG G vs (gName i) (kNameC i) := by
  intro Z m μ σ H ρ d v Q R S r q k
  obtain ⟨no, q⟩ := q
  have no := notOwn_of no
  obtain ⟨S1, s1⟩ := S.set (i := i) r
  exact k _ _ S1 (own_set_no no) (wipe_set hi) q
def LcGs (G : Gx) (vs : List Nat) (g : TGs) (k : WGs) : Prop := ∀ (Z : Addr → Prop) (m : List Addr) (μ : Mu) (σ : L2.St) (H : Hp) (ρ : DS) (ds : List D) (us : List V) (Q : DS → Mu → Prop) (R : L2.St → Hp → Prop),
  SR G Z m σ H ρ μ → Reps G m (vis (ownW Z σ ρ) m H) ds us → k ds ρ μ Q → (∀ σ' ρ', SR G Z m σ' H ρ' μ → ownW Z σ' ρ' = ownW Z σ ρ → wipe σ' vs = wipe σ vs → Q ρ' μ → R σ' H) → g us σ H R
theorem lcgs_nil {G : Gx} {vs : List Nat} : LcGs G vs gNil kNil := by
  intro Z m μ σ H ρ ds us Q R S r q k
  cases ds with
  | nil => rw [Reps] at r; exact ⟨r, k _ _ S rfl rfl q⟩
  | cons d ds => exact q.elim
theorem lcgs_cons {G : Gx} {vs : List Nat} {g : TG} {k : WG} {gs : TGs} {ks : WGs} (h1 : LcG G vs g k) (h2 : LcGs G vs gs ks) : LcGs G vs (gCons g gs) (kCons k ks) := by
  intro Z m μ σ H ρ ds us Q R S r q kk
  cases ds with
  | nil => exact q.elim
  | cons d ds =>
    obtain ⟨v, vr, rfl, r1, r2⟩ := r.uncons
    refine ⟨v, vr, rfl, h1 Z m μ σ H ρ d v _ _ S r1 q fun σ' ρ' S' ow e q' => ?_⟩
    exact h2 Z m μ σ' H ρ' ds vr Q R S' (by rw [ow]; exact r2) q' fun σ2 ρ2 S2 ow2 e2 q2 => kk σ2 ρ2 S2 (ow2.trans ow) (e2.trans e) q2
theorem lcg_tup {G : Gx} {vs : List Nat} {n : Nat} {gs : TGs} {ks : WGs} (h : LcGs G vs gs ks) : LcG G vs (gTup G.K n gs) (kTup n ks) := by
  intro Z m μ σ H ρ d v Q R S r q k
  cases d with
  | tup ds =>
    obtain ⟨hl, q⟩ := q
    rw [Rep] at r
    obtain ⟨a, us, e1, st, rs⟩ := r
    exact ⟨a, us, e1, SqT.same vis_le st, by rw [← rs.len]; exact hl, h Z m μ σ H ρ ds us Q R S rs q k⟩
  | _ => exact q.elim
theorem wipe_at {σ : L2.St} {i : Nat} : ∀ {vs : List Nat}, i ∈ vs → (wipe σ vs).set i none = wipe σ vs
  | v :: vs, h => by
    by_cases e : v = i
    · subst e; rw [wipe, List.set_set]
    · have hi : i ∈ vs := by
        rcases List.mem_cons.mp h with q | q
        · exact absurd q.symm e
        · exact q
      rw [wipe, List.set_comm _ _ e, wipe_at hi]
theorem wipe_sub {σ : L2.St} {vs : List Nat} : ∀ {us : List Nat}, (∀ u ∈ us, u ∈ vs) → wipe (wipe σ vs) us = wipe σ vs
  | [], _ => rfl
  | u :: us, h => by rw [wipe, wipe_sub fun x hx => h x (by simp [hx]), wipe_at (h u (by simp))]
theorem wipe_wipe (σ : L2.St) (vs : List Nat) : wipe (wipe σ vs) vs = wipe σ vs := wipe_sub fun _ h => h
def WF : WX := fun _ _ _ _ => False
def xF : XD := fun _ _ _ _ => False
def lcL (g : WG) (tt : WT) (te : WE) (ρw : DS) : List D → List D → Mu → (D → Mu → Prop) → Prop
  | [], acc, μ, Q => Q (.lst acc) μ
  | d :: ds, acc, μ, Q => g d ρw μ fun ρ2 μ2 => tt ρ2 μ2 (fun b μ3 => if b = true then te ρ2 μ3 (fun y μ4 => acc.length < 1000000 ∧ lcL g tt te ρw ds (acc ++ [y]) μ4 Q) xF else lcL g tt te ρw ds acc μ3 Q) xF
def wLc (wi : WI) (g : WG) (tt : WT) (te : WE) (vs : List Nat) : WE := fun ρ μ Q Xd => wi ρ μ (fun ds μ1 => (∀ v ∈ vs, notOwn ρ v) ∧ lcL g tt te (wipeD ρ vs) ds [] μ1 Q) Xd
theorem xpF {G : Gx} {Z : Addr → Prop} {m : List Addr} {H H' : Hp} {cls : Value} {d : Option Addr} (p : XPost G Z m H xF cls d H') : False := by
  obtain ⟨_, _, _, _, _, _, _, _, _, _, _, _, _, _, _, q⟩ := p
  exact q
abbrev DTs (X : Cx) (ifs : List Expr) (w : WT) : Prop := PTs X ifs (liftT (gx X none) WF w)
def wYes : WT := fun _ μ Q _ => Q true μ
theorem pts_weak {X : Cx} {es : List Expr} {t t' : TT} (h : PTs X es t) (k : ∀ σ H Q, t' σ H Q → t σ H Q) : PTs X es t' := ⟨fun pins s σ H Q I q => h.run pins s σ H Q I (k σ H Q q)⟩
theorem dts_nil {X : Cx} : DTs X [] wYes := pts_weak pts_nil fun σ H Q' q => by
  obtain ⟨Z, m, ρ, μ, Q, Xd, S, q, k, kx⟩ := q
  exact k true H ⟨m, μ, .refl S.mu, q⟩
theorem lift_lc {G : Gx} {W : WX} {wi : WI} {g : TG} {k : WG} {tt : WT} {te : WE} {vs : List Nat} (hg : LcG G vs g k) {σ : L2.St} {H : Hp} {Q' : VK} (q : lift G W (wLc wi k tt te vs) σ H Q') :
    tLc (liftIF G W wi) g (liftT G WF tt) (lift G WF te) vs σ H Q' := by
  obtain ⟨Z, m, ρ, μ, Q, Xd, S, q, kq, kx⟩ := q
  refine ⟨Z, m, ρ, μ, _, Xd, S, q, fun J H1 P => ?_, kx⟩
  obtain ⟨m1, ds, μ1, F, s1, hF, ok, no', q1⟩ := P
  have no : noOwn ρ vs := fun v hv a ds => notOwn_of (no' v hv) a ds
  intro D nD
  have S1 := S.step s1
  have E0 := own_wipe' (Z := Z) (σ := σ) (ρ := ρ) (vs := vs) no
  have Sw := S1.wiped (vs := vs) no
  obtain ⟨Mh, sh⟩ := MuOk.hide (o := .lst []) S1.mu nD
  -- the state of a turn
  have base : SR G (addZ Z D) m1 (wipe σ vs) (upd H1 D (.lst [])) (wipeD ρ vs) μ1 := by
    refine ⟨Sw.len, by rw [own_add, E0]; exact Mh, fun i d e => ?_, fun i a es e => ?_, Sw.dis, fun i c ks es e => ?_⟩
    · obtain ⟨v, h1, h2⟩ := Sw.val i d e
      rw [E0] at h2
      exact ⟨v, h1, by rw [own_add, E0]; exact Rep.mono (List.prefix_refl _) sh _ _ h2⟩
    · obtain ⟨h1, h2, h4⟩ := Sw.own i a es e
      rw [E0] at h4
      have na : a ≠ D := fun z => h4.there (by rw [z, nD])
      exact ⟨h1, fun z => z.elim h2 na, by rw [own_add, E0]; exact h4.keep (List.prefix_refl _) sh (upd_ne na)⟩
    · have z := Sw.exn i c ks es e
      rw [E0] at z
      rw [own_add, E0]
      exact z.mono (List.prefix_refl _) sh
  have nDW : ¬ ownW Z σ ρ D := fun z => S1.mu.hw D z nD
  let In : List DL.D → Hp → Prop := fun rest H' => ∃ m' μ' acc us, m1 <+: m' ∧ (∀ z, ownW Z σ ρ z → H' z = H1 z) ∧ SR G (addZ Z D) m' (wipe σ vs) H' (wipeD ρ vs) μ' ∧ Same (vis (ownW Z σ ρ) m1 H1) (vis (addZ (ownW Z σ ρ) D) m' H') ∧
    H' D = some (.lst us) ∧ Reps G m' (vis (addZ (ownW Z σ ρ) D) m' H') acc us ∧ lcL k tt te (wipeD ρ vs) rest acc μ' Q
  refine ⟨fun i n H' => n = ds.length - i ∧ i ≤ ds.length ∧ In (ds.drop i) H', ⟨_, rfl, Nat.zero_le _, m1, μ1, [], [], List.prefix_refl _, fun z hz => upd_ne fun e => nDW (e ▸ hz), base, sh, upd_same, Reps.nil, q1⟩, ?_⟩
  rintro i n H' ⟨rfl, hle, m', μ', acc, us, pm, hid, S', sm, hD, ra, q'⟩
  have vis' : Same (vis (ownW Z σ ρ) m1 H1) H' := sm.trans vis_le
  by_cases hlt : i < ds.length
  · refine .inr ⟨ok.go i H' hlt vis' (hF H' hid), In (ds.drop (i + 1)), fun H2 h2 => ⟨_, (by omega : ds.length - (i + 1) < ds.length - i), rfl, hlt, h2⟩, fun x H3 y => ?_⟩
    obtain ⟨d, ed, hy⟩ := ok.yld i H' x H3 hlt vis' (hF H' hid) y
    obtain ⟨hi', ee⟩ := List.getElem?_eq_some_iff.mp ed
    rw [List.drop_eq_getElem_cons hi', lcL, ee] at q'
    have ow : ownW (addZ Z D) (wipe σ vs) (wipeD ρ vs) = addZ (ownW Z σ ρ) D := by rw [own_add, E0]
    have : SR G (addZ Z D) m' (wipe σ vs) H3 (wipeD ρ vs) μ' ∧ Same (vis (addZ (ownW Z σ ρ) D) m' H') (vis (addZ (ownW Z σ ρ) D) m' H3) ∧ (∀ z, addZ (ownW Z σ ρ) D z → H3 z = H' z) ∧ Rep G m' (vis (addZ (ownW Z σ ρ) D) m' H3) d x := by
      rcases hy with ⟨rfl, rd⟩ | ⟨T, o, nT, rfl, rd⟩
      · exact ⟨S', Same.refl _, fun _ _ => rfl, Rep.mono pm sm _ _ rd⟩
      · have st := Step.laid (o := o) S'.mu nT
        rw [ow] at st
        exact ⟨S'.step (by rw [ow]; exact st), st.same, st.hid, rd _ _ pm (sm.trans st.same) (by rw [vis_upd (ow ▸ S'.mu) nT, upd_same])⟩
    obtain ⟨S3, sm3, hid3, rd⟩ := this
    refine hg (addZ Z D) m' μ' (wipe σ vs) H3 (wipeD ρ vs) d x _ _ S3 (by rw [ow]; exact rd) q' fun σ4 ρ4 S4 ow4 ew q4 => ⟨?_, ?_⟩
    · exact ew.trans (wipe_wipe σ vs)
    · refine ⟨addZ Z D, m', ρ4, μ', _, _, S4, q4, fun b H5 P => ?_, fun cls dd H5 P => (xpF P).elim⟩
      obtain ⟨m5, μ5, s5, q5⟩ := P
      rw [ow4, ow] at s5
      have back : ∀ {m6 μ6 H6}, Step G (addZ (ownW Z σ ρ) D) m' H3 m6 μ6 H6 → SR G (addZ Z D) m6 (wipe σ vs) H6 (wipeD ρ vs) μ6 := fun {m6 μ6 H6} s6 => S3.step (by rw [ow]; exact s6)
      cases b with
      | false =>
        rw [if_neg Bool.false_ne_true] at q5 ⊢
        exact ⟨m5, μ5, acc, us, pm.trans s5.pre, fun z hz => ((s5.hid z (.inl hz)).trans (hid3 z (.inl hz))).trans (hid z hz), back s5, (sm.trans sm3).trans s5.same, ((s5.hid D (.inr rfl)).trans (hid3 D (.inr rfl))).trans hD, Reps.mono s5.pre (sm3.trans s5.same) _ _ ra, q5⟩
      | true =>
        rw [if_pos rfl] at q5 ⊢
        refine ⟨addZ Z D, m5, ρ4, μ5, _, _, S4.step (by rw [ow4, ow]; exact s5), q5, fun u H6 P => ?_, fun cls dd H6 P => (xpF P).elim⟩
        obtain ⟨m6, yd, μ6, s6, r6, hlen, q6⟩ := P
        rw [ow4, ow] at s6 r6
        have s56 := s5.trans s6
        refine ⟨us, ((s56.hid D (.inr rfl)).trans (hid3 D (.inr rfl))).trans hD, by rw [← ra.len]; exact Nat.lt_of_lt_of_le hlen (by decide), ?_⟩
        refine ⟨m6, μ6, acc ++ [yd], us ++ [u], pm.trans s56.pre, fun z hz => ?_, (back s56).hid, ?_, upd_same, ?_, q6⟩
        · have hb : z ≠ D := fun e => nDW (e ▸ hz)
          rw [upd_ne hb]
          exact ((s56.hid z (.inl hz)).trans (hid3 z (.inl hz))).trans (hid z hz)
        · rw [vis_hidden]
          exact (sm.trans sm3).trans s56.same
        · rw [vis_hidden]
          exact Reps.append (Reps.mono s56.pre (sm3.trans s56.same) _ _ ra) (Reps.cons r6 Reps.nil)
  · have e : i = ds.length := by omega
    subst e
    rw [List.drop_length, lcL] at q'
    refine .inl ⟨ok.stop H' vis' (hF H' hid), kq _ _ (VPost.from s1 ?_)⟩
    have ow : ownW (addZ Z D) (wipe σ vs) (wipeD ρ vs) = addZ (ownW Z σ ρ) D := by rw [own_add, E0]
    have M' := S'.mu
    rw [ow] at M'
    have sub : ∀ b, ownW Z σ ρ b → addZ (ownW Z σ ρ) D b := fun b h => .inl h
    refine ⟨m', .lst acc, μ', ⟨pm, hid, M'.less sub, sm.trans (vis_mono sub)⟩, ?_, q'⟩
    rw [Rep]
    exact ⟨D, us, rfl, vis_some.mpr ⟨nDW, fun z => M'.out D z (.inr rfl), hD⟩, Reps.mono (List.prefix_refl _) (vis_mono sub) _ _ ra⟩
section
variable {W : WX} {X : Cx} {elt tg iter : Expr} {ifs : List Expr} {scope : Scope} {own : List (Str × Nat)} {pos : Pos} {wi : WI} {g : TG} {k : WG} {tt : WT} {te : WE}
theorem de_lcF (hc : X.calm = true) (hN : X.N.Nodup) (hi : DIF none W X tg iter wi) (ok : BlkOk X.N X.env.scope scope own) (hk : LcG (gx X none) (own.map (·.2)) g k)
    (hg : ∀ (s : Shared) (H : Hp) (C : Addr) (cl : List (Str × Addr)) (fp : List Addr), PG (X.blk s H scope (compEnvC scope cl C X.env) fp) tg g) (ht : ∀ (s : Shared) (H : Hp) (C : Addr) (cl : List (Str × Addr)) (fp : List Addr), DTs (X.blk s H scope (compEnvC scope cl C X.env) fp) ifs tt)
    (he : ∀ (s : Shared) (H : Hp) (C : Addr) (cl : List (Str × Addr)) (fp : List Addr), DE none WF (X.blk s H scope (compEnvC scope cl C X.env) fp) elt te) (hs : ∀ x, foldedSetIterable iter X.env x = pure x := by intro _; rfl) :
    DE none W X (.ListComp elt [⟨tg, iter, ifs, 0⟩] scope pos) (wLc wi k tt te (own.map (·.2))) := pe_weak (pe_lc hc hN hi ok hg ht he hs) fun _ _ _ q => lift_lc hk q
theorem de_lc (hc : X.calm = true) (hN : X.N.Nodup) (hi : DI none W X tg iter wi) (ok : BlkOk X.N X.env.scope scope own) (hk : LcG (gx X none) (own.map (·.2)) g k)
    (hg : ∀ (s : Shared) (H : Hp) (C : Addr) (cl : List (Str × Addr)) (fp : List Addr), PG (X.blk s H scope (compEnvC scope cl C X.env) fp) tg g) (ht : ∀ (s : Shared) (H : Hp) (C : Addr) (cl : List (Str × Addr)) (fp : List Addr), DTs (X.blk s H scope (compEnvC scope cl C X.env) fp) ifs tt)
    (he : ∀ (s : Shared) (H : Hp) (C : Addr) (cl : List (Str × Addr)) (fp : List Addr), DE none WF (X.blk s H scope (compEnvC scope cl C X.env) fp) elt te) (hs : ∀ x, foldedSetIterable iter X.env x = pure x := by intro _; rfl) :
    DE none W X (.ListComp elt [⟨tg, iter, ifs, 0⟩] scope pos) (wLc wi k tt te (own.map (·.2))) := de_lcF hc hN hi.toF ok hk hg ht he hs
theorem ds_setLcF {i : Nat} {y : Str} {py spos : Pos} (hc : X.calm = true) (hN : X.N.Nodup) (hy : X.N[i]? = some y) (hsw : swapsWith (.ListComp elt [⟨tg, iter, ifs, 0⟩] scope pos) (some (.Name y py)) spos.line X.env = pure true)
    (hi : DIF none W X tg iter wi) (ok : BlkOk X.N X.env.scope scope own) (hk : LcG (gx X none) (own.map (·.2)) g k)
    (hg : ∀ (s : Shared) (H : Hp) (C : Addr) (cl : List (Str × Addr)) (fp : List Addr), PG (X.blk s H scope (compEnvC scope cl C X.env) fp) tg g) (ht : ∀ (s : Shared) (H : Hp) (C : Addr) (cl : List (Str × Addr)) (fp : List Addr), DTs (X.blk s H scope (compEnvC scope cl C X.env) fp) ifs tt)
    (he : ∀ (s : Shared) (H : Hp) (C : Addr) (cl : List (Str × Addr)) (fp : List Addr), DE none WF (X.blk s H scope (compEnvC scope cl C X.env) fp) elt te) (hyl : X.env.scope.names.lookup y = some .local := by rfl) (hs : ∀ x, foldedSetIterable iter X.env x = pure x := by intro _; rfl) :
    DSt none W X (.Assign [.Name y py] (.ListComp elt [⟨tg, iter, ifs, 0⟩] scope pos) spos) (sSet i (wLc wi k tt te (own.map (·.2)))) := ps_weak (ps_setLc hc hN hy hyl hsw hi ok hg ht he hs) fun De σ H q => by
  obtain ⟨Z, m, ρ, μ, E, S, q, kn, kr, kb, kc, kx⟩ := q
  refine lift_lc (W := W) hk ⟨Z, m, ρ, μ, _, _, S, q, fun v H1 P => ?_, fun cls d H' P => kx cls d σ H' (XSPost.of S P)⟩
  obtain ⟨m1, d, μ1, s1, r1, q1⟩ := P
  obtain ⟨S1, s2⟩ := (S.step s1).set (i := i) r1
  exact kn _ _ ⟨m1, _, μ1, S1, (SStep.of s1).trans s2, q1⟩
theorem ds_setLc {i : Nat} {y : Str} {py spos : Pos} (hc : X.calm = true) (hN : X.N.Nodup) (hy : X.N[i]? = some y) (hsw : swapsWith (.ListComp elt [⟨tg, iter, ifs, 0⟩] scope pos) (some (.Name y py)) spos.line X.env = pure true)
    (hi : DI none W X tg iter wi) (ok : BlkOk X.N X.env.scope scope own) (hk : LcG (gx X none) (own.map (·.2)) g k)
    (hg : ∀ (s : Shared) (H : Hp) (C : Addr) (cl : List (Str × Addr)) (fp : List Addr), PG (X.blk s H scope (compEnvC scope cl C X.env) fp) tg g) (ht : ∀ (s : Shared) (H : Hp) (C : Addr) (cl : List (Str × Addr)) (fp : List Addr), DTs (X.blk s H scope (compEnvC scope cl C X.env) fp) ifs tt)
    (he : ∀ (s : Shared) (H : Hp) (C : Addr) (cl : List (Str × Addr)) (fp : List Addr), DE none WF (X.blk s H scope (compEnvC scope cl C X.env) fp) elt te) (hyl : X.env.scope.names.lookup y = some .local := by rfl) (hs : ∀ x, foldedSetIterable iter X.env x = pure x := by intro _; rfl) :
    DSt none W X (.Assign [.Name y py] (.ListComp elt [⟨tg, iter, ifs, 0⟩] scope pos) spos) (sSet i (wLc wi k tt te (own.map (·.2)))) := ds_setLcF hc hN hy hsw hi.toF ok hk hg ht he hyl hs
end
end DL

set_option Elab.async false
set_option linter.all false
set_option maxRecDepth 100000
set_option maxHeartbeats 4000000
set_option autoImplicit false
namespace DL
open PySem PySem.Spec PyProof.Rows L2
/-! ### cells made and written -/
theorem vis_cell {Z : Addr → Prop} {m : List Addr} {H : Hp} {p : Addr} {o : HO} (np : H p = none) : vis Z (m ++ [p]) (upd H p o) = vis Z m H := by
  funext b
  by_cases hb : b = p
  · subst hb
    rw [vis_none np]
    unfold vis
    rw [if_pos (.inr (by simp))]
  · unfold vis
    rw [upd_ne hb]
    by_cases h : Z b ∨ b ∈ m
    · rw [if_pos h, if_pos (h.imp id fun q => List.mem_append_left _ q)]
    · rw [if_neg h, if_neg (by simpa [hb] using h)]
theorem Step.cell {G : Gx} {Z : Addr → Prop} {m : List Addr} {μ : Mu} {H : Hp} (M : MuOk G Z m μ H) {p : Addr} {o : HO} {c : Cell} (np : H p = none) (hc : CellOk G (m ++ [p]) (vis Z m H) (upd H p o) c p) :
    Step G Z m H (m ++ [p]) (μ ++ [c]) (upd H p o) := by
  obtain ⟨h1, h2⟩ := M.fresh np
  have ev := vis_cell (Z := Z) (m := m) (o := o) np
  have pre : m <+: m ++ [p] := List.prefix_append _ _
  refine ⟨pre, fun z hz => upd_ne fun e => ?_, ⟨by simp [M.len], ?_, fun a ha => ?_, fun z hz => ?_, fun n d a hd ha => ?_⟩, by rw [ev]; exact Same.refl _⟩
  · subst e; exact M.hw z hz np
  · rw [List.nodup_append]
    refine ⟨M.nd, by simp, fun a ha b hb => ?_⟩
    rw [List.mem_singleton] at hb
    subst hb
    exact fun e => h2 (e ▸ ha)
  · rcases List.mem_append.mp ha with q | q
    · exact M.out a q
    · rw [List.mem_singleton] at q; subst q; exact h1
  · by_cases e : z = p
    · subst e; rw [upd_same]; intro q; cases q
    · rw [upd_ne e]; exact M.hw z hz
  · rw [ev]
    by_cases hn : n < m.length
    · rw [List.getElem?_append_left hn] at ha
      rw [List.getElem?_append_left (by rw [← M.len]; exact hn)] at hd
      have hb : a ≠ p := fun e => h2 (e ▸ List.mem_of_getElem? ha)
      exact (M.cell n d a hd ha).keep pre (Same.refl _) (upd_ne hb)
    · have hlt := (List.getElem?_eq_some_iff.mp ha).1
      have e : n = m.length := by simp at hlt; omega
      subst e
      rw [List.getElem?_concat_length] at ha
      rw [M.len, List.getElem?_concat_length] at hd
      cases ha
      cases hd
      exact hc
theorem vis_put {Z : Addr → Prop} {m : List Addr} {H : Hp} {a : Addr} {o : HO} (ha : a ∈ m) : vis Z m (upd H a o) = vis Z m H := by
  funext b
  unfold vis
  by_cases hb : b = a
  · subst hb
    rw [if_pos (.inr ha), if_pos (.inr ha)]
  · rw [upd_ne hb]
theorem Step.put {G : Gx} {Z : Addr → Prop} {m : List Addr} {μ : Mu} {H : Hp} (M : MuOk G Z m μ H) {n : Nat} {a : Addr} {o : HO} {c : Cell} (ha : m[n]? = some a) (hc : CellOk G m (vis Z m H) (upd H a o) c a) :
    Step G Z m H m (μ.set n c) (upd H a o) := by
  have hm := List.mem_of_getElem? ha
  have ev := vis_put (Z := Z) (H := H) (o := o) hm
  refine ⟨List.prefix_refl _, fun z hz => upd_ne fun e => M.out a hm (e ▸ hz), ⟨by rw [List.length_set]; exact M.len, M.nd, M.out, fun z hz => ?_, fun k d b hd hb => ?_⟩, by rw [ev]; exact Same.refl _⟩
  · by_cases e : z = a
    · subst e; rw [upd_same]; intro q; cases q
    · rw [upd_ne e]; exact M.hw z hz
  · rw [ev]
    by_cases hk : n = k
    · subst hk
      rw [ha] at hb
      cases hb
      have hl : n < μ.length := by rw [← M.len]; exact (List.getElem?_eq_some_iff.mp ha).1
      rw [List.getElem?_set_self hl] at hd
      cases hd
      exact hc
    · rw [List.getElem?_set_ne hk] at hd
      have hab : b ≠ a := fun e => by
        subst e
        obtain ⟨l1, e1⟩ := List.getElem?_eq_some_iff.mp ha
        obtain ⟨l2, e2⟩ := List.getElem?_eq_some_iff.mp hb
        exact hk ((List.getElem_inj M.nd).mp (e1.trans e2.symm))
      exact (M.cell k d b hd hb).keep (List.prefix_refl _) (Same.refl _) (upd_ne hab)
/-- a list display whose list is changed later: a cell -/
def wLstC (wa : WA) : WE := fun ρ μ Q Xd => wa ρ μ (fun ds μ1 => ds.length ≤ 1000 ∧ Q (.loc μ1.length) (μ1 ++ [.lst ds])) Xd
section
variable {ex : Option (Addr × Addr × Addr)} {W : WX} {X : Cx} {e o i : Expr} {es : List Expr} {wa wo wi : WE} {ws : WA} {pos : Pos}
theorem de_lstC (h : DA ex W X es ws) : DE ex W X (.List es pos) (wLstC ws) := pe_weak (pe_lst h) fun σ H Q' q => by
  obtain ⟨Z, m, ρ, μ, Q, Xd, S, q, k, kx⟩ := q
  refine ⟨Z, m, ρ, μ, _, Xd, S, q, fun vs H1 P => ?_, kx⟩
  obtain ⟨m1, ds, μ1, s1, r1, hl, q1⟩ := P
  refine ⟨by rw [← r1.len]; exact le1000 hl, fun p np => k _ _ ?_⟩
  have s2 : Step (gx X ex) (ownW Z σ ρ) m1 H1 (m1 ++ [p]) (μ1 ++ [.lst ds]) (upd H1 p (.lst vs)) := Step.cell s1.mu np ⟨vs, upd_same, Reps.mono (List.prefix_append _ _) (Same.refl _) _ _ r1⟩
  refine VPost.from s1 ⟨_, _, _, s2, ?_, q1⟩
  rw [Rep]
  exact ⟨p, rfl, by rw [← s1.mu.len]; exact List.getElem?_concat_length⟩
/-- cell[i] = d -/
def stL (o i d : D) (μ : Mu) (k : Mu → Prop) : Prop := match o, i with
  | .loc n, .int j => match μ[n]? with
    | some (.lst ds) => match ixN ds.length j with
      | some x => k (μ.set n (.lst (ds.set x d)))
      | none => False
    | _ => False
  | _, _ => False
theorem stL_of {o i d : D} {μ : Mu} {k : Mu → Prop} (h : stL o i d μ k) : ∃ n j ds x, o = .loc n ∧ i = .int j ∧ μ[n]? = some (.lst ds) ∧ ixN ds.length j = some x ∧ k (μ.set n (.lst (ds.set x d))) := by
  unfold stL at h
  split at h
  · split at h
    · split at h
      · exact ⟨_, _, _, _, rfl, rfl, by assumption, by assumption, h⟩
      · exact h.elim
    · exact h.elim
  · exact h.elim
def kSub (wo wi : WE) : WG := fun d ρ μ Q => wo ρ μ (fun x μ1 => wi ρ μ1 (fun y μ2 => stL x y d μ2 fun μ3 => Q ρ μ3) xF) xF
theorem dg_sub (ho : DE none WF X o wo) (hi : DE none WF X i wi)
    (ha : ∀ v, assign (.Subscript o i pos) X.env v = (do
      let ov ← holding [v] (eval o X.env)
      let iv ← holding [v, ov] (eval i X.env)
      standAt pos
      holding [v, ov, iv] (setItem ov iv v)
      release [v, ov, iv] []) := by intro _; rfl) : DG none X (.Subscript o i pos) (kSub wo wi) := pg_weak (pg_sub ho hi set_list ha) fun v σ H Q' q => by
  obtain ⟨Z, m, ρ, μ, d, Q, S, r, q, k⟩ := q
  refine ⟨Z, m, ρ, μ, _, _, S, q, fun x H1 P => ?_, fun cls dd H1 P => (xpF P).elim⟩
  obtain ⟨m1, xd, μ1, s1, r1, q1⟩ := P
  refine ⟨Z, m1, ρ, μ1, _, _, S.step s1, q1, fun y H2 P => ?_, fun cls dd H1 P => (xpF P).elim⟩
  obtain ⟨m2, yd, μ2, s2, r2, q2⟩ := P
  obtain ⟨n, j, ds, z, rfl, rfl, e1, e2, q3⟩ := stL_of q2
  have s12 := s1.trans s2
  have r1' := Rep.mono s2.pre s2.same _ _ r1
  rw [Rep] at r1'
  rw [Rep] at r2
  obtain ⟨a, rfl, ea⟩ := r1'
  obtain ⟨vs, hv, rv⟩ := s2.mu.cell n _ a e1 ea
  have rd := Rep.mono s12.pre s12.same _ _ r
  refine ⟨a, vs, j, z, rfl, r2, hv, by rw [← rv.len]; exact e2, ?_⟩
  have s3 : Step (gx X none) (ownW Z σ ρ) m2 H2 m2 (μ2.set n (.lst (ds.set z d))) (upd H2 a (.lst (vs.set z v))) := Step.put s2.mu ea ⟨_, upd_same, Reps.set rd z rv⟩
  have s13 := s12.trans s3
  exact k _ _ ⟨m2, ρ, _, S.step s13, SStep.of s13, q3⟩
end
/-! ### and, or, if as values -/
section
variable {ex : Option (Addr × Addr × Addr)} {W : WX} {X : Cx} {a b c : Expr} {wa wb : WE} {t : WT} {pos : Pos} {rest : List Expr}
def wIf (t : WT) (wa wb : WE) : WE := fun ρ μ Q Xd => t ρ μ (fun k μ1 => if k = true then wa ρ μ1 Q Xd else wb ρ μ1 Q Xd) Xd
theorem de_if (hc : DT ex W X c t) (ha : DE ex W X a wa) (hb : DE ex W X b wb) : DE ex W X (.IfExp c a b pos) (wIf t wa wb) := pe_weak (pe_ifExp hc ha hb) fun σ H Q' q => by
  obtain ⟨Z, m, ρ, μ, Q, Xd, S, q, k, kx⟩ := q
  refine ⟨Z, m, ρ, μ, _, Xd, S, q, fun c H1 P => ?_, kx⟩
  obtain ⟨m1, μ1, s1, q1⟩ := P
  cases c with
  | true =>
    rw [if_pos rfl] at q1 ⊢
    exact ⟨Z, m1, ρ, μ1, Q, Xd, S.step s1, q1, fun v H2 P => k v H2 (VPost.from s1 P), fun cls d H' P => kx cls d H' (XPost.from s1 P)⟩
  | false =>
    rw [if_neg Bool.false_ne_true] at q1 ⊢
    exact ⟨Z, m1, ρ, μ1, Q, Xd, S.step s1, q1, fun v H2 P => k v H2 (VPost.from s1 P), fun cls d H' P => kx cls d H' (XPost.from s1 P)⟩
/-- a and b, a or b where a is a bool -/
def wAndV (wa wb : WE) : WE := fun ρ μ Q Xd => wa ρ μ (fun x μ1 => fBool x fun k => if k = true then wb ρ μ1 Q Xd else Q (.bl false) μ1) Xd
def wOrV (wa wb : WE) : WE := fun ρ μ Q Xd => wa ρ μ (fun x μ1 => fBool x fun k => if k = true then Q (.bl true) μ1 else wb ρ μ1 Q Xd) Xd
end
end DL

set_option Elab.async false
set_option linter.all false
set_option maxRecDepth 100000
set_option maxHeartbeats 4000000
set_option autoImplicit false
namespace DL
open PySem PySem.Spec PyProof.Rows L2
section
variable {ex : Option (Addr × Addr × Addr)} {W : WX} {X : Cx} {a b c : Expr} {wa wb : WE} {t : WT} {pos : Pos} {rest : List Expr}
theorem de_one {op : BoolOp} (h : DE ex W X a wa) : DE ex W X (.BoolOp op [a] pos) wa := pe_one h
theorem de_and (ha : DE ex W X a wa) (hb : DE ex W X (.BoolOp .And (b :: rest) pos) wb) : DE ex W X (.BoolOp .And (a :: b :: rest) pos) (wAndV wa wb) := pe_weak (pe_and ha hb) fun σ H Q' q => by
  obtain ⟨Z, m, ρ, μ, Q, Xd, S, q, k, kx⟩ := q
  refine ⟨Z, m, ρ, μ, _, Xd, S, q, fun v H1 P => ?_, kx⟩
  obtain ⟨m1, d, μ1, s1, r1, q1⟩ := P
  obtain ⟨c, rfl, q2⟩ := fBool_of q1
  rw [Rep] at r1
  clear q1
  have q1 := q2
  clear q2
  refine ⟨c, r1, ?_⟩
  cases c with
  | true =>
    rw [if_pos rfl] at q1 ⊢
    exact ⟨Z, m1, ρ, μ1, Q, Xd, S.step s1, q1, fun v H2 P => k v H2 (VPost.from s1 P), fun cls d H' P => kx cls d H' (XPost.from s1 P)⟩
  | false =>
    rw [if_neg Bool.false_ne_true] at q1 ⊢
    exact k _ _ (VPost.from s1 (.now s1.mu (by rw [Rep]) q1))
def wNotV (wa : WE) : WE := fun ρ μ Q Xd => wa ρ μ (fun x μ1 => fBool x fun k => Q (.bl (!k)) μ1) Xd
theorem de_not (ha : DE ex W X a wa) : DE ex W X (.UnaryOp .Not a pos) (wNotV wa) := pe_weak (pe_not ha) fun σ H Q' q => by
  obtain ⟨Z, m, ρ, μ, Q, Xd, S, q, k, kx⟩ := q
  refine ⟨Z, m, ρ, μ, _, Xd, S, q, fun v H1 P => ?_, kx⟩
  obtain ⟨m1, d, μ1, s1, r1, q1⟩ := P
  obtain ⟨c, rfl, q2⟩ := fBool_of q1
  rw [Rep] at r1
  exact ⟨c, r1, k _ _ (VPost.from s1 (.now s1.mu (by rw [Rep]) q2))⟩
/-! (a, b, ..) = a list of that length -/
def kUnl (n : Nat) (gs : WGs) : WG := fun d ρ μ Q => match d with
  | .lst ds => ds.length = n ∧ gs ds ρ μ Q
  | .frl ds => ds.length = n ∧ gs ds ρ μ Q
  | _ => False
end
/-! ### isinstance -/
inductive TyN where
  | b (n : String) | c (c : Str)
  deriving DecidableEq
def tyD (d : D) (μ : Mu) : Option TyN := match d with
  | .non => some (.b "NoneType")
  | .bl _ => some (.b "bool")
  | .int _ => some (.b "int")
  | .str _ => some (.b "str")
  | .tup _ => some (.b "tuple")
  | .lst _ => some (.b "list")
  | .frl _ => some (.b "list")
  | .obj c _ _ => some (.c c)
  | .loc n => match μ[n]? with
    | some (.lst _) => some (.b "list")
    | some (.ins c _ _) => some (.c c)
    | _ => none
  | .opq (.dK _) => some (.b "dict")
  | _ => none
def clD : D → Option TyN
  | .ty n => some (.b n)
  | .cls c => some (.c c)
  | _ => none
/-- what of the text a class must have that type(x) is it -/
structure InsT (K : PySem.W.Frag) (C : Addr) : Prop where
  cl : Cls K C
  ca : PySem.W.findIn K (.ref C) "__class__" = some (some (.builtin "object.__class__"))
  cn : PySem.W.specialIn K (.builtin "object.__class__") "__get__" = some (some (.builtin "getset_descriptor.__get__"))
  ct : PySem.W.takesIn K (.builtin "object.__class__") = some true
  cm : PySem.W.mroIn K C (.type "object") = some true
def TyVal (G : Gx) : TyN → Value → Prop
  | .b n, v => v = .type n
  | .c c, v => ∃ C, G.mg c = some (.ref C) ∧ v = .ref C
/-- the answers of isinstance that are known: by a table -/
structure IsiTab (G : Gx) (f : TyN → TyN → Option Bool) : Prop where
  ok : ∀ t u b, f t u = some b → ∀ tv uv, TyVal G t tv → TyVal G u uv → PySem.W.kitOne G.K tv uv = some b
  ins : ∀ c u b, f (.c c) u = some b → ∀ C, G.mg c = some (.ref C) → InsT G.K C
theorem tyX_of {G : Gx} {Z : Addr → Prop} {m : List Addr} {μ : Mu} {H : Hp} {x : D} {v : V} {t : TyN} (M : MuOk G Z m μ H) (r : Rep G m (vis Z m H) x v) (h : tyD x μ = some t) (hi : ∀ c, t = .c c → ∀ C, G.mg c = some (.ref C) → InsT G.K C) :
    ∃ tv, TyVal G t tv ∧ TyX G.K H v tv := by
  unfold tyD at h
  split at h
  · cases h; rw [Rep] at r; subst r; exact ⟨_, rfl, .base .non⟩
  · cases h; rw [Rep] at r; subst r; exact ⟨_, rfl, .base (.bl _)⟩
  · cases h; rw [Rep] at r; subst r; exact ⟨_, rfl, .base (.int _)⟩
  · cases h; rw [Rep] at r; subst r; exact ⟨_, rfl, .base (.str _)⟩
  · cases h; rw [Rep] at r
    obtain ⟨a, vs, rfl, s, _⟩ := r
    refine ⟨_, rfl, ?_⟩
    rcases SqT.same vis_le s with (s | ⟨o, s⟩) | ⟨o, its, n, s, c, _⟩
    · exact .base (.tup s)
    · exact .fTuple s
    · exact .kTuple s c
  · cases h; rw [Rep] at r
    obtain ⟨a, vs, rfl, s, _⟩ := r
    exact ⟨_, rfl, .base (.lst (vis_le _ _ s))⟩
  · cases h; rw [Rep] at r
    obtain ⟨a, vs, rfl, s, _⟩ := r
    refine ⟨_, rfl, ?_⟩
    rcases Same.seq vis_le s with (s | ⟨o, s⟩) | ⟨o, its, n, s, c, _⟩
    · exact .base (.lst s)
    · exact .base (.frz s)
    · exact .kList s c
  · cases h; rw [Rep] at r
    obtain ⟨a, C, dx, vs, rfl, g, s, _⟩ := r
    have i := hi _ rfl C g
    exact ⟨_, ⟨C, g, rfl⟩, .base (.ins (vis_le _ _ s) i.cl i.ca i.cn i.ct i.cm)⟩
  · rw [Rep] at r
    obtain ⟨a, rfl, ea⟩ := r
    split at h
    · rename_i e1
      cases h
      obtain ⟨vs, h1, _⟩ := M.cell _ _ a e1 ea
      exact ⟨_, rfl, .base (.lst h1)⟩
    · rename_i e1
      cases h
      obtain ⟨C, dx, vs, g, h1, _⟩ := M.cell _ _ a e1 ea
      have i := hi _ rfl C g
      exact ⟨_, ⟨C, g, rfl⟩, .base (.ins h1 i.cl i.ca i.cn i.ct i.cm)⟩
    · cases h
  · cases h; rw [Rep] at r
    obtain ⟨a, rfl, s⟩ := r
    exact ⟨_, rfl, .base (.dK (vis_le _ _ s))⟩
  · cases h
theorem clV_of {G : Gx} {m : List Addr} {E : Hp} {x : D} {v : V} {u : TyN} (r : Rep G m E x v) (h : clD x = some u) : ∃ uv, TyVal G u uv ∧ ClsV v uv := by
  unfold clD at h
  split at h
  · cases h; rw [Rep] at r; subst r; exact ⟨_, rfl, .ty _⟩
  · cases h; rw [Rep] at r
    obtain ⟨C, g, rfl⟩ := r
    exact ⟨_, ⟨C, g, rfl⟩, .own C⟩
  · cases h
def isiD (f : TyN → TyN → Option Bool) (x c : D) (μ : Mu) : Option Bool := match tyD x μ, clD c with
  | some t, some u => f t u
  | _, _ => none
def fIsi (f : TyN → TyN → Option Bool) : FN := fun xs μ Q => match xs with
  | [x, c] => match isiD f x c μ with
    | some b => Q (.bl b) μ
    | none => False
  | _ => False
theorem isiD_of {f : TyN → TyN → Option Bool} {x c : D} {μ : Mu} {b : Bool} (h : isiD f x c μ = some b) : ∃ t u, tyD x μ = some t ∧ clD c = some u ∧ f t u = some b := by
  unfold isiD at h
  split at h
  · exact ⟨_, _, by assumption, by assumption, h⟩
  · cases h
theorem fIsi_of {f : TyN → TyN → Option Bool} {xs : List D} {μ : Mu} {Q : D → Mu → Prop} (h : fIsi f xs μ Q) : ∃ x c b, xs = [x, c] ∧ isiD f x c μ = some b ∧ Q (.bl b) μ := by
  unfold fIsi at h
  split at h
  · split at h
    · exact ⟨_, _, _, rfl, by assumption, h⟩
    · exact h.elim
  · exact h.elim
theorem sn_isi {G : Gx} {f : TyN → TyN → Option Bool} (T : IsiTab G f) : SN G (rIsi G.K) (fIsi f) := by
  intro Z m μ H xs us Q Q' M r h k
  obtain ⟨x, c, b, rfl, hb, q⟩ := fIsi_of h
  obtain ⟨v, t, rfl, r1, r2⟩ := r.uncons
  obtain ⟨v', t', rfl, r3, r4⟩ := r2.uncons
  rw [Reps] at r4
  subst r4
  obtain ⟨tn, un, h1, h2, h3⟩ := isiD_of hb
  obtain ⟨tv, t1, t2⟩ := tyX_of M r1 h1 fun c e C g => T.ins c un b (e ▸ h3) C g
  obtain ⟨uv, u1, u2⟩ := clV_of r3 h2
  exact ⟨v, v', tv, uv, b, rfl, u2, t2, T.ok _ _ _ h3 _ _ t1 u1, k _ _ (.now M (by rw [Rep]) q)⟩
/-! ### attributes -/
/-- an instance: class, names, values -/
def insD (d : D) (μ : Mu) : Option (Str × List Str × List D) := match d with
  | .obj c ks ds => some (c, ks, ds)
  | .loc n => match μ[n]? with
    | some (.ins c ks ds) => some (c, ks, ds)
    | _ => none
  | _ => none
theorem ins_rep {G : Gx} {Z : Addr → Prop} {m : List Addr} {μ : Mu} {H : Hp} {x : D} {v : V} {c : Str} {ks : List Str} {ds : List D} (M : MuOk G Z m μ H) (r : Rep G m (vis Z m H) x v) (h : insD x μ = some (c, ks, ds)) :
    ∃ a C dx vs, v = .ref a ∧ G.mg c = some (.ref C) ∧ H a = some (.ins C dx (ks.zip vs)) ∧ ks.length = ds.length ∧ Reps G m (vis Z m H) ds vs := by
  unfold insD at h
  split at h
  · cases h
    rw [Rep] at r
    obtain ⟨a, C, dx, vs, e, g, s, l, q⟩ := r
    exact ⟨a, C, dx, vs, e, g, vis_le _ _ s, l, q⟩
  · split at h
    · rename_i e1
      cases h
      rw [Rep] at r
      obtain ⟨a, e, ea⟩ := r
      obtain ⟨C, dx, vs, g, s, l, q⟩ := M.cell _ _ a e1 ea
      exact ⟨a, C, dx, vs, e, g, s, l, q⟩
    · cases h
  · cases h
/-- the value of a name -/
def fldOf (f : Str) : List Str → List D → Option D
  | k :: ks, d :: ds => if f == k then some d else fldOf f ks ds
  | _, _ => none
theorem fldOf_rep {G : Gx} {m : List Addr} {E : Hp} {f : Str} : ∀ {ks : List Str} {ds : List D} {vs : List V} {d : D}, Reps G m E ds vs → fldOf f ks ds = some d → ∃ v, (ks.zip vs).lookup f = some v ∧ Rep G m E d v
  | [], ds, vs, d, r, h => by cases ds <;> cases h
  | k :: ks, [], vs, d, r, h => by cases h
  | k :: ks, d0 :: ds, vs, d, r, h => by
    obtain ⟨v, t, rfl, r1, r2⟩ := r.uncons
    rw [List.zip_cons_cons, List.lookup_cons]
    rw [fldOf] at h
    cases e : f == k with
    | true => rw [e] at h; cases h; exact ⟨v, rfl, r1⟩
    | false => rw [e] at h; exact fldOf_rep r2 h
def fFld (c f : Str) : F1 := fun x μ Q => match insD x μ with
  | some (c', ks, ds) => c' = c ∧ match fldOf f ks ds with
    | some d => Q d μ
    | none => False
  | none => False
theorem fFld_of {c f : Str} {x : D} {μ : Mu} {Q : D → Mu → Prop} (h : fFld c f x μ Q) : ∃ ks ds d, insD x μ = some (c, ks, ds) ∧ fldOf f ks ds = some d ∧ Q d μ := by
  unfold fFld at h
  split at h
  · rename_i e
    obtain ⟨rfl, h⟩ := h
    split at h
    · exact ⟨_, _, _, e, by assumption, h⟩
    · exact h.elim
  · exact h.elim
def rFld (K : PySem.W.Frag) (f : Str) : V → Hp → VK → Prop := fun x H1 Q => ∃ a C dx fs v, x = .ref a ∧ H1 a = some (.ins C dx fs) ∧ Cls K C ∧ NoAttr K C f ∧ fs.lookup f = some v ∧ Q v H1
theorem s1_fld {G : Gx} {c f : Str} {C : Addr} (hm : G.mg c = some (.ref C)) (hc : Cls G.K C) (hn : NoAttr G.K C f) : S1 G (rFld G.K f) (fFld c f) := by
  intro Z m μ H x u Q Q' M rx h k
  obtain ⟨ks, ds, d, e1, e2, q⟩ := fFld_of h
  obtain ⟨a, C', dx, vs, rfl, g, s, l, rs⟩ := ins_rep M rx e1
  rw [hm] at g
  cases g
  obtain ⟨v, ev, rv⟩ := fldOf_rep rs e2
  exact ⟨a, C, dx, _, v, rfl, s, hc, hn, ev, k _ _ (.now M rv q)⟩
section
variable {ex : Option (Addr × Addr × Addr)} {W : WX} {X : Cx} {e o value : Expr} {wa wo : WE} {pos pos' : Pos}
theorem de_fld {c f : Str} {C : Addr} (hm : X.mg c = some (.ref C)) (hc : Cls X.K C) (hn : NoAttr X.K C f) (he : DE ex W X e wa) (hb : attributeBase e f X.env (eval e X.env) = eval e X.env := by rfl) : DE ex W X (.Attribute e f pos) (w1 (fFld c f) wa) :=
  pe_weak (pe_fld he hb) fun _ _ _ q => lift_w1 (G := gx X ex) (s1_fld hm hc hn) q
end
/-! stored -/
def putK (f : Str) : List Str → List Str
  | [] => [f]
  | g :: r => if g = f then g :: r else g :: putK f r
def putD {α : Type} (f : Str) (y : α) : List Str → List α → List α
  | [], _ => [y]
  | g :: r, x :: xs => if g = f then y :: xs else x :: putD f y r xs
  | _ :: _, [] => []
theorem putF_zip (f : Str) (y : V) : ∀ (ks : List Str) (vs : List V), ks.length = vs.length → putF f y (ks.zip vs) = (putK f ks).zip (putD f y ks vs)
  | [], [], _ => rfl
  | [], _ :: _, h => nomatch h
  | _ :: _, [], h => nomatch h
  | g :: r, x :: xs, h => by
    have ih := putF_zip f y r xs (by simpa using h)
    rw [List.zip_cons_cons, putK, putD, putF]
    by_cases e : g = f
    · rw [if_pos e, if_pos e, if_pos e, List.zip_cons_cons]
    · rw [if_neg e, if_neg e, if_neg e, List.zip_cons_cons, ih]
theorem putD_len (f : Str) : ∀ (ks : List Str) (ds : List D) (d : D), ks.length = ds.length → (putK f ks).length = (putD f d ks ds).length
  | [], [], _, _ => rfl
  | [], _ :: _, _, h => nomatch h
  | _ :: _, [], _, h => nomatch h
  | g :: r, x :: xs, d, h => by
    have ih := putD_len f r xs d (by simpa using h)
    rw [putK, putD]
    by_cases e : g = f
    · rw [if_pos e, if_pos e]; exact h
    · rw [if_neg e, if_neg e, List.length_cons, List.length_cons, ih]
theorem putD_rep {G : Gx} {m : List Addr} {E : Hp} {f : Str} {d : D} {v : V} (rd : Rep G m E d v) : ∀ {ks : List Str} {ds : List D} {vs : List V}, ks.length = ds.length → Reps G m E ds vs → Reps G m E (putD f d ks ds) (putD f v ks vs)
  | [], [], vs, _, r => by rw [Reps] at r; subst r; exact Reps.cons rd Reps.nil
  | [], _ :: _, _, h, _ => nomatch h
  | _ :: _, [], _, h, _ => nomatch h
  | g :: r, x :: xs, vs, h, q => by
    obtain ⟨u, t, rfl, q1, q2⟩ := q.uncons
    rw [putD, putD]
    by_cases e : g = f
    · rw [if_pos e, if_pos e]; exact Reps.cons rd q2
    · rw [if_neg e, if_neg e]; exact Reps.cons q1 (putD_rep rd (by simpa using h) q2)
/-- an own thing is written -/
theorem own_put {Z : Addr → Prop} {σ : L2.St} {ρ : DS} {i : Nat} {a : Addr} {c c' : Cell} (hi : ρ[i]? = some (.own a c)) : ownW Z σ (ρ.set i (.own a c')) = ownW Z σ ρ := by
  have hil := (List.getElem?_eq_some_iff.mp hi).1
  funext b
  apply propext
  constructor
  · rintro (h | ⟨j, e, h1⟩)
    · exact .inl h
    · by_cases hj : i = j
      · subst hj
        rw [List.getElem?_set_self hil] at h1
        cases h1
        exact .inr ⟨i, c, hi⟩
      · rw [List.getElem?_set_ne hj] at h1; exact .inr ⟨j, e, h1⟩
  · rintro (h | ⟨j, e, h1⟩)
    · exact .inl h
    · by_cases hj : i = j
      · subst hj
        rw [hi] at h1
        cases h1
        exact .inr ⟨i, c', List.getElem?_set_self hil⟩
      · exact .inr ⟨j, e, by rw [List.getElem?_set_ne hj]; exact h1⟩
theorem SR.putOwn {G : Gx} {Z : Addr → Prop} {m : List Addr} {σ : L2.St} {H : Hp} {ρ : DS} {μ : Mu} (S : SR G Z m σ H ρ μ) {i : Nat} {c c' : Cell} {a : Addr} {o : HO} (hi : ρ[i]? = some (.own a c))
    (hc : CellOk G m (vis (ownW Z σ ρ) m H) (upd H a o) c' a) : SR G Z m σ (upd H a o) (ρ.set i (.own a c')) μ ∧ SStep G Z m σ ρ H m σ (ρ.set i (.own a c')) (upd H a o) := by
  have hil := (List.getElem?_eq_some_iff.mp hi).1
  obtain ⟨hs, nz, _⟩ := S.own i a c hi
  have ow : ownW Z σ (ρ.set i (.own a c')) = ownW Z σ ρ := own_put hi
  have wa : ownW Z σ ρ a := .inr ⟨i, c, hi⟩
  have ev : vis (ownW Z σ ρ) m (upd H a o) = vis (ownW Z σ ρ) m H := by
    funext b
    unfold vis
    by_cases hb : b = a
    · rw [hb, if_pos (.inl wa), if_pos (.inl wa)]
    · rw [upd_ne hb]
  refine ⟨⟨by rw [List.length_set]; exact S.len, ?_, fun j d e => ?_, fun j b e h => ?_, fun j k b e f h1 h2 => ?_, fun j c ks ds h => ?_⟩, List.prefix_refl _, fun z hz => upd_ne fun e => nz (e ▸ hz), by rw [ow, ev]; exact Same.refl _⟩
  · rw [ow]
    refine ⟨S.mu.len, S.mu.nd, S.mu.out, fun z hz => ?_, fun n d b hd hb => ?_⟩
    · by_cases e : z = a
      · rw [e, upd_same]; intro q; cases q
      · rw [upd_ne e]; exact S.mu.hw z hz
    · rw [ev]
      have nb : b ≠ a := fun e => S.mu.out b (List.mem_of_getElem? hb) (e ▸ wa)
      exact (S.mu.cell n d b hd hb).keep (List.prefix_refl _) (Same.refl _) (upd_ne nb)
  · rw [ow, ev]
    have hj : i ≠ j := fun q => by subst q; rw [List.getElem?_set_self hil] at e; cases e
    rw [List.getElem?_set_ne hj] at e
    exact S.val j d e
  · rw [ow, ev]
    by_cases hj : i = j
    · subst hj
      rw [List.getElem?_set_self hil] at h
      cases h
      exact ⟨hs, nz, hc⟩
    · rw [List.getElem?_set_ne hj] at h
      obtain ⟨h1, h2, h3⟩ := S.own j b e h
      exact ⟨h1, h2, h3.keep (List.prefix_refl _) (Same.refl _) (upd_ne fun q => hj (S.dis i j a c e hi (q ▸ h)))⟩
  · have get : ∀ {l : Nat} {b : Addr} {es : Cell}, (ρ.set i (Sl.own a c'))[l]? = some (Sl.own b es) → ∃ es2 : Cell, ρ[l]? = some (Sl.own b es2) := fun {l b es} h => by
      by_cases hj : i = l
      · subst hj
        rw [List.getElem?_set_self hil] at h
        cases h
        exact ⟨c, hi⟩
      · rw [List.getElem?_set_ne hj] at h; exact ⟨es, h⟩
    obtain ⟨_, g1⟩ := get h1
    obtain ⟨_, g2⟩ := get h2
    exact S.dis j k b _ _ g1 g2
  · rw [ow, ev]
    have hj : i ≠ j := fun q => by subst q; rw [List.getElem?_set_self hil] at h; cases h
    rw [List.getElem?_set_ne hj] at h
    exact S.exn j c ks ds h
/-- self.f = value, self the thing that is being made -/
def putOwnI (c0 : Str) (i : Nat) (f : Str) (d : D) (ρ : DS) (k : DS → Prop) : Prop := match ρ[i]? with
  | some (.own a (.ins c ks ds)) => c = c0 ∧ ks.length < 1000 ∧ k (ρ.set i (.own a (.ins c (putK f ks) (putD f d ks ds))))
  | _ => False
theorem putOwnI_of {c : Str} {i : Nat} {f : Str} {d : D} {ρ : DS} {k : DS → Prop} (h : putOwnI c i f d ρ k) : ∃ a ks ds, ρ[i]? = some (.own a (.ins c ks ds)) ∧ ks.length < 1000 ∧ k (ρ.set i (.own a (.ins c (putK f ks) (putD f d ks ds)))) := by
  unfold putOwnI at h
  split at h
  · rename_i e
    obtain ⟨rfl, h⟩ := h
    exact ⟨_, _, _, e, h⟩
  · exact h.elim
def sFldO (c : Str) (i : Nat) (f : Str) (wa : WE) : WS := fun E ρ μ => wa ρ μ (fun d μ1 => putOwnI c i f d ρ fun ρ1 => E.nx ρ1 μ1) fun c ks es μ' => E.xc c ks es ρ μ'
section
variable {ex : Option (Addr × Addr × Addr)} {W : WX} {X : Cx} {e o value : Expr} {wa wo : WE} {pos pos' p0 : Pos}
theorem ds_fldO {i : Nat} {x c f : Str} {C : Addr} (hm : X.mg c = some (.ref C)) (hc : Cls X.K C) (hn : NoAttr X.K C f) (hN : X.N[i]? = some x) (hv : DE ex W X value wa) (hs : swapsWith value (some (.Attribute (.Name x p0) f pos')) pos.line X.env = pure false)
    (hvis : Vis X.env.scope x := by first | exact Or.inl rfl | exact Or.inr (Or.inl rfl) | exact Or.inr (Or.inr rfl)) (hd : (x == ("__debug__" : Str)) = false := by decide) (hcd : (x == ("__classdict__" : Str)) = false := by decide) :
    DSt ex W X (.Assign [.Attribute (.Name x p0) f pos'] value pos) (sFldO c i f wa) := ps_weak (ps_fld (pe_var hN hvis hd hcd) hv hs) fun De σ H q => by
  obtain ⟨Z, m, ρ, μ, E, S, q, kn, kr, kb, kc, kx⟩ := q
  refine ⟨Z, m, ρ, μ, _, _, S, q, fun v H1 P => ?_, fun cls d H' P => kx cls d σ H' (XSPost.of S P)⟩
  obtain ⟨m1, d, μ1, s1, r1, q1⟩ := P
  obtain ⟨a, ks, ds, hi, hl, q2⟩ := putOwnI_of q1
  have S1 := S.step s1
  obtain ⟨ha, nz, C0, dx, vs, g, hv, l, rs⟩ := S1.own i a _ hi
  have hC : C0 = C := by
    have g' : X.mg c = some (.ref C0) := g
    rw [hm] at g'; cases g'; rfl
  subst hC
  have lv : ks.length = vs.length := by rw [l]; exact rs.len
  refine ⟨_, ha, a, C0, dx, _, rfl, hv, hc, hn, by rw [List.length_zip, ← lv, Nat.min_self]; exact hl, ?_⟩
  obtain ⟨S2, s2⟩ := S1.putOwn (o := .ins C0 dx (putF f v (ks.zip vs))) (c' := .ins c (putK f ks) (putD f d ks ds)) hi ⟨C0, dx, putD f v ks vs, g, by rw [upd_same, putF_zip f v ks vs lv], putD_len f ks ds d l, putD_rep r1 l rs⟩
  exact kn _ _ ⟨m1, _, μ1, S2, (SStep.of s1).trans s2, q2⟩
end
end DL

set_option Elab.async false
set_option linter.all false
set_option maxRecDepth 100000
set_option maxHeartbeats 4000000
set_option autoImplicit false
namespace DL
open PySem PySem.Spec PyProof.Rows L2
/-! ### an own thing let go: a datum -/
def cellD : Cell → Option D
  | .lst ds => some (.lst ds)
  | .ins c ks ds => some (.obj c ks ds)
  | .pool => none
  | .dct kvs => none
  | .dic _ _ => none
theorem cellD_rep {G : Gx} {m : List Addr} {E H : Hp} {c : Cell} {a : Addr} {d : D} (h : CellOk G m E H c a) (e : cellD c = some d) {E' : Hp} (hE : Same E E') (ha : ∀ o, H a = some o → E' a = some o) : Rep G m E' d (.ref a) := by
  cases c with
  | lst ds =>
    cases e
    obtain ⟨vs, h1, h2⟩ := h
    rw [Rep]
    exact ⟨a, vs, rfl, ha _ h1, Reps.mono (List.prefix_refl _) hE _ _ h2⟩
  | ins c ks ds =>
    cases e
    obtain ⟨C, dx, vs, g, h1, l, h2⟩ := h
    rw [Rep]
    exact ⟨a, C, dx, vs, rfl, g, ha _ h1, l, Reps.mono (List.prefix_refl _) hE _ _ h2⟩
  | pool => cases e
  | dct kvs => cases e
  | dic _ _ => cases e
theorem SR.free {G : Gx} {Z : Addr → Prop} {m : List Addr} {σ : L2.St} {H : Hp} {ρ : DS} {μ : Mu} (S : SR G Z m σ H ρ μ) {i : Nat} {a : Addr} {c : Cell} {d : D} (hi : ρ[i]? = some (.own a c)) (hd : cellD c = some d) :
    SR G Z m σ H (ρ.set i (.v d)) μ ∧ SStep G Z m σ ρ H m σ (ρ.set i (.v d)) H := by
  have hil := (List.getElem?_eq_some_iff.mp hi).1
  obtain ⟨hs, nz, hc⟩ := S.own i a c hi
  have sub : ∀ b, ownW Z σ (ρ.set i (.v d)) b → ownW Z σ ρ b := fun b h => by
    rcases h with h | ⟨j, e, h1⟩
    · exact .inl h
    · by_cases hj : i = j
      · subst hj; rw [List.getElem?_set_self hil] at h1; cases h1
      · rw [List.getElem?_set_ne hj] at h1; exact .inr ⟨j, e, h1⟩
  have sm := vis_mono (m := m) (H := H) sub
  have nw : ¬ ownW Z σ (ρ.set i (.v d)) a := by
    rintro (h | ⟨j, e, h1⟩)
    · exact nz h
    · by_cases hj : i = j
      · subst hj; rw [List.getElem?_set_self hil] at h1; cases h1
      · rw [List.getElem?_set_ne hj] at h1; exact hj (S.dis i j a c e hi h1)
  refine ⟨⟨by rw [List.length_set]; exact S.len, S.mu.less sub, fun j e h => ?_, fun j b e h => ?_, fun j k b e f h1 h2 => ?_, fun j c ks ds h => ?_⟩, List.prefix_refl _, fun _ _ => rfl, sm⟩
  · by_cases hj : i = j
    · subst hj
      rw [List.getElem?_set_self hil] at h
      cases h
      exact ⟨_, hs, cellD_rep hc hd sm fun o ho => vis_some.mpr ⟨nw, fun q => S.mu.out a q (.inr ⟨i, c, hi⟩), ho⟩⟩
    · rw [List.getElem?_set_ne hj] at h
      obtain ⟨v, h1, h2⟩ := S.val j e h
      exact ⟨v, h1, Rep.mono (List.prefix_refl _) sm _ _ h2⟩
  · by_cases hj : i = j
    · subst hj; rw [List.getElem?_set_self hil] at h; cases h
    · rw [List.getElem?_set_ne hj] at h
      obtain ⟨h1, h2, h3⟩ := S.own j b e h
      exact ⟨h1, h2, h3.keep (List.prefix_refl _) sm rfl⟩
  · have get : ∀ {l : Nat} {b : Addr} {es : Cell}, (ρ.set i (Sl.v d))[l]? = some (Sl.own b es) → ρ[l]? = some (Sl.own b es) := fun {l b es} h => by
      by_cases hj : i = l
      · subst hj; rw [List.getElem?_set_self hil] at h; cases h
      · rw [List.getElem?_set_ne hj] at h; exact h
    exact S.dis j k b _ _ (get h1) (get h2)
  · have hj : i ≠ j := fun q => by subst q; rw [List.getElem?_set_self hil] at h; cases h
    rw [List.getElem?_set_ne hj] at h
    exact (S.exn j c ks ds h).mono (List.prefix_refl _) sm
/-- ahead of a statement: the thing at slot i is let go -/
def frz (i : Nat) (ρ : DS) (k : DS → Prop) : Prop := match ρ[i]? with
  | some (.own _ c) => match cellD c with
    | some d => k (ρ.set i (.v d))
    | none => False
  | _ => False
theorem frz_of {i : Nat} {ρ : DS} {k : DS → Prop} (h : frz i ρ k) : ∃ a c d, ρ[i]? = some (.own a c) ∧ cellD c = some d ∧ k (ρ.set i (.v d)) := by
  unfold frz at h
  split at h
  · split at h
    · exact ⟨_, _, _, by assumption, by assumption, h⟩
    · exact h.elim
  · exact h.elim
def sFrz (i : Nat) (w : WS) : WS := fun E ρ μ => frz i ρ fun ρ1 => w E ρ1 μ
section
variable {ex : Option (Addr × Addr × Addr)} {W : WX} {X : Cx} {st : Stmt} {sts : List Stmt} {w : WS} {e : Expr} {wa : WE} {ws : WA} {es : List Expr} {pos : Pos}
theorem lift_frz {G : Gx} {i : Nat} {De : Ends} {σ : L2.St} {H : Hp} (q : liftS G W (sFrz i w) De σ H) : liftS G W w De σ H := by
  obtain ⟨Z, m, ρ, μ, E, S, q, kn, kr, kb, kc, kx⟩ := q
  obtain ⟨a, c, d, hi, hd, q⟩ := frz_of q
  obtain ⟨S1, s1⟩ := S.free hi hd
  exact ⟨Z, m, _, μ, E, S1, q, fun σ' H' P => kn σ' H' (SPost.from s1 P), fun v H' P => kr v H' (RPost.from s1 P), fun σ' H' P => kb σ' H' (SPost.from s1 P), fun σ' H' P => kc σ' H' (SPost.from s1 P), fun cls d σ' H' P => kx cls d σ' H' (XSPost.from s1 P)⟩
theorem ds_frz (i : Nat) (h : DSt ex W X st w) : DSt ex W X st (sFrz i w) := ps_weak h fun De σ H q => lift_frz q
/-! ### a list of the def's own: made -/
theorem SR.born {G : Gx} {Z : Addr → Prop} {m : List Addr} {σ : L2.St} {H : Hp} {ρ : DS} {μ : Mu} (S : SR G Z m σ H ρ μ) {i : Nat} {p : Addr} {o : HO} {c : Cell} (np : H p = none) (hi : i < ρ.length) (hc : CellOk G m (vis (ownW Z σ ρ) m H) (upd H p o) c p) :
    SR G Z m (σ.set i (some (.ref p))) (upd H p o) (ρ.set i (.own p c)) μ ∧ SStep G Z m σ ρ H m (σ.set i (some (.ref p))) (ρ.set i (.own p c)) (upd H p o) := by
  have hil : i < σ.length := by rw [← S.len]; exact hi
  obtain ⟨f1, f2⟩ := S.mu.fresh np
  have sub : ∀ b, ownW Z (σ.set i (some (.ref p))) (ρ.set i (.own p c)) b → addZ (ownW Z σ ρ) p b := fun b h => by
    rcases h with h | ⟨j, e, h1⟩
    · exact .inl (.inl h)
    · by_cases hj : i = j
      · subst hj; rw [List.getElem?_set_self hi] at h1; cases h1; exact .inr rfl
      · rw [List.getElem?_set_ne hj] at h1; exact .inl (.inr ⟨j, e, h1⟩)
  obtain ⟨Mh, sh⟩ := MuOk.hide (o := o) S.mu np
  have sm : Same (vis (ownW Z σ ρ) m H) (vis (ownW Z (σ.set i (some (.ref p))) (ρ.set i (.own p c))) m (upd H p o)) := sh.trans (vis_mono sub)
  have nzp : ¬ Z p := fun h => f1 (.inl h)
  have old : ∀ {j : Nat} {e : Cell}, ρ[j]? ≠ some (Sl.own p e) := fun {j e} h => f1 (.inr ⟨j, e, h⟩)
  refine ⟨⟨by rw [List.length_set, List.length_set]; exact S.len, Mh.less sub, fun j e h => ?_, fun j b e h => ?_, fun j k b e f h1 h2 => ?_, fun j c ks ds h => ?_⟩, List.prefix_refl _, fun z hz => upd_ne fun q => nzp (q ▸ hz), sm⟩
  · by_cases hj : i = j
    · subst hj; rw [List.getElem?_set_self hi] at h; cases h
    · rw [List.getElem?_set_ne hj] at h
      obtain ⟨v, h1, h2⟩ := S.val j e h
      exact ⟨v, by rw [List.getElem?_set_ne hj]; exact h1, Rep.mono (List.prefix_refl _) sm _ _ h2⟩
  · by_cases hj : i = j
    · subst hj
      rw [List.getElem?_set_self hi] at h
      cases h
      exact ⟨List.getElem?_set_self hil, nzp, hc.keep (List.prefix_refl _) sm rfl⟩
    · rw [List.getElem?_set_ne hj] at h
      obtain ⟨h1, h2, h3⟩ := S.own j b e h
      refine ⟨by rw [List.getElem?_set_ne hj]; exact h1, h2, h3.keep (List.prefix_refl _) sm (upd_ne fun q => ?_)⟩
      subst q
      exact old h
  · by_cases hj : i = j
    · subst hj
      rw [List.getElem?_set_self hi] at h1
      cases h1
      by_cases hk : i = k
      · exact hk
      · rw [List.getElem?_set_ne hk] at h2
        exact absurd h2 old
    · rw [List.getElem?_set_ne hj] at h1
      by_cases hk : i = k
      · subst hk
        rw [List.getElem?_set_self hi] at h2
        cases h2
        exact absurd h1 old
      · rw [List.getElem?_set_ne hk] at h2
        exact S.dis j k b e f h1 h2
  · have hj : i ≠ j := fun q => by subst q; rw [List.getElem?_set_self hi] at h; cases h
    rw [List.getElem?_set_ne hj] at h ⊢
    exact (S.exn j c ks ds h).mono (List.prefix_refl _) sm
def sSetO (i : Nat) (wa : WA) : WS := fun E ρ μ => wa ρ μ (fun ds μ1 => ds.length ≤ 1000 ∧ i < ρ.length ∧ ∀ p, E.nx (ρ.set i (.own p (.lst ds))) μ1) fun c ks es μ' => E.xc c ks es ρ μ'
end
end DL

set_option Elab.async false
set_option linter.all false
set_option maxRecDepth 100000
set_option maxHeartbeats 4000000
set_option autoImplicit false
namespace DL
open PySem PySem.Spec PyProof.Rows L2
/-! ### __init__ and the making of instances -/
abbrev ISp := List D → Mu → (List Str → List D → Mu → Prop) → XD → Prop
def InitPost (G : Gx) (Z : Addr → Prop) (x : Addr) (c : Str) (m : List Addr) (H : Hp) (Q : List Str → List D → Mu → Prop) (H' : Hp) : Prop :=
  ∃ m' ks es μ', m <+: m' ∧ (∀ z, Z z → H' z = H z) ∧ MuOk G (addZ Z x) m' μ' H' ∧ Same (vis (addZ Z x) m H) (vis (addZ Z x) m' H') ∧ CellOk G m' (vis (addZ Z x) m' H') H' (.ins c ks es) x ∧ Q ks es μ'
def XInit (G : Gx) (Z : Addr → Prop) (x : Addr) (m : List Addr) (H : Hp) (Xd : XD) (cls : Value) (d : Option Addr) (H' : Hp) : Prop :=
  ∃ m' c ks es μ' C dd vs, m <+: m' ∧ (∀ z, Z z → H' z = H z) ∧ MuOk G Z m' μ' H' ∧ Same (vis (addZ Z x) m H) (vis Z m' H') ∧ cls = .ref C ∧ d = some dd ∧ G.mg c = some (.ref C) ∧ vis Z m' H' dd = some (.xd (ks.zip vs)) ∧ ks.length = es.length ∧
    Reps G m' (vis Z m' H') es vs ∧ Xd c ks es μ'
def toSpI (G : Gx) (c : Str) (sp : ISp) : Sp := fun vs H Q' E => ∃ x us C dx Z m μ ds Q Xd, vs = .ref x :: us ∧ G.mg c = some (.ref C) ∧ H x = some (.ins C dx []) ∧ ¬ Z x ∧ MuOk G (addZ Z x) m μ H ∧ Reps G m (vis (addZ Z x) m H) ds us ∧ sp ds μ Q Xd ∧
  (∀ H', InitPost G Z x c m H Q H' → Q' .non H') ∧ ∀ cls d H', XInit G Z x m H Xd cls d H' → E cls d H'
def startI (N : List Str) (c : Str) (x : Addr) (ds : List D) : DS := .own x (.ins c [] []) :: (ds.map Sl.v ++ List.replicate (N.length - ds.length - 1) Sl.no)
theorem startI_own {N : List Str} {c : Str} {x : Addr} {ds : List D} {i : Nat} {a : Addr} {e : Cell} (h : (startI N c x ds)[i]? = some (.own a e)) : i = 0 ∧ a = x ∧ e = .ins c [] [] := by
  unfold startI at h
  cases i with
  | zero => cases h; exact ⟨rfl, rfl, rfl⟩
  | succ i =>
    rw [List.getElem?_cons_succ] at h
    have hm := List.mem_of_getElem? h
    rcases List.mem_append.mp hm with q | q
    · obtain ⟨d, _, q⟩ := List.mem_map.mp q
      cases q
    · rw [List.mem_replicate] at q
      exact nomatch q.2
theorem startI_ownW {Z : Addr → Prop} {N : List Str} {c : Str} {x : Addr} {ds : List D} {σ : L2.St} : ownW Z σ (startI N c x ds) = addZ Z x := by
  funext b
  apply propext
  constructor
  · rintro (h | ⟨i, e, h⟩)
    · exact .inl h
    · obtain ⟨_, rfl, _⟩ := startI_own h
      exact .inr rfl
  · rintro (h | h)
    · exact .inl h
    · subst h
      exact .inr ⟨0, _, rfl⟩
theorem SR.startI {G : Gx} {Z : Addr → Prop} {m : List Addr} {H : Hp} {μ : Mu} {N : List Str} {ds : List D} {us : List V} {c : Str} {C x dx : Addr} (g : G.mg c = some (.ref C)) (hx : H x = some (.ins C dx [])) (nz : ¬ Z x) (M : MuOk G (addZ Z x) m μ H)
    (r : Reps G m (vis (addZ Z x) m H) ds us) : SR G Z m (L2.start N (.ref x :: us)) H (startI N c x ds) μ := by
  have ow := startI_ownW (Z := Z) (N := N) (c := c) (x := x) (ds := ds) (σ := L2.start N (.ref x :: us))
  refine ⟨?_, by rw [ow]; exact M, fun i d e => ?_, fun i a e h => ?_, fun i j a e f h1 h2 => ?_, fun i c2 ks es e => ?_⟩
  · have hl := r.len
    simp [startI, DL.startI, L2.start]
    omega
  · rw [ow]
    unfold DL.startI at e
    cases i with
    | zero => cases e
    | succ i =>
      rw [List.getElem?_cons_succ, List.getElem?_append] at e
      split at e
      · rename_i hl
        rw [List.getElem?_map] at e
        rw [List.length_map] at hl
        cases q : ds[i]? with
        | none => rw [q] at e; cases e
        | some d' =>
          rw [q] at e
          cases e
          obtain ⟨v, ev, rv⟩ := r.get q
          refine ⟨v, ?_, rv⟩
          unfold L2.start
          rw [List.map_cons, List.cons_append, List.getElem?_cons_succ, List.getElem?_append_left (by rw [List.length_map, ← r.len]; exact hl), List.getElem?_map, ev]
          rfl
      · have := List.mem_of_getElem? e
        rw [List.mem_replicate] at this
        exact nomatch this.2
  · obtain ⟨rfl, rfl, rfl⟩ := startI_own h
    exact ⟨rfl, nz, C, dx, [], g, hx, rfl, Reps.nil⟩
  · rw [(startI_own h1).1, (startI_own h2).1]
  · unfold DL.startI at e
    have hm := List.mem_of_getElem? e
    rcases List.mem_cons.mp hm with q | q
    · cases q
    · rcases List.mem_append.mp q with q | q
      · obtain ⟨d, _, q⟩ := List.mem_map.mp q
        cases q
      · rw [List.mem_replicate] at q
        exact nomatch q.2
/-- the ends of an __init__'s body -/
def initEnd (c : Str) (x : Addr) (Q : List Str → List D → Prop) (ρ : DS) : Prop := match ρ[0]? with
  | some (Sl.own a (Cell.ins c' ks ds)) => a = x ∧ c' = c ∧ Q ks ds
  | _ => False
theorem initEnd_of {c : Str} {x : Addr} {Q : List Str → List D → Prop} {ρ : DS} (h : initEnd c x Q ρ) : ∃ ks ds, ρ[0]? = some (.own x (.ins c ks ds)) ∧ Q ks ds := by
  unfold initEnd at h
  split at h
  · rename_i e
    obtain ⟨rfl, rfl, h⟩ := h
    exact ⟨_, _, e, h⟩
  · exact h.elim
def defI (c : Str) (x : Addr) (Q : List Str → List D → Mu → Prop) (Xd : XD) : DEnds := { nx := fun ρ μ => initEnd c x (fun ks ds => Q ks ds μ) ρ, rt := fun _ _ => False, xc := fun c ks es _ μ => Xd c ks es μ }
section
variable {P : Program} {w : World} {K : PySem.W.Frag} {mg : Str → Option Value} {base : Heap}
theorem def_okI {x qual : Str} {params : Arguments} {body : List Stmt} {scope : Scope} {dvs : List V} {kws : List (Str × V)} {f : Addr} {fd : FuncData} {N ps : List Str} {k : Nat} {c : Str} {sp : ISp} {wb : WS} (F : FunD K x qual params body scope dvs kws f fd) (S : FnScope N ps scope)
    (len : ∀ ds μ Q Xd, sp ds μ Q Xd → ds.length + 1 = ps.length)
    (hbody : ∀ (cdv : Value) (A : Around) (fr : List Env) (s : Shared) (H : Hp) (E : XK), Room k (A.deeper (envOfC qual scope s.heap.objs.size f cdv)) → (A.deeper (envOfC qual scope s.heap.objs.size f cdv)).guards = some [] →
      DSs none (fun cls d _ H' => E cls d H') (cxOf (L2.CX P w) P w K mg base N qual scope f cdv A fr s H E) body wb)
    (hw : ∀ ds μ Q Xd (a : Addr), sp ds μ Q Xd → wb (defI c a Q Xd) (startI N c a ds) μ) : FnG P w K mg base (k + 1) f fd ps (toSpI ⟨K, mg, none⟩ c sp) := by
  refine fnG_of F S (fun vs H Q E h => ?_) (fun cdv A outer s H vs Q E hr hgd h => ?_)
  · obtain ⟨a, us, C, dx, Z, m, μ, ds, Q', Xd, rfl, _, _, _, _, r, q, _⟩ := h
    rw [List.length_cons, ← r.len]
    exact len _ _ _ _ q
  · refine ⟨_, hbody cdv A outer s H E hr hgd, ?_⟩
    obtain ⟨a, us, C, dx, Z, m, μ, ds, Q', Xd, rfl, g, hx, nz, M, r, q, kq, kx⟩ := h
    refine ⟨Z, m, startI N c a ds, μ, defI c a Q' Xd, .startI g hx nz M r, hw ds μ Q' Xd a q, fun σ' H' P => ?_, fun v H' P => ?_, fun σ' H' P => ?_, fun σ' H' P => ?_, fun cls d σ' H' P => ?_⟩
    · obtain ⟨m', ρ', μ', S', s', q'⟩ := P
      obtain ⟨ks, es, h0, q2⟩ := initEnd_of q'
      obtain ⟨_, _, hc⟩ := S'.own 0 a _ h0
      have z := s'.same
      rw [startI_ownW] at z
      have sub : ∀ b, addZ Z a b → ownW Z σ' ρ' b := fun b h => by
        rcases h with h | h
        · exact .inl h
        · subst h; exact .inr ⟨0, _, h0⟩
      have sm := vis_mono (m := m') (H := H') sub
      exact kq _ ⟨m', ks, es, μ', s'.pre, s'.hid, S'.mu.less sub, z.trans sm, hc.keep (List.prefix_refl _) sm rfl, q2⟩
    · obtain ⟨m', d, μ', h1, h2, h3, h4, h5, h6⟩ := P
      exact h6.elim
    · obtain ⟨m', ρ', μ', S', s', q'⟩ := P
      exact q'.elim
    · obtain ⟨m', ρ', μ', S', s', q'⟩ := P
      exact q'.elim
    · obtain ⟨m', c', ks, es, ρ', μ', C', dd, vs', S', s', e1, e2, e3, e4, e5, e6, q'⟩ := P
      have z := s'.same
      rw [startI_ownW] at z
      exact kx _ _ _ ⟨m', c', ks, es, μ', C', dd, vs', s'.pre, s'.hid, S'.mu.out_own, z.trans vis_own, e1, e2, e3, vis_own _ _ e4, e5, Reps.mono (List.prefix_refl _) vis_own _ _ e6, q'⟩
end
/-! made -/
section
variable {ex : Option (Addr × Addr × Addr)} {W : WX} {X : Cx} {e o : Expr} {es : List Expr} {wa wo : WE} {ws : WA} {pos p apos : Pos} {k : Nat} {f C : Addr} {fd : FuncData} {ps : List Str} {c : Str}
theorem run_makeG {sp : Sp} {pins : List (Addr × Obj)} {σ : L2.St} {H : Hp} {s : Shared} {Q : VK} {us : List Value} {vs : List V} (M : Mk X.K C f) (F : FnG X.prog X.w X.K X.mg X.base k f fd ps sp) (hr : Room (k + 1) X.A) (hgd : X.A.guards = some []) (hb : Binds X.K fd ps [])
    (tk : Takes X W) (I : Inv X pins σ H s) (r : Vals vs us)
    (h : ∀ x dx, H x = none → H dx = none → dx ≠ x → sp (.ref x :: vs) (upd (upd H dx (.own x)) x (.ins C dx [])) (fun v H2 => v = .non ∧ Q (.ref x) H2) (L2.WE W σ)) :
    wpAny (model X.prog X.w) X.A (call (.ref C) us) (EP X pins σ Q) X.xe s := by
  have hq := h (s.heap.objs.size + 1) s.heap.objs.size (I.hok.fresh (Nat.le_succ _)) (I.hok.fresh (Nat.le_refl _)) (Nat.ne_of_lt (Nat.lt_succ_self _))
  have I2 := Inv.made (C := C) I
  have r2 : Vals (V.ref (s.heap.objs.size + 1) :: vs) (Value.ref (s.heap.objs.size + 1) :: us) := .cons rfl r
  have hl : (Value.ref (s.heap.objs.size + 1) :: us).length = ps.length := r2.length.symm.trans (F.len _ _ _ _ hq)
  have bd := hb _ (Value.ref (s.heap.objs.size + 1) :: us) I2.kIn (by simpa using hl)
  rw [List.append_nil] at bd
  refine wpAny_call (make_map (f := f) I.kIn M.makes M.init (beq_iff_eq.mp M.fn) (codeAny_mono (F.run _ X.stack _ _ ⟨Value.ref (s.heap.objs.size + 1) :: us, []⟩ (Value.ref (s.heap.objs.size + 1) :: us) _ _ _ (hr.make C us []) hgd (I2.env0.make C us []) bd r2 hq) fun res s2 hres => ?_))
  match res, hres with
  | .error er, hres => exact passAt tk σ pins _ _ er s2 I2 hres
  | .ok (.ret u), hres =>
    obtain ⟨v, H', I3, rv, ev, q3⟩ := I2.after hres
    subst ev
    exact ⟨rv, ⟨V.ref (s.heap.objs.size + 1), H', I3, rfl, q3⟩⟩
/-- C(..): the made thing as a datum; as a cell -/
def wMake (c : Str) (sp : ISp) (wa : WA) : WE := fun ρ μ Q Xd => wa ρ μ (fun ds μ1 => sp ds μ1 (fun ks es μ2 => Q (.obj c ks es) μ2) Xd) Xd
def wMakeC (c : Str) (sp : ISp) (wa : WA) : WE := fun ρ μ Q Xd => wa ρ μ (fun ds μ1 => sp ds μ1 (fun ks es μ2 => Q (.loc μ2.length) (μ2 ++ [.ins c ks es])) Xd) Xd
theorem made_in {G : Gx} {Z : Addr → Prop} {m : List Addr} {μ : Mu} {H : Hp} (M : MuOk G Z m μ H) {x dx C : Addr} (nx : H x = none) (nd : H dx = none) (ne : dx ≠ x) :
    ¬ Z x ∧ MuOk G (addZ Z x) m μ (upd (upd H dx (.own x)) x (.ins C dx [])) ∧ Same (vis Z m H) (vis (addZ Z x) m (upd (upd H dx (.own x)) x (.ins C dx []))) ∧ ∀ z, Z z → upd (upd H dx (.own x)) x (.ins C dx []) z = H z := by
  have s1 := Step.laid (o := .own x) M nd
  have nx' : upd H dx (.own x) x = none := by rw [upd_ne (Ne.symm ne)]; exact nx
  obtain ⟨M2, sm⟩ := MuOk.hide (o := .ins C dx []) s1.mu nx'
  have nz : ¬ Z x := fun z => M.hw x z nx
  refine ⟨nz, M2, s1.same.trans sm, fun z hz => ?_⟩
  have hb : z ≠ x := fun q => nz (q ▸ hz)
  exact (upd_ne hb).trans (s1.hid z hz)
theorem lift_make {G : Gx} {sp : ISp} {b : Bool} (hm : G.mg c = some (.ref C)) {σ : L2.St} {H : Hp} {Q' : VK} (q : lift G W (if b = true then wMake c sp ws else wMakeC c sp ws) σ H Q') :
    liftA G W ws σ H fun vs H1 => ∀ x dx, H1 x = none → H1 dx = none → dx ≠ x → toSpI G c sp (.ref x :: vs) (upd (upd H1 dx (.own x)) x (.ins C dx [])) (fun v H2 => v = .non ∧ Q' (.ref x) H2) (L2.WE W σ) := by
  obtain ⟨Z, m, ρ, μ, Q, Xd, S, q, k, kx⟩ := q
  cases b with
  | true =>
    rw [if_pos rfl] at q
    refine ⟨Z, m, ρ, μ, _, Xd, S, q, fun vs H1 P x dx nx nd ne => ?_, kx⟩
    obtain ⟨m1, ds, μ1, s1, r1, q1⟩ := P
    obtain ⟨nz, M2, sm, hid⟩ := made_in (C := C) s1.mu nx nd ne
    refine ⟨x, vs, C, dx, _, m1, μ1, ds, _, Xd, rfl, hm, upd_same, nz, M2, Reps.mono (List.prefix_refl _) sm _ _ r1, q1, fun H' P => ⟨rfl, k _ _ (VPost.from s1 ?_)⟩, fun cls d H' P => kx cls d H' (XPost.from s1 ?_)⟩
    · obtain ⟨m', ks, es, μ', h1, h2, h3, h4, h5, h6⟩ := P
      have sub : ∀ b, ownW Z σ ρ b → addZ (ownW Z σ ρ) x b := fun b h => .inl h
      refine ⟨m', _, μ', ⟨h1, fun z hz => (h2 z hz).trans (hid z hz), h3.less sub, (sm.trans h4).trans (vis_mono sub)⟩, ?_, h6⟩
      exact cellD_rep h5 rfl (vis_mono sub) fun o ho => vis_some.mpr ⟨nz, fun q => h3.out x q (.inr rfl), ho⟩
    · obtain ⟨m', c', ks, es, μ', C', dd, vs', h1, h2, h3, h4, e1, e2, e3, e4, e5, e6, h6⟩ := P
      exact ⟨m', c', ks, es, μ', C', dd, vs', ⟨h1, fun z hz => (h2 z hz).trans (hid z hz), h3, sm.trans h4⟩, e1, e2, e3, e4, e5, e6, h6⟩
  | false =>
    rw [if_neg Bool.false_ne_true] at q
    refine ⟨Z, m, ρ, μ, _, Xd, S, q, fun vs H1 P x dx nx nd ne => ?_, kx⟩
    obtain ⟨m1, ds, μ1, s1, r1, q1⟩ := P
    obtain ⟨nz, M2, sm, hid⟩ := made_in (C := C) s1.mu nx nd ne
    refine ⟨x, vs, C, dx, _, m1, μ1, ds, _, Xd, rfl, hm, upd_same, nz, M2, Reps.mono (List.prefix_refl _) sm _ _ r1, q1, fun H' P => ⟨rfl, k _ _ (VPost.from s1 ?_)⟩, fun cls d H' P => kx cls d H' (XPost.from s1 ?_)⟩
    · obtain ⟨m', ks, es, μ', h1, h2, h3, h4, h5, h6⟩ := P
      have sub : ∀ b, ownW Z σ ρ b → addZ (ownW Z σ ρ) x b := fun b h => .inl h
      have sm2 : vis (ownW Z σ ρ) (m' ++ [x]) H' = vis (addZ (ownW Z σ ρ) x) m' H' := by
        funext b
        unfold vis addZ
        by_cases hb : (ownW Z σ ρ b ∨ b = x) ∨ b ∈ m'
        · rw [if_pos hb, if_pos]
          rcases hb with (h | h) | h
          · exact .inl h
          · exact .inr (by simp [h])
          · exact .inr (by simp [h])
        · rw [if_neg hb, if_neg]
          rintro (h | h)
          · exact hb (.inl (.inl h))
          · rcases List.mem_append.mp h with q | q
            · exact hb (.inr q)
            · exact hb (.inl (.inr (by simpa using q)))
      have nm : x ∉ m' := fun q => h3.out x q (.inr rfl)
      have pre : m' <+: m' ++ [x] := List.prefix_append _ _
      refine ⟨m' ++ [x], _, μ' ++ [.ins c ks es], ⟨h1.trans pre, fun z hz => (h2 z hz).trans (hid z hz), ⟨by simp [h3.len], ?_, fun a ha => ?_, fun z hz => h3.hw z (.inl hz), fun n d a hd ha => ?_⟩, by rw [sm2]; exact sm.trans h4⟩, ?_, h6⟩
      · rw [List.nodup_append]
        refine ⟨h3.nd, by simp, fun a ha b hb => ?_⟩
        rw [List.mem_singleton] at hb
        subst hb
        exact fun e => nm (e ▸ ha)
      · rcases List.mem_append.mp ha with q | q
        · exact fun z => h3.out a q (.inl z)
        · rw [List.mem_singleton] at q; subst q; exact nz
      · rw [sm2]
        by_cases hn : n < m'.length
        · rw [List.getElem?_append_left hn] at ha
          rw [List.getElem?_append_left (by rw [← h3.len]; exact hn)] at hd
          exact (h3.cell n d a hd ha).keep pre (Same.refl _) rfl
        · have hlt := (List.getElem?_eq_some_iff.mp ha).1
          have e : n = m'.length := by simp at hlt; omega
          subst e
          rw [List.getElem?_concat_length] at ha
          rw [h3.len, List.getElem?_concat_length] at hd
          cases ha
          cases hd
          exact h5.keep pre (Same.refl _) rfl
      · rw [Rep]
        exact ⟨x, rfl, by rw [← h3.len]; exact List.getElem?_concat_length⟩
    · obtain ⟨m', c', ks, es, μ', C', dd, vs', h1, h2, h3, h4, e1, e2, e3, e4, e5, e6, h6⟩ := P
      exact ⟨m', c', ks, es, μ', C', dd, vs', ⟨h1, fun z hz => (h2 z hz).trans (hid z hz), h3, sm.trans h4⟩, e1, e2, e3, e4, e5, e6, h6⟩
theorem de_makeB (b : Bool) {x : Str} {sp : ISp} (M : Mk X.K C f) (F : FnG X.prog X.w X.K X.mg X.base k f fd ps (toSpI (gx X ex) x sp)) (hr : Room (k + 1) X.A) (hgd : X.A.guards = some []) (hg : Gl X x) (hm : X.mg x = some (.ref C)) (hb : Binds X.K fd ps [])
    (tk : Takes X W) (ha : DA ex W X (e :: es) ws) (hdb : (x == ("__debug__" : Str)) = false := by decide)
    (he : starEach (e :: es) X.env = (false, eval e X.env) :: starEach es X.env := by rfl) (hpl : (backTo pos (starEach es X.env)).any (·.1) = false := by rfl) :
    DE ex W X (.Call (.Name x p) (e :: es) [] pos) (if b = true then wMake x sp ws else wMakeC x sp ws) := by
  refine ⟨fun pins s σ H Q I h => ?_⟩
  refine wpAny_Call_Name_kw (ld_glob I hg hm ?_ hdb)
  refine PySem.W.callWith_K (h₀ := X.base) I.ok.mod.kin M.kp (thn (ha.run pos pins s σ H _ I (lift_make (G := gx X ex) hm h)) fun us s1 ⟨vs, H1, I1, r, q⟩ => ⟨I1.kIn, ?_⟩) he hpl
  exact run_makeG M F hr hgd hb tk I1 r q
theorem de_make {x : Str} {sp : ISp} (M : Mk X.K C f) (F : FnG X.prog X.w X.K X.mg X.base k f fd ps (toSpI (gx X ex) x sp)) (hr : Room (k + 1) X.A) (hgd : X.A.guards = some []) (hg : Gl X x) (hm : X.mg x = some (.ref C)) (hb : Binds X.K fd ps [])
    (tk : Takes X W) (ha : DA ex W X (e :: es) ws) (hdb : (x == ("__debug__" : Str)) = false := by decide)
    (he : starEach (e :: es) X.env = (false, eval e X.env) :: starEach es X.env := by rfl) (hpl : (backTo pos (starEach es X.env)).any (·.1) = false := by rfl) :
    DE ex W X (.Call (.Name x p) (e :: es) [] pos) (wMake x sp ws) := de_makeB true M F hr hgd hg hm hb tk ha hdb he hpl
theorem de_makeC {x : Str} {sp : ISp} (M : Mk X.K C f) (F : FnG X.prog X.w X.K X.mg X.base k f fd ps (toSpI (gx X ex) x sp)) (hr : Room (k + 1) X.A) (hgd : X.A.guards = some []) (hg : Gl X x) (hm : X.mg x = some (.ref C)) (hb : Binds X.K fd ps [])
    (tk : Takes X W) (ha : DA ex W X (e :: es) ws) (hdb : (x == ("__debug__" : Str)) = false := by decide)
    (he : starEach (e :: es) X.env = (false, eval e X.env) :: starEach es X.env := by rfl) (hpl : (backTo pos (starEach es X.env)).any (·.1) = false := by rfl) :
    DE ex W X (.Call (.Name x p) (e :: es) [] pos) (wMakeC x sp ws) := de_makeB false M F hr hgd hg hm hb tk ha hdb he hpl
end
end DL

set_option Elab.async false
set_option linter.all false
set_option maxRecDepth 100000
set_option maxHeartbeats 4000000
set_option autoImplicit false
namespace DL
open PySem PySem.Spec PyProof.Rows L2
/-! ### methods -/
def hasCls (c m : Str) (d : D) (μ : Mu) (Q : Prop) : Prop := match insD d μ with
  | some (c', ks, _) => c' = c ∧ ks.contains m = false ∧ Q
  | none => False
theorem hasCls_of {c m : Str} {d : D} {μ : Mu} {Q : Prop} (h : hasCls c m d μ Q) : ∃ ks ds, insD d μ = some (c, ks, ds) ∧ ks.contains m = false ∧ Q := by
  unfold hasCls at h
  split at h
  · rename_i e
    obtain ⟨rfl, h⟩ := h
    exact ⟨_, _, e, h⟩
  · exact h.elim
theorem lookup_zip_none {α : Type} {m : Str} : ∀ {ks : List Str} {vs : List α}, ks.contains m = false → (ks.zip vs).lookup m = none
  | [], _, _ => by simp
  | _ :: _, [], _ => by simp
  | k :: ks, v :: vs, h => by
    rw [List.contains_cons, Bool.or_eq_false_iff] at h
    rw [List.zip_cons_cons, List.lookup_cons, h.1]
    exact lookup_zip_none h.2
/-- o.m(..) -/
def wMeth (c m : Str) (sp : DSp) (wo : WE) (wa : WA) : WE := fun ρ μ Q Xd => wo ρ μ (fun x μ1 => hasCls c m x μ1 (wa ρ μ1 (fun ds μ2 => sp (x :: ds) μ2 Q Xd) Xd)) Xd
section
variable {ex : Option (Addr × Addr × Addr)} {W : WX} {X : Cx} {e o : Expr} {es : List Expr} {wa wo : WE} {ws : WA} {pos p apos : Pos} {k : Nat} {f C : Addr} {fd : FuncData} {ps : List Str} {c m : Str} {sp : DSp}
def tMethG (K : PySem.W.Frag) (C : Addr) (m : Str) (sp : Sp) (W : WX) (to : TE) (ta : TA) : TE := fun σ H Q => to σ H fun x H1 => ∃ a dx fs, x = .ref a ∧ H1 a = some (.ins C dx fs) ∧ fs.lookup m = none ∧ ta σ H1 fun vs H2 => sp (.ref a :: vs) H2 Q (L2.WE W σ)
theorem pe_methG {sp : Sp} {to : TE} {ta : TA} {pl : Sem Bool} (he : PE X o to) (hc : Cls X.K C) (hm : Meth X.K C m f) (F : FnG X.prog X.w X.K X.mg X.base k f fd ps sp) (hr : Room k X.A) (hgd : X.A.guards = some []) (hb : Binds X.K fd ps []) (tk : Takes X W) (ha : PA X (e :: es) ta)
    (hst : starEach (e :: es) X.env = (false, eval e X.env) :: starEach es X.env) (hpl : (backTo pos (starEach es X.env)).any (·.1) = false)
    (ht : eval (.Call (.Attribute o m apos) (e :: es) [] pos) X.env = (do
      let ov ← eval o X.env
      standAt apos.atName
      let (f, first) ← holding [ov] (getMethod ov m pl)
      callWith pos f first (backTo pos (starEach (e :: es) X.env)) (backToKw pos (keywordEach [] X.env)))) :
    PE X (.Call (.Attribute o m apos) (e :: es) [] pos) (tMethG X.K C m sp W to ta) := by
  refine ⟨fun pins s σ H Q I h => ?_⟩
  refine PySem.W.methodCall_KW (pl := pl) (thn (he.run pins s σ H _ I h) fun u s1 hx => ?_) ht
  obtain ⟨x, H1, I1, rx, a, dx, fs, ex, ea, l, q⟩ := hx
  subst ex
  obtain rfl : u = Value.ref a := rx
  refine getmeth_ok I1 ea hc hm l ?_
  refine PySem.W.callWith_K (first := [.ref a]) (h₀ := X.base) I.ok.mod.kin hm.kp (thn (ha.run pos pins s1 σ H1 _ I1 q) fun us s2 hx => ?_) hst hpl
  obtain ⟨vs, H2, I2, r, q2⟩ := hx
  exact ⟨I2.kIn, run_fnG (us := .ref a :: us) (vs := .ref a :: vs) F hr hgd hb tk I2 (.cons rfl r) q2⟩
theorem pe_methG0 {sp : Sp} {to : TE} {pl : Sem Bool} (he : PE X o to) (hc : Cls X.K C) (hm : Meth X.K C m f) (F : FnG X.prog X.w X.K X.mg X.base k f fd ps sp) (hr : Room k X.A) (hgd : X.A.guards = some []) (hb : Binds X.K fd ps []) (tk : Takes X W)
    (ht : eval (.Call (.Attribute o m apos) [] [] pos) X.env = (do
      let ov ← eval o X.env
      standAt apos.atName
      let (f, first) ← holding [ov] (getMethod ov m pl)
      callWith pos f first (backTo pos (starEach [] X.env)) (backToKw pos (keywordEach [] X.env)))) :
    PE X (.Call (.Attribute o m apos) [] [] pos) (tMethG X.K C m sp W to tNil) := by
  refine ⟨fun pins s σ H Q I h => ?_⟩
  refine PySem.W.methodCall_KW (pl := pl) (thn (he.run pins s σ H _ I h) fun u s1 hx => ?_) ht
  obtain ⟨x, H1, I1, rx, a, dx, fs, ex, ea, l, q⟩ := hx
  subst ex
  obtain rfl : u = Value.ref a := rx
  refine getmeth_ok I1 ea hc hm l ?_
  exact PySem.W.callWith_K0 (first := [.ref a]) I1.kIn hm.kp (run_fnG (us := [.ref a]) (vs := [.ref a]) F hr hgd hb tk I1 (.cons rfl .nil) q)
theorem lift_meth {G : Gx} {C : Addr} (hmC : G.mg c = some (.ref C)) {σ : L2.St} {H : Hp} {Q' : VK} (q : lift G W (wMeth c m sp wo ws) σ H Q') : tMethG G.K C m (toSp G sp) W (lift G W wo) (liftA G W ws) σ H Q' := by
  obtain ⟨Z, m0, ρ, μ, Q, Xd, S, q, k, kx⟩ := q
  refine ⟨Z, m0, ρ, μ, _, Xd, S, q, fun v H1 P => ?_, kx⟩
  obtain ⟨m1, x, μ1, s1, r1, q1⟩ := P
  obtain ⟨ks, ds, hi, hks, q2⟩ := hasCls_of q1
  obtain ⟨a, C', dx, vs, rfl, g, ha, l, rs⟩ := ins_rep s1.mu r1 hi
  rw [hmC] at g
  cases g
  refine ⟨a, dx, _, rfl, ha, lookup_zip_none hks, Z, m1, ρ, μ1, _, Xd, S.step s1, q2, fun us H2 P => ?_, fun cls d H' P => kx cls d H' (XPost.from s1 P)⟩
  obtain ⟨m2, es, μ2, s2, r2, q3⟩ := P
  exact ⟨_, m2, μ2, x :: es, Q, Xd, s2.mu, Reps.cons (Rep.mono s2.pre s2.same _ _ r1) r2, q3, fun v H' P => k v H' (VPost.from (s1.trans s2) P), fun cls d H' P => kx cls d H' (XPost.from (s1.trans s2) P)⟩
theorem de_meth {pl : Sem Bool} (hmC : X.mg c = some (.ref C)) (hc : Cls X.K C) (hm : Meth X.K C m f) (F : FnG X.prog X.w X.K X.mg X.base k f fd ps (toSp (gx X ex) sp)) (hr : Room k X.A) (hgd : X.A.guards = some []) (hb : Binds X.K fd ps []) (tk : Takes X W) (he : DE ex W X o wo) (ha : DA ex W X (e :: es) ws)
    (hst : starEach (e :: es) X.env = (false, eval e X.env) :: starEach es X.env := by rfl) (hpl : (backTo pos (starEach es X.env)).any (·.1) = false := by rfl)
    (ht : eval (.Call (.Attribute o m apos) (e :: es) [] pos) X.env = (do
      let ov ← eval o X.env
      standAt apos.atName
      let (f, first) ← holding [ov] (getMethod ov m pl)
      callWith pos f first (backTo pos (starEach (e :: es) X.env)) (backToKw pos (keywordEach [] X.env))) := by rfl) :
    DE ex W X (.Call (.Attribute o m apos) (e :: es) [] pos) (wMeth c m sp wo ws) := pe_weak (pe_methG he hc hm F hr hgd hb tk ha hst hpl ht) fun _ _ _ q => lift_meth (G := gx X ex) hmC q
theorem de_meth0 {pl : Sem Bool} (hmC : X.mg c = some (.ref C)) (hc : Cls X.K C) (hm : Meth X.K C m f) (F : FnG X.prog X.w X.K X.mg X.base k f fd ps (toSp (gx X ex) sp)) (hr : Room k X.A) (hgd : X.A.guards = some []) (hb : Binds X.K fd ps []) (tk : Takes X W) (he : DE ex W X o wo)
    (ht : eval (.Call (.Attribute o m apos) [] [] pos) X.env = (do
      let ov ← eval o X.env
      standAt apos.atName
      let (f, first) ← holding [ov] (getMethod ov m pl)
      callWith pos f first (backTo pos (starEach [] X.env)) (backToKw pos (keywordEach [] X.env))) := by rfl) :
    DE ex W X (.Call (.Attribute o m apos) [] [] pos) (wMeth c m sp wo wNil) := pe_weak (pe_methG0 he hc hm F hr hgd hb tk ht) fun σ H Q' q => by
  obtain ⟨Z, m0, ρ, μ, Q, Xd, S, q, k, kx⟩ := q
  refine ⟨Z, m0, ρ, μ, _, Xd, S, q, fun v H1 P => ?_, kx⟩
  obtain ⟨m1, x, μ1, s1, r1, q1⟩ := P
  obtain ⟨ks, ds, hi, hks, q2⟩ := hasCls_of q1
  obtain ⟨a, C', dx, vs, rfl, g, ha, l, rs⟩ := ins_rep s1.mu r1 hi
  have g' : X.mg c = some (.ref C') := g
  rw [hmC] at g'
  cases g'
  exact ⟨a, dx, _, rfl, ha, lookup_zip_none hks, ⟨_, m1, μ1, [x], Q, Xd, s1.mu, Reps.cons r1 Reps.nil, q2, fun v H' P => k v H' (VPost.from s1 P), fun cls d H' P => kx cls d H' (XPost.from s1 P)⟩⟩
end
/-! ### own operators -/
/-- what of the text an operator of a class needs: the def; beside a value of a built-in type -/
structure OpFn (K : PySem.W.Frag) (C : Addr) (op : Operator) (f : Addr) : Prop where
  first : PySem.W.selfFirst K C = true
  at_ : PySem.W.findIn K (.ref C) (PySem.dunder op.info.2) = some (some (.ref f))
  fn : PySem.W.isFn K (.ref f) = true
  back : ∃ rc, PySem.W.findIn K (.ref C) (PySem.dunderR op.info.2) = some rc ∧ (rc = none ∨ ∃ g : Addr, rc = some (.ref g))
structure OpTy (K : PySem.W.Frag) (C : Addr) (op : Operator) (T : String) : Prop where
  fo : ∃ r, PySem.W.findIn K (.type T) (PySem.dunder op.info.2) = some r
  ro : ∃ r, PySem.W.findIn K (.type T) (PySem.dunderR op.info.2) = some r
  sub : PySem.W.subIn K (.type T) (.ref C) = some false

section
open PySem.W
variable {prog : Program} {w : World} {A : Around} {E : Value → Shared → Prop} {s : Shared} {K : Frag} {x C g : Addr} {ox : Obj} {od : Option Obj} {T : String}
end
/-- the other operand: of a built-in type that is listed, or of the class itself -/
def othTy (c : Str) (Ts : List String) (y : D) (μ : Mu) (Q : Prop) : Prop := match tyD y μ with
  | some (.b T) => T ∈ Ts ∧ Q
  | some (.c c') => c' = c ∧ Q
  | none => False
def isCls (c : Str) (d : D) (μ : Mu) (Q : Prop) : Prop := match insD d μ with
  | some (c', _, _) => c' = c ∧ Q
  | none => False
/-- x op y by x's own def -/
def wBinO (c : Str) (Ts : List String) (sp : DSp) (wa wb : WE) : WE := fun ρ μ Q Xd => wa ρ μ (fun x μ1 => wb ρ μ1 (fun y μ2 => isCls c x μ2 (othTy c Ts y μ2 (sp [x, y] μ2 Q Xd))) Xd) Xd
section
variable {ex : Option (Addr × Addr × Addr)} {W : WX} {X : Cx} {a b : Expr} {wa wb : WE} {pos : Pos} {k : Nat} {f C : Addr} {fd : FuncData} {ps : List Str} {c : Str} {sp : DSp} {Ts : List String}
end
end DL

set_option Elab.async false
set_option linter.all false
set_option maxRecDepth 100000
set_option maxHeartbeats 4000000
set_option autoImplicit false
namespace DL
open PySem PySem.Spec PyProof.Rows L2
/-! ### what can be called, by name -/
section
variable {P : Program} {w : World} {K : PySem.W.Frag} {mg : Str → Option Value} {base : Heap}
structure CallD (P : Program) (w : World) (K : PySem.W.Frag) (mg : Str → Option Value) (base : Heap) (k : Nat) (x : Str) (ps : List Str) (sp : DSp) : Prop where
  ex : ∃ f fd, mg x = some (.ref f) ∧ PySem.W.keepIn K (.ref f) = true ∧ Binds K fd ps [] ∧ FnG P w K mg base k f fd ps (toSp ⟨K, mg, none⟩ sp)
structure MethD (P : Program) (w : World) (K : PySem.W.Frag) (mg : Str → Option Value) (base : Heap) (k : Nat) (c m : Str) (ps : List Str) (sp : DSp) : Prop where
  ex : ∃ C f fd, mg c = some (.ref C) ∧ Cls K C ∧ Meth K C m f ∧ Binds K fd ps [] ∧ FnG P w K mg base k f fd ps (toSp ⟨K, mg, none⟩ sp)
structure MakeD (P : Program) (w : World) (K : PySem.W.Frag) (mg : Str → Option Value) (base : Heap) (k : Nat) (c : Str) (ps : List Str) (sp : ISp) : Prop where
  ex : ∃ C f fd, mg c = some (.ref C) ∧ Mk K C f ∧ Binds K fd ps [] ∧ FnG P w K mg base k f fd ps (toSpI ⟨K, mg, none⟩ c sp)
structure OperD (P : Program) (w : World) (K : PySem.W.Frag) (mg : Str → Option Value) (base : Heap) (k : Nat) (c : Str) (op : Operator) (Ts : List String) (ps : List Str) (sp : DSp) : Prop where
  ex : ∃ C f fd, mg c = some (.ref C) ∧ InsT K C ∧ OpFn K C op f ∧ (∀ T ∈ Ts, OpTy K C op T) ∧ Binds K fd ps [] ∧ FnG P w K mg base k f fd ps (toSp ⟨K, mg, none⟩ sp)
structure FldD (K : PySem.W.Frag) (mg : Str → Option Value) (c f : Str) : Prop where
  ex : ∃ C, mg c = some (.ref C) ∧ Cls K C ∧ NoAttr K C f
end
section
variable {W : WX} {X : Cx} {e o : Expr} {es : List Expr} {wa wo : WE} {ws : WA} {pos p apos : Pos} {k j : Nat} {ps : List Str} {x c m : Str} {sp : DSp}
theorem de_callD (C : CallD X.prog X.w X.K X.mg X.base k x ps sp) (hr : Room j X.A) (hkj : k ≤ j) (hgd : X.A.guards = some []) (hg : Gl X x) (tk : Takes X W) (ha : DA none W X (e :: es) ws) (hdb : (x == ("__debug__" : Str)) = false := by decide)
    (he : starEach (e :: es) X.env = (false, eval e X.env) :: starEach es X.env := by rfl) (hpl : (backTo pos (starEach es X.env)).any (·.1) = false := by rfl) : DE none W X (.Call (.Name x p) (e :: es) [] pos) (wCall sp ws) := by
  obtain ⟨f, fd, h1, h2, h3, F⟩ := C.ex
  exact de_call F (hr.mono hkj) hgd hg h1 h2 h3 tk ha hdb he hpl
theorem de_methD {pl : Sem Bool} (C : MethD X.prog X.w X.K X.mg X.base k c m ps sp) (hr : Room j X.A) (hkj : k ≤ j) (hgd : X.A.guards = some []) (tk : Takes X W) (he : DE none W X o wo) (ha : DA none W X (e :: es) ws)
    (hst : starEach (e :: es) X.env = (false, eval e X.env) :: starEach es X.env := by rfl) (hpl : (backTo pos (starEach es X.env)).any (·.1) = false := by rfl)
    (ht : eval (.Call (.Attribute o m apos) (e :: es) [] pos) X.env = (do
      let ov ← eval o X.env
      standAt apos.atName
      let (f, first) ← holding [ov] (getMethod ov m pl)
      callWith pos f first (backTo pos (starEach (e :: es) X.env)) (backToKw pos (keywordEach [] X.env))) := by rfl) : DE none W X (.Call (.Attribute o m apos) (e :: es) [] pos) (wMeth c m sp wo ws) := by
  obtain ⟨Ca, f, fd, h1, h2, h3, h4, F⟩ := C.ex
  exact de_meth h1 h2 h3 F (hr.mono hkj) hgd h4 tk he ha hst hpl ht
theorem de_methD0 {pl : Sem Bool} (C : MethD X.prog X.w X.K X.mg X.base k c m ps sp) (hr : Room j X.A) (hkj : k ≤ j) (hgd : X.A.guards = some []) (tk : Takes X W) (he : DE none W X o wo)
    (ht : eval (.Call (.Attribute o m apos) [] [] pos) X.env = (do
      let ov ← eval o X.env
      standAt apos.atName
      let (f, first) ← holding [ov] (getMethod ov m pl)
      callWith pos f first (backTo pos (starEach [] X.env)) (backToKw pos (keywordEach [] X.env))) := by rfl) : DE none W X (.Call (.Attribute o m apos) [] [] pos) (wMeth c m sp wo wNil) := by
  obtain ⟨Ca, f, fd, h1, h2, h3, h4, F⟩ := C.ex
  exact de_meth0 h1 h2 h3 F (hr.mono hkj) hgd h4 tk he ht
theorem de_makeD {isp : ISp} (C : MakeD X.prog X.w X.K X.mg X.base k x ps isp) (hr : Room j X.A) (hkj : k + 1 ≤ j) (hgd : X.A.guards = some []) (hg : Gl X x) (tk : Takes X W) (ha : DA none W X (e :: es) ws) (hdb : (x == ("__debug__" : Str)) = false := by decide)
    (he : starEach (e :: es) X.env = (false, eval e X.env) :: starEach es X.env := by rfl) (hpl : (backTo pos (starEach es X.env)).any (·.1) = false := by rfl) : DE none W X (.Call (.Name x p) (e :: es) [] pos) (wMake x isp ws) := by
  obtain ⟨Ca, f, fd, h1, h2, h3, F⟩ := C.ex
  exact de_make h2 F (hr.mono hkj) hgd hg h1 h3 tk ha hdb he hpl
theorem de_makeDC {isp : ISp} (C : MakeD X.prog X.w X.K X.mg X.base k x ps isp) (hr : Room j X.A) (hkj : k + 1 ≤ j) (hgd : X.A.guards = some []) (hg : Gl X x) (tk : Takes X W) (ha : DA none W X (e :: es) ws) (hdb : (x == ("__debug__" : Str)) = false := by decide)
    (he : starEach (e :: es) X.env = (false, eval e X.env) :: starEach es X.env := by rfl) (hpl : (backTo pos (starEach es X.env)).any (·.1) = false := by rfl) : DE none W X (.Call (.Name x p) (e :: es) [] pos) (wMakeC x isp ws) := by
  obtain ⟨Ca, f, fd, h1, h2, h3, F⟩ := C.ex
  exact de_makeC h2 F (hr.mono hkj) hgd hg h1 h3 tk ha hdb he hpl
theorem de_fldD {f : Str} (C : FldD X.K X.mg c f) (he : DE none W X e wa) (hb : attributeBase e f X.env (eval e X.env) = eval e X.env := by rfl) : DE none W X (.Attribute e f pos) (w1 (fFld c f) wa) := by
  obtain ⟨Ca, h1, h2, h3⟩ := C.ex
  exact de_fld h1 h2 h3 he hb
theorem ds_fldOD {i : Nat} {f : Str} {value : Expr} {p0 pos' : Pos} (C : FldD X.K X.mg c f) (hN : X.N[i]? = some x) (hv : DE none W X value wa) (hs : swapsWith value (some (.Attribute (.Name x p0) f pos')) pos.line X.env = pure false := by rfl)
    (hvis : Vis X.env.scope x := by first | exact Or.inl rfl | exact Or.inr (Or.inl rfl) | exact Or.inr (Or.inr rfl)) (hd : (x == ("__debug__" : Str)) = false := by decide) (hcd : (x == ("__classdict__" : Str)) = false := by decide) :
    DSt none W X (.Assign [.Attribute (.Name x p0) f pos'] value pos) (sFldO c i f wa) := by
  obtain ⟨Ca, h1, h2, h3⟩ := C.ex
  exact ds_fldO h1 h2 h3 hN hv hs hvis hd hcd
theorem room64 {A : Around} (h : Room k A) : A.units + 64 < cLine := by have := h.un; omega
theorem room65 {A : Around} (h : Room k A) : A.units + 65 < cLine := by have := h.un; omega
end
/-! ### one rule for several kinds -/
def F2.or (f g : F2) : F2 := fun x y μ Q => f x y μ Q ∨ g x y μ Q
theorem s2_or {G : Gx} {r r' : R2} {f g : F2} (h1 : S2 G r f) (h2 : S2 G r' g) : S2 G (fun x y H Q => r x y H Q ∨ r' x y H Q) (F2.or f g) := by
  intro Z m μ H x y u v Q Q' M rx ry h k
  rcases h with h | h
  · exact .inl (h1 Z m μ H x y u v Q Q' M rx ry h k)
  · exact .inr (h2 Z m μ H x y u v Q Q' M rx ry h k)
/-- + of ints or lists, * of ints or a list and an int -/
def fPlus : F2
  | .int i, .int j, μ, Q => Q (.int (i + j)) μ
  | .lst a, .lst b, μ, Q => a.length + b.length ≤ sizeLine ∧ Q (.lst (a ++ b)) μ
  | _, _, _, _ => False
def fTimes : F2
  | .int i, .int j, μ, Q => CM i j ∧ Q (.int (i * j)) μ
  | .lst a, .int n, μ, Q => -(2 ^ 63) ≤ n ∧ n < 2 ^ 63 ∧ a.length * n.toNat ≤ sizeLine ∧ Q (.lst (List.replicate n.toNat a).flatten) μ
  | _, _, _, _ => False
theorem S2.imp {G : Gx} {r : R2} {f g : F2} (h : S2 G r f) (k : ∀ x y μ Q, g x y μ Q → f x y μ Q) : S2 G r g := fun Z m μ H x y u v Q Q' M rx ry q kk => h Z m μ H x y u v Q Q' M rx ry (k _ _ _ _ q) kk
theorem s2_plus {G : Gx} : S2 G (fun x y H Q => rI0 (fun i j => .int (i + j)) x y H Q ∨ rCat x y H Q) fPlus := (s2_or s2_II0 s2_cat).imp fun x y μ Q h => by
  unfold fPlus at h
  split at h
  · exact .inl h
  · exact .inr h
  · exact h.elim
theorem s2_times {G : Gx} : S2 G (fun x y H Q => rI CM (fun i j => .int (i * j)) x y H Q ∨ rRep x y H Q) fTimes := (s2_or s2_II s2_rep).imp fun x y μ Q h => by
  unfold fTimes at h
  split at h
  · exact .inl h
  · exact .inr h
  · exact h.elim
section
variable {ex : Option (Addr × Addr × Addr)} {W : WX} {X : Cx} {a b : Expr} {wa wb : WE} {pos : Pos}
theorem de_plus (ha : DE ex W X a wa) (hb : DE ex W X b wb) : DE ex W X (.BinOp a .Add b pos) (w2 fPlus wa wb) := de_op (op_add.or op_cat) s2_plus ha hb
theorem de_times (ha : DE ex W X a wa) (hb : DE ex W X b wb) : DE ex W X (.BinOp a .Mult b pos) (w2 fTimes wa wb) := de_op (op_mulU.or op_rep) s2_times ha hb
end
/-! ### the end: the law's def at the script -/
theorem mu_none {G : Gx} {H : Hp} : MuOk G (fun _ => False) [] [] H := ⟨rfl, by simp, fun a h => by simp at h, fun z h => h.elim, fun n c a h _ => by simp at h⟩
theorem vis_none_all {H : Hp} : vis (fun _ => False) [] H = H := by
  funext b
  unfold vis
  rw [if_neg (by simp)]
theorem sp_start {K : PySem.W.Frag} {mg : Str → Option Value} {sp : DSp} {H : Hp} {a : Addr} {ns : List Int} (hS : SqL K H a (ns.map V.int)) (h : sp [.frl (ns.map D.int)] [] (fun d _ => d = .bl true) xF) :
    toSp ⟨K, mg, none⟩ sp [.ref a] H (fun v _ => v = .bl true) fun _ _ _ => False := by
  refine ⟨fun _ => False, [], [], _, _, _, mu_none, ?_, h, fun v H' P => ?_, fun cls d H' P => xpF P⟩
  · rw [vis_none_all]
    refine Reps.cons ?_ Reps.nil
    rw [Rep]
    exact ⟨a, _, rfl, hS, reps_ints ns⟩
  · obtain ⟨m', d, μ', s, r, rfl⟩ := P
    rw [Rep] at r
    exact r
theorem call_at {P : Program} {w : World} {K : PySem.W.Frag} {mg bm : Str → Option Value} {k : Nat} {fa sc : Addr} {fd : FuncData} {x : Str} {sp : Sp} {s1 : Shared} {vs : List Value} {ns : List Int}
    (kin : K.In s1.heap) (gl : s1.heap.Ns mainGlobals mg) (bl : s1.heap.Ns builtinsNs bm) (bb : ∀ y : Str, y ≠ "__name__" → bm y = bootBuiltins y) (nolim : s1.heap.NoLimit) (gens : s1.gens = #[])
    (at_ : s1.heap.get? sc = some { cls := .type "list", data := .seq vs.toArray }) (iv : IntsAre vs ns) (few : ns.length ≤ sizeLine) (room : Room k callerA)
    (F : ∀ base : Heap, K.In base → base.Ns mainGlobals mg → FnG P w K mg base k fa fd [x] sp) (bind : ∀ (s : Shared) (u : Value), BindsTo s fd ⟨[u], []⟩ [(x, u)])
    (holds : ∀ H : Hp, SqL K H sc (ns.map V.int) → sp [.ref sc] H (fun v _ => v = .bl true) fun _ _ _ => False) :
    codeAny (model P w) callerA (.call (.ref fa) ⟨[.ref sc], []⟩) (fun r s' => r = .ok (.ret (.bool true)) ∧ OldK s1.heap s'.heap ∧ s'.os = s1.os ∧ AllBare s'.gens) s1 := by
  have lenI := iv.length
  have main : ∀ H : Hp, (∀ b, H b = none ∨ ∃ o xs, H b = some (.frz o (.lst xs))) → SqL K H sc (ns.map V.int) → HOk P w H s1.heap → (∀ b, H b ≠ none → b = sc) → (H sc ≠ none → K.lookup sc = none) →
      codeAny (model P w) callerA (.call (.ref fa) ⟨[.ref sc], []⟩) (fun r s' => r = .ok (.ret (.bool true)) ∧ OldK s1.heap s'.heap ∧ s'.os = s1.os ∧ AllBare s'.gens) s1 := by
    intro H frz isL hok alone free
    have none_of : ∀ {b : Addr}, b ≠ sc → H b = none := fun {b} nb => by
      cases z : H b with
      | none => rfl
      | some u => exact absurd (alone b (by rw [z]; simp)) nb
    have seen : ∀ {b : Addr} {o : Obj}, s1.heap.get? b = some o → H b = none → (hidT s1.heap H).get? b = some o := fun e n => hidT_get e n
    have notSc : ∀ {b : Addr} {o : Obj} {es : Array DictEntry} {ep : Nat}, s1.heap.get? b = some o → o.data = .dict es ep → b ≠ sc := fun {b o es ep} e d z => by
      subst z
      rw [at_] at e
      cases e
      cases (show Data.seq vs.toArray _ = Data.dict es ep from d)
    have names : ∀ {b : Addr} {m : Str → Option Value}, s1.heap.Ns b m → (hidT s1.heap H).Ns b m := fun {b m} hn => by
      obtain ⟨o, es, ep, e, d, r⟩ := hn
      exact ⟨o, es, ep, seen e (none_of (notSc e d)), d, r⟩
    have inB : K.In (hidT s1.heap H) := fun b o e => seen (kin b o e) (by
      cases z : H b with
      | none => rfl
      | some u =>
        have eb := alone b (by rw [z]; simp)
        subst eb
        rw [free (by rw [z]; simp)] at e
        cases e)
    obtain ⟨lm, l1, l2⟩ := nolim
    have md : Mod K mg (hidT s1.heap H) := ⟨inB, names gl, ⟨bm, names bl, bb⟩, ⟨lm, names l1, l2⟩⟩
    have env : Env0 P w K mg (hidT s1.heap H) callerA [] s1 H := ⟨rfl, md, fun b o e => of_hidT e, Nat.le_of_eq (hidT_size _ _), trivial, fun b hb => by simp [frs] at hb, hok, .of_eq gens⟩
    refine codeAny_mono ((F _ inB (names gl)).run callerA [] s1 H ⟨[.ref sc], []⟩ [.ref sc] [.ref sc] _ _ room rfl env (bind s1 (.ref sc)) (.cons rfl .nil) (holds H isL)) fun res s2 out => ?_
    match res, out with
    | .error er, out =>
      obtain ⟨_, _, _, _, _, _, _, _, _, _, _, _, z⟩ := out
      exact z.elim
    | .ok (.ret u), out =>
      obtain ⟨v, H', os, bare, un, hok', rv, ev⟩ := out
      have ev' : v = .bl true := ev
      subst ev'
      obtain rfl : u = Value.bool true := rv
      refine ⟨rfl, OldK.of_keep fun b o e => ?_, os, bare⟩
      rcases frz b with z | ⟨ob, xs, z⟩
      · exact un.keep b o e z (by simp [frs]) (by simp)
      · obtain ⟨e1, _⟩ := hok b _ z
        obtain ⟨e2, _⟩ := hok' b _ (un.frzs b ob _ z)
        rw [e] at e1
        cases e1
        exact e2
  cases hk : K.lookup sc with
  | some o =>
    have e := kin sc o hk
    rw [at_] at e
    cases e
    have isL : SqL K (fun _ => none) sc (ns.map V.int) := .inr ⟨_, vs.toArray, _, hk, rfl, rfl, rfl, by rw [List.size_toArray, lenI]; exact few, by simpa using vals_ints iv⟩
    exact main (fun _ => none) (fun _ => .inl rfl) isL (fun b u z => nomatch z) (fun b z => absurd rfl z) (fun z => absurd rfl z)
  | none =>
    obtain ⟨HH, eq1, eq2⟩ : ∃ HH : Hp, (∀ b, b = sc → HH b = some (.frz { cls := .type "list", data := .seq vs.toArray } (.lst (ns.map V.int)))) ∧ ∀ b, b ≠ sc → HH b = none :=
      ⟨fun b => if b = sc then some (.frz { cls := .type "list", data := .seq vs.toArray } (.lst (ns.map V.int))) else none, fun b hb => if_pos hb, fun b hb => if_neg hb⟩
    refine main HH (fun b => ?_) (.inl (.inr ⟨_, eq1 sc rfl⟩)) (fun b u z => ?_) (fun b z => ?_) fun _ => hk
    · by_cases hb : b = sc
      · exact .inr ⟨_, _, eq1 b hb⟩
      · exact .inl (eq2 b hb)
    · by_cases hb : b = sc
      · rw [eq1 b hb] at z
        cases z
        subst hb
        exact ⟨at_, by rw [List.length_map]; exact few, vs, _, vals_ints iv, at_⟩
      · rw [eq2 b hb] at z
        cases z
    · by_cases hb : b = sc
      · exact hb
      · exact absurd (eq2 b hb) z
/-- the goal that the head leaves, from the promise of the law's def -/
theorem walk_ofD {l : PySem.W.OpenLaw} {n k : Nat} {q : Program} {loose : List Str} {XP : (Str → Option Value) → Heap → Prop} {YP : World → Heap → Prop} {d : DefRec} {x : Str} {sp : DSp}
    (most : l.most = some n) (small : n ≤ sizeLine) (nodef : d.params.defaults = []) (room : Room k callerA)
    (F : ∀ (w : World) (mg : Str → Option Value) (fa : Addr) (h : Heap), YP w h → h.Ns mainGlobals mg → mg d.name = some (.ref fa) →
      ∃ (K : PySem.W.Frag) (fd : FuncData), K.In h ∧ (∀ (s : Shared) (u : Value), BindsTo s fd ⟨[u], []⟩ [(x, u)]) ∧ ∀ base : Heap, K.In base → base.Ns mainGlobals mg → FnG l.prog w K mg base k fa fd [x] (toSp ⟨K, mg, none⟩ sp))
    (holds : ∀ ns : List Int, ns.length ≤ n → sp [.frl (ns.map D.int)] [] (fun d _ => d = .bl true) xF) : PySem.W.WalkO q loose XP YP l.row.toRowW d [] (fun f vs => PySem.call f vs) := by
  refine Att.attach_call most nodef fun w s0 s1 mg bm fa o pm cd doc a vs ns G Y ho hd hcd hmg hobj hints hlen hgens => ?_
  obtain ⟨K, fd, kin, bind, hF⟩ := F w mg fa _ Y G.T.g hmg
  exact call_at kin G.T.g G.T.b G.T.builtins G.T.nolimit hgens hobj hints (Nat.le_trans hlen small) room hF bind fun H hS => sp_start hS (holds ns hlen)
end DL

set_option Elab.async false
set_option linter.all false
set_option maxRecDepth 100000
set_option maxHeartbeats 4000000
set_option autoImplicit false
namespace DL
open PySem PySem.Spec PyProof.Rows L2
/-! ### isinstance by a table -/
abbrev IsiL := List ((TyN × TyN) × Bool)
def isiF (L : IsiL) (t u : TyN) : Option Bool := (L.find? fun e => decide (e.1 = (t, u))).map (·.2)
def tvK (K : PySem.W.Frag) : TyN → Value
  | .b n => .type n
  | .c c => .ref (He.ga K c)
def insB (K : PySem.W.Frag) (c : Str) : Bool := (He.Fa.cls c).ok K && (He.eqO (PySem.W.findIn K (.ref (He.ga K c)) "__class__") (some (some (.builtin "object.__class__"))) && (He.eqO (PySem.W.specialIn K (.builtin "object.__class__") "__get__") (some (some (.builtin "getset_descriptor.__get__"))) &&
  (decide (PySem.W.takesIn K (.builtin "object.__class__") = some true) && decide (PySem.W.mroIn K (He.ga K c) (.type "object") = some true))))
theorem insB_ok {K : PySem.W.Frag} {c : Str} (h : insB K c = true) : InsT K (He.ga K c) := by
  obtain ⟨h1, h⟩ := He.ba h
  obtain ⟨h2, h⟩ := He.ba h
  obtain ⟨h3, h⟩ := He.ba h
  obtain ⟨h4, h5⟩ := He.ba h
  exact ⟨He.cls_ok h1, He.eqO_ok h2, He.eqO_ok h3, of_decide_eq_true h4, of_decide_eq_true h5⟩
def tyB (K : PySem.W.Frag) : TyN → Bool
  | .b _ => true
  | .c c => (He.Fa.glo c).ok K && insB K c
def clB (K : PySem.W.Frag) : TyN → Bool
  | .b _ => true
  | .c c => (He.Fa.glo c).ok K
def isiB (L : IsiL) (K : PySem.W.Frag) : Bool := L.all fun e => tyB K e.1.1 && (clB K e.1.2 && decide (PySem.W.kitOne K (tvK K e.1.1) (tvK K e.1.2) = some e.2))
section
variable {K : PySem.W.Frag} {h : Heap} {mg : Str → Option Value} (X : K.In h) (G : h.Ns mainGlobals mg)
include X G
theorem tv_of {t : TyN} {v : Value} {ex : Option (Addr × Addr × Addr)} (c : clB K t = true) (hv : TyVal ⟨K, mg, ex⟩ t v) : v = tvK K t := by
  cases t with
  | b n => exact hv
  | c c0 =>
    obtain ⟨C, h1, rfl⟩ := hv
    have h1' : mg c0 = some (.ref C) := h1
    rw [He.glo_ok X G c] at h1'
    cases h1'
    rfl
theorem isiTab_of {L : IsiL} {ex : Option (Addr × Addr × Addr)} (c : isiB L K = true) : IsiTab ⟨K, mg, ex⟩ (isiF L) := by
  have get : ∀ {t u b}, isiF L t u = some b → tyB K t = true ∧ clB K u = true ∧ PySem.W.kitOne K (tvK K t) (tvK K u) = some b := fun {t u b} e => by
    unfold isiF at e
    obtain ⟨z, e1, e2⟩ := Option.map_eq_some_iff.mp e
    have m := List.mem_of_find?_eq_some e1
    have p : z.1 = (t, u) := by
      have q := List.find?_some e1
      exact of_decide_eq_true q
    obtain ⟨zz, bb⟩ := z
    cases p
    cases e2
    have q := List.all_eq_true.mp c _ m
    obtain ⟨q1, q⟩ := He.ba q
    obtain ⟨q2, q3⟩ := He.ba q
    exact ⟨q1, q2, of_decide_eq_true q3⟩
  have lo : ∀ {t}, tyB K t = true → clB K t = true := fun {t} e => by
    cases t with
    | b n => rfl
    | c c0 => exact (He.ba e).1
  refine ⟨fun t u b e tv uv ht hu => ?_, fun c0 u b e C g => ?_⟩
  · obtain ⟨q1, q2, q3⟩ := get e
    rw [tv_of X G (lo q1) ht, tv_of X G q2 hu]
    exact q3
  · obtain ⟨q1, _, _⟩ := get e
    obtain ⟨q2, q4⟩ := He.ba q1
    have g' : mg c0 = some (.ref C) := g
    rw [He.glo_ok X G q2] at g'
    cases g'
    exact insB_ok q4
end
/-! ### own operators -/
/-! ### names, compared -/
theorem str_iff (a b : String) : Str.ofString a = Str.ofString b ↔ a = b := by
  constructor
  · intro h
    rw [Str.ofString_eq_toList, Str.ofString_eq_toList] at h
    have h1 := congrArg (fun z : Str => z.cps.toList) h
    have h2 : a.toList.map Char.toNat = b.toList.map Char.toNat := by simpa using h1
    have inj : ∀ {l k : List Char}, l.map Char.toNat = k.map Char.toNat → l = k := by
      intro l
      induction l with
      | nil => intro k e; cases k with
        | nil => rfl
        | cons c k => cases e
      | cons c l ih => intro k e; cases k with
        | nil => cases e
        | cons d k =>
          rw [List.map_cons, List.map_cons] at e
          injection e with e1 e2
          have : c = d := Char.ext (UInt32.toNat.inj e1)
          rw [this, ih e2]
    exact String.toList_inj.mp (inj h2)
  · intro h; rw [h]
theorem str_eq (a b : String) : (Str.ofString a = Str.ofString b) = (a = b) := propext (str_iff a b)
theorem str_beq (a b : String) : (Str.ofString a == Str.ofString b) = decide (a = b) := by
  by_cases h : a = b
  · subst h; simp
  · rw [decide_eq_false h]
    exact beq_eq_false_iff_ne.mpr fun e => h ((str_iff a b).mp e)
/-! ### boot -/
theorem bt_int : bootBuiltins "int" = some (.type "int") := by decide +kernel
theorem bt_bool : bootBuiltins "bool" = some (.type "bool") := by decide +kernel
theorem bt_str : bootBuiltins "str" = some (.type "str") := by decide +kernel
theorem bt_tuple : bootBuiltins "tuple" = some (.type "tuple") := by decide +kernel
theorem bt_list : bootBuiltins "list" = some (.type "list") := by decide +kernel
theorem bt_len : bootBuiltins "len" = some (.builtin "len") := by decide +kernel
theorem bt_max : bootBuiltins "max" = some (.builtin "max") := by decide +kernel
theorem bt_min : bootBuiltins "min" = some (.builtin "min") := by decide +kernel
theorem bt_isinstance : bootBuiltins "isinstance" = some (.builtin "isinstance") := by decide +kernel
theorem bt_repr : bootBuiltins "repr" = some (.builtin "repr") := by decide +kernel
theorem bt_all : bootBuiltins "all" = some (.builtin "all") := by decide +kernel
end DL

set_option Elab.async false
set_option linter.all false
set_option maxRecDepth 100000
set_option maxHeartbeats 4000000
set_option autoImplicit false
namespace DL
open PySem PySem.Spec PyProof.Rows L2
/-! ### exceptions of the text: raised -/
structure RaiseD (P : Program) (w : World) (K : PySem.W.Frag) (mg : Str → Option Value) (base : Heap) (k : Nat) (c : Str) (ks : List Str) : Prop where
  ex : ∃ C fI fd ps sp, mg c = some (.ref C) ∧ OexC K C ∧ PySem.W.findIn K (.ref C) "__init__" = some (some (.ref fI)) ∧ PySem.W.typeIn K (.ref fI) = some (.type "function") ∧ Binds K fd ps [] ∧ FnOk P w K mg base CX0 k fI fd ps sp ∧
    ∀ a ws H Q E, ws.length = ks.length → H a = some (exo a C none) → (∀ d H2, H d = none → d ≠ a → H2 a = some (exo a C (some d)) → H2 d = some (exd d (ks.zip ws).reverse) → (∀ b, b ≠ a → b ≠ d → H2 b = H b) → Q .non H2) → sp (.ref a :: ws) H Q E
def sRaise (c : Str) (ks : List Str) (wa : WA) : WS := fun E ρ μ => wa ρ μ (fun ds μ1 => ds.length ≤ 1000 ∧ ds.length = ks.length ∧ E.xc c ks.reverse ds.reverse ρ μ1) fun c ks es μ' => E.xc c ks es ρ μ'
theorem zip_reverse {α β : Type} : ∀ (xs : List α) (ys : List β), xs.length = ys.length → (xs.zip ys).reverse = xs.reverse.zip ys.reverse := by
  intro xs ys h
  rw [List.zip_eq_zipWith, List.zip_eq_zipWith]
  exact List.reverse_zipWith h
section
variable {W : WX} {X : Cx} {e : Expr} {es : List Expr} {ws : WA} {p pos pos' : Pos} {k j : Nat} {c : Str} {ks : List Str}
theorem ds_raiseD (R : RaiseD X.prog X.w X.K X.mg X.base k c ks) (hc : X.calm = true) (hr : Room j X.A) (hkj : k + 1 ≤ j) (hg : Gl X c) (tk : Takes X W) (ha : DA none W X (e :: es) ws) (hdb : (c == ("__debug__" : Str)) = false := by decide)
    (he : starEach (e :: es) X.env = (false, eval e X.env) :: starEach es X.env := by rfl) (hpl : (backTo pos (starEach es X.env)).any (·.1) = false := by rfl) :
    DSt none W X (.Raise (some (.Call (.Name c p) (e :: es) [] pos)) none pos') (sRaise c ks ws) := by
  obtain ⟨C, fI, fd, ps, sp, hm, T, hi, hf, hb, F, hsp⟩ := R.ex
  have mk := pmk_oex (ta := liftA (gx X none) W ws) (p := p) (pos := pos) T hi hf F (hr.mono hkj) hb .nil pass0 hg hm ha hdb he hpl
  refine ps_weak (ps_raise hc tk mk) fun De σ H q => ?_
  obtain ⟨Z, m, ρ, μ, E, S, q, kn, kr, kb, kc, kx⟩ := q
  refine ⟨Z, m, ρ, μ, _, _, S, q, fun vs H1 P => ?_, fun cls d H' P => kx cls d σ H' (XSPost.of S P)⟩
  obtain ⟨m1, ds, μ1, s1, r1, hl, hn, q1⟩ := P
  refine ⟨by rw [← r1.len]; exact hl, fun a na => ?_⟩
  rw [List.append_nil]
  have lv : vs.length = ks.length := by rw [← r1.len]; exact hn
  refine hsp a vs _ _ _ lv upd_same fun d H2 nd ne ha2 hd2 hold => ⟨rfl, d, _, ha2, hd2, ?_, ?_⟩
  · rw [upd_ne ne] at nd; exact nd
  · rw [upd_ne ne] at nd
    have same : upd (del H2 a) d (.xd (ks.zip vs).reverse) = upd H1 d (.xd (ks.zip vs).reverse) := by
      funext b
      by_cases hb : b = d
      · subst hb; rw [upd_same, upd_same]
      · rw [upd_ne hb, upd_ne hb]
        by_cases hba : b = a
        · subst hba; rw [del_same, na]
        · rw [del_ne hba, hold b hba hb, upd_ne hba]
    rw [same]
    have s2 := Step.laid (o := .xd (ks.zip vs).reverse) s1.mu nd
    have s12 := s1.trans s2
    refine kx _ _ σ _ (XSPost.from (SStep.of s12) ?_)
    refine ⟨m1, c, ks.reverse, ds.reverse, ρ, μ1, C, d, vs.reverse, S.step s12, .refl, rfl, rfl, hm, ?_, by rw [List.length_reverse, List.length_reverse]; exact hn.symm, ?_, q1⟩
    · rw [vis_upd s1.mu nd, upd_same, zip_reverse ks vs lv.symm]
    · exact Reps.reverse (Reps.mono s2.pre s2.same _ _ r1)
end
/-! the __init__ of an exception: one attribute, two -/
theorem raise1 {P : Program} {w : World} {K : PySem.W.Frag} {mg : Str → Option Value} {base : Heap} {c f x y qual : Str} {params : Arguments} {scope : Scope} {C fI : Addr} {fd : FuncData} {body : List Stmt}
    (hm : mg c = some (.ref C)) (T : OexC K C) (hno : PySem.W.findIn K (.ref C) f = some none) (hi : PySem.W.findIn K (.ref C) "__init__" = some (some (.ref fI))) (hf : PySem.W.typeIn K (.ref fI) = some (.type "function"))
    (F : FunD K "__init__" qual params body scope [] [] fI fd) (S : FnScope [x, y] [x, y] scope) (hb : Binds K fd [x, y] [])
    (hd : ∀ (cdv : Value) (A : Around) (fr : List Env) (s : Shared) (H : Hp) (E : XK), PSs (cxOf CX0 P w K mg base [x, y] qual scope fI cdv A fr s H E) body (tOst K f (tVar 0) (tVar 1))) : RaiseD P w K mg base 1 c [f] := by
  refine ⟨C, fI, fd, [x, y], fun vs H Q E => ∃ a v, vs = [.ref a, v] ∧ H a = some (exo a C none) ∧ ∀ dx, H dx = none → dx ≠ a → Q .non (upd (upd H dx (exd dx [(f, v)])) a (exo a C (some dx))), hm, T, hi, hf, hb, ?_, ?_⟩
  · refine F.ok S (fun vs H Q E h => ?_) (fun cdv A fr s H vs Q E hr h => ⟨tOst K f (tVar 0) (tVar 1), ?_, ?_⟩)
    · obtain ⟨a, v, rfl, _⟩ := h
      rfl
    · exact hd _ _ _ _ _ _
    · obtain ⟨a, v, rfl, ea, hq⟩ := h
      refine ⟨v, rfl, .ref a, rfl, a, C, rfl, T, hno, .inl ⟨ea, hq⟩⟩
  · intro a ws H Q E hl ea h
    match ws, hl with
    | [v], _ =>
      refine ⟨a, v, rfl, ea, fun dx nd ne => h dx _ nd ne upd_same ?_ fun b hba hbd => ?_⟩
      · rw [upd_ne ne, upd_same]; rfl
      · rw [upd_ne hba, upd_ne hbd]
theorem raise2 {P : Program} {w : World} {K : PySem.W.Frag} {mg : Str → Option Value} {base : Heap} {c f g x y z qual : Str} {params : Arguments} {scope : Scope} {C fI : Addr} {fd : FuncData} {body : List Stmt}
    (hm : mg c = some (.ref C)) (T : OexC K C) (hno : PySem.W.findIn K (.ref C) f = some none) (hno2 : PySem.W.findIn K (.ref C) g = some none) (hi : PySem.W.findIn K (.ref C) "__init__" = some (some (.ref fI))) (hf : PySem.W.typeIn K (.ref fI) = some (.type "function"))
    (F : FunD K "__init__" qual params body scope [] [] fI fd) (S : FnScope [x, y, z] [x, y, z] scope) (hb : Binds K fd [x, y, z] [])
    (hd : ∀ (cdv : Value) (A : Around) (fr : List Env) (s : Shared) (H : Hp) (E : XK), PSs (cxOf CX0 P w K mg base [x, y, z] qual scope fI cdv A fr s H E) body (tSeq (tOst K f (tVar 0) (tVar 1)) (tOst K g (tVar 0) (tVar 2)))) : RaiseD P w K mg base 1 c [f, g] := by
  refine ⟨C, fI, fd, [x, y, z], fun vs H Q E => ∃ a v u, vs = [.ref a, v, u] ∧ H a = some (exo a C none) ∧ ∀ dx, H dx = none → dx ≠ a → Q .non (upd (upd (upd H dx (exd dx [(f, v)])) a (exo a C (some dx))) dx (exd dx [(g, u), (f, v)])), hm, T, hi, hf, hb, ?_, ?_⟩
  · refine F.ok S (fun vs H Q E h => ?_) (fun cdv A fr s H vs Q E hr h => ⟨tSeq (tOst K f (tVar 0) (tVar 1)) (tOst K g (tVar 0) (tVar 2)), ?_, ?_⟩)
    · obtain ⟨a, v, u, rfl, _⟩ := h
      rfl
    · exact hd _ _ _ _ _ _
    · obtain ⟨a, v, u, rfl, ea, hq⟩ := h
      refine ⟨v, rfl, .ref a, rfl, a, C, rfl, T, hno, .inl ⟨ea, fun dx nd ne => ?_⟩⟩
      refine ⟨u, rfl, .ref a, rfl, a, C, rfl, T, hno2, .inr ⟨dx, [(f, v)], upd_same, by rw [upd_ne ne, upd_same], by simp, hq dx nd ne⟩⟩
  · intro a ws H Q E hl ea h
    match ws, hl with
    | [v, u], _ =>
      refine ⟨a, v, u, rfl, ea, fun dx nd ne => h dx _ nd ne ?_ ?_ fun b hba hbd => ?_⟩
      · rw [upd_ne (Ne.symm ne), upd_same]
      · rw [upd_same]; rfl
      · rw [upd_ne hbd, upd_ne hba, upd_ne hbd]
end DL

set_option Elab.async false
set_option linter.all false
set_option maxRecDepth 100000
set_option maxHeartbeats 4000000
set_option autoImplicit false
namespace DL
open PySem PySem.Spec PyProof.Rows L2
/-! ### what does not hang on the caught exception -/
mutual
theorem Rep.ex {K : PySem.W.Frag} {mg : Str → Option Value} {e1 e2 : Option (Addr × Addr × Addr)} {m : List Addr} {E : Hp} : ∀ (d : D) (v : V), Rep ⟨K, mg, e1⟩ m E d v → Rep ⟨K, mg, e2⟩ m E d v
  | .non, v, r => by rw [Rep] at r ⊢; exact r
  | .bl b, v, r => by rw [Rep] at r ⊢; exact r
  | .int i, v, r => by rw [Rep] at r ⊢; exact r
  | .str s, v, r => by rw [Rep] at r ⊢; exact r
  | .ty n, v, r => by rw [Rep] at r ⊢; exact r
  | .cls c, v, r => by rw [Rep] at r ⊢; exact r
  | .tup ds, v, r => by
    rw [Rep] at r ⊢
    obtain ⟨a, vs, e, s, q⟩ := r
    exact ⟨a, vs, e, s, Reps.ex ds vs q⟩
  | .lst ds, v, r => by
    rw [Rep] at r ⊢
    obtain ⟨a, vs, e, s, q⟩ := r
    exact ⟨a, vs, e, s, Reps.ex ds vs q⟩
  | .frl ds, v, r => by
    rw [Rep] at r ⊢
    obtain ⟨a, vs, e, s, q⟩ := r
    exact ⟨a, vs, e, s, Reps.ex ds vs q⟩
  | .obj c ks ds, v, r => by
    rw [Rep] at r ⊢
    obtain ⟨a, C, dx, vs, e, g, s, l, q⟩ := r
    exact ⟨a, C, dx, vs, e, g, s, l, Reps.ex ds vs q⟩
  | .loc n, v, r => by rw [Rep] at r ⊢; exact r
  | .opq o, v, r => by rw [Rep] at r ⊢; exact r
theorem Reps.ex {K : PySem.W.Frag} {mg : Str → Option Value} {e1 e2 : Option (Addr × Addr × Addr)} {m : List Addr} {E : Hp} : ∀ (ds : List D) (vs : List V), Reps ⟨K, mg, e1⟩ m E ds vs → Reps ⟨K, mg, e2⟩ m E ds vs
  | [], vs, r => by rw [Reps] at r ⊢; exact r
  | d :: ds, vs, r => by
    rw [Reps] at r ⊢
    obtain ⟨v, t, e, s, q⟩ := r
    exact ⟨v, t, e, Rep.ex d v s, Reps.ex ds t q⟩
end
section
variable {K : PySem.W.Frag} {mg : Str → Option Value} {e1 e2 : Option (Addr × Addr × Addr)} {Z : Addr → Prop} {m : List Addr} {μ : Mu} {H E : Hp} {σ : L2.St} {ρ : DS}
theorem CellOk.ex {c : Cell} {a : Addr} (h : CellOk ⟨K, mg, e1⟩ m E H c a) : CellOk ⟨K, mg, e2⟩ m E H c a := by
  cases c with
  | lst ds =>
    obtain ⟨vs, h1, h2⟩ := h
    exact ⟨vs, h1, Reps.ex _ _ h2⟩
  | ins c ks ds =>
    obtain ⟨C, dx, vs, h0, h1, hl, h2⟩ := h
    exact ⟨C, dx, vs, h0, h1, hl, Reps.ex _ _ h2⟩
  | pool => exact h
  | dct kvs => exact h
  | dic ks ds =>
    obtain ⟨vs, h1, hl, h2⟩ := h
    exact ⟨vs, h1, hl, Reps.ex _ _ h2⟩
theorem MuOk.ex (M : MuOk ⟨K, mg, e1⟩ Z m μ H) : MuOk ⟨K, mg, e2⟩ Z m μ H := ⟨M.len, M.nd, M.out, M.hw, fun n c a h1 h2 => (M.cell n c a h1 h2).ex⟩
/-- no slot holds an exception -/
def noExn (ρ : DS) : Bool := ρ.all fun s => match s with
  | .exn _ _ _ => false
  | _ => true
theorem noExn_get (h : noExn ρ = true) {i : Nat} {c : Str} {ks : List Str} {ds : List D} : ρ[i]? ≠ some (.exn c ks ds) := fun e => by
  have := List.all_eq_true.mp h _ (List.mem_of_getElem? e)
  cases this
theorem SR.ex (S : SR ⟨K, mg, e1⟩ Z m σ H ρ μ) (hx : ∀ (i : Nat) c ks ds, ρ[i]? ≠ some (Sl.exn c ks ds)) : SR ⟨K, mg, e2⟩ Z m σ H ρ μ := by
  refine ⟨S.len, S.mu.ex, fun i d e => ?_, fun i a c e => ?_, S.dis, fun i c ks ds e => absurd e (hx i c ks ds)⟩
  · obtain ⟨v, h1, h2⟩ := S.val i d e
    exact ⟨v, h1, Rep.ex _ _ h2⟩
  · obtain ⟨h1, h2, h3⟩ := S.own i a c e
    exact ⟨h1, h2, h3.ex⟩
theorem SR.none_exn (S : SR ⟨K, mg, none⟩ Z m σ H ρ μ) {i : Nat} {c : Str} {ks : List Str} {ds : List D} : ρ[i]? ≠ some (.exn c ks ds) := fun e => by
  obtain ⟨_, _, _, _, h, _⟩ := S.exn i c ks ds e
  cases h
/-- a slot is set to what is no thing of its own: anything -/
theorem own_drop {i : Nat} {x : Sl} {σ' : L2.St} (hx : ∀ a c, x ≠ .own a c) {b : Addr} (h : ownW Z σ' (ρ.set i x) b) : ownW Z σ ρ b := by
  rcases h with h | ⟨j, e, h1⟩
  · exact .inl h
  · by_cases hj : i = j
    · subst hj
      rw [List.getElem?_set] at h1
      simp at h1
      exact absurd h1.2 (hx b e)
    · rw [List.getElem?_set_ne hj] at h1; exact .inr ⟨j, e, h1⟩
theorem SR.setX {G : Gx} (S : SR G Z m σ H ρ μ) {i : Nat} {x : Sl} {o : Option V} (hx : ∀ a c, x ≠ .own a c) (hv : ∀ d, x ≠ .v d) (he : ∀ c ks ds, x = .exn c ks ds → ExOk G m (vis (ownW Z σ ρ) m H) (some o) c ks ds) :
    SR G Z m (σ.set i o) H (ρ.set i x) μ ∧ SStep G Z m σ ρ H m (σ.set i o) (ρ.set i x) H := by
  have sub : ∀ b, ownW Z (σ.set i o) (ρ.set i x) b → ownW Z σ ρ b := fun b h => own_drop hx h
  have sm := vis_mono (m := m) (H := H) sub
  have get : ∀ {j : Nat} {y : Sl}, (ρ.set i x)[j]? = some y → (j = i ∧ y = x) ∨ (i ≠ j ∧ ρ[j]? = some y) := fun {j y} h => by
    by_cases hj : i = j
    · subst hj
      rw [List.getElem?_set] at h
      simp at h
      exact .inl ⟨rfl, h.2.symm⟩
    · rw [List.getElem?_set_ne hj] at h; exact .inr ⟨hj, h⟩
  refine ⟨⟨by rw [List.length_set, List.length_set]; exact S.len, S.mu.less sub, fun j d e => ?_, fun j a c e => ?_, fun j k a c c' h1 h2 => ?_, fun j c ks ds e => ?_⟩, List.prefix_refl _, fun _ _ => rfl, sm⟩
  · rcases get e with ⟨_, h⟩ | ⟨hj, h⟩
    · exact absurd h.symm (hv d)
    · obtain ⟨v, h1, h2⟩ := S.val j d h
      exact ⟨v, by rw [List.getElem?_set_ne hj]; exact h1, Rep.mono (List.prefix_refl _) sm _ _ h2⟩
  · rcases get e with ⟨_, h⟩ | ⟨hj, h⟩
    · exact absurd h.symm (hx a c)
    · obtain ⟨h1, h2, h3⟩ := S.own j a c h
      exact ⟨by rw [List.getElem?_set_ne hj]; exact h1, h2, h3.keep (List.prefix_refl _) sm rfl⟩
  · rcases get h1 with ⟨_, h⟩ | ⟨_, h⟩
    · exact absurd h.symm (hx a c)
    · rcases get h2 with ⟨_, h'⟩ | ⟨_, h'⟩
      · exact absurd h'.symm (hx a c')
      · exact S.dis j k a c c' h h'
  · rcases get e with ⟨hj, h⟩ | ⟨hj, h⟩
    · subst hj
      have hl : j < σ.length := by
        rw [← S.len]
        have := (List.getElem?_eq_some_iff.mp e).1
        simpa using this
      rw [List.getElem?_set_self hl]
      exact (he c ks ds h.symm).mono (List.prefix_refl _) sm
    · rw [List.getElem?_set_ne hj]
      exact (S.exn j c ks ds h).mono (List.prefix_refl _) sm
end
/-! ### try: .. except C as e: .. -/
def exOf (a : Addr) (cls : Value) (d : Option Addr) : Option (Addr × Addr × Addr) := match cls, d with
  | .ref C, some dd => some (a, C, dd)
  | _, _ => none
/-- which classes the clause catches -/
def CatchD (K : PySem.W.Frag) (mg : Str → Option Value) (cv : Value) (mt : Str → Option Bool) : Prop := ∀ c b, mt c = some b → ∀ C, mg c = some (.ref C) → PySem.W.exmOne K (.ref C) cv = some b
def suiteE (i : Nat) (E : DEnds) : DEnds := { nx := fun ρ2 μ2 => noExn (ρ2.set i .no) = true ∧ E.nx (ρ2.set i .no) μ2, rt := E.rt, bk := fun ρ2 μ2 => noExn (ρ2.set i .no) = true ∧ E.bk (ρ2.set i .no) μ2, ct := fun ρ2 μ2 => noExn (ρ2.set i .no) = true ∧ E.ct (ρ2.set i .no) μ2 }
def caught (mt : Str → Option Bool) (i : Nat) (wsu : WS) (E : DEnds) : XS := fun c ks es ρ' μ' => match mt c with
  | some true => wsu (suiteE i E) (ρ'.set i (.exn c ks es)) μ'
  | some false => E.xc c ks es ρ' μ'
  | none => False
def sTry (mt : Str → Option Bool) (i : Nat) (wb wsu : WS) : WS := fun E ρ μ => wb { E with xc := caught mt i wsu E } ρ μ
section
variable {W : WX} {X : Cx} {x n : Str} {cv : Value} {i : Nat} {body suite : List Stmt} {b0 : Stmt} {np pos pos' : Pos} {wb wsu : WS} {mt : Str → Option Bool}
theorem ds_try (hs : X.stack = X.env :: X.outer) (hf : X.env.frame = some X.env.locals) (hN : X.N.Nodup) (hi : X.N[i]? = some n) (hln : X.env.kindOf n = some .local) (hc : Names X x cv) (tk : Takes X W) (hm : CatchD X.K X.mg cv mt)
    (hb : ∀ (W2 : WX) (pn : List (Addr × Obj)) (xe : Value → Shared → Prop), Takes (X.tr pn xe) W2 → PassesOwn (model X.prog X.w) X.A X.env xe → DSs none W2 (X.tr pn xe) body wb)
    (hsu : ∀ (a : Addr) (oe : Obj) (cls : Value) (d : Option Addr) (pn : List (Addr × Obj)), Zc cls d oe → (∃ vs, oe.data = .fields vs) → DSs (exOf a cls d) WF (X.suite a ((a, oe) :: pn)) (b0 :: suite) wsu) :
    DSt none W X (.Try body [.ExceptHandler (some (.Name x np)) (some n) (b0 :: suite) pos'] [] [] pos) (sTry mt i wb wsu) := by
  refine ps_weak (ps_try_as (i := i) (c := cv) (tb := fun W2 => liftS (gx X none) W2 wb) (ts := fun a cls d => liftS (gx X (exOf a cls d)) WF wsu) hs hf hN hi hln hc tk hb hsu) fun De σ H q => ?_
  obtain ⟨Z, m, ρ, μ, E, S, q, kn, kr, kb, kc, kx⟩ := q
  refine ⟨Z, m, ρ, μ, { E with xc := caught mt i wsu E }, S, q, kn, kr, kb, kc, fun cls d σ' H' P => ?_⟩
  obtain ⟨m', c, ks, es, ρ', μ', C, dd, vs, S', s', rfl, rfl, hC, hdd, hl, rs, q'⟩ := P
  have hC' : X.mg c = some (.ref C) := hC
  have q2 : caught mt i wsu E c ks es ρ' μ' := q'
  unfold caught at q2
  split at q2
  · rename_i hmt
    refine ⟨true, hm c true hmt C hC', fun _ a na => ?_, fun z => absurd z (by decide)⟩
    have S2 : SR (gx X (some (a, C, dd))) Z m' σ' H' ρ' μ' := S'.ex fun j c2 ks2 ds2 => S'.none_exn
    obtain ⟨S3, s3⟩ := S2.setX (i := i) (x := .exn c ks es) (o := some (.ref a)) (fun _ _ z => nomatch z) (fun _ z => nomatch z) (fun c2 ks2 ds2 e => by
      cases e
      exact ⟨a, C, dd, vs, rfl, hC', rfl, hdd, hl, Reps.ex _ _ rs⟩)
    have t3 : SStep (gx X none) Z m σ ρ H m' (σ'.set i (some (.ref a))) (ρ'.set i (.exn c ks es)) H' := s'.trans ⟨s3.pre, s3.hid, s3.same⟩
    have back : ∀ {Pd : DS → Mu → Prop} {σ2 H2}, SPost (gx X (some (a, C, dd))) Z m' (σ'.set i (some (.ref a))) (ρ'.set i (.exn c ks es)) H' (fun ρ2 μ2 => noExn (ρ2.set i .no) = true ∧ Pd (ρ2.set i .no) μ2) σ2 H2 →
        SPost (gx X none) Z m σ ρ H Pd (σ2.set i none) H2 := fun {Pd σ2 H2} P => by
      obtain ⟨m2, ρ2, μ2, T, t, hno, q⟩ := P
      obtain ⟨T2, t2⟩ := T.setX (i := i) (x := .no) (o := none) (fun _ _ z => nomatch z) (fun _ z => nomatch z) (fun _ _ _ z => nomatch z)
      exact ⟨m2, _, μ2, T2.ex fun j c2 ks2 ds2 => noExn_get hno, t3.trans (SStep.trans ⟨t.pre, t.hid, t.same⟩ ⟨t2.pre, t2.hid, t2.same⟩), q⟩
    refine ⟨Z, m', _, μ', suiteE i E, S3, q2, fun σ2 H2 P => kn _ _ (back P), fun v H2 P => ?_, fun σ2 H2 P => kb _ _ (back P), fun σ2 H2 P => kc _ _ (back P), fun cls2 d2 σ2 H2 P => ?_⟩
    · obtain ⟨m2, d, μ2, h1, h2, h3, h4, h5, h6⟩ := P
      exact kr v H2 (RPost.from t3 ⟨m2, d, μ2, h1, h2, h3.ex, h4, Rep.ex _ _ h5, h6⟩)
    · obtain ⟨_, _, _, _, _, _, _, _, _, _, _, _, _, _, _, _, _, z⟩ := P
      exact z.elim
  · rename_i hmt
    refine ⟨false, hm c false hmt C hC', fun z => absurd z Bool.false_ne_true, fun _ => kx _ _ σ' H' ⟨m', c, ks, es, ρ', μ', C, dd, vs, S', s', rfl, rfl, hC, hdd, hl, rs, q2⟩⟩
  · exact q2.elim
end
/-! in the suite: e.f, isinstance(e, C) -/
def KExn (o : Option Sl) (k : Str → List Str → List D → Prop) : Prop := match o with
  | some (.exn c ks ds) => k c ks ds
  | _ => False
theorem KExn_of {o : Option Sl} {k : Str → List Str → List D → Prop} (h : KExn o k) : ∃ c ks ds, o = some (.exn c ks ds) ∧ k c ks ds := by
  unfold KExn at h
  split at h
  · exact ⟨_, _, _, rfl, h⟩
  · exact h.elim
def getX (cs : List Str) (f : Str) (Q : D → Prop) : Str → List Str → List D → Prop := fun c ks ds => c ∈ cs ∧ match fldOf f ks ds with
  | some d => Q d
  | none => False
def wXf (cs : List Str) (i : Nat) (f : Str) : WE := fun ρ μ Q _ => KExn (ρ[i]?) (getX cs f fun d => Q d μ)
def XfD (K : PySem.W.Frag) (mg : Str → Option Value) (cs : List Str) (f : Str) : Prop := ∀ c ∈ cs, ∀ C, mg c = some (.ref C) → XfC K C ∧ PySem.W.findIn K (.ref C) f = some none
def wIsE (f : TyN → TyN → Option Bool) (i : Nat) (cn : Str) : WE := fun ρ μ Q _ => KExn (ρ[i]?) fun c _ _ => match f (.c c) (.c cn) with
  | some b => Q (.bl b) μ
  | none => False
/-- isinstance of caught exceptions: by a table -/
structure IsxTab (K : PySem.W.Frag) (mg : Str → Option Value) (f : TyN → TyN → Option Bool) : Prop where
  ok : ∀ c u b, f (.c c) (.c u) = some b → ∀ C U, mg c = some (.ref C) → mg u = some (.ref U) → ExcC K C ∧ PySem.W.kitOne K (.ref C) (.ref U) = some b
section
variable {X : Cx} {a : Addr} {oe : Obj} {cls : Value} {d : Option Addr} {pn : List (Addr × Obj)} {pos p1 p2 p3 : Pos} {x n cn : Str} {i : Nat} {cs : List Str}
theorem exOf_some {a a' C dd : Addr} {cls : Value} {d : Option Addr} (h : exOf a cls d = some (a', C, dd)) : a' = a ∧ cls = .ref C ∧ d = some dd := by
  unfold exOf at h
  split at h
  · cases h; exact ⟨rfl, rfl, rfl⟩
  · cases h
theorem de_xf {f : Str} (hz : Zc cls d oe) (hf : ∃ vs, oe.data = .fields vs) (T : XfD X.K X.mg cs f) (hN : X.N[i]? = some x) (hv : Vis X.env.scope x := by first | exact Or.inl rfl | exact Or.inr (Or.inl rfl) | exact Or.inr (Or.inr rfl))
    (hd : (x == ("__debug__" : Str)) = false := by decide) (hcd : (x == ("__classdict__" : Str)) = false := by decide) (hb : attributeBase (.Name x p1) f X.env (eval (.Name x p1) X.env) = eval (.Name x p1) X.env := by rfl) :
    DE (exOf a cls d) WF (X.suite a ((a, oe) :: pn)) (.Attribute (.Name x p1) f pos) (wXf cs i f) := by
  refine ⟨fun pins s σ H Q' I q => ?_⟩
  obtain ⟨Z, m, ρ, μ, Q, Xd, S, q, k, kx⟩ := q
  obtain ⟨c, ks, ds, e, q⟩ := KExn_of q
  obtain ⟨hcs, q⟩ := q
  obtain ⟨a', C, dd, vs, h1, h2, h3, h4, h5, h6⟩ := S.exn i c ks ds e
  obtain ⟨rfl, rfl, rfl⟩ := exOf_some h1
  obtain ⟨T1, T2⟩ := T c hcs C h2
  split at q
  · rename_i dv hdv
    obtain ⟨v, hv1, hv2⟩ := fldOf_rep h6 hdv
    have R := pe_xf (pos := pos) (a := a') (pn := pn) T1 T2 hz hf (pe_var (X := X.suite a' ((a', oe) :: pn)) (i := i) (x := x) (pos := p1) hN hv hd hcd) hb
    exact R.run pins s σ H Q' I ⟨_, h3, rfl, rfl, dd, _, v, rfl, vis_le _ _ h4, hv1, k _ _ (.now S.mu hv2 q)⟩
  · exact q.elim
theorem call_isX {f : TyN → TyN → Option Bool} (T : IsxTab X.K X.mg f) (hz : Zc cls d oe) (hf : ∃ vs, oe.data = .fields vs) : CallR (X.suite a ((a, oe) :: pn)) (.builtin "isinstance") (fun xs H Q => ∃ C U dd fs c u b, xs = [.ref a, .ref U] ∧ cls = .ref C ∧ d = some dd ∧ H dd = some (.xd fs) ∧
    X.mg c = some (.ref C) ∧ X.mg u = some (.ref U) ∧ f (.c c) (.c u) = some b ∧ Q (.bl b) H) := by
  intro pins s σ H xs us Q I r h
  obtain ⟨C, U, dd, fs, c, u, b, rfl, rfl, rfl, hdd, hc, hu, e, q⟩ := h
  obtain ⟨u1, u2, rfl, r1, r2⟩ := vals2 r
  cases (show u1 = Value.ref a from r1)
  cases (show u2 = Value.ref U from r2)
  obtain ⟨hget, _⟩ := I.pin (a, oe) (List.mem_append.mpr (.inl List.mem_cons_self))
  obtain ⟨E, kit⟩ := T.ok c u b e C U hc hu
  obtain ⟨vs, hv⟩ := hf
  obtain ⟨mA, hns, hr⟩ := (show ObjOk X.prog X.w H s.heap dd (.xd fs) from I.hok dd _ hdd)
  obtain ⟨od, ho, hl⟩ := lookIn_ns hns
  have J : PySem.W.InstAt s.heap a oe C (some od) := ⟨hget, hz.1, by unfold PySem.W.notCls; rw [hv] <;> rfl, by rw [hz.2]; exact ho⟩
  have hcl : (PySem.W.clsIn X.K C).isSome = true := by
    obtain ⟨cd, hcd, _⟩ := PySem.W.any_some E.hd
    rw [hcd]; rfl
  exact PySem.W.kia_one (PySem.W.kitx_exc hcl E.hg E.hk E.hs E.ha E.hn E.ht E.hm) I.kIn J kit (fun z => nomatch z) fun tk => ⟨.bl b, H, I.kept (t' := tk) fun _ _ z => z, rfl, q⟩
theorem de_isX {f : TyN → TyN → Option Bool} {C2 : Addr} (T : IsxTab X.K X.mg f) (hz : Zc cls d oe) (hf : ∃ vs, oe.data = .fields vs) (hg : Gl X "isinstance") (hm : X.mg "isinstance" = none) (hN : X.N[i]? = some x) (hg2 : Gl X cn) (hm2 : X.mg cn = some (.ref C2))
    (hv : Vis X.env.scope x := by first | exact Or.inl rfl | exact Or.inr (Or.inl rfl) | exact Or.inr (Or.inr rfl)) (hd : (x == ("__debug__" : Str)) = false := by decide) (hcd : (x == ("__classdict__" : Str)) = false := by decide) (hd2 : (cn == ("__debug__" : Str)) = false := by decide) :
    DE (exOf a cls d) WF (X.suite a ((a, oe) :: pn)) (.Call (.Name "isinstance" p1) [.Name x p2, .Name cn p3] [] pos) (wIsE f i cn) := by
  have A1 : PA (X.suite a ((a, oe) :: pn)) [.Name x p2, .Name cn p3] (tCons (tVar i) (tCons (tC (.ref C2)) tNil)) := pa_cons (pe_var (X := X.suite a ((a, oe) :: pn)) hN hv hd hcd) (pa_cons (pe_glob (X := X.suite a ((a, oe) :: pn)) hg2 hm2 (v := .ref C2) rfl hd2) pa_nil)
  refine pe_weak (pe_callB (X := X.suite a ((a, oe) :: pn)) (call_isX T hz hf) hg hm bt_isinstance A1) fun σ H Q' q => ?_
  obtain ⟨Z, m, ρ, μ, Q, Xd, S, q, k, kx⟩ := q
  obtain ⟨c, ks, ds, e, q⟩ := KExn_of q
  obtain ⟨a', C, dd, vs, h1, h2, h3, h4, h5, h6⟩ := S.exn i c ks ds e
  obtain ⟨rfl, rfl, rfl⟩ := exOf_some h1
  split at q
  · rename_i b hb
    exact ⟨_, h3, C, C2, dd, _, c, cn, b, rfl, rfl, rfl, vis_le _ _ h4, h2, hm2, hb, k _ _ (.now S.mu (by rw [Rep]) q)⟩
  · exact q.elim
end
end DL

set_option Elab.async false
set_option linter.all false
set_option maxRecDepth 100000
set_option maxHeartbeats 4000000
set_option autoImplicit false
namespace DL
open PySem PySem.Spec PyProof.Rows L2
/-! ### repr -/
def reprC : PyData → Prop
  | .none => True
  | .bool _ => True
  | .int i => i.natAbs.log2 < 1920
  | .str x => (reprText x).length ≤ sizeLine
  | .list xs => (PyData.list xs).showable = true ∧ (PyData.list xs).hasDict = false ∧ (PyData.list xs).depth ≤ 50 ∧ (PyData.list xs).shown.length ≤ sizeLine
  | .tuple xs => (PyData.tuple xs).showable = true ∧ (PyData.tuple xs).hasDict = false ∧ (PyData.tuple xs).depth ≤ 50 ∧ (PyData.tuple xs).shown.length ≤ sizeLine
  | _ => False
theorem call_reprD {X : Cx} (hgd : X.A.guards = some []) (hu : X.A.units + 64 < cLine) : CallR X (.builtin "repr") (fun xs H Q => ∃ v p, xs = [v] ∧ Dp X.K H v p ∧ reprC p ∧ Q (.str p.shown) H) := by
  intro pins s σ H xs us Q I r h
  obtain ⟨v, p, rfl, dp, hc, q⟩ := h
  obtain ⟨u, rfl, ru⟩ := r.one
  have box : ∀ {d : PyData} {a : Addr}, Dp X.K H (.ref a) d → d.showable = true → d.hasDict = false → d.depth ≤ 50 → d.shown.length ≤ sizeLine → Q (.str d.shown) H → wpAny (model X.prog X.w) X.A (call (.builtin "repr") [.ref a]) (EP X pins σ Q) X.xe s := fun {d a} dp h1 h2 h3 h4 q => by
    obtain ⟨as, rd⟩ := Dp.reads I d (.ref a) (.ref a) dp rfl
    exact repr_of_reads' rd h1 (fun z => absurd (h2.symm.trans z) Bool.false_ne_true) hgd (by omega) (fun _ _ e => e) (fun h' u tk k => ⟨.str _, H, I.kept k, ⟨_, rfl⟩, q⟩) h4
  cases dp with
  | non =>
    cases (show u = Value.none from ru)
    exact PySem.P.repr_of_none ⟨.str _, H, I.tok _, ⟨_, rfl⟩, q⟩
  | bl b =>
    cases (show u = Value.bool b from ru)
    exact PySem.P.repr_of_bool ⟨.str _, H, I.tok _, ⟨_, rfl⟩, q⟩
  | int i =>
    obtain ⟨t, rfl⟩ := (show ∃ t, u = Value.int i t from ru)
    exact PySem.P.repr_of_int hc ⟨.str _, H, I.tok _, ⟨_, rfl⟩, q⟩
  | str x =>
    obtain ⟨t, rfl⟩ := (show ∃ t, u = Value.str x t from ru)
    exact PySem.P.repr_of_str (hsz := hc) ⟨.str _, H, I.tok _, ⟨_, rfl⟩, q⟩
  | lst s1 s2 =>
    cases (show u = Value.ref _ from ru)
    exact box (.lst s1 s2) hc.1 hc.2.1 hc.2.2.1 hc.2.2.2 q
  | tup s1 s2 =>
    cases (show u = Value.ref _ from ru)
    exact box (.tup s1 s2) hc.1 hc.2.1 hc.2.2.1 hc.2.2.2 q
def fRepr : FN := fun xs μ Q => match xs with
  | [x] => ∃ p, toP x = some p ∧ reprC p ∧ Q (.str p.shown) μ
  | _ => False
theorem sn_repr {G : Gx} : SN G (fun xs H Q => ∃ v p, xs = [v] ∧ Dp G.K H v p ∧ reprC p ∧ Q (.str p.shown) H) fRepr := by
  intro Z m μ H xs us Q Q' M r h k
  unfold fRepr at h
  split at h
  · obtain ⟨p, h1, h2, h3⟩ := h
    obtain ⟨v, t, rfl, r1, r2⟩ := r.uncons
    rw [Reps] at r2
    subst r2
    exact ⟨v, p, rfl, dp_of vis_le _ _ _ r1 h1, h2, k _ _ (.now M (by rw [Rep]) h3)⟩
  · exact h.elim
end DL

set_option Elab.async false
set_option linter.all false
set_option maxRecDepth 100000
set_option maxHeartbeats 4000000
set_option autoImplicit false
namespace DL
open PySem PySem.Spec PyProof.Rows L2
/-! ### what the head tells of exceptions -/
def oexB (K : PySem.W.Frag) (C : Addr) : Bool := (match K.lookup C with
  | some ⟨.type "type", _, .cls cd, sl⟩ => (match cd.mro, sl.toList with
    | .ref C' :: bm, [_, _, _, _, some (.builtin n), _] => decide (C' = C) && (decide (n = "ValueError.__new__") && (cd.hasDict && (!cd.hasDel && PySem.HandSPX.refsVE bm)))
    | _, _ => false)
  | _ => false) && (He.eqO (PySem.W.findIn K (.ref C) "__setattr__") (some (some (.builtin "object.__setattr__"))) && (decide (PySem.W.subIn K (.ref C) (.type "BaseException") = some true) && (decide (PySem.W.typeIn K (.ref C) = some (.type "type")) && PySem.W.keepIn K (.ref C))))
theorem oexB_ok {K : PySem.W.Frag} {C : Addr} (h : oexB K C = true) : OexC K C := by
  obtain ⟨h1, h⟩ := He.ba h
  obtain ⟨h2, h⟩ := He.ba h
  obtain ⟨h3, h⟩ := He.ba h
  obtain ⟨h4, h5⟩ := He.ba h
  refine ⟨?_, He.eqO_ok h2, of_decide_eq_true h3, of_decide_eq_true h4, h5⟩
  split at h1
  · rename_i dd cd sl ho
    split at h1
    · rename_i C' bm k0 k1 k2 k3 n k5 em es
      obtain ⟨g1, h1⟩ := He.ba h1
      obtain ⟨g2, h1⟩ := He.ba h1
      obtain ⟨g3, h1⟩ := He.ba h1
      obtain ⟨g4, g5⟩ := He.ba h1
      have g1 := of_decide_eq_true g1
      have g2 := of_decide_eq_true g2
      rw [Bool.not_eq_true'] at g4
      obtain ⟨nm, bs, mro, ns, qn, hd, sn, sub, ab, col, dl⟩ := cd
      dsimp only at em g3 g4
      subst em g1 g2 g3 g4
      have hsl : sl = #[k0, k1, k2, k3, some (.builtin "ValueError.__new__"), k5] := by
        obtain ⟨l⟩ := sl
        simp only at es
        rw [es]
      subst hsl
      exact ⟨nm, qn, ns, bs, bm, sn, sub, ab, col, dd, k0, k1, k2, k3, k5, ho, g5⟩
    · cases h1
  · cases h1
/-- an exception class with its __init__, which stores the attributes ks -/
def rxB (K : PySem.W.Frag) (c : Str) (ks : List Str) : Bool := (He.Fa.glo c).ok K && (oexB K (He.ga K c) && (He.eqO (PySem.W.findIn K (.ref (He.ga K c)) "__init__") (some (some (.ref (He.ma K (He.ga K c) "__init__")))) &&
  (decide (PySem.W.typeIn K (.ref (He.ma K (He.ga K c) "__init__")) = some (.type "function")) && ks.all fun f => He.eqO (PySem.W.findIn K (.ref (He.ga K c)) f) (some none))))
theorem rxB_ok {K : PySem.W.Frag} {c : Str} {ks : List Str} (h : rxB K c ks = true) : OexC K (He.ga K c) ∧ PySem.W.findIn K (.ref (He.ga K c)) "__init__" = some (some (.ref (He.fAd K (c, some "__init__")))) ∧
    PySem.W.typeIn K (.ref (He.fAd K (c, some "__init__"))) = some (.type "function") ∧ ∀ f ∈ ks, PySem.W.findIn K (.ref (He.ga K c)) f = some none := by
  obtain ⟨h1, h⟩ := He.ba h
  obtain ⟨h2, h⟩ := He.ba h
  obtain ⟨h3, h⟩ := He.ba h
  obtain ⟨h4, h5⟩ := He.ba h
  exact ⟨oexB_ok h2, He.eqO_ok h3, of_decide_eq_true h4, fun f hf => He.eqO_ok (List.all_eq_true.mp h5 f hf)⟩
section
variable {K : PySem.W.Frag} {h : Heap} {mg : Str → Option Value} (X : K.In h) (G : h.Ns mainGlobals mg)
include X G
theorem rx_glo {c : Str} {ks : List Str} (b : rxB K c ks = true) : mg c = some (.ref (He.ga K c)) := He.glo_ok X G (He.ba b).1
end
/-! which exceptions a clause catches -/
def catF (L : List (Str × Bool)) (c : Str) : Option Bool := (L.find? fun e => decide (e.1 = c)).map (·.2)
def catB (K : PySem.W.Frag) (y : Str) (L : List (Str × Bool)) : Bool := (He.Fa.glo y).ok K && L.all fun e => (He.Fa.glo e.1).ok K && decide (PySem.W.exmOne K (.ref (He.ga K e.1)) (.ref (He.ga K y)) = some e.2)
theorem catF_mem {L : List (Str × Bool)} {c : Str} {b : Bool} (h : catF L c = some b) : (c, b) ∈ L := by
  unfold catF at h
  obtain ⟨z, e1, e2⟩ := Option.map_eq_some_iff.mp h
  have m := List.mem_of_find?_eq_some e1
  have p : z.1 = c := by
    have q := List.find?_some e1
    exact of_decide_eq_true q
  obtain ⟨z1, z2⟩ := z
  cases p
  cases e2
  exact m
section
variable {K : PySem.W.Frag} {h : Heap} {mg : Str → Option Value} (X : K.In h) (G : h.Ns mainGlobals mg)
include X G
theorem catchD_of {y : Str} {L : List (Str × Bool)} (c : catB K y L = true) : CatchD K mg (.ref (He.ga K y)) (catF L) ∧ mg y = some (.ref (He.ga K y)) := by
  obtain ⟨c1, c2⟩ := He.ba c
  refine ⟨fun x b hb C hC => ?_, He.glo_ok X G c1⟩
  obtain ⟨q1, q2⟩ := He.ba (List.all_eq_true.mp c2 _ (catF_mem hb))
  rw [He.glo_ok X G q1] at hC
  cases hC
  exact of_decide_eq_true q2
/-! fields, isinstance -/
omit X G in
theorem xfD_of {cs : List Str} {f : Str} (X : K.In h) (G : h.Ns mainGlobals mg) (c : (cs.all fun x => (He.Fa.glo x).ok K && (xfB K (He.ga K x) && He.eqO (PySem.W.findIn K (.ref (He.ga K x)) f) (some none))) = true) : XfD K mg cs f := by
  intro x hx C hC
  obtain ⟨q1, q⟩ := He.ba (List.all_eq_true.mp c x hx)
  obtain ⟨q2, q3⟩ := He.ba q
  rw [He.glo_ok X G q1] at hC
  cases hC
  exact ⟨xfB_ok q2, He.eqO_ok q3⟩
end
def exCB (K : PySem.W.Frag) (D : Addr) : Bool := He.eqO (PySem.W.findIn K (.ref D) "__getattribute__") (some (some (.builtin "BaseException.__getattribute__"))) && (He.eqO (PySem.W.findIn K (.ref D) "__getattr__") (some none) && (decide (PySem.W.subIn K (.ref D) (.type "BaseException") = some true) && (PySem.W.hasDictIn K D &&
  (He.eqO (PySem.W.findIn K (.ref D) "__class__") (some (some (.builtin "object.__class__"))) && (He.eqO (PySem.W.specialIn K (.builtin "object.__class__") "__get__") (some (some (.builtin "getset_descriptor.__get__"))) && (decide (PySem.W.takesIn K (.builtin "object.__class__") = some true) && decide (PySem.W.mroIn K D (.type "object") = some true)))))))
theorem exCB_ok {K : PySem.W.Frag} {D : Addr} (h : exCB K D = true) : ExcC K D := by
  obtain ⟨h1, h⟩ := He.ba h
  obtain ⟨h2, h⟩ := He.ba h
  obtain ⟨h3, h⟩ := He.ba h
  obtain ⟨h4, h⟩ := He.ba h
  obtain ⟨h5, h⟩ := He.ba h
  obtain ⟨h6, h⟩ := He.ba h
  obtain ⟨h7, h8⟩ := He.ba h
  exact ⟨He.eqO_ok h1, He.eqO_ok h2, of_decide_eq_true h3, h4, He.eqO_ok h5, He.eqO_ok h6, of_decide_eq_true h7, of_decide_eq_true h8⟩
abbrev IsxL := List ((Str × Str) × Bool)
def isxF (L : IsxL) (t u : TyN) : Option Bool := match t, u with
  | .c a, .c b => (L.find? fun e => decide (e.1 = (a, b))).map (·.2)
  | _, _ => none
def isxB (K : PySem.W.Frag) (L : IsxL) : Bool := L.all fun e => (He.Fa.glo e.1.1).ok K && ((He.Fa.glo e.1.2).ok K && (exCB K (He.ga K e.1.1) && decide (PySem.W.kitOne K (.ref (He.ga K e.1.1)) (.ref (He.ga K e.1.2)) = some e.2)))
theorem isxTab_of {K : PySem.W.Frag} {h : Heap} {mg : Str → Option Value} (X : K.In h) (G : h.Ns mainGlobals mg) {L : IsxL} (c : isxB K L = true) : IsxTab K mg (isxF L) := by
  refine ⟨fun a u b e C U hC hU => ?_⟩
  have e' : (L.find? fun e => decide (e.1 = (a, u))).map (·.2) = some b := e
  obtain ⟨z, e1, e2⟩ := Option.map_eq_some_iff.mp e'
  have m := List.mem_of_find?_eq_some e1
  have p : z.1 = (a, u) := by
    have q := List.find?_some e1
    exact of_decide_eq_true q
  obtain ⟨z1, z2⟩ := z
  cases p
  cases e2
  obtain ⟨q1, q⟩ := He.ba (List.all_eq_true.mp c _ m)
  obtain ⟨q2, q⟩ := He.ba q
  obtain ⟨q3, q4⟩ := He.ba q
  rw [He.glo_ok X G q1] at hC
  rw [He.glo_ok X G q2] at hU
  cases hC
  cases hU
  exact ⟨exCB_ok q3, of_decide_eq_true q4⟩
end DL

set_option Elab.async false
set_option linter.all false
set_option maxRecDepth 100000
set_option maxHeartbeats 4000000
set_option autoImplicit false
namespace DL
open PySem PySem.Spec PyProof.Rows L2
/-! ### properties -/
structure PropD (P : Program) (w : World) (K : PySem.W.Frag) (mg : Str → Option Value) (base : Heap) (k : Nat) (c f : Str) (ps : List Str) (sp : DSp) : Prop where
  ex : ∃ C p g fd, mg c = some (.ref C) ∧ Cls K C ∧ PropOf K C f p g ∧ Binds K fd ps [] ∧ FnG P w K mg base k g fd ps (toSp ⟨K, mg, none⟩ sp)
def wProp (c : Str) (sp : DSp) (wa : WE) : WE := fun ρ μ Q Xd => wa ρ μ (fun x μ1 => isCls c x μ1 (sp [x] μ1 Q xF)) Xd
section
variable {ex : Option (Addr × Addr × Addr)} {W : WX} {X : Cx} {e : Expr} {wa : WE} {pos : Pos} {k j : Nat} {ps : List Str} {c f : Str} {sp : DSp} {C p g a dx : Addr} {fd : FuncData}
end
/-! from the head's facts -/
/-! ### the Hook: defs at any address, and one Bool more -/
abbrev AlY : Type := He.AlD × Bool
structure SaysY (fa : List He.Fa) (fn : List He5.DefA) (ex : PySem.W.Frag → Bool) (K : PySem.W.Frag) : Prop where
  d : He5.SaysA fa fn K
  more : ex K = true
/-! a module's int -/
theorem de_gintE {ex : Option (Addr × Addr × Addr)} {W : WX} {X : Cx} {x : Str} {i : Int} {pos : Pos} (hg : Gl X x) (hm : ∃ t, X.mg x = some (.int i t)) (hd : (x == ("__debug__" : Str)) = false := by decide) : DE ex W X (.Name x pos) (wC (.int i)) := by
  obtain ⟨t, hm⟩ := hm
  exact de_gint hg hm hd
theorem de_gstrE {ex : Option (Addr × Addr × Addr)} {W : WX} {X : Cx} {x z : Str} {pos : Pos} (hg : Gl X x) (hm : ∃ t, X.mg x = some (.str z t)) (hd : (x == ("__debug__" : Str)) = false := by decide) : DE ex W X (.Name x pos) (wC (.str z)) := by
  obtain ⟨t, hm⟩ := hm
  exact de_gstr hg hm hd
end DL

set_option Elab.async false
set_option linter.all false
set_option maxRecDepth 100000
set_option maxHeartbeats 4000000
set_option autoImplicit false
namespace DL
open PySem PySem.Spec PyProof.Rows L2
/-! ### == of scalars or of data -/
def atomV : D → Option V
  | .non => some .non
  | .bl b => some (.bl b)
  | .int i => some (.int i)
  | .str s => some (.str s)
  | _ => none
theorem atom_rep {G : Gx} {m : List Addr} {E : Hp} {x : D} {u v : V} (r : Rep G m E x u) (h : atomV x = some v) : u = v := by
  cases x <;> first | (rw [Rep] at r; cases h; exact r) | cases h
def eqU (x y : D) (k : Bool → Prop) : Prop := (∃ u v, atomV x = some u ∧ atomV y = some v ∧ scal u v = true ∧ k (decide (u = v))) ∨ eqD x y k
def fEqU : F2 := fun x y μ Q => eqU x y fun b => Q (.bl b) μ
def fNeU : F2 := fun x y μ Q => eqU x y fun b => Q (.bl (!b)) μ
theorem s2_eqU {G : Gx} : S2 G (fun x y H Q => rEq x y H Q ∨ rEqD G.K x y H Q) fEqU := by
  intro Z m μ H x y u v Q Q' M rx ry h k
  rcases h with ⟨u', v', e1, e2, hs, q⟩ | h
  · cases atom_rep rx e1
    cases atom_rep ry e2
    exact .inl ⟨hs, k _ _ (.now M (by rw [Rep]) q)⟩
  · exact .inr (s2_eqD Z m μ H x y u v Q Q' M rx ry h k)
theorem s2_neU {G : Gx} : S2 G (fun x y H Q => rNe x y H Q ∨ rNeD G.K x y H Q) fNeU := by
  intro Z m μ H x y u v Q Q' M rx ry h k
  rcases h with ⟨u', v', e1, e2, hs, q⟩ | h
  · cases atom_rep rx e1
    cases atom_rep ry e2
    exact .inl ⟨hs, k _ _ (.now M (by rw [Rep]) q)⟩
  · exact .inr (s2_neD Z m μ H x y u v Q Q' M rx ry h k)
theorem op_eqU {X : Cx} (hu : X.A.units + 64 < cLine) : OpR X (compareOp .Eq) (fun x y H Q => rEq x y H Q ∨ rEqD X.K x y H Q) := op_eq.or (op_eqD hu)
theorem op_neU {X : Cx} (hu : X.A.units + 64 < cLine) : OpR X (compareOp .NotEq) (fun x y H Q => rNe x y H Q ∨ rNeD X.K x y H Q) := op_ne.or (op_neD hu)
end DL

set_option Elab.async false
set_option linter.all false
set_option maxRecDepth 100000
set_option maxHeartbeats 4000000
set_option autoImplicit false
namespace DL
open PySem PySem.Spec PyProof.Rows L2
/-! ### sum, max, min, sorted of ints; any, all of truths -/
def lstInts (x : D) (k : List Int → Prop) : Prop := lstOr x fun ds => ∃ ns, intsD ds = some ns ∧ k ns
def boolD : D → Option Bool
  | .bl b => some b
  | _ => none
def boolsD : List D → Option (List Bool)
  | [] => some []
  | d :: ds => match boolD d, boolsD ds with
    | some i, some ns => some (i :: ns)
    | _, _ => none
theorem boolD_of {d : D} {b : Bool} (h : boolD d = some b) : d = .bl b := by
  cases d <;> first | (cases h; done) | (cases h; rfl)
theorem bools_rep {G : Gx} {m : List Addr} {E : Hp} : ∀ {ds : List D} {vs : List V} {bs : List Bool}, Reps G m E ds vs → boolsD ds = some bs → vs = bs.map V.bl
  | [], vs, ns, r, e => by rw [Reps] at r; rw [boolsD] at e; cases e; exact r
  | d :: ds, vs, ns, r, e => by
    obtain ⟨v, t, rfl, r1, r2⟩ := r.uncons
    rw [boolsD] at e
    split at e
    · rename_i i ms h1 h2
      cases e
      have e1 := boolD_of h1
      subst e1
      rw [Rep] at r1
      subst r1
      rw [bools_rep r2 h2]
      rfl
    · cases e
def lstBools (x : D) (k : List Bool → Prop) : Prop := lstOr x fun ds => ∃ bs, boolsD ds = some bs ∧ k bs
theorem lstBools_rep {G : Gx} {m : List Addr} {E : Hp} {d : D} {u : V} {k : List Bool → Prop} (h : lstBools d k) (r : Rep G m E d u) : ∃ ns a, u = .ref a ∧ SqL G.K E a (ns.map V.bl) ∧ k ns := by
  obtain ⟨ds, a, vs, e, s, rs, ns, hn, q⟩ := lstOr_rep h r
  have := bools_rep rs hn
  subst this
  exact ⟨ns, a, e, s, q⟩
def fAll : FN := fun xs μ Q => match xs with
  | [x] => lstBools x fun bs => Q (.bl (bs.all id)) μ
  | _ => False
section
variable {G : Gx}
theorem sn_all : SN G (rAll G.K) fAll := by
  intro Z m μ H xs us Q Q' M r h k
  unfold fAll at h
  split at h
  · obtain ⟨v, t, rfl, r1, r2⟩ := r.uncons
    rw [Reps] at r2
    subst r2
    obtain ⟨ns, a, rfl, s, q⟩ := lstBools_rep h r1
    exact ⟨a, ns, rfl, Same.seq vis_le s, k _ _ (.now M (by rw [Rep]) q)⟩
  · exact h.elim
end
end DL

set_option Elab.async false
set_option linter.all false
set_option maxRecDepth 100000
set_option maxHeartbeats 4000000
set_option autoImplicit false
namespace DL
open PySem PySem.Spec PyProof.Rows L2


theorem runEq3 {r : PySem.W.OpenRow} {q : Program} {H : PySem.W.Hook} {ob : PySem.W.SharedT → H.α} {M : Nat} {loose : List Str} {w : World}
    (h1 : ∀ os : OsState, (HandSHeadRun.endF (HandSHeadRun.stepQ (HandSHeadRun.denQ HandSHeadRun.tabQ) r.prog w) M r.prog w os).map (fun s => HandSHeadRun.looksF r.prog (PySem.W.boot_heap w.params) s.abs) = some true)
    (h2 : ∀ os : OsState, (HandSHeadRun.endF (HandSHeadRun.stepQ (HandSHeadRun.denQ HandSHeadRun.tabQ) r.prog w) M r.prog w os).map (fun s => HandSHeadRun.seenQ q loose (importedModules r.prog.main.body) (fun s => PySem.W.xlAt q [] s && PySem.W.recOk r.toRowW.records s) s.abs) = some (PySem.W.openGood q loose))
    (h3 : ∀ os : OsState, (HandSHeadRun.endF (HandSHeadRun.stepQ (HandSHeadRun.denQ HandSHeadRun.tabQ) r.prog w) M r.prog w os).map (fun s => ob s) = some (H.val w)) : HandSHeadRun.RunEq r q H ob M loose w := by
  intro os
  have a1 := h1 os
  have a2 := h2 os
  have a3 := h3 os
  generalize HandSHeadRun.endF (HandSHeadRun.stepQ (HandSHeadRun.denQ HandSHeadRun.tabQ) r.prog w) M r.prog w os = e at a1 a2 a3 ⊢
  cases e with
  | none => cases a1
  | some s =>
    rw [Option.map_some] at a1 a2 a3 ⊢
    rw [Option.some.inj a1, Option.some.inj a2, Option.some.inj a3]
/-! ### list(x), tuple(x) -/
def fListOf : FN := fun xs μ Q => match xs with
  | [x] => match itemsD x μ with
    | some ds => Q (.lst ds) μ
    | none => False
  | _ => False
theorem sn_listOf {G : Gx} : SN G (fun xs H Q => ∃ p ys, xs = [.ref p] ∧ (SqL G.K H p ys ∨ SqT G.K H p ys) ∧ ∀ l, H l = none → Q (.ref l) (upd H l (.lst ys))) fListOf := by
  intro Z m μ H xs us Q Q' M r h k
  unfold fListOf at h
  split at h
  · split at h
    · rename_i ds e1
      obtain ⟨v, t, rfl, r1, r2⟩ := r.uncons
      rw [Reps] at r2
      subst r2
      obtain ⟨a, vs, rfl, s, q⟩ := items_rep M r1 e1
      refine ⟨a, vs, rfl, s, fun l nl => k _ _ ?_⟩
      have s4 := Step.laid (o := .lst vs) M nl
      refine ⟨m, _, μ, s4, ?_, h⟩
      rw [Rep]
      refine ⟨l, _, rfl, ?_, Reps.mono s4.pre s4.same _ _ q⟩
      rw [vis_upd M nl, upd_same]
    · exact h.elim
  · exact h.elim
def fTupOf : FN := fun xs μ Q => match xs with
  | [x] => match itemsD x μ with
    | some ds => Q (.tup ds) μ
    | none => False
  | _ => False
/-! ### isinstance(x, (A, B)) -/
def anyT (f : TyN → TyN → Option Bool) (t : TyN) : List D → Option Bool
  | [] => some false
  | c :: cs => match clD c with
    | some u => match f t u with
      | some true => if cs.all (fun d => (clD d).isSome) then some true else none
      | some false => anyT f t cs
      | none => none
    | none => none
def isiDT (f : TyN → TyN → Option Bool) (x : D) (cs : List D) (μ : Mu) : Option Bool := match tyD x μ with
  | some t => match cs with
    | [] => none
    | c :: r => anyT f t (c :: r)
  | none => none
def fIsiT (f : TyN → TyN → Option Bool) : FN := fun xs μ Q => match xs with
  | [x, .tup cs] => match isiDT f x cs μ with
    | some b => Q (.bl b) μ
    | none => False
  | _ => False
/-! ### a dict of one int beside an int -/
def wDictII (i j : Int) : WE := fun _ μ Q _ => Q (.opq (.dK [(.inl i, .int j)])) μ
section
variable {ex : Option (Addr × Addr × Addr)} {W : WX} {X : Cx} {pos p1 p2 : Pos} {n1 n2 : Nat} {i j : Int}
end
end DL

set_option Elab.async false
set_option linter.all false
set_option maxRecDepth 100000
set_option maxHeartbeats 4000000
set_option autoImplicit false
namespace DL
open PySem PySem.Spec PyProof.Rows L2
/-! ### comparisons and `in` by own defs -/
structure CmpFn (K : PySem.W.Frag) (C : Addr) (nm : Str) (f : Addr) : Prop where
  at_ : PySem.W.findIn K (.ref C) nm = some (some (.ref f))
  fn : PySem.W.isFn K (.ref f) = true
/-- the class has no own `__ne__` -/
structure NeFn (K : PySem.W.Frag) (C : Addr) : Prop where
  at_ : PySem.W.findIn K (.ref C) "__ne__" = some (some (.builtin "object.__ne__"))
  top : PySem.W.mroIn K C (.type "object") = some true
section
open PySem.W
variable {prog : Program} {w : World} {A : Around} {E : Value → Shared → Prop} {s : Shared} {K : Frag} {x C g : Addr} {ox : Obj} {od : Option Obj} {b tb : Value}
end
/-- the other operand: of a listed built-in type or class -/
def othC (Ts : List String) (Cs : List Str) (y : D) (μ : Mu) (Q : Prop) : Prop := match tyD y μ with
  | some (.b T) => T ∈ Ts ∧ Q
  | some (.c c') => c' ∈ Cs ∧ Q
  | none => False
structure CmpD (P : Program) (w : World) (K : PySem.W.Frag) (mg : Str → Option Value) (base : Heap) (k : Nat) (c nm : Str) (Ts : List String) (Cs : List Str) (ps : List Str) (sp : DSp) : Prop where
  ex : ∃ C f fd, mg c = some (.ref C) ∧ CmpFn K C nm f ∧ (∀ T ∈ Ts, PySem.W.notFirst K C (.type T) = true) ∧ (∀ c' ∈ Cs, ∀ C', mg c' = some (.ref C') → InsT K C' ∧ PySem.W.notFirst K C (.ref C') = true) ∧ Binds K fd ps [] ∧ FnG P w K mg base k f fd ps (toSp ⟨K, mg, none⟩ sp)
def fOwn (c : Str) (Ts : List String) (Cs : List Str) (sp : DSp) : F2 := fun x y μ Q => isCls c x μ (othC Ts Cs y μ (sp [x, y] μ Q xF))
def fOwnN (c : Str) (Ts : List String) (Cs : List Str) (sp : DSp) : F2 := fun x y μ Q => isCls c x μ (othC Ts Cs y μ (sp [x, y] μ (fun d μ1 => fBool d fun b => Q (.bl (!b)) μ1) xF))
section
variable {X : Cx} {k j : Nat} {ps : List Str} {c nm : Str} {Ts : List String} {Cs : List Str} {sp : DSp}
/-! y in x by x's own `__contains__` -/
def fHas (c : Str) (sp : DSp) : F2 := fun y x μ Q => isCls c x μ (sp [x, y] μ (fun d μ1 => fBool d fun b => Q (.bl b) μ1) xF)
def fHasN (c : Str) (sp : DSp) : F2 := fun y x μ Q => isCls c x μ (sp [x, y] μ (fun d μ1 => fBool d fun b => Q (.bl (!b)) μ1) xF)
structure HasD (P : Program) (w : World) (K : PySem.W.Frag) (mg : Str → Option Value) (base : Heap) (k : Nat) (c : Str) (ps : List Str) (sp : DSp) : Prop where
  ex : ∃ C f fd, mg c = some (.ref C) ∧ CmpFn K C "__contains__" f ∧ Binds K fd ps [] ∧ FnG P w K mg base k f fd ps (toSp ⟨K, mg, none⟩ sp)
end
/-! from the head's facts -/
end DL

set_option Elab.async false
set_option linter.all false
set_option maxRecDepth 100000
set_option maxHeartbeats 4000000
set_option autoImplicit false
namespace DL
open PySem PySem.Spec PyProof.Rows L2
/-! ### y op x, y of a built-in type, by x's own `__rop__` -/
structure RfFn (K : PySem.W.Frag) (C : Addr) (op : Operator) (f : Addr) : Prop where
  first : PySem.W.selfFirst K C = true
  at_ : ∃ g : Addr, PySem.W.findIn K (.ref C) (PySem.dunder op.info.2) = some (some (.ref g))
  back : PySem.W.findIn K (.ref C) (PySem.dunderR op.info.2) = some (some (.ref f))
  fn : PySem.W.isFn K (.ref f) = true
/-- what of the built-in type: whether it has the operator itself (l) -/
structure RfTy (K : PySem.W.Frag) (C : Addr) (op : Operator) (T : String) (l : Bool) : Prop where
  ex : ∃ fo ro, PySem.W.findIn K (.type T) (PySem.dunder op.info.2) = some fo ∧ PySem.W.findIn K (.type T) (PySem.dunderR op.info.2) = some ro ∧ ((fo.isSome && !isSeqSlot fo) || (ro.isSome && !isSeqSlot ro)) = l
  sub : PySem.W.subIn K (.ref C) (.type T) = some false
section
open PySem.W
variable {prog : Program} {w : World} {A : Around} {E : Value → Shared → Prop} {s : Shared} {K : Frag} {x C g : Addr} {ox : Obj} {od : Option Obj} {T : String}
end
section
open PySem.W
variable {prog : Program} {w : World} {A : Around} {E : Value → Shared → Prop} {s : Shared}
end
/-- y op x by x's own reflected def -/
structure BackD (P : Program) (w : World) (K : PySem.W.Frag) (mg : Str → Option Value) (base : Heap) (k : Nat) (c : Str) (op : Operator) (T : String) (l : Bool) (ps : List Str) (sp : DSp) : Prop where
  ex : ∃ C f fd, mg c = some (.ref C) ∧ RfFn K C op f ∧ RfTy K C op T l ∧ Binds K fd ps [] ∧ FnG P w K mg base k f fd ps (toSp ⟨K, mg, none⟩ sp)
def isTy (T : String) (y : D) (μ : Mu) (Q : Prop) : Prop := match tyD y μ with
  | some (.b T') => T' = T ∧ Q
  | _ => False
def wBack (c : Str) (T : String) (sp : DSp) (wa wb : WE) : WE := fun ρ μ Q Xd => wa ρ μ (fun y μ1 => wb ρ μ1 (fun x μ2 => isTy T y μ2 (isCls c x μ2 (sp [x, y] μ2 Q Xd))) Xd) Xd
section
variable {W : WX} {X : Cx} {a b : Expr} {wa wb : WE} {pos : Pos} {k j : Nat} {ps : List Str} {c : Str} {sp : DSp} {T : String} {l : Bool}
end
end DL

set_option Elab.async false
set_option linter.all false
set_option maxRecDepth 100000
set_option maxHeartbeats 4000000
set_option autoImplicit false
namespace DL
open PySem PySem.Spec PyProof.Rows L2
/-! ### C.m(), m a staticmethod -/
structure StatD (P : Program) (w : World) (K : PySem.W.Frag) (mg : Str → Option Value) (base : Heap) (k : Nat) (c m : Str) (ps : List Str) (sp : DSp) : Prop where
  ex : ∃ C p g fd, mg c = some (.ref C) ∧ PySem.W.specialIn K (.ref C) "__getattribute__" = some (some (.builtin "type.__getattribute__")) ∧ PySem.W.typeIn K (.ref C) = some (.type "type") ∧ PySem.W.readsIn K C (.type "type") = true ∧
    PySem.W.findCls K (.ref C) (.type "type") m = some (.get (.builtin "staticmethod.__get__") (.ref p) .none (.ref C)) ∧ (∃ rest, PySem.W.recIn K p "staticmethod" = some (.ref g :: rest)) ∧ PySem.W.handedIn (.ref g) = true ∧ PySem.W.keepIn K (.ref g) = true ∧
    Binds K fd ps [] ∧ FnG P w K mg base k g fd ps (toSp ⟨K, mg, none⟩ sp)
def wStat (sp : DSp) : WE := fun _ μ Q Xd => sp [] μ Q Xd
section
variable {W : WX} {X : Cx} {o : Expr} {pos apos : Pos} {k j : Nat} {ps : List Str} {c m : Str} {sp : DSp}
end
/-! ### a list of the def's own -/
section
variable {ex : Option (Addr × Addr × Addr)} {W : WX} {X : Cx} {tg e : Expr} {es : List Expr} {wa : WE} {ws : WA} {pos p0 apos cpos : Pos} {i : Nat} {x : Str}
def appO (i : Nat) (wa : WA) (E : DEnds) (ρ : DS) (μ : Mu) (o : Option Sl) : Prop := match o with
  | some (.own p (.lst ds)) => wa ρ μ (fun xs μ1 => ds.length < 1000000 ∧ ∃ d, xs = [d] ∧ E.nx (ρ.set i (.own p (.lst (ds ++ [d])))) μ1) fun c ks es μ' => E.xc c ks es ρ μ'
  | _ => False
def sAppO (i : Nat) (wa : WA) : WS := fun E ρ μ => appO i wa E ρ μ (ρ[i]?)
/-- .. a list put behind it -/
def extO (i : Nat) (wa : WA) (E : DEnds) (ρ : DS) (μ : Mu) (o : Option Sl) : Prop := match o with
  | some (.own p (.lst ds)) => wa ρ μ (fun xs μ1 => ∃ zs, xs = [.lst zs] ∧ ds.length + zs.length ≤ 1000000 ∧ E.nx (ρ.set i (.own p (.lst (ds ++ zs)))) μ1) fun c ks es μ' => E.xc c ks es ρ μ'
  | _ => False
def sExtO (i : Nat) (wa : WA) : WS := fun E ρ μ => extO i wa E ρ μ (ρ[i]?)
theorem lt_line {n : Nat} (h : n < 1000000) : n < sizeLine := Nat.lt_of_lt_of_le h (by decide)
/-! read: len(x), x[j], e in x -/
def wOwnLen (i : Nat) : WE := fun ρ μ Q _ => ownL (ρ[i]?) fun ds => Q (.int ds.length) μ
def wOwnIx (i : Nat) (wb : WE) : WE := fun ρ μ Q Xd => ownL (ρ[i]?) fun ds => wb ρ μ (fun y μ1 => intOr y fun j => match atI ds j with
    | some d => Q d μ1
    | none => False) Xd
def ownIn (neg : Bool) (x : D) (ds : List D) (Q : Bool → Prop) : Prop := ∃ p qs, toP x = some p ∧ toPs ds = some qs ∧ SeqAt.shaped p = true ∧ SeqAt.shaped (.list qs) = true ∧ Q (neg ^^ qs.any fun z => PyData.eqv z p)
def wOwnIn (neg : Bool) (i : Nat) (wa : WE) : WE := fun ρ μ Q Xd => ownL (ρ[i]?) fun ds => wa ρ μ (fun x μ1 => ownIn neg x ds fun b => Q (.bl b) μ1) Xd
end
end DL

set_option Elab.async false
set_option linter.all false
set_option maxRecDepth 100000
set_option maxHeartbeats 4000000
set_option autoImplicit false
namespace DL
open PySem PySem.Spec PyProof.Rows L2
/-! ### a dict of the module whose keys are tuples of ints -/
def kdGet (L : List (List Int × Int)) (ks : List Int) : Option Int := (L.find? fun x => decide (x.1 = ks)).map (·.2)
theorem vals_ints {prog : Program} {w : World} : ∀ {ks : List Int} {us : List Value}, Vals (ks.map V.int) us → ItemsAre (intKind prog w) ks us
  | [], us, h => by cases h; exact .nil
  | k :: ks, us, h => by
    cases h with
    | cons r1 r2 =>
      obtain ⟨t, rfl⟩ := r1
      exact .cons (intKind_is prog w k t) (vals_ints r2)
def fKd (L : List (List Int × Int)) : F1 := fun y μ Q => tupOr y fun ds => ∃ ks, intsD ds = some ks ∧ ∃ v, kdGet L ks = some v ∧ Q (.int v) μ
section
variable {ex : Option (Addr × Addr × Addr)} {W : WX} {X : Cx} {b : Expr} {wb : WE} {pos p0 : Pos} {x : Str} {L : List (List Int × Int)} {d : Addr}
end
/-! ### plain data of the module -/
end DL

set_option Elab.async false
set_option linter.all false
set_option maxRecDepth 100000
set_option maxHeartbeats 4000000
set_option autoImplicit false
namespace DL
open PySem PySem.Spec PyProof.Rows L2 RZ
/-! ### zip(a tuple, a list) -/
section
variable {prog : Program} {w : World} {A : Around} {E : Value → Shared → Prop} {s : Shared} {zz pT pO u v m n : Addr} {c1 c2 : Nat} {ps qs : Array Value} {p q a0 b0 : Value}
end
/-! made -/
abbrev mx1 (h : Heap) (m : Addr) : Heap := h.push { cls := .type "tuple_iterator", data := .fields #[.ref m, .int 0 0] }
abbrev mx2 (h : Heap) (m n : Addr) : Heap := (mx1 h m).push { cls := .type "list_iterator", data := .fields #[.ref n, .int 0 0] }
abbrev mx3 (h : Heap) (m n : Addr) : Heap := (mx2 h m n).push { cls := .type "tuple", data := .seq #[.ref h.objs.size, .ref (mx1 h m).objs.size] }
abbrev mx4 (h : Heap) (m n : Addr) : Heap := (mx3 h m n).push { cls := .type "tuple", data := .seq #[.none, .none] }
abbrev mx5 (h : Heap) (m n : Addr) : Heap := (mx4 h m n).push { cls := .type "zip", data := .fields #[.none, .bool false, .bool false, .ref (mx2 h m n).objs.size, .ref (mx3 h m n).objs.size] }
section
variable {prog : Program} {w : World} {A : Around} {E : Value → Shared → Prop} {s : Shared}
end
def zipX2 (ds : List D) (Q : List D → Prop) : Prop := match ds with
  | [a, b] => match a, b with
    | .tup xs, .tup ys => Q (zipD xs ys)
    | .lst xs, .lst ys => Q (zipD xs ys)
    | .frl xs, .lst ys => Q (zipD xs ys)
    | .lst xs, .frl ys => Q (zipD xs ys)
    | .tup xs, .lst ys => Q (zipD xs ys)
    | _, _ => False
  | _ => False
def wiZipX (wa : WA) : WI := fun ρ μ Q Xd => wa ρ μ (fun ds μ1 => zipX2 ds fun es => Q es μ1) Xd
end DL

set_option Elab.async false
set_option linter.all false
set_option maxRecDepth 100000
set_option maxHeartbeats 4000000
set_option autoImplicit false
namespace DL
open PySem PySem.Spec PyProof.Rows L2 RZ
/-! ### enumerate(a tuple) -/
section
variable {prog : Program} {w : World} {A : Around} {E : Value → Shared → Prop} {s : Shared} {en it m : Addr} {i : Nat} {ps : Array Value} {p old : Value}
abbrev en1 (h : Heap) (m : Addr) : Heap := h.push { cls := .type "tuple_iterator", data := .fields #[.ref m, .int 0 0] }
abbrev en2 (h : Heap) (m : Addr) : Heap := (en1 h m).push { cls := .type "enumerate", data := .fields #[.none, .bool false, .ref h.objs.size, rawInt 0, .none, .none] }
end
def enX (ds : List D) (Q : List D → Prop) : Prop := match ds with
  | [.lst es] => Q (enumD es)
  | [.frl es] => Q (enumD es)
  | [.tup es] => Q (enumD es)
  | _ => False
def wiEnumX (wa : WA) : WI := fun ρ μ Q Xd => wa ρ μ (fun ds μ1 => enX ds fun es => Q es μ1) Xd
end DL

set_option Elab.async false
set_option linter.all false
set_option maxRecDepth 100000
set_option maxHeartbeats 4000000
set_option autoImplicit false
namespace DL
open PySem PySem.Spec PyProof.Rows L2
/-! ### sum of a list or a tuple of ints -/
section
variable {prog : Program} {w : World} {A : Around} {E : Value → Shared → Prop} {s : Shared} {l : Addr}
end
def fSumX : FN := fun xs μ Q => match xs with
  | [.tup ds] => ∃ ns, intsD ds = some ns ∧ Q (.int ns.sum) μ
  | [x] => lstInts x fun ns => Q (.int ns.sum) μ
  | _ => False
end DL

set_option Elab.async false
set_option linter.all false
set_option maxRecDepth 100000
set_option maxHeartbeats 4000000
set_option autoImplicit false
namespace DL
open PySem PySem.Spec PyProof.Rows L2
/-! ### f(e) in an except suite: a def that gets the caught exception -/
abbrev XSp := Str → List Str → List D → Mu → (D → Mu → Prop) → Prop
def startX (N : List Str) (c : Str) (ks : List Str) (es : List D) : DS := (List.replicate N.length Sl.no).set 0 (.exn c ks es)
def toSpX (K : PySem.W.Frag) (mg : Str → Option Value) (a : Addr) (cls : Value) (d : Option Addr) (sp : XSp) (H : Hp) (Q : VK) : Prop :=
  ∃ (Z : Addr → Prop) (m : List Addr) (μ : Mu) (c : Str) (ks : List Str) (es : List D) (C dd : Addr) (vs : List V) (Qd : D → Mu → Prop), MuOk ⟨K, mg, none⟩ Z m μ H ∧ exOf a cls d = some (a, C, dd) ∧ mg c = some (.ref C) ∧ vis Z m H dd = some (.xd (ks.zip vs)) ∧ ks.length = es.length ∧
    Reps ⟨K, mg, none⟩ m (vis Z m H) es vs ∧ sp c ks es μ Qd ∧ ∀ v H', VPost ⟨K, mg, none⟩ Z m H Qd v H' → Q v H'
structure FnX (P : Program) (wd : World) (K : PySem.W.Frag) (mg : Str → Option Value) (bs : Heap) (k : Nat) (f : Addr) (fd : FuncData) (ps : List Str) (sp : XSp) : Prop where
  one : ps.length = 1
  run : ∀ (A : Around) (fr : List Env) (s : Shared) (H : Hp) (args : Args) (a : Addr) (oe : Obj) (cls : Value) (d : Option Addr) (Q : VK), L2H.RoomH k A → A.guards = some [] → A.handled = some (.ref a) → L2H.PinOk fr H s (a, oe) → Zc cls d oe → (∃ vs, oe.data = .fields vs) →
    Env0 P wd K mg bs A fr s H → BindsTo s fd args (ps.zip [.ref a]) → toSpX K mg a cls d sp H Q → codeAny (model P wd) A (.call (.ref f) args) (CR (L2.CX P wd) fr P wd H s Q (fun _ _ _ => False)) s
theorem mark_eq {A : Around} {v : Value} (h : A.handled = some v) (env : Env) : (A.deeper env).mark (some v) = A.deeper env := by
  cases A
  cases h
  rfl
theorem repl_own {Z : Addr → Prop} {σ : L2.St} {n : Nat} : ownW Z σ (List.replicate n Sl.no) = Z := by
  funext b
  apply propext
  constructor
  · rintro (h | ⟨i, e, h⟩)
    · exact h
    · rw [List.getElem?_replicate] at h
      split at h <;> cases h
  · exact .inl
theorem SR.blank {G : Gx} {Z : Addr → Prop} {m : List Addr} {H : Hp} {μ : Mu} {σ : L2.St} (M : MuOk G Z m μ H) : SR G Z m σ H (List.replicate σ.length Sl.no) μ := by
  have no : ∀ {i : Nat} {x : Sl}, (List.replicate σ.length Sl.no)[i]? = some x → x = .no := fun {i x} h => by
    rw [List.getElem?_replicate] at h
    split at h
    · exact (Option.some.inj h).symm
    · cases h
  refine ⟨by rw [List.length_replicate], by rw [repl_own]; exact M, fun i d e => ?_, fun i a c e => ?_, fun i j a c c' e _ => ?_, fun i c ks ds e => ?_⟩
  all_goals cases no e
theorem wp_around {α : Type} {M : Model} {A B : Around} {x : Sem α} {Q : α → Shared → Prop} {E : Value → Shared → Prop} {s : Shared} (e : A = B) (h : wpAny M A x Q E s) : wpAny M B x Q E s := e ▸ h
section
variable {P : Program} {w : World} {K : PySem.W.Frag} {mg : Str → Option Value} {base : Heap}
theorem def_okX {x qual : Str} {params : Arguments} {body : List Stmt} {scope : Scope} {dvs : List V} {kws : List (Str × V)} {f : Addr} {fd : FuncData} {N ps : List Str} {k : Nat} {wb : WS} (F : FunD K x qual params body scope dvs kws f fd) (S : FnScope N ps scope) (h1 : ps.length = 1)
    (hbody : ∀ (cdv : Value) (A : Around) (fr : List Env) (s : Shared) (H : Hp) (E : XK) (a : Addr) (oe : Obj) (cls : Value) (d : Option Addr), L2H.RoomH k (A.deeper (envOfC qual scope s.heap.objs.size f cdv)) → (A.deeper (envOfC qual scope s.heap.objs.size f cdv)).guards = some [] → Zc cls d oe → (∃ vs, oe.data = .fields vs) →
      DSs (exOf a cls d) WF ((cxOf (L2.CX P w) P w K mg base N qual scope f cdv A fr s H E).suite a [(a, oe)]) body wb) : FnX P w K mg base (k + 1) f fd ps (fun c ks es μ Q => wb (defE Q fun _ _ _ _ => False) (startX N c ks es) μ) := by
  obtain ⟨oc, od, dV, kV, doc, pm, an, cdv, ct, osl, rfl, lk, hcd, _, _⟩ := F.ex
  refine ⟨h1, fun A fr s H args a oe cls d Q room gd hh pin hz hf env bd hsp => ?_⟩
  have kin : K.In s.heap := env.mod.kin.keeps fun b o e => (env.bs b o e).1
  have nolim : s.heap.NoLimit := env.mod.nolimit.keeps fun b o e => (env.bs b o e).1
  have rv : Vals [V.ref a] [Value.ref a] := .cons rfl .nil
  have kinds : ∀ y ∈ ps.zip [Value.ref a], scope.names.lookup y.1 = some .local ∨ (scope.names.lookup y.1 = some .cell ∧ ((cellsFrom (s.heap.objs.size + 1) scope.names []).lookup y.1).isSome = true) := by
    rintro ⟨n, v⟩ hy
    exact (S.par n (List.of_mem_zip hy).1).elim .inl fun q => .inr ⟨q, PySem.W.cellsFrom_some _ _ _ (.inl q)⟩
  refine codeAny_call_function room.depth (kin _ _ lk) rfl S.co S.gen rfl (PySem.W.codeRec_of kin hcd) (bd _ _ _ _ ?_)
  refine wpAny_newFunctionEnv_cells S.kind kinds fun env1 he1 s1 made => ?_
  subst he1
  refine ⟨nolim.keeps made.toInCall.keep, codeAny_func ?_⟩
  have I0 := L2H.inv_startH (CX := L2.CX P w) (E := fun _ _ _ => False) S pin env (show [V.ref a].length = ps.length by rw [h1]; rfl) rv made
  have B := hbody cdv A fr s H (fun _ _ _ => False) a oe cls d (room.deeper _) gd hz hf
  have eA := mark_eq hh (envOfC qual scope s.heap.objs.size f cdv)
  have I : Inv ((cxOf (L2.CX P w) P w K mg base N qual scope f cdv A fr s H (fun _ _ _ => False)).suite a [(a, oe)]) [] (L2.start N [V.ref a]) H s1 := by
    have ok := I0.ok
    exact ⟨⟨ok.mod, ok.kind, ok.glob, ok.blt, ok.above, ok.inj, ok.has, ok.cab, (fun z => absurd (show false = true from z) Bool.false_ne_true), ok.frames, ok.stk, ok.exf, ok.bs, ok.bsz, ok.noex, ok.exfs, ok.funs, ok.frf⟩,
      I0.os, I0.bare, I0.base, I0.loc, I0.cell, I0.free, I0.freeC, I0.pin, I0.hok, I0.len⟩
  obtain ⟨Z, m, μ, c, ks, es, C, dd, vs, Qd, M, hx, hC, hdd, hl, rs, q, kq⟩ := hsp
  have hlen : (L2.start N [V.ref a]).length = N.length := I.len
  have hN0 : 0 < N.length := by
    have hpl : ps.length ≤ N.length := by have := congrArg List.length S.pre; rw [List.length_take] at this; omega
    omega
  have S0 : SR ⟨K, mg, some (a, C, dd)⟩ Z m (L2.start N [V.ref a]) H (List.replicate (L2.start N [V.ref a]).length Sl.no) μ := SR.blank M.ex
  obtain ⟨S1, s1'⟩ := S0.setX (i := 0) (x := .exn c ks es) (o := some (.ref a)) (fun _ _ z => nomatch z) (fun _ z => nomatch z) (fun c2 ks2 ds2 e => by
    cases e
    rw [repl_own]
    exact ⟨a, C, dd, vs, rfl, hC, rfl, hdd, hl, Reps.ex _ _ rs⟩)
  have eσ : (L2.start N [V.ref a]).set 0 (some (.ref a)) = L2.start N [V.ref a] := by
    unfold L2.start
    rfl
  rw [eσ] at S1 s1'
  rw [hlen] at S1 s1'
  have hq : liftS ⟨K, mg, exOf a cls d⟩ WF wb { nx := fun _ H' => Q .non H', rt := Q } (L2.start N [V.ref a]) H := by
    rw [hx]
    refine ⟨Z, m, startX N c ks es, μ, defE Qd fun _ _ _ _ => False, S1, q, fun σ' H' P => ?_, fun v H' P => ?_, fun σ' H' P => ?_, fun σ' H' P => ?_, fun cls d σ' H' P => ?_⟩
    · obtain ⟨m', ρ', μ', S', s', q'⟩ := P
      have z := s1'.same.trans s'.same
      rw [repl_own] at z
      exact kq _ _ ⟨m', .non, μ', ⟨s'.pre, s'.hid, S'.mu.out_own.ex, z.trans vis_own⟩, by rw [Rep], q'⟩
    · obtain ⟨m', d, μ', h1, h2, h3, h4, h5, h6⟩ := P
      have z := s1'.same.trans h4
      rw [repl_own] at z
      exact kq _ _ ⟨m', d, μ', ⟨h1, h2, h3.ex, z⟩, Rep.ex _ _ h5, h6⟩
    · obtain ⟨m', ρ', μ', S', s', q'⟩ := P
      exact q'.elim
    · obtain ⟨m', ρ', μ', S', s', q'⟩ := P
      exact q'.elim
    · obtain ⟨_, _, _, _, _, _, _, _, _, _, _, _, _, _, _, _, _, z⟩ := P
      exact z.elim
  have R := B.run [] s1 (L2.start N [V.ref a]) H _ I hq
  refine wp_around eA (wpAny_mono R (fun fl s2 hs => ?_) fun er s2 hs => False.elim hs)
  match fl, hs with
  | .ret u, ⟨v, σ2, H2, J, rv2, q⟩ => exact ⟨v, H2, J.os, J.bare, J.base, J.hok, rv2, q⟩
  | .next, ⟨σ2, H2, J, q⟩ => exact ⟨V.non, H2, J.os, J.bare, J.base, J.hok, rfl, q⟩
  | .brk, ⟨_, _, _, q⟩ => exact q.elim
  | .cont, ⟨_, _, _, q⟩ => exact q.elim
structure HotD (P : Program) (w : World) (K : PySem.W.Frag) (mg : Str → Option Value) (base : Heap) (k : Nat) (x : Str) (ps : List Str) (sp : XSp) : Prop where
  ex : ∃ f fd, mg x = some (.ref f) ∧ PySem.W.keepIn K (.ref f) = true ∧ Binds K fd ps [] ∧ FnX P w K mg base k f fd ps sp
end
def wHotX (sp : XSp) (i : Nat) : WE := fun ρ μ Q _ => KExn (ρ[i]?) fun c ks es => sp c ks es μ Q
theorem room64H {k : Nat} {A : Around} (h : L2H.RoomH k A) : A.units + 64 < cLine := by have := h.un; omega
section
variable {X : Cx} {a : Addr} {oe : Obj} {cls : Value} {d : Option Addr} {pn : List (Addr × Obj)} {pos p1 p2 : Pos} {x y : Str} {i j k : Nat} {ps : List Str} {sp : XSp}
theorem de_hotX (C : HotD X.prog X.w X.K X.mg X.base k y ps sp) (hr : Room j X.A) (hkj : k ≤ j) (hgd : X.A.guards = some []) (hz : Zc cls d oe) (hf : ∃ vs, oe.data = .fields vs) (hg : Gl X y) (hN : X.N[i]? = some x)
    (hv : Vis X.env.scope x := by first | exact Or.inl rfl | exact Or.inr (Or.inl rfl) | exact Or.inr (Or.inr rfl)) (hd : (x == ("__debug__" : Str)) = false := by decide) (hcd : (x == ("__classdict__" : Str)) = false := by decide) (hdb : (y == ("__debug__" : Str)) = false := by decide)
    (he : starEach [Expr.Name x p2] X.env = (false, eval (.Name x p2) X.env) :: starEach [] X.env := by rfl) (hpl : (backTo pos (starEach [] X.env)).any (·.1) = false := by rfl) :
    DE (exOf a cls d) WF (X.suite a ((a, oe) :: pn)) (.Call (.Name y p1) [.Name x p2] [] pos) (wHotX sp i) := by
  obtain ⟨f, fd, hm, hk, hb, F⟩ := C.ex
  have A1 : PA (X.suite a ((a, oe) :: pn)) [.Name x p2] (tCons (tVar i) tNil) := pa_cons (pe_var (X := X.suite a ((a, oe) :: pn)) hN hv hd hcd) pa_nil
  refine ⟨fun pins s σ H Q' I q => ?_⟩
  obtain ⟨Z, m, ρ, μ, Q, Xd, S, q, kq, kx⟩ := q
  obtain ⟨c, ks, es, e, q⟩ := KExn_of q
  obtain ⟨a', C, dd, vs, h1, h2, h3, h4, h5, h6⟩ := S.exn i c ks es e
  obtain ⟨rfl, rfl, rfl⟩ := exOf_some h1
  have hsp : toSpX X.K X.mg a' (.ref C) (some dd) sp H Q' := ⟨ownW Z σ ρ, m, μ, c, ks, es, C, dd, vs, Q, S.mu.ex, rfl, h2, h4, h5, Reps.ex _ _ h6, q, fun v H' P => by
    obtain ⟨m', dv, μ', s', r', q'⟩ := P
    exact kq v H' ⟨m', dv, μ', ⟨s'.pre, s'.hid, s'.mu.ex, s'.same⟩, Rep.ex _ _ r', q'⟩⟩
  refine wpAny_Call_Name_kw (ld_glob (X := X.suite a' ((a', oe) :: pn)) I hg hm ?_ hdb)
  refine PySem.W.callWith_K (h₀ := X.base) I.ok.mod.kin hk (thn (A1.run pos pins s σ H (fun us H1 => us = [.ref a'] ∧ H1 = H) I ⟨_, h3, rfl, rfl⟩) fun us s1 ⟨us', H1, I1, rv, e1, e2⟩ => ⟨I1.kIn, ?_⟩) he hpl
  subst e1 e2
  obtain ⟨u, rfl, ru⟩ := rv.one
  cases ru
  have bd := hb s1 [.ref a'] I1.kIn (by rw [F.one]; rfl)
  rw [List.append_nil] at bd
  have P1 := I1.pin (a', oe) (List.mem_append_left _ List.mem_cons_self)
  have hpin : L2H.PinOk X.stack H1 s1 (a', oe) := ⟨P1.1, P1.2.1, fun hm => (List.mem_cons.mp (I1.stkSub a' hm)).elim P1.2.2.1 P1.2.2.2.1, P1.2.2.2.2⟩
  have R := F.run (X.A.mark (some (.ref a'))) X.stack s1 H1 ⟨[.ref a'], []⟩ a' oe (.ref C) (some dd) Q' (⟨by have := (hr.mono hkj).dp; exact this, by have := (hr.mono hkj).un; exact this⟩) hgd rfl hpin hz hf I1.env0 bd hsp
  refine wpAny_call (codeAny_mono R fun r s' hq => ?_)
  match r, hq with
  | .error er, hq =>
    obtain ⟨_, _, _, _, _, _, _, _, _, _, _, _, z⟩ := hq
    exact z.elim
  | .ok (.ret u), hq => exact I1.after hq
end
end DL

set_option Elab.async false
set_option linter.all false
set_option maxRecDepth 100000
set_option maxHeartbeats 4000000
set_option autoImplicit false
namespace DL
open PySem PySem.Spec PyProof.Rows L2
/-! ### xs.index(x), xs.count(x) of data; xs[::-1] -/
def isL (x : D) (k : Prop) : Prop := match x with
  | .lst _ => k
  | .frl _ => k
  | _ => False
def wMb (f : F2) (wo wa : WE) : WE := fun ρ μ Q Xd => wo ρ μ (fun x μ1 => isL x (wa ρ μ1 (fun y μ2 => f x y μ2 Q) Xd)) Xd
section
variable {ex : Option (Addr × Addr × Addr)} {W : WX} {X : Cx} {e o : Expr} {wa wo : WE} {pos apos : Pos} {id : String} {name : Str} {r : V → List V → Hp → VK → Prop} {f : F2}
/-! xs[::-1] -/
def fRev : F1 := fun x μ Q => lstOr x fun ds => Q (.lst ds.reverse) μ
end
end DL

set_option Elab.async false
set_option linter.all false
set_option maxRecDepth 100000
set_option maxHeartbeats 4000000
set_option autoImplicit false
namespace DL
open PySem PySem.Spec PyProof.Rows L2
/-! ### ==, != of lists whose items have an own `__eq__`, all alike -/
section
variable {prog : Program} {w : World} {A : Around} {R : Result → Shared → Prop}
end
def prsO (c : Str) (sp : DSp) (μ : Mu) (ds es : List D) : Prop := ds.length = es.length ∧ ∀ (i : Nat) d e, ds[i]? = some d → es[i]? = some e → isCls c d μ (isCls c e μ (sp [d, e] μ (fun r μ' => r = .bl true ∧ μ' = μ) xF))
section
variable {X : Cx} {k j : Nat} {ps : List Str} {c : Str} {Ts : List String} {Cs : List Str} {sp : DSp} {r : Bool}
end
end DL

set_option Elab.async false
set_option linter.all false
set_option maxRecDepth 100000
set_option maxHeartbeats 4000000
set_option autoImplicit false
namespace DL
open PySem PySem.Spec PyProof.Rows L2
/-! ### o.m(..) where o is of one of two classes, each with its own m -/
def wMethU (c1 c2 m : Str) (sp1 sp2 : DSp) (wo : WE) (wa : WA) : WE := fun ρ μ Q Xd => wo ρ μ (fun x μ1 => hasCls c1 m x μ1 (wa ρ μ1 (fun ds μ2 => sp1 (x :: ds) μ2 Q Xd) Xd) ∨ hasCls c2 m x μ1 (wa ρ μ1 (fun ds μ2 => sp2 (x :: ds) μ2 Q Xd) Xd)) Xd
section
variable {W : WX} {X : Cx} {e o : Expr} {es : List Expr} {wo : WE} {ws : WA} {pos p apos : Pos} {k1 k2 j : Nat} {ps1 ps2 : List Str} {c1 c2 m : Str} {sp1 sp2 : DSp}
end
end DL

set_option Elab.async false
set_option linter.all false
set_option maxRecDepth 100000
set_option maxHeartbeats 4000000
set_option autoImplicit false
namespace DL
open PySem PySem.Spec PyProof.Rows L2
/-! ### own special methods, of one class or of several with one def: o[i], ~o, o(x), len(o) -/
structure SpcD (P : Program) (w : World) (K : PySem.W.Frag) (mg : Str → Option Value) (base : Heap) (k : Nat) (cs : List Str) (nm : Str) (ps : List Str) (sp : DSp) : Prop where
  ex : ∃ f fd, PySem.W.isFn K (.ref f) = true ∧ PySem.W.fnIn K f = true ∧ (∀ c ∈ cs, ∃ C, mg c = some (.ref C) ∧ PySem.W.findIn K (.ref C) nm = some (some (.ref f)) ∧ PySem.W.noSeq K C = true) ∧ Binds K fd ps [] ∧ FnG P w K mg base k f fd ps (toSp ⟨K, mg, none⟩ sp)
def isClsU (cs : List Str) (d : D) (μ : Mu) (Q : Prop) : Prop := match insD d μ with
  | some (c', _, _) => c' ∈ cs ∧ Q
  | none => False
theorem isClsU_of {cs : List Str} {d : D} {μ : Mu} {Q : Prop} (h : isClsU cs d μ Q) : ∃ c ks ds, insD d μ = some (c, ks, ds) ∧ c ∈ cs ∧ Q := by
  unfold isClsU at h
  split at h
  · rename_i e
    obtain ⟨h1, h2⟩ := h
    exact ⟨_, _, _, e, h1, h2⟩
  · exact h.elim
section
variable {W : WX} {X : Cx} {k : Nat} {f : Addr} {fd : FuncData} {ps : List Str} {sp0 : Sp}
theorem run_fnG1 {pins : List (Addr × Obj)} {σ : L2.St} {H : Hp} {s : Shared} {Q : VK} {us : List Value} {vs : List V} (F : FnG X.prog X.w X.K X.mg X.base k f fd ps sp0) (hr : Room (k + 1) X.A) (hgd : X.A.guards = some []) (hb : Binds X.K fd ps []) (tk : Takes X W)
    (I : Inv X pins σ H s) (rv : Vals vs us) (h : sp0 vs H Q (L2.WE W σ)) : wpAny (model X.prog X.w) X.A.in1 (call (.ref f) us) (EP X pins σ Q) X.xe s := by
  have e0 : us.length = ps.length := rv.length.symm.trans (F.len _ _ _ _ h)
  have bd : BindsTo s fd ⟨us, []⟩ (ps.zip us) := by simpa using hb s us I.kIn (by simpa using e0)
  refine wpAny_call (codeAny_mono (F.run X.A.in1 X.stack s H ⟨us, []⟩ us vs Q _ hr.in1 hgd I.env0.in1 bd rv h) fun res s2 hres => ?_)
  match res, hres with
  | .error er, hres => exact passAt tk σ pins H s er s2 I hres
  | .ok (.ret u), hres => exact I.after hres
end
section
variable {W : WX} {X : Cx} {k : Nat} {f : Addr} {fd : FuncData} {ps : List Str} {sp0 : Sp}
end
section
variable {W : WX} {X : Cx} {a b : Expr} {wa wb : WE} {ws : WA} {pos p apos : Pos} {k j : Nat} {ps cs : List Str} {nm : Str} {sp : DSp}
/-- an instance of one of the classes -/
def InU (K : PySem.W.Frag) (mg : Str → Option Value) (f : Addr) (nm : Str) (H : Hp) (q : Addr) : Prop := ∃ C dx fs, H q = some (.ins C dx fs) ∧ PySem.W.findIn K (.ref C) nm = some (some (.ref f)) ∧ PySem.W.noSeq K C = true
theorem inU_of {K : PySem.W.Frag} {mg : Str → Option Value} {G : Gx} (hG : G.mg = mg) {f : Addr} (hc : ∀ c ∈ cs, ∃ C, mg c = some (.ref C) ∧ PySem.W.findIn K (.ref C) nm = some (some (.ref f)) ∧ PySem.W.noSeq K C = true) {Z : Addr → Prop} {m : List Addr} {μ : Mu} {H : Hp} {x : D} {v : V} {c : Str} {ks : List Str} {ds : List D}
    (M : MuOk G Z m μ H) (r : Rep G m (vis Z m H) x v) (hi : insD x μ = some (c, ks, ds)) (hm : c ∈ cs) : ∃ q, v = .ref q ∧ InU K mg f nm H q := by
  subst hG
  obtain ⟨q, C', dx, vs, rfl, g, hp, l, rs⟩ := ins_rep M r hi
  obtain ⟨C, g2, h1, h2⟩ := hc c hm
  rw [g2] at g
  cases g
  exact ⟨q, rfl, C', dx, _, hp, h1, h2⟩
/-- o[i] -/
def wIxO (cs : List Str) (sp : DSp) (wa wb : WE) : WE := fun ρ μ Q Xd => wa ρ μ (fun x μ1 => wb ρ μ1 (fun i μ2 => isClsU cs x μ2 (sp [x, i] μ2 Q Xd)) Xd) Xd
def tIxO (K : PySem.W.Frag) (mg : Str → Option Value) (f : Addr) (nm : Str) (sp : Sp) (W : WX) (ta tb : TE) : TE := fun σ H Q => ta σ H fun x H1 => tb σ H1 fun y H2 => ∃ q, x = .ref q ∧ InU K mg f nm H2 q ∧ sp [x, y] H2 Q (L2.WE W σ)
theorem lift_ixO {f : Addr} (hc : ∀ c ∈ cs, ∃ C, X.mg c = some (.ref C) ∧ PySem.W.findIn X.K (.ref C) nm = some (some (.ref f)) ∧ PySem.W.noSeq X.K C = true) {σ : L2.St} {H : Hp} {Q' : VK} (q : lift (gx X none) W (wIxO cs sp wa wb) σ H Q') :
    tIxO X.K X.mg f nm (toSp (gx X none) sp) W (lift (gx X none) W wa) (lift (gx X none) W wb) σ H Q' := by
  obtain ⟨Z, m, ρ, μ, Q, Xd, S, q, k, kx⟩ := q
  refine ⟨Z, m, ρ, μ, _, Xd, S, q, fun v H1 P => ?_, kx⟩
  obtain ⟨m1, x, μ1, s1, r1, q1⟩ := P
  refine ⟨Z, m1, ρ, μ1, _, Xd, S.step s1, q1, fun u H2 P => ?_, fun cls d H' P => kx cls d H' (XPost.from s1 P)⟩
  obtain ⟨m2, y, μ2, s2, r2, q2⟩ := P
  obtain ⟨c, ks, ds, hi, hcm, q3⟩ := isClsU_of q2
  have r1' := Rep.mono s2.pre s2.same _ _ r1
  obtain ⟨q, rfl, iu⟩ := inU_of (G := gx X none) rfl hc s2.mu r1' hi hcm
  have s12 := s1.trans s2
  exact ⟨q, rfl, iu, _, m2, μ2, [x, y], Q, Xd, s2.mu, Reps.cons r1' (Reps.cons r2 Reps.nil), q3, fun v H' P => k v H' (VPost.from s12 P), fun cls d H' P => kx cls d H' (XPost.from s12 P)⟩
theorem de_ixO (D : SpcD X.prog X.w X.K X.mg X.base k cs "__getitem__" ps sp) (hr : Room j X.A) (hkj : k + 1 ≤ j) (hgd : X.A.guards = some []) (tk : Takes X W) (h1 : DE none W X a wa) (h2 : DE none W X b wb) (hs : PlainIx b := by exact fun _ _ => rfl)
    (hsl : ∀ v u, subscripted b true v u = runValue (.builtin "lifetime.subscript" ⟨[v, u], []⟩) := by intro _ _; with_unfolding_all rfl) : DE none W X (.Subscript a b pos) (wIxO cs sp wa wb) := by
  obtain ⟨f, fd, g1, g2, g3, g4, F⟩ := D.ex
  refine ⟨fun pins s σ H Q I h => ?_⟩
  refine Subscript_ (binT h1 h2 I (lift_ixO g3 h) fun v u s2 x y H2 I2 rx ry q => ?_)
  obtain ⟨p0, rfl, ⟨C, dx, fs, hp, f1, f2⟩, q⟩ := q
  obtain rfl : v = Value.ref p0 := rx
  obtain ⟨mA, O2, _⟩ := ins_get I2.hok hp
  obtain ⟨od, J, _⟩ := O2.look
  obtain ⟨m0, hF⟩ := I2.fr
  exact PySem.W.sub_K hF I2.ok.mod.kin J f1 g2 g1 (run_fnG1 (us := [.ref p0, u]) (vs := [.ref p0, y]) F (hr.mono hkj) hgd g4 tk I2 (.cons rfl (.cons ry .nil)) q) (hsl _ _)
/-- ~o -/
def wInv (cs : List Str) (sp : DSp) (wa : WE) : WE := fun ρ μ Q Xd => wa ρ μ (fun x μ1 => isClsU cs x μ1 (sp [x] μ1 Q Xd)) Xd
/-- o(x, ..) -/
def wCallO (cs : List Str) (sp : DSp) (wo : WE) (wa : WA) : WE := fun ρ μ Q Xd => wo ρ μ (fun x μ1 => isClsU cs x μ1 (wa ρ μ1 (fun ds μ2 => isClsU cs x μ2 (sp (x :: ds) μ2 Q Xd)) Xd)) Xd
/-- len(o) -/
def fLenO (cs : List Str) (sp : DSp) : FN := fun xs μ Q => match xs with
  | [x] => isClsU cs x μ (sp [x] μ (fun d μ1 => match d with
    | .int n => 0 ≤ n ∧ n < 2 ^ 62 ∧ Q (.int n) μ1
    | _ => False) xF)
  | _ => False
def rLenO (K : PySem.W.Frag) (mg : Str → Option Value) (f : Addr) (sp : Sp) : List V → Hp → VK → Prop := fun xs H Q => ∃ q, xs = [.ref q] ∧ InU K mg f "__len__" H q ∧ ∀ E, sp [.ref q] H (fun v H' => ∃ n : Int, v = .int n ∧ 0 ≤ n ∧ n < 2 ^ 62 ∧ Q (.int n) H') E
theorem sn_lenO {G : Gx} {f : Addr} (hc : ∀ c ∈ cs, ∃ C, G.mg c = some (.ref C) ∧ PySem.W.findIn G.K (.ref C) "__len__" = some (some (.ref f)) ∧ PySem.W.noSeq G.K C = true) : SN G (rLenO G.K G.mg f (toSp G sp)) (fLenO cs sp) := by
  intro Z m μ H xs us Q Q' M rs h kk
  unfold fLenO at h
  split at h
  · rename_i x
    obtain ⟨c, ks, ds, hi, hcm, q3⟩ := isClsU_of h
    obtain ⟨v, r, rfl, rx, rn⟩ := rs.uncons
    rw [Reps] at rn
    subst rn
    obtain ⟨q, rfl, iu⟩ := inU_of (G := G) rfl hc M rx hi hcm
    refine ⟨q, rfl, iu, fun E => ⟨Z, m, μ, [x], _, xF, M, Reps.cons rx Reps.nil, q3, fun v H' P => ?_, fun cls d H' P => (xpF P).elim⟩⟩
    obtain ⟨m', d, μ', s1, r1, q1⟩ := P
    split at q1
    · rename_i n
      rw [Rep] at r1
      exact ⟨n, r1, q1.1, q1.2.1, kk _ _ ⟨m', _, μ', s1, by rw [Rep], q1.2.2⟩⟩
    · exact q1.elim
  · exact h.elim
theorem lenO_K {prog : Program} {w : World} {A : Around} {E : Value → Shared → Prop} {s : Shared} {K : PySem.W.Frag} {x C f : Addr} {ox : Obj} {od : Option Obj} {Q : Value → Shared → Prop} (X : K.In s.heap) (I : PySem.W.InstAt s.heap x ox C od) (hs : PySem.W.findIn K (.ref C) "__len__" = some (some (.ref f))) (hf : PySem.W.isFn K (.ref f) = true)
    (hcall : wpAny (model prog w) A.in1 (call (.ref f) [.ref x]) (fun r s' => ∃ n u, r = .int n u ∧ 0 ≤ n ∧ n < 2 ^ 63 ∧ Q (.int n s'.toks) { s' with toks := s'.toks + 1 }) E s) :
    wpAny (model prog w) A (call (.builtin "len") [.ref x]) Q E s := by
  refine PySem.Calls.call_function_entry kind_len plain_len entry_len (args_len1 _) ?_
  unfold Builtin.«len»
  refine wpAny_bind (m := oneArg "len" _) (wpAny_pure ?_)
  refine wpAny_bind (m := callSpecial? (.ref x) (Str.ofString "__len__")) (PySem.W.special_fn X I hs (beq_iff_eq.mp hf) (wpAny_mono hcall (fun r s' hr => ?_) fun _ _ y => y))
  obtain ⟨n, u, rfl, h0, h1, hq⟩ := hr
  refine wpAny_bind (wpAny_holding (wpAny_pure ?_))
  refine wpAny_bind (wpAny_letGo ?_)
  show wpAny _ _ (if n < 0 then _ else _) _ _ _
  rw [if_neg (by omega)]
  show wpAny _ _ (if n ≥ 2 ^ 63 then _ else _) _ _ _
  rw [if_neg (by omega)]
  exact wpAny_bind (wpAny_mkInt (wpAny_pure ⟨_, rfl, hq⟩))
theorem call_lenO {f : Addr} {fd : FuncData} {sp0 : Sp} (g1 : PySem.W.isFn X.K (.ref f) = true) (F : FnG X.prog X.w X.K X.mg X.base k f fd ps sp0) (hr : Room (k + 1) X.A) (hgd : X.A.guards = some []) (hb : Binds X.K fd ps []) : CallR X (.builtin "len") (rLenO X.K X.mg f sp0) := by
  intro pins s σ H xs us Q I rv h
  obtain ⟨q, rfl, ⟨C, dx, fs, hp, f1, f2⟩, h⟩ := h
  obtain ⟨u, r2, rfl, ru, rn⟩ : ∃ u r2, us = u :: r2 ∧ RelV (.ref q) u ∧ Vals [] r2 := by
    cases rv with
    | cons a b => exact ⟨_, _, rfl, a, b⟩
  cases rn
  obtain rfl : u = Value.ref q := ru
  obtain ⟨mA, O2, _⟩ := ins_get I.hok hp
  obtain ⟨od, J, _⟩ := O2.look
  have bd : BindsTo s fd ⟨[.ref q], []⟩ (ps.zip [.ref q]) := by
    have := hb s [.ref q] I.kIn (by simpa using F.len _ _ _ _ (h fun _ _ _ => False))
    simpa using this
  refine lenO_K I.kIn J f1 g1 (wpAny_call (codeAny_mono (F.run X.A.in1 X.stack s H ⟨[.ref q], []⟩ [.ref q] [.ref q] _ (fun _ _ _ => False) hr.in1 hgd I.env0.in1 bd (.cons rfl .nil) (h _)) fun res s2 out => ?_))
  match res, out with
  | .error er, out =>
    obtain ⟨_, _, _, _, _, _, _, _, _, _, _, _, z⟩ := out
    exact z.elim
  | .ok (.ret w2), out =>
    obtain ⟨v2, H', I3, rv2, n, rfl, h0, h1, q3⟩ := I.after out
    obtain ⟨t, rfl⟩ := rv2
    exact ⟨n, t, rfl, h0, by omega, .int n, H', I3.tok _, ⟨_, rfl⟩, q3⟩
theorem de_lenO {e : Expr} {p : Pos} (D : SpcD X.prog X.w X.K X.mg X.base k cs "__len__" ps sp) (hr : Room j X.A) (hkj : k + 1 ≤ j) (hgd : X.A.guards = some []) (hg : Gl X "len") (hm : X.mg "len" = none) (ha : DA none W X [e] ws)
    (he : starEach [e] X.env = (false, eval e X.env) :: starEach [] X.env := by rfl) (hpl : (backTo pos (starEach [] X.env)).any (·.1) = false := by rfl) :
    DE none W X (.Call (.Name "len" p) [e] [] pos) (wN (fLenO cs sp) ws) := by
  obtain ⟨f, fd, g1, g2, g3, g4, F⟩ := D.ex
  exact de_callB (call_lenO g1 F (hr.mono hkj) hgd g4) (sn_lenO (G := gx X none) g3) hg hm bt_len ha (by decide) (by decide) he hpl
end
/-! from the head's facts -/
def spcB (K : PySem.W.Frag) (cs : List Str) (d nm : Str) : Bool := PySem.W.isFn K (.ref (He.fAd K (d, some nm))) && (PySem.W.fnIn K (He.fAd K (d, some nm)) && cs.all fun c => (He.Fa.glo c).ok K && (He.eqO (PySem.W.findIn K (.ref (He.ga K c)) nm) (some (some (.ref (He.fAd K (d, some nm))))) && PySem.W.noSeq K (He.ga K c)))
theorem spcD_of {P : Program} {w : World} {K : PySem.W.Frag} {h : Heap} {mg : Str → Option Value} {base : Heap} {k : Nat} {cs : List Str} {d nm : Str} {ps : List Str} {sp : DSp} {fd : FuncData} (X : K.In h) (G : h.Ns mainGlobals mg)
    (B : spcB K cs d nm = true) (bi : Binds K fd ps []) (F : FnG P w K mg base k (He.fAd K (d, some nm)) fd ps (toSp ⟨K, mg, none⟩ sp)) : SpcD P w K mg base k cs nm ps sp := by
  obtain ⟨h1, B⟩ := He.ba B
  obtain ⟨h2, h3⟩ := He.ba B
  refine ⟨_, fd, h1, h2, fun c hc => ?_, bi, F⟩
  obtain ⟨q1, q2⟩ := He.ba (List.all_eq_true.mp h3 c hc)
  obtain ⟨q2, q3⟩ := He.ba q2
  exact ⟨_, He.glo_ok X G q1, He.eqO_ok q2, q3⟩
end DL

set_option Elab.async false
set_option linter.all false
set_option maxRecDepth 100000
set_option maxHeartbeats 4000000
set_option autoImplicit false
namespace DL
open PySem PySem.Spec PyProof.Rows L2
/-! ### a comprehension's list, kept as the def's own -/
noncomputable def without (H : Hp) (D : Addr) : Hp := fun b => open Classical in if b = D then none else H b
def sSetLcO (i : Nat) (w : WE) : WS := fun E ρ μ => w ρ μ (fun d μ1 => ∃ acc, d = .lst acc ∧ i < ρ.length ∧ ∀ p, E.nx (ρ.set i (.own p (.lst acc))) μ1) fun c ks es μ' => E.xc c ks es ρ μ'
section
variable {W : WX} {X : Cx} {elt tg iter : Expr} {ifs : List Expr} {scope : Scope} {own : List (Str × Nat)} {pos : Pos} {wi : WI} {g : TG} {k : WG} {tt : WT} {te : WE}
end
end DL

set_option Elab.async false
set_option linter.all false
set_option maxRecDepth 100000
set_option maxHeartbeats 2000000
/-! The Hook over a written list of addresses (no search of the heap in the kernel's run). -/
namespace DL
open PySem PySem.Spec PyProof.Rows L2
def obsL (as : List Addr) (fa : List He.Fa) (fn : List He5.DefA) (ex : PySem.W.Frag → Bool) (g : Addr → Option Obj) : AlY := (He5.obsA fa fn (He.frG g as), ex (He.frG g as))
def hookL (as : List Addr) (fa : List He.Fa) (fn : List He5.DefA) (ex : PySem.W.Frag → Bool) : PySem.W.Hook where
  α := AlY
  obs := fun s => obsL as fa fn ex s.heap.get?
  val := fun _ => (He5.valA fn, true)
  says := fun _ h => ∃ K : PySem.W.Frag, K.In h ∧ SaysY fa fn ex K
  of := fun _ _ e => ⟨_, He.frG_in, congrArg (fun z : AlY => z.1) e, congrArg (fun z : AlY => z.2) e⟩
  keeps := fun _ _ _ hx k => let ⟨K, hK, c⟩ := hx; ⟨K, PySem.W.Frag.In.keeps hK k, c⟩
theorem obsL_eq {as : List Addr} {fa : List He.Fa} {fn : List He5.DefA} {ex : PySem.W.Frag → Bool} {g : Addr → Option Obj} {s : Shared} (h : ∀ a, g a = s.heap.get? a) : obsL as fa fn ex g = (hookL as fa fn ex).obs s := by
  have e : g = s.heap.get? := funext h
  rw [e] <;> rfl
end DL

set_option Elab.async false
set_option linter.all false
set_option maxRecDepth 100000
set_option maxHeartbeats 2000000
/-! A comprehension in a suite (an exception is held). -/
namespace DL
open PySem PySem.Spec PyProof.Rows L2
section
variable {ex : Option (Addr × Addr × Addr)} {W : WX} {X : Cx} {elt tg iter : Expr} {ifs : List Expr} {scope : Scope} {own : List (Str × Nat)} {pos : Pos} {wi : WI} {g : TG} {k : WG} {tt : WT} {te : WE}
abbrev DTsX (ex : Option (Addr × Addr × Addr)) (X : Cx) (ifs : List Expr) (w : WT) : Prop := PTs X ifs (liftT (gx X ex) WF w)
end
end DL

set_option Elab.async false
set_option linter.all false
set_option maxRecDepth 100000
set_option maxHeartbeats 2000000
/-! A store into a list of the def's own: x[i] = v. -/
namespace DL
open PySem PySem.Spec PyProof.Rows L2
section
variable {X : Cx} {ix : Expr} {wi : WE} {pos p0 : Pos} {i : Nat} {x : Str}
def stO (i : Nat) (p : Addr) (ds : List D) (y d : D) (ρ : DS) (k : DS → Prop) : Prop := match y with
  | .int j => match ixN ds.length j with
    | some z => k (ρ.set i (.own p (.lst (ds.set z d))))
    | none => False
  | _ => False
theorem stO_of {i : Nat} {p : Addr} {ds : List D} {y d : D} {ρ : DS} {k : DS → Prop} (h : stO i p ds y d ρ k) : ∃ j z, y = .int j ∧ ixN ds.length j = some z ∧ k (ρ.set i (.own p (.lst (ds.set z d)))) := by
  unfold stO at h
  split at h
  · split at h
    · exact ⟨_, _, rfl, by assumption, h⟩
    · exact h.elim
  · exact h.elim
def subO (i : Nat) (wi : WE) (d : D) (ρ : DS) (μ : Mu) (Q : DS → Mu → Prop) (o : Option Sl) : Prop := match o with
  | some (.own p (.lst ds)) => wi ρ μ (fun y μ2 => stO i p ds y d ρ fun ρ' => Q ρ' μ2) xF
  | _ => False
theorem subO_of {i : Nat} {wi : WE} {d : D} {ρ : DS} {μ : Mu} {Q : DS → Mu → Prop} {o : Option Sl} (h : subO i wi d ρ μ Q o) : ∃ p ds, o = some (.own p (.lst ds)) ∧ wi ρ μ (fun y μ2 => stO i p ds y d ρ fun ρ' => Q ρ' μ2) xF := by
  unfold subO at h
  split at h
  · exact ⟨_, _, rfl, h⟩
  · exact h.elim
def kSubO (i : Nat) (wi : WE) : WG := fun d ρ μ Q => subO i wi d ρ μ Q (ρ[i]?)
theorem dg_subO (hN : X.N[i]? = some x) (hi : DE none WF X ix wi) (hv : Vis X.env.scope x := by first | exact Or.inl rfl | exact Or.inr (Or.inl rfl) | exact Or.inr (Or.inr rfl)) (hd : (x == ("__debug__" : Str)) = false := by decide) (hcd : (x == ("__classdict__" : Str)) = false := by decide)
    (ha : ∀ v, assign (.Subscript (.Name x p0) ix pos) X.env v = (do
      let ov ← holding [v] (eval (.Name x p0) X.env)
      let iv ← holding [v, ov] (eval ix X.env)
      standAt pos
      holding [v, ov, iv] (setItem ov iv v)
      release [v, ov, iv] []) := by intro _; rfl) : DG none X (.Subscript (.Name x p0) ix pos) (kSubO i wi) := pg_weak (pg_sub (pe_var hN hv hd hcd) hi set_list ha) fun v σ H Q' q => by
  obtain ⟨Z, m, ρ, μ, d, Q, S, r, q, k⟩ := q
  obtain ⟨p, ds, hi, q⟩ := subO_of q
  obtain ⟨hs, nz, vs0, hp0, rs0⟩ := S.own i p _ hi
  refine ⟨_, hs, Z, m, ρ, μ, _, _, S, q, fun y H2 P => ?_, fun cls dd H1 P => (xpF P).elim⟩
  obtain ⟨m2, yd, μ2, s2, r2, q2⟩ := P
  obtain ⟨j, z, rfl, e2, q3⟩ := stO_of q2
  rw [Rep] at r2
  have S2 := S.step s2
  obtain ⟨_, _, vs, hp, rs⟩ := S2.own i p _ hi
  have rd := Rep.mono s2.pre s2.same _ _ r
  refine ⟨p, vs, j, z, rfl, r2, hp, by rw [← rs.len]; exact e2, ?_⟩
  obtain ⟨S3, s3⟩ := S2.putOwn (o := .lst (vs.set z v)) (c' := .lst (ds.set z d)) hi ⟨vs.set z v, upd_same, Reps.set rd z rs⟩
  exact k _ _ ⟨m2, _, μ2, S3, (SStep.of s2).trans s3, q3⟩
end
end DL

set_option Elab.async false
set_option linter.all false
set_option maxRecDepth 100000
set_option maxHeartbeats 4000000
set_option autoImplicit false
/-! xs.remove(x) of data, of a list of the def's own. -/
namespace DL
open PySem PySem.Spec PyProof.Rows L2
section
variable {ex : Option (Addr × Addr × Addr)} {W : WX} {X : Cx} {e : Expr} {wa : WE} {pos p0 apos cpos : Pos} {i : Nat} {x : Str}
/-- the item that is taken away -/
def remD (ds : List D) (y : D) (k : List D → Prop) : Prop := ∃ p qs, toP y = some p ∧ toPs ds = some qs ∧ SeqAt.shaped p = true ∧ SeqAt.shaped (.list qs) = true ∧ ∃ (j : Nat) (z : PyData), qs[j]? = some z ∧ PyData.eqv z p = true ∧ (∀ (m : Nat) (z' : PyData), m < j → qs[m]? = some z' → PyData.eqv z' p = false) ∧ k (ds.eraseIdx j)
def remO (i : Nat) (wa : WA) (E : DEnds) (ρ : DS) (μ : Mu) (o : Option Sl) : Prop := match o with
  | some (.own p (.lst ds)) => wa ρ μ (fun xs μ1 => ∃ d, xs = [d] ∧ remD ds d fun ds' => E.nx (ρ.set i (.own p (.lst ds'))) μ1) fun c ks es μ' => E.xc c ks es ρ μ'
  | _ => False
def sRemO (i : Nat) (wa : WA) : WS := fun E ρ μ => remO i wa E ρ μ (ρ[i]?)
end
end DL

set_option Elab.async false
set_option linter.all false
set_option maxRecDepth 100000
set_option maxHeartbeats 4000000
set_option autoImplicit false
/-! xs.pop(i) of a cell. -/
namespace DL
open PySem PySem.Spec PyProof.Rows L2
def isC (x : D) (μ : Mu) (k : Prop) : Prop := match x with
  | .loc n => match μ[n]? with
    | some (.lst _) => k
    | _ => False
  | _ => False
theorem isC_of {x : D} {μ : Mu} {k : Prop} (h : isC x μ k) : ∃ n ds, x = .loc n ∧ μ[n]? = some (.lst ds) ∧ k := by
  unfold isC at h
  split at h
  · split at h
    · exact ⟨_, _, rfl, by assumption, h⟩
    · exact h.elim
  · exact h.elim
def popL (x y : D) (μ : Mu) (Q : D → Mu → Prop) : Prop := match x, y with
  | .loc n, .int j => match μ[n]? with
    | some (.lst ds) => 0 ≤ j ∧ j < 2 ^ 62 ∧ (match ds[j.toNat]? with
      | some d => Q d (μ.set n (.lst (ds.eraseIdx j.toNat)))
      | none => False)
    | _ => False
  | _, _ => False
def wPopL (wo wa : WE) : WE := fun ρ μ Q Xd => wo ρ μ (fun x μ1 => isC x μ1 (wa ρ μ1 (fun y μ2 => popL x y μ2 Q) Xd)) Xd
section
variable {W : WX} {X : Cx} {e o : Expr} {wa wo : WE} {pos apos : Pos}
end
end DL

set_option Elab.async false
set_option linter.all false
set_option maxRecDepth 100000
set_option maxHeartbeats 4000000
set_option autoImplicit false
/-! A comprehension's list kept as a cell. -/
namespace DL
open PySem PySem.Spec PyProof.Rows L2
def cellQ (Q : D → Mu → Prop) : D → Mu → Prop := fun d μ => match d with
  | .lst acc => Q (.loc μ.length) (μ ++ [.lst acc])
  | _ => False
def wLcC (wi : WI) (k : WG) (tt : WT) (te : WE) (vs : List Nat) : WE := fun ρ μ Q Xd => wLc wi k tt te vs ρ μ (cellQ Q) Xd
theorem lift_lcC {G : Gx} {W : WX} {wi : WI} {g : TG} {k : WG} {tt : WT} {te : WE} {vs : List Nat} (hg : LcG G vs g k) {σ : L2.St} {H : Hp} {Q' : VK} (q : lift G W (wLcC wi k tt te vs) σ H Q') :
    tLc (liftIF G W wi) g (liftT G WF tt) (lift G WF te) vs σ H Q' := by
  obtain ⟨Z, m, ρ, μ, Q, Xd, S, q, kq, kx⟩ := q
  refine ⟨Z, m, ρ, μ, _, Xd, S, q, fun J H1 P => ?_, kx⟩
  obtain ⟨m1, ds, μ1, F, s1, hF, ok, no', q1⟩ := P
  have no : noOwn ρ vs := fun v hv a ds => notOwn_of (no' v hv) a ds
  intro D nD
  have S1 := S.step s1
  have E0 := own_wipe' (Z := Z) (σ := σ) (ρ := ρ) (vs := vs) no
  have Sw := S1.wiped (vs := vs) no
  obtain ⟨Mh, sh⟩ := MuOk.hide (o := .lst []) S1.mu nD
  -- the state of a turn
  have base : SR G (addZ Z D) m1 (wipe σ vs) (upd H1 D (.lst [])) (wipeD ρ vs) μ1 := by
    refine ⟨Sw.len, by rw [own_add, E0]; exact Mh, fun i d e => ?_, fun i a es e => ?_, Sw.dis, fun i c ks es e => ?_⟩
    · obtain ⟨v, h1, h2⟩ := Sw.val i d e
      rw [E0] at h2
      exact ⟨v, h1, by rw [own_add, E0]; exact Rep.mono (List.prefix_refl _) sh _ _ h2⟩
    · obtain ⟨h1, h2, h4⟩ := Sw.own i a es e
      rw [E0] at h4
      have na : a ≠ D := fun z => h4.there (by rw [z, nD])
      exact ⟨h1, fun z => z.elim h2 na, by rw [own_add, E0]; exact h4.keep (List.prefix_refl _) sh (upd_ne na)⟩
    · have z := Sw.exn i c ks es e
      rw [E0] at z
      rw [own_add, E0]
      exact z.mono (List.prefix_refl _) sh
  have nDW : ¬ ownW Z σ ρ D := fun z => S1.mu.hw D z nD
  let In : List DL.D → Hp → Prop := fun rest H' => ∃ m' μ' acc us, m1 <+: m' ∧ (∀ z, ownW Z σ ρ z → H' z = H1 z) ∧ SR G (addZ Z D) m' (wipe σ vs) H' (wipeD ρ vs) μ' ∧ Same (vis (ownW Z σ ρ) m1 H1) (vis (addZ (ownW Z σ ρ) D) m' H') ∧
    H' D = some (.lst us) ∧ Reps G m' (vis (addZ (ownW Z σ ρ) D) m' H') acc us ∧ lcL k tt te (wipeD ρ vs) rest acc μ' (cellQ Q)
  refine ⟨fun i n H' => n = ds.length - i ∧ i ≤ ds.length ∧ In (ds.drop i) H', ⟨_, rfl, Nat.zero_le _, m1, μ1, [], [], List.prefix_refl _, fun z hz => upd_ne fun e => nDW (e ▸ hz), base, sh, upd_same, Reps.nil, q1⟩, ?_⟩
  rintro i n H' ⟨rfl, hle, m', μ', acc, us, pm, hid, S', sm, hD, ra, q'⟩
  have vis' : Same (vis (ownW Z σ ρ) m1 H1) H' := sm.trans vis_le
  by_cases hlt : i < ds.length
  · refine .inr ⟨ok.go i H' hlt vis' (hF H' hid), In (ds.drop (i + 1)), fun H2 h2 => ⟨_, (by omega : ds.length - (i + 1) < ds.length - i), rfl, hlt, h2⟩, fun x H3 y => ?_⟩
    obtain ⟨d, ed, hy⟩ := ok.yld i H' x H3 hlt vis' (hF H' hid) y
    obtain ⟨hi', ee⟩ := List.getElem?_eq_some_iff.mp ed
    rw [List.drop_eq_getElem_cons hi', lcL, ee] at q'
    have ow : ownW (addZ Z D) (wipe σ vs) (wipeD ρ vs) = addZ (ownW Z σ ρ) D := by rw [own_add, E0]
    have : SR G (addZ Z D) m' (wipe σ vs) H3 (wipeD ρ vs) μ' ∧ Same (vis (addZ (ownW Z σ ρ) D) m' H') (vis (addZ (ownW Z σ ρ) D) m' H3) ∧ (∀ z, addZ (ownW Z σ ρ) D z → H3 z = H' z) ∧ Rep G m' (vis (addZ (ownW Z σ ρ) D) m' H3) d x := by
      rcases hy with ⟨rfl, rd⟩ | ⟨T, o, nT, rfl, rd⟩
      · exact ⟨S', Same.refl _, fun _ _ => rfl, Rep.mono pm sm _ _ rd⟩
      · have st := Step.laid (o := o) S'.mu nT
        rw [ow] at st
        exact ⟨S'.step (by rw [ow]; exact st), st.same, st.hid, rd _ _ pm (sm.trans st.same) (by rw [vis_upd (ow ▸ S'.mu) nT, upd_same])⟩
    obtain ⟨S3, sm3, hid3, rd⟩ := this
    refine hg (addZ Z D) m' μ' (wipe σ vs) H3 (wipeD ρ vs) d x _ _ S3 (by rw [ow]; exact rd) q' fun σ4 ρ4 S4 ow4 ew q4 => ⟨?_, ?_⟩
    · exact ew.trans (wipe_wipe σ vs)
    · refine ⟨addZ Z D, m', ρ4, μ', _, _, S4, q4, fun b H5 P => ?_, fun cls dd H5 P => (xpF P).elim⟩
      obtain ⟨m5, μ5, s5, q5⟩ := P
      rw [ow4, ow] at s5
      have back : ∀ {m6 μ6 H6}, Step G (addZ (ownW Z σ ρ) D) m' H3 m6 μ6 H6 → SR G (addZ Z D) m6 (wipe σ vs) H6 (wipeD ρ vs) μ6 := fun {m6 μ6 H6} s6 => S3.step (by rw [ow]; exact s6)
      cases b with
      | false =>
        rw [if_neg Bool.false_ne_true] at q5 ⊢
        exact ⟨m5, μ5, acc, us, pm.trans s5.pre, fun z hz => ((s5.hid z (.inl hz)).trans (hid3 z (.inl hz))).trans (hid z hz), back s5, (sm.trans sm3).trans s5.same, ((s5.hid D (.inr rfl)).trans (hid3 D (.inr rfl))).trans hD, Reps.mono s5.pre (sm3.trans s5.same) _ _ ra, q5⟩
      | true =>
        rw [if_pos rfl] at q5 ⊢
        refine ⟨addZ Z D, m5, ρ4, μ5, _, _, S4.step (by rw [ow4, ow]; exact s5), q5, fun u H6 P => ?_, fun cls dd H6 P => (xpF P).elim⟩
        obtain ⟨m6, yd, μ6, s6, r6, hlen, q6⟩ := P
        rw [ow4, ow] at s6 r6
        have s56 := s5.trans s6
        refine ⟨us, ((s56.hid D (.inr rfl)).trans (hid3 D (.inr rfl))).trans hD, by rw [← ra.len]; exact Nat.lt_of_lt_of_le hlen (by decide), ?_⟩
        refine ⟨m6, μ6, acc ++ [yd], us ++ [u], pm.trans s56.pre, fun z hz => ?_, (back s56).hid, ?_, upd_same, ?_, q6⟩
        · have hb : z ≠ D := fun e => nDW (e ▸ hz)
          rw [upd_ne hb]
          exact ((s56.hid z (.inl hz)).trans (hid3 z (.inl hz))).trans (hid z hz)
        · rw [vis_hidden]
          exact (sm.trans sm3).trans s56.same
        · rw [vis_hidden]
          exact Reps.append (Reps.mono s56.pre (sm3.trans s56.same) _ _ ra) (Reps.cons r6 Reps.nil)
  · have e : i = ds.length := by omega
    subst e
    rw [List.drop_length, lcL] at q'
    refine .inl ⟨ok.stop H' vis' (hF H' hid), kq _ _ (VPost.from s1 ?_)⟩
    have ow : ownW (addZ Z D) (wipe σ vs) (wipeD ρ vs) = addZ (ownW Z σ ρ) D := by rw [own_add, E0]
    have M' := S'.mu
    rw [ow] at M'
    have sub : ∀ b, ownW Z σ ρ b → addZ (ownW Z σ ρ) D b := fun b h => .inl h
    have q2 : Q (.loc μ'.length) (μ' ++ [.lst acc]) := q'
    have nDm : D ∉ m' := fun z => M'.out D z (.inr rfl)
    have ev : vis (addZ (ownW Z σ ρ) D) m' H' = vis (ownW Z σ ρ) (m' ++ [D]) H' := by
      funext b
      unfold vis addZ
      congr 1
      apply propext
      rw [List.mem_append, List.mem_singleton]
      constructor
      · rintro ((h | h) | h)
        · exact .inl h
        · exact .inr (.inr h)
        · exact .inr (.inl h)
      · rintro (h | h | h)
        · exact .inl (.inl h)
        · exact .inr h
        · exact .inl (.inr h)
    have pre : m' <+: m' ++ [D] := List.prefix_append _ _
    refine ⟨m' ++ [D], .loc μ'.length, μ' ++ [.lst acc], ⟨pm.trans pre, hid, ⟨by simp [M'.len], ?_, fun a ha => ?_, fun z hz => M'.hw z (.inl hz), fun n c a hd ha => ?_⟩, by rw [← ev]; exact sm⟩, ?_, q2⟩
    · rw [List.nodup_append]
      refine ⟨M'.nd, by simp, fun a ha b hb => ?_⟩
      rw [List.mem_singleton] at hb
      subst hb
      exact fun e => nDm (e ▸ ha)
    · rcases List.mem_append.mp ha with q | q
      · exact fun z => M'.out a q (.inl z)
      · rw [List.mem_singleton] at q
        subst q
        exact nDW
    · rw [← ev]
      by_cases hn : n < m'.length
      · rw [List.getElem?_append_left hn] at ha
        rw [List.getElem?_append_left (by rw [← M'.len]; exact hn)] at hd
        exact (M'.cell n c a hd ha).keep pre (Same.refl _) rfl
      · have hl := (List.getElem?_eq_some_iff.mp ha).1
        rw [List.length_append, List.length_singleton] at hl
        have en : n = m'.length := by omega
        subst en
        rw [List.getElem?_concat_length] at ha
        rw [M'.len, List.getElem?_concat_length] at hd
        cases ha
        cases hd
        exact ⟨us, hD, Reps.mono pre (Same.refl _) _ _ ra⟩
    · rw [Rep]
      exact ⟨D, rfl, by rw [← M'.len]; exact List.getElem?_concat_length⟩
section
variable {W : WX} {X : Cx} {elt tg iter : Expr} {ifs : List Expr} {scope : Scope} {own : List (Str × Nat)} {pos : Pos} {wi : WI} {g : TG} {k : WG} {tt : WT} {te : WE}
theorem de_lcC (hc : X.calm = true) (hN : X.N.Nodup) (hi : DI none W X tg iter wi) (ok : BlkOk X.N X.env.scope scope own) (hk : LcG (gx X none) (own.map (·.2)) g k)
    (hg : ∀ (s : Shared) (H : Hp) (C : Addr) (cl : List (Str × Addr)) (fp : List Addr), PG (X.blk s H scope (compEnvC scope cl C X.env) fp) tg g) (ht : ∀ (s : Shared) (H : Hp) (C : Addr) (cl : List (Str × Addr)) (fp : List Addr), DTs (X.blk s H scope (compEnvC scope cl C X.env) fp) ifs tt)
    (he : ∀ (s : Shared) (H : Hp) (C : Addr) (cl : List (Str × Addr)) (fp : List Addr), DE none WF (X.blk s H scope (compEnvC scope cl C X.env) fp) elt te) (hs : ∀ x, foldedSetIterable iter X.env x = pure x := by intro _; rfl) :
    DE none W X (.ListComp elt [⟨tg, iter, ifs, 0⟩] scope pos) (wLcC wi k tt te (own.map (·.2))) := pe_weak (pe_lc hc hN hi.toF ok hg ht he hs) fun _ _ _ q => lift_lcC hk q
end
end DL

set_option Elab.async false
set_option linter.all false
set_option maxRecDepth 100000
set_option maxHeartbeats 2000000
set_option autoImplicit false
/-! x in found, x not in found of an own list, as tests. -/
namespace DL
open PySem PySem.Spec PyProof.Rows L2
section
variable {ex : Option (Addr × Addr × Addr)} {W : WX} {X : Cx} {e : Expr} {wa : WE} {pos p0 : Pos} {i : Nat} {x : Str}
end
end DL

set_option Elab.async false
set_option linter.all false
set_option maxRecDepth 100000
set_option maxHeartbeats 4000000
set_option autoImplicit false
/-! Changeable instances: attributes stored, property setters; == of tuples of own things; a sum of lists as an own list. -/
namespace DL
open PySem PySem.Spec PyProof.Rows L2
/-! ### o.f = value, o a cell -/
def putL (c f : Str) (x d : D) (μ : Mu) (k : Mu → Prop) : Prop := match x with
  | .loc n => match μ[n]? with
    | some (.ins c' ks ds) => c' = c ∧ ks.length < 1000 ∧ k (μ.set n (.ins c (putK f ks) (putD f d ks ds)))
    | _ => False
  | _ => False
theorem putL_of {c f : Str} {x d : D} {μ : Mu} {k : Mu → Prop} (h : putL c f x d μ k) : ∃ n ks ds, x = .loc n ∧ μ[n]? = some (.ins c ks ds) ∧ ks.length < 1000 ∧ k (μ.set n (.ins c (putK f ks) (putD f d ks ds))) := by
  unfold putL at h
  split at h
  · split at h
    · rename_i e
      obtain ⟨rfl, h1, h2⟩ := h
      exact ⟨_, _, _, rfl, e, h1, h2⟩
    · exact h.elim
  · exact h.elim
def sFldL (c f : Str) (wo wa : WE) : WS := fun E ρ μ => wa ρ μ (fun d μ1 => wo ρ μ1 (fun x μ2 => putL c f x d μ2 (E.nx ρ)) (fun c ks es μ' => E.xc c ks es ρ μ')) fun c ks es μ' => E.xc c ks es ρ μ'
section
variable {W : WX} {X : Cx} {o value : Expr} {wa wo : WE} {pos pos' : Pos}
theorem ds_fldL {c f : Str} (C : FldD X.K X.mg c f) (ho : DE none W X o wo) (hv : DE none W X value wa) (hs : swapsWith value (some (.Attribute o f pos')) pos.line X.env = pure false := by rfl) :
    DSt none W X (.Assign [.Attribute o f pos'] value pos) (sFldL c f wo wa) := by
  obtain ⟨Ca, hm, hc, hn⟩ := C.ex
  refine ps_weak (ps_fld ho hv hs) fun De σ H q => ?_
  obtain ⟨Z, m, ρ, μ, E, S, q, kn, kr, kb, kc, kx⟩ := q
  refine ⟨Z, m, ρ, μ, _, _, S, q, fun v H1 P => ?_, fun cls d H' P => kx cls d σ H' (XSPost.of S P)⟩
  obtain ⟨m1, d, μ1, s1, r1, q1⟩ := P
  refine ⟨Z, m1, ρ, μ1, _, _, S.step s1, q1, fun u H2 P => ?_, fun cls d H' P => kx cls d σ H' (XSPost.of S (XPost.from s1 P))⟩
  obtain ⟨m2, x, μ2, s2, r2, q2⟩ := P
  obtain ⟨n, ks, ds, rfl, en, hl, q3⟩ := putL_of q2
  rw [Rep] at r2
  obtain ⟨a, rfl, ea⟩ := r2
  obtain ⟨C0, dx, vs, g, hv, l, rs⟩ := s2.mu.cell n _ a en ea
  have hC : C0 = Ca := by
    have g' : X.mg c = some (.ref C0) := g
    rw [hm] at g'
    cases g'
    rfl
  subst hC
  have lv : ks.length = vs.length := by rw [l]; exact rs.len
  have r1' := Rep.mono s2.pre s2.same _ _ r1
  refine ⟨a, C0, dx, _, rfl, hv, hc, hn, by rw [List.length_zip, ← lv, Nat.min_self]; exact hl, ?_⟩
  have s3 : Step (gx X none) (ownW Z σ ρ) m2 H2 m2 (μ2.set n (.ins c (putK f ks) (putD f d ks ds))) (upd H2 a (.ins C0 dx (putF f v (ks.zip vs)))) :=
    Step.put s2.mu ea ⟨C0, dx, putD f v ks vs, g, by rw [upd_same, putF_zip f v ks vs lv], putD_len f ks ds d l, putD_rep r1' l rs⟩
  have st := (s1.trans s2).trans s3
  exact kn _ _ ⟨m2, ρ, _, S.step st, SStep.of st, q3⟩
/-! ### o.f = value, f a property with a setter -/
structure SetD (P : Program) (w : World) (K : PySem.W.Frag) (mg : Str → Option Value) (base : Heap) (k : Nat) (c f : Str) (ps : List Str) (sp : DSp) : Prop where
  ex : ∃ C p g fd, mg c = some (.ref C) ∧ Cls K C ∧ PySem.W.takerIn K C f = some (some (.ref p)) ∧ PySem.W.typeIn K (.ref p) = some (.type "property") ∧ (∃ a rest, PySem.W.recIn K p "property" = some (a :: .ref g :: rest)) ∧ Binds K fd ps [] ∧ FnG P w K mg base k g fd ps (toSp ⟨K, mg, none⟩ sp)
def sPropS (c : Str) (sp : DSp) (wo wa : WE) : WS := fun E ρ μ => wa ρ μ (fun d μ1 => wo ρ μ1 (fun x μ2 => isCls c x μ2 (sp [x, d] μ2 (fun _ μ3 => E.nx ρ μ3) (fun c ks es μ' => E.xc c ks es ρ μ'))) (fun c ks es μ' => E.xc c ks es ρ μ')) fun c ks es μ' => E.xc c ks es ρ μ'
end
/-! ### == of tuples whose items have an own `__eq__` -/
def tupE (x : D) (k : List D → Prop) : Prop := match x with
  | .tup ds => k ds
  | _ => False
def fEqT (c : Str) (sp : DSp) : F2 := fun x y μ Q => tupE x fun ds => tupE y fun es => prsO c sp μ ds es ∧ Q (.bl true) μ
section
variable {X : Cx} {k j : Nat} {ps : List Str} {c : Str} {Ts : List String} {Cs : List Str} {sp : DSp}
end
/-! ### x = a + b, lists, x the def's own -/
def catO (x y : D) (k : List D → Prop) : Prop := match x, y with
  | .lst a, .lst b => a.length + b.length ≤ 1000 ∧ k (a ++ b)
  | _, _ => False
def sSetCat (i : Nat) (wa wb : WE) : WS := fun E ρ μ => wa ρ μ (fun x μ1 => wb ρ μ1 (fun y μ2 => catO x y fun ds => i < ρ.length ∧ ∀ p, E.nx (ρ.set i (.own p (.lst ds))) μ2) (fun c ks es μ' => E.xc c ks es ρ μ')) fun c ks es μ' => E.xc c ks es ρ μ'
section
variable {W : WX} {X : Cx} {a b : Expr} {wa wb : WE} {pos : Pos}
end
end DL

set_option Elab.async false
set_option linter.all false
set_option maxRecDepth 100000
set_option maxHeartbeats 4000000
set_option autoImplicit false
/-! Loops over lists that may be cells: the cell must stand at each turn. list(x), x.append(v), o[i] = v with cells. -/
namespace DL
open PySem PySem.Spec PyProof.Rows L2
structure ItOkC (G : Gx) (J : It) (m0 : List Addr) (E0 : Hp) (C : Mu → Prop) (ds : List D) : Prop where
  go : ∀ (i : Nat) (Z : Addr → Prop) (m : List Addr) (μ : Mu) H, i < ds.length → m0 <+: m → Same E0 (vis Z m H) → MuOk G Z m μ H → C μ → J.go i H
  stop : ∀ (Z : Addr → Prop) (m : List Addr) (μ : Mu) H, m0 <+: m → Same E0 (vis Z m H) → MuOk G Z m μ H → C μ → J.stop ds.length H
  yld : ∀ (i : Nat) (Z : Addr → Prop) (m : List Addr) (μ : Mu) H x H3, i < ds.length → m0 <+: m → Same E0 (vis Z m H) → MuOk G Z m μ H → C μ → J.yld i H x H3 →
    ∃ d, ds[i]? = some d ∧ ((H3 = H ∧ Rep G m (vis Z m H) d x) ∨ ∃ T o, H T = none ∧ H3 = upd H T o ∧ ∀ E, Same (vis Z m H) E → E T = some o → Rep G m E d x)
theorem ItOk.toC {G : Gx} {J : It} {m0 : List Addr} {E0 : Hp} {ds : List D} (h : ItOk G J m0 E0 ds) : ItOkC G J m0 E0 (fun _ => True) ds :=
  ⟨fun i Z m μ H a _ s _ _ => h.go i H a (s.trans vis_le), fun Z m μ H _ s _ _ => h.stop H (s.trans vis_le), fun i Z m μ H x H3 a p s _ _ y => by
    obtain ⟨d, e, r⟩ := h.yld i H x H3 a (s.trans vis_le) y
    refine ⟨d, e, ?_⟩
    rcases r with ⟨rfl, r⟩ | ⟨T, o, nT, rfl, r⟩
    · exact .inl ⟨rfl, Rep.mono p s _ _ r⟩
    · exact .inr ⟨T, o, nT, rfl, fun E hE eT => r m E p (s.trans hE) eT⟩⟩
abbrev WIC := DS → Mu → (List D → (Mu → Prop) → Mu → Prop) → XD → Prop
def IPostC (G : Gx) (Z : Addr → Prop) (m : List Addr) (H : Hp) (Q : List D → (Mu → Prop) → Mu → Prop) (J : It) (H' : Hp) : Prop :=
  ∃ m' ds μ' C, Step G Z m H m' μ' H' ∧ ItOkC G J m' (vis Z m' H') C ds ∧ Q ds C μ'
def liftIC (G : Gx) (W : WX) (w : WIC) : TI := fun σ H R => ∃ Z m ρ μ Q Xd, SR G Z m σ H ρ μ ∧ w ρ μ Q Xd ∧ (∀ J H', IPostC G (ownW Z σ ρ) m H Q J H' → R J H') ∧ ∀ cls d H', XPost G (ownW Z σ ρ) m H Xd cls d H' → W cls d σ H'
abbrev DIC (ex : Option (Addr × Addr × Addr)) (W : WX) (X : Cx) (tg e : Expr) (w : WIC) : Prop := PI X tg e (liftIC (gx X ex) W w)
/-- a list, shown or a cell -/
def celOr (d : D) (μ : Mu) (k : List D → (Mu → Prop) → Prop) : Prop := match d with
  | .lst ds => k ds fun _ => True
  | .frl ds => k ds fun _ => True
  | .loc n => match μ[n]? with
    | some (.lst ds) => k ds fun μ' => μ'[n]? = some (.lst ds)
    | _ => False
  | _ => False
theorem celOr_of {d : D} {μ : Mu} {k : List D → (Mu → Prop) → Prop} (h : celOr d μ k) : ∃ ds, ((d = .lst ds ∨ d = .frl ds) ∧ k ds fun _ => True) ∨ ∃ n, d = .loc n ∧ μ[n]? = some (.lst ds) ∧ k ds fun μ' => μ'[n]? = some (.lst ds) := by
  unfold celOr at h
  split at h
  · exact ⟨_, .inl ⟨.inl rfl, h⟩⟩
  · exact ⟨_, .inl ⟨.inr rfl, h⟩⟩
  · split at h
    · exact ⟨_, .inr ⟨_, rfl, by assumption, h⟩⟩
    · exact h.elim
  · exact h.elim
theorem cell_at {G : Gx} {Z : Addr → Prop} {m0 m : List Addr} {μ : Mu} {H : Hp} {n : Nat} {a : Addr} {ds : List D} (ha : m0[n]? = some a) (p : m0 <+: m) (M : MuOk G Z m μ H) (c : μ[n]? = some (.lst ds)) : ∃ vs, H a = some (.lst vs) ∧ Reps G m (vis Z m H) ds vs := by
  obtain ⟨t, rfl⟩ := p
  exact M.cell n _ a c (by rw [List.getElem?_append_left (List.getElem?_eq_some_iff.mp ha).1]; exact ha)
theorem itokC_list {G : Gx} {m0 : List Addr} {E0 : Hp} {n : Nat} {a : Addr} {ds : List D} (ha : m0[n]? = some a) : ItOkC G (Itl G.K a) m0 E0 (fun μ => μ[n]? = some (.lst ds)) ds := by
  refine ⟨fun i Z m μ H hi p s M c => ?_, fun Z m μ H p s M c => ?_, fun i Z m μ H x H3 hi p s M c y => ?_⟩
  · obtain ⟨vs, hv, r⟩ := cell_at ha p M c
    obtain ⟨v, e, _⟩ := r.get (List.getElem?_eq_getElem hi)
    exact ⟨vs, v, .inl (.inl hv), e⟩
  · obtain ⟨vs, hv, r⟩ := cell_at ha p M c
    exact ⟨vs, .inl (.inl hv), by rw [r.len]; exact Nat.le_refl _⟩
  · obtain ⟨vs, hv, r⟩ := cell_at ha p M c
    obtain ⟨e, y⟩ := y
    obtain ⟨d, ed, rd⟩ := r.get' (y vs (.inl (.inl hv)))
    exact ⟨d, ed, .inl ⟨e, rd⟩⟩
theorem itokC_enum {G : Gx} {m0 : List Addr} {E0 : Hp} {n : Nat} {a : Addr} {ds : List D} (ha : m0[n]? = some a) : ItOkC G (Ite G.K a) m0 E0 (fun μ => μ[n]? = some (.lst ds)) (enumD ds) := by
  have hl : (enumD ds).length = ds.length := by simp [enumD]
  refine ⟨fun i Z m μ H hi p s M c => ?_, fun Z m μ H p s M c => ?_, fun i Z m μ H x H3 hi p s M c y => ?_⟩
  · rw [hl] at hi
    obtain ⟨vs, hv, r⟩ := cell_at ha p M c
    obtain ⟨v, e, _⟩ := r.get (List.getElem?_eq_getElem hi)
    exact ⟨vs, v, .inl (.inl hv), e⟩
  · obtain ⟨vs, hv, r⟩ := cell_at ha p M c
    exact ⟨vs, .inl (.inl hv), by rw [hl, r.len]; exact Nat.le_refl _⟩
  · obtain ⟨vs, hv, r⟩ := cell_at ha p M c
    obtain ⟨T, x', e, nT, eH, y⟩ := y
    obtain ⟨d, ed, rd⟩ := r.get' (y vs (.inl (.inl hv)))
    refine ⟨.tup [.int (i : Nat), d], ?_, .inr ⟨T, _, nT, eH, fun E hE eT => ?_⟩⟩
    · simp only [enumD, List.getElem?_mapIdx, ed, Option.map_some]
    · rw [Rep]
      exact ⟨T, _, e, .inl (.inl eT), Reps.cons (by rw [Rep]) (Reps.cons (Rep.mono (List.prefix_refl _) hE _ _ rd) Reps.nil)⟩
def wiCel (wa : WE) : WIC := fun ρ μ Q Xd => wa ρ μ (fun d μ1 => celOr d μ1 fun ds C => Q ds C μ1) Xd
def cel1 (ds : List D) (μ : Mu) (k : List D → (Mu → Prop) → Prop) : Prop := match ds with
  | [d] => celOr d μ fun es C => k (enumD es) C
  | _ => False
theorem cel1_of {ds : List D} {μ : Mu} {k : List D → (Mu → Prop) → Prop} (h : cel1 ds μ k) : ∃ d, ds = [d] ∧ celOr d μ fun es C => k (enumD es) C := by
  unfold cel1 at h
  split at h
  · exact ⟨_, rfl, h⟩
  · exact h.elim
def wiEnC (wa : WA) : WIC := fun ρ μ Q Xd => wa ρ μ (fun ds μ1 => cel1 ds μ1 fun es C => Q es C μ1) Xd
section
variable {ex : Option (Addr × Addr × Addr)} {W : WX} {X : Cx} {tg e : Expr} {wa : WE} {ws : WA} {p pos : Pos}
theorem di_cel (h : DE ex W X e wa) : DIC ex W X tg e (wiCel wa) := pi_weak (pi_list h) fun σ H R q => by
  obtain ⟨Z, m, ρ, μ, Q, Xd, S, q, k, kx⟩ := q
  refine ⟨Z, m, ρ, μ, _, Xd, S, q, fun v H1 P => ?_, kx⟩
  obtain ⟨m1, d, μ1, s1, r1, q1⟩ := P
  obtain ⟨ds, ⟨hd, q2⟩ | ⟨n, rfl, en, q2⟩⟩ := celOr_of q1
  · obtain ⟨a, vs, e, sq, rs⟩ := lst_rep' hd r1
    exact ⟨a, e, ⟨vs, Same.seq vis_le sq⟩, k _ _ ⟨m1, ds, μ1, _, s1, (itok_list (G := gx X ex) sq rs).toC, q2⟩⟩
  · rw [Rep] at r1
    obtain ⟨a, rfl, ea⟩ := r1
    obtain ⟨vs, hv, _⟩ := s1.mu.cell n _ a en ea
    exact ⟨a, rfl, ⟨vs, .inl (.inl hv)⟩, k _ _ ⟨m1, ds, μ1, _, s1, itokC_list (G := gx X ex) ea, q2⟩⟩
theorem di_enC {elts : List Expr} {kk : Nat} {tpos : Pos} (hg : Gl X "enumerate") (hm : X.mg "enumerate" = none) (ha : DA ex W X [e] ws) (hs : starEach [e] X.env = [(false, eval e X.env)] := by rfl) :
    DIC ex W X (.Tuple elts kk tpos) (.Call (.Name "enumerate" p) [e] [] pos) (wiEnC ws) := pi_weak (pi_enum hg hm ha hs) fun σ H R q => by
  obtain ⟨Z, m, ρ, μ, Q, Xd, S, q, k, kx⟩ := q
  refine ⟨Z, m, ρ, μ, _, Xd, S, q, fun vs H1 P => ?_, kx⟩
  obtain ⟨m1, ds, μ1, s1, r1, q1⟩ := P
  obtain ⟨d, rfl, q2⟩ := cel1_of q1
  obtain ⟨v, t, rfl, r2, r3⟩ := r1.uncons
  rw [Reps] at r3
  subst r3
  obtain ⟨es, ⟨hd, q2⟩ | ⟨n, rfl, en, q2⟩⟩ := celOr_of q2
  · obtain ⟨a, vs, rfl, sq, rs⟩ := lst_rep' hd r2
    exact ⟨a, vs, rfl, Same.seq vis_le sq, k _ _ ⟨m1, _, μ1, _, s1, (itok_enum (G := gx X ex) sq rs).toC, q2⟩⟩
  · rw [Rep] at r2
    obtain ⟨a, rfl, ea⟩ := r2
    obtain ⟨vs, hv, _⟩ := s1.mu.cell n _ a en ea
    exact ⟨a, vs, rfl, .inl (.inl hv), k _ _ ⟨m1, _, μ1, _, s1, itokC_enum (G := gx X ex) ea, q2⟩⟩
end
/-! ### for -/
def forLC (g : WG) (b : WS) (E : DEnds) (C : Mu → Prop) : List D → DS → Mu → Prop
  | [], ρ, μ => C μ ∧ E.nx ρ μ
  | d :: ds, ρ, μ => C μ ∧ g d ρ μ fun ρ1 μ1 => b { E with nx := forLC g b E C ds, ct := forLC g b E C ds, bk := E.nx } ρ1 μ1
def sForC (wi : WIC) (g : WG) (b : WS) : WS := fun E ρ μ => wi ρ μ (fun ds C μ1 => forLC g b E C ds ρ μ1) fun c ks es μ' => E.xc c ks es ρ μ'
theorem forLC_at {g : WG} {b : WS} {E : DEnds} {C : Mu → Prop} {ds : List D} {ρ : DS} {μ : Mu} (h : forLC g b E C ds ρ μ) : C μ := by
  cases ds with
  | nil => exact h.1
  | cons d ds => exact h.1
theorem forLC_cons {g : WG} {b : WS} {E : DEnds} {C : Mu → Prop} {ds : List D} {i : Nat} {d : D} {ρ : DS} {μ : Mu} (hd : ds[i]? = some d) (h : forLC g b E C (ds.drop i) ρ μ) :
    g d ρ μ fun ρ1 μ1 => b { E with nx := forLC g b E C (ds.drop (i + 1)), ct := forLC g b E C (ds.drop (i + 1)), bk := E.nx } ρ1 μ1 := by
  obtain ⟨hi, e⟩ := List.getElem?_eq_some_iff.mp hd
  rw [List.drop_eq_getElem_cons hi, forLC, e] at h
  exact h.2
section
variable {ex : Option (Addr × Addr × Addr)} {W : WX} {X : Cx} {tg iter : Expr} {body : List Stmt} {wi : WIC} {g : WG} {b : WS} {pos : Pos}
theorem ds_forC (hp : PassesOwn (model X.prog X.w) X.A X.env X.xe) (hc : X.calm = true) (hi : DIC ex W X tg iter wi) (hg : DG ex X tg g) (hb : DSs ex W X body b) (hs : ∀ x, foldedSetIterable iter X.env x = pure x := by intro _; rfl) :
    DSt ex W X (.For tg iter body [] pos) (sForC wi g b) := ps_weak (ps_for hp hc hi hg hb hs) fun De σ H q => by
  obtain ⟨Z, m, ρ, μ, E, S, q, kn, kr, kb, kc, kx⟩ := q
  refine ⟨Z, m, ρ, μ, _, _, S, q, fun J H1 P => ?_, fun cls d H' P => kx cls d σ H' (XSPost.of S P)⟩
  obtain ⟨m1, ds, μ1, C, s1, ok, q1⟩ := P
  have t1 : SStep (gx X ex) Z m σ ρ H m1 σ ρ H1 := SStep.of s1
  refine ⟨fun i n σ' H' => n = ds.length - i ∧ i ≤ ds.length ∧ ∃ m' ρ' μ', SR (gx X ex) Z m' σ' H' ρ' μ' ∧ SStep (gx X ex) Z m1 σ ρ H1 m' σ' ρ' H' ∧ forLC g b E C (ds.drop i) ρ' μ', ⟨_, rfl, Nat.zero_le _, m1, ρ, μ1, S.step s1, .refl, q1⟩, ?_⟩
  rintro i n σ' H' ⟨rfl, hle, m', ρ', μ', S', s', q'⟩
  have hC := forLC_at q'
  by_cases hlt : i < ds.length
  · refine .inr ⟨ok.go i _ m' μ' H' hlt s'.pre s'.same S'.mu hC, fun σ2 H2 => ∃ m2 ρ2 μ2, SR (gx X ex) Z m2 σ2 H2 ρ2 μ2 ∧ SStep (gx X ex) Z m1 σ ρ H1 m2 σ2 ρ2 H2 ∧ forLC g b E C (ds.drop (i + 1)) ρ2 μ2,
      fun σ2 H2 ⟨m2, ρ2, μ2, S2, s2, q2⟩ => ⟨_, (by omega : ds.length - (i + 1) < ds.length - i), rfl, hlt, m2, ρ2, μ2, S2, s2, q2⟩, fun x H3 y => ?_⟩
    obtain ⟨d, ed, hy⟩ := ok.yld i _ m' μ' H' x H3 hlt s'.pre s'.same S'.mu hC y
    have q2 := forLC_cons ed q'
    have : ∃ S3 : SR (gx X ex) Z m' σ' H3 ρ' μ', SStep (gx X ex) Z m1 σ ρ H1 m' σ' ρ' H3 ∧ Rep (gx X ex) m' (vis (ownW Z σ' ρ') m' H3) d x := by
      rcases hy with ⟨rfl, rd⟩ | ⟨T, o, nT, rfl, rd⟩
      · exact ⟨S', s', rd⟩
      · obtain ⟨S3, s3⟩ := S'.laid (o := o) nT
        exact ⟨S3, s'.trans s3, rd _ s3.same (by rw [vis_upd S'.mu nT, upd_same])⟩
    obtain ⟨S3, s3, rd⟩ := this
    refine ⟨Z, m', ρ', μ', d, _, S3, rd, q2, fun σ4 H4 P => ?_⟩
    obtain ⟨m4, ρ4, μ4, S4, s4, q4⟩ := P
    have t4 := s3.trans s4
    refine ⟨Z, m4, ρ4, μ4, _, S4, q4, fun σ5 H5 P => ?_, fun v H5 P => kr v H5 (RPost.from (t1.trans t4) P), fun σ5 H5 P => kn σ5 H5 (SPost.from (t1.trans t4) P), fun σ5 H5 P => ?_, fun cls d σ5 H5 P => kx cls d σ5 H5 (XSPost.from (t1.trans t4) P)⟩
    · obtain ⟨m5, ρ5, μ5, S5, s5, q5⟩ := P
      exact ⟨m5, ρ5, μ5, S5, t4.trans s5, q5⟩
    · obtain ⟨m5, ρ5, μ5, S5, s5, q5⟩ := P
      exact ⟨m5, ρ5, μ5, S5, t4.trans s5, q5⟩
  · have e : i = ds.length := by omega
    subst e
    refine .inl ⟨ok.stop _ m' μ' H' s'.pre s'.same S'.mu hC, kn σ' H' ⟨m', ρ', μ', S', t1.trans s', ?_⟩⟩
    rw [List.drop_length, forLC] at q'
    exact q'.2
end
/-! ### comprehensions -/
def lcLC (g : WG) (tt : WT) (te : WE) (ρw : DS) (C : Mu → Prop) : List D → List D → Mu → (D → Mu → Prop) → Prop
  | [], acc, μ, Q => C μ ∧ Q (.lst acc) μ
  | d :: ds, acc, μ, Q => C μ ∧ g d ρw μ fun ρ2 μ2 => tt ρ2 μ2 (fun b μ3 => if b = true then te ρ2 μ3 (fun y μ4 => acc.length < 1000000 ∧ lcLC g tt te ρw C ds (acc ++ [y]) μ4 Q) xF else lcLC g tt te ρw C ds acc μ3 Q) xF
theorem lcLC_at {g : WG} {tt : WT} {te : WE} {ρw : DS} {C : Mu → Prop} {ds acc : List D} {μ : Mu} {Q : D → Mu → Prop} (h : lcLC g tt te ρw C ds acc μ Q) : C μ := by
  cases ds with
  | nil => exact h.1
  | cons d ds => exact h.1
def wLcU (wi : WIC) (g : WG) (tt : WT) (te : WE) (vs : List Nat) : WE := fun ρ μ Q Xd => wi ρ μ (fun ds C μ1 => (∀ v ∈ vs, notOwn ρ v) ∧ lcLC g tt te (wipeD ρ vs) C ds [] μ1 Q) Xd
theorem lift_lcU {G : Gx} {W : WX} {wi : WIC} {g : TG} {k : WG} {tt : WT} {te : WE} {vs : List Nat} (hg : LcG G vs g k) {σ : L2.St} {H : Hp} {Q' : VK} (q : lift G W (wLcU wi k tt te vs) σ H Q') :
    tLc (liftIC G W wi) g (liftT G WF tt) (lift G WF te) vs σ H Q' := by
  obtain ⟨Z, m, ρ, μ, Q, Xd, S, q, kq, kx⟩ := q
  refine ⟨Z, m, ρ, μ, _, Xd, S, q, fun J H1 P => ?_, kx⟩
  obtain ⟨m1, ds, μ1, C, s1, ok, no', q1⟩ := P
  have no : noOwn ρ vs := fun v hv a ds => notOwn_of (no' v hv) a ds
  intro D nD
  have S1 := S.step s1
  have E0 := own_wipe' (Z := Z) (σ := σ) (ρ := ρ) (vs := vs) no
  have Sw := S1.wiped (vs := vs) no
  obtain ⟨Mh, sh⟩ := MuOk.hide (o := .lst []) S1.mu nD
  have base : SR G (addZ Z D) m1 (wipe σ vs) (upd H1 D (.lst [])) (wipeD ρ vs) μ1 := by
    refine ⟨Sw.len, by rw [own_add, E0]; exact Mh, fun i d e => ?_, fun i a es e => ?_, Sw.dis, fun i c ks es e => ?_⟩
    · obtain ⟨v, h1, h2⟩ := Sw.val i d e
      rw [E0] at h2
      exact ⟨v, h1, by rw [own_add, E0]; exact Rep.mono (List.prefix_refl _) sh _ _ h2⟩
    · obtain ⟨h1, h2, h4⟩ := Sw.own i a es e
      rw [E0] at h4
      have na : a ≠ D := fun z => h4.there (by rw [z, nD])
      exact ⟨h1, fun z => z.elim h2 na, by rw [own_add, E0]; exact h4.keep (List.prefix_refl _) sh (upd_ne na)⟩
    · have z := Sw.exn i c ks es e
      rw [E0] at z
      rw [own_add, E0]
      exact z.mono (List.prefix_refl _) sh
  have nDW : ¬ ownW Z σ ρ D := fun z => S1.mu.hw D z nD
  let In : List DL.D → Hp → Prop := fun rest H' => ∃ m' μ' acc us, m1 <+: m' ∧ (∀ z, ownW Z σ ρ z → H' z = H1 z) ∧ SR G (addZ Z D) m' (wipe σ vs) H' (wipeD ρ vs) μ' ∧ Same (vis (ownW Z σ ρ) m1 H1) (vis (addZ (ownW Z σ ρ) D) m' H') ∧
    H' D = some (.lst us) ∧ Reps G m' (vis (addZ (ownW Z σ ρ) D) m' H') acc us ∧ lcLC k tt te (wipeD ρ vs) C rest acc μ' Q
  refine ⟨fun i n H' => n = ds.length - i ∧ i ≤ ds.length ∧ In (ds.drop i) H', ⟨_, rfl, Nat.zero_le _, m1, μ1, [], [], List.prefix_refl _, fun z hz => upd_ne fun e => nDW (e ▸ hz), base, sh, upd_same, Reps.nil, q1⟩, ?_⟩
  rintro i n H' ⟨rfl, hle, m', μ', acc, us, pm, hid, S', sm, hD, ra, q'⟩
  have hC := lcLC_at q'
  have ow : ownW (addZ Z D) (wipe σ vs) (wipeD ρ vs) = addZ (ownW Z σ ρ) D := by rw [own_add, E0]
  have Mu' : MuOk G (addZ (ownW Z σ ρ) D) m' μ' H' := by rw [← ow]; exact S'.mu
  by_cases hlt : i < ds.length
  · refine .inr ⟨ok.go i _ m' μ' H' hlt pm sm Mu' hC, In (ds.drop (i + 1)), fun H2 h2 => ⟨_, (by omega : ds.length - (i + 1) < ds.length - i), rfl, hlt, h2⟩, fun x H3 y => ?_⟩
    obtain ⟨d, ed, hy⟩ := ok.yld i _ m' μ' H' x H3 hlt pm sm Mu' hC y
    obtain ⟨hi', ee⟩ := List.getElem?_eq_some_iff.mp ed
    rw [List.drop_eq_getElem_cons hi', lcLC, ee] at q'
    replace q' := q'.2
    have : SR G (addZ Z D) m' (wipe σ vs) H3 (wipeD ρ vs) μ' ∧ Same (vis (addZ (ownW Z σ ρ) D) m' H') (vis (addZ (ownW Z σ ρ) D) m' H3) ∧ (∀ z, addZ (ownW Z σ ρ) D z → H3 z = H' z) ∧ Rep G m' (vis (addZ (ownW Z σ ρ) D) m' H3) d x := by
      rcases hy with ⟨rfl, rd⟩ | ⟨T, o, nT, rfl, rd⟩
      · exact ⟨S', Same.refl _, fun _ _ => rfl, rd⟩
      · have st := Step.laid (o := o) S'.mu nT
        rw [ow] at st
        exact ⟨S'.step (by rw [ow]; exact st), st.same, st.hid, rd _ st.same (by rw [vis_upd (ow ▸ S'.mu) nT, upd_same])⟩
    obtain ⟨S3, sm3, hid3, rd⟩ := this
    refine hg (addZ Z D) m' μ' (wipe σ vs) H3 (wipeD ρ vs) d x _ _ S3 (by rw [ow]; exact rd) q' fun σ4 ρ4 S4 ow4 ew q4 => ⟨?_, ?_⟩
    · exact ew.trans (wipe_wipe σ vs)
    · refine ⟨addZ Z D, m', ρ4, μ', _, _, S4, q4, fun b H5 P => ?_, fun cls dd H5 P => (xpF P).elim⟩
      obtain ⟨m5, μ5, s5, q5⟩ := P
      rw [ow4, ow] at s5
      have back : ∀ {m6 μ6 H6}, Step G (addZ (ownW Z σ ρ) D) m' H3 m6 μ6 H6 → SR G (addZ Z D) m6 (wipe σ vs) H6 (wipeD ρ vs) μ6 := fun {m6 μ6 H6} s6 => S3.step (by rw [ow]; exact s6)
      cases b with
      | false =>
        rw [if_neg Bool.false_ne_true] at q5 ⊢
        exact ⟨m5, μ5, acc, us, pm.trans s5.pre, fun z hz => ((s5.hid z (.inl hz)).trans (hid3 z (.inl hz))).trans (hid z hz), back s5, (sm.trans sm3).trans s5.same, ((s5.hid D (.inr rfl)).trans (hid3 D (.inr rfl))).trans hD, Reps.mono s5.pre (sm3.trans s5.same) _ _ ra, q5⟩
      | true =>
        rw [if_pos rfl] at q5 ⊢
        refine ⟨addZ Z D, m5, ρ4, μ5, _, _, S4.step (by rw [ow4, ow]; exact s5), q5, fun u H6 P => ?_, fun cls dd H6 P => (xpF P).elim⟩
        obtain ⟨m6, yd, μ6, s6, r6, hlen, q6⟩ := P
        rw [ow4, ow] at s6 r6
        have s56 := s5.trans s6
        refine ⟨us, ((s56.hid D (.inr rfl)).trans (hid3 D (.inr rfl))).trans hD, by rw [← ra.len]; exact Nat.lt_of_lt_of_le hlen (by decide), ?_⟩
        refine ⟨m6, μ6, acc ++ [yd], us ++ [u], pm.trans s56.pre, fun z hz => ?_, (back s56).hid, ?_, upd_same, ?_, q6⟩
        · have hb : z ≠ D := fun e => nDW (e ▸ hz)
          rw [upd_ne hb]
          exact ((s56.hid z (.inl hz)).trans (hid3 z (.inl hz))).trans (hid z hz)
        · rw [vis_hidden]
          exact (sm.trans sm3).trans s56.same
        · rw [vis_hidden]
          exact Reps.append (Reps.mono s56.pre (sm3.trans s56.same) _ _ ra) (Reps.cons r6 Reps.nil)
  · have e : i = ds.length := by omega
    subst e
    rw [List.drop_length, lcLC] at q'
    refine .inl ⟨ok.stop _ m' μ' H' pm sm Mu' hC, kq _ _ (VPost.from s1 ?_)⟩
    have M' := S'.mu
    rw [ow] at M'
    have sub : ∀ b, ownW Z σ ρ b → addZ (ownW Z σ ρ) D b := fun b h => .inl h
    refine ⟨m', .lst acc, μ', ⟨pm, hid, M'.less sub, sm.trans (vis_mono sub)⟩, ?_, q'.2⟩
    rw [Rep]
    exact ⟨D, us, rfl, vis_some.mpr ⟨nDW, fun z => M'.out D z (.inr rfl), hD⟩, Reps.mono (List.prefix_refl _) (vis_mono sub) _ _ ra⟩
section
variable {W : WX} {X : Cx} {elt tg iter : Expr} {ifs : List Expr} {scope : Scope} {own : List (Str × Nat)} {pos : Pos} {wi : WIC} {g : TG} {k : WG} {tt : WT} {te : WE}
theorem de_lcU (hc : X.calm = true) (hN : X.N.Nodup) (hi : DIC none W X tg iter wi) (ok : BlkOk X.N X.env.scope scope own) (hk : LcG (gx X none) (own.map (·.2)) g k)
    (hg : ∀ (s : Shared) (H : Hp) (C : Addr) (cl : List (Str × Addr)) (fp : List Addr), PG (X.blk s H scope (compEnvC scope cl C X.env) fp) tg g) (ht : ∀ (s : Shared) (H : Hp) (C : Addr) (cl : List (Str × Addr)) (fp : List Addr), DTs (X.blk s H scope (compEnvC scope cl C X.env) fp) ifs tt)
    (he : ∀ (s : Shared) (H : Hp) (C : Addr) (cl : List (Str × Addr)) (fp : List Addr), DE none WF (X.blk s H scope (compEnvC scope cl C X.env) fp) elt te) (hs : ∀ x, foldedSetIterable iter X.env x = pure x := by intro _; rfl) :
    DE none W X (.ListComp elt [⟨tg, iter, ifs, 0⟩] scope pos) (wLcU wi k tt te (own.map (·.2))) := pe_weak (pe_lc hc hN hi ok hg ht he hs) fun _ _ _ q => lift_lcU hk q
end
/-! ### list(x) as a cell; x.append(v) of a cell -/
def fListOfC : FN := fun xs μ Q => match xs with
  | [x] => match itemsD x μ with
    | some ds => Q (.loc μ.length) (μ ++ [.lst ds])
    | none => False
  | _ => False
def appL (x y : D) (μ : Mu) (Q : D → Mu → Prop) : Prop := match x with
  | .loc n => match μ[n]? with
    | some (.lst ds) => ds.length < 1000000 ∧ Q .non (μ.set n (.lst (ds ++ [y])))
    | _ => False
  | _ => False
theorem appL_of {x y : D} {μ : Mu} {Q : D → Mu → Prop} (h : appL x y μ Q) : ∃ n ds, x = .loc n ∧ μ[n]? = some (.lst ds) ∧ ds.length < 1000000 ∧ Q .non (μ.set n (.lst (ds ++ [y]))) := by
  unfold appL at h
  split at h
  · split at h
    · exact ⟨_, _, rfl, by assumption, h⟩
    · exact h.elim
  · exact h.elim
def wAppL (wo wa : WE) : WE := fun ρ μ Q Xd => wo ρ μ (fun x μ1 => isC x μ1 (wa ρ μ1 (fun y μ2 => appL x y μ2 Q) Xd)) Xd
section
variable {W : WX} {X : Cx} {e o : Expr} {wa wo : WE} {pos apos : Pos}
theorem de_appL (ho : DE none W X o wo) (ha : DE none W X e wa)
    (hbase : attributeBase o "append" X.env (eval o X.env) = eval o X.env := by rfl)
    (hfew : ((backTo pos (starEach [e] X.env)).all (fun x => !x.1) && (backToKw pos (keywordEach [] X.env)).all (fun x => x.1.isSome)
      && decide (([e] : List Expr).length + ([] : List Keyword).length + (if ([] : List Keyword).isEmpty then 0 else 1) < 30)) = true := by rfl)
    (hline : (apos.endLine == pos.line) = true := by rfl) (hs : starEach [e] X.env = (false, eval e X.env) :: starEach [] X.env := by rfl) (hplain : (backTo pos (starEach [] X.env)).any (·.1) = false := by rfl) :
    DE none W X (.Call (.Attribute o "append" apos) [e] [] pos) (wAppL wo wa) :=
  pe_weak (pe_bm PySem.F.plainAttrs_list PySem.F.slot_list_append PySem.F.type_list_append mt_append ho (pa_cons ha pa_nil hs) hbase hfew hline hs hplain) fun σ H Q' q => by
  refine lift_bind (f := fun x ρ μ1 Q Xd => isC x μ1 (wa ρ μ1 (fun y μ2 => appL x y μ2 Q) Xd)) q fun Z m ρ μ Q Xd x v H1 S r1 q1 k kx => ?_
  obtain ⟨n, ds0, rfl, en0, q2⟩ := isC_of q1
  rw [Rep] at r1
  obtain ⟨a, rfl, ea⟩ := r1
  obtain ⟨vs0, hv0, rv0⟩ := S.mu.cell n _ a en0 ea
  refine ⟨.inl ⟨rfl, vs0, .inl (.inl hv0)⟩, Z, m, ρ, μ, _, Xd, S, q2, fun u H2 P => ?_, kx⟩
  obtain ⟨m2, y, μ2, s2, r2, q3⟩ := P
  obtain ⟨n', ds, en', en, hl, q4⟩ := appL_of q3
  cases en'
  have ea2 : m2[n]? = some a := by
    obtain ⟨t, rfl⟩ := s2.pre
    rw [List.getElem?_append_left (List.getElem?_eq_some_iff.mp ea).1]
    exact ea
  obtain ⟨vs, hv, rv⟩ := s2.mu.cell n _ a en ea2
  refine ⟨a, vs, u, rfl, rfl, hv, by rw [← rv.len]; exact lt_line hl, ?_⟩
  have s3 : Step (gx X none) (ownW Z σ ρ) m2 H2 m2 (μ2.set n (.lst (ds ++ [y]))) (upd H2 a (.lst (vs ++ [u]))) := Step.put s2.mu ea2 ⟨_, upd_same, Reps.append rv (Reps.cons r2 Reps.nil)⟩
  exact k _ _ (VPost.from s2 ⟨_, .non, _, s3, by rw [Rep], q4⟩)
end
/-! ### o[i] = v by an own `__setitem__` -/
def sSetIx (cs : List Str) (sp : DSp) (wo wi wa : WE) : WS := fun E ρ μ => wa ρ μ (fun d μ1 => wo ρ μ1 (fun x μ2 => wi ρ μ2 (fun y μ3 => isClsU cs x μ3 (sp [x, y, d] μ3 (fun _ μ4 => E.nx ρ μ4) (fun c ks es μ' => E.xc c ks es ρ μ'))) (fun c ks es μ' => E.xc c ks es ρ μ')) (fun c ks es μ' => E.xc c ks es ρ μ')) fun c ks es μ' => E.xc c ks es ρ μ'
section
variable {W : WX} {X : Cx} {o ix value : Expr} {wa wo wi : WE} {pos p1 : Pos} {k j : Nat} {ps cs : List Str} {sp : DSp}
theorem ds_setIx (D : SpcD X.prog X.w X.K X.mg X.base k cs "__setitem__" ps sp) (hr : Room j X.A) (hkj : k ≤ j) (hgd : X.A.guards = some []) (tk : Takes X W) (ho : DE none W X o wo) (hi : DE none W X ix wi) (hv : DE none W X value wa)
    (ha : ∀ v, assign (.Subscript o ix p1) X.env v = (do
      let ov ← holding [v] (eval o X.env)
      let iv ← holding [v, ov] (eval ix X.env)
      standAt p1
      holding [v, ov, iv] (setItem ov iv v)
      release [v, ov, iv] []) := by intro _; rfl)
    (hs : swapsWithSole [.Subscript o ix p1] value pos.line X.env = pure false := by rfl) (hw : swappedStores [.Subscript o ix p1] value X.env = pure none := by rfl) (h1 : (assignEach [.Subscript o ix p1] X.env).map (·.2) = [assign (.Subscript o ix p1) X.env] := by rfl) :
    DSt none W X (.Assign [.Subscript o ix p1] value pos) (sSetIx cs sp wo wi wa) := by
  obtain ⟨f, fd, g1, g2, g3, g4, F⟩ := D.ex
  refine ⟨fun pins s σ H De I q => ?_⟩
  have hq : lift (gx X none) W wa σ H fun z H1 => lift (gx X none) W wo σ H1 fun x H2 => lift (gx X none) W wi σ H2 fun y H3 => ∃ q, x = .ref q ∧ InU X.K X.mg f "__setitem__" H3 q ∧ toSp (gx X none) sp [.ref q, y, z] H3 (fun _ H' => De.nx σ H') (L2.WE W σ) := by
    obtain ⟨Z, m, ρ, μ, E, S, q, kn, kr, kb, kc, kx⟩ := q
    refine ⟨Z, m, ρ, μ, _, _, S, q, fun v H1 P => ?_, fun cls d H' P => kx cls d σ H' (XSPost.of S P)⟩
    obtain ⟨m1, d, μ1, s1, r1, q1⟩ := P
    refine ⟨Z, m1, ρ, μ1, _, _, S.step s1, q1, fun u H2 P => ?_, fun cls d H' P => kx cls d σ H' (XSPost.of S (XPost.from s1 P))⟩
    obtain ⟨m2, x, μ2, s2, r2, q2⟩ := P
    have s12 := s1.trans s2
    refine ⟨Z, m2, ρ, μ2, _, _, S.step s12, q2, fun w H3 P => ?_, fun cls d H' P => kx cls d σ H' (XSPost.of S (XPost.from s12 P))⟩
    obtain ⟨m3, y, μ3, s3, r3, q3⟩ := P
    obtain ⟨c, ks, ds, hi, hcm, q4⟩ := isClsU_of q3
    have r2' := Rep.mono s3.pre s3.same _ _ r2
    obtain ⟨q, rfl, iu⟩ := inU_of (G := gx X none) rfl g3 s3.mu r2' hi hcm
    have s13 := s12.trans s3
    have s23 := s2.trans s3
    refine ⟨q, rfl, iu, _, m3, μ3, [x, y, d], _, _, s3.mu, Reps.cons r2' (Reps.cons r3 (Reps.cons (Rep.mono s23.pre s23.same _ _ r1) Reps.nil)), q4, fun v H' P => ?_, fun cls d H' P => kx cls d σ H' (XSPost.of S (XPost.from s13 P))⟩
    obtain ⟨m5, d5, μ5, s5, r5, q5⟩ := P
    have st := s13.trans s5
    exact kn _ _ ⟨m5, ρ, μ5, S.step st, SStep.of st, q5⟩
  refine wpAny_Assign_stores (thn (hv.run pins s σ H _ I hq) fun v s1 hx => ?_) hs hw
  rw [h1]
  obtain ⟨z, H1, I1, rz, q1⟩ := hx
  show wpAny (model X.prog X.w) X.A (assign (.Subscript o ix p1) X.env v) (fun _ s' => ∃ σ' H', Inv X pins σ' H' s' ∧ De.nx σ' H') X.xe s1
  rw [ha]
  refine wpAny_bind (wpAny_holding (thn (ho.run pins s1 σ H1 _ I1 q1) fun ov s2 hx => ?_))
  obtain ⟨x, H2, I2, rx, q2⟩ := hx
  refine wpAny_bind (wpAny_holding (thn (hi.run pins s2 σ H2 _ I2 q2) fun iv s3 hx => ?_))
  obtain ⟨y, H3, I3, ry, p0, rfl, ⟨C, dx, fs, hp, f1, f2⟩, q3⟩ := hx
  obtain rfl : ov = Value.ref p0 := rx
  obtain ⟨mA, O2, _⟩ := ins_get I3.hok hp
  obtain ⟨od, J, _⟩ := O2.look
  obtain ⟨m0, hF⟩ := I3.fr
  refine wpAny_bind (wpAny_standAt (wpAny_bind (wpAny_holding (PySem.W.ksp_setItem hF I3.ok.mod.kin J f2 f1 g1 (wpAny_mono (run_fnG (us := [.ref p0, iv, v]) (vs := [.ref p0, y, z]) F (hr.mono hkj) hgd g4 tk I3 (.cons rfl (.cons ry (.cons rz .nil))) q3) (fun u s4 hx => ?_) fun _ _ x => x)))))
  obtain ⟨r, H4, I4, rr, q4⟩ := hx
  exact wpAny_release ⟨σ, H4, I4, q4⟩
end
end DL

set_option Elab.async false
set_option linter.all false
set_option maxRecDepth 100000
set_option maxHeartbeats 4000000
set_option autoImplicit false
/-! ==, != of lists whose items have an own `__eq__`, either list shown or a cell. -/
namespace DL
open PySem PySem.Spec PyProof.Rows L2
section
variable {X : Cx} {k j : Nat} {ps : List Str} {c : Str} {Ts : List String} {Cs : List Str} {sp : DSp} {r : Bool}
end
end DL

set_option Elab.async false
set_option linter.all false
set_option maxRecDepth 100000
set_option maxHeartbeats 4000000
set_option autoImplicit false
/-! A list, shown or a cell, against the empty list. -/
namespace DL
open PySem PySem.Spec PyProof.Rows L2
section
variable {prog : Program} {w : World} {A : Around}
end
/-- a, b = e, []: the second a list of the def's own -/
def sPar2O (i j : Nat) (wa : WE) : WS := fun E ρ μ => wa ρ μ (fun d μ1 => j < ρ.length ∧ ∀ p, E.nx ((ρ.set j (.own p (.lst []))).set i (.v d)) μ1) fun c ks es μ' => E.xc c ks es ρ μ'
end DL

set_option Elab.async false
set_option linter.all false
set_option maxRecDepth 100000
set_option maxHeartbeats 4000000
set_option autoImplicit false
/-! ==, != of lists of tuples whose items are pairs or things with an own `__eq__`, all alike. -/
namespace DL
open PySem PySem.Spec PyProof.Rows L2
section
variable {X : Cx} {k j : Nat} {ps : List Str} {c : Str} {Ts : List String} {Cs : List Str} {sp : DSp}
end
section
variable {X : Cx} {k j : Nat} {ps : List Str} {c : Str} {Ts : List String} {Cs : List Str} {sp : DSp}
end
end DL

set_option Elab.async false
set_option linter.all false
set_option maxRecDepth 100000
set_option maxHeartbeats 4000000
set_option autoImplicit false
namespace DL
open PySem PySem.Spec PyProof.Rows L2
/-! sorted of ints, any number of them -/
end DL

set_option Elab.async false
set_option linter.all false
set_option maxRecDepth 100000
set_option maxHeartbeats 4000000
set_option autoImplicit false
/-! An __init__ that returns early. -/
namespace DL
open PySem PySem.Spec PyProof.Rows L2
/-- its end is a return -/
def liftR (G : Gx) (W : WX) (w : WS) : TS := fun D σ H => ∃ Z m ρ μ E, SR G Z m σ H ρ μ ∧ w E ρ μ ∧ (∀ σ' H', SPost G Z m σ ρ H E.nx σ' H' → D.rt .non H') ∧ (∀ v H', RPost G Z m σ ρ H E.rt v H' → D.rt v H') ∧
  (∀ σ' H', SPost G Z m σ ρ H E.bk σ' H' → D.bk σ' H') ∧ (∀ σ' H', SPost G Z m σ ρ H E.ct σ' H' → D.ct σ' H') ∧ ∀ cls d σ' H', XSPost G Z m σ ρ H E.xc cls d σ' H' → W cls d σ' H'
/-- its end is either -/
def liftIn (G : Gx) (W : WX) (w : WS) : TS := fun D σ H => ∃ Z m ρ μ E, SR G Z m σ H ρ μ ∧ w E ρ μ ∧ (∀ σ' H', SPost G Z m σ ρ H E.nx σ' H' → D.nx σ' H' ∧ D.rt .non H') ∧ (∀ v H', RPost G Z m σ ρ H E.rt v H' → D.rt v H') ∧
  (∀ σ' H', SPost G Z m σ ρ H E.bk σ' H' → D.bk σ' H') ∧ (∀ σ' H', SPost G Z m σ ρ H E.ct σ' H' → D.ct σ' H') ∧ ∀ cls d σ' H', XSPost G Z m σ ρ H E.xc cls d σ' H' → W cls d σ' H'
abbrev DSr (W : WX) (X : Cx) (st : List Stmt) (w : WS) : Prop := PSs X st (liftR (gx X none) W w)
abbrev DSi (W : WX) (X : Cx) (st : List Stmt) (w : WS) : Prop := PSs X st (liftIn (gx X none) W w)
section
variable {W : WX} {X : Cx} {st : Stmt} {rest x : List Stmt} {a b : WS} {t : WT} {pos : Pos} {c : Expr}
end
section
variable {P : Program} {w : World} {K : PySem.W.Frag} {mg : Str → Option Value} {base : Heap}
end
end DL

set_option Elab.async false
set_option linter.all false
set_option maxRecDepth 100000
set_option maxHeartbeats 4000000
set_option autoImplicit false
/-! [.. for a, b, c in lists] -/
namespace DL
open PySem PySem.Spec PyProof.Rows L2
end DL

set_option Elab.async false
set_option linter.all false
set_option maxRecDepth 100000
set_option maxHeartbeats 4000000
set_option autoImplicit false
/-! The head's run in four looks (hint split4). -/
namespace DL
open PySem PySem.Spec PyProof.Rows L2
/-- a base class whose __init__ a class of its own calls -/
def biniB (K : PySem.W.Frag) (b : Str) (f : Addr) : Bool := (He.Fa.glo b).ok K && (He.eqO (PySem.W.specialIn K (.ref (He.ga K b)) "__getattribute__") (some (some (.builtin "type.__getattribute__"))) && (decide (PySem.W.typeIn K (.ref (He.ga K b)) = some (.type "type")) && (PySem.W.readsIn K (He.ga K b) (.type "type") &&
  ((match PySem.W.findCls K (.ref (He.ga K b)) (.type "type") "__init__" with | some (.val v) => decide (v = .ref f) | _ => false) && (PySem.W.handedIn (.ref f) && PySem.W.keepIn K (.ref f))))))
end DL

set_option Elab.async false
set_option linter.all false
set_option maxRecDepth 100000
set_option maxHeartbeats 0
set_option autoImplicit false
namespace K85
open PySem PySem.Spec PyProof.Rows L2 DL
def top (i : Nat) : Stmt := PySem.Challenge.pw_filledonce_k85_histories.main.body.getD i (.Pass ⟨0, 0, 0, 0⟩)
def fn : List He5.DefA := [
  ⟨fun K => He.fAd K ("Kept", some "__init__"), "__init__", "Kept.__init__", defArgs (inClass (top 21) 0), defBody (inClass (top 21) 0), defScope (inClass (top 21) 0), [], []⟩,
  ⟨fun K => He.fAd K ("is_integer", none), "is_integer", "is_integer", defArgs (top 11), defBody (top 11), defScope (top 11), [], []⟩,
  ⟨fun K => He.fAd K ("numbers_of", none), "numbers_of", "numbers_of", defArgs (top 17), defBody (top 17), defScope (top 17), [], []⟩,
  ⟨fun K => He.fAd K ("check_points", none), "check_points", "check_points", defArgs (top 25), defBody (top 25), defScope (top 25), [], []⟩,
  ⟨fun K => He.fAd K ("is_between", none), "is_between", "is_between", defArgs (top 12), defBody (top 12), defScope (top 12), [], []⟩,
  ⟨fun K => He.fAd K ("is_triple", none), "is_triple", "is_triple", defArgs (top 26), defBody (top 26), defScope (top 26), [], []⟩,
  ⟨fun K => He.fAd K ("check_triples", none), "check_triples", "check_triples", defArgs (top 27), defBody (top 27), defScope (top 27), [], []⟩,
  ⟨fun K => He.fAd K ("Net", some "__init__"), "__init__", "Net.__init__", defArgs (inClass (top 28) 0), defBody (inClass (top 28) 0), defScope (inClass (top 28) 0), [], []⟩,
  ⟨fun K => He.fAd K ("Net", some "twin"), "twin", "Net.twin", defArgs (inClass (top 28) 5), defBody (inClass (top 28) 5), defScope (inClass (top 28) 5), [], []⟩,
  ⟨fun K => He.fAd K ("History", some "__init__"), "__init__", "History.__init__", defArgs (inClass (top 22) 0), defBody (inClass (top 22) 0), defScope (inClass (top 22) 0), [], []⟩,
  ⟨fun K => He.fAd K ("check_between", none), "check_between", "check_between", defArgs (top 13), defBody (top 13), defScope (top 13), [], []⟩,
  ⟨fun K => He.fAd K ("pair_of", none), "pair_of", "pair_of", defArgs (top 18), defBody (top 18), defScope (top 18), [], []⟩,
  ⟨fun K => He.fAd K ("Net", some "put"), "put", "Net.put", defArgs (inClass (top 28) 6), defBody (inClass (top 28) 6), defScope (inClass (top 28) 6), [], []⟩,
  ⟨fun K => He.fAd K ("Net", some "__setitem__"), "__setitem__", "Net.__setitem__", defArgs (inClass (top 28) 11), defBody (inClass (top 28) 11), defScope (inClass (top 28) 11), [], []⟩,
  ⟨fun K => He.fAd K ("Point", some "__init__"), "__init__", "Point.__init__", defArgs (inClass (top 16) 0), defBody (inClass (top 16) 0), defScope (inClass (top 16) 0), [], []⟩,
  ⟨fun K => He.fAd K ("_law_draw", none), "_law_draw", "_law_draw", defArgs (top 31), defBody (top 31), defScope (top 31), [], []⟩,
  ⟨fun K => He.fAd K ("_law_pair", none), "_law_pair", "_law_pair", defArgs (top 32), defBody (top 32), defScope (top 32), [], []⟩,
  ⟨fun K => He.fAd K ("_law_call", none), "_law_call", "_law_call", defArgs (top 41), defBody (top 41), defScope (top 41), [], []⟩,
  ⟨fun K => He.fAd K ("is_name", none), "is_name", "is_name", defArgs (top 14), defBody (top 14), defScope (top 14), [], []⟩,
  ⟨fun K => He.fAd K ("History", some "keep_moves"), "keep_moves", "Kept.keep_moves", defArgs (inClass (top 21) 2), defBody (inClass (top 21) 2), defScope (inClass (top 21) 2), [], []⟩,
  ⟨fun K => He.fAd K ("History", some "keep"), "keep", "History.keep", defArgs (inClass (top 22) 7), defBody (inClass (top 22) 7), defScope (inClass (top 22) 7), [], []⟩,
  ⟨fun K => He.fAd K ("point_of", none), "point_of", "point_of", defArgs (top 19), defBody (top 19), defScope (top 19), [], []⟩,
  ⟨fun K => He.fAd K ("Net", some "__getitem__"), "__getitem__", "Net.__getitem__", defArgs (inClass (top 28) 10), defBody (inClass (top 28) 10), defScope (inClass (top 28) 10), [], []⟩,
  ⟨fun K => He.fAd K ("Net", some "twin"), "twin", "Net.twin", defArgs (inClass (top 28) 5), defBody (inClass (top 28) 5), defScope (inClass (top 28) 5), [], []⟩,
  ⟨fun K => He.fAd K ("History", some "move"), "move", "History.move", defArgs (inClass (top 22) 3), defBody (inClass (top 22) 3), defScope (inClass (top 22) 3), [], []⟩,
  ⟨fun K => He.fAd K ("History", some "replay"), "replay", "History.replay", defArgs (inClass (top 22) 4), defBody (inClass (top 22) 4), defScope (inClass (top 22) 4), [], []⟩,
  ⟨fun K => He.fAd K ("History", some "redo"), "redo", "History.redo", defArgs (inClass (top 22) 6), defBody (inClass (top 22) 6), defScope (inClass (top 22) 6), [], []⟩,
  ⟨fun K => He.fAd K ("History", some "moves_at"), "moves_at", "Kept.moves_at", defArgs (inClass (top 21) 3), defBody (inClass (top 21) 3), defScope (inClass (top 21) 3), [], []⟩,
  ⟨fun K => He.fAd K ("History", some "turn"), "turn", "History.turn", defArgs (inClass (top 22) 8), defBody (inClass (top 22) 8), defScope (inClass (top 22) 8), [], []⟩,
  ⟨fun K => He.fAd K ("History", some "undo"), "undo", "History.undo", defArgs (inClass (top 22) 5), defBody (inClass (top 22) 5), defScope (inClass (top 22) 5), [], []⟩,
  ⟨fun K => He.fAd K ("Point", some "pair"), "pair", "Point.pair", defArgs (inClass (top 16) 2), defBody (inClass (top 16) 2), defScope (inClass (top 16) 2), [], []⟩,
  ⟨fun K => He.fAd K ("_law_error", none), "_law_error", "_law_error", defArgs (top 35), defBody (top 35), defScope (top 35), [], []⟩,
  ⟨fun K => He.fAd K ("_law_do", none), "_law_do", "_law_do", defArgs (top 36), defBody (top 36), defScope (top 36), [], []⟩,
  ⟨fun K => He.fAd K ("_law_is_number", none), "_law_is_number", "_law_is_number", defArgs (top 38), defBody (top 38), defScope (top 38), [], []⟩,
  ⟨fun K => He.fAd K ("_law_now", none), "_law_now", "_law_now", defArgs (top 37), defBody (top 37), defScope (top 37), [], []⟩,
  ⟨fun K => He.fAd K ("_law_moved", none), "_law_moved", "_law_moved", defArgs (top 39), defBody (top 39), defScope (top 39), [], []⟩,
  ⟨fun K => He.fAd K ("_law_due", none), "_law_due", "_law_due", defArgs (top 40), defBody (top 40), defScope (top 40), [], []⟩,
  ⟨fun K => He.fAd K ("_law_hand", none), "_law_hand", "_law_hand", defArgs (top 30), defBody (top 30), defScope (top 30), [], []⟩,
  ⟨fun K => He.fAd K ("_law_net_here", none), "_law_net_here", "_law_net_here", defArgs (top 33), defBody (top 33), defScope (top 33), [], []⟩,
  ⟨fun K => He.fAd K ("History", some "kept"), "kept", "Kept.kept", defArgs (inClass (top 21) 1), defBody (inClass (top 21) 1), defScope (inClass (top 21) 1), [], []⟩,
  ⟨fun K => He.fAd K ("History", some "__len__"), "__len__", "History.__len__", defArgs (inClass (top 22) 9), defBody (inClass (top 22) 9), defScope (inClass (top 22) 9), [], []⟩,
  ⟨fun K => He.fAd K ("History", some "moves"), "moves", "History.moves", defArgs (inClass (top 22) 2), defBody (inClass (top 22) 2), defScope (inClass (top 22) 2), [], []⟩,
  ⟨fun K => He.fAd K ("History", some "moves"), "moves", "History.moves", defArgs (inClass (top 22) 2), defBody (inClass (top 22) 2), defScope (inClass (top 22) 2), [], []⟩,
  ⟨fun K => He.fAd K ("History", some "net_now"), "net_now", "History.net_now", defArgs (inClass (top 22) 1), defBody (inClass (top 22) 1), defScope (inClass (top 22) 1), [], []⟩,
  ⟨fun K => He.fAd K ("Net", some "triples"), "triples", "Net.triples", defArgs (inClass (top 28) 2), defBody (inClass (top 28) 2), defScope (inClass (top 28) 2), [], []⟩,
  ⟨fun K => He.fAd K ("Net", some "points"), "points", "Net.points", defArgs (inClass (top 28) 1), defBody (inClass (top 28) 1), defScope (inClass (top 28) 1), [], []⟩,
  ⟨fun K => He.fAd K ("_law_points", none), "_law_points", "_law_points", defArgs (top 34), defBody (top 34), defScope (top 34), [], []⟩,
  ⟨fun K => He.fAd K ("_law_right", none), "_law_right", "_law_right", defArgs (top 42), defBody (top 42), defScope (top 42), [], []⟩,
  ⟨fun K => He.fAd K ("law", none), "law", "law", defArgs (top 43), defBody (top 43), defScope (top 43), [], []⟩,
  ⟨fun K => He.fAd K ("InvalidName", some "__init__"), "__init__", "InvalidName.__init__", defArgs (inClass (top 7) 0), defBody (inClass (top 7) 0), defScope (inClass (top 7) 0), [], []⟩,
  ⟨fun K => He.fAd K ("InvalidNet", some "__init__"), "__init__", "InvalidNet.__init__", defArgs (inClass (top 5) 0), defBody (inClass (top 5) 0), defScope (inClass (top 5) 0), [], []⟩,
  ⟨fun K => He.fAd K ("InvalidNumber", some "__init__"), "__init__", "InvalidNumber.__init__", defArgs (inClass (top 4) 0), defBody (inClass (top 4) 0), defScope (inClass (top 4) 0), [], []⟩,
  ⟨fun K => He.fAd K ("InvalidPoint", some "__init__"), "__init__", "InvalidPoint.__init__", defArgs (inClass (top 3) 0), defBody (inClass (top 3) 0), defScope (inClass (top 3) 0), [], []⟩,
  ⟨fun K => He.fAd K ("NothingLeft", some "__init__"), "__init__", "NothingLeft.__init__", defArgs (inClass (top 6) 0), defBody (inClass (top 6) 0), defScope (inClass (top 6) 0), [], []⟩,
  ⟨fun K => He.fAd K ("UnknownName", some "__init__"), "__init__", "UnknownName.__init__", defArgs (inClass (top 8) 0), defBody (inClass (top 8) 0), defScope (inClass (top 8) 0), [], []⟩]
def fa : List He.Fa := [.glo "is_integer", .glo "numbers_of", .glo "check_points", .glo "is_between", .glo "is_triple", .glo "check_triples", .glo "check_between", .glo "pair_of", .glo "_law_draw", .glo "_law_pair", .glo "_law_call", .glo "is_name", .glo "point_of", .glo "_law_error", .glo "_law_do", .glo "_law_is_number", .glo "_law_now", .glo "_law_moved", .glo "_law_due", .glo "_law_hand", .glo "_law_net_here", .glo "_law_points", .glo "_law_right", .glo "law", .glo "FillError", .glo "History", .glo "InvalidName", .glo "InvalidNumber", .glo "InvalidPoint", .glo "Net", .glo "NothingLeft", .glo "Point", .glo "UnknownName", .free "all", .free "bool", .free "enumerate", .free "int", .free "isinstance", .free "len", .free "list", .free "max", .free "min", .free "range", .free "repr", .free "str", .free "tuple", .int "MOST_POINTS" (100), .str "SMALL" "abcdefghijklmnopqrstuvwxyz", .cls "History", .noat "History" "begin", .noat "History" "kept_moves", .noat "History" "later", .noat "History" "made", .noat "History" "now", .cls "Net", .noat "Net" "own_triples", .noat "Net" "pairs", .cls "Point", .noat "Point" "x", .noat "Point" "y", .mkr "History", .mkr "Net", .mkr "Point", .meth "Net" "twin", .meth "Net" "put", .meth "History" "keep_moves", .meth "History" "keep", .meth "History" "move", .meth "History" "replay", .meth "History" "redo", .meth "History" "moves_at", .meth "History" "turn", .meth "History" "undo", .meth "Point" "pair", .meth "History" "kept", .meth "History" "moves", .meth "History" "net_now", .meth "Net" "triples", .meth "Net" "points"]
def isiL : IsiL := [((.b "int", .b "int"), true), ((.b "bool", .b "int"), true), ((.b "str", .b "int"), false), ((.b "NoneType", .b "int"), false), ((.b "tuple", .b "int"), false), ((.b "list", .b "int"), false), ((.c "Point", .b "int"), false), ((.c "History", .b "int"), false), ((.c "Net", .b "int"), false), ((.b "int", .b "bool"), false), ((.b "bool", .b "bool"), true), ((.b "str", .b "bool"), false), ((.b "NoneType", .b "bool"), false), ((.b "tuple", .b "bool"), false), ((.b "list", .b "bool"), false), ((.c "Point", .b "bool"), false), ((.c "History", .b "bool"), false), ((.c "Net", .b "bool"), false), ((.b "int", .c "Point"), false), ((.b "bool", .c "Point"), false), ((.b "str", .c "Point"), false), ((.b "NoneType", .c "Point"), false), ((.b "tuple", .c "Point"), false), ((.b "list", .c "Point"), false), ((.c "Point", .c "Point"), true), ((.c "History", .c "Point"), false), ((.c "Net", .c "Point"), false), ((.b "int", .b "tuple"), false), ((.b "bool", .b "tuple"), false), ((.b "str", .b "tuple"), false), ((.b "NoneType", .b "tuple"), false), ((.b "tuple", .b "tuple"), true), ((.b "list", .b "tuple"), false), ((.c "Point", .b "tuple"), false), ((.c "History", .b "tuple"), false), ((.c "Net", .b "tuple"), false), ((.b "int", .b "list"), false), ((.b "bool", .b "list"), false), ((.b "str", .b "list"), false), ((.b "NoneType", .b "list"), false), ((.b "tuple", .b "list"), false), ((.b "list", .b "list"), true), ((.c "Point", .b "list"), false), ((.c "History", .b "list"), false), ((.c "Net", .b "list"), false), ((.b "int", .b "str"), false), ((.b "bool", .b "str"), false), ((.b "str", .b "str"), true), ((.b "NoneType", .b "str"), false), ((.b "tuple", .b "str"), false), ((.b "list", .b "str"), false), ((.c "Point", .b "str"), false), ((.c "History", .b "str"), false), ((.c "Net", .b "str"), false)]
abbrev isiT : TyN → TyN → Option Bool := isiF isiL
def catL_FillError : List (Str × Bool) := [("InvalidName", true), ("InvalidNet", true), ("InvalidNumber", true), ("InvalidPoint", true), ("NothingLeft", true), ("UnknownName", true)]
def xfC_many : List Str := ["NothingLeft"]
def xfC_name : List Str := ["InvalidName", "UnknownName"]
def xfC_number : List Str := ["InvalidNet", "InvalidNumber"]
def xfC_thing : List Str := ["InvalidPoint"]
def isxL : IsxL := [(("InvalidName", "InvalidName"), true), (("InvalidName", "InvalidNumber"), false), (("InvalidName", "InvalidPoint"), false), (("InvalidName", "NothingLeft"), false), (("InvalidName", "UnknownName"), false), (("InvalidNet", "InvalidName"), false), (("InvalidNet", "InvalidNumber"), false), (("InvalidNet", "InvalidPoint"), false), (("InvalidNet", "NothingLeft"), false), (("InvalidNet", "UnknownName"), false), (("InvalidNumber", "InvalidName"), false), (("InvalidNumber", "InvalidNumber"), true), (("InvalidNumber", "InvalidPoint"), false), (("InvalidNumber", "NothingLeft"), false), (("InvalidNumber", "UnknownName"), false), (("InvalidPoint", "InvalidName"), false), (("InvalidPoint", "InvalidNumber"), false), (("InvalidPoint", "InvalidPoint"), true), (("InvalidPoint", "NothingLeft"), false), (("InvalidPoint", "UnknownName"), false), (("NothingLeft", "InvalidName"), false), (("NothingLeft", "InvalidNumber"), false), (("NothingLeft", "InvalidPoint"), false), (("NothingLeft", "NothingLeft"), true), (("NothingLeft", "UnknownName"), false), (("UnknownName", "InvalidName"), false), (("UnknownName", "InvalidNumber"), false), (("UnknownName", "InvalidPoint"), false), (("UnknownName", "NothingLeft"), false), (("UnknownName", "UnknownName"), true)]
def exB (K : PySem.W.Frag) : Bool := isiB isiL K && (rxB K "InvalidName" ["name"] && (rxB K "InvalidNet" ["part", "number"] && (rxB K "InvalidNumber" ["number"] && (rxB K "InvalidPoint" ["thing"] && (rxB K "NothingLeft" ["many"] && (rxB K "UnknownName" ["name"] && (catB K "FillError" catL_FillError && ((xfC_many.all fun x => (He.Fa.glo x).ok K && (xfB K (He.ga K x) && He.eqO (PySem.W.findIn K (.ref (He.ga K x)) "many") (some none))) && ((xfC_name.all fun x => (He.Fa.glo x).ok K && (xfB K (He.ga K x) && He.eqO (PySem.W.findIn K (.ref (He.ga K x)) "name") (some none))) && ((xfC_number.all fun x => (He.Fa.glo x).ok K && (xfB K (He.ga K x) && He.eqO (PySem.W.findIn K (.ref (He.ga K x)) "number") (some none))) && ((xfC_thing.all fun x => (He.Fa.glo x).ok K && (xfB K (He.ga K x) && He.eqO (PySem.W.findIn K (.ref (He.ga K x)) "thing") (some none))) && (isxB K isxL && (spcB K ["Net"] "Net" "__setitem__" && (spcB K ["Net"] "Net" "__getitem__" && (spcB K ["History"] "History" "__len__" && (biniB K "Kept" (He.fAd K ("Kept", some "__init__"))))))))))))))))))
def loose0 : List PySem.Str := ["_wall", "FillError", "InvalidPoint", "InvalidNumber", "InvalidNet", "NothingLeft", "InvalidName", "UnknownName", "SMALL", "is_integer", "is_between", "check_between", "is_name", "Point", "numbers_of", "pair_of", "point_of", "Kept", "History", "MOST_POINTS", "check_points", "is_triple", "check_triples", "Net", "_law_hand", "_law_draw", "_law_pair", "_law_net_here", "_law_points", "_law_error"]
def loose1 : List PySem.Str := ["_law_do", "_law_now", "_law_is_number", "_law_moved", "_law_due", "_law_call", "_law_right"]
def loose : List PySem.Str := loose0 ++ loose1
abbrev R : PySem.W.OpenRow := PySem.W.OpenLaw.row PySem.Challenge.rw_filledonce_k85_histories
def asL : List Addr := [3, 31, 51, 70, 89, 108, 127, 146, 155, 162, 169, 174, 264, 275, 282, 289, 327, 409, 418, 423, 430, 527, 538, 545, 552, 557, 562, 569, 576, 583, 590, 597, 604, 611, 616, 623, 30, 50, 69, 88, 107, 126, 145, 154, 161, 168, 173, 263, 274, 281, 288, 326, 408, 417, 422, 429, 526, 537, 544, 551, 556, 561, 568, 575, 582, 589, 596, 603, 610, 615, 622, 48, 67, 86, 105, 124, 143, 188, 205, 303, 310, 317, 324, 345, 352, 357, 364, 371, 378, 385, 392, 399, 406, 442, 447, 454, 475, 482, 510, 517, 47, 66, 85, 104, 123, 142, 187, 204, 302, 309, 316, 323, 344, 351, 356, 363, 370, 377, 384, 391, 398, 405, 441, 446, 453, 474, 481, 509, 516, 2]
abbrev hk : PySem.W.Hook := hookL asL fa fn exB
def ob (s : PySem.W.SharedT) : AlY := obsL asL fa fn exB (HandSHeadRun.getT s)
theorem ob_eq (s : PySem.W.SharedT) : ob s = hk.obs s.abs := obsL_eq (HandSHeadRun.getT_eq s)
abbrev loose_q : Program := PySem.W.view R.prog [43]
theorem run_l_false (w : World) (os : OsState) : (HandSHeadRun.endF (HandSHeadRun.stepQ (HandSHeadRun.denQ HandSHeadRun.tabQ) R.prog (w.withFollow "special-get-raises" false)) 9000 R.prog (w.withFollow "special-get-raises" false) os).map (fun s => HandSHeadRun.looksF R.prog (PySem.W.boot_heap (w.withFollow "special-get-raises" false).params) s.abs) = some (true) := by
  kernel_rfl
theorem run_s_false (w : World) (os : OsState) : (HandSHeadRun.endF (HandSHeadRun.stepQ (HandSHeadRun.denQ HandSHeadRun.tabQ) R.prog (w.withFollow "special-get-raises" false)) 9000 R.prog (w.withFollow "special-get-raises" false) os).map (fun s => HandSHeadRun.seenQ loose_q loose (importedModules R.prog.main.body) (fun s => PySem.W.xlAt loose_q [] s && PySem.W.recOk R.toRowW.records s) s.abs) = some (PySem.W.openGood loose_q loose) := by
  kernel_rfl
theorem run_o_false (w : World) (os : OsState) : (HandSHeadRun.endF (HandSHeadRun.stepQ (HandSHeadRun.denQ HandSHeadRun.tabQ) R.prog (w.withFollow "special-get-raises" false)) 9000 R.prog (w.withFollow "special-get-raises" false) os).map (fun s => ob s) = some (hk.val (w.withFollow "special-get-raises" false)) := by
  kernel_rfl
theorem run_l_true (w : World) (os : OsState) : (HandSHeadRun.endF (HandSHeadRun.stepQ (HandSHeadRun.denQ HandSHeadRun.tabQ) R.prog (w.withFollow "special-get-raises" true)) 9000 R.prog (w.withFollow "special-get-raises" true) os).map (fun s => HandSHeadRun.looksF R.prog (PySem.W.boot_heap (w.withFollow "special-get-raises" true).params) s.abs) = some (true) := by
  kernel_rfl
theorem run_s_true (w : World) (os : OsState) : (HandSHeadRun.endF (HandSHeadRun.stepQ (HandSHeadRun.denQ HandSHeadRun.tabQ) R.prog (w.withFollow "special-get-raises" true)) 9000 R.prog (w.withFollow "special-get-raises" true) os).map (fun s => HandSHeadRun.seenQ loose_q loose (importedModules R.prog.main.body) (fun s => PySem.W.xlAt loose_q [] s && PySem.W.recOk R.toRowW.records s) s.abs) = some (PySem.W.openGood loose_q loose) := by
  kernel_rfl
theorem run_o_true (w : World) (os : OsState) : (HandSHeadRun.endF (HandSHeadRun.stepQ (HandSHeadRun.denQ HandSHeadRun.tabQ) R.prog (w.withFollow "special-get-raises" true)) 9000 R.prog (w.withFollow "special-get-raises" true) os).map (fun s => ob s) = some (hk.val (w.withFollow "special-get-raises" true)) := by
  kernel_rfl
theorem runs_false (w : World) : HandSHeadRun.RunEq R loose_q hk ob 9000 loose (w.withFollow "special-get-raises" false) := DL.runEq3 (run_l_false w) (run_s_false w) (run_o_false w)
theorem runs_true (w : World) : HandSHeadRun.RunEq R loose_q hk ob 9000 loose (w.withFollow "special-get-raises" true) := DL.runEq3 (run_l_true w) (run_s_true w) (run_o_true w)
theorem run (w : World) : HandSHeadRun.RunEq R loose_q hk ob 9000 loose w := PySem.W.byRow2 "special-get-raises" (P := fun w => HandSHeadRun.RunEq R loose_q hk ob 9000 loose w) runs_false runs_true w
end K85

set_option Elab.async false
set_option linter.all false
set_option maxRecDepth 100000
set_option maxHeartbeats 4000000
set_option autoImplicit false
set_option exponentiation.threshold 3000
namespace DL
open PySem PySem.Spec PyProof.Rows L2
/-! ### plain data: comparisons, bounds, pools -/
theorem eqD_int {i j : Int} {k : Bool → Prop} : eqD (.int i) (.int j) k = k (decide (i = j)) := by
  apply propext
  constructor
  · rintro ⟨p, q, h1, h2, _, _, h⟩
    rw [toP] at h1 h2
    cases h1
    cases h2
    have e : PyData.eqv (.int i) (.int j) = decide (i = j) := by
      rw [Bool.eq_iff_iff]; simp [PyData.eqv]
    rw [← e]; exact h
  · intro h
    refine ⟨.int i, .int j, by rw [toP], by rw [toP], rfl, rfl, ?_⟩
    have e : PyData.eqv (.int i) (.int j) = decide (i = j) := by
      rw [Bool.eq_iff_iff]; simp [PyData.eqv]
    rw [e]; exact h
/-- numbers of at most 200 digits -/
def Bd (i : Int) : Prop := -(10 ^ 200) < i ∧ i < 10 ^ 200
theorem log2_bd {i : Int} (h : Bd i) : i.natAbs.log2 < 700 := by
  by_cases z : i.natAbs = 0
  · rw [z]; decide
  · rw [Nat.log2_lt z]
    have h1 : i.natAbs < 10 ^ 200 := by
      obtain ⟨a, b⟩ := h
      have e : (10 : Int) ^ 200 = ((10 ^ 200 : Nat) : Int) := by decide +kernel
      rw [e] at a b
      omega
    exact Nat.lt_of_lt_of_le h1 (by decide +kernel)
theorem cm_bd {i j : Int} (hi : Bd i) (hj : Bd j) : CM i j := by
  have h1 := log2_bd hi
  have h2 := log2_bd hj
  exact .inr (show i.natAbs.log2 + j.natAbs.log2 < 1000000 by omega)
theorem cd_bd {i j : Int} (h : 0 < j) (hj : Bd j) : CDivW i j := ⟨h, Nat.lt_of_lt_of_le (log2_bd hj) (by decide)⟩
/-- the cells with a pool behind them -/
def pl (μ : Mu) (p q : Int) : Mu := μ ++ [.lst [.int p, .int q]]
theorem pl_get {μ : Mu} {p q : Int} : (pl μ p q)[μ.length]? = some (.lst [.int p, .int q]) := List.getElem?_concat_length
theorem pl_set {μ : Mu} {p q : Int} {c : Cell} : (pl μ p q).set μ.length c = μ ++ [c] := by
  unfold pl
  rw [List.set_append_right _ _ (Nat.le_refl _), Nat.sub_self]
  rfl
theorem pl_fold {μ : Mu} {p q : Int} : μ ++ [Cell.lst [.int p, .int q]] = pl μ p q := rfl
theorem pl_items {μ : Mu} {p q : Int} : itemsD (.loc μ.length) (pl μ p q) = some [.int p, .int q] := by
  show (match (pl μ p q)[μ.length]? with
    | some (.lst ds) => some ds
    | _ => none) = _
  rw [pl_get]
theorem pl_st0 {μ : Mu} {p q : Int} {d : D} {k : Mu → Prop} : stL (.loc μ.length) (.int 0) d (pl μ p q) k = k (μ ++ [.lst [d, .int q]]) := by
  unfold stL
  simp only [pl_get, pl_set]
  rfl
theorem pl_st1 {μ : Mu} {p q : Int} {d : D} {k : Mu → Prop} : stL (.loc μ.length) (.int 1) d (pl μ p q) k = k (μ ++ [.lst [.int p, d]]) := by
  unfold stL
  simp only [pl_get, pl_set]
  rfl
theorem atI_nat {α : Type} {xs : List α} {n : Nat} : atI xs (n : Int) = xs[n]? := by
  unfold atI ixN
  rw [if_pos (Int.natCast_nonneg n)]
  by_cases h : (n : Int) < xs.length
  · rw [if_pos h]
    rfl
  · rw [if_neg h]
    have h2 : xs.length ≤ n := by omega
    rw [List.getElem?_eq_none h2]
    rfl
theorem atI_0 {α : Type} {a : α} {r : List α} : atI (a :: r) 0 = some a := atI_nat (n := 0)
theorem atI_1 {α : Type} {a b : α} {r : List α} : atI (a :: b :: r) 1 = some b := atI_nat (n := 1)
theorem atI_2 {α : Type} {a b c : α} {r : List α} : atI (a :: b :: c :: r) 2 = some c := atI_nat (n := 2)
theorem atI_3 {α : Type} {a b c d : α} {r : List α} : atI (a :: b :: c :: d :: r) 3 = some d := atI_nat (n := 3)
theorem items_tup {ds : List D} {μ : Mu} : itemsD (.tup ds) μ = some ds := rfl
theorem items_lst {ds : List D} {μ : Mu} : itemsD (.lst ds) μ = some ds := rfl
theorem items_frl {ds : List D} {μ : Mu} : itemsD (.frl ds) μ = some ds := rfl
/-! ### loops -/
theorem forL_inv {g : WG} {b : WS} {E : DEnds} (I : DS → Mu → Prop) (fin : ∀ ρ μ, I ρ μ → E.nx ρ μ) : ∀ {ds : List D}, (∀ d ∈ ds, ∀ ρ μ (K : DS → Mu → Prop), I ρ μ → (∀ ρ' μ', I ρ' μ' → K ρ' μ') → g d ρ μ fun ρ1 μ1 => b { E with nx := K, ct := K, bk := E.nx } ρ1 μ1) →
    ∀ {ρ μ}, I ρ μ → forL g b E ds ρ μ
  | [], _, ρ, μ, h => by rw [forL]; exact fin ρ μ h
  | d :: ds, step, ρ, μ, h => by
    rw [forL]
    exact step d (by simp) ρ μ _ h fun ρ' μ' h' => forL_inv I fin (fun d hd => step d (by simp [hd])) h'
theorem mem_range {lo : Int} {n : Nat} {d : D} (h : d ∈ rangeD lo n) : ∃ i : Nat, i < n ∧ d = .int (lo + i) := by
  unfold rangeD at h
  obtain ⟨i, hi, rfl⟩ := List.mem_map.mp h
  exact ⟨i, List.mem_range.mp hi, rfl⟩
/-- the script's k-th cell, or 0 -/
theorem cell_of {ns : List Int} {lo hi : Option Int} : ∃ c, atI (cutD (ns.map D.int) lo hi ++ [.int 0]) 0 = some (.int c) := by
  have h : ∀ l : List D, (∀ d ∈ l, ∃ c, d = .int c) → ∃ c, atI (l ++ [.int 0]) 0 = some (.int c) := by
    intro l hl
    cases l with
    | nil => exact ⟨0, atI_0⟩
    | cons d r =>
      obtain ⟨c, rfl⟩ := hl d (by simp)
      exact ⟨c, atI_0⟩
  refine h _ fun d hd => ?_
  unfold cutD at hd
  have h1 := List.mem_of_mem_take hd
  have h2 := List.mem_of_mem_drop h1
  obtain ⟨c, _, rfl⟩ := List.mem_map.mp h2
  exact ⟨c, rfl⟩
theorem cut_few {ns : List Int} {lo hi : Option Int} (h : ns.length ≤ 63) : (cutD (ns.map D.int) lo hi).length + 1 ≤ sizeLine := by
  unfold cutD
  rw [List.length_take, List.length_drop, List.length_map, sizeLine_eq]
  omega
theorem range_zero {lo : Int} : rangeD lo 0 = [] := rfl
theorem range_succ {lo : Int} {n : Nat} : rangeD lo (n + 1) = .int lo :: rangeD (lo + 1) n := by
  unfold rangeD
  rw [List.range_succ_eq_map, List.map_cons, List.map_map]
  congr 1
  · simp
  · refine List.map_congr_left fun i _ => ?_
    show D.int (lo + ((i + 1 : Nat) : Int)) = D.int (lo + 1 + (i : Int))
    congr 1
    omega
/-- how many turns: at least one, at most eight -/
def turns (n m : Nat) : Int := if (if (m : Int) < n then (m : Int) else n) > 1 then (if (m : Int) < n then (m : Int) else n) else 1
theorem turns_ok {n m : Nat} (hm : m ≤ 1000) : -2 ^ 62 ≤ turns n m ∧ turns n m < 2 ^ 62 ∧ (turns n m).toNat ≤ m + 1 := by
  unfold turns
  split <;> split <;> omega
end DL

set_option Elab.async false
set_option linter.all false
set_option maxRecDepth 100000
set_option maxHeartbeats 4000000
set_option autoImplicit false
set_option exponentiation.threshold 3000
namespace DL
open PySem PySem.Spec PyProof.Rows L2
/-! ### what is read is worked out from the head: frames and their equations -/
def KVar (o : Option Sl) (μ : Mu) (Q : D → Mu → Prop) : Prop := match o with
  | some (.v d) => Q d μ
  | _ => False
theorem r_var {i : Nat} {ρ : DS} {μ : Mu} {Q : D → Mu → Prop} {Xd : XD} : wVar i ρ μ Q Xd = KVar (ρ[i]?) μ Q := propext Iff.rfl
theorem r_var2 {d : D} {μ : Mu} {Q : D → Mu → Prop} : KVar (some (.v d)) μ Q = Q d μ := propext Iff.rfl
theorem r_c {d : D} {ρ : DS} {μ : Mu} {Q : D → Mu → Prop} {Xd : XD} : DL.wC d ρ μ Q Xd = Q d μ := propext Iff.rfl
def K2b (f : F2) (x : D) (Q : D → Mu → Prop) : D → Mu → Prop := fun y μ => f x y μ Q
def K2a (f : F2) (wb : WE) (ρ : DS) (Q : D → Mu → Prop) (Xd : XD) : D → Mu → Prop := fun x μ => wb ρ μ (K2b f x Q) Xd
theorem r_w2 {f : F2} {wa wb : WE} {ρ : DS} {μ : Mu} {Q : D → Mu → Prop} {Xd : XD} : DL.w2 f wa wb ρ μ Q Xd = wa ρ μ (K2a f wb ρ Q Xd) Xd := propext Iff.rfl
theorem r_w2a {f : F2} {wb : WE} {x : D} {ρ : DS} {μ : Mu} {Q : D → Mu → Prop} {Xd : XD} : K2a f wb ρ Q Xd x μ = wb ρ μ (K2b f x Q) Xd := propext Iff.rfl
theorem r_w2b {f : F2} {x y : D} {μ : Mu} {Q : D → Mu → Prop} : K2b f x Q y μ = f x y μ Q := propext Iff.rfl
def K1 (f : F1) (Q : D → Mu → Prop) : D → Mu → Prop := fun x μ => f x μ Q
theorem r_w1 {f : F1} {wa : WE} {ρ : DS} {μ : Mu} {Q : D → Mu → Prop} {Xd : XD} : DL.w1 f wa ρ μ Q Xd = wa ρ μ (K1 f Q) Xd := propext Iff.rfl
theorem r_w1a {f : F1} {x : D} {μ : Mu} {Q : D → Mu → Prop} : K1 f Q x μ = f x μ Q := propext Iff.rfl
def KB (Q : Bool → Mu → Prop) : D → Mu → Prop := fun d μ => fBool d fun b => Q b μ
theorem r_wB {w : WE} {ρ : DS} {μ : Mu} {Q : Bool → Mu → Prop} {Xd : XD} : wB w ρ μ Q Xd = w ρ μ (KB Q) Xd := propext Iff.rfl
theorem r_wBa {b : Bool} {μ : Mu} {Q : Bool → Mu → Prop} : KB Q (.bl b) μ = Q b μ := propext Iff.rfl
def KCh3 (f' : F2) (wc : WE) (y : D) (ρ : DS) (Q : D → Mu → Prop) (Xd : XD) : D → Mu → Prop := fun z μ3 => fBool z fun k => if k = true then wc ρ μ3 (fun w' μ4 => f' y w' μ4 Q) Xd else Q (.bl false) μ3
def KCh2 (f f' : F2) (wc : WE) (x : D) (ρ : DS) (Q : D → Mu → Prop) (Xd : XD) : D → Mu → Prop := fun y μ2 => f x y μ2 (KCh3 f' wc y ρ Q Xd)
def KCh1 (f f' : F2) (wb wc : WE) (ρ : DS) (Q : D → Mu → Prop) (Xd : XD) : D → Mu → Prop := fun x μ1 => wb ρ μ1 (KCh2 f f' wc x ρ Q Xd) Xd
theorem r_ch {f f' : F2} {wa wb wc : WE} {ρ : DS} {μ : Mu} {Q : D → Mu → Prop} {Xd : XD} : wChain f f' wa wb wc ρ μ Q Xd = wa ρ μ (KCh1 f f' wb wc ρ Q Xd) Xd := propext Iff.rfl
theorem r_ch1 {f f' : F2} {wb wc : WE} {x : D} {ρ : DS} {μ : Mu} {Q : D → Mu → Prop} {Xd : XD} : KCh1 f f' wb wc ρ Q Xd x μ = wb ρ μ (KCh2 f f' wc x ρ Q Xd) Xd := propext Iff.rfl
theorem r_ch2 {f f' : F2} {wc : WE} {x y : D} {ρ : DS} {μ : Mu} {Q : D → Mu → Prop} {Xd : XD} : KCh2 f f' wc x ρ Q Xd y μ = f x y μ (KCh3 f' wc y ρ Q Xd) := propext Iff.rfl
theorem r_ch3t {f' : F2} {wc : WE} {y : D} {ρ : DS} {μ : Mu} {Q : D → Mu → Prop} {Xd : XD} : KCh3 f' wc y ρ Q Xd (.bl true) μ = wc ρ μ (K2b f' y Q) Xd := propext Iff.rfl
theorem r_ch3f {f' : F2} {wc : WE} {y : D} {ρ : DS} {μ : Mu} {Q : D → Mu → Prop} {Xd : XD} : KCh3 f' wc y ρ Q Xd (.bl false) μ = Q (.bl false) μ := propext Iff.rfl
def KAnd (u : WT) (ρ : DS) (Q : Bool → Mu → Prop) (Xd : XD) : Bool → Mu → Prop := fun c μ1 => if c = true then u ρ μ1 Q Xd else Q false μ1
def KOr (u : WT) (ρ : DS) (Q : Bool → Mu → Prop) (Xd : XD) : Bool → Mu → Prop := fun c μ1 => if c = true then Q true μ1 else u ρ μ1 Q Xd
def KNot (Q : Bool → Mu → Prop) : Bool → Mu → Prop := fun c μ1 => Q (!c) μ1
theorem r_and {t u : WT} {ρ : DS} {μ : Mu} {Q : Bool → Mu → Prop} {Xd : XD} : wAnd t u ρ μ Q Xd = t ρ μ (KAnd u ρ Q Xd) Xd := propext Iff.rfl
theorem r_andt {u : WT} {ρ : DS} {μ : Mu} {Q : Bool → Mu → Prop} {Xd : XD} : KAnd u ρ Q Xd true μ = u ρ μ Q Xd := propext Iff.rfl
theorem r_andf {u : WT} {ρ : DS} {μ : Mu} {Q : Bool → Mu → Prop} {Xd : XD} : KAnd u ρ Q Xd false μ = Q false μ := propext Iff.rfl
theorem r_or {t u : WT} {ρ : DS} {μ : Mu} {Q : Bool → Mu → Prop} {Xd : XD} : wOr t u ρ μ Q Xd = t ρ μ (KOr u ρ Q Xd) Xd := propext Iff.rfl
theorem r_ort {u : WT} {ρ : DS} {μ : Mu} {Q : Bool → Mu → Prop} {Xd : XD} : KOr u ρ Q Xd true μ = Q true μ := propext Iff.rfl
theorem r_orf {u : WT} {ρ : DS} {μ : Mu} {Q : Bool → Mu → Prop} {Xd : XD} : KOr u ρ Q Xd false μ = u ρ μ Q Xd := propext Iff.rfl
theorem r_not {t : WT} {ρ : DS} {μ : Mu} {Q : Bool → Mu → Prop} {Xd : XD} : DL.wNot t ρ μ Q Xd = t ρ μ (KNot Q) Xd := propext Iff.rfl
theorem r_nota {c : Bool} {μ : Mu} {Q : Bool → Mu → Prop} : KNot Q c μ = Q (!c) μ := propext Iff.rfl
def KIfE (wa wb : WE) (ρ : DS) (Q : D → Mu → Prop) (Xd : XD) : Bool → Mu → Prop := fun k μ1 => if k = true then wa ρ μ1 Q Xd else wb ρ μ1 Q Xd
theorem r_ife {t : WT} {wa wb : WE} {ρ : DS} {μ : Mu} {Q : D → Mu → Prop} {Xd : XD} : wIf t wa wb ρ μ Q Xd = t ρ μ (KIfE wa wb ρ Q Xd) Xd := propext Iff.rfl
theorem r_ifet {wa wb : WE} {ρ : DS} {μ : Mu} {Q : D → Mu → Prop} {Xd : XD} : KIfE wa wb ρ Q Xd true μ = wa ρ μ Q Xd := propext Iff.rfl
theorem r_ifef {wa wb : WE} {ρ : DS} {μ : Mu} {Q : D → Mu → Prop} {Xd : XD} : KIfE wa wb ρ Q Xd false μ = wb ρ μ Q Xd := propext Iff.rfl
def KAndV (wb : WE) (ρ : DS) (Q : D → Mu → Prop) (Xd : XD) : D → Mu → Prop := fun x μ1 => fBool x fun k => if k = true then wb ρ μ1 Q Xd else Q (.bl false) μ1
def KOrV (wb : WE) (ρ : DS) (Q : D → Mu → Prop) (Xd : XD) : D → Mu → Prop := fun x μ1 => fBool x fun k => if k = true then Q (.bl true) μ1 else wb ρ μ1 Q Xd
theorem r_andv {wa wb : WE} {ρ : DS} {μ : Mu} {Q : D → Mu → Prop} {Xd : XD} : wAndV wa wb ρ μ Q Xd = wa ρ μ (KAndV wb ρ Q Xd) Xd := propext Iff.rfl
theorem r_andvt {wb : WE} {ρ : DS} {μ : Mu} {Q : D → Mu → Prop} {Xd : XD} : KAndV wb ρ Q Xd (.bl true) μ = wb ρ μ Q Xd := propext Iff.rfl
theorem r_andvf {wb : WE} {ρ : DS} {μ : Mu} {Q : D → Mu → Prop} {Xd : XD} : KAndV wb ρ Q Xd (.bl false) μ = Q (.bl false) μ := propext Iff.rfl
theorem r_orv {wa wb : WE} {ρ : DS} {μ : Mu} {Q : D → Mu → Prop} {Xd : XD} : wOrV wa wb ρ μ Q Xd = wa ρ μ (KOrV wb ρ Q Xd) Xd := propext Iff.rfl
theorem r_orvt {wb : WE} {ρ : DS} {μ : Mu} {Q : D → Mu → Prop} {Xd : XD} : KOrV wb ρ Q Xd (.bl true) μ = Q (.bl true) μ := propext Iff.rfl
theorem r_orvf {wb : WE} {ρ : DS} {μ : Mu} {Q : D → Mu → Prop} {Xd : XD} : KOrV wb ρ Q Xd (.bl false) μ = wb ρ μ Q Xd := propext Iff.rfl
def KNotV (Q : D → Mu → Prop) : D → Mu → Prop := fun x μ1 => fBool x fun k => Q (.bl (!k)) μ1
theorem r_notv {wa : WE} {ρ : DS} {μ : Mu} {Q : D → Mu → Prop} {Xd : XD} : wNotV wa ρ μ Q Xd = wa ρ μ (KNotV Q) Xd := propext Iff.rfl
theorem r_notva {b : Bool} {μ : Mu} {Q : D → Mu → Prop} : KNotV Q (.bl b) μ = Q (.bl (!b)) μ := propext Iff.rfl
theorem r_nil {ρ : DS} {μ : Mu} {Q : List D → Mu → Prop} {Xd : XD} : DL.wNil ρ μ Q Xd = Q [] μ := propext Iff.rfl
def KA2 (d : D) (Q : List D → Mu → Prop) : List D → Mu → Prop := fun ds μ2 => Q (d :: ds) μ2
def KA1 (wr : WA) (ρ : DS) (Q : List D → Mu → Prop) (Xd : XD) : D → Mu → Prop := fun d μ1 => wr ρ μ1 (KA2 d Q) Xd
theorem r_cons {wa : WE} {wr : WA} {ρ : DS} {μ : Mu} {Q : List D → Mu → Prop} {Xd : XD} : DL.wCons wa wr ρ μ Q Xd = wa ρ μ (KA1 wr ρ Q Xd) Xd := propext Iff.rfl
theorem r_cons1 {wr : WA} {d : D} {ρ : DS} {μ : Mu} {Q : List D → Mu → Prop} {Xd : XD} : KA1 wr ρ Q Xd d μ = wr ρ μ (KA2 d Q) Xd := propext Iff.rfl
theorem r_cons2 {d : D} {ds : List D} {μ : Mu} {Q : List D → Mu → Prop} : KA2 d Q ds μ = Q (d :: ds) μ := propext Iff.rfl
def KTup (Q : D → Mu → Prop) : List D → Mu → Prop := fun ds μ1 => ds.length ≤ 1000 ∧ Q (.tup ds) μ1
theorem r_tup {wa : WA} {ρ : DS} {μ : Mu} {Q : D → Mu → Prop} {Xd : XD} : wTup wa ρ μ Q Xd = wa ρ μ (KTup Q) Xd := propext Iff.rfl
theorem r_tupa {ds : List D} {μ : Mu} {Q : D → Mu → Prop} : KTup Q ds μ = (ds.length ≤ 1000 ∧ Q (.tup ds) μ) := propext Iff.rfl
def KLst (Q : D → Mu → Prop) : List D → Mu → Prop := fun ds μ1 => ds.length ≤ 1000 ∧ Q (.lst ds) μ1
theorem r_lst {wa : WA} {ρ : DS} {μ : Mu} {Q : D → Mu → Prop} {Xd : XD} : wLst wa ρ μ Q Xd = wa ρ μ (KLst Q) Xd := propext Iff.rfl
theorem r_lsta {ds : List D} {μ : Mu} {Q : D → Mu → Prop} : KLst Q ds μ = (ds.length ≤ 1000 ∧ Q (.lst ds) μ) := propext Iff.rfl
def KLstC (Q : D → Mu → Prop) : List D → Mu → Prop := fun ds μ1 => ds.length ≤ 1000 ∧ Q (.loc μ1.length) (μ1 ++ [.lst ds])
theorem r_lstc {wa : WA} {ρ : DS} {μ : Mu} {Q : D → Mu → Prop} {Xd : XD} : wLstC wa ρ μ Q Xd = wa ρ μ (KLstC Q) Xd := propext Iff.rfl
theorem r_lstca {ds : List D} {μ : Mu} {Q : D → Mu → Prop} : KLstC Q ds μ = (ds.length ≤ 1000 ∧ Q (.loc μ.length) (μ ++ [.lst ds])) := propext Iff.rfl
def KN (f : FN) (Q : D → Mu → Prop) : List D → Mu → Prop := fun ds μ1 => f ds μ1 Q
theorem r_wn {f : FN} {wa : WA} {ρ : DS} {μ : Mu} {Q : D → Mu → Prop} {Xd : XD} : DL.wN f wa ρ μ Q Xd = wa ρ μ (KN f Q) Xd := propext Iff.rfl
theorem r_wna {f : FN} {ds : List D} {μ : Mu} {Q : D → Mu → Prop} : KN f Q ds μ = f ds μ Q := propext Iff.rfl
def KCall (sp : DSp) (Q : D → Mu → Prop) (Xd : XD) : List D → Mu → Prop := fun ds μ1 => sp ds μ1 Q Xd
theorem r_call {sp : DSp} {wa : WA} {ρ : DS} {μ : Mu} {Q : D → Mu → Prop} {Xd : XD} : wCall sp wa ρ μ Q Xd = wa ρ μ (KCall sp Q Xd) Xd := propext Iff.rfl
theorem r_calla {sp : DSp} {ds : List D} {μ : Mu} {Q : D → Mu → Prop} {Xd : XD} : KCall sp Q Xd ds μ = sp ds μ Q Xd := propext Iff.rfl
def KMk2 (c : Str) (Q : D → Mu → Prop) : List Str → List D → Mu → Prop := fun ks es μ2 => Q (.obj c ks es) μ2
def KMk1 (c : Str) (sp : ISp) (Q : D → Mu → Prop) (Xd : XD) : List D → Mu → Prop := fun ds μ1 => sp ds μ1 (KMk2 c Q) Xd
theorem r_mk {c : Str} {sp : ISp} {wa : WA} {ρ : DS} {μ : Mu} {Q : D → Mu → Prop} {Xd : XD} : wMake c sp wa ρ μ Q Xd = wa ρ μ (KMk1 c sp Q Xd) Xd := propext Iff.rfl
theorem r_mk1 {c : Str} {sp : ISp} {ds : List D} {μ : Mu} {Q : D → Mu → Prop} {Xd : XD} : KMk1 c sp Q Xd ds μ = sp ds μ (KMk2 c Q) Xd := propext Iff.rfl
theorem r_mk2 {c : Str} {ks : List Str} {es : List D} {μ : Mu} {Q : D → Mu → Prop} : KMk2 c Q ks es μ = Q (.obj c ks es) μ := propext Iff.rfl
def KMkC2 (c : Str) (Q : D → Mu → Prop) : List Str → List D → Mu → Prop := fun ks es μ2 => Q (.loc μ2.length) (μ2 ++ [.ins c ks es])
def KMkC1 (c : Str) (sp : ISp) (Q : D → Mu → Prop) (Xd : XD) : List D → Mu → Prop := fun ds μ1 => sp ds μ1 (KMkC2 c Q) Xd
theorem r_mkc {c : Str} {sp : ISp} {wa : WA} {ρ : DS} {μ : Mu} {Q : D → Mu → Prop} {Xd : XD} : wMakeC c sp wa ρ μ Q Xd = wa ρ μ (KMkC1 c sp Q Xd) Xd := propext Iff.rfl
theorem r_mkc1 {c : Str} {sp : ISp} {ds : List D} {μ : Mu} {Q : D → Mu → Prop} {Xd : XD} : KMkC1 c sp Q Xd ds μ = sp ds μ (KMkC2 c Q) Xd := propext Iff.rfl
theorem r_mkc2 {c : Str} {ks : List Str} {es : List D} {μ : Mu} {Q : D → Mu → Prop} : KMkC2 c Q ks es μ = Q (.loc μ.length) (μ ++ [.ins c ks es]) := propext Iff.rfl
def KMe2 (sp : DSp) (x : D) (Q : D → Mu → Prop) (Xd : XD) : List D → Mu → Prop := fun ds μ2 => sp (x :: ds) μ2 Q Xd
def KMe1 (c m : Str) (sp : DSp) (wa : WA) (ρ : DS) (Q : D → Mu → Prop) (Xd : XD) : D → Mu → Prop := fun x μ1 => hasCls c m x μ1 (wa ρ μ1 (KMe2 sp x Q Xd) Xd)
theorem r_me {c m : Str} {sp : DSp} {wo : WE} {wa : WA} {ρ : DS} {μ : Mu} {Q : D → Mu → Prop} {Xd : XD} : wMeth c m sp wo wa ρ μ Q Xd = wo ρ μ (KMe1 c m sp wa ρ Q Xd) Xd := propext Iff.rfl
theorem r_me1 {c m : Str} {sp : DSp} {wa : WA} {x : D} {ρ : DS} {μ : Mu} {Q : D → Mu → Prop} {Xd : XD} : KMe1 c m sp wa ρ Q Xd x μ = hasCls c m x μ (wa ρ μ (KMe2 sp x Q Xd) Xd) := propext Iff.rfl
theorem r_me2 {sp : DSp} {x : D} {ds : List D} {μ : Mu} {Q : D → Mu → Prop} {Xd : XD} : KMe2 sp x Q Xd ds μ = sp (x :: ds) μ Q Xd := propext Iff.rfl
def KBo2 (c : Str) (Ts : List String) (sp : DSp) (x : D) (Q : D → Mu → Prop) (Xd : XD) : D → Mu → Prop := fun y μ2 => isCls c x μ2 (othTy c Ts y μ2 (sp [x, y] μ2 Q Xd))
def KBo1 (c : Str) (Ts : List String) (sp : DSp) (wb : WE) (ρ : DS) (Q : D → Mu → Prop) (Xd : XD) : D → Mu → Prop := fun x μ1 => wb ρ μ1 (KBo2 c Ts sp x Q Xd) Xd
theorem r_bo {c : Str} {Ts : List String} {sp : DSp} {wa wb : WE} {ρ : DS} {μ : Mu} {Q : D → Mu → Prop} {Xd : XD} : wBinO c Ts sp wa wb ρ μ Q Xd = wa ρ μ (KBo1 c Ts sp wb ρ Q Xd) Xd := propext Iff.rfl
theorem r_bo1 {c : Str} {Ts : List String} {sp : DSp} {wb : WE} {x : D} {ρ : DS} {μ : Mu} {Q : D → Mu → Prop} {Xd : XD} : KBo1 c Ts sp wb ρ Q Xd x μ = wb ρ μ (KBo2 c Ts sp x Q Xd) Xd := propext Iff.rfl
theorem r_bo2 {c : Str} {Ts : List String} {sp : DSp} {x y : D} {μ : Mu} {Q : D → Mu → Prop} {Xd : XD} : KBo2 c Ts sp x Q Xd y μ = isCls c x μ (othTy c Ts y μ (sp [x, y] μ Q Xd)) := propext Iff.rfl
theorem r_onone {ρ : DS} {μ : Mu} {Q : Option Int → Mu → Prop} {Xd : XD} : oNone ρ μ Q Xd = Q none μ := propext Iff.rfl
def KOs (Q : Option Int → Mu → Prop) : D → Mu → Prop := fun d μ1 => intOr d fun i => Q (some i) μ1
theorem r_osome {wa : WE} {ρ : DS} {μ : Mu} {Q : Option Int → Mu → Prop} {Xd : XD} : oSome wa ρ μ Q Xd = wa ρ μ (KOs Q) Xd := propext Iff.rfl
theorem r_osomea {i : Int} {μ : Mu} {Q : Option Int → Mu → Prop} : KOs Q (.int i) μ = Q (some i) μ := propext Iff.rfl
def KSl3 (x : D) (l : Option Int) (Q : D → Mu → Prop) : Option Int → Mu → Prop := fun u μ3 => lstOr x fun ds => Q (.lst (DL.cutD ds l u)) μ3
def KSl2 (hi : WO) (x : D) (ρ : DS) (Q : D → Mu → Prop) (Xd : XD) : Option Int → Mu → Prop := fun l μ2 => hi ρ μ2 (KSl3 x l Q) Xd
def KSl1 (lo hi : WO) (ρ : DS) (Q : D → Mu → Prop) (Xd : XD) : D → Mu → Prop := fun x μ1 => lo ρ μ1 (KSl2 hi x ρ Q Xd) Xd
theorem r_sl {wa : WE} {lo hi : WO} {ρ : DS} {μ : Mu} {Q : D → Mu → Prop} {Xd : XD} : wSl wa lo hi ρ μ Q Xd = wa ρ μ (KSl1 lo hi ρ Q Xd) Xd := propext Iff.rfl
theorem r_sl1 {lo hi : WO} {x : D} {ρ : DS} {μ : Mu} {Q : D → Mu → Prop} {Xd : XD} : KSl1 lo hi ρ Q Xd x μ = lo ρ μ (KSl2 hi x ρ Q Xd) Xd := propext Iff.rfl
theorem r_sl2 {hi : WO} {x : D} {l : Option Int} {ρ : DS} {μ : Mu} {Q : D → Mu → Prop} {Xd : XD} : KSl2 hi x ρ Q Xd l μ = hi ρ μ (KSl3 x l Q) Xd := propext Iff.rfl
theorem r_sl3 {ds : List D} {l u : Option Int} {μ : Mu} {Q : D → Mu → Prop} : KSl3 (.lst ds) l Q u μ = Q (.lst (DL.cutD ds l u)) μ := propext Iff.rfl
theorem r_sl3f {ds : List D} {l u : Option Int} {μ : Mu} {Q : D → Mu → Prop} : KSl3 (.frl ds) l Q u μ = Q (.lst (DL.cutD ds l u)) μ := propext Iff.rfl
theorem r_ii {C : Int → Int → Prop} {g : Int → Int → Int} {i j : Int} {μ : Mu} {Q : D → Mu → Prop} : fII C g (.int i) (.int j) μ Q = (C i j ∧ Q (.int (g i j)) μ) := propext Iff.rfl
theorem r_ii0 {g : Int → Int → Int} {i j : Int} {μ : Mu} {Q : D → Mu → Prop} : fII0 g (.int i) (.int j) μ Q = Q (.int (g i j)) μ := propext Iff.rfl
theorem r_ib {g : Int → Int → Bool} {i j : Int} {μ : Mu} {Q : D → Mu → Prop} : fIB g (.int i) (.int j) μ Q = Q (.bl (g i j)) μ := propext Iff.rfl
theorem r_i1 {g : Int → Int} {i : Int} {μ : Mu} {Q : D → Mu → Prop} : fI g (.int i) μ Q = Q (.int (g i)) μ := propext Iff.rfl
theorem r_plus {i j : Int} {μ : Mu} {Q : D → Mu → Prop} : fPlus (.int i) (.int j) μ Q = Q (.int (i + j)) μ := propext Iff.rfl
theorem r_plusl {a b : List D} {μ : Mu} {Q : D → Mu → Prop} : fPlus (.lst a) (.lst b) μ Q = (a.length + b.length ≤ sizeLine ∧ Q (.lst (a ++ b)) μ) := propext Iff.rfl
theorem r_times {i j : Int} {μ : Mu} {Q : D → Mu → Prop} : fTimes (.int i) (.int j) μ Q = (CM i j ∧ Q (.int (i * j)) μ) := propext Iff.rfl
theorem r_timesl {a : List D} {n : Int} {μ : Mu} {Q : D → Mu → Prop} : fTimes (.lst a) (.int n) μ Q = (-(2 ^ 63) ≤ n ∧ n < 2 ^ 63 ∧ a.length * n.toNat ≤ sizeLine ∧ Q (.lst (List.replicate n.toNat a).flatten) μ) := propext Iff.rfl
theorem r_isn {x : D} {μ : Mu} {Q : D → Mu → Prop} : fIsN x .non μ Q = Q (.bl (DL.isNon x)) μ := propext Iff.rfl
theorem r_notn {x : D} {μ : Mu} {Q : D → Mu → Prop} : fNotN x .non μ Q = Q (.bl (!DL.isNon x)) μ := propext Iff.rfl
theorem r_eqd {x y : D} {μ : Mu} {Q : D → Mu → Prop} : fEqD x y μ Q = eqD x y fun b => Q (.bl b) μ := propext Iff.rfl
theorem r_ned {x y : D} {μ : Mu} {Q : D → Mu → Prop} : fNeD x y μ Q = eqD x y fun b => Q (.bl (!b)) μ := propext Iff.rfl
theorem r_int1 {i : Int} {μ : Mu} {Q : D → Mu → Prop} : fInt1 [.int i] μ Q = Q (.int i) μ := propext Iff.rfl
theorem r_int1b {b : Bool} {μ : Mu} {Q : D → Mu → Prop} : fInt1 [.bl b] μ Q = Q (.int (if b then 1 else 0)) μ := propext Iff.rfl
theorem r_max2 {i j : Int} {μ : Mu} {Q : D → Mu → Prop} : fMax2 [.int i, .int j] μ Q = Q (.int (if j > i then j else i)) μ := propext Iff.rfl
theorem r_min2 {i j : Int} {μ : Mu} {Q : D → Mu → Prop} : fMin2 [.int i, .int j] μ Q = Q (.int (if j < i then j else i)) μ := propext Iff.rfl
theorem r_abs {i : Int} {μ : Mu} {Q : D → Mu → Prop} : fAbs [.int i] μ Q = Q (.int (if i < 0 then -i else i)) μ := propext Iff.rfl
def KIx (o : Option (List D)) (i : Int) (μ : Mu) (Q : D → Mu → Prop) : Prop := match o with
  | some ds => (match atI ds i with
    | some d => Q d μ
    | none => False)
  | none => False
theorem r_ix {x : D} {i : Int} {μ : Mu} {Q : D → Mu → Prop} : fIx x (.int i) μ Q = KIx (itemsD x μ) i μ Q := by
  unfold fIx KIx
  cases itemsD x μ <;> exact propext Iff.rfl
def KIx2 (o : Option D) (μ : Mu) (Q : D → Mu → Prop) : Prop := match o with
  | some d => Q d μ
  | none => False
theorem r_ix2 {ds : List D} {i : Int} {μ : Mu} {Q : D → Mu → Prop} : KIx (some ds) i μ Q = KIx2 (atI ds i) μ Q := propext Iff.rfl
theorem r_ix3 {d : D} {μ : Mu} {Q : D → Mu → Prop} : KIx2 (some d) μ Q = Q d μ := propext Iff.rfl
def KLen (o : Option (List D)) (μ : Mu) (Q : D → Mu → Prop) : Prop := match o with
  | some ds => Q (.int ds.length) μ
  | none => False
theorem r_len {x : D} {μ : Mu} {Q : D → Mu → Prop} : fLen [x] μ Q = KLen (itemsD x μ) μ Q := propext Iff.rfl
theorem r_len2 {ds : List D} {μ : Mu} {Q : D → Mu → Prop} : KLen (some ds) μ Q = Q (.int ds.length) μ := propext Iff.rfl
def KIsi (o : Option Bool) (μ : Mu) (Q : D → Mu → Prop) : Prop := match o with
  | some b => Q (.bl b) μ
  | none => False
theorem r_isi {f : TyN → TyN → Option Bool} {x c : D} {μ : Mu} {Q : D → Mu → Prop} : fIsi f [x, c] μ Q = KIsi (isiD f x c μ) μ Q := propext Iff.rfl
theorem r_isi2 {b : Bool} {μ : Mu} {Q : D → Mu → Prop} : KIsi (some b) μ Q = Q (.bl b) μ := propext Iff.rfl
def KFld2 (o : Option D) (μ : Mu) (Q : D → Mu → Prop) : Prop := match o with
  | some d => Q d μ
  | none => False
def KFld (c f : Str) (o : Option (Str × List Str × List D)) (μ : Mu) (Q : D → Mu → Prop) : Prop := match o with
  | some (c', ks, ds) => c' = c ∧ KFld2 (fldOf f ks ds) μ Q
  | none => False
theorem r_fld {c f : Str} {x : D} {μ : Mu} {Q : D → Mu → Prop} : fFld c f x μ Q = KFld c f (insD x μ) μ Q := by
  unfold fFld KFld KFld2
  exact propext Iff.rfl
theorem r_fld2 {c f c' : Str} {ks : List Str} {ds : List D} {μ : Mu} {Q : D → Mu → Prop} : KFld c f (some (c', ks, ds)) μ Q = (c' = c ∧ KFld2 (fldOf f ks ds) μ Q) := propext Iff.rfl
theorem r_fld3 {d : D} {μ : Mu} {Q : D → Mu → Prop} : KFld2 (some d) μ Q = Q d μ := propext Iff.rfl
theorem r_insobj {c : Str} {ks : List Str} {ds : List D} {μ : Mu} : insD (.obj c ks ds) μ = some (c, ks, ds) := rfl
def KX (E : DEnds) (ρ : DS) : XD := fun c ks es μ => E.xc c ks es ρ μ
theorem r_kx {c : Str} {ks : List Str} {es : List D} {E : DEnds} {ρ : DS} {μ : Mu} : KX E ρ c ks es μ = E.xc c ks es ρ μ := propext Iff.rfl
theorem r_next {E : DEnds} {ρ : DS} {μ : Mu} : sNext E ρ μ = E.nx ρ μ := propext Iff.rfl
theorem r_never {E : DEnds} {ρ : DS} {μ : Mu} : sNever E ρ μ = False := propext Iff.rfl
def KSeq (b : WS) (E : DEnds) : DS → Mu → Prop := fun ρ μ => b E ρ μ
theorem r_seq {a b : WS} {E : DEnds} {ρ : DS} {μ : Mu} : sSeq a b E ρ μ = a { E with nx := KSeq b E } ρ μ := propext Iff.rfl
theorem r_seqa {b : WS} {E : DEnds} {ρ : DS} {μ : Mu} : KSeq b E ρ μ = b E ρ μ := propext Iff.rfl
def KIf (a b : WS) (E : DEnds) (ρ : DS) : Bool → Mu → Prop := fun c μ1 => if c = true then a E ρ μ1 else b E ρ μ1
theorem r_if {t : WT} {a b : WS} {E : DEnds} {ρ : DS} {μ : Mu} : sIf t a b E ρ μ = t ρ μ (KIf a b E ρ) (KX E ρ) := propext Iff.rfl
theorem r_ift {a b : WS} {E : DEnds} {ρ : DS} {μ : Mu} : KIf a b E ρ true μ = a E ρ μ := propext Iff.rfl
theorem r_iff {a b : WS} {E : DEnds} {ρ : DS} {μ : Mu} : KIf a b E ρ false μ = b E ρ μ := propext Iff.rfl
theorem r_ret {wa : WE} {E : DEnds} {ρ : DS} {μ : Mu} : sRet wa E ρ μ = wa ρ μ E.rt (KX E ρ) := propext Iff.rfl
theorem r_retn {E : DEnds} {ρ : DS} {μ : Mu} : sRetN E ρ μ = E.rt .non μ := propext Iff.rfl
theorem r_brk {E : DEnds} {ρ : DS} {μ : Mu} : sBreak E ρ μ = E.bk ρ μ := propext Iff.rfl
theorem r_cnt {E : DEnds} {ρ : DS} {μ : Mu} : sCont E ρ μ = E.ct ρ μ := propext Iff.rfl
def KDrop (E : DEnds) (ρ : DS) : D → Mu → Prop := fun _ μ1 => E.nx ρ μ1
theorem r_drop {wa : WE} {E : DEnds} {ρ : DS} {μ : Mu} : sDrop wa E ρ μ = wa ρ μ (KDrop E ρ) (KX E ρ) := propext Iff.rfl
theorem r_dropa {d : D} {E : DEnds} {ρ : DS} {μ : Mu} : KDrop E ρ d μ = E.nx ρ μ := propext Iff.rfl
def KSet (i : Nat) (E : DEnds) (ρ : DS) : D → Mu → Prop := fun d μ1 => E.nx (ρ.set i (.v d)) μ1
theorem r_set {i : Nat} {wa : WE} {E : DEnds} {ρ : DS} {μ : Mu} : sSet i wa E ρ μ = wa ρ μ (KSet i E ρ) (KX E ρ) := propext Iff.rfl
theorem r_seta {i : Nat} {d : D} {E : DEnds} {ρ : DS} {μ : Mu} : KSet i E ρ d μ = E.nx (ρ.set i (.v d)) μ := propext Iff.rfl
def KAsg (g : WG) (E : DEnds) (ρ : DS) : D → Mu → Prop := fun d μ1 => g d ρ μ1 E.nx
theorem r_asg {g : WG} {wa : WE} {E : DEnds} {ρ : DS} {μ : Mu} : sAsg wa g E ρ μ = wa ρ μ (KAsg g E ρ) (KX E ρ) := propext Iff.rfl
theorem r_asga {g : WG} {d : D} {E : DEnds} {ρ : DS} {μ : Mu} : KAsg g E ρ d μ = g d ρ μ E.nx := propext Iff.rfl
theorem r_name {i : Nat} {d : D} {ρ : DS} {μ : Mu} {Q : DS → Mu → Prop} : kName i d ρ μ Q = Q (ρ.set i (.v d)) μ := propext Iff.rfl
theorem r_namec {i : Nat} {d : D} {ρ : DS} {μ : Mu} {Q : DS → Mu → Prop} : kNameC i d ρ μ Q = (notOwn ρ i ∧ Q (ρ.set i (.v d)) μ) := propext Iff.rfl
theorem r_ktup {n : Nat} {gs : WGs} {ds : List D} {ρ : DS} {μ : Mu} {Q : DS → Mu → Prop} : kTup n gs (.tup ds) ρ μ Q = (ds.length = n ∧ gs ds ρ μ Q) := propext Iff.rfl
theorem r_kunl {n : Nat} {gs : WGs} {ds : List D} {ρ : DS} {μ : Mu} {Q : DS → Mu → Prop} : kUnl n gs (.lst ds) ρ μ Q = (ds.length = n ∧ gs ds ρ μ Q) := propext Iff.rfl
def KCs (gs : WGs) (r : List D) (Q : DS → Mu → Prop) : DS → Mu → Prop := fun ρ1 μ1 => gs r ρ1 μ1 Q
theorem r_kcons {g : WG} {gs : WGs} {d : D} {r : List D} {ρ : DS} {μ : Mu} {Q : DS → Mu → Prop} : kCons g gs (d :: r) ρ μ Q = g d ρ μ (KCs gs r Q) := propext Iff.rfl
theorem r_kcs {gs : WGs} {r : List D} {ρ : DS} {μ : Mu} {Q : DS → Mu → Prop} : KCs gs r Q ρ μ = gs r ρ μ Q := propext Iff.rfl
theorem r_knil {ρ : DS} {μ : Mu} {Q : DS → Mu → Prop} : kNil [] ρ μ Q = Q ρ μ := propext Iff.rfl
theorem r_par2 {i j : Nat} {wa : WA} {E : DEnds} {ρ : DS} {μ : Mu} : sPar2 i j wa E ρ μ = wa ρ μ (kPar2 i j E ρ) (KX E ρ) := propext Iff.rfl
theorem r_par2a {i j : Nat} {a b : D} {E : DEnds} {ρ : DS} {μ : Mu} : kPar2 i j E ρ [a, b] μ = E.nx ((ρ.set i (.v a)).set j (.v b)) μ := propext Iff.rfl
theorem r_par3 {i j l : Nat} {wa : WA} {E : DEnds} {ρ : DS} {μ : Mu} : sPar3 i j l wa E ρ μ = wa ρ μ (kPar3 i j l E ρ) (KX E ρ) := propext Iff.rfl
theorem r_par3a {i j l : Nat} {a b c : D} {E : DEnds} {ρ : DS} {μ : Mu} : kPar3 i j l E ρ [a, b, c] μ = E.nx (((ρ.set i (.v a)).set j (.v b)).set l (.v c)) μ := propext Iff.rfl
def KAug2 (i : Nat) (E : DEnds) (ρ : DS) : D → Mu → Prop := fun z μ2 => E.nx (ρ.set i (.v z)) μ2
def KAug1 (i : Nat) (f : F2) (x : D) (E : DEnds) (ρ : DS) : D → Mu → Prop := fun y μ1 => f x y μ1 (KAug2 i E ρ)
def KAug (o : Option Sl) (i : Nat) (f : F2) (wa : WE) (E : DEnds) (ρ : DS) (μ : Mu) : Prop := match o with
  | some (.v x) => wa ρ μ (KAug1 i f x E ρ) (KX E ρ)
  | _ => False
theorem r_aug {i : Nat} {f : F2} {wa : WE} {E : DEnds} {ρ : DS} {μ : Mu} : sAug i f wa E ρ μ = KAug (ρ[i]?) i f wa E ρ μ := propext Iff.rfl
theorem r_auga {x : D} {i : Nat} {f : F2} {wa : WE} {E : DEnds} {ρ : DS} {μ : Mu} : KAug (some (.v x)) i f wa E ρ μ = wa ρ μ (KAug1 i f x E ρ) (KX E ρ) := propext Iff.rfl
theorem r_augb {x y : D} {i : Nat} {f : F2} {E : DEnds} {ρ : DS} {μ : Mu} : KAug1 i f x E ρ y μ = f x y μ (KAug2 i E ρ) := propext Iff.rfl
theorem r_augc {d : D} {i : Nat} {E : DEnds} {ρ : DS} {μ : Mu} : KAug2 i E ρ d μ = E.nx (ρ.set i (.v d)) μ := propext Iff.rfl
def KFor (g : WG) (b : WS) (E : DEnds) (ρ : DS) : List D → Mu → Prop := fun ds μ1 => forL g b E ds ρ μ1
theorem r_for {wi : WI} {g : WG} {b : WS} {E : DEnds} {ρ : DS} {μ : Mu} : sFor wi g b E ρ μ = wi ρ μ (KFor g b E ρ) (KX E ρ) := propext Iff.rfl
theorem r_fora {g : WG} {b : WS} {ds : List D} {E : DEnds} {ρ : DS} {μ : Mu} : KFor g b E ρ ds μ = forL g b E ds ρ μ := propext Iff.rfl
def KNx (E : DEnds) (μ : Mu) : DS → Prop := fun ρ => E.nx ρ μ
theorem r_knx {E : DEnds} {ρ : DS} {μ : Mu} : KNx E μ ρ = E.nx ρ μ := propext Iff.rfl
def KPut (c : Str) (i : Nat) (f : Str) (d : D) (ρ : DS) (k : DS → Prop) (o : Option Sl) : Prop := match o with
  | some (.own a (.ins c' ks ds)) => c' = c ∧ ks.length < 1000 ∧ k (ρ.set i (.own a (.ins c' (DL.putK f ks) (DL.putD f d ks ds))))
  | _ => False
def KFldO (c : Str) (i : Nat) (f : Str) (E : DEnds) (ρ : DS) : D → Mu → Prop := fun d μ1 => putOwnI c i f d ρ (KNx E μ1)
theorem r_fldo {c : Str} {i : Nat} {f : Str} {wa : WE} {E : DEnds} {ρ : DS} {μ : Mu} : sFldO c i f wa E ρ μ = wa ρ μ (KFldO c i f E ρ) (KX E ρ) := propext Iff.rfl
theorem r_fldoa {c : Str} {i : Nat} {f : Str} {d : D} {E : DEnds} {ρ : DS} {μ : Mu} : KFldO c i f E ρ d μ = KPut c i f d ρ (KNx E μ) (ρ[i]?) := by
  unfold KFldO putOwnI KPut
  exact propext Iff.rfl
theorem r_put {c c' : Str} {i : Nat} {f : Str} {d : D} {a : Addr} {ks : List Str} {ds : List D} {k : DS → Prop} {ρ : DS} : KPut c i f d ρ k (some (.own a (.ins c' ks ds))) = (c' = c ∧ ks.length < 1000 ∧ k (ρ.set i (.own a (.ins c' (DL.putK f ks) (DL.putD f d ks ds))))) := propext Iff.rfl
def KFrz2 (i : Nat) (ρ : DS) (k : DS → Prop) (o : Option D) : Prop := match o with
  | some d => k (ρ.set i (.v d))
  | none => False
def KFrz (i : Nat) (ρ : DS) (k : DS → Prop) (o : Option Sl) : Prop := match o with
  | some (.own _ c) => KFrz2 i ρ k (cellD c)
  | _ => False
def KFz (w : WS) (E : DEnds) (μ : Mu) : DS → Prop := fun ρ => w E ρ μ
theorem r_frz {i : Nat} {w : WS} {E : DEnds} {ρ : DS} {μ : Mu} : sFrz i w E ρ μ = KFrz i ρ (KFz w E μ) (ρ[i]?) := by
  unfold sFrz frz KFrz KFrz2
  exact propext Iff.rfl
theorem r_frz2 {i : Nat} {a : Addr} {c : Cell} {k : DS → Prop} {ρ : DS} : KFrz i ρ k (some (.own a c)) = KFrz2 i ρ k (cellD c) := propext Iff.rfl
theorem r_frz3 {i : Nat} {d : D} {k : DS → Prop} {ρ : DS} : KFrz2 i ρ k (some d) = k (ρ.set i (.v d)) := propext Iff.rfl
theorem r_frz4 {w : WS} {E : DEnds} {ρ : DS} {μ : Mu} : KFz w E μ ρ = w E ρ μ := propext Iff.rfl
theorem r_cl {ds : List D} : cellD (.lst ds) = some (.lst ds) := rfl
def KSetO (i : Nat) (E : DEnds) (ρ : DS) : List D → Mu → Prop := fun ds μ1 => ds.length ≤ 1000 ∧ i < ρ.length ∧ ∀ p, E.nx (ρ.set i (.own p (.lst ds))) μ1
theorem r_seto {i : Nat} {wa : WA} {E : DEnds} {ρ : DS} {μ : Mu} : sSetO i wa E ρ μ = wa ρ μ (KSetO i E ρ) (KX E ρ) := propext Iff.rfl
theorem r_setoa {i : Nat} {ds : List D} {E : DEnds} {ρ : DS} {μ : Mu} : KSetO i E ρ ds μ = (ds.length ≤ 1000 ∧ i < ρ.length ∧ ∀ p, E.nx (ρ.set i (.own p (.lst ds))) μ) := propext Iff.rfl
def KWil (Q : List D → Mu → Prop) : D → Mu → Prop := fun d μ1 => lstOr d fun ds => Q ds μ1
theorem r_wil {wa : WE} {ρ : DS} {μ : Mu} {Q : List D → Mu → Prop} {Xd : XD} : wiL wa ρ μ Q Xd = wa ρ μ (KWil Q) Xd := propext Iff.rfl
theorem r_wila {ds : List D} {μ : Mu} {Q : List D → Mu → Prop} : KWil Q (.lst ds) μ = Q ds μ := propext Iff.rfl
theorem r_wilf {ds : List D} {μ : Mu} {Q : List D → Mu → Prop} : KWil Q (.frl ds) μ = Q ds μ := propext Iff.rfl
def KWit (Q : List D → Mu → Prop) : D → Mu → Prop := fun d μ1 => tupOr d fun ds => Q ds μ1
theorem r_wit {wa : WE} {ρ : DS} {μ : Mu} {Q : List D → Mu → Prop} {Xd : XD} : wiT wa ρ μ Q Xd = wa ρ μ (KWit Q) Xd := propext Iff.rfl
theorem r_wita {ds : List D} {μ : Mu} {Q : List D → Mu → Prop} : KWit Q (.tup ds) μ = Q ds μ := propext Iff.rfl
def KWi1 (Q : List D → Mu → Prop) : List D → Mu → Prop := fun ds μ1 => rg1 ds fun es => Q es μ1
theorem r_wi1 {wa : WA} {ρ : DS} {μ : Mu} {Q : List D → Mu → Prop} {Xd : XD} : wiR1 wa ρ μ Q Xd = wa ρ μ (KWi1 Q) Xd := propext Iff.rfl
theorem r_wi1a {j : Int} {μ : Mu} {Q : List D → Mu → Prop} : KWi1 Q [.int j] μ = rg1 [.int j] fun es => Q es μ := propext Iff.rfl
def KWi2 (Q : List D → Mu → Prop) : List D → Mu → Prop := fun ds μ1 => rg2 ds fun es => Q es μ1
theorem r_wi2 {wa : WA} {ρ : DS} {μ : Mu} {Q : List D → Mu → Prop} {Xd : XD} : wiR2 wa ρ μ Q Xd = wa ρ μ (KWi2 Q) Xd := propext Iff.rfl
theorem r_wi2a {i j : Int} {μ : Mu} {Q : List D → Mu → Prop} : KWi2 Q [.int i, .int j] μ = rg2 [.int i, .int j] fun es => Q es μ := propext Iff.rfl
def KWie (Q : List D → Mu → Prop) : List D → Mu → Prop := fun ds μ1 => lst1 ds fun es => Q (enumD es) μ1
theorem r_wie {wa : WA} {ρ : DS} {μ : Mu} {Q : List D → Mu → Prop} {Xd : XD} : wiEnum wa ρ μ Q Xd = wa ρ μ (KWie Q) Xd := propext Iff.rfl
theorem r_wiea {ds : List D} {μ : Mu} {Q : List D → Mu → Prop} : KWie Q [.lst ds] μ = Q (enumD ds) μ := propext Iff.rfl
def KWiz (Q : List D → Mu → Prop) : List D → Mu → Prop := fun ds μ1 => zip2 ds fun es => Q es μ1
theorem r_wiz {wa : WA} {ρ : DS} {μ : Mu} {Q : List D → Mu → Prop} {Xd : XD} : wiZip wa ρ μ Q Xd = wa ρ μ (KWiz Q) Xd := propext Iff.rfl
theorem r_wiza {a b : List D} {μ : Mu} {Q : List D → Mu → Prop} : KWiz Q [.lst a, .lst b] μ = Q (zipD a b) μ := propext Iff.rfl
theorem r_wizt {a b : List D} {μ : Mu} {Q : List D → Mu → Prop} : KWiz Q [.tup a, .tup b] μ = Q (zipD a b) μ := propext Iff.rfl
def KLc3 (g : WG) (tt : WT) (te : WE) (ρw : DS) (ds acc : List D) (Q : D → Mu → Prop) : D → Mu → Prop := fun y μ4 => acc.length < 1000000 ∧ lcL g tt te ρw ds (acc ++ [y]) μ4 Q
def KLc2 (g : WG) (tt : WT) (te : WE) (ρw : DS) (ρ2 : DS) (ds acc : List D) (Q : D → Mu → Prop) : Bool → Mu → Prop := fun b μ3 => if b = true then te ρ2 μ3 (KLc3 g tt te ρw ds acc Q) xF else lcL g tt te ρw ds acc μ3 Q
def KLc1 (g : WG) (tt : WT) (te : WE) (ρw : DS) (ds acc : List D) (Q : D → Mu → Prop) : DS → Mu → Prop := fun ρ2 μ2 => tt ρ2 μ2 (KLc2 g tt te ρw ρ2 ds acc Q) xF
def KLc0 (g : WG) (tt : WT) (te : WE) (vs : List Nat) (ρ : DS) (Q : D → Mu → Prop) : List D → Mu → Prop := fun ds μ1 => (∀ v ∈ vs, notOwn ρ v) ∧ lcL g tt te (DL.wipeD ρ vs) ds [] μ1 Q
theorem r_lc {wi : WI} {g : WG} {tt : WT} {te : WE} {vs : List Nat} {ρ : DS} {μ : Mu} {Q : D → Mu → Prop} {Xd : XD} : wLc wi g tt te vs ρ μ Q Xd = wi ρ μ (KLc0 g tt te vs ρ Q) Xd := propext Iff.rfl
theorem r_lc0 {g : WG} {tt : WT} {te : WE} {vs : List Nat} {ds : List D} {ρ : DS} {μ : Mu} {Q : D → Mu → Prop} : KLc0 g tt te vs ρ Q ds μ = ((∀ v ∈ vs, notOwn ρ v) ∧ lcL g tt te (DL.wipeD ρ vs) ds [] μ Q) := propext Iff.rfl
theorem r_lcn {g : WG} {tt : WT} {te : WE} {ρw : DS} {acc : List D} {μ : Mu} {Q : D → Mu → Prop} : lcL g tt te ρw [] acc μ Q = Q (.lst acc) μ := propext Iff.rfl
theorem r_lcc {g : WG} {tt : WT} {te : WE} {ρw : DS} {d : D} {ds acc : List D} {μ : Mu} {Q : D → Mu → Prop} : lcL g tt te ρw (d :: ds) acc μ Q = g d ρw μ (KLc1 g tt te ρw ds acc Q) := by
  rw [lcL]
  exact propext Iff.rfl
theorem r_lc1 {g : WG} {tt : WT} {te : WE} {ρw : DS} {ds acc : List D} {ρ : DS} {μ : Mu} {Q : D → Mu → Prop} : KLc1 g tt te ρw ds acc Q ρ μ = tt ρ μ (KLc2 g tt te ρw ρ ds acc Q) xF := propext Iff.rfl
theorem r_lc2t {g : WG} {tt : WT} {te : WE} {ρw : DS} {ds acc : List D} {ρ : DS} {μ : Mu} {Q : D → Mu → Prop} : KLc2 g tt te ρw ρ ds acc Q true μ = te ρ μ (KLc3 g tt te ρw ds acc Q) xF := propext Iff.rfl
theorem r_lc2f {g : WG} {tt : WT} {te : WE} {ρw : DS} {ds acc : List D} {ρ : DS} {μ : Mu} {Q : D → Mu → Prop} : KLc2 g tt te ρw ρ ds acc Q false μ = lcL g tt te ρw ds acc μ Q := propext Iff.rfl
theorem r_lc3 {g : WG} {tt : WT} {te : WE} {ρw : DS} {ds acc : List D} {y : D} {μ : Mu} {Q : D → Mu → Prop} : KLc3 g tt te ρw ds acc Q y μ = (acc.length < 1000000 ∧ lcL g tt te ρw ds (acc ++ [y]) μ Q) := propext Iff.rfl
theorem r_yes {ρ : DS} {μ : Mu} {Q : Bool → Mu → Prop} {Xd : XD} : wYes ρ μ Q Xd = Q true μ := propext Iff.rfl
def KSub3 (ρ : DS) (Q : DS → Mu → Prop) : Mu → Prop := fun μ3 => Q ρ μ3
def KSub2 (x d : D) (ρ : DS) (Q : DS → Mu → Prop) : D → Mu → Prop := fun y μ2 => stL x y d μ2 (KSub3 ρ Q)
def KSub1 (wi : WE) (d : D) (ρ : DS) (Q : DS → Mu → Prop) : D → Mu → Prop := fun x μ1 => wi ρ μ1 (KSub2 x d ρ Q) xF
theorem r_sub {wo wi : WE} {d : D} {ρ : DS} {μ : Mu} {Q : DS → Mu → Prop} : kSub wo wi d ρ μ Q = wo ρ μ (KSub1 wi d ρ Q) xF := propext Iff.rfl
theorem r_sub1 {wi : WE} {x d : D} {ρ : DS} {μ : Mu} {Q : DS → Mu → Prop} : KSub1 wi d ρ Q x μ = wi ρ μ (KSub2 x d ρ Q) xF := propext Iff.rfl
theorem r_sub2 {x y d : D} {ρ : DS} {μ : Mu} {Q : DS → Mu → Prop} : KSub2 x d ρ Q y μ = stL x y d μ (KSub3 ρ Q) := propext Iff.rfl
theorem r_sub3 {ρ : DS} {μ : Mu} {Q : DS → Mu → Prop} : KSub3 ρ Q μ = Q ρ μ := propext Iff.rfl
theorem r_dnx {Q : D → Mu → Prop} {Xd : XD} {ρ : DS} {μ : Mu} : (defE Q Xd).nx ρ μ = Q .non μ := propext Iff.rfl
theorem r_drt {Q : D → Mu → Prop} {Xd : XD} : (defE Q Xd).rt = Q := rfl
theorem r_dxc {c : Str} {ks : List Str} {es : List D} {Q : D → Mu → Prop} {Xd : XD} {ρ : DS} {μ : Mu} : (defE Q Xd).xc c ks es ρ μ = Xd c ks es μ := propext Iff.rfl
def KInit (Q : List Str → List D → Mu → Prop) (μ : Mu) : List Str → List D → Prop := fun ks ds => Q ks ds μ
theorem r_inx {c : Str} {a : Addr} {Q : List Str → List D → Mu → Prop} {Xd : XD} {ρ : DS} {μ : Mu} : (defI c a Q Xd).nx ρ μ = initEnd c a (KInit Q μ) ρ := propext Iff.rfl
theorem r_init {ks : List Str} {ds : List D} {Q : List Str → List D → Mu → Prop} {μ : Mu} : KInit Q μ ks ds = Q ks ds μ := propext Iff.rfl
theorem r_ixc {n c : Str} {a : Addr} {ks : List Str} {es : List D} {Q : List Str → List D → Mu → Prop} {Xd : XD} {ρ : DS} {μ : Mu} : (defI n a Q Xd).xc c ks es ρ μ = Xd c ks es μ := propext Iff.rfl
end DL

set_option Elab.async false
set_option linter.all false
set_option maxRecDepth 100000
set_option maxHeartbeats 4000000
set_option autoImplicit false
set_option exponentiation.threshold 3000
namespace DL
open PySem PySem.Spec PyProof.Rows L2
/-! ### frames of exceptions, properties, while -/
section
variable {E : DEnds} {ρ : DS} {μ : Mu} {Q : D → Mu → Prop} {Xd : XD} {c : Str} {ks : List Str} {ds es : List D} {i : Nat}
def KRaise (c : Str) (ks : List Str) (E : DEnds) (ρ : DS) : List D → Mu → Prop := fun ds μ1 => ds.length ≤ 1000 ∧ ds.length = ks.length ∧ E.xc c ks.reverse ds.reverse ρ μ1
theorem t_raise {wa : WA} : sRaise c ks wa E ρ μ = wa ρ μ (KRaise c ks E ρ) (KX E ρ) := propext Iff.rfl
theorem t_raise2 : KRaise c ks E ρ ds μ = (ds.length ≤ 1000 ∧ ds.length = ks.length ∧ E.xc c ks.reverse ds.reverse ρ μ) := propext Iff.rfl
theorem t_try {mt : Str → Option Bool} {wb wsu : WS} : sTry mt i wb wsu E ρ μ = wb { E with xc := caught mt i wsu E } ρ μ := propext Iff.rfl
def KCat (o : Option Bool) (i : Nat) (wsu : WS) (E : DEnds) (c : Str) (ks : List Str) (es : List D) (ρ : DS) (μ : Mu) : Prop := match o with
  | some true => wsu (suiteE i E) (ρ.set i (.exn c ks es)) μ
  | some false => E.xc c ks es ρ μ
  | none => False
theorem t_cat {mt : Str → Option Bool} {wsu : WS} : caught mt i wsu E c ks es ρ μ = KCat (mt c) i wsu E c ks es ρ μ := propext Iff.rfl
theorem t_catt {wsu : WS} : KCat (some true) i wsu E c ks es ρ μ = wsu (suiteE i E) (ρ.set i (.exn c ks es)) μ := propext Iff.rfl
theorem t_catf {wsu : WS} : KCat (some false) i wsu E c ks es ρ μ = E.xc c ks es ρ μ := propext Iff.rfl
theorem t_sunx : (suiteE i E).nx ρ μ = (noExn (ρ.set i .no) = true ∧ E.nx (ρ.set i .no) μ) := propext Iff.rfl
theorem t_surt : (suiteE i E).rt = E.rt := rfl
theorem t_nx0 : noExn [] = true := rfl
theorem t_nx1 : noExn (.no :: ρ) = noExn ρ := rfl
theorem t_nx2 {d : D} : noExn (.v d :: ρ) = noExn ρ := rfl
theorem t_nx3 {a : Addr} {c : Cell} : noExn (.own a c :: ρ) = noExn ρ := rfl
def KProp (c : Str) (sp : DSp) (Q : D → Mu → Prop) : D → Mu → Prop := fun x μ1 => isCls c x μ1 (sp [x] μ1 Q xF)
theorem t_prop {sp : DSp} {wa : WE} : wProp c sp wa ρ μ Q Xd = wa ρ μ (KProp c sp Q) Xd := propext Iff.rfl
theorem t_prop2 {sp : DSp} {x : D} : KProp c sp Q x μ = isCls c x μ (sp [x] μ Q xF) := propext Iff.rfl
def KXf (o : Option Sl) (cs : List Str) (f : Str) (μ : Mu) (Q : D → Mu → Prop) : Prop := match o with
  | some (.exn c ks ds) => c ∈ cs ∧ KFld2 (fldOf f ks ds) μ Q
  | _ => False
theorem t_xf {cs : List Str} {f : Str} : wXf cs i f ρ μ Q Xd = KXf (ρ[i]?) cs f μ Q := by
  unfold wXf KXf KExn getX KFld2
  exact propext Iff.rfl
theorem t_xf2 {cs : List Str} {f : Str} : KXf (some (.exn c ks ds)) cs f μ Q = (c ∈ cs ∧ KFld2 (fldOf f ks ds) μ Q) := propext Iff.rfl
def KIsX (o : Option Sl) (f : TyN → TyN → Option Bool) (cn : Str) (μ : Mu) (Q : D → Mu → Prop) : Prop := match o with
  | some (.exn c _ _) => KIsi (f (.c c) (.c cn)) μ Q
  | _ => False
theorem t_isx {f : TyN → TyN → Option Bool} {cn : Str} : wIsE f i cn ρ μ Q Xd = KIsX (ρ[i]?) f cn μ Q := by
  unfold wIsE KIsX KExn KIsi
  exact propext Iff.rfl
theorem t_isx2 {f : TyN → TyN → Option Bool} {cn : Str} : KIsX (some (.exn c ks ds)) f cn μ Q = KIsi (f (.c c) (.c cn)) μ Q := propext Iff.rfl
def KWh (b : WS) (K : DS → Mu → Prop) (E : DEnds) (ρ : DS) : Bool → Mu → Prop := fun k μ1 => if k = true then b { E with nx := K, ct := K, bk := E.nx } ρ μ1 else E.nx ρ μ1
theorem t_wht {b : WS} {K : DS → Mu → Prop} : KWh b K E ρ true μ = b { E with nx := K, ct := K, bk := E.nx } ρ μ := propext Iff.rfl
theorem t_whf {b : WS} {K : DS → Mu → Prop} : KWh b K E ρ false μ = E.nx ρ μ := propext Iff.rfl
end
theorem t_equ {x y : D} {μ : Mu} {Q : D → Mu → Prop} : fEqU x y μ Q = eqU x y fun b => Q (.bl b) μ := propext Iff.rfl
theorem t_neu {x y : D} {μ : Mu} {Q : D → Mu → Prop} : fNeU x y μ Q = eqU x y fun b => Q (.bl (!b)) μ := propext Iff.rfl
/-! ### comparisons of texts and lists -/
theorem atoms_no {x y : D} {k : Bool → Prop} {u v : V} (h1 : atomV x = some u) (h2 : atomV y = some v) (hs : scal u v = true) (hd : ∀ k', eqD x y k' → k' (decide (u = v))) : eqU x y k = k (decide (u = v)) := by
  apply propext
  constructor
  · rintro (⟨u', v', e1, e2, _, h⟩ | h)
    · rw [h1] at e1
      rw [h2] at e2
      cases e1
      cases e2
      exact h
    · exact hd k h
  · intro h
    exact .inl ⟨u, v, h1, h2, hs, h⟩
theorem eqU_int {i j : Int} {k : Bool → Prop} : eqU (.int i) (.int j) k = k (decide (i = j)) := by
  have e : decide (V.int i = V.int j) = decide (i = j) := by rw [dec_int, Bool.beq_eq_decide_eq]
  rw [atoms_no (x := .int i) (y := .int j) rfl rfl rfl fun k' h => by rw [eqD_int] at h; rw [e]; exact h, e]
theorem eqU_str {a b : Str} {k : Bool → Prop} : eqU (.str a) (.str b) k = k (decide (a = b)) := by
  have e : decide (V.str a = V.str b) = decide (a = b) := by
    rw [Bool.eq_iff_iff]
    simp
  rw [atoms_no (x := .str a) (y := .str b) rfl rfl rfl fun k' h => by
    obtain ⟨p, q, h1, h2, _, _, h⟩ := h
    rw [toP] at h1 h2
    cases h1
    cases h2
    have e' : PyData.eqv (.str a) (.str b) = decide (a = b) := by
      rw [Bool.eq_iff_iff]; simp [PyData.eqv]
    rw [e, ← e']; exact h, e]
theorem eqU_bl {a b : Bool} {k : Bool → Prop} : eqU (.bl a) (.bl b) k = k (a == b) := by
  have e : decide (V.bl a = V.bl b) = (a == b) := by cases a <;> cases b <;> decide
  rw [atoms_no (x := .bl a) (y := .bl b) rfl rfl rfl fun k' h => by
    obtain ⟨p, q, h1, h2, _, _, h⟩ := h
    rw [toP] at h1 h2
    cases h1
    cases h2
    have e' : PyData.eqv (.bool a) (.bool b) = (a == b) := by cases a <;> cases b <;> rfl
    rw [e, ← e']; exact h, e]
/-! ### a comprehension that tells of each item -/
def KEl (te : WE) (K : D → Mu → Prop) : DS → Mu → Prop := fun ρ2 μ2 => te ρ2 μ2 K xF
theorem t_el {te : WE} {K : D → Mu → Prop} {ρ : DS} {μ : Mu} : KEl te K ρ μ = te ρ μ K xF := propext Iff.rfl
end DL

set_option Elab.async false
set_option linter.all false
set_option maxRecDepth 100000
set_option maxHeartbeats 4000000
set_option autoImplicit false
set_option exponentiation.threshold 3000
namespace DL
open PySem PySem.Spec PyProof.Rows L2
/-! frames of DX8 to DX11 -/
section
variable {Q : D → Mu → Prop} {Xd : XD} {ρ : DS} {μ : Mu} {E : DEnds}
def KLof (o : Option (List D)) (μ : Mu) (Q : D → Mu → Prop) : Prop := match o with
  | some ds => Q (.lst ds) μ
  | none => False
def KTof (o : Option (List D)) (μ : Mu) (Q : D → Mu → Prop) : Prop := match o with
  | some ds => Q (.tup ds) μ
  | none => False
theorem u_lof {x : D} : fListOf [x] μ Q = KLof (itemsD x μ) μ Q := propext Iff.rfl
theorem u_lof2 {ds : List D} : KLof (some ds) μ Q = Q (.lst ds) μ := propext Iff.rfl
theorem u_tof {x : D} : fTupOf [x] μ Q = KTof (itemsD x μ) μ Q := propext Iff.rfl
theorem u_tof2 {ds : List D} : KTof (some ds) μ Q = Q (.tup ds) μ := propext Iff.rfl
theorem u_isiT {f : TyN → TyN → Option Bool} {x : D} {cs : List D} : fIsiT f [x, .tup cs] μ Q = KIsi (isiDT f x cs μ) μ Q := propext Iff.rfl
theorem u_dict {i j : Int} : wDictII i j ρ μ Q Xd = Q (.opq (.dK [(.inl i, .int j)])) μ := propext Iff.rfl
/-! own comparisons -/
def KBl (neg : Bool) (Q : D → Mu → Prop) : D → Mu → Prop := fun d μ1 => fBool d fun b => Q (.bl (neg ^^ b)) μ1
theorem u_bl {neg b : Bool} : KBl neg Q (.bl b) μ = Q (.bl (neg ^^ b)) μ := propext Iff.rfl
theorem u_own {c : Str} {Ts : List String} {Cs : List Str} {sp : DSp} {x y : D} : fOwn c Ts Cs sp x y μ Q = isCls c x μ (othC Ts Cs y μ (sp [x, y] μ Q xF)) := propext Iff.rfl
theorem u_ownN {c : Str} {Ts : List String} {Cs : List Str} {sp : DSp} {x y : D} : fOwnN c Ts Cs sp x y μ Q = isCls c x μ (othC Ts Cs y μ (sp [x, y] μ (KBl true Q) xF)) := by
  unfold fOwnN KBl
  simp only [Bool.true_xor]
theorem u_has {c : Str} {sp : DSp} {x y : D} : fHas c sp y x μ Q = isCls c x μ (sp [x, y] μ (KBl false Q) xF) := by
  unfold fHas KBl
  simp only [Bool.false_xor]
theorem u_hasN {c : Str} {sp : DSp} {x y : D} : fHasN c sp y x μ Q = isCls c x μ (sp [x, y] μ (KBl true Q) xF) := by
  unfold fHasN KBl
  simp only [Bool.true_xor]
/-! reflected, static -/
def KBk2 (c T : Str) (T' : String) (sp : DSp) (y : D) (Q : D → Mu → Prop) (Xd : XD) : D → Mu → Prop := fun x μ2 => isTy T' y μ2 (isCls c x μ2 (sp [x, y] μ2 Q Xd))
def KBk1 (c : Str) (T : String) (sp : DSp) (wb : WE) (ρ : DS) (Q : D → Mu → Prop) (Xd : XD) : D → Mu → Prop := fun y μ1 => wb ρ μ1 (KBk2 c c T sp y Q Xd) Xd
theorem u_bk {c : Str} {T : String} {sp : DSp} {wa wb : WE} : wBack c T sp wa wb ρ μ Q Xd = wa ρ μ (KBk1 c T sp wb ρ Q Xd) Xd := propext Iff.rfl
theorem u_bk1 {c : Str} {T : String} {sp : DSp} {wb : WE} {y : D} : KBk1 c T sp wb ρ Q Xd y μ = wb ρ μ (KBk2 c c T sp y Q Xd) Xd := propext Iff.rfl
theorem u_bk2 {c c' : Str} {T : String} {sp : DSp} {x y : D} : KBk2 c c' T sp y Q Xd x μ = isTy T y μ (isCls c x μ (sp [x, y] μ Q Xd)) := propext Iff.rfl
theorem u_stat {sp : DSp} : wStat sp ρ μ Q Xd = sp [] μ Q Xd := propext Iff.rfl
/-! own lists -/
def KAp (i : Nat) (p : Addr) (ds : List D) (E : DEnds) (ρ : DS) : List D → Mu → Prop := fun xs μ1 => ds.length < 1000000 ∧ ∃ d, xs = [d] ∧ E.nx (ρ.set i (.own p (.lst (ds ++ [d])))) μ1
theorem u_ap {i : Nat} {wa : WA} : sAppO i wa E ρ μ = appO i wa E ρ μ (ρ[i]?) := propext Iff.rfl
theorem u_ap1 {i : Nat} {wa : WA} {p : Addr} {ds : List D} : appO i wa E ρ μ (some (.own p (.lst ds))) = wa ρ μ (KAp i p ds E ρ) (KX E ρ) := propext Iff.rfl
theorem u_ap2 {i : Nat} {p : Addr} {ds : List D} {d : D} : KAp i p ds E ρ [d] μ = (ds.length < 1000000 ∧ E.nx (ρ.set i (.own p (.lst (ds ++ [d])))) μ) := by
  apply propext
  constructor
  · rintro ⟨h, d', e, q⟩
    cases e
    exact ⟨h, q⟩
  · rintro ⟨h, q⟩
    exact ⟨h, d, rfl, q⟩
def KEx (i : Nat) (p : Addr) (ds : List D) (E : DEnds) (ρ : DS) : List D → Mu → Prop := fun xs μ1 => ∃ zs, xs = [.lst zs] ∧ ds.length + zs.length ≤ 1000000 ∧ E.nx (ρ.set i (.own p (.lst (ds ++ zs)))) μ1
theorem u_ex {i : Nat} {wa : WA} : sExtO i wa E ρ μ = extO i wa E ρ μ (ρ[i]?) := propext Iff.rfl
theorem u_ex1 {i : Nat} {wa : WA} {p : Addr} {ds : List D} : extO i wa E ρ μ (some (.own p (.lst ds))) = wa ρ μ (KEx i p ds E ρ) (KX E ρ) := propext Iff.rfl
theorem u_ex2 {i : Nat} {p : Addr} {ds zs : List D} : KEx i p ds E ρ [.lst zs] μ = (ds.length + zs.length ≤ 1000000 ∧ E.nx (ρ.set i (.own p (.lst (ds ++ zs)))) μ) := by
  apply propext
  constructor
  · rintro ⟨zs', e, h, q⟩
    cases e
    exact ⟨h, q⟩
  · rintro ⟨h, q⟩
    exact ⟨zs, rfl, h, q⟩
theorem room2 {k : Nat} {A : Around} (r : Room k A) : A.units + 1 < cLine := by have := r.un; omega
theorem u_kd {L : List (List Int × Int)} {ds : List D} : fKd L (.tup ds) μ Q = ∃ ks, intsD ds = some ks ∧ ∃ v, kdGet L ks = some v ∧ Q (.int v) μ := propext Iff.rfl
def KWizX (Q : List D → Mu → Prop) : List D → Mu → Prop := fun ds μ1 => zipX2 ds fun es => Q es μ1
theorem u_wzx {wa : WA} {Q : List D → Mu → Prop} : wiZipX wa ρ μ Q Xd = wa ρ μ (KWizX Q) Xd := propext Iff.rfl
theorem u_wzl {a b : List D} {Q : List D → Mu → Prop} : KWizX Q [.lst a, .lst b] μ = Q (zipD a b) μ := propext Iff.rfl
theorem u_wzt {a b : List D} {Q : List D → Mu → Prop} : KWizX Q [.tup a, .tup b] μ = Q (zipD a b) μ := propext Iff.rfl
theorem u_wzm {a b : List D} {Q : List D → Mu → Prop} : KWizX Q [.tup a, .lst b] μ = Q (zipD a b) μ := propext Iff.rfl
theorem u_zd {a b : List D} {x y : D} : zipD (x :: a) (y :: b) = .tup [x, y] :: zipD a b := rfl
theorem u_zd0 {b : List D} : zipD [] b = [] := rfl
def KWeX (Q : List D → Mu → Prop) : List D → Mu → Prop := fun ds μ1 => enX ds fun es => Q es μ1
theorem u_wex {wa : WA} {Q : List D → Mu → Prop} : wiEnumX wa ρ μ Q Xd = wa ρ μ (KWeX Q) Xd := propext Iff.rfl
theorem u_wel {a : List D} {Q : List D → Mu → Prop} : KWeX Q [.lst a] μ = Q (enumD a) μ := propext Iff.rfl
theorem u_wef {a : List D} {Q : List D → Mu → Prop} : KWeX Q [.frl a] μ = Q (enumD a) μ := propext Iff.rfl
theorem u_wet {a : List D} {Q : List D → Mu → Prop} : KWeX Q [.tup a] μ = Q (enumD a) μ := propext Iff.rfl
def enN : Nat → List D → List D
  | _, [] => []
  | n, d :: ds => .tup [.int n, d] :: enN (n + 1) ds
theorem enN_eq : ∀ (ds : List D) (n : Nat), ds.mapIdx (fun i d => D.tup [.int ((n + i : Nat) : Int), d]) = enN n ds
  | [], n => rfl
  | d :: ds, n => by
    rw [List.mapIdx_cons, enN, ← enN_eq ds (n + 1)]
    congr 1
    refine List.ext_getElem? fun i => ?_
    rw [List.getElem?_mapIdx, List.getElem?_mapIdx]
    have e : n + (i + 1) = n + 1 + i := by omega
    rw [e]
theorem u_en {d : D} {ds : List D} : enumD (d :: ds) = enN 0 (d :: ds) := by
  rw [← enN_eq]
  unfold enumD
  refine List.ext_getElem? fun i => ?_
  rw [List.getElem?_mapIdx, List.getElem?_mapIdx, Nat.zero_add]
theorem u_en0 : enumD [] = [] := rfl
theorem u_enc {n : Nat} {d : D} {ds : List D} : enN n (d :: ds) = .tup [.int n, d] :: enN (n + 1) ds := rfl
theorem u_enn {n : Nat} : enN n [] = [] := rfl
theorem u_ownL {p : Addr} {ds : List D} {k : List D → Prop} : ownL (some (.own p (.lst ds))) k = k ds := propext Iff.rfl
theorem u_olen {i : Nat} : wOwnLen i ρ μ Q Xd = ownL (ρ[i]?) fun ds => Q (.int ds.length) μ := propext Iff.rfl
def KOx (ds : List D) (Q : D → Mu → Prop) : D → Mu → Prop := fun y μ1 => intOr y fun j => KIx2 (atI ds j) μ1 Q
theorem u_oix {i : Nat} {wb : WE} : wOwnIx i wb ρ μ Q Xd = ownL (ρ[i]?) fun ds => wb ρ μ (KOx ds Q) Xd := propext Iff.rfl
theorem u_oix1 {ds : List D} {j : Int} : KOx ds Q (.int j) μ = KIx2 (atI ds j) μ Q := propext Iff.rfl
def KOi (neg : Bool) (ds : List D) (Q : D → Mu → Prop) : D → Mu → Prop := fun x μ1 => ownIn neg x ds fun b => Q (.bl b) μ1
theorem u_oin {neg : Bool} {i : Nat} {wa : WE} : wOwnIn neg i wa ρ μ Q Xd = ownL (ρ[i]?) fun ds => wa ρ μ (KOi neg ds Q) Xd := propext Iff.rfl
def KHotX (sp : XSp) (o : Option Sl) (μ : Mu) (Q : D → Mu → Prop) : Prop := KExn o fun c ks es => sp c ks es μ Q
theorem u_hot {sp : XSp} {i : Nat} : wHotX sp i ρ μ Q Xd = KHotX sp (ρ[i]?) μ Q := propext Iff.rfl
theorem u_hot1 {sp : XSp} {c : Str} {ks : List Str} {es : List D} : KHotX sp (some (.exn c ks es)) μ Q = sp c ks es μ Q := propext Iff.rfl
def KMb2 (f : F2) (x : D) (Q : D → Mu → Prop) : D → Mu → Prop := fun y μ2 => f x y μ2 Q
def KMb (f : F2) (wa : WE) (ρ : DS) (Q : D → Mu → Prop) (Xd : XD) : D → Mu → Prop := fun x μ1 => isL x (wa ρ μ1 (KMb2 f x Q) Xd)
theorem u_mb {f : F2} {wo wa : WE} : wMb f wo wa ρ μ Q Xd = wo ρ μ (KMb f wa ρ Q Xd) Xd := propext Iff.rfl
theorem u_mb1 {f : F2} {wa : WE} {ds : List D} : KMb f wa ρ Q Xd (.lst ds) μ = wa ρ μ (KMb2 f (.lst ds) Q) Xd := propext Iff.rfl
theorem u_mb1f {f : F2} {wa : WE} {ds : List D} : KMb f wa ρ Q Xd (.frl ds) μ = wa ρ μ (KMb2 f (.frl ds) Q) Xd := propext Iff.rfl
theorem u_mb2 {f : F2} {x y : D} : KMb2 f x Q y μ = f x y μ Q := propext Iff.rfl
theorem u_rev {ds : List D} : fRev (.lst ds) μ Q = Q (.lst ds.reverse) μ := propext Iff.rfl
theorem u_revf {ds : List D} : fRev (.frl ds) μ Q = Q (.lst ds.reverse) μ := propext Iff.rfl
def KMu (c1 c2 m : Str) (sp1 sp2 : DSp) (wa : WA) (ρ : DS) (Q : D → Mu → Prop) (Xd : XD) : D → Mu → Prop := fun x μ1 => hasCls c1 m x μ1 (wa ρ μ1 (KMe2 sp1 x Q Xd) Xd) ∨ hasCls c2 m x μ1 (wa ρ μ1 (KMe2 sp2 x Q Xd) Xd)
theorem u_mu {c1 c2 m : Str} {sp1 sp2 : DSp} {wo : WE} {wa : WA} : wMethU c1 c2 m sp1 sp2 wo wa ρ μ Q Xd = wo ρ μ (KMu c1 c2 m sp1 sp2 wa ρ Q Xd) Xd := propext Iff.rfl
theorem u_mu1 {c1 c2 m : Str} {sp1 sp2 : DSp} {wa : WA} {x : D} : KMu c1 c2 m sp1 sp2 wa ρ Q Xd x μ = (hasCls c1 m x μ (wa ρ μ (KMe2 sp1 x Q Xd) Xd) ∨ hasCls c2 m x μ (wa ρ μ (KMe2 sp2 x Q Xd) Xd)) := propext Iff.rfl
theorem u_sumT {ds : List D} : fSumX [.tup ds] μ Q = ∃ ns, intsD ds = some ns ∧ Q (.int ns.sum) μ := propext Iff.rfl
theorem u_sumL {ds : List D} : fSumX [.lst ds] μ Q = ∃ ns, intsD ds = some ns ∧ Q (.int ns.sum) μ := propext Iff.rfl
theorem u_wio {i : Nat} {Q : List D → Mu → Prop} : wiOwn i ρ μ Q Xd = ownL (ρ[i]?) fun ds => Q ds μ := propext Iff.rfl
end
end DL

set_option Elab.async false
set_option linter.all false
set_option maxRecDepth 100000
set_option maxHeartbeats 4000000
set_option autoImplicit false
set_option exponentiation.threshold 3000
namespace DL
open PySem PySem.Spec PyProof.Rows L2
/-! ### == of plain data, by recursion -/
def P0 : D → Bool
  | .non => true
  | .bl _ => true
  | .int _ => true
  | .str s => PyData.strOk s
  | _ => false
def Pn (p : D → Bool) : D → Bool
  | .tup ds => ds.all p
  | .lst ds => ds.all p
  | .frl ds => ds.all p
  | d => P0 d
abbrev P5 : D → Bool := Pn (Pn (Pn (Pn (Pn P0))))
mutual
def deq : D → D → Bool
  | .non, .non => true
  | .bl a, .bl b => a == b
  | .bl a, .int j => decide ((if a then 1 else 0) = j)
  | .int i, .bl b => decide (i = (if b then 1 else 0))
  | .int i, .int j => decide (i = j)
  | .str a, .str b => decide (a = b)
  | .tup a, .tup b => deqs a b
  | .lst a, .lst b => deqs a b
  | .lst a, .frl b => deqs a b
  | .frl a, .lst b => deqs a b
  | .frl a, .frl b => deqs a b
  | _, _ => false
def deqs : List D → List D → Bool
  | [], [] => true
  | x :: xs, y :: ys => deq x y && deqs xs ys
  | _, _ => false
end
/-- data of depth n -/
structure Lay (n : Nat) (d : D) (p : PyData) : Prop where
  to : toP d = some p
  lay : p.canLay0 = true
  dep : p.depth ≤ n
theorem P0_lay {d : D} (h : P0 d = true) : ∃ p, Lay 0 d p := by
  cases d <;> first | (cases h; done) | skip
  · exact ⟨.none, ⟨by rw [toP], rfl, Nat.le_refl _⟩⟩
  · exact ⟨.bool _, ⟨by rw [toP], rfl, Nat.le_refl _⟩⟩
  · exact ⟨.int _, ⟨by rw [toP], rfl, Nat.le_refl _⟩⟩
  · exact ⟨.str _, ⟨by rw [toP], h, Nat.le_refl _⟩⟩
theorem lays {p : D → Bool} {n : Nat} (hp : ∀ d, p d = true → ∃ q, Lay n d q) : ∀ ds : List D, ds.all p = true → ∃ qs, toPs ds = some qs ∧ PyData.canLayAll0 qs = true ∧ PyData.depthAll qs ≤ n
  | [], _ => ⟨[], by rw [toPs], rfl, Nat.zero_le _⟩
  | d :: ds, h => by
    rw [List.all_cons, Bool.and_eq_true_iff] at h
    obtain ⟨q, h1⟩ := hp d h.1
    obtain ⟨qs, h2, h3, h4⟩ := lays hp ds h.2
    refine ⟨q :: qs, by rw [toPs, h1.to, h2], ?_, ?_⟩
    · rw [PyData.canLayAll0, h1.lay, h3]
      rfl
    · rw [PyData.depthAll]
      exact Nat.max_le.mpr ⟨h1.dep, h4⟩
theorem Pn_lay {p : D → Bool} {n : Nat} (hp : ∀ d, p d = true → ∃ q, Lay n d q) {d : D} (h : Pn p d = true) : ∃ q, Lay (n + 1) d q := by
  have low : P0 d = true → ∃ q, Lay (n + 1) d q := fun h => by
    obtain ⟨q, h1⟩ := P0_lay h
    exact ⟨q, h1.to, h1.lay, by have := h1.dep; omega⟩
  cases d with
  | tup ds =>
    obtain ⟨qs, h2, h3, h4⟩ := lays hp ds h
    exact ⟨.tuple qs, by rw [toP, h2]; rfl, h3, Nat.succ_le_succ h4⟩
  | lst ds =>
    obtain ⟨qs, h2, h3, h4⟩ := lays hp ds h
    exact ⟨.list qs, by rw [toP, h2]; rfl, h3, Nat.succ_le_succ h4⟩
  | frl ds =>
    obtain ⟨qs, h2, h3, h4⟩ := lays hp ds h
    exact ⟨.list qs, by rw [toP, h2]; rfl, h3, Nat.succ_le_succ h4⟩
  | non => exact low h
  | bl b => exact low h
  | int i => exact low h
  | str z => exact low h
  | obj c ks ds => exact low h
  | loc n => exact low h
  | ty n => exact low h
  | cls c => exact low h
  | opq o => exact low h
theorem P5_lay {d : D} (h : P5 d = true) : ∃ q, Lay 5 d q := Pn_lay (fun _ h => Pn_lay (fun _ h => Pn_lay (fun _ h => Pn_lay (fun _ h => Pn_lay (fun _ h => P0_lay h) h) h) h) h) h
mutual
theorem deq_eqv : ∀ (x y : D) (p q : PyData), toP x = some p → toP y = some q → PyData.eqv p q = deq x y := by
  intro x y p q hx hy
  cases x <;> simp only [toP, Option.map_eq_some_iff, Option.some.injEq, reduceCtorEq] at hx <;> cases y <;> simp only [toP, Option.map_eq_some_iff, Option.some.injEq, reduceCtorEq] at hy
  all_goals first
    | (subst hx hy; simp [PyData.eqv, deq]; done)
    | (subst hx hy; rw [PyData.eqv, deq, Bool.beq_eq_decide_eq]; done)
    | (obtain ⟨ps, hx, rfl⟩ := hx; obtain ⟨qs, hy, rfl⟩ := hy; rw [PyData.eqv, deq]; exact deqs_eqv _ _ _ _ hx hy)
    | (obtain ⟨ps, hx, rfl⟩ := hx; subst hy; simp [PyData.eqv, deq]; done)
    | (obtain ⟨qs, hy, rfl⟩ := hy; subst hx; simp [PyData.eqv, deq]; done)
    | (obtain ⟨ps, hx, rfl⟩ := hx; obtain ⟨qs, hy, rfl⟩ := hy; simp [PyData.eqv, deq]; done)
theorem deqs_eqv : ∀ (xs ys : List D) (ps qs : List PyData), toPs xs = some ps → toPs ys = some qs → PyData.eqvAll ps qs = deqs xs ys := by
  intro xs ys ps qs hx hy
  cases xs with
  | nil =>
    rw [toPs] at hx
    cases hx
    cases ys with
    | nil => rw [toPs] at hy; cases hy; rfl
    | cons y ys =>
      rw [toPs] at hy
      split at hy
      · cases hy; simp [PyData.eqvAll, deqs]
      · cases hy
  | cons x xs =>
    rw [toPs] at hx
    split at hx
    · rename_i p ps' h1 h2
      cases hx
      cases ys with
      | nil => rw [toPs] at hy; cases hy; simp [PyData.eqvAll, deqs]
      | cons y ys =>
        rw [toPs] at hy
        split at hy
        · rename_i q qs' h3 h4
          cases hy
          rw [PyData.eqvAll, deqs, deq_eqv x y _ _ h1 h3, deqs_eqv xs ys _ _ h2 h4]
        · cases hy
    · cases hx
end
theorem eqU_pl {x y : D} (hx : P5 x = true) (hy : P5 y = true) {k : Bool → Prop} : eqU x y k = k (deq x y) := by
  apply propext
  constructor
  · rintro (⟨u, v, h1, h2, hs, h⟩ | ⟨p, q, h1, h2, _, _, h⟩)
    · have e : decide (u = v) = deq x y := by
        cases x <;> cases h1 <;> cases y <;> cases h2 <;> first
          | (cases hs; done)
          | (simp [deq]; done)
          | (simp only [deq]; rw [Bool.eq_iff_iff]; simp)
      rw [← e]
      exact h
    · rw [← deq_eqv x y p q h1 h2]
      exact h
  · intro h
    obtain ⟨p, a1, a2, a3⟩ := P5_lay hx
    obtain ⟨q, b1, b2, b3⟩ := P5_lay hy
    refine .inr ⟨p, q, a1, b1, ?_, ?_, ?_⟩
    · unfold SeqAt.shaped
      rw [a2]
      exact decide_eq_true (by omega)
    · unfold SeqAt.shaped
      rw [b2]
      exact decide_eq_true (by omega)
    · rw [deq_eqv x y p q a1 b1]
      exact h
/-! count, index of plain data -/
theorem P5_shaped {d : D} (h : P5 d = true) : ∃ p, toP d = some p ∧ SeqAt.shaped p = true := by
  obtain ⟨p, a1, a2, a3⟩ := P5_lay h
  refine ⟨p, a1, ?_⟩
  unfold SeqAt.shaped
  rw [a2]
  exact decide_eq_true (by omega)
theorem lst_toP {ds : List D} {q : PyData} (h : toP (.lst ds) = some q) : ∃ qs, q = .list qs ∧ toPs ds = some qs := by
  rw [toP, Option.map_eq_some_iff] at h
  obtain ⟨qs, h1, h2⟩ := h
  exact ⟨qs, h2.symm, h1⟩
/-! simp lemmas -/
section
variable {p : D → Bool}
theorem p_int {i : Int} : Pn p (.int i) = true := rfl
theorem p_bl {i : Bool} : Pn p (.bl i) = true := rfl
theorem p_non : Pn p .non = true := rfl
theorem p_tup {ds : List D} : Pn p (.tup ds) = ds.all p := rfl
theorem p_lst {ds : List D} : Pn p (.lst ds) = ds.all p := rfl
theorem p_frl {ds : List D} : Pn p (.frl ds) = ds.all p := rfl
theorem p0_int {i : Int} : P0 (.int i) = true := rfl
theorem p0_bl {i : Bool} : P0 (.bl i) = true := rfl
theorem p0_non : P0 .non = true := rfl
theorem all_map {α : Type} {f : α → D} {l : List α} (h : ∀ x, p (f x) = true) : (l.map f).all p = true := by
  rw [List.all_eq_true]
  intro d hd
  obtain ⟨x, _, rfl⟩ := List.mem_map.mp hd
  exact h x
end
/-- lists of data that are told by values -/
theorem deqs_map {α : Type} [DecidableEq α] {f : α → D} (h : ∀ a b, deq (f a) (f b) = decide (a = b)) : ∀ xs ys : List α, deqs (xs.map f) (ys.map f) = decide (xs = ys)
  | [], [] => rfl
  | [], y :: ys => by simp [deqs]
  | x :: xs, [] => by simp [deqs]
  | x :: xs, y :: ys => by
    rw [List.map_cons, List.map_cons, deqs, h, deqs_map h xs ys, Bool.eq_iff_iff]
    simp
end DL

set_option Elab.async false
set_option linter.all false
set_option maxRecDepth 100000
set_option maxHeartbeats 4000000
set_option autoImplicit false
set_option exponentiation.threshold 3000
namespace DL
open PySem PySem.Spec PyProof.Rows L2
/-! loops and comprehensions over lists that are told by values -/
section
variable {α : Type} {g : WG} {tt : WT} {te : WE} {ρw : DS} {b : WS} {E : DEnds} {ρ : DS} {μ : Mu} {Q : D → Mu → Prop}
theorem lc_ind {f : α → D} (h : α → Option D) : ∀ {l : List α} {acc : List D}, (∀ a ∈ l, ∀ ds acc, acc.length < 1000000 → lcL g tt te ρw ds (acc ++ (h a).toList) μ Q → g (f a) ρw μ (KLc1 g tt te ρw ds acc Q)) → acc.length + l.length ≤ 1000000 →
    Q (.lst (acc ++ l.filterMap h)) μ → lcL g tt te ρw (l.map f) acc μ Q
  | [], acc, step, hl, fin => by
    rw [List.map_nil, lcL]
    simpa using fin
  | a :: l, acc, step, hl, fin => by
    rw [List.map_cons, r_lcc]
    rw [List.length_cons] at hl
    refine step a List.mem_cons_self (l.map f) acc (by omega) (lc_ind h (fun a' ha => step a' (List.mem_cons_of_mem _ ha)) ?_ ?_)
    · rw [List.length_append]
      cases h a
      · simp; omega
      · simp; omega
    · have e : acc ++ (h a).toList ++ l.filterMap h = acc ++ (a :: l).filterMap h := by
        rw [List.filterMap_cons]
        cases h a <;> simp
      rw [e]
      exact fin
theorem lc_mp {f : α → D} (h : α → D) {l : List α} (step : ∀ a ∈ l, ∀ ds acc, acc.length < 1000000 → lcL g tt te ρw ds (acc ++ [h a]) μ Q → g (f a) ρw μ (KLc1 g tt te ρw ds acc Q)) (hl : l.length ≤ 1000000) (fin : Q (.lst (l.map h)) μ) :
    lcL g tt te ρw (l.map f) [] μ Q := lc_ind (fun a => some (h a)) step (by simpa using hl) (by simpa [List.filterMap_eq_map] using fin)
/-- elements that draw from the pool -/
theorem lc_pool {f : α → D} (P : Nat → α → Prop) {lo : Int} {n : Nat} (hn : n ≤ 1000000)
    (step : ∀ i, i < n → ∀ p q, PoolOk p q → ∀ K : D → Mu → Prop, (∀ a p' q', PoolOk p' q' → P i a → K (f a) (pl μ p' q')) → g (.int (lo + (i : Nat))) ρw (pl μ p q) (KEl te K))
    (fin : ∀ l : List α, l.length = n → (∀ i a, l[i]? = some a → P i a) → ∀ p q, PoolOk p q → Q (.lst (l.map f)) (pl μ p q)) {p q : Int} (ok : PoolOk p q) : lcL g wYes te ρw (rangeD lo n) [] (pl μ p q) Q := by
  have all : ∀ k i, i + k = n → ∀ (l : List α), l.length = i → (∀ j a, l[j]? = some a → P j a) → ∀ p q, PoolOk p q → lcL g wYes te ρw ((List.range' i k).map fun j => D.int (lo + (j : Nat))) (l.map f) (pl μ p q) Q := by
    intro k
    induction k with
    | zero =>
      intro i hi l hl hP p q ok
      rw [List.range'_zero, List.map_nil, r_lcn]
      exact fin l (by omega) hP p q ok
    | succ k ih =>
      intro i hi l hl hP p q ok
      rw [List.range'_succ, List.map_cons, r_lcc]
      have e : KLc1 g wYes te ρw ((List.range' (i + 1) k).map fun j => D.int (lo + (j : Nat))) (l.map f) Q = KEl te (KLc3 g wYes te ρw ((List.range' (i + 1) k).map fun j => D.int (lo + (j : Nat))) (l.map f) Q) := by
        funext ρ2 μ2
        rw [r_lc1, r_yes, r_lc2t, t_el]
      rw [e]
      refine step i (by omega) p q ok _ fun a p' q' ok' ha => ?_
      rw [r_lc3]
      refine ⟨by rw [List.length_map]; omega, ?_⟩
      have e2 : l.map f ++ [f a] = (l ++ [a]).map f := by simp
      rw [e2]
      refine ih (i + 1) (by omega) (l ++ [a]) (by rw [List.length_append, List.length_singleton, hl]) (fun j b hb => ?_) p' q' ok'
      by_cases hj : j < l.length
      · rw [List.getElem?_append_left hj] at hb
        exact hP j b hb
      · rw [List.getElem?_append_right (by omega)] at hb
        have hj0 : j - l.length = 0 := by
          by_cases c : j - l.length = 0
          · exact c
          · rw [List.getElem?_eq_none (by rw [List.length_singleton]; omega)] at hb
            cases hb
        rw [hj0] at hb
        cases hb
        have : j = i := by omega
        subst this
        exact ha
  have e : rangeD lo n = (List.range' 0 n).map fun j => D.int (lo + (j : Nat)) := by
    unfold rangeD
    rw [List.range_eq_range']
  rw [e]
  exact all n 0 (by omega) [] rfl (fun j a h => by simp at h) p q ok
/-- over range(lo, lo + n) -/
theorem forL_rng {lo : Int} {n : Nat} (I : Nat → DS → Mu → Prop) (step : ∀ i, i < n → ∀ ρ μ (K : DS → Mu → Prop), I i ρ μ → (∀ ρ' μ', I (i + 1) ρ' μ' → K ρ' μ') → g (.int (lo + (i : Nat))) ρ μ fun ρ1 μ1 => b { E with nx := K, ct := K, bk := E.nx } ρ1 μ1)
    (fin : ∀ ρ μ, I n ρ μ → E.nx ρ μ) (h : I 0 ρ μ) : forL g b E (rangeD lo n) ρ μ := by
  have all : ∀ k i, i + k = n → ∀ ρ μ, I i ρ μ → forL g b E ((List.range' i k).map fun j => D.int (lo + (j : Nat))) ρ μ := by
    intro k
    induction k with
    | zero =>
      intro i hi ρ μ h
      have e : i = n := by omega
      subst e
      rw [List.range'_zero, List.map_nil, forL]
      exact fin _ _ h
    | succ k ih =>
      intro i hi ρ μ h
      rw [List.range'_succ, List.map_cons, forL]
      exact step i (by omega) ρ μ _ h fun ρ' μ' h' => ih (i + 1) (by omega) ρ' μ' h'
  have e : rangeD lo n = (List.range' 0 n).map fun j => D.int (lo + (j : Nat)) := by
    unfold rangeD
    rw [List.range_eq_range']
  rw [e]
  exact all n 0 (by omega) ρ μ h
/-- over data told by values, with what has been gone through -/
theorem forL_pre {f : α → D} {l : List α} (I : List α → DS → Mu → Prop) (step : ∀ pre a post, l = pre ++ a :: post → ∀ ρ μ (K : DS → Mu → Prop), I pre ρ μ → (∀ ρ' μ', I (pre ++ [a]) ρ' μ' → K ρ' μ') → g (f a) ρ μ fun ρ1 μ1 => b { E with nx := K, ct := K, bk := E.nx } ρ1 μ1)
    (fin : ∀ ρ μ, I l ρ μ → E.nx ρ μ) (h : I [] ρ μ) : forL g b E (l.map f) ρ μ := by
  have all : ∀ post pre, l = pre ++ post → ∀ ρ μ, I pre ρ μ → forL g b E (post.map f) ρ μ := by
    intro post
    induction post with
    | nil =>
      intro pre e ρ μ h
      rw [List.append_nil] at e
      subst e
      rw [List.map_nil, forL]
      exact fin _ _ h
    | cons a post ih =>
      intro pre e ρ μ h
      rw [List.map_cons, forL]
      exact step pre a post e ρ μ _ h fun ρ' μ' h' => ih (pre ++ [a]) (by rw [e]; simp) ρ' μ' h'
  exact all l [] rfl ρ μ h
end
end DL

set_option Elab.async false
set_option linter.all false
set_option maxRecDepth 100000
set_option maxHeartbeats 4000000
set_option autoImplicit false
set_option exponentiation.threshold 3000
namespace DL
open PySem PySem.Spec PyProof.Rows L2
/-! frames of DX20 -/
section
variable {Q : D → Mu → Prop} {Xd : XD} {ρ : DS} {μ : Mu} {E : DEnds} {cs : List Str} {sp : DSp} {wa wb wo : WE} {ws : WA} {x y : D}
def KIxO2 (cs : List Str) (sp : DSp) (x : D) (Q : D → Mu → Prop) (Xd : XD) : D → Mu → Prop := fun i μ2 => isClsU cs x μ2 (sp [x, i] μ2 Q Xd)
def KIxO1 (cs : List Str) (sp : DSp) (wb : WE) (ρ : DS) (Q : D → Mu → Prop) (Xd : XD) : D → Mu → Prop := fun x μ1 => wb ρ μ1 (KIxO2 cs sp x Q Xd) Xd
theorem v_ix : wIxO cs sp wa wb ρ μ Q Xd = wa ρ μ (KIxO1 cs sp wb ρ Q Xd) Xd := propext Iff.rfl
theorem v_ix1 : KIxO1 cs sp wb ρ Q Xd x μ = wb ρ μ (KIxO2 cs sp x Q Xd) Xd := propext Iff.rfl
theorem v_ix2 : KIxO2 cs sp x Q Xd y μ = isClsU cs x μ (sp [x, y] μ Q Xd) := propext Iff.rfl
def KInv (cs : List Str) (sp : DSp) (Q : D → Mu → Prop) (Xd : XD) : D → Mu → Prop := fun x μ1 => isClsU cs x μ1 (sp [x] μ1 Q Xd)
theorem v_inv : wInv cs sp wa ρ μ Q Xd = wa ρ μ (KInv cs sp Q Xd) Xd := propext Iff.rfl
theorem v_inv1 : KInv cs sp Q Xd x μ = isClsU cs x μ (sp [x] μ Q Xd) := propext Iff.rfl
def KCo2 (cs : List Str) (sp : DSp) (x : D) (Q : D → Mu → Prop) (Xd : XD) : List D → Mu → Prop := fun ds μ2 => isClsU cs x μ2 (sp (x :: ds) μ2 Q Xd)
def KCo1 (cs : List Str) (sp : DSp) (ws : WA) (ρ : DS) (Q : D → Mu → Prop) (Xd : XD) : D → Mu → Prop := fun x μ1 => isClsU cs x μ1 (ws ρ μ1 (KCo2 cs sp x Q Xd) Xd)
theorem v_co : wCallO cs sp wo ws ρ μ Q Xd = wo ρ μ (KCo1 cs sp ws ρ Q Xd) Xd := propext Iff.rfl
theorem v_co1 : KCo1 cs sp ws ρ Q Xd x μ = isClsU cs x μ (ws ρ μ (KCo2 cs sp x Q Xd) Xd) := propext Iff.rfl
theorem v_co2 {ds : List D} : KCo2 cs sp x Q Xd ds μ = isClsU cs x μ (sp (x :: ds) μ Q Xd) := propext Iff.rfl
def KLnO (Q : D → Mu → Prop) : D → Mu → Prop := fun d μ1 => match d with
    | .int n => 0 ≤ n ∧ n < 2 ^ 62 ∧ Q (.int n) μ1
    | _ => False
theorem v_len : fLenO cs sp [x] μ Q = isClsU cs x μ (sp [x] μ (KLnO Q) xF) := propext Iff.rfl
theorem v_len1 {n : Int} : KLnO Q (.int n) μ = (0 ≤ n ∧ n < 2 ^ 62 ∧ Q (.int n) μ) := propext Iff.rfl
def KSlo (i : Nat) (E : DEnds) (ρ : DS) : D → Mu → Prop := fun d μ1 => ∃ acc, d = .lst acc ∧ i < ρ.length ∧ ∀ p, E.nx (ρ.set i (.own p (.lst acc))) μ1
theorem v_slo {i : Nat} {w : WE} : sSetLcO i w E ρ μ = w ρ μ (KSlo i E ρ) (KX E ρ) := propext Iff.rfl
theorem v_slo1 {i : Nat} {acc : List D} : KSlo i E ρ (.lst acc) μ = (i < ρ.length ∧ ∀ p, E.nx (ρ.set i (.own p (.lst acc))) μ) := by
  apply propext
  constructor
  · rintro ⟨acc', e, h⟩
    cases e
    exact h
  · intro h
    exact ⟨acc, rfl, h⟩
theorem v_f2or {f g : F2} : F2.or f g x y μ Q = (f x y μ Q ∨ g x y μ Q) := propext Iff.rfl
end
theorem w_ff : (false == false) = true := rfl
theorem w_ft : (false == true) = false := rfl
theorem w_tf : (true == false) = false := rfl
theorem w_tt : (true == true) = true := rfl
/-! in, by data -/
theorem toPs_any {y : D} {p : PyData} (hy : toP y = some p) : ∀ {ds : List D} {qs : List PyData}, toPs ds = some qs → (qs.any fun z => PyData.eqv z p) = ds.any fun d => deq d y
  | [], qs, h => by
    rw [toPs] at h
    cases h
    rfl
  | d :: ds, qs, h => by
    rw [toPs] at h
    cases e1 : toP d with
    | none => rw [e1] at h; cases h
    | some q =>
      cases e2 : toPs ds with
      | none => rw [e1, e2] at h; cases h
      | some r =>
        rw [e1, e2] at h
        cases h
        rw [List.any_cons, List.any_cons, toPs_any hy e2, deq_eqv d y q p e1 hy]
end DL

set_option Elab.async false
set_option linter.all false
set_option maxRecDepth 100000
set_option maxHeartbeats 2000000
/-! Frames: stores into own lists. -/
namespace DL
open PySem PySem.Spec PyProof.Rows L2
section
variable {i : Nat} {wi : WE} {d : D} {ρ : DS} {μ : Mu} {Q : DS → Mu → Prop} {p : Addr} {ds : List D} {j : Int}
def KSubO (i : Nat) (p : Addr) (ds : List D) (d : D) (ρ : DS) (Q : DS → Mu → Prop) : D → Mu → Prop := fun y μ2 => stO i p ds y d ρ fun ρ' => Q ρ' μ2
theorem x_subO : kSubO i wi d ρ μ Q = subO i wi d ρ μ Q (ρ[i]?) := propext Iff.rfl
theorem x_subO1 : subO i wi d ρ μ Q (some (.own p (.lst ds))) = wi ρ μ (KSubO i p ds d ρ Q) xF := propext Iff.rfl
theorem x_subO2 : KSubO i p ds d ρ Q (.int j) μ = (match ixN ds.length j with
    | some z => Q (ρ.set i (.own p (.lst (ds.set z d)))) μ
    | none => False) := propext Iff.rfl
end
end DL

set_option Elab.async false
set_option linter.all false
set_option maxRecDepth 100000
set_option maxHeartbeats 2000000
/-! Frames: remove, pop, comprehensions kept as cells. -/
namespace DL
open PySem PySem.Spec PyProof.Rows L2
section
variable {i n : Nat} {wa wo : WE} {ws : WA} {wi : WI} {k : WG} {tt : WT} {te : WE} {vs : List Nat} {d x : D} {ρ : DS} {μ : Mu} {E : DEnds} {Q : D → Mu → Prop} {Xd : XD} {p : Addr} {ds acc : List D} {j : Int}
def KPop2 (x : D) (Q : D → Mu → Prop) : D → Mu → Prop := fun y μ2 => popL x y μ2 Q
def KPop1 (wa : WE) (ρ : DS) (Q : D → Mu → Prop) (Xd : XD) : D → Mu → Prop := fun x μ1 => isC x μ1 (wa ρ μ1 (KPop2 x Q) Xd)
theorem y_pop : wPopL wo wa ρ μ Q Xd = wo ρ μ (KPop1 wa ρ Q Xd) Xd := propext Iff.rfl
theorem y_pop1 : KPop1 wa ρ Q Xd x μ = isC x μ (wa ρ μ (KPop2 x Q) Xd) := propext Iff.rfl
theorem y_pop2 : KPop2 x Q d μ = popL x d μ Q := propext Iff.rfl
theorem y_lcC : wLcC wi k tt te vs ρ μ Q Xd = wLc wi k tt te vs ρ μ (cellQ Q) Xd := propext Iff.rfl
theorem y_cell : cellQ Q (.lst acc) μ = Q (.loc μ.length) (μ ++ [.lst acc]) := propext Iff.rfl
def KRem (i : Nat) (p : Addr) (ds : List D) (E : DEnds) (ρ : DS) : List D → Mu → Prop := fun xs μ1 => ∃ d, xs = [d] ∧ remD ds d fun ds' => E.nx (ρ.set i (.own p (.lst ds'))) μ1
theorem y_rem : sRemO i ws E ρ μ = remO i ws E ρ μ (ρ[i]?) := propext Iff.rfl
theorem y_rem1 : remO i ws E ρ μ (some (.own p (.lst ds))) = ws ρ μ (KRem i p ds E ρ) (KX E ρ) := propext Iff.rfl
theorem y_rem2 : KRem i p ds E ρ [d] μ = remD ds d fun ds' => E.nx (ρ.set i (.own p (.lst ds'))) μ := by
  apply propext
  constructor
  · rintro ⟨d', e, h⟩
    cases e
    exact h
  · exact fun h => ⟨d, rfl, h⟩
end
end DL

set_option Elab.async false
set_option linter.all false
set_option maxRecDepth 100000
set_option maxHeartbeats 2000000
/-! Frames: changeable instances, setters, own sums of lists, == of tuples. -/
namespace DL
open PySem PySem.Spec PyProof.Rows L2
section
variable {i n : Nat} {c f : Str} {sp : DSp} {wa wb wo : WE} {d x y : D} {ρ : DS} {μ : Mu} {E : DEnds} {Q : D → Mu → Prop} {ds es : List D}
def KFl2 (c f : Str) (d : D) (E : DEnds) (ρ : DS) : D → Mu → Prop := fun x μ2 => putL c f x d μ2 (E.nx ρ)
def KFl1 (c f : Str) (wo : WE) (E : DEnds) (ρ : DS) : D → Mu → Prop := fun d μ1 => wo ρ μ1 (KFl2 c f d E ρ) (KX E ρ)
theorem z_fl : sFldL c f wo wa E ρ μ = wa ρ μ (KFl1 c f wo E ρ) (KX E ρ) := propext Iff.rfl
theorem z_fl1 : KFl1 c f wo E ρ d μ = wo ρ μ (KFl2 c f d E ρ) (KX E ρ) := propext Iff.rfl
theorem z_fl2 : KFl2 c f d E ρ x μ = putL c f x d μ (E.nx ρ) := propext Iff.rfl
def KPs3 (E : DEnds) (ρ : DS) : D → Mu → Prop := fun _ μ3 => E.nx ρ μ3
def KPs2 (c : Str) (sp : DSp) (d : D) (E : DEnds) (ρ : DS) : D → Mu → Prop := fun x μ2 => isCls c x μ2 (sp [x, d] μ2 (KPs3 E ρ) (KX E ρ))
def KPs1 (c : Str) (sp : DSp) (wo : WE) (E : DEnds) (ρ : DS) : D → Mu → Prop := fun d μ1 => wo ρ μ1 (KPs2 c sp d E ρ) (KX E ρ)
theorem z_ps : sPropS c sp wo wa E ρ μ = wa ρ μ (KPs1 c sp wo E ρ) (KX E ρ) := propext Iff.rfl
theorem z_ps1 : KPs1 c sp wo E ρ d μ = wo ρ μ (KPs2 c sp d E ρ) (KX E ρ) := propext Iff.rfl
theorem z_ps2 : KPs2 c sp d E ρ x μ = isCls c x μ (sp [x, d] μ (KPs3 E ρ) (KX E ρ)) := propext Iff.rfl
theorem z_ps3 : KPs3 E ρ d μ = E.nx ρ μ := propext Iff.rfl
theorem z_eqT : fEqT c sp (.tup ds) (.tup es) μ Q = (prsO c sp μ ds es ∧ Q (.bl true) μ) := propext Iff.rfl
def KCat2 (i : Nat) (x : D) (E : DEnds) (ρ : DS) : D → Mu → Prop := fun y μ2 => catO x y fun ds => i < ρ.length ∧ ∀ p, E.nx (ρ.set i (.own p (.lst ds))) μ2
def KCat1 (i : Nat) (wb : WE) (E : DEnds) (ρ : DS) : D → Mu → Prop := fun x μ1 => wb ρ μ1 (KCat2 i x E ρ) (KX E ρ)
theorem z_cat : sSetCat i wa wb E ρ μ = wa ρ μ (KCat1 i wb E ρ) (KX E ρ) := propext Iff.rfl
theorem z_cat1 : KCat1 i wb E ρ x μ = wb ρ μ (KCat2 i x E ρ) (KX E ρ) := propext Iff.rfl
theorem z_cat2 {a b : List D} : KCat2 i (.lst a) E ρ (.lst b) μ = (a.length + b.length ≤ 1000 ∧ i < ρ.length ∧ ∀ p, E.nx (ρ.set i (.own p (.lst (a ++ b)))) μ) := propext Iff.rfl
theorem putL_go {k : Mu → Prop} {ks : List Str} (h : μ[n]? = some (.ins c ks ds)) (hl : ks.length < 1000) (hk : k (μ.set n (.ins c (putK f ks) (putD f d ks ds)))) : putL c f (.loc n) d μ k := by
  unfold putL
  simp only [h]
  exact ⟨trivial, hl, hk⟩
end
end DL

set_option Elab.async false
set_option linter.all false
set_option maxRecDepth 100000
set_option maxHeartbeats 2000000
set_option autoImplicit false
/-! Frames: loops over cells, list(x) as a cell, append, o[i] = v. -/
namespace DL
open PySem PySem.Spec PyProof.Rows L2
section
variable {i n : Nat} {c f : Str} {cs : List Str} {sp : DSp} {wa wb wo wi : WE} {ws : WA} {wc : WIC} {g : WG} {b : WS} {tt : WT} {te : WE} {vs : List Nat} {d x y : D} {ρ ρw : DS} {μ : Mu} {E : DEnds} {Q : D → Mu → Prop} {Qc : List D → (Mu → Prop) → Mu → Prop} {Xd : XD} {ds es acc : List D} {C : Mu → Prop}
def KWic (Q : List D → (Mu → Prop) → Mu → Prop) : D → Mu → Prop := fun d μ1 => celOr d μ1 fun ds C => Q ds C μ1
theorem c_wi : wiCel wa ρ μ Qc Xd = wa ρ μ (KWic Qc) Xd := propext Iff.rfl
def KEnC (Q : List D → (Mu → Prop) → Mu → Prop) : List D → Mu → Prop := fun ds μ1 => cel1 ds μ1 fun es C => Q es C μ1
theorem c_en : wiEnC ws ρ μ Qc Xd = ws ρ μ (KEnC Qc) Xd := propext Iff.rfl
theorem c_en1 : KEnC Qc [d] μ = KWic (fun es C μ => Qc (enumD es) C μ) d μ := propext Iff.rfl
def KForC (g : WG) (b : WS) (E : DEnds) (ρ : DS) : List D → (Mu → Prop) → Mu → Prop := fun ds C μ1 => forLC g b E C ds ρ μ1
theorem c_for : sForC wc g b E ρ μ = wc ρ μ (KForC g b E ρ) (KX E ρ) := propext Iff.rfl
theorem c_for1 : KForC g b E ρ ds C μ = forLC g b E C ds ρ μ := propext Iff.rfl
def KLcU (g : WG) (tt : WT) (te : WE) (vs : List Nat) (ρ : DS) (Q : D → Mu → Prop) : List D → (Mu → Prop) → Mu → Prop := fun ds C μ1 => (∀ v ∈ vs, notOwn ρ v) ∧ lcLC g tt te (wipeD ρ vs) C ds [] μ1 Q
theorem c_lc : wLcU wc g tt te vs ρ μ Q Xd = wc ρ μ (KLcU g tt te vs ρ Q) Xd := propext Iff.rfl
theorem c_lc1 : KLcU g tt te vs ρ Q ds C μ = ((∀ v ∈ vs, notOwn ρ v) ∧ lcLC g tt te (wipeD ρ vs) C ds [] μ Q) := propext Iff.rfl
def KLofC (o : Option (List D)) (μ : Mu) (Q : D → Mu → Prop) : Prop := match o with
  | some ds => Q (.loc μ.length) (μ ++ [.lst ds])
  | none => False
theorem c_lof : fListOfC [x] μ Q = KLofC (itemsD x μ) μ Q := propext Iff.rfl
theorem c_lof1 : KLofC (some ds) μ Q = Q (.loc μ.length) (μ ++ [.lst ds]) := propext Iff.rfl
def KAL2 (x : D) (Q : D → Mu → Prop) : D → Mu → Prop := fun y μ2 => appL x y μ2 Q
def KAL1 (wa : WE) (ρ : DS) (Q : D → Mu → Prop) (Xd : XD) : D → Mu → Prop := fun x μ1 => isC x μ1 (wa ρ μ1 (KAL2 x Q) Xd)
theorem c_ap : wAppL wo wa ρ μ Q Xd = wo ρ μ (KAL1 wa ρ Q Xd) Xd := propext Iff.rfl
theorem c_ap1 : KAL1 wa ρ Q Xd x μ = isC x μ (wa ρ μ (KAL2 x Q) Xd) := propext Iff.rfl
theorem c_ap2 : KAL2 x Q y μ = appL x y μ Q := propext Iff.rfl
theorem appL_go (h : μ[n]? = some (.lst ds)) (hl : ds.length < 1000000) (q : Q .non (μ.set n (.lst (ds ++ [y])))) : appL (.loc n) y μ Q := by
  unfold appL
  simp only [h]
  exact ⟨hl, q⟩
theorem isC_go {k : Prop} (h : μ[n]? = some (.lst ds)) (q : k) : isC (.loc n) μ k := by
  unfold isC
  simp only [h]
  exact q
def KSi3 (cs : List Str) (sp : DSp) (d x : D) (E : DEnds) (ρ : DS) : D → Mu → Prop := fun y μ3 => isClsU cs x μ3 (sp [x, y, d] μ3 (KPs3 E ρ) (KX E ρ))
def KSi2 (cs : List Str) (sp : DSp) (wi : WE) (d : D) (E : DEnds) (ρ : DS) : D → Mu → Prop := fun x μ2 => wi ρ μ2 (KSi3 cs sp d x E ρ) (KX E ρ)
def KSi1 (cs : List Str) (sp : DSp) (wo wi : WE) (E : DEnds) (ρ : DS) : D → Mu → Prop := fun d μ1 => wo ρ μ1 (KSi2 cs sp wi d E ρ) (KX E ρ)
theorem c_si : sSetIx cs sp wo wi wa E ρ μ = wa ρ μ (KSi1 cs sp wo wi E ρ) (KX E ρ) := propext Iff.rfl
theorem c_si1 : KSi1 cs sp wo wi E ρ d μ = wo ρ μ (KSi2 cs sp wi d E ρ) (KX E ρ) := propext Iff.rfl
theorem c_si2 : KSi2 cs sp wi d E ρ x μ = wi ρ μ (KSi3 cs sp d x E ρ) (KX E ρ) := propext Iff.rfl
theorem c_si3 : KSi3 cs sp d x E ρ y μ = isClsU cs x μ (sp [x, y, d] μ (KPs3 E ρ) (KX E ρ)) := propext Iff.rfl
/-- a list, shown or a cell -/
def IsL (μ : Mu) (d : D) (ds : List D) : Prop := d = .lst ds ∨ ∃ n, d = .loc n ∧ μ[n]? = some (.lst ds)
theorem isL_l {μ : Mu} {ds : List D} : IsL μ (.lst ds) ds := .inl rfl
theorem KWic_go (hd : IsL μ d ds) (h : ∀ C : Mu → Prop, C μ → Qc ds C μ) : KWic Qc d μ := by
  rcases hd with rfl | ⟨n, rfl, e⟩
  · exact h _ trivial
  · unfold KWic celOr
    simp only [e]
    exact h _ e
theorem isL_items (hd : IsL μ d ds) : itemsD d μ = some ds := by
  rcases hd with rfl | ⟨n, rfl, e⟩
  · rfl
  · unfold itemsD
    simp only [e]
theorem forLC_inv {g : WG} {b : WS} {E : DEnds} {C : Mu → Prop} (I : DS → Mu → Prop) (hC : ∀ ρ μ, I ρ μ → C μ) (fin : ∀ ρ μ, I ρ μ → E.nx ρ μ) : ∀ {ds : List D}, (∀ d ∈ ds, ∀ ρ μ (K : DS → Mu → Prop), I ρ μ → (∀ ρ' μ', I ρ' μ' → K ρ' μ') → g d ρ μ fun ρ1 μ1 => b { E with nx := K, ct := K, bk := E.nx } ρ1 μ1) →
    ∀ {ρ μ}, I ρ μ → forLC g b E C ds ρ μ
  | [], _, ρ, μ, h => by rw [forLC]; exact ⟨hC ρ μ h, fin ρ μ h⟩
  | d :: ds, step, ρ, μ, h => by
    rw [forLC]
    exact ⟨hC ρ μ h, step d (by simp) ρ μ _ h fun ρ' μ' h' => forLC_inv I hC fin (fun d hd => step d (by simp [hd])) h'⟩
/-- a comprehension that leaves the cells as they are -/
def KLu3 (g : WG) (tt : WT) (te : WE) (ρw : DS) (C : Mu → Prop) (ds acc : List D) (Q : D → Mu → Prop) : D → Mu → Prop := fun y μ4 => acc.length < 1000000 ∧ lcLC g tt te ρw C ds (acc ++ [y]) μ4 Q
def KLu2 (g : WG) (tt : WT) (te : WE) (ρw : DS) (C : Mu → Prop) (ds acc : List D) (Q : D → Mu → Prop) (ρ2 : DS) : Bool → Mu → Prop := fun b μ3 => if b = true then te ρ2 μ3 (KLu3 g tt te ρw C ds acc Q) xF else lcLC g tt te ρw C ds acc μ3 Q
def KLu1 (g : WG) (tt : WT) (te : WE) (ρw : DS) (C : Mu → Prop) (ds acc : List D) (Q : D → Mu → Prop) : DS → Mu → Prop := fun ρ2 μ2 => tt ρ2 μ2 (KLu2 g tt te ρw C ds acc Q ρ2) xF
theorem c_lu1 : KLu1 g tt te ρw C ds acc Q ρ μ = tt ρ μ (KLu2 g tt te ρw C ds acc Q ρ) xF := propext Iff.rfl
theorem c_lu2 : KLu2 g tt te ρw C ds acc Q ρ true μ = te ρ μ (KLu3 g tt te ρw C ds acc Q) xF := propext (by unfold KLu2; rw [if_pos rfl])
theorem c_lu3 : KLu3 g tt te ρw C ds acc Q d μ = (acc.length < 1000000 ∧ lcLC g tt te ρw C ds (acc ++ [d]) μ Q) := propext Iff.rfl
theorem lcLC_mp {α : Type} {f : α → D} (h : α → D) {l : List α} (hC : C μ) (step : ∀ a ∈ l, ∀ K : D → Mu → Prop, K (h a) μ → g (f a) ρw μ fun ρ2 μ2 => te ρ2 μ2 K xF) (hl : l.length ≤ 1000000) (fin : Q (.lst (l.map h)) μ) :
    lcLC g wYes te ρw C (l.map f) [] μ Q := by
  have all : ∀ (l' : List α) (acc : List D), (∀ a ∈ l', a ∈ l) → acc.length + l'.length ≤ 1000000 → Q (.lst (acc ++ l'.map h)) μ → lcLC g wYes te ρw C (l'.map f) acc μ Q := by
    intro l'
    induction l' with
    | nil =>
      intro acc _ _ q
      rw [List.map_nil, lcLC]
      rw [List.map_nil, List.append_nil] at q
      exact ⟨hC, q⟩
    | cons a l' ih =>
      intro acc hm hlen q
      rw [List.length_cons] at hlen
      rw [List.map_cons, lcLC]
      refine ⟨hC, ?_⟩
      have e : (fun (ρ2 : DS) (μ2 : Mu) => wYes ρ2 μ2 (fun b μ3 => if b = true then te ρ2 μ3 (fun y μ4 => acc.length < 1000000 ∧ lcLC g wYes te ρw C (l'.map f) (acc ++ [y]) μ4 Q) xF else lcLC g wYes te ρw C (l'.map f) acc μ3 Q) xF) = fun ρ2 μ2 => te ρ2 μ2 (fun y μ4 => acc.length < 1000000 ∧ lcLC g wYes te ρw C (l'.map f) (acc ++ [y]) μ4 Q) xF := by
        funext ρ2 μ2
        unfold wYes
        simp only [if_true]
      rw [e]
      refine step a (hm a List.mem_cons_self) _ ⟨by omega, ih (acc ++ [h a]) (fun b hb => hm b (List.mem_cons_of_mem _ hb)) (by rw [List.length_append, List.length_singleton]; omega) ?_⟩
      rw [List.append_assoc]
      exact q
  exact all l [] (fun _ h => h) (by simpa using hl) (by simpa using fin)
end
end DL

set_option Elab.async false
set_option linter.all false
set_option maxRecDepth 100000
set_option maxHeartbeats 2000000
set_option autoImplicit false
/-! Frames: == of lists with own items, shown or cells. -/
namespace DL
open PySem PySem.Spec PyProof.Rows L2
end DL

set_option Elab.async false
set_option linter.all false
set_option maxRecDepth 100000
set_option maxHeartbeats 2000000
set_option autoImplicit false
/-! Frames: a list against the empty list, a, b = e, []. -/
namespace DL
open PySem PySem.Spec PyProof.Rows L2
def KP2O (i j : Nat) (E : DEnds) (ρ : DS) : D → Mu → Prop := fun d μ1 => j < ρ.length ∧ ∀ p, E.nx ((ρ.set j (.own p (.lst []))).set i (.v d)) μ1
theorem y_p2 {i j : Nat} {wa : WE} {E : DEnds} {ρ : DS} {μ : Mu} : sPar2O i j wa E ρ μ = wa ρ μ (KP2O i j E ρ) (KX E ρ) := propext Iff.rfl
theorem y_p21 {i j : Nat} {d : D} {E : DEnds} {ρ : DS} {μ : Mu} : KP2O i j E ρ d μ = (j < ρ.length ∧ ∀ p, E.nx ((ρ.set j (.own p (.lst []))).set i (.v d)) μ) := propext Iff.rfl
end DL

set_option Elab.async false
set_option linter.all false
set_option maxRecDepth 100000
set_option maxHeartbeats 4000000
set_option autoImplicit false
/-! A sleeping generator stays as it is while other code runs: what a run reads of it is but where it stands. -/
namespace DL
open PySem

def badK : Resume → Sem Fin := fun _ => .unsupported "asleep"
/-- the same generator as others see it, which none can wake -/
def mute : GenState → GenState
  | .suspended _ l c p fs cl => .suspended badK l c p fs cl
  | x => x
def asleep : GenState → Bool
  | .suspended .. => true
  | _ => false
def NG : GenState → Prop
  | .suspended _ _ _ _ fs _ => splitAtGen fs = none
  | _ => True
theorem mute_seen (x : GenState) : (mute x).seen = x.seen := by cases x <;> rfl
theorem mute_bare (x : GenState) : (mute x).bare = x.bare := by cases x <;> rfl
/-- which of them are held asleep -/
abbrev Sleepers := Nat → Option GenState
/-- g: the generators as they are; g2: those held asleep muted -/
structure Rl (B : Sleepers) (g2 g : Array GenState) : Prop where
  size : g2.size = g.size
  free : ∀ i, B i = none → g[i]? = g2[i]? ∧ ∀ x, g[i]? = some x → NG x
  held : ∀ i x, B i = some x → g[i]? = some x ∧ g2[i]? = some (mute x) ∧ asleep x = true
theorem Rl.seen {B : Sleepers} {g2 g : Array GenState} (r : Rl B g2 g) {i : Nat} {y : GenState} (q : g2[i]? = some y) : ∃ x, g[i]? = some x ∧ x.seen = y.seen := by
  cases hB : B i with
  | none => exact ⟨y, (r.free i hB).1.trans q, rfl⟩
  | some x =>
    obtain ⟨h1, h2, _⟩ := r.held i x hB
    rw [q] at h2
    obtain rfl := Option.some.inj h2
    exact ⟨x, h1, (mute_seen x).symm⟩
theorem Rl.set {B : Sleepers} {g2 g : Array GenState} (r : Rl B g2 g) {i : Nat} {x : GenState} (hi : B i = none) (hx : NG x) : Rl B (g2.setIfInBounds i x) (g.setIfInBounds i x) where
  size := by simp [r.size]
  free := fun j hj => by
    obtain ⟨e, n⟩ := r.free j hj
    by_cases h : i = j
    · subst h
      simp only [Array.getElem?_setIfInBounds_self, r.size]
      refine ⟨trivial, fun y hy => ?_⟩
      split at hy
      · cases hy; exact hx
      · cases hy
    · rw [Array.getElem?_setIfInBounds_ne h, Array.getElem?_setIfInBounds_ne h]
      exact ⟨e, n⟩
  held := fun j y hj => by
    have h : i ≠ j := fun z => by rw [z, hj] at hi; cases hi
    rw [Array.getElem?_setIfInBounds_ne h, Array.getElem?_setIfInBounds_ne h]
    exact r.held j y hj
theorem Rl.push {B : Sleepers} {g2 g : Array GenState} (r : Rl B g2 g) {c : Code} : Rl B (g2.push (.fresh c)) (g.push (.fresh c)) where
  size := by simp [r.size]
  free := fun j hj => by
    obtain ⟨e, n⟩ := r.free j hj
    simp only [Array.getElem?_push, r.size]
    split
    · exact ⟨rfl, fun x hx => by cases hx; trivial⟩
    · exact ⟨e, n⟩
  held := fun j y hj => by
    obtain ⟨h1, h2, h3⟩ := r.held j y hj
    have l1 : j < g.size := (Array.getElem?_eq_some_iff.mp h1).1
    have l2 : j < g2.size := by rw [r.size]; exact l1
    simp only [Array.getElem?_push]
    rw [if_neg (Nat.ne_of_lt l1), if_neg (Nat.ne_of_lt l2)]
    exact ⟨h1, h2, h3⟩
/-- an end that keeps no generator's frame -/
def NGE : End → Prop
  | .susp _ _ _ _ _ _ fs => splitAtGen fs = none
  | _ => True
theorem NGE.gen {e : End} (h : NGE e) : NG e.genState := by
  cases e with
  | ret _ => trivial
  | susp v g l k c p fs => exact h
abbrev withG (s : Shared) (g : Array GenState) : Shared := { s with gens := g }
end DL

set_option Elab.async false
set_option linter.all false
set_option maxRecDepth 100000
set_option maxHeartbeats 4000000
set_option autoImplicit false
namespace DL
open PySem PySem.Spec PyProof.Rows
open Sem (wp)

theorem Rl.bare {B : Sleepers} {g2 g : Array GenState} (r : Rl B g2 g) (h : AllBare g2) : AllBare g := fun y hy => by
  obtain ⟨i, hi, e⟩ := Array.mem_iff_getElem.mp hy
  have q : g[i]? = some y := by rw [Array.getElem?_eq_getElem hi, e]
  cases hB : B i with
  | none =>
    have q2 := (r.free i hB).1.symm.trans q
    exact h y (Array.mem_of_getElem? q2)
  | some x =>
    obtain ⟨h1, h2, _⟩ := r.held i x hB
    rw [q] at h1
    cases h1
    have z := h _ (Array.mem_of_getElem? h2)
    rw [mute_bare] at z
    exact z
section
open L2
variable {X : Cx} {pins : List (Addr × Obj)} {σ : List (Option V)} {H : Hp} {s : Shared}
theorem Inv.gens {g : Array GenState} (I : Inv X pins σ H s) (hg : AllBare g) : Inv X pins σ H (withG s g) :=
  ⟨I.ok, I.os, hg, I.base, I.loc, I.cell, I.free, I.freeC, I.pin, I.hok, I.len⟩
end
end DL

set_option Elab.async false
set_option linter.all false
set_option maxRecDepth 100000
set_option maxHeartbeats 4000000
set_option autoImplicit false
namespace DL
open PySem PySem.Spec PyProof.Rows L2

/-! ### a heap's first L things -/
def cutH (h : Heap) (L : Addr) : Heap := ⟨h.objs.extract 0 L, h.life⟩
/-! ### a generator's frame -/
structure GE where
  prog : Program
  w : World
  K : PySem.W.Frag
  mg : Str → Option Value
  base : Heap
  /-- around the one who wakes it -/
  A : Around
  N : List Str
  env : Env
  outer : List Env
abbrev GE.L (g : GE) : Addr := g.env.locals
abbrev GE.gx (g : GE) : Gx := ⟨g.K, g.mg, none⟩
/-- its context from one waking to the next sleep -/
abbrev GE.cx (g : GE) (s0 : Shared) (H0 : Hp) (pn : List (Addr × Obj)) : Cx where
  prog := g.prog
  w := g.w
  K := g.K
  mg := g.mg
  base := g.base
  A := g.A.deeper g.env
  N := g.N
  s_0 := s0
  H_0 := H0
  env := g.env
  outer := g.outer
  stack := g.env :: g.outer
  ex := []
  fn := fun _ => true
  calm := true
  pn := pn
  xe := fun _ _ => False
structure GE.Ok (g : GE) : Prop where
  mod : Mod g.K g.mg g.base
  kind : g.env.scope.kind = .function
  glob : g.env.globals = mainGlobals
  blt : g.env.builtins = builtinsNs
  cells : ∀ x, g.env.cells.lookup x = none
  has : ∀ x, ¬ (g.env.kindOf x = some .cell ∨ g.env.kindOf x = some .free)
  hd : g.A.handled = none
  frames : g.A.frames = some g.outer
  frame : g.env.frame = some g.env.locals
  bsz : g.base.objs.size ≤ g.L
  old : ∀ b ∈ frs g.outer, b < g.L
/-- who wakes it -/
structure Cons (g : GE) (a : Addr) (go : Obj) (X : Cx) (pins : List (Addr × Obj)) (σ : L2.St) (H : Hp) (Z : Addr → Prop) (m : List Addr) (μ : Mu) (s : Shared) (lo : Obj) : Prop where
  inv : Inv X pins σ H s
  prog : X.prog = g.prog
  w : X.w = g.w
  K : X.K = g.K
  mg : X.mg = g.mg
  base : X.base = g.base
  stack : X.stack = g.outer
  elo : s.heap.get? g.L = some lo
  ego : s.heap.get? a = some go
  goc : ∀ v, go.data ≠ .cell v
  fL : FpOk X pins H g.L
  fa : FpOk X pins H a
  ne : a ≠ g.L
  mu : MuOk g.gx Z m μ H
  sz : X.s_0.heap.objs.size ≤ g.L
  cl : ∀ x c, X.env.cells.lookup x = some c → c < g.L
def cutA (H : Hp) (L : Addr) : Hp := fun b => if b < L then H b else none
/-- the waker's own block, if it is younger -/
def blkPin (g : GE) (X : Cx) (h : Heap) : List (Addr × Obj) := if X.env.locals < g.L then [] else pinsAt [X.env.locals] h
def wakePins (g : GE) (a : Addr) (go : Obj) (X : Cx) (pins : List (Addr × Obj)) (h : Heap) : List (Addr × Obj) := (a, go) :: blkPin g X h ++ (X.pn ++ pins)
section
variable {g : GE} {a : Addr} {go lo : Obj} {X : Cx} {pins : List (Addr × Obj)} {σ σg : L2.St} {H : Hp} {Z : Addr → Prop} {m : List Addr} {μ : Mu} {s : Shared}
theorem Cons.stk (c : Cons g a go X pins σ H Z m μ s lo) : ∀ b, b ∈ frs g.outer → b = X.env.locals ∨ b ∈ X.fs := fun b hb => by
  rw [← c.stack] at hb
  exact List.mem_cons.mp (c.inv.stkSub b hb)
open Classical in
/-- what may have changed, for the waker: the young that are not pinned -/
noncomputable def young (g : GE) (P : List (Addr × Obj)) (h : Heap) : List Addr := (List.range h.objs.size).filter fun b => decide (g.L ≤ b ∧ ∀ p ∈ P, p.1 ≠ b)
end
end DL

set_option Elab.async false
set_option linter.all false
set_option maxRecDepth 100000
set_option maxHeartbeats 4000000
set_option autoImplicit false
/-! A generator's code from one waking to the next sleep. -/
namespace DL
open PySem PySem.Spec PyProof.Rows L2 GenW
open Sem (wp)

def Sg (M : Model) (A : Around) (Φ : End → Shared → Prop) (c : Code) (t : Sem PySem.Fin) (fs : List Frame) (s : Shared) : Prop :=
  ∀ (Γ : PySem.Ctx) (p : Pos), Γ.code = c → Γ.Woken A → ∃ e s', Runs M Γ p t fs s e s' ∧ Φ e s'
section
variable {M : Model} {A : Around} {Φ : End → Shared → Prop} {c : Code} {fs : List Frame} {s : Shared}
end
/-- a sleeping generator, woken: what comes of it -/
def GoesS (M : Model) (A : Around) (gs : GenState) (Φ : End → Shared → Prop) (s : Shared) : Prop := match gs with
  | .fresh c => Sg M A Φ c (M.den c) [] s
  | .suspended k _ c _ fs _ => Sg M A Φ c (k (.send .none)) fs s
  | _ => False
section
variable {prog : Program} {w : World} {A : Around} {Φ : End → Shared → Prop} {s : Shared} {E : Value → Shared → Prop}
end
end DL

set_option Elab.async false
set_option linter.all false
set_option maxRecDepth 100000
set_option maxHeartbeats 4000000
set_option autoImplicit false
/-! A generator's body, told by data: the data it hands out. -/
namespace DL
open PySem PySem.Spec PyProof.Rows L2 GenW
open Sem (wp)

/-- the waker: all that is fixed from one waking to the next sleep -/
structure Wk where
  X : Cx
  pins : List (Addr × Obj)
  σ : L2.St
  H : Hp
  Z : Addr → Prop
  m : List Addr
  μ : Mu
  s : Shared
def AftE (g : GE) (a : Addr) (go : Obj) (k : Wk) (e : End) (s1 : Shared) : Prop :=
  (∃ r, e = .ret r ∧ (r = .ok (.ret .none) ∨ r = .ok .next)) ∧ ∃ m' H', Inv k.X k.pins k.σ H' s1 ∧ Step g.gx k.Z k.m k.H m' k.μ H' ∧ H' g.L = none ∧ H' a = none
def AftY (g : GE) (a : Addr) (go : Obj) (k : Wk) (d : D) (P : List Addr → Hp → Obj → GenState → Prop) (e : End) (s1 : Shared) : Prop :=
  ∃ v gd l kk c p fs x m' H' lo', e = .susp v gd l kk c p fs ∧ e.quiet = true ∧ RelV x v ∧ Inv k.X k.pins k.σ H' s1 ∧ Step g.gx k.Z k.m k.H m' k.μ H' ∧ Rep g.gx m' (vis k.Z m' H') d x ∧ s1.heap.get? g.L = some lo' ∧ (∀ v, lo'.data ≠ .cell v) ∧ s1.heap.get? a = some go ∧
    H' g.L = none ∧ H' a = none ∧ P m' (vis k.Z m' H') lo' e.genState
/-- a generator that hands out just these -/
def GenP (g : GE) (a : Addr) (go : Obj) : List D → List Addr → Hp → Obj → GenState → Prop
  | [], m0, E0, lo, gs => ∀ k : Wk, Cons g a go k.X k.pins k.σ k.H k.Z k.m k.μ k.s lo → m0 <+: k.m → Same E0 (vis k.Z k.m k.H) → GoesS (model g.prog g.w) g.A gs (AftE g a go k) k.s
  | d :: ds, m0, E0, lo, gs => ∀ k : Wk, Cons g a go k.X k.pins k.σ k.H k.Z k.m k.μ k.s lo → m0 <+: k.m → Same E0 (vis k.Z k.m k.H) → GoesS (model g.prog g.w) g.A gs (AftY g a go k d (GenP g a go ds)) k.s
def FinP (g : GE) (a : Addr) (go : Obj) (k : Wk) : List D → End → Shared → Prop
  | [] => AftE g a go k
  | d :: ds => AftY g a go k d (GenP g a go ds)
def NoOwn (ρ : DS) : Prop := ∀ (i : Nat) (b : Addr) (c : Cell), ρ[i]? ≠ some (.own b c)
/-- it runs, its slots are ρ -/
def RunG (g : GE) (a : Addr) (go : Obj) (k : Wk) (ρ : DS) (s : Shared) : Prop :=
  ∃ lo0 σg H m, Cons g a go k.X k.pins k.σ k.H k.Z k.m k.μ k.s lo0 ∧ Inv (g.cx { k.s with heap := cutH k.s.heap g.L } (cutA k.H g.L) (wakePins g a go k.X k.pins k.s.heap)) [] σg H s ∧ Step g.gx k.Z k.m k.H m k.μ H ∧
    SR g.gx k.Z m σg H ρ k.μ ∧ NoOwn ρ ∧ ∀ (i : Nat) c ks ds, ρ[i]? ≠ some (.exn c ks ds)
structure GD where
  nx : List D → DS → Prop
abbrev TGen := GD → List D → DS → Prop
/-- where its code stands -/
structure At (g : GE) (c : Code) (fs : List Frame) (gd : Bool → Bool) : Prop where
  over : g.A.over c fs = g.A.deeper g.env
  split : splitAtGen fs = none
  guard : fs.any Frame.guarded = false
  gd : gd false = false
/-- what follows -/
def Goes (g : GE) (a : Addr) (go : Obj) (D0 : GD) (c : Code) (fs : List Frame) (K : Flow → Sem PySem.Fin) : Prop :=
  ∀ (k : Wk) (ds : List D) (ρ : DS) (s : Shared), RunG g a go k ρ s → D0.nx ds ρ → Sg (model g.prog g.w) g.A (FinP g a go k ds) c (K .next) fs s
structure GSt (g : GE) (st : Stmt) (t : TGen) : Prop where
  run : ∀ (a : Addr) (go : Obj) (c : Code) (fs : List Frame) (K : Flow → Sem PySem.Fin) (J : Value → Sem PySem.Fin) (gd : Bool → Bool) (lv : List Value → List Value) (D0 : GD), At g c fs gd → Goes g a go D0 c fs K →
    ∀ (k : Wk) (ds : List D) (ρ : DS) (s : Shared), RunG g a go k ρ s → t D0 ds ρ → Sg (model g.prog g.w) g.A (FinP g a go k ds) c ((exec st g.env).wrap K J gd lv) fs s
structure GSts (g : GE) (sts : List Stmt) (t : TGen) : Prop where
  run : ∀ (a : Addr) (go : Obj) (c : Code) (fs : List Frame) (K : Flow → Sem PySem.Fin) (J : Value → Sem PySem.Fin) (gd : Bool → Bool) (lv : List Value → List Value) (D0 : GD), At g c fs gd → Goes g a go D0 c fs K →
    ∀ (k : Wk) (ds : List D) (ρ : DS) (s : Shared), RunG g a go k ρ s → t D0 ds ρ → Sg (model g.prog g.w) g.A (FinP g a go k ds) c ((execs sts g.env).wrap K J gd lv) fs s
section
variable {g : GE} {st : Stmt} {rest body : List Stmt} {t u : TGen} {pos : Pos}
end
end DL

set_option Elab.async false
set_option linter.all false
set_option maxRecDepth 100000
set_option maxHeartbeats 4000000
set_option autoImplicit false
namespace DL
open PySem PySem.Spec PyProof.Rows L2 GenW
open Sem (wp)
section
variable {g : GE} {st : Stmt} {rest body : List Stmt} {t u : TGen} {pos : Pos}
/-! ### while -/
/-! ### the whole body -/
end
end DL

set_option Elab.async false
set_option linter.all false
set_option maxRecDepth 100000
set_option maxHeartbeats 4000000
set_option autoImplicit false
/-! A generator def: what a call of it makes. -/
namespace DL
open PySem PySem.Spec PyProof.Rows L2 GenW
/-- what the waker has of a generator that was just made -/
structure Born (P : Program) (w : World) (K : PySem.W.Frag) (mg : Str → Option Value) (base : Heap) (kk : Nat) (fr : List Env) (g : GE) (a gn : Nat) (go lo : Obj) (gs : GenState) (H : Hp) (s s' : Shared) : Prop where
  keep : ∀ b o, s.heap.get? b = some o → s'.heap.get? b = some o
  os : s'.os = s.os
  bare : AllBare s'.gens
  prog : g.prog = P
  w : g.w = w
  K : g.K = K
  mg : g.mg = mg
  base : g.base = base
  fr : g.outer = fr
  la : s.heap.objs.size ≤ a
  lL : s.heap.objs.size ≤ g.L
  ne : a ≠ g.L
  isg : ∀ h : Heap, h.get? a = some go → h.IsGen a gn
  goc : ∀ v, go.data ≠ .cell v
  loc : ∀ v, lo.data ≠ .cell v
  ego : s'.heap.get? a = some go
  elo : s'.heap.get? g.L = some lo
  egs : s'.gens[gn]? = some gs
abbrev GE.wake (g : GE) (A : Around) : GE := { g with A := A }
/-- for whoever wakes it: the data -/
def Gives (kk : Nat) (fr : List Env) (g : GE) (a : Nat) (go lo : Obj) (gs : GenState) (ys : List D) (m : List Addr) (E0 : Hp) : Prop :=
  ∀ A : Around, Room kk A → A.guards = some [] → A.frames = some fr → (g.wake A).Ok ∧ GenP (g.wake A) a go ys m E0 lo gs
abbrev GSp := List D → List D → Prop
structure GenD (P : Program) (w : World) (K : PySem.W.Frag) (mg : Str → Option Value) (base : Heap) (k : Nat) (f : Addr) (fd : FuncData) (ps : List Str) (sp : GSp) : Prop where
  len : ∀ ds ys, sp ds ys → ds.length = ps.length
  run : ∀ (A : Around) (fr : List Env) (s : Shared) (H : Hp) (args : Args) (us : List Value) (vs : List V) (Z : Addr → Prop) (m : List Addr) (μ : Mu) (ds ys : List D), Room k A → A.guards = some [] → Env0 P w K mg base A fr s H → BindsTo s fd args (ps.zip us) → Vals vs us →
    MuOk ⟨K, mg, none⟩ Z m μ H → Reps ⟨K, mg, none⟩ m (vis Z m H) ds vs → sp ds ys →
    codeAny (model P w) A (.call (.ref f) args) (fun r s' => ∃ g a gn go lo gs, r = .ok (.ret (.ref a)) ∧ Born P w K mg base k fr g a gn go lo gs H s s' ∧ Gives k fr g a go lo gs ys m (vis Z m H)) s
end DL

set_option Elab.async false
set_option linter.all false
set_option maxRecDepth 100000
set_option maxHeartbeats 4000000
set_option autoImplicit false
/-! Who walks a generator. -/
namespace DL
open PySem PySem.Spec PyProof.Rows L2 GenW
/-- a generator that X walks -/
abbrev gw (X : Cx) (N : List Str) (env : Env) : GE := ⟨X.prog, X.w, X.K, X.mg, X.base, X.A.in1, N, env, X.stack⟩
abbrev gx0 (X : Cx) : Gx := ⟨X.K, X.mg, none⟩
structure Walk (X : Cx) (env : Env) (a gn : Nat) (go : Obj) : Prop where
  ne : a ≠ env.locals
  isg : ∀ h : Heap, h.get? a = some go → h.IsGen a gn
  goc : ∀ v, go.data ≠ .cell v
  sz : X.s_0.heap.objs.size ≤ env.locals
  cl : ∀ x c, X.env.cells.lookup x = some c → c < env.locals
/-- the generator sleeps (or has not begun), ys are left -/
structure Rest (X : Cx) (N : List Str) (env : Env) (a gn : Nat) (go : Obj) (ys : List D) (Z : Addr → Prop) (m : List Addr) (H : Hp) (s : Shared) : Prop where
  ex : ∃ lo gs m0 E0, s.heap.get? env.locals = some lo ∧ (∀ v, lo.data ≠ .cell v) ∧ s.heap.get? a = some go ∧ H env.locals = none ∧ H a = none ∧ s.gens[gn]? = some gs ∧ m0 <+: m ∧ Same E0 (vis Z m H) ∧ GenP (gw X N env) a go ys m0 E0 lo gs
/-! ### over other code -/
theorem Rest.after {X : Cx} {N : List Str} {env : Env} {a gn : Nat} {go : Obj} {pins : List (Addr × Obj)} {σ' : L2.St} {Z Z' : Addr → Prop} {m m' : List Addr} {H H' : Hp} {s s' : Shared} {ys : List D} (R : Rest X N env a gn go ys Z m H s) (I : Inv X (pins ++ pinsAt [a, env.locals] s.heap) σ' H' s')
    (hg : s'.gens[gn]? = s.gens[gn]?) (pre : m <+: m') (same : Same (vis Z m H) (vis Z' m' H')) : Rest X N env a gn go ys Z' m' H' s' := by
  obtain ⟨lo, gs, m0, E0, elo, lc, ego, hL, ha, egs, pre0, same0, gp⟩ := R.ex
  have p1 := I.pin (env.locals, lo) (List.mem_append_right _ (List.mem_append_right _ (mem_pinsAt (by simp) elo)))
  have p2 := I.pin (a, go) (List.mem_append_right _ (List.mem_append_right _ (mem_pinsAt (by simp) ego)))
  exact ⟨lo, gs, m0, E0, p1.1, lc, p2.1, p1.2.1, p2.2.1, hg.trans egs, pre0.trans pre, same0.trans same, gp⟩
theorem Rest.pin {X : Cx} {N : List Str} {env : Env} {a gn : Nat} {go : Obj} {pins : List (Addr × Obj)} {σ : L2.St} {Z : Addr → Prop} {m : List Addr} {H : Hp} {s : Shared} {ys : List D} (R : Rest X N env a gn go ys Z m H s) (gc : ∀ v, go.data ≠ .cell v) (I : Inv X pins σ H s) (fL : FpOk X pins H env.locals) (fa : FpOk X pins H a) :
    Inv X (pins ++ pinsAt [a, env.locals] s.heap) σ H s := by
  obtain ⟨lo, gs, m0, E0, elo, lc, ego, hL, ha, egs, pre0, same0, gp⟩ := R.ex
  refine I.pinned (fun b hb => ?_) fun b hb => ?_
  · rcases List.mem_cons.mp hb with rfl | hb
    · exact fa
    · rw [List.mem_singleton.mp hb]; exact fL
  · rcases List.mem_cons.mp hb with rfl | hb
    · exact ⟨go, ego, gc⟩
    · rw [List.mem_singleton.mp hb]; exact ⟨lo, elo, lc⟩
end DL

set_option Elab.async false
set_option linter.all false
set_option maxRecDepth 100000
set_option maxHeartbeats 4000000
set_option autoImplicit false
namespace DL
open PySem PySem.Spec PyProof.Rows L2 GenW
/-- an expression that makes a generator -/
structure DGn (W : WX) (X : Cx) (kk : Nat) (e : Expr) (wi : WI) : Prop where
  run : ∀ (pins : List (Addr × Obj)) (s : Shared) (σ : L2.St) (H : Hp) (Z : Addr → Prop) (m : List Addr) (ρ : DS) (μ : Mu) (Q : List D → Mu → Prop) (Xd : XD), Inv X pins σ H s → SR (gx0 X) Z m σ H ρ μ → wi ρ μ Q Xd →
    (∀ cls d H', XPost (gx0 X) (ownW Z σ ρ) m H Xd cls d H' → W cls d σ H') →
    wpAny (model X.prog X.w) X.A (eval e X.env) (fun v s2 => ∃ g a gn go lo gs ys s1 H1 m1 μ1, v = .ref a ∧ Inv X pins σ H1 s1 ∧ Born X.prog X.w X.K X.mg X.base kk X.stack g a gn go lo gs H1 s1 s2 ∧ Step (gx0 X) (ownW Z σ ρ) m H m1 μ1 H1 ∧
      Gives kk X.stack g a go lo gs ys m1 (vis (ownW Z σ ρ) m1 H1) ∧ Q ys μ1) X.xe s
def wGen (sp : GSp) (wa : WA) : WI := fun ρ μ Q Xd => wa ρ μ (fun ds μ1 => ∃ ys, sp ds ys ∧ Q ys μ1) Xd
section
variable {W : WX} {X : Cx} {e : Expr} {es : List Expr} {wa : WE} {ws : WA} {pos : Pos} {k : Nat} {f : Addr} {fd : FuncData} {ps : List Str} {sp : GSp}
end
section
variable {W : WX} {X : Cx} {tg iter : Expr} {body : List Stmt} {wi : WI} {g : WG} {b : WS} {pos : Pos} {kk : Nat}
end
end DL

set_option Elab.async false
set_option linter.all false
set_option maxRecDepth 100000
set_option maxHeartbeats 4000000
set_option autoImplicit false
/-! A comprehension over a generator. -/
namespace DL
open PySem PySem.Spec PyProof.Rows L2 GenW
section
variable {W : WX} {X : Cx} {elt tg iter : Expr} {ifs : List Expr} {scope : Scope} {own : List (Str × Nat)} {pos pos' : Pos} {wi : WI} {g : L2.TG} {k : WG} {tt : WT} {te : WE} {kk : Nat}
end
end DL

set_option Elab.async false
set_option linter.all false
set_option maxRecDepth 100000
set_option maxHeartbeats 4000000
set_option autoImplicit false
/-! Generator defs by name; frames. -/
namespace DL
open PySem PySem.Spec PyProof.Rows L2 GenW
structure GenC (P : Program) (w : World) (K : PySem.W.Frag) (mg : Str → Option Value) (base : Heap) (k : Nat) (x : Str) (ps : List Str) (sp : GSp) : Prop where
  ex : ∃ f fd, mg x = some (.ref f) ∧ PySem.W.keepIn K (.ref f) = true ∧ Binds K fd ps [] ∧ GenD P w K mg base k f fd ps sp
section
variable {W : WX} {X : Cx} {e : Expr} {es : List Expr} {ws : WA} {pos p : Pos} {k j : Nat} {ps : List Str} {sp : GSp} {x : Str}
end
section
variable {W : WX} {X : Cx} {tg iter : Expr} {body : List Stmt} {wi : WI} {g : WG} {b : WS} {pos : Pos} {k j : Nat}
end
section
variable {W : WX} {X : Cx} {elt tg iter : Expr} {ifs : List Expr} {scope : Scope} {own : List (Str × Nat)} {pos : Pos} {wi : WI} {g : L2.TG} {k : WG} {tt : WT} {te : WE} {kk j : Nat}
end
/-! ### frames -/
def KGen (sp : GSp) (Q : List D → Mu → Prop) : List D → Mu → Prop := fun ds μ => ∃ ys, sp ds ys ∧ Q ys μ
theorem g_gen {sp : GSp} {wa : WA} {ρ : DS} {μ : Mu} {Q : List D → Mu → Prop} {Xd : XD} : wGen sp wa ρ μ Q Xd = wa ρ μ (KGen sp Q) Xd := propext Iff.rfl
end DL

set_option Elab.async false
set_option linter.all false
set_option maxRecDepth 100000
set_option maxHeartbeats 4000000
set_option autoImplicit false
/-! f(a, .., k = v, ..) -/
namespace DL
open PySem PySem.Spec PyProof.Rows L2
/-- how the values lie: written ones, keywords' ones -/
def GOk (gD : List D → List D → List D) (gV : List V → List V → List V) : Prop := ∀ {G : Gx} {m : List Addr} {E : Hp} {ds zs : List D} {vs ws : List V}, Reps G m E ds vs → Reps G m E zs ws → Reps G m E (gD ds zs) (gV vs ws)
/-- a def called with n written values and keywords ks -/
structure KwC (P : Program) (w : World) (K : PySem.W.Frag) (mg : Str → Option Value) (base : Heap) (k : Nat) (x : Str) (ps : List Str) (n : Nat) (ks : List Str) (gD : List D → List D → List D) (sp : DSp) : Prop where
  ex : ∃ f fd g gV, mg x = some (.ref f) ∧ PySem.W.keepIn K (.ref f) = true ∧ KBn K fd ps n ks g gV ∧ GOk gD gV ∧ FnG P w K mg base k f fd ps (toSp ⟨K, mg, none⟩ sp)
def wKw (n m : Nat) (gD : List D → List D → List D) (sp : DSp) (wa wz : WA) : WE := fun ρ μ Q Xd => wa ρ μ (fun ds μ1 => wz ρ μ1 (fun zs μ2 => ds.length = n ∧ zs.length = m ∧ sp (gD ds zs) μ2 Q Xd) Xd) Xd
abbrev DK (ex : Option (Addr × Addr × Addr)) (W : WX) (X : Cx) (kws : List Keyword) (w : WA) : Prop := PK X kws (liftA (gx X ex) W w)
section
variable {ex : Option (Addr × Addr × Addr)} {W : WX} {X : Cx} {e : Expr} {es : List Expr} {kws : List Keyword} {wa : WE} {ws wz : WA} {pos p : Pos} {nm : Option Str} {kpos : Pos} {k n : Nat} {x : Str} {ps ks : List Str} {sp : DSp} {gD : List D → List D → List D}
def wKw0 (n : Nat) (gD : List D → List D → List D) (sp : DSp) (wa : WA) : WE := fun ρ μ Q Xd => wa ρ μ (fun ds μ1 => ds.length = n ∧ sp (gD ds []) μ1 Q Xd) Xd
end
section
variable {gD : List D → List D → List D} {sp : DSp} {wa wz : WA} {n k : Nat} {ρ : DS} {μ : Mu} {Q : D → Mu → Prop} {Xd : XD}
def KKw1 (n m : Nat) (gD : List D → List D → List D) (sp : DSp) (wz : WA) (ρ : DS) (Q : D → Mu → Prop) (Xd : XD) : List D → Mu → Prop := fun ds μ1 => wz ρ μ1 (fun zs μ2 => ds.length = n ∧ zs.length = m ∧ sp (gD ds zs) μ2 Q Xd) Xd
def KKw2 (n m : Nat) (gD : List D → List D → List D) (sp : DSp) (ds : List D) (Q : D → Mu → Prop) (Xd : XD) : List D → Mu → Prop := fun zs μ2 => ds.length = n ∧ zs.length = m ∧ sp (gD ds zs) μ2 Q Xd
def KKw0 (n : Nat) (gD : List D → List D → List D) (sp : DSp) (Q : D → Mu → Prop) (Xd : XD) : List D → Mu → Prop := fun ds μ1 => ds.length = n ∧ sp (gD ds []) μ1 Q Xd
theorem r_kw {m : Nat} : wKw n m gD sp wa wz ρ μ Q Xd = wa ρ μ (KKw1 n m gD sp wz ρ Q Xd) Xd := propext Iff.rfl
theorem r_kw1 {m : Nat} {ds : List D} : KKw1 n m gD sp wz ρ Q Xd ds μ = wz ρ μ (KKw2 n m gD sp ds Q Xd) Xd := propext Iff.rfl
theorem r_kw2 {m : Nat} {ds zs : List D} : KKw2 n m gD sp ds Q Xd zs μ = (ds.length = n ∧ zs.length = m ∧ sp (gD ds zs) μ Q Xd) := propext Iff.rfl
theorem r_kw0 : wKw0 n gD sp wa ρ μ Q Xd = wa ρ μ (KKw0 n gD sp Q Xd) Xd := propext Iff.rfl
theorem r_kw00 {ds : List D} : KKw0 n gD sp Q Xd ds μ = (ds.length = n ∧ sp (gD ds []) μ Q Xd) := propext Iff.rfl
end
end DL

set_option Elab.async false
set_option linter.all false
set_option maxRecDepth 100000
set_option maxHeartbeats 4000000
set_option autoImplicit false
/-! a, b = [], []: both lists of the def's own. -/
namespace DL
open PySem PySem.Spec PyProof.Rows L2
def sPar2OO (i j : Nat) : WS := fun E ρ μ => (i < ρ.length ∧ j < ρ.length) ∧ ∀ p1 p2, E.nx ((ρ.set i (.own p1 (.lst []))).set j (.own p2 (.lst []))) μ
theorem y_oo {i j : Nat} {E : DEnds} {ρ : DS} {μ : Mu} : sPar2OO i j E ρ μ = ((i < ρ.length ∧ j < ρ.length) ∧ ∀ p1 p2, E.nx ((ρ.set i (.own p1 (.lst []))).set j (.own p2 (.lst []))) μ) := propext Iff.rfl
/-! ### a target self.f, self the thing that is being made -/
section
variable {X : Cx} {o : Expr} {to : TE} {f : Str} {pos p0 : Pos}
def kFldO (c : Str) (i : Nat) (f : Str) : WG := fun d ρ μ Q => putOwnI c i f d ρ fun ρ1 => Q ρ1 μ
/-- self.f, self the thing that is being made -/
def ofld (c f : Str) (o : Option Sl) (k : D → Prop) : Prop := match o with
  | some (.own _ (.ins c' ks ds)) => c' = c ∧ match fldOf f ks ds with
    | some d => k d
    | none => False
  | _ => False
def wOwnFld (c : Str) (i : Nat) (f : Str) : WE := fun ρ μ Q _ => ofld c f (ρ[i]?) fun d => Q d μ
end
end DL

set_option Elab.async false
set_option linter.all false
set_option maxRecDepth 100000
set_option maxHeartbeats 2000000
set_option autoImplicit false
/-! Frames: a target self.f. -/
namespace DL
open PySem PySem.Spec PyProof.Rows L2
def KOQ (Q : DS → Mu → Prop) (μ : Mu) : DS → Prop := fun ρ => Q ρ μ
theorem y_foq {ρ : DS} {μ : Mu} {Q : DS → Mu → Prop} : KOQ Q μ ρ = Q ρ μ := propext Iff.rfl
theorem y_fo {c : Str} {i : Nat} {f : Str} {d : D} {ρ : DS} {μ : Mu} {Q : DS → Mu → Prop} : kFldO c i f d ρ μ Q = KPut c i f d ρ (KOQ Q μ) (ρ[i]?) := by
  unfold kFldO putOwnI KPut
  exact propext Iff.rfl
def KOF (c f : Str) (o : Option Sl) (Q : D → Mu → Prop) (μ : Mu) : Prop := match o with
  | some (.own _ (.ins c' ks ds)) => c' = c ∧ KFld2 (fldOf f ks ds) μ Q
  | _ => False
theorem y_of {c : Str} {i : Nat} {f : Str} {ρ : DS} {μ : Mu} {Q : D → Mu → Prop} {Xd : XD} : wOwnFld c i f ρ μ Q Xd = KOF c f (ρ[i]?) Q μ := by
  unfold wOwnFld ofld KOF KFld2
  exact propext Iff.rfl
theorem y_of2 {c c' f : Str} {a : Addr} {ks : List Str} {ds : List D} {μ : Mu} {Q : D → Mu → Prop} : KOF c f (some (.own a (.ins c' ks ds))) Q μ = (c' = c ∧ KFld2 (fldOf f ks ds) μ Q) := propext Iff.rfl
end DL

set_option Elab.async false
set_option linter.all false
set_option maxRecDepth 100000
set_option maxHeartbeats 4000000
set_option autoImplicit false
namespace DL
open PySem PySem.Spec PyProof.Rows L2
/-! ### x.m() in an except suite: a method that gets data only and raises nothing -/
abbrev YSp := List D → Mu → (D → Mu → Prop) → Prop
def toSpY (K : PySem.W.Frag) (mg : Str → Option Value) (sp : YSp) (vs : List V) (H : Hp) (Q : VK) : Prop :=
  ∃ (Z : Addr → Prop) (m : List Addr) (μ : Mu) (ds : List D) (Qd : D → Mu → Prop), MuOk ⟨K, mg, none⟩ Z m μ H ∧ Reps ⟨K, mg, none⟩ m (vis Z m H) ds vs ∧ sp ds μ Qd ∧ ∀ v H', VPost ⟨K, mg, none⟩ Z m H Qd v H' → Q v H'
structure FnY (P : Program) (wd : World) (K : PySem.W.Frag) (mg : Str → Option Value) (bs : Heap) (k : Nat) (f : Addr) (fd : FuncData) (ps : List Str) (sp : YSp) : Prop where
  len : ∀ ds μ Q, sp ds μ Q → ds.length = ps.length
  run : ∀ (A : Around) (fr : List Env) (s : Shared) (H : Hp) (args : Args) (us : List Value) (vs : List V) (a : Addr) (oe : Obj) (Q : VK), L2H.RoomH k A → A.guards = some [] → A.handled = some (.ref a) → L2H.PinOk fr H s (a, oe) →
    Env0 P wd K mg bs A fr s H → BindsTo s fd args (ps.zip us) → Vals vs us → toSpY K mg sp vs H Q → codeAny (model P wd) A (.call (.ref f) args) (CR (L2.CX P wd) fr P wd H s Q (fun _ _ _ => False)) s
section
variable {P : Program} {w : World} {K : PySem.W.Frag} {mg : Str → Option Value} {base : Heap}
structure MethY (P : Program) (w : World) (K : PySem.W.Frag) (mg : Str → Option Value) (base : Heap) (k : Nat) (c m : Str) (ps : List Str) (sp : YSp) : Prop where
  ex : ∃ C f fd, mg c = some (.ref C) ∧ Cls K C ∧ Meth K C m f ∧ Binds K fd ps [] ∧ FnY P w K mg base k f fd ps sp
end
section
variable {X : Cx} {a : Addr} {oe : Obj} {cls : Value} {d : Option Addr} {pn : List (Addr × Obj)} {pos apos : Pos} {o : Expr} {wo : WE} {c m : Str} {j k : Nat} {ps : List Str} {sp : YSp}
end
end DL

set_option Elab.async false
set_option linter.all false
set_option maxRecDepth 100000
set_option maxHeartbeats 4000000
set_option autoImplicit false
namespace DL
open PySem PySem.Spec PyProof.Rows L2
/-! ### a dict of the def's own, from ints to ints -/
def putI (kvs : List (Int × Int)) (k v : Int) : List (Int × Int) := if (kvs.any fun p => decide (p.1 = k)) = true then kvs.map (fun p => if p.1 = k then (p.1, v) else p) else kvs ++ [(k, v)]
def sNewD (i : Nat) : WS := fun E ρ μ => i < ρ.length ∧ ∀ p, E.nx (ρ.set i (.own p (.dct []))) μ
def KPutD (i : Nat) (p : Addr) (kvs : List (Int × Int)) (E : DEnds) (ρ : DS) (d : D) : D → Mu → Prop := fun y μ2 => ∃ k v, y = .int k ∧ d = .int v ∧ kvs.length < 1000 ∧ E.nx (ρ.set i (.own p (.dct (putI kvs k v)))) μ2
section
variable {ex : Option (Addr × Addr × Addr)} {W : WX} {X : Cx} {e ix value tg : Expr} {wi wv w : WE} {pos pos' p0 lp : Pos} {i : Nat} {x : Str}
end
section
variable {ex : Option (Addr × Addr × Addr)} {W : WX} {X : Cx} {e : Expr} {w : WE} {i : Nat}
end
end DL

set_option Elab.async false
set_option linter.all false
set_option maxRecDepth 100000
set_option maxHeartbeats 4000000
set_option autoImplicit false
namespace DL
open PySem PySem.Spec PyProof.Rows L2
/-! frames -/
section
variable {ρ : DS} {μ : Mu} {Q : D → Mu → Prop} {Xd : XD} {E : DEnds} {i : Nat} {wi wv w : WE}
theorem r_newD : sNewD i E ρ μ = (i < ρ.length ∧ ∀ p, E.nx (ρ.set i (.own p (.dct []))) μ) := propext Iff.rfl
def KPutD0 (i : Nat) (wi : WE) (p : Addr) (kvs : List (Int × Int)) (E : DEnds) (ρ : DS) : D → Mu → Prop := fun d μ1 => wi ρ μ1 (KPutD i p kvs E ρ d) (KX E ρ)
theorem r_put0 {p : Addr} {kvs : List (Int × Int)} {d : D} : KPutD0 i wi p kvs E ρ d μ = wi ρ μ (KPutD i p kvs E ρ d) (KX E ρ) := propext Iff.rfl
end
end DL

set_option Elab.async false
set_option linter.all false
set_option maxRecDepth 100000
set_option maxHeartbeats 4000000
set_option autoImplicit false
namespace DL
open PySem PySem.Spec PyProof.Rows L2
/-! an empty dict, as a datum; x.m() in a def that gets the caught exception -/
section
variable {ex : Option (Addr × Addr × Addr)} {W : WX} {X : Cx} {pos : Pos}
end
section
variable {X : Cx} {a : Addr} {oe : Obj} {cls : Value} {d : Option Addr} {pn : List (Addr × Obj)} {pos apos : Pos} {o : Expr} {wo : WE} {c m : Str} {j k : Nat} {ps : List Str} {sp : YSp}
end
end DL

set_option Elab.async false
set_option linter.all false
set_option maxRecDepth 100000
set_option maxHeartbeats 4000000
set_option autoImplicit false
/-! list == data, where the list may be a cell of plain data. -/
namespace DL
open PySem PySem.Spec PyProof.Rows L2
section
variable {ex : Option (Addr × Addr × Addr)} {W : WX} {X : Cx} {a b : Expr} {wa wb : WE} {pos : Pos}
end
/-! is True, is not False -/
def fIsB : F2 := fun x y μ Q => ∃ a b, x = .bl a ∧ y = .bl b ∧ Q (.bl (decide (a = b))) μ
def fNotB : F2 := fun x y μ Q => ∃ a b, x = .bl a ∧ y = .bl b ∧ Q (.bl (!decide (a = b))) μ
theorem r_isb {a b : Bool} {μ : Mu} {Q : D → Mu → Prop} : fIsB (.bl a) (.bl b) μ Q = Q (.bl (decide (a = b))) μ :=
  propext ⟨fun ⟨x, y, e1, e2, q⟩ => by cases e1; cases e2; exact q, fun q => ⟨a, b, rfl, rfl, q⟩⟩
theorem r_notb {a b : Bool} {μ : Mu} {Q : D → Mu → Prop} : fNotB (.bl a) (.bl b) μ Q = Q (.bl (!decide (a = b))) μ :=
  propext ⟨fun ⟨x, y, e1, e2, q⟩ => by cases e1; cases e2; exact q, fun q => ⟨a, b, rfl, rfl, q⟩⟩
end DL

set_option Elab.async false
set_option linter.all false
set_option maxRecDepth 100000
set_option maxHeartbeats 4000000
set_option autoImplicit false
/-! Calls with all arguments by names: f(a = .., b = ..), C(a = ..), o.m(a = ..), o(a = ..). -/
namespace DL
open PySem PySem.Spec PyProof.Rows L2
/-- in the order of the parameters -/
def perm {α : Type} : List Nat → List α → List α
  | [], _ => []
  | i :: is, ws => match ws[i]? with
    | some x => x :: perm is ws
    | none => perm is ws
/-- a def whose n first values are written by position (the instance), the others by names -/
structure KwB (K : PySem.W.Frag) (fd : FuncData) (ps : List Str) (n : Nat) (ks : List Str) (pi : List Nat) : Prop where
  to : ∀ (s : Shared) (us ws : List Value), us.length = n → ws.length = ks.length → BindsTo s fd ⟨us, ks.zip ws⟩ (ps.zip (us ++ perm pi ws))
structure KwCallD (P : Program) (w : World) (K : PySem.W.Frag) (mg : Str → Option Value) (base : Heap) (k : Nat) (x : Str) (ps ks : List Str) (pi : List Nat) (sp : DSp) : Prop where
  ex : ∃ f fd, mg x = some (.ref f) ∧ PySem.W.keepIn K (.ref f) = true ∧ KwB K fd ps 0 ks pi ∧ FnG P w K mg base k f fd ps (toSp ⟨K, mg, none⟩ sp)
structure KwMakeD (P : Program) (w : World) (K : PySem.W.Frag) (mg : Str → Option Value) (base : Heap) (k : Nat) (c : Str) (ps ks : List Str) (pi : List Nat) (sp : ISp) : Prop where
  ex : ∃ C f fd, mg c = some (.ref C) ∧ Mk K C f ∧ KwB K fd ps 1 ks pi ∧ FnG P w K mg base k f fd ps (toSpI ⟨K, mg, none⟩ c sp)
structure KwMethD (P : Program) (w : World) (K : PySem.W.Frag) (mg : Str → Option Value) (base : Heap) (k : Nat) (c m : Str) (ps ks : List Str) (pi : List Nat) (sp : DSp) : Prop where
  ex : ∃ C f fd, mg c = some (.ref C) ∧ Cls K C ∧ Meth K C m f ∧ KwB K fd ps 1 ks pi ∧ FnG P w K mg base k f fd ps (toSp ⟨K, mg, none⟩ sp)
structure KwSpcD (P : Program) (w : World) (K : PySem.W.Frag) (mg : Str → Option Value) (base : Heap) (k : Nat) (cs : List Str) (nm : Str) (ps ks : List Str) (pi : List Nat) (sp : DSp) : Prop where
  ex : ∃ f fd, PySem.W.isFn K (.ref f) = true ∧ PySem.W.fnIn K f = true ∧ (∀ c ∈ cs, ∃ C, mg c = some (.ref C) ∧ PySem.W.findIn K (.ref C) nm = some (some (.ref f)) ∧ PySem.W.noSeq K C = true) ∧ KwB K fd ps 1 ks pi ∧ FnG P w K mg base k f fd ps (toSp ⟨K, mg, none⟩ sp)
def wPm (pi : List Nat) (wz : WA) : WA := fun ρ μ Q Xd => wz ρ μ (fun zs μ1 => zs.length = pi.length ∧ Q (perm pi zs) μ1) Xd
section
variable {W : WX} {X : Cx} {o : Expr} {wo : WE} {kws : List Keyword} {wz : WA} {pos p apos : Pos} {k j : Nat} {x c m : Str} {ps ks cs : List Str} {pi : List Nat} {sp : DSp}
abbrev KwOk (pos : Pos) (kws : List Keyword) (X : Cx) (ks : List Str) : Prop := (backToKw pos (keywordEach kws X.env)).all (·.1.isSome) = true ∧ (backToKw pos (keywordEach kws X.env)).filterMap (·.1) = ks ∧ ((backTo pos (starEach [] X.env)).any (·.1) || (backToKw pos (keywordEach kws X.env)).any (·.1.isNone)) = false
end
section
variable {pi : List Nat} {wz : WA} {ρ : DS} {μ : Mu} {Q : List D → Mu → Prop} {Xd : XD}
def KPm (pi : List Nat) (Q : List D → Mu → Prop) : List D → Mu → Prop := fun zs μ1 => zs.length = pi.length ∧ Q (perm pi zs) μ1
theorem r_pm : wPm pi wz ρ μ Q Xd = wz ρ μ (KPm pi Q) Xd := propext Iff.rfl
theorem r_pm1 {zs : List D} : KPm pi Q zs μ = (zs.length = pi.length ∧ Q (perm pi zs) μ) := propext Iff.rfl
end
end DL

set_option Elab.async false
set_option linter.all false
set_option maxRecDepth 100000
set_option maxHeartbeats 4000000
set_option autoImplicit false
/-! != of tuples whose items have an own `__eq__` and are all alike. -/
namespace DL
open PySem PySem.Spec PyProof.Rows L2
section
variable {prog : Program} {w : World} {A : Around}
open PySem.SeqAt AutoSeq1 MeetsSeq MeetsSeq2 MeetsSeq3 SeqRoads2 in
end
def fNeT (c : Str) (sp : DSp) : F2 := fun x y μ Q => tupE x fun ds => tupE y fun es => prsO c sp μ ds es ∧ Q (.bl false) μ
section
variable {X : Cx} {k j : Nat} {ps : List Str} {c : Str} {Ts : List String} {Cs : List Str} {sp : DSp}
end
theorem z_neT {c : Str} {sp : DSp} {ds es : List D} {μ : Mu} {Q : D → Mu → Prop} : fNeT c sp (.tup ds) (.tup es) μ Q = (prsO c sp μ ds es ∧ Q (.bl false) μ) := propext Iff.rfl
end DL

set_option Elab.async false
set_option linter.all false
set_option maxRecDepth 100000
set_option maxHeartbeats 4000000
set_option autoImplicit false
/-! + of tuples. -/
namespace DL
open PySem PySem.Spec PyProof.Rows L2
def fCatT : F2
  | .tup a, .tup b, μ, Q => a.length + b.length ≤ sizeLine ∧ Q (.tup (a ++ b)) μ
  | _, _, _, _ => False
section
variable {ex : Option (Addr × Addr × Addr)} {W : WX} {X : Cx} {a b : Expr} {wa wb : WE} {pos : Pos}
end
theorem z_catT {a b : List D} {μ : Mu} {Q : D → Mu → Prop} : fCatT (.tup a) (.tup b) μ Q = (a.length + b.length ≤ sizeLine ∧ Q (.tup (a ++ b)) μ) := propext Iff.rfl
end DL

set_option Elab.async false
set_option linter.all false
set_option maxRecDepth 100000
set_option maxHeartbeats 4000000
set_option autoImplicit false
/-! An exception out of a comprehension: the element is a call that lets one out. -/
namespace DL
open PySem PySem.Spec PyProof.Rows L2
section
variable {X : Cx} {W : WX} {E : XK}
end

section
variable {M : Model} {A : Around} {E : Value → Shared → Prop} {s : Shared} {env : Env}
end
def wCallR (sp : DSp) (wa : WA) : WE := fun ρ μ Q Xd => wa ρ μ (fun ds μ1 => sp ds μ1 Q Xd) xF
/-- an element that may let an exception out -/
abbrev TER := L2.St → Hp → VK → XK → Prop
structure PER (B : Cx) (elt : Expr) (te : TER) : Prop where
  run : ∀ (pins : List (Addr × Obj)) (s : Shared) (σ : L2.St) (H : Hp) (Q : VK) (E : XK), Inv B pins σ H s → te σ H Q E →
    wpAny (model B.prog B.w) B.A (eval elt B.env) (EP B pins σ Q) (fun u s2 => ∃ H1 s1, Inv B pins σ H1 s1 ∧ L2.CX B.prog B.w B.stack H1 s1 E u s2) s
section
variable {B : Cx} {e : Expr} {es : List Expr} {ws : WA} {pos p : Pos} {k j : Nat} {ps : List Str} {x : Str} {sp : DSp}
end
section
variable {X : Cx} {W : WX}
end
def wLcR (wi : WI) (g : WG) (tt : WT) (te : WE) (vs : List Nat) : WE := fun ρ μ Q Xd => wLc wi g tt (fun ρ μ Q _ => te ρ μ Q Xd) vs ρ μ Q Xd
theorem y_lcR {wi : WI} {g : WG} {tt : WT} {te : WE} {vs : List Nat} {ρ : DS} {μ : Mu} {Q : D → Mu → Prop} {Xd : XD} : wLcR wi g tt te vs ρ μ Q Xd = wLc wi g tt (fun ρ μ Q _ => te ρ μ Q Xd) vs ρ μ Q Xd := rfl
theorem y_callR {sp : DSp} {wa : WA} {ρ : DS} {μ : Mu} {Q : D → Mu → Prop} {Xd : XD} : wCallR sp wa ρ μ Q Xd = wa ρ μ (fun ds μ1 => sp ds μ1 Q Xd) xF := rfl
theorem XPost.out {G : Gx} {W W' : Addr → Prop} {m1 m5 : List Addr} {H1 H5 H6 : Hp} {Xd : XD} {cls : Value} {d : Option Addr} (sub : ∀ b, W b → W' b) (pm : m1 <+: m5) (hid : ∀ z, W z → H5 z = H1 z) (sm : Same (vis W m1 H1) (vis W' m5 H5)) (P : XPost G W' m5 H5 Xd cls d H6) : XPost G W m1 H1 Xd cls d H6 := by
  obtain ⟨m', c, ks, es, μ', C, dd, vs, s', e1, e2, e3, e4, e5, e6, q⟩ := P
  exact ⟨m', c, ks, es, μ', C, dd, vs, ⟨pm.trans s'.pre, fun z hz => (s'.hid z (sub z hz)).trans (hid z hz), s'.mu.less sub, (sm.trans s'.same).trans (vis_mono sub)⟩, e1, e2, e3, vis_mono sub _ _ e4, e5, Reps.mono (List.prefix_refl _) (vis_mono sub) _ _ e6, q⟩
section
variable {W : WX} {X : Cx} {elt tg iter : Expr} {ifs : List Expr} {scope : Scope} {own : List (Str × Nat)} {pos : Pos} {wi : WI} {g : TG} {k : WG} {tt : WT} {te : WE}
end
end DL

set_option Elab.async false
set_option linter.all false
set_option maxRecDepth 100000
set_option maxHeartbeats 4000000
set_option autoImplicit false
/-! A dict of texts, kept as a cell. -/
namespace DL
open PySem PySem.Spec PyProof.Rows L2
/-- a key's value; a value put: in its place, or at the end -/
def getTd {α : Type} (k : Str) : List Str → List α → Option α
  | g :: ks, x :: ds => if g = k then some x else getTd k ks ds
  | _, _ => none
def putTk (k : Str) (ks : List Str) : List Str := if k ∈ ks then ks else ks ++ [k]
def setTd {α : Type} (k : Str) (d : α) (ks : List Str) (ds : List α) : List α := List.zipWith (fun g x => if g = k then d else x) ks ds
def putTd {α : Type} (k : Str) (d : α) (ks : List Str) (ds : List α) : List α := if k ∈ ks then setTd k d ks ds else ds ++ [d]
theorem sk_val {k : Str} : ∀ {ks : List Str} {vs : List V}, valV (skV ks vs) (.inr k) = getTd k ks vs
  | [], _ => by unfold valV skV; simp [getTd]
  | _ :: _, [] => by unfold valV skV; simp [getTd]
  | g :: ks, v :: vs => by
    have ih := sk_val (k := k) (ks := ks) (vs := vs)
    unfold valV skV at ih ⊢
    rw [List.zip_cons_cons, List.map_cons, List.find?_cons, getTd]
    by_cases c : g = k
    · simp [c]
    · have c' : ¬ ((Sum.inr g : Key) = Sum.inr k) := fun z => c (Sum.inr.inj z)
      simp only [c, c', decide_false, if_false]
      exact ih
theorem sk_any {k : Str} : ∀ {ks : List Str} {vs : List V}, ks.length = vs.length → ((skV ks vs).any fun kv => decide (kv.1 = (Sum.inr k : Key))) = decide (k ∈ ks)
  | [], _, _ => by unfold skV; simp
  | _ :: _, [], h => by simp at h
  | g :: ks, v :: vs, h => by
    have ih := sk_any (k := k) (ks := ks) (vs := vs) (by simpa using h)
    unfold skV at ih ⊢
    rw [List.zip_cons_cons, List.map_cons, List.any_cons, ih]
    by_cases c : g = k
    · simp [c]
    · have c' : ¬ ((Sum.inr g : Key) = Sum.inr k) := fun z => c (Sum.inr.inj z)
      have c2 : ¬ k = g := fun z => c z.symm
      simp [c, c', c2]
theorem sk_put {k : Str} {v : V} {ks : List Str} {vs : List V} (hl : ks.length = vs.length) : L2.putK (skV ks vs) (.inr k) v = skV (putTk k ks) (putTd k v ks vs) := by
  unfold L2.putK
  rw [sk_any hl]
  unfold putTk putTd
  by_cases c : k ∈ ks
  · rw [if_pos (decide_eq_true c), if_pos c, if_pos c]
    clear c
    induction ks generalizing vs with
    | nil => unfold skV; simp
    | cons g ks ih =>
      cases vs with
      | nil => simp at hl
      | cons x vs =>
        have ih := ih (vs := vs) (by simpa using hl)
        unfold skV setTd at ih ⊢
        rw [List.zip_cons_cons, List.map_cons, List.map_cons, List.zipWith_cons_cons, List.zip_cons_cons, List.map_cons, ih]
        by_cases c : g = k
        · simp [c]
        · have c' : ¬ ((Sum.inr g : Key) = Sum.inr k) := fun z => c (Sum.inr.inj z)
          simp [c, c']
  · rw [if_neg (by simp [c]), if_neg c, if_neg c]
    unfold skV
    rw [List.zip_append hl, List.map_append]
    rfl
theorem putT_len {α : Type} {k : Str} {d : α} {ks : List Str} {ds : List α} (hl : ks.length = ds.length) : (putTk k ks).length = (putTd k d ks ds).length := by
  unfold putTk putTd setTd
  split
  · rw [List.length_zipWith, hl, Nat.min_self]
  · rw [List.length_append, List.length_append, hl]
    rfl
theorem setT_rep {G : Gx} {m : List Addr} {E : Hp} {k : Str} {d : D} {v : V} (rd : Rep G m E d v) : ∀ {ks : List Str} {ds : List D} {vs : List V}, Reps G m E ds vs → Reps G m E (setTd k d ks ds) (setTd k v ks vs)
  | [], _, _, _ => by unfold setTd; exact Reps.nil
  | g :: ks, [], vs, r => by
    rw [Reps] at r
    subst r
    unfold setTd
    exact Reps.nil
  | g :: ks, x :: ds, vs, r => by
    obtain ⟨u, t, rfl, r1, r2⟩ := r.uncons
    have ih := setT_rep (k := k) rd (ks := ks) r2
    unfold setTd at ih ⊢
    rw [List.zipWith_cons_cons, List.zipWith_cons_cons]
    by_cases c : g = k
    · rw [if_pos c, if_pos c]
      exact Reps.cons rd ih
    · rw [if_neg c, if_neg c]
      exact Reps.cons r1 ih
theorem putT_rep {G : Gx} {m : List Addr} {E : Hp} {k : Str} {d : D} {v : V} {ks : List Str} {ds : List D} {vs : List V} (rd : Rep G m E d v) (r : Reps G m E ds vs) : Reps G m E (putTd k d ks ds) (putTd k v ks vs) := by
  unfold putTd
  split
  · exact setT_rep rd r
  · exact Reps.append r (Reps.cons rd Reps.nil)
theorem getT_rep {G : Gx} {m : List Addr} {E : Hp} {k : Str} {d : D} : ∀ {ks : List Str} {ds : List D} {vs : List V}, Reps G m E ds vs → getTd k ks ds = some d → ∃ v, getTd k ks vs = some v ∧ Rep G m E d v
  | [], ds, vs, r, h => by cases ds <;> simp [getTd] at h
  | g :: ks, [], vs, r, h => by simp [getTd] at h
  | g :: ks, x :: ds, vs, r, h => by
    obtain ⟨u, t, rfl, r1, r2⟩ := r.uncons
    rw [getTd] at h ⊢
    by_cases c : g = k
    · rw [if_pos c] at h ⊢
      cases h
      exact ⟨u, rfl, r1⟩
    · rw [if_neg c] at h ⊢
      exact getT_rep r2 h
theorem getT_is {k : Str} : ∀ {ks : List Str} {vs : List V}, ks.length = vs.length → (getTd k ks vs).isSome = decide (k ∈ ks)
  | [], vs, _ => by cases vs <;> simp [getTd]
  | g :: ks, [], h => by simp at h
  | g :: ks, v :: vs, h => by
    have ih := getT_is (k := k) (ks := ks) (vs := vs) (by simpa using h)
    rw [getTd]
    by_cases c : g = k
    · simp [c]
    · have c2 : ¬ k = g := fun z => c z.symm
      rw [if_neg c, ih]
      simp [c2]
/-! ### the rules -/
def wDicC : WE := fun _ μ Q _ => Q (.loc μ.length) (μ ++ [.dic [] []])
def isDic (x : D) (μ : Mu) (k : List Str → List D → Prop) : Prop := match x with
  | .loc n => match μ[n]? with
    | some (.dic ks ds) => k ks ds
    | _ => False
  | _ => False
theorem isDic_of {x : D} {μ : Mu} {k : List Str → List D → Prop} (h : isDic x μ k) : ∃ n ks ds, x = .loc n ∧ μ[n]? = some (.dic ks ds) ∧ k ks ds := by
  unfold isDic at h
  split at h
  · split at h
    · exact ⟨_, _, _, rfl, by assumption, h⟩
    · exact h.elim
  · exact h.elim
def fGetT : F2 := fun x y μ Q => isDic x μ fun ks ds => ∃ k d, y = .str k ∧ getTd k ks ds = some d ∧ Q d μ
def fInT (neg : Bool) : F2 := fun y x μ Q => isDic x μ fun ks _ => ∃ k, y = .str k ∧ Q (.bl (neg != decide (k ∈ ks))) μ
def putN (x : D) (k : Str) (d : D) (μ : Mu) (K : Mu → Prop) : Prop := match x with
  | .loc n => match μ[n]? with
    | some (.dic ks ds) => ks.length < 1000 ∧ K (μ.set n (.dic (putTk k ks) (putTd k d ks ds)))
    | _ => False
  | _ => False
theorem putN_of {x d : D} {k : Str} {μ : Mu} {K : Mu → Prop} (h : putN x k d μ K) : ∃ n ks ds, x = .loc n ∧ μ[n]? = some (.dic ks ds) ∧ ks.length < 1000 ∧ K (μ.set n (.dic (putTk k ks) (putTd k d ks ds))) := by
  unfold putN at h
  split at h
  · split at h
    · exact ⟨_, _, _, rfl, by assumption, h.1, h.2⟩
    · exact h.elim
  · exact h.elim
def KPutT3 (E : DEnds) (ρ : DS) (d x : D) : D → Mu → Prop := fun y μ3 => ∃ k, y = .str k ∧ putN x k d μ3 (E.nx ρ)
def KPutT2 (wi : WE) (E : DEnds) (ρ : DS) (d : D) : D → Mu → Prop := fun x μ2 => wi ρ μ2 (KPutT3 E ρ d x) fun c ks es μ' => E.xc c ks es ρ μ'
def sPutT (wo wi wv : WE) : WS := fun E ρ μ => wv ρ μ (fun d μ1 => wo ρ μ1 (KPutT2 wi E ρ d) fun c ks es μ' => E.xc c ks es ρ μ') fun c ks es μ' => E.xc c ks es ρ μ'
section
variable {ex : Option (Addr × Addr × Addr)} {W : WX} {X : Cx} {o ix value : Expr} {wo wi wv : WE} {pos pos' : Pos}
theorem de_dicC : DE ex W X (.Dict [] [] pos) wDicC := pe_weak pe_dnewK fun σ H Q' q => by
  obtain ⟨Z, m, ρ, μ, Q, Xd, S, q, k, kx⟩ := q
  refine fun p np => k _ _ ?_
  have s2 : Step (gx X ex) (ownW Z σ ρ) m H (m ++ [p]) (μ ++ [.dic [] []]) (upd H p (.dK [])) := Step.cell S.mu np ⟨[], upd_same, rfl, Reps.nil⟩
  refine ⟨_, _, _, s2, ?_, q⟩
  rw [Rep]
  exact ⟨p, rfl, by rw [← S.mu.len]; exact List.getElem?_concat_length⟩
theorem de_getT (hu : X.A.units + 1 < cLine) (ho : DE ex W X o wo) (hi : DE ex W X ix wi) (hs : NoSl ix := by exact fun _ _ => rfl) : DE ex W X (.Subscript o ix pos) (w2 fGetT wo wi) := pe_weak (pe_dget hu ho hi hs) fun σ H Q' q => by
  obtain ⟨Z, m, ρ, μ, Q, Xd, S, q, k, kx⟩ := q
  refine ⟨Z, m, ρ, μ, _, Xd, S, q, fun x H1 P => ?_, kx⟩
  obtain ⟨m1, xd, μ1, s1, r1, q1⟩ := P
  refine ⟨Z, m1, ρ, μ1, _, _, S.step s1, q1, fun y H2 P => ?_, fun cls d H' P => kx cls d H' (XPost.from s1 P)⟩
  obtain ⟨m2, yd, μ2, s2, r2, q2⟩ := P
  obtain ⟨n, ks, ds, rfl, e1, kk, d, rfl, hg, q3⟩ := isDic_of q2
  have r1' := Rep.mono s2.pre s2.same _ _ r1
  rw [Rep] at r1'
  rw [Rep] at r2
  obtain ⟨a, rfl, ea⟩ := r1'
  subst r2
  obtain ⟨vs, hv, hl, rv⟩ := s2.mu.cell n _ a e1 ea
  obtain ⟨v, hv2, rd⟩ := getT_rep rv hg
  have g : DGet H2 a (kV (.inr kk)) (some v) := by
    have z := DGet.k (k := .inr kk) hv
    rw [sk_val, hv2] at z
    exact z
  exact ⟨a, v, rfl, g, k _ _ ⟨m2, d, μ2, s1.trans s2, rd, q3⟩⟩
theorem ds_putT (hu : X.A.units + 1 < cLine) (ho : DE ex W X o wo) (hi : DE ex W X ix wi) (hv : DE ex W X value wv) (hs : swapsWith value (some (.Subscript o ix pos')) pos.line X.env = pure false := by rfl) :
    DSt ex W X (.Assign [.Subscript o ix pos'] value pos) (sPutT wo wi wv) := ps_weak (ps_dput hu ho hi hv hs) fun De σ H q => by
  obtain ⟨Z, m, ρ, μ, E, S, q, kn, kr, kb, kc, kx⟩ := q
  refine ⟨Z, m, ρ, μ, _, _, S, q, fun vv H1 P => ?_, fun cls d H' P => kx cls d σ H' (XSPost.of S P)⟩
  obtain ⟨m1, d, μ1, s1, r1, q1⟩ := P
  have S1 := S.step s1
  refine ⟨Z, m1, ρ, μ1, _, _, S1, q1, fun x H2 P2 => ?_, fun cls d H' P => kx cls d σ H' (XSPost.from (SStep.of s1) (XSPost.of S1 P))⟩
  obtain ⟨m2, xd, μ2, s2, r2, q2⟩ := P2
  have S2 := S1.step s2
  refine ⟨Z, m2, ρ, μ2, _, _, S2, q2, fun y H3 P3 => ?_, fun cls d H' P => kx cls d σ H' (XSPost.from ((SStep.of s1).trans (SStep.of s2)) (XSPost.of S2 P))⟩
  obtain ⟨m3, yd, μ3, s3, r3, k, rfl, q3⟩ := P3
  obtain ⟨n, ks, ds, rfl, e1, hlt, q4⟩ := putN_of q3
  have S3 := S2.step s3
  have r2' := Rep.mono s3.pre s3.same _ _ r2
  have r1' := Rep.mono (s2.trans s3).pre (s2.trans s3).same _ _ r1
  rw [Rep] at r2'
  rw [Rep] at r3
  obtain ⟨a, rfl, ea⟩ := r2'
  subst r3
  obtain ⟨vs, hvs, hl, rv⟩ := s3.mu.cell n _ a e1 ea
  have s4 : Step (gx X ex) (ownW Z σ ρ) m3 H3 m3 (μ3.set n (.dic (putTk k ks) (putTd k d ks ds))) (upd H3 a (.dK (skV (putTk k ks) (putTd k vv ks vs)))) := Step.put s3.mu ea ⟨_, upd_same, putT_len hl, putT_rep r1' rv⟩
  have hl2 : ks.length = vs.length := hl.trans rv.len
  refine ⟨a, _, rfl, DPut.k (k := .inr k) hvs (lt_line (by unfold skV; rw [List.length_map, List.length_zip]; omega)), ?_⟩
  rw [sk_put hl2]
  exact kn _ _ ⟨m3, ρ, _, S3.step s4, (((SStep.of s1).trans (SStep.of s2)).trans (SStep.of s3)).trans (SStep.of s4), q4⟩
theorem isDic_get {G : Gx} {Z : Addr → Prop} {m : List Addr} {μ : Mu} {H : Hp} (M : MuOk G Z m μ H) {n : Nat} {ks : List Str} {ds : List D} {v : V} (e : μ[n]? = some (.dic ks ds)) (r : Rep G m (vis Z m H) (.loc n) v) :
    ∃ a vs, v = .ref a ∧ m[n]? = some a ∧ H a = some (.dK (skV ks vs)) ∧ ks.length = vs.length ∧ Reps G m (vis Z m H) ds vs := by
  rw [Rep] at r
  obtain ⟨a, rfl, ea⟩ := r
  obtain ⟨vs, hv, hl, rv⟩ := M.cell n _ a e ea
  exact ⟨a, vs, rfl, ea, hv, hl.trans rv.len, rv⟩
theorem lift_inT {neg : Bool} {σ : L2.St} {H : Hp} {Q' : VK} (q : lift (gx X ex) W (w2 (fInT neg) wi wo) σ H Q') :
    (lift (gx X ex) W wi) σ H fun y H1 => (lift (gx X ex) W wo) σ H1 fun x H2 => ∃ a o, x = .ref a ∧ DGet H2 a y o ∧ Q' (.bl (neg != o.isSome)) H2 := by
  obtain ⟨Z, m, ρ, μ, Q, Xd, S, q, k, kx⟩ := q
  refine ⟨Z, m, ρ, μ, _, Xd, S, q, fun y H1 P => ?_, kx⟩
  obtain ⟨m1, yd, μ1, s1, r1, q1⟩ := P
  refine ⟨Z, m1, ρ, μ1, _, _, S.step s1, q1, fun x H2 P => ?_, fun cls d H' P => kx cls d H' (XPost.from s1 P)⟩
  obtain ⟨m2, xd, μ2, s2, r2, q2⟩ := P
  obtain ⟨n, ks, ds, rfl, e1, kk, rfl, q3⟩ := isDic_of q2
  obtain ⟨a, vs, rfl, ea, hv, hl, rv⟩ := isDic_get s2.mu e1 r2
  rw [Rep] at r1
  subst r1
  have g : DGet H2 a (kV (.inr kk)) (getTd kk ks vs) := by
    have z := DGet.k (k := .inr kk) hv
    rw [sk_val] at z
    exact z
  refine ⟨a, _, rfl, g, ?_⟩
  rw [getT_is hl]
  exact k _ _ ⟨m2, _, μ2, s1.trans s2, by rw [Rep], q3⟩
theorem dt_notInT (hu : X.A.units + 1 < cLine) (hi : DE ex W X ix wi) (ho : DE ex W X o wo) (h1 : behindInMarks .NotIn o = false := by first | exact nobehind _ (by decide) (by decide) | rfl) : DT ex W X (.Compare ix [.NotIn] [o] pos) (wB (w2 (fInT true) wi wo)) := pt_weak (pt_cmp (pc_dnotin hu hi ho) h1) fun σ H Q' q => by
  have h := lift_wB q
  obtain h : lift _ _ _ σ H _ := h
  have z := lift_inT h
  simp only [Bool.true_bne] at z
  exact z
end
/-! list(d), dict(d) -/
def fLstT : FN := fun xs μ Q => match xs with
  | [x] => isDic x μ fun ks _ => Q (.lst (ks.map D.str)) μ
  | _ => False
theorem reps_strs {G : Gx} {m : List Addr} {E : Hp} : ∀ ks : List Str, Reps G m E (ks.map D.str) (ks.map V.str)
  | [] => Reps.nil
  | k :: ks => Reps.cons (by rw [Rep]) (reps_strs ks)
theorem sk_keys : ∀ {ks : List Str} {vs : List V}, ks.length = vs.length → ((skV ks vs).map fun kv => kV kv.1) = ks.map V.str
  | [], _, _ => by unfold skV; simp
  | _ :: _, [], h => by simp at h
  | k :: ks, v :: vs, h => by
    have ih := sk_keys (ks := ks) (vs := vs) (by simpa using h)
    unfold skV at ih ⊢
    rw [List.zip_cons_cons, List.map_cons, List.map_cons, List.map_cons, ih]
    rfl
theorem sn_lstT {G : Gx} : SN G (fun xs H Q => ∃ (a : Addr) (kvs : List (Key × V)), xs = [.ref a] ∧ Rd H a (.dK kvs) ∧ ∀ p, H p = none → Q (.ref p) (upd H p (.lst (kvs.map fun kv => kV kv.1)))) fLstT := by
  intro Z m μ H xs vs Q Q' M r h k
  match xs, h with
  | [x], h =>
    obtain ⟨v, t, rfl, r1, r2⟩ := r.uncons
    rw [Reps] at r2
    subst r2
    obtain ⟨n, ks, ds, rfl, e1, q⟩ := isDic_of h
    obtain ⟨a, us, rfl, ea, hv, hl, rv⟩ := isDic_get M e1 r1
    refine ⟨a, _, rfl, .inl hv, fun p np => k _ _ ?_⟩
    rw [sk_keys hl]
    have s := Step.laid (o := .lst (ks.map V.str)) M np
    refine ⟨m, _, μ, s, ?_, q⟩
    rw [Rep]
    exact ⟨p, _, rfl, by rw [vis_upd M np, upd_same], reps_strs ks⟩
end DL

set_option Elab.async false
set_option linter.all false
set_option maxRecDepth 100000
set_option maxHeartbeats 4000000
set_option autoImplicit false
/-! Base.__init__(self) in a class's own __init__. -/
namespace DL
open PySem PySem.Spec PyProof.Rows L2
/-- a thing of ours, changed by other code -/
theorem SR.reOwn {G : Gx} {Z : Addr → Prop} {m m' : List Addr} {σ : L2.St} {H H' : Hp} {ρ : DS} {μ μ' : Mu} (S : SR G Z m σ H ρ μ) {i : Nat} {c c' : Cell} {a : Addr} (hi : ρ[i]? = some (.own a c)) (pre : m <+: m') (hid : ∀ z, ownW Z σ ρ z → z ≠ a → H' z = H z)
    (mu : MuOk G (ownW Z σ ρ) m' μ' H') (same : Same (vis (ownW Z σ ρ) m H) (vis (ownW Z σ ρ) m' H')) (hc : CellOk G m' (vis (ownW Z σ ρ) m' H') H' c' a) :
    SR G Z m' σ H' (ρ.set i (.own a c')) μ' ∧ SStep G Z m σ ρ H m' σ (ρ.set i (.own a c')) H' := by
  have hil := (List.getElem?_eq_some_iff.mp hi).1
  obtain ⟨hs, nz, _⟩ := S.own i a c hi
  have ow : ownW Z σ (ρ.set i (.own a c')) = ownW Z σ ρ := own_put hi
  refine ⟨⟨by rw [List.length_set]; exact S.len, by rw [ow]; exact mu, fun j d e => ?_, fun j b e h => ?_, fun j k b e f h1 h2 => ?_, fun j c ks ds h => ?_⟩, pre, fun z hz => hid z (.inl hz) fun e => nz (e ▸ hz), by rw [ow]; exact same⟩
  · rw [ow]
    have hj : i ≠ j := fun q => by subst q; rw [List.getElem?_set_self hil] at e; cases e
    rw [List.getElem?_set_ne hj] at e
    obtain ⟨v, h1, h2⟩ := S.val j d e
    exact ⟨v, h1, Rep.mono pre same _ _ h2⟩
  · rw [ow]
    by_cases hj : i = j
    · subst hj
      rw [List.getElem?_set_self hil] at h
      cases h
      exact ⟨hs, nz, hc⟩
    · rw [List.getElem?_set_ne hj] at h
      obtain ⟨h1, h2, h3⟩ := S.own j b e h
      exact ⟨h1, h2, h3.keep pre same (hid b (.inr ⟨j, e, h⟩) fun q => hj (S.dis i j a c e hi (q ▸ h)))⟩
  · have get : ∀ {l : Nat} {b : Addr} {es : Cell}, (ρ.set i (Sl.own a c'))[l]? = some (Sl.own b es) → ∃ es2 : Cell, ρ[l]? = some (Sl.own b es2) := fun {l b es} h => by
      by_cases hj : i = l
      · subst hj
        rw [List.getElem?_set_self hil] at h
        cases h
        exact ⟨c, hi⟩
      · rw [List.getElem?_set_ne hj] at h; exact ⟨es, h⟩
    obtain ⟨_, g1⟩ := get h1
    obtain ⟨_, g2⟩ := get h2
    exact S.dis j k b _ _ g1 g2
  · rw [ow]
    have hj : i ≠ j := fun q => by subst q; rw [List.getElem?_set_self hil] at h; cases h
    rw [List.getElem?_set_ne hj] at h
    exact (S.exn j c ks ds h).mono pre same
/-- b's __init__, as it runs for things of the class c -/
structure BIniD (P : Program) (w : World) (K : PySem.W.Frag) (mg : Str → Option Value) (base : Heap) (k : Nat) (b c : Str) (ps : List Str) (sp : ISp) : Prop where
  ex : ∃ B f fd, mg b = some (.ref B) ∧ PySem.W.specialIn K (.ref B) "__getattribute__" = some (some (.builtin "type.__getattribute__")) ∧ PySem.W.typeIn K (.ref B) = some (.type "type") ∧ PySem.W.readsIn K B (.type "type") = true ∧
    PySem.W.findCls K (.ref B) (.type "type") "__init__" = some (.val (.ref f)) ∧ PySem.W.handedIn (.ref f) = true ∧ PySem.W.keepIn K (.ref f) = true ∧ Binds K fd ps [] ∧ FnG P w K mg base k f fd ps (toSpI ⟨K, mg, none⟩ c sp)
/-- the slot i is a bare thing of the class c -/
def baseI (c : Str) (i : Nat) (sp : ISp) (E : DEnds) (ρ : DS) (μ : Mu) : Prop := match ρ[i]? with
  | some (.own a (.ins c' [] [])) => c' = c ∧ sp [] μ (fun ks ds μ' => E.nx (ρ.set i (.own a (.ins c ks ds))) μ') xF
  | _ => False
def sBaseI (c : Str) (i : Nat) (sp : ISp) : WS := fun E ρ μ => baseI c i sp E ρ μ
theorem baseI_of {c : Str} {i : Nat} {sp : ISp} {E : DEnds} {ρ : DS} {μ : Mu} (h : baseI c i sp E ρ μ) : ∃ a, ρ[i]? = some (.own a (.ins c [] [])) ∧ sp [] μ (fun ks ds μ' => E.nx (ρ.set i (.own a (.ins c ks ds))) μ') xF := by
  unfold baseI at h
  split at h
  · rename_i e
    obtain ⟨rfl, h⟩ := h
    exact ⟨_, e, h⟩
  · exact h.elim
section
variable {W : WX} {X : Cx} {pos apos pos' p0 p1 : Pos} {i k j : Nat} {b c x : Str} {ps : List Str} {sp : ISp}
theorem pe_baseI {pl : Sem Bool} (D : BIniD X.prog X.w X.K X.mg X.base k b c ps sp) (hr : Room j X.A) (hkj : k ≤ j) (hgd : X.A.guards = some []) (tk : Takes X W) (hg : Gl X b) (hN : X.N[i]? = some x) (hv : Vis X.env.scope x := by first | exact Or.inl rfl | exact Or.inr (Or.inl rfl) | exact Or.inr (Or.inr rfl)) (hd : (x == ("__debug__" : Str)) = false := by decide) (hcd : (x == ("__classdict__" : Str)) = false := by decide) (hdb : (b == ("__debug__" : Str)) = false := by decide)
    (he : starEach [.Name x p1] X.env = (false, eval (.Name x p1) X.env) :: starEach [] X.env := by rfl) (hpl : (backTo pos (starEach [] X.env)).any (·.1) = false := by rfl)
    (ht : eval (.Call (.Attribute (.Name b p0) "__init__" apos) [.Name x p1] [] pos) X.env = (do
      let ov ← eval (.Name b p0) X.env
      standAt apos.atName
      let (f, first) ← holding [ov] (getMethod ov "__init__" pl)
      callWith pos f first (backTo pos (starEach [.Name x p1] X.env)) (backToKw pos (keywordEach [] X.env))) := by rfl) :
    PE X (.Call (.Attribute (.Name b p0) "__init__" apos) [.Name x p1] [] pos) (fun σ H Q => ∃ a, σ[i]? = some (some (.ref a)) ∧ toSpI (gx X none) c sp [.ref a] H Q (L2.WE W σ)) := by
  obtain ⟨B, f, fd, g1, g2, g3, g4, g5, g7, g8, g9, F⟩ := D.ex
  refine ⟨fun pins s σ H Q I ⟨a, hs, h⟩ => ?_⟩
  refine PySem.W.methodCall_KW (pl := pl) (ld_glob I hg g1 ?_ hdb) ht
  obtain ⟨mf, hF⟩ := I.fr
  refine PySem.W.method_of_cls hF I.ok.mod.kin g2 (PySem.W.cls_val hF I.ok.mod.kin g3 g4 g5 g7 ?_)
  have I2 := I.tok (s.toks + 1)
  refine PySem.W.callWith_K (h₀ := X.base) (first := []) I.ok.mod.kin g8 ?_ he hpl
  rw [he]
  show wpAny _ _ (spliced ((false, eval (.Name x p1) X.env) :: backTo pos (starEach [] X.env))) _ _ _
  refine Calls.spliced_cons (thn ((pe_var (X := X) hN hv hd hcd).run pins _ σ H (fun v H1 => v = .ref a ∧ H1 = H) I2 ⟨_, hs, rfl, rfl⟩) fun u s1 hu => ?_)
  refine Calls.spliced_nil ?_
  obtain ⟨v, H1, I1, rv, rfl, rfl⟩ := hu
  exact ⟨I1.kIn, run_fnG (us := [u]) (vs := [.ref a]) F (hr.mono hkj) hgd g9 tk I1 (.cons rv .nil) h⟩
theorem ds_baseI {pl : Sem Bool} (D : BIniD X.prog X.w X.K X.mg X.base k b c ps sp) (hr : Room j X.A) (hkj : k ≤ j) (hgd : X.A.guards = some []) (tk : Takes X W) (hg : Gl X b) (hN : X.N[i]? = some x) (hv : Vis X.env.scope x := by first | exact Or.inl rfl | exact Or.inr (Or.inl rfl) | exact Or.inr (Or.inr rfl)) (hd : (x == ("__debug__" : Str)) = false := by decide) (hcd : (x == ("__classdict__" : Str)) = false := by decide) (hdb : (b == ("__debug__" : Str)) = false := by decide)
    (he : starEach [.Name x p1] X.env = (false, eval (.Name x p1) X.env) :: starEach [] X.env := by rfl) (hpl : (backTo pos (starEach [] X.env)).any (·.1) = false := by rfl)
    (hsw : swapsWith (.Call (.Attribute (.Name b p0) "__init__" apos) [.Name x p1] [] pos) none pos'.line X.env = pure false := by rfl)
    (ht : eval (.Call (.Attribute (.Name b p0) "__init__" apos) [.Name x p1] [] pos) X.env = (do
      let ov ← eval (.Name b p0) X.env
      standAt apos.atName
      let (f, first) ← holding [ov] (getMethod ov "__init__" pl)
      callWith pos f first (backTo pos (starEach [.Name x p1] X.env)) (backToKw pos (keywordEach [] X.env))) := by rfl) :
    DSt none W X (.Expr (.Call (.Attribute (.Name b p0) "__init__" apos) [.Name x p1] [] pos) pos') (sBaseI c i sp) := ps_weak (ps_expr (pe_baseI D hr hkj hgd tk hg hN hv hd hcd hdb he hpl ht) hsw) fun De σ H q => by
  obtain ⟨Z, m, ρ, μ, E, S, q, kn, kr, kb, kc, kx⟩ := q
  obtain ⟨a, hi, q⟩ := baseI_of q
  obtain ⟨hs, nz, C, dx, vs, hmC, hH, hl, rv⟩ := S.own i a _ hi
  have wa : ownW Z σ ρ a := .inr ⟨i, _, hi⟩
  have ea : addZ (fun z => ownW Z σ ρ z ∧ z ≠ a) a = ownW Z σ ρ := by
    funext z
    apply propext
    constructor
    · rintro (h | h)
      · exact h.1
      · rw [h]; exact wa
    · intro h
      by_cases hz : z = a
      · exact .inr hz
      · exact .inl ⟨h, hz⟩
  refine ⟨a, hs, a, [], C, dx, (fun z => ownW Z σ ρ z ∧ z ≠ a), m, μ, [], _, xF, rfl, hmC, ?_, fun h => h.2 rfl, by rw [ea]; exact S.mu, Reps.nil, q, fun H' P => ?_, fun cls d H' P => ?_⟩
  · have e : vs = [] := by
      cases vs with
      | nil => rfl
      | cons v vs => rw [Reps] at rv; cases rv
    subst e
    exact hH
  · obtain ⟨m', ks, es, μ', h1, h2, h3, h4, h5, h6⟩ := P
    rw [ea] at h3 h4 h5
    obtain ⟨S2, s2⟩ := S.reOwn (c' := .ins c ks es) hi h1 (fun z hz hn => h2 z ⟨hz, hn⟩) h3 h4 h5
    exact kn _ _ ⟨m', _, μ', S2, s2, h6⟩
  · obtain ⟨_, _, _, _, _, _, _, _, _, _, _, _, _, _, _, _, _, _, h⟩ := P
    exact h.elim
end
theorem biniD_of {P : Program} {w : World} {K : PySem.W.Frag} {h : Heap} {mg : Str → Option Value} {base : Heap} {k : Nat} {b c : Str} {f : Addr} {ps : List Str} {sp : ISp} {fd : FuncData} (X : K.In h) (G : h.Ns mainGlobals mg)
    (B : biniB K b f = true) (bi : Binds K fd ps []) (F : FnG P w K mg base k f fd ps (toSpI ⟨K, mg, none⟩ c sp)) : BIniD P w K mg base k b c ps sp := by
  obtain ⟨h1, B⟩ := He.ba B
  obtain ⟨h2, B⟩ := He.ba B
  obtain ⟨h3, B⟩ := He.ba B
  obtain ⟨h4, B⟩ := He.ba B
  obtain ⟨h5, B⟩ := He.ba B
  obtain ⟨h6, h7⟩ := He.ba B
  refine ⟨_, f, fd, He.glo_ok X G h1, He.eqO_ok h2, of_decide_eq_true h3, h4, ?_, h6, h7, bi, F⟩
  split at h5
  · rename_i v e
    rw [e, of_decide_eq_true h5]
  · cases h5
end DL

set_option Elab.async false
set_option linter.all false
set_option maxRecDepth 100000
set_option maxHeartbeats 4000000
set_option autoImplicit false
/-! [each for each in d], d a dict of texts kept as a cell: its keys. -/
namespace DL
open PySem PySem.Spec PyProof.Rows L2
section
variable {W : WX} {X : Cx} {i j : Nat} {x y : Str} {scope : Scope} {pos p0 p1 p2 : Pos}
end
end DL

set_option Elab.async false
set_option linter.all false
set_option maxRecDepth 100000
set_option maxHeartbeats 4000000
set_option autoImplicit false
/-! d != {}, d a dict of texts kept as a cell. -/
namespace DL
open PySem PySem.Spec PyProof.Rows L2
end DL

set_option Elab.async false
set_option linter.all false
set_option maxRecDepth 100000
set_option maxHeartbeats 4000000
set_option autoImplicit false
/-! The letters of a text, one by one. -/
namespace DL
open PySem PySem.Spec PyProof.Rows L2
def lettersD (x : Str) : List D := x.cps.toList.map fun c => D.str ⟨#[c]⟩
def KWiS (Q : List D → Mu → Prop) : D → Mu → Prop := fun d μ1 => ∃ x, d = .str x ∧ Q (lettersD x) μ1
def wiS (wa : WE) : WI := fun ρ μ Q Xd => wa ρ μ (KWiS Q) Xd
theorem t_wis {wa : WE} {ρ : DS} {μ : Mu} {Q : List D → Mu → Prop} {Xd : XD} : wiS wa ρ μ Q Xd = wa ρ μ (KWiS Q) Xd := rfl
theorem t_wisa {x : Str} {μ : Mu} {Q : List D → Mu → Prop} : KWiS Q (.str x) μ = Q (lettersD x) μ := propext ⟨fun ⟨y, e, h⟩ => by cases e; exact h, fun h => ⟨x, rfl, h⟩⟩
theorem itok_str {G : Gx} {m : List Addr} {E : Hp} {x : Str} : ItOk G (Its x) m E (lettersD x) where
  go := fun i H hi _ => by
    unfold lettersD at hi
    rw [List.length_map, Array.length_toList] at hi
    exact hi
  stop := fun H _ => by
    show x.cps.size ≤ (lettersD x).length
    unfold lettersD
    rw [List.length_map, Array.length_toList]
    exact Nat.le_refl _
  yld := fun i H v H3 hi _ y => by
    obtain ⟨rfl, c, ec, rfl⟩ := y
    refine ⟨.str ⟨#[c]⟩, ?_, .inl ⟨rfl, by rw [Rep]⟩⟩
    unfold lettersD
    rw [List.getElem?_map, Array.getElem?_toList, ec]
    rfl
section
variable {ex : Option (Addr × Addr × Addr)} {W : WX} {X : Cx} {tg e : Expr} {wa : WE}
theorem di_str (h : DE ex W X e wa) : DI ex W X tg e (wiS wa) := pi_weak (pi_str h) fun σ H R q => by
  obtain ⟨Z, m, ρ, μ, Q, Xd, S, q, k, kx⟩ := q
  refine ⟨Z, m, ρ, μ, _, Xd, S, q, fun v H1 P => ?_, kx⟩
  obtain ⟨m1, d, μ1, s1, r1, x, rfl, q1⟩ := P
  rw [Rep] at r1
  exact ⟨x, r1, k _ _ ⟨m1, _, μ1, s1, itok_str, q1⟩⟩
end
/-- one sign in a text -/
def fInS : F2 := fun x y μ Q => ∃ (c : Nat) (z : Str), x = .str ⟨#[c]⟩ ∧ y = .str z ∧ Q (.bl (decide (c ∈ z.cps.toList))) μ
theorem s2_inS {G : Gx} : S2 G rInS fInS := by
  intro Z m μ H x y u v Q Q' M rx ry h k
  obtain ⟨c, z, rfl, rfl, q⟩ := h
  rw [Rep] at rx ry
  exact ⟨c, z, rx, ry, k _ _ ⟨m, _, μ, .refl M, by rw [Rep], q⟩⟩
end DL

set_option Elab.async false
set_option linter.all false
set_option maxRecDepth 100000
set_option maxHeartbeats 4000000
set_option autoImplicit false
/-! len of a text, of a dict of texts. -/
namespace DL
open PySem PySem.Spec PyProof.Rows L2
def fLenS : FN := fun xs μ Q => match xs with
  | [.str z] => z.length ≤ sizeLine ∧ Q (.int (z.length : Nat)) μ
  | _ => False
theorem sn_lenS {G : Gx} : SN G (fun xs H Q => ∃ z, xs = [V.str z] ∧ z.length ≤ sizeLine ∧ Q (.int z.length) H) fLenS := by
  intro Z m μ H xs vs Q Q' M r h k
  unfold fLenS at h
  split at h
  · rename_i z
    obtain ⟨v, t, rfl, r1, r2⟩ := r.uncons
    rw [Reps] at r2
    subst r2
    rw [Rep] at r1
    subst r1
    exact ⟨z, rfl, h.1, k _ _ (.now M (by rw [Rep]) h.2)⟩
  · exact h.elim
section
variable {μ : Mu} {Q : D → Mu → Prop} {z : Str} {n : Nat}
theorem lenS_go (h1 : z.length ≤ sizeLine) (h : Q (.int (z.length : Nat)) μ) : fLenS [.str z] μ Q := ⟨h1, h⟩
end
end DL

set_option Elab.async false
set_option linter.all false
set_option maxRecDepth 100000
set_option maxHeartbeats 4000000
set_option autoImplicit false
/-! None in a dict of texts; a display of texts; d[k] = v in an unpacking; the keys of a dict within a dict. -/
namespace DL
open PySem PySem.Spec PyProof.Rows L2
/-! ### None as a key -/
def keyIsN : Option Key → Value → Bool
  | some k, v => keyIs k v
  | none, .none => true
  | none, _ => false
theorem keyIsN_shape : ∀ {k : Option Key} {v : Value}, keyIsN k v = true → (k = none ∧ v = .none) ∨ ∃ k', k = some k' ∧ keyIs k' v = true
  | some k, v, h => .inr ⟨k, rfl, h⟩
  | none, v, h => by
    cases v <;> first | exact .inl ⟨rfl, rfl⟩ | cases h
theorem wpAny_pyHash_none {prog : Program} {w : World} {A : Around} {E : Value → Shared → Prop} {s : Shared} {Q : Int → Shared → Prop} (h : Q 4238894112 { s with toks := s.toks + 1 }) :
    wpAny (model prog w) A (pyHash .none) Q E s := by
  have hT : s.TypeIs .none "NoneType" := rfl
  show wpAny _ _ (pyHashByItsType .none) _ _ _
  unfold pyHashByItsType
  have hv : [Value.none].any Value.onHeap = false := rfl
  refine wpAny_bind ?_
  rw [cRoomFor, if_neg (by rw [hv]; exact Bool.false_ne_true)]; refine wpAny_pure ?_
  refine wpAny_bind (wpAny_specialOf hT F.slot_NoneType_hash.lookup ?_)
  show wpAny _ _ (if (some (Value.builtin "NoneType.__hash__") == some Value.none) = true then _ else _) Q E s
  rw [if_neg (by rw [beq_builtin_none]; exact Bool.false_ne_true)]
  refine wpAny_bind (wpAny_specialOf hT F.slot_NoneType_hash.lookup ?_)
  show wpAny _ _ (callSpecialIfBoundUnlessNone? .none "__hash__" _ >>= _) Q E s
  refine wpAny_bind (wpAny_callSpecialIfBoundUnlessNone?_slot hT F.slot_NoneType_hash
    (wpAny_call_entry F.slot_NoneType_hash hT F.entry_NoneType_hash
      (show wpAny _ _ (do ret (← mkInt 4238894112)) _ _ s from wpAny_ret_mkInt ?_) (F.args_NoneType_hash_1 _)))
  exact wpAny_pure h
def keyHN (w : World) : Option Key → Int
  | some k => keyH w k
  | none => 4238894112
def noneKind (prog : Program) (w : World) : PySem.KeyKind prog w (Option Key) where
  is := keyIsN
  hash := keyHN w
  inj := fun v a b ha hb => by
    rcases keyIsN_shape ha with ⟨rfl, rfl⟩ | ⟨k, rfl, ha⟩
    · rcases keyIsN_shape hb with ⟨rfl, e⟩ | ⟨k, rfl, hb⟩
      · rfl
      · rcases keyIs_shape hb with ⟨_, _, _, e⟩ | ⟨_, _, _, e⟩ <;> exact nomatch e
    · rcases keyIsN_shape hb with ⟨rfl, rfl⟩ | ⟨k', rfl, hb⟩
      · rcases keyIs_shape ha with ⟨_, _, _, e⟩ | ⟨_, _, _, e⟩ <;> exact nomatch e
      · exact congrArg some ((mixKind prog w).inj v k k' ha hb)
  byValue := fun k v h => by
    rcases keyIsN_shape h with ⟨rfl, rfl⟩ | ⟨k, rfl, h⟩
    · rfl
    · exact (mixKind prog w).byValue k v h
  pyHash := fun hv h => by
    rcases keyIsN_shape hv with ⟨rfl, rfl⟩ | ⟨k, rfl, hv⟩
    · exact wpAny_pyHash_none h
    · exact (mixKind prog w).pyHash hv h
  eqBool := fun {A E s a b u v Q} hu hv h => by
    rcases keyIsN_shape hu with ⟨rfl, rfl⟩ | ⟨k, rfl, hu⟩
    · rcases keyIsN_shape hv with ⟨rfl, rfl⟩ | ⟨k', rfl, hv⟩
      · rw [decide_eq_true rfl] at h
        exact SeqAt.EqAt.same _ _ _ _ _ h
      · rw [decide_eq_false (fun z => nomatch z)] at h
        rcases keyIs_shape hv with ⟨i, t, rfl, rfl⟩ | ⟨x, t, rfl, rfl⟩
        · exact SeqAt.EqAt.none_int _ _ _ _ _ _ h
        · exact SeqAt.EqAt.none_str _ _ _ _ _ _ h
    · rcases keyIsN_shape hv with ⟨rfl, rfl⟩ | ⟨k', rfl, hv⟩
      · rw [decide_eq_false (fun z => nomatch z)] at h
        rcases keyIs_shape hu with ⟨i, t, rfl, rfl⟩ | ⟨x, t, rfl, rfl⟩
        · exact SeqAt.EqAt.int_none _ _ _ _ _ _ h
        · exact SeqAt.EqAt.str_none _ _ _ _ _ _ h
      · refine (mixKind prog w).eqBool hu hv ?_
        by_cases c : k = k'
        · rw [decide_eq_true c]
          rw [decide_eq_true (congrArg some c)] at h
          exact h
        · rw [decide_eq_false c]
          rw [decide_eq_false (fun z => c (Option.some.inj z))] at h
          exact h
  «strs» := fun k x t v h => by
    rcases keyIsN_shape h with ⟨rfl, e⟩ | ⟨k, rfl, h⟩
    · exact nomatch e
    · exact (mixKind prog w).«strs» k x t v h
theorem mapOf_none {prog : Program} {w : World} {h : Heap} {a : Addr} {f : Key → Option Value} (m : h.MapOf (mixKind prog w) a f) : h.MapOf (noneKind prog w) a (fun k => k.bind f) := by
  obtain ⟨o, es, ep, ho, ex, hd, hk, hf⟩ := m
  refine ⟨o, es, ep, ho, ex, hd, fun e he => ?_, fun k => ?_⟩
  · obtain ⟨k, h1, h2⟩ := hk e he
    exact ⟨some k, h1, h2⟩
  · cases k with
    | some k => exact hf k
    | none =>
      show findBy keyIsN es none = none
      unfold findBy
      rw [Option.map_eq_none_iff, Array.find?_eq_none]
      intro e he hz
      obtain ⟨k, h1, h2⟩ := hk e he
      rcases keyIsN_shape hz with ⟨_, e1⟩ | ⟨k', e1, _⟩
      · rw [e1] at h1
        rcases keyIs_shape h1 with ⟨_, _, _, e2⟩ | ⟨_, _, _, e2⟩ <;> exact nomatch e2
      · cases e1
section
variable {X : Cx} {pins : List (Addr × Obj)} {σ : L2.St} {H : Hp} {s : Shared} {A : Around} {E : Value → Shared → Prop} {a : Addr} {kvs : List (Key × V)}
theorem d_inN {Q : Value → Shared → Prop} (I : Inv X pins σ H s) (e : Rd H a (.dK kvs)) (h : ∀ s', Inv X pins σ H s' → Q (.bool false) s') : wpAny (model X.prog X.w) A (compareOp .In .none (.ref a)) Q E s := by
  obtain ⟨z, hd, vs, rel, dd⟩ := dk_rd I.hok e
  exact wpAny_in_of (knd := noneKind X.prog X.w) (k := none) rfl hd (mapOf_none dd.mapOf) (h _ (I.tok _))
theorem d_notInN {Q : Value → Shared → Prop} (I : Inv X pins σ H s) (e : Rd H a (.dK kvs)) (h : ∀ s', Inv X pins σ H s' → Q (.bool true) s') : wpAny (model X.prog X.w) A (compareOp .NotIn .none (.ref a)) Q E s := by
  obtain ⟨z, hd, vs, rel, dd⟩ := dk_rd I.hok e
  exact wpAny_notIn_of (knd := noneKind X.prog X.w) (k := none) rfl hd (mapOf_none dd.mapOf) (h _ (I.tok _))
end
/-- y in d, y not in d, y a text or None -/
def yIn (y : D) (ks : List Str) (k : Bool → Prop) : Prop := match y with
  | .str s => k (decide (s ∈ ks))
  | .non => k false
  | _ => False
theorem yIn_of {y : D} {ks : List Str} {k : Bool → Prop} (h : yIn y ks k) : (∃ s, y = .str s ∧ k (decide (s ∈ ks))) ∨ y = .non ∧ k false := by
  unfold yIn at h
  split at h
  · exact .inl ⟨_, rfl, h⟩
  · exact .inr ⟨rfl, h⟩
  · exact h.elim
def fInU (neg : Bool) : F2 := fun y x μ Q => isDic x μ fun ks _ => yIn y ks fun b => Q (.bl (neg != b)) μ
section
variable {ex : Option (Addr × Addr × Addr)} {W : WX} {X : Cx} {o ix value : Expr} {wo wi wv : WE} {pos pos' : Pos}
theorem pc_inU {neg : Bool} {op : CmpOp} (hop : op = if neg then .NotIn else .In) (hu : X.A.units + 1 < cLine) (hi : DE ex W X ix wi) (ho : DE ex W X o wo) : PC X op ix o (lift (gx X ex) W (w2 (fInU neg) wi wo)) := by
  refine ⟨fun pins s σ H Q I h => ?_⟩
  obtain ⟨Z, m, ρ, μ, Qd, Xd, S, q, k, kx⟩ := h
  refine thn (hi.run pins s σ H _ I ⟨Z, m, ρ, μ, _, Xd, S, q, fun y H1 P => P, kx⟩) fun iv s1 hv => ?_
  obtain ⟨y, H1, I1, ry, m1, yd, μ1, s1', r1, q1⟩ := hv
  refine thn (ho.run pins s1 σ H1 _ I1 ⟨Z, m1, ρ, μ1, _, _, S.step s1', q1, fun x H2 P => P, fun cls d H' P => kx cls d H' (XPost.from s1' P)⟩) fun u s2 hu2 => ?_
  obtain ⟨x, H2, I2, rx, m2, xd, μ2, s2', r2, q2⟩ := hu2
  obtain ⟨n, ks, ds, rfl, e1, q3⟩ := isDic_of q2
  obtain ⟨a, vs, rfl, ea, hv, hl, rv⟩ := isDic_get s2'.mu e1 r2
  cases rx
  rcases yIn_of q3 with ⟨st, rfl, q4⟩ | ⟨rfl, q4⟩
  · rw [Rep] at r1
    subst r1
    have g : DGet H2 a (kV (.inr st)) (getTd st ks vs) := by
      have z := DGet.k (k := .inr st) hv
      rw [sk_val] at z
      exact z
    have fin : ∀ s3, Inv X pins σ H2 s3 → EP X pins σ Q (.bool (neg != (getTd st ks vs).isSome)) s3 := fun s3 I3 => by
      refine ⟨.bl (neg != (getTd st ks vs).isSome), H2, I3, rfl, ?_⟩
      rw [getT_is hl]
      exact k _ _ ⟨m2, _, μ2, s1'.trans s2', by rw [Rep], q4⟩
    cases neg with
    | true =>
      rw [hop]
      refine d_notIn hu I2 g ry fun s3 I3 => ?_
      have z := fin s3 I3
      rw [Bool.true_bne] at z
      exact z
    | false =>
      rw [hop]
      refine d_in hu I2 g ry fun s3 I3 => ?_
      have z := fin s3 I3
      rw [Bool.false_bne] at z
      exact z
  · rw [Rep] at r1
    subst r1
    cases ry
    have fin : ∀ s3, Inv X pins σ H2 s3 → EP X pins σ Q (.bool (neg != false)) s3 := fun s3 I3 => ⟨.bl (neg != false), H2, I3, rfl, k _ _ ⟨m2, _, μ2, s1'.trans s2', by rw [Rep], q4⟩⟩
    cases neg with
    | true => rw [hop]; exact d_notInN I2 (.inl hv) fin
    | false => rw [hop]; exact d_inN I2 (.inl hv) fin
theorem dt_notInU (hu : X.A.units + 1 < cLine) (hi : DE ex W X ix wi) (ho : DE ex W X o wo) (h1 : behindInMarks .NotIn o = false := by first | exact nobehind _ (by decide) (by decide) | rfl) : DT ex W X (.Compare ix [.NotIn] [o] pos) (wB (w2 (fInU true) wi wo)) := pt_weak (pt_cmp (pc_inU (neg := true) rfl hu hi ho) h1) fun σ H Q' q => lift_wB q
end
/-! ### a display of texts -/
def wDicL (ks : List Str) (wa : WA) : WE := fun ρ μ Q Xd => wa ρ (μ ++ [.dic [] []]) (fun ds μ1 => ks.Nodup ∧ ks.length ≤ 15 ∧ μ1[μ.length]? = some (.dic [] []) ∧ Q (.loc μ.length) (μ1.set μ.length (.dic ks ds))) Xd
inductive PW (G : Gx) (W : WX) : List Str → List (TE × TE) → WA → Prop
  | nil : PW G W [] [] wNil
  | cons {k : Str} {ks : List Str} {we : WE} {trs : List (TE × TE)} {wa : WA} : PW G W ks trs wa → PW G W (k :: ks) ((tC (.str k), lift G W we) :: trs) (wCons we wa)
theorem pw_run {G : Gx} {W : WX} {ks : List Str} {trs : List (TE × TE)} {wa : WA} (h : PW G W ks trs wa) : ∀ {Z : Addr → Prop} {m : List Addr} {σ : L2.St} {H : Hp} {ρ : DS} {μ : Mu} {Qd : List D → Mu → Prop} {Xd : XD} {R : List (V × V) → Hp → Prop}, SR G Z m σ H ρ μ → wa ρ μ Qd Xd →
    (∀ cls d H', XPost G (ownW Z σ ρ) m H Xd cls d H' → W cls d σ H') → (∀ m' ds vs μ' H', Step G (ownW Z σ ρ) m H m' μ' H' → Reps G m' (vis (ownW Z σ ρ) m' H') ds vs → ks.length = ds.length → Qd ds μ' → R ((ks.map V.str).zip vs) H') → tPairs trs σ H R := by
  induction h with
  | nil =>
    intro Z m σ H ρ μ Qd Xd R S q kx k
    exact k m [] [] μ H (Step.refl S.mu) Reps.nil rfl q
  | @cons g ks we trs wa h ih =>
    intro Z m σ H ρ μ Qd Xd R S q kx k
    refine ⟨Z, m, ρ, μ, _, Xd, S, q, fun y H1 P => ?_, kx⟩
    obtain ⟨m1, d, μ1, s1, r1, q1⟩ := P
    refine ih (S.step s1) q1 (fun cls d H' P => kx cls d H' (XPost.from s1 P)) fun m' ds vs μ' H' s' r' e q' => ?_
    exact k m' (d :: ds) (y :: vs) μ' H' (s1.trans s') (Reps.cons (Rep.mono s'.pre s'.same _ _ r1) r') (by rw [List.length_cons, List.length_cons, e]) q'
theorem merge_nd : ∀ {more acc : List (Key × V)}, (∀ kv ∈ more, valV acc kv.1 = none) → (more.map (·.1)).Nodup → mergeK acc more = acc ++ more
  | [], acc, _, _ => (List.append_nil acc).symm
  | p :: more, acc, h, nd => by
    rw [List.map_cons, List.nodup_cons] at nd
    show mergeK (L2.putK acc p.1 p.2) more = _
    rw [putK_new p.2 (h p List.mem_cons_self), merge_nd (fun kv hm => ?_) nd.2, List.append_assoc]
    · rfl
    · have e := h kv (List.mem_cons_of_mem _ hm)
      have ne : ¬ p.1 = kv.1 := fun z => nd.1 (z ▸ List.mem_map.mpr ⟨kv, hm, rfl⟩)
      unfold valV at e ⊢
      rw [List.find?_append]
      cases e2 : acc.find? (fun q => decide (q.1 = kv.1)) with
      | some q => rw [e2] at e; cases e
      | none => simp [ne]
structure DPs (ex : Option (Addr × Addr × Addr)) (W : WX) (X : Cx) (pos : Pos) (keys : List (Option Expr)) (values : List Expr) (ks : List Str) (wa : WA) : Prop where
  ex : ∃ trs, PPs X pos keys values trs ∧ PW (gx X ex) W ks trs wa
section
variable {ex : Option (Addr × Addr × Addr)} {W : WX} {X : Cx} {v : Expr} {keys : List (Option Expr)} {values : List Expr} {ks : List Str} {k : Str} {we wo wi : WE} {wa : WA} {pos p1 : Pos} {j : Nat}
theorem dps_nil : DPs ex W X pos [] [] [] wNil := ⟨[], pps_nil, .nil⟩
theorem dps_cons (hv : DE ex W X v we) (h : DPs ex W X pos keys values ks wa) : DPs ex W X pos (some (.Constant (.str k) j p1) :: keys) (v :: values) (k :: ks) (wCons we wa) := by
  obtain ⟨trs, h1, h2⟩ := h.ex
  exact ⟨_, pps_cons pe_str hv h1, .cons h2⟩
theorem de_dicL (h : DPs ex W X pos keys values ks wa) (hall : keys.all (·.isSome) = true := by rfl) (hl : keys.length = values.length := by rfl) (h0 : keys ≠ [] := by exact fun z => nomatch z) (h15 : keys.length ≤ 15 := by decide) : DE ex W X (.Dict keys values pos) (wDicL ks wa) := by
  obtain ⟨trs, h1, h2⟩ := h.ex
  refine pe_weak (pe_disp h1 hall hl h0 h15) fun σ H Q' q => ?_
  obtain ⟨Z, m, ρ, μ, Q, Xd, S, q, k, kx⟩ := q
  refine fun p np => ?_
  have s2 : Step (gx X ex) (ownW Z σ ρ) m H (m ++ [p]) (μ ++ [.dic [] []]) (upd H p (.dK [])) := Step.cell S.mu np ⟨[], upd_same, rfl, Reps.nil⟩
  refine pw_run h2 (S.step s2) q (fun cls d H' P => kx cls d H' (XPost.from s2 P)) fun m' ds vs μ' H' s' r' hl q' => ?_
  obtain ⟨nd, h15, e1, q'⟩ := q'
  have en : m'[μ.length]? = some p := by
    have e0 : (m ++ [p])[μ.length]? = some p := by rw [← S.mu.len]; exact List.getElem?_concat_length
    obtain ⟨t, ht⟩ := s'.pre
    rw [← ht, List.getElem?_append_left (by rw [List.length_append, S.mu.len]; exact Nat.lt_succ_self _)]
    exact e0
  obtain ⟨us, hv, hlu, ru⟩ := s'.mu.cell μ.length _ p e1 en
  have hlv : ks.length = vs.length := hl.trans r'.len
  have s3 : Step (gx X ex) (ownW Z σ ρ) m' H' m' (μ'.set μ.length (.dic ks ds)) (upd H' p (.dK (skV ks vs))) := Step.put s'.mu en ⟨vs, upd_same, hl, r'⟩
  refine ⟨by rw [hv]; unfold skV; simp, skV ks vs, ?_, by unfold skV; rw [List.length_map, List.length_zip]; omega, ?_⟩
  · unfold skV
    rw [List.map_map, List.zip_map_left]
    rfl
  · rw [merge_nd (acc := []) (fun _ _ => rfl) ?_, List.nil_append]
    · exact k _ _ ⟨m', _, _, (s2.trans s').trans s3, by rw [Rep]; exact ⟨p, rfl, en⟩, q'⟩
    · have e : (skV ks vs).map (·.1) = ks.map Sum.inr := by
        unfold skV
        rw [List.map_map, show ((fun x : Key × V => x.1) ∘ fun p : Str × V => ((Sum.inr p.1 : Key), p.2)) = (Sum.inr ∘ Prod.fst) from rfl, ← List.map_map, List.map_fst_zip (Nat.le_of_eq hlv)]
      rw [e]
      exact List.Pairwise.map _ (fun a b z c => z (Sum.inr.inj c)) nd
/-- d[k] = .. as a part of an unpacking -/
def kPutT (wo wi : WE) : WG := fun d ρ μ Q => wo ρ μ (fun x μ1 => wi ρ μ1 (fun y μ2 => ∃ k, y = .str k ∧ putN x k d μ2 fun μ3 => Q ρ μ3) xF) xF
theorem dg_putT {o ix : Expr} (hu : X.A.units + 1 < cLine) (ho : DE none WF X o wo) (hi : DE none WF X ix wi)
    (ha : ∀ v, assign (.Subscript o ix pos) X.env v = (do
      let ov ← holding [v] (eval o X.env)
      let iv ← holding [v, ov] (eval ix X.env)
      standAt pos
      holding [v, ov, iv] (setItem ov iv v)
      release [v, ov, iv] []) := by intro _; rfl) : DG none X (.Subscript o ix pos) (kPutT wo wi) := pg_weak (pg_sub ho hi (set_dict hu) ha) fun v σ H Q' q => by
  obtain ⟨Z, m, ρ, μ, d, Q, S, r, q, k⟩ := q
  refine ⟨Z, m, ρ, μ, _, _, S, q, fun x H1 P => ?_, fun cls dd H1 P => (xpF P).elim⟩
  obtain ⟨m1, xd, μ1, s1, r1, q1⟩ := P
  refine ⟨Z, m1, ρ, μ1, _, _, S.step s1, q1, fun y H2 P => ?_, fun cls dd H1 P => (xpF P).elim⟩
  obtain ⟨m2, yd, μ2, s2, r2, q2⟩ := P
  obtain ⟨kk, rfl, q2⟩ := q2
  obtain ⟨n, ks, ds, rfl, e1, hlt, q3⟩ := putN_of q2
  have rd := Rep.mono (s1.trans s2).pre (s1.trans s2).same _ _ r
  have r1' := Rep.mono s2.pre s2.same _ _ r1
  rw [Rep] at r1'
  rw [Rep] at r2
  obtain ⟨a, rfl, ea⟩ := r1'
  subst r2
  obtain ⟨vs, hvs, hl, rv⟩ := s2.mu.cell n _ a e1 ea
  have s4 : Step (gx X none) (ownW Z σ ρ) m2 H2 m2 (μ2.set n (.dic (putTk kk ks) (putTd kk d ks ds))) (upd H2 a (.dK (skV (putTk kk ks) (putTd kk v ks vs)))) := Step.put s2.mu ea ⟨_, upd_same, putT_len hl, putT_rep rd rv⟩
  have hl2 : ks.length = vs.length := hl.trans rv.len
  refine ⟨a, _, rfl, DPut.k (k := .inr kk) hvs (lt_line (by unfold skV; rw [List.length_map, List.length_zip]; omega)), ?_⟩
  rw [sk_put hl2]
  exact k _ _ ⟨m2, ρ, _, (S.step (s1.trans s2)).step s4, SStep.of ((s1.trans s2).trans s4), q3⟩
end
theorem keys_lcG {td : TE} {j : Nat} {σ : L2.St} {H : Hp} {Q : VK} {d : Addr} {kvs : List (Key × V)} (ht : ∀ (od : Obj) (R : VK), R (.ref d) (upd H d (.frz od (.dK kvs))) → td σ (upd H d (.frz od (.dK kvs))) R) (hd : H d = some (.dK kvs)) (hj : j < σ.length) (hl : kvs.length < sizeLine)
    (h : ∀ D, H D = none → Q (.ref D) (upd H D (.lst (kvs.map fun kv => kV kv.1)))) : tLockE (tLc (iKeys td) (gName j) tYes (tVar j) [j]) σ H Q := by
  refine ⟨d, .dK kvs, hd, trivial, fun od => ?_⟩
  refine ht od _ ⟨d, od, rfl, .inl ⟨kvs, upd_same, fun D nD => ?_⟩⟩
  have hdD : d ≠ D := fun z => by rw [← z, upd_same] at nD; cases nD
  have nD' : H D = none := by rw [upd_ne (Ne.symm hdD)] at nD; exact nD
  refine ⟨fun n m H' => m = kvs.length - n ∧ n ≤ kvs.length ∧ H' = upd (upd H d (.frz od (.dK kvs))) D (.lst ((kvs.take n).map fun kv => kV kv.1)), ⟨_, rfl, Nat.zero_le _, by rw [List.take_zero]; rfl⟩, ?_⟩
  rintro n m H' ⟨rfl, hn, rfl⟩
  have e1 : ∀ u, upd (upd H d (.frz od (.dK kvs))) D u d = some (.frz od (.dK kvs)) := fun u => by rw [upd_ne hdD, upd_same]
  by_cases c : n < kvs.length
  · refine .inr ⟨⟨e1 _, c⟩, fun H'' => H'' = upd (upd H d (.frz od (.dK kvs))) D (.lst ((kvs.take (n + 1)).map fun kv => kV kv.1)), fun H'' e => ⟨_, (by omega : kvs.length - (n + 1) < kvs.length - n), rfl, c, e⟩, fun x H'' y => ?_⟩
    obtain ⟨rfl, k, v, ek, rfl⟩ := y
    show wipe ((wipe σ [j]).set j (some (kV k))) [j] = wipe σ [j] ∧ _
    refine ⟨by rw [wipe_set (by simp), wipe_wipe], ?_⟩
    unfold tYes
    show ite _ _ _
    rw [if_pos rfl]
    refine ⟨kV k, by rw [List.getElem?_set_self (by rw [wipe_length]; exact hj)], _, upd_same, by rw [List.length_map, List.length_take]; omega, ?_⟩
    have et : kvs.take (n + 1) = kvs.take n ++ [(k, v)] := by
      rw [List.take_succ, ek]
      rfl
    rw [et, List.map_append]
    funext b
    by_cases hb : b = D
    · rw [hb, upd_same, upd_same]
      rfl
    · rw [upd_ne hb, upd_ne hb, upd_ne hb]
  · have en : n = kvs.length := by omega
    subst en
    refine .inl ⟨⟨e1 _, Nat.le_refl _⟩, e1 _, ?_⟩
    have z := h D nD'
    rw [List.take_length]
    have eh : upd (upd (upd H d (.frz od (.dK kvs))) D (.lst (kvs.map fun kv => kV kv.1))) d (.dK kvs) = upd H D (.lst (kvs.map fun kv => kV kv.1)) := by
      funext b
      by_cases hb : b = d
      · rw [hb, upd_same, upd_ne hdD, hd]
      · by_cases hb2 : b = D
        · rw [hb2, upd_ne (Ne.symm hdD), upd_same, upd_same]
        · rw [upd_ne hb, upd_ne hb2, upd_ne hb, upd_ne hb2]
    rw [eh]
    exact z
/-- the keys of the dict that stands under a text in the dict that the slot i names -/
def wKeysG (i j : Nat) (key : Str) : WE := fun ρ μ Q _ => j < ρ.length ∧ ∃ x, ρ[i]? = some (.v x) ∧ isDic x μ fun ks ds => ∃ y, getTd key ks ds = some y ∧ isDic y μ fun ks2 _ => ks2.length ≤ 1000 ∧ Q (.lst (ks2.map D.str)) μ
section
variable {W : WX} {X : Cx} {i j : Nat} {x y key : Str} {scope : Scope} {jj : Nat} {pos p0 p1 p2 p3 p4 : Pos}
theorem de_keysG (hu : X.A.units + 1 < cLine) (hc : X.calm = true) (hN : X.N.Nodup) (hi : X.N[i]? = some x) (hv : Vis X.env.scope x) (ok : BlkOk X.N X.env.scope scope [(y, j)])
    (hg : ∀ (s : Shared) (H : Hp) (C : Addr) (cl : List (Str × Addr)) (fp : List Addr), PG (X.blk s H scope (compEnvC scope cl C X.env) fp) (.Name y p1) (gName j))
    (he : ∀ (s : Shared) (H : Hp) (C : Addr) (cl : List (Str × Addr)) (fp : List Addr), PE (X.blk s H scope (compEnvC scope cl C X.env) fp) (.Name y p2) (tVar j)) (hs : ∀ v, foldedSetIterable (.Subscript (.Name x p0) (.Constant (.str key) jj p3) p4) X.env v = pure v := by intro _; rfl)
    (hd : (x == ("__debug__" : Str)) = false := by decide) (hcd : (x == ("__classdict__" : Str)) = false := by decide) :
    DE none W X (.ListComp (.Name y p2) [⟨.Name y p1, .Subscript (.Name x p0) (.Constant (.str key) jj p3) p4, [], 0⟩] scope pos) (wKeysG i j key) := pe_weak (pe_lock (pe_lc (own := [(y, j)]) hc hN (pi_keys (pe_dget hu (pe_var hi hv hd hcd) pe_str (fun _ _ => rfl))) ok hg (fun _ _ _ _ _ => pts_nil) he hs)) fun σ H Q' q => by
  obtain ⟨Z, m, ρ, μ, Q, Xd, S, ⟨hj, x, hx, q⟩, k, kx⟩ := q
  obtain ⟨n, ks, ds, rfl, e1, q⟩ := isDic_of q
  obtain ⟨y, hy, q⟩ := q
  obtain ⟨n2, ks2, ds2, rfl, e2, hl, q⟩ := isDic_of q
  obtain ⟨v, hv, r⟩ := S.val i _ hx
  obtain ⟨a, vs, rfl, ea, hh, hl2, rv⟩ := isDic_get S.mu e1 r
  obtain ⟨u, hu2, ru⟩ := getT_rep rv hy
  obtain ⟨a2, vs2, rfl, ea2, hh2, hl22, rv2⟩ := isDic_get S.mu e2 ru
  refine keys_lcG (td := tDGet (tVar i) (tC (.str key))) (fun od R hR => ?_) hh2 (by rw [← S.len]; exact hj) (Nat.lt_of_le_of_lt (by unfold skV; rw [List.length_map, List.length_zip]; omega) (show 1000 < sizeLine by decide)) fun D nD => k _ _ ?_
  · refine ⟨_, hv, a, .ref a2, rfl, ?_, hR⟩
    have hval : valV (skV ks vs) (.inr key) = some (.ref a2) := by rw [sk_val]; exact hu2
    by_cases c : a = a2
    · subst c
      rw [hh] at hh2
      refine .inl ⟨skV ks vs, .inr key, .inr ⟨od, ?_⟩, rfl, hval.symm⟩
      rw [upd_same]
      exact congrArg (fun z => some (HO.frz od z)) (Option.some.inj hh2).symm
    · refine .inl ⟨skV ks vs, .inr key, .inl ?_, rfl, hval.symm⟩
      rw [upd_ne c]
      exact hh
  rw [sk_keys hl22]
  have s := Step.laid (o := .lst (ks2.map V.str)) S.mu nD
  refine ⟨m, _, μ, s, ?_, q⟩
  rw [Rep]
  exact ⟨D, _, rfl, by rw [vis_upd S.mu nD, upd_same], reps_strs ks2⟩
end
end DL

set_option Elab.async false
set_option linter.all false
set_option maxRecDepth 100000
set_option maxHeartbeats 4000000
set_option autoImplicit false
/-! isinstance of a caught exception by two classes. -/
namespace DL
open PySem PySem.Spec PyProof.Rows L2
def wIsE2 (f : TyN → TyN → Option Bool) (i : Nat) (c1 c2 : Str) : WE := fun ρ μ Q _ => KExn (ρ[i]?) fun c _ _ => ∃ b1 b2, f (.c c) (.c c1) = some b1 ∧ f (.c c) (.c c2) = some b2 ∧ Q (.bl (b1 || b2)) μ
section
variable {X : Cx} {kt : Nat} {a : Addr} {oe : Obj} {cls : Value} {d : Option Addr} {pn : List (Addr × Obj)} {pos p1 p2 p3 p4 pt : Pos} {x c1 c2 : Str} {i : Nat}
theorem call_isX2 {f : TyN → TyN → Option Bool} (T : IsxTab X.K X.mg f) (hz : Zc cls d oe) (hf : ∃ vs, oe.data = .fields vs) : CallR (X.suite a ((a, oe) :: pn)) (.builtin "isinstance") (fun xs H Q => ∃ C U1 U2 dd fs c u1 u2 b1 b2 tp, xs = [.ref a, .ref tp] ∧ H tp = some (.tup [.ref U1, .ref U2]) ∧ cls = .ref C ∧ d = some dd ∧ H dd = some (.xd fs) ∧
    X.mg c = some (.ref C) ∧ X.mg u1 = some (.ref U1) ∧ X.mg u2 = some (.ref U2) ∧ f (.c c) (.c u1) = some b1 ∧ f (.c c) (.c u2) = some b2 ∧ Q (.bl (b1 || b2)) H) := by
  intro pins s σ H xs us Q I r h
  obtain ⟨C, U1, U2, dd, fs, c, u1, u2, b1, b2, tp, rfl, htp, rfl, rfl, hdd, hc, hu1, hu2, e1, e2, q⟩ := h
  obtain ⟨v1, v2, rfl, r1, r2⟩ := vals2 r
  cases (show v1 = Value.ref a from r1)
  cases (show v2 = Value.ref tp from r2)
  obtain ⟨hget, _⟩ := I.pin (a, oe) (List.mem_append.mpr (.inl List.mem_cons_self))
  obtain ⟨E, kit1⟩ := T.ok c u1 b1 e1 C U1 hc hu1
  obtain ⟨_, kit2⟩ := T.ok c u2 b2 e2 C U2 hc hu2
  obtain ⟨vs, hv⟩ := hf
  obtain ⟨mA, hns, hr⟩ := (show ObjOk X.prog X.w H s.heap dd (.xd fs) from I.hok dd _ hdd)
  obtain ⟨od, ho, hl⟩ := lookIn_ns hns
  have J : PySem.W.InstAt s.heap a oe C (some od) := ⟨hget, hz.1, by unfold PySem.W.notCls; rw [hv] <;> rfl, by rw [hz.2]; exact ho⟩
  have hcl : (PySem.W.clsIn X.K C).isSome = true := by
    obtain ⟨cd, hcd, _⟩ := PySem.W.any_some E.hd
    rw [hcd]; rfl
  have hT : SqT X.K H tp [.ref U1, .ref U2] := .inl (.inl htp)
  obtain ⟨its, o, n, rv, h1, h2, h3⟩ := sqT_at (K := X.K) I.hok I.kIn hT
  obtain ⟨oc, od2, dt, sl⟩ := o
  simp only at h2 h3
  subst h2 h3
  obtain ⟨w1, w2, rfl, s1, s2⟩ := vals2 rv
  cases (show w1 = Value.ref U1 from s1)
  cases (show w2 = Value.ref U2 from s2)
  have kit : PySem.W.kitAny X.K (.ref C) [.ref U1, .ref U2] = some (b1 || b2) := by
    unfold PySem.W.kitAny
    rw [kit1]
    cases b1
    · unfold PySem.W.kitAny
      simp only
      rw [kit2]
      cases b2 <;> rfl
    · rfl
  exact PySem.W.kia_tup (PySem.W.kitx_exc hcl E.hg E.hk E.hs E.ha E.hn E.ht E.hm) I.kIn J h1 kit (fun z => nomatch z) fun tk => ⟨.bl (b1 || b2), H, I.kept (t' := tk) fun _ _ z => z, rfl, q⟩
theorem de_isX2 {f : TyN → TyN → Option Bool} {C1 C2 : Addr} (T : IsxTab X.K X.mg f) (hz : Zc cls d oe) (hf : ∃ vs, oe.data = .fields vs) (hg : Gl X "isinstance") (hm : X.mg "isinstance" = none) (hN : X.N[i]? = some x) (hg1 : Gl X c1) (hm1 : X.mg c1 = some (.ref C1)) (hg2 : Gl X c2) (hm2 : X.mg c2 = some (.ref C2))
    (hv : Vis X.env.scope x := by first | exact Or.inl rfl | exact Or.inr (Or.inl rfl) | exact Or.inr (Or.inr rfl)) (hd : (x == ("__debug__" : Str)) = false := by decide) (hcd : (x == ("__classdict__" : Str)) = false := by decide) (hd1 : (c1 == ("__debug__" : Str)) = false := by decide) (hd2 : (c2 == ("__debug__" : Str)) = false := by decide) :
    DE (exOf a cls d) WF (X.suite a ((a, oe) :: pn)) (.Call (.Name "isinstance" p1) [.Name x p2, .Tuple [.Name c1 p3, .Name c2 p4] kt pt] [] pos) (wIsE2 f i c1 c2) := by
  have A2 : PA (X.suite a ((a, oe) :: pn)) [.Name c1 p3, .Name c2 p4] (tCons (tC (.ref C1)) (tCons (tC (.ref C2)) tNil)) := pa_cons (pe_glob (X := X.suite a ((a, oe) :: pn)) hg1 hm1 (v := .ref C1) rfl hd1) (pa_cons (pe_glob (X := X.suite a ((a, oe) :: pn)) hg2 hm2 (v := .ref C2) rfl hd2) pa_nil)
  have A1 := pa_cons (pe_var (X := X.suite a ((a, oe) :: pn)) (i := i) (pos := p2) hN hv hd hcd) (pa_cons (pe_tup (x1 := kt) (pos := pt) A2) pa_nil)
  refine pe_weak (pe_callB (X := X.suite a ((a, oe) :: pn)) (call_isX2 T hz hf) hg hm bt_isinstance A1) fun σ H Q' q => ?_
  obtain ⟨Z, m, ρ, μ, Q, Xd, S, q, k, kx⟩ := q
  obtain ⟨c, ks, ds, e, q⟩ := KExn_of q
  obtain ⟨b1, b2, e1, e2, q⟩ := q
  obtain ⟨a', C, dd, vs, h1, h2, h3, h4, h5, h6⟩ := S.exn i c ks ds e
  obtain ⟨rfl, rfl, rfl⟩ := exOf_some h1
  refine ⟨_, h3, (by decide : 2 ≤ sizeLine), fun p np => ?_⟩
  have s := Step.laid (o := .tup [.ref C1, .ref C2]) S.mu np
  have nd : dd ≠ p := fun z => by
    have := vis_le _ _ h4
    rw [z, np] at this
    cases this
  exact ⟨C, C1, C2, dd, _, c, c1, c2, b1, b2, p, rfl, upd_same, rfl, rfl, by rw [upd_ne nd]; exact vis_le _ _ h4, h2, hm1, hm2, e1, e2, k _ _ ⟨m, _, μ, s, by rw [Rep], q⟩⟩
end
end DL

set_option Elab.async false
set_option linter.all false
set_option maxRecDepth 100000
set_option maxHeartbeats 4000000
set_option autoImplicit false
/-! x = list(e) as an own list. -/
namespace DL
open PySem PySem.Spec PyProof.Rows L2
def sSetLst (i : Nat) (wa : WE) : WS := fun E ρ μ => wa ρ μ (fun x μ1 => ∃ ds, itemsD x μ1 = some ds ∧ i < ρ.length ∧ ∀ p, E.nx (ρ.set i (.own p (.lst ds))) μ1) fun c ks es μ' => E.xc c ks es ρ μ'
def KSLst (i : Nat) (E : DEnds) (ρ : DS) : D → Mu → Prop := fun x μ1 => ∃ ds, itemsD x μ1 = some ds ∧ i < ρ.length ∧ ∀ p, E.nx (ρ.set i (.own p (.lst ds))) μ1
section
variable {W : WX} {X : Cx} {e : Expr} {wa : WE} {pos : Pos}
theorem ds_setLst {i : Nat} {x : Str} {pos' lp np : Pos} (hN : X.N.Nodup) (hi : X.N[i]? = some x) (hg : Gl X "list") (hm : X.mg "list" = none) (ha : DE none W X e wa) (hx : Loc X.env.scope x := by first | exact Or.inl rfl | exact Or.inr rfl)
    (hv : bootBuiltins "list" = some (.type "list") := by exact bt_list) (he : starEach [e] X.env = (false, eval e X.env) :: starEach [] X.env := by rfl) (hpl : (backTo lp (starEach [] X.env)).any (·.1) = false := by rfl)
    (hs : swapsWith (.Call (.Name "list" np) [e] [] lp) (some (.Name x pos')) pos.line X.env = pure false := by rfl) (hf : X.fn x = true ∨ X.env.scope.names.lookup x = some .local := by first | exact .inl rfl | exact .inr rfl | assumption) :
    DSt none W X (.Assign [.Name x pos'] (.Call (.Name "list" np) [e] [] lp) pos) (sSetLst i wa) := ps_weak (ps_set (i := i) hN hi hx (pe_callTy call_list_of hg hm hv (pa_cons ha pa_nil he) (by decide) (by decide) he hpl) hs hf) fun D σ H q => by
  obtain ⟨Z, m, ρ, μ, E, S, q, kn, kr, kb, kc, kx⟩ := q
  refine ⟨Z, m, ρ, μ, _, _, S, q, fun v H1 P => ?_, fun cls d H' P => kx cls d σ H' (XSPost.of S P)⟩
  obtain ⟨m1, d, μ1, s1, r1, ds, e1, hil, q1⟩ := P
  obtain ⟨a, vs, rfl, sq, rv⟩ := items_rep s1.mu r1 e1
  have S2 := S.step s1
  refine ⟨a, vs, rfl, sq, fun t nt => kn _ _ ?_⟩
  obtain ⟨S3, s3⟩ := S2.born (o := .lst vs) (c := .lst ds) nt hil ⟨_, upd_same, rv⟩
  exact ⟨m1, _, μ1, S3, (SStep.of s1).trans s3, q1 t⟩
end
theorem t_slst {i : Nat} {wa : WE} {E : DEnds} {ρ : DS} {μ : Mu} : sSetLst i wa E ρ μ = wa ρ μ (KSLst i E ρ) (KX E ρ) := propext Iff.rfl
/-! a text in a tuple of texts -/
def fInTp (neg : Bool) : F2 := fun x y μ Q => ∃ (t : Str) (ss : List Str), x = .str t ∧ y = .tup (ss.map D.str) ∧ Q (.bl (neg != decide (t ∈ ss))) μ
theorem reps_strs_eq {G : Gx} {m : List Addr} {E : Hp} : ∀ {ss : List Str} {vs : List V}, Reps G m E (ss.map D.str) vs → vs = ss.map V.str
  | [], vs, r => by rw [List.map_nil, Reps] at r; exact r
  | t :: ss, vs, r => by
    obtain ⟨v, w, rfl, r1, r2⟩ := r.uncons
    rw [Rep] at r1
    rw [r1, reps_strs_eq r2]
    rfl
theorem inV_strs {t : Str} {ss : List Str} : inV (.str t) (ss.map V.str) = decide (t ∈ ss) := by
  induction ss with
  | nil => rfl
  | cons a ss ih =>
    unfold inV at ih ⊢
    rw [List.map_cons, List.any_cons, ih]
    show (eqV (V.str a) (V.str t) || _) = _
    by_cases c : a = t
    · subst c
      simp [eqV]
    · have c' : ¬ t = a := fun z => c z.symm
      simp [eqV, c, c']
theorem s2_inTp {G : Gx} {neg : Bool} : S2 G (rIn G.K neg) (fInTp neg) := by
  intro Z m μ H x y u v Q Q' M rx ry h k
  obtain ⟨t, ss, rfl, rfl, q⟩ := h
  obtain ⟨a, vs, rfl, sq, rv⟩ := items_rep M ry (show itemsD (.tup (ss.map D.str)) μ = some (ss.map D.str) from rfl)
  rw [Rep] at rx
  subst rx
  rw [reps_strs_eq rv] at sq
  refine ⟨a, _, rfl, sq, rfl, by rw [List.all_map, List.all_eq_true]; exact fun _ _ => rfl, ?_⟩
  rw [inV_strs]
  refine k _ _ (VPost.now (d := .bl (neg != decide (t ∈ ss))) M ?_ q)
  rw [Rep]
  cases neg
  · rw [Bool.false_bne]
    rfl
  · rw [Bool.true_bne]
    rfl
theorem inTp_go {neg : Bool} {t : Str} {μ : Mu} {Q : D → Mu → Prop} (ss : List Str) {ds : List D} (e : ds = ss.map D.str) (h : Q (.bl (neg != decide (t ∈ ss))) μ) : fInTp neg (.str t) (.tup ds) μ Q := ⟨t, ss, rfl, by rw [e], h⟩
end DL

set_option Elab.async false
set_option linter.all false
set_option maxRecDepth 100000
set_option maxHeartbeats 4000000
set_option autoImplicit false
/-! Frames: dicts of texts, Base.__init__(self). -/
namespace DL
open PySem PySem.Spec PyProof.Rows L2
section
variable {ρ : DS} {μ : Mu} {Q : D → Mu → Prop} {Xd : XD} {E : DEnds} {wo wi wv : WE} {i j n : Nat} {c : Str} {sp : ISp} {x d : D} {k : Str}
theorem t_dic : wDicC ρ μ Q Xd = Q (.loc μ.length) (μ ++ [.dic [] []]) := rfl
def KPutT1 (wo wi : WE) (E : DEnds) (ρ : DS) : D → Mu → Prop := fun d μ1 => wo ρ μ1 (KPutT2 wi E ρ d) (KX E ρ)
theorem t_put : sPutT wo wi wv E ρ μ = wv ρ μ (KPutT1 wo wi E ρ) (KX E ρ) := propext Iff.rfl
theorem t_put1 : KPutT1 wo wi E ρ d μ = wo ρ μ (KPutT2 wi E ρ d) (KX E ρ) := rfl
theorem t_put2 : KPutT2 wi E ρ d x μ = wi ρ μ (KPutT3 E ρ d x) (KX E ρ) := propext Iff.rfl
theorem t_put3 : KPutT3 E ρ d x (.str k) μ = putN x k d μ (E.nx ρ) := propext ⟨fun ⟨k', e, h⟩ => by cases e; exact h, fun h => ⟨k, rfl, h⟩⟩
theorem putN_go {ks : List Str} {ds : List D} {K : Mu → Prop} (e : μ[n]? = some (.dic ks ds)) (hl : ks.length < 1000) (h : K (μ.set n (.dic (putTk k ks) (putTd k d ks ds)))) : putN (.loc n) k d μ K := by
  unfold putN
  simp only [e]
  exact ⟨hl, h⟩
theorem isDic_go {ks : List Str} {ds : List D} {K : List Str → List D → Prop} (e : μ[n]? = some (.dic ks ds)) (h : K ks ds) : isDic (.loc n) μ K := by
  unfold isDic
  simp only [e]
  exact h
theorem getT_go {ks : List Str} {ds : List D} (e : μ[n]? = some (.dic ks ds)) (hg : getTd k ks ds = some d) (h : Q d μ) : fGetT (.loc n) (.str k) μ Q := isDic_go e ⟨k, d, rfl, hg, h⟩
theorem inT_go {ks : List Str} {ds : List D} {neg : Bool} (e : μ[n]? = some (.dic ks ds)) (h : Q (.bl (neg != decide (k ∈ ks))) μ) : fInT neg (.str k) (.loc n) μ Q := isDic_go e ⟨k, rfl, h⟩
theorem lstT_go {ks : List Str} {ds : List D} (e : μ[n]? = some (.dic ks ds)) (h : Q (.lst (ks.map D.str)) μ) : fLstT [.loc n] μ Q := isDic_go e h
theorem t_base : sBaseI c i sp E ρ μ = baseI c i sp E ρ μ := rfl
theorem base_go {a : Addr} (hi : ρ[i]? = some (.own a (.ins c [] []))) (h : sp [] μ (fun ks ds μ' => E.nx (ρ.set i (.own a (.ins c ks ds))) μ') xF) : baseI c i sp E ρ μ := by
  unfold baseI
  rw [hi]
  exact ⟨rfl, h⟩
end
end DL

set_option Elab.async false
set_option linter.all false
set_option maxRecDepth 100000
set_option maxHeartbeats 4000000
set_option autoImplicit false
/-! Frames of DX54 and DX55. -/
namespace DL
open PySem PySem.Spec PyProof.Rows L2
section
variable {ρ : DS} {μ : Mu} {Q : D → Mu → Prop} {Qs : DS → Mu → Prop} {Xd : XD} {wo wi : WE} {wa : WA} {i j n : Nat} {x d : D} {k : Str} {ks : List Str} {ds : List D}
def KDicL (ks : List Str) (n : Nat) (Q : D → Mu → Prop) : List D → Mu → Prop := fun ds μ1 => ks.Nodup ∧ ks.length ≤ 15 ∧ μ1[n]? = some (.dic [] []) ∧ Q (.loc n) (μ1.set n (.dic ks ds))
theorem t_dicL : wDicL ks wa ρ μ Q Xd = wa ρ (μ ++ [.dic [] []]) (KDicL ks μ.length Q) Xd := propext Iff.rfl
theorem dicL_go (nd : ks.Nodup) (h15 : ks.length ≤ 15) (e : μ[n]? = some (.dic [] [])) (h : Q (.loc n) (μ.set n (.dic ks ds))) : KDicL ks n Q ds μ := ⟨nd, h15, e, h⟩
def KkPT2 (x d : D) (ρ : DS) (Q : DS → Mu → Prop) : D → Mu → Prop := fun y μ2 => ∃ k, y = .str k ∧ putN x k d μ2 fun μ3 => Q ρ μ3
def KkPT1 (wi : WE) (d : D) (ρ : DS) (Q : DS → Mu → Prop) : D → Mu → Prop := fun x μ1 => wi ρ μ1 (KkPT2 x d ρ Q) xF
theorem t_kpt : kPutT wo wi d ρ μ Qs = wo ρ μ (KkPT1 wi d ρ Qs) xF := propext Iff.rfl
theorem t_kpt1 : KkPT1 wi d ρ Qs x μ = wi ρ μ (KkPT2 x d ρ Qs) xF := rfl
theorem t_kpt2 : KkPT2 x d ρ Qs (.str k) μ = putN x k d μ fun μ3 => Qs ρ μ3 := propext ⟨fun ⟨k', e, h⟩ => by cases e; exact h, fun h => ⟨k, rfl, h⟩⟩
theorem inU_str {neg : Bool} (e : μ[n]? = some (.dic ks ds)) (h : Q (.bl (neg != decide (k ∈ ks))) μ) : fInU neg (.str k) (.loc n) μ Q := isDic_go e h
theorem inU_non {neg : Bool} (e : μ[n]? = some (.dic ks ds)) (h : Q (.bl (neg != false)) μ) : fInU neg .non (.loc n) μ Q := isDic_go e h
theorem keysG_go {m : Nat} {k2 : List Str} {d2 : List D} (hj : j < ρ.length) (hi : ρ[i]? = some (.v (.loc n))) (e : μ[n]? = some (.dic ks ds)) (hg : getTd k ks ds = some (.loc m)) (e2 : μ[m]? = some (.dic k2 d2)) (hl : k2.length ≤ 1000) (h : Q (.lst (k2.map D.str)) μ) : wKeysG i j k ρ μ Q Xd :=
  ⟨hj, _, hi, isDic_go e ⟨_, hg, isDic_go e2 ⟨hl, h⟩⟩⟩
theorem isx2_go {f : TyN → TyN → Option Bool} {c c1 c2 : Str} {fs : List Str} {b1 b2 : Bool} (hi : ρ[i]? = some (.exn c fs ds)) (h1 : f (.c c) (.c c1) = some b1) (h2 : f (.c c) (.c c2) = some b2) (h : Q (.bl (b1 || b2)) μ) : wIsE2 f i c1 c2 ρ μ Q Xd := by
  unfold wIsE2
  rw [hi]
  exact ⟨b1, b2, h1, h2, h⟩
end
end DL

set_option Elab.async false
set_option linter.all false
set_option maxRecDepth 100000
set_option maxHeartbeats 4000000
set_option autoImplicit false
namespace SA
/-! two triangles that a line parts are parted by an edge of one of them -/
abbrev P := Int × Int
theorem nonneg_of {a b : Int} (hb : 0 < b) (h : 0 ≤ a * b) : 0 ≤ a := by
  apply Int.not_lt.mp
  intro ha
  have := Int.mul_neg_of_neg_of_pos ha hb
  omega
theorem mem {U1 U2 V1 V2 x y z D1 D2 : Int} (hU1 : 0 ≤ U1) (hU2 : 0 ≤ U2) (hV1 : 0 ≤ V1) (hV2 : 0 ≤ V2) (d1 : 0 < D1) (d2 : 0 < D2) (hx : 0 ≤ x) (i1 : y * U1 = U2 * x + D2 * V1) (i2 : D1 * U2 = V2 * y + V1 * z) (hU : U1 = 0 → 0 < U2) : 0 ≤ y := by
  by_cases c : U1 = 0
  · have u2 := hU c
    rw [c, Int.mul_zero] at i1
    have s1 := Int.mul_nonneg hU2 hx
    have s2 := Int.mul_nonneg (Int.le_of_lt d2) hV1
    have v0 : D2 * V1 = 0 := by omega
    have v1 : V1 = 0 := by
      rcases Int.mul_eq_zero.mp v0 with e | e
      · omega
      · exact e
    rw [v1, Int.zero_mul, Int.add_zero] at i2
    have p := Int.mul_pos d1 u2
    apply Int.not_lt.mp
    intro hy
    have := Int.mul_nonpos_of_nonneg_of_nonpos hV2 (Int.le_of_lt hy)
    omega
  · have s1 := Int.mul_nonneg hU2 hx
    have s2 := Int.mul_nonneg (Int.le_of_lt d2) hV1
    exact nonneg_of (show 0 < U1 by omega) (by omega)
end SA

set_option Elab.async false
set_option linter.all false
set_option maxRecDepth 100000
set_option maxHeartbeats 4000000
set_option autoImplicit false
namespace K85
open PySem PySem.Spec PyProof.Rows L2 DL
structure Hd (K : PySem.W.Frag) (mg : Str → Option Value) : Prop where
  c : He5.SaysA fa fn K
  more : exB K = true
  ex : ∃ h : Heap, K.In h ∧ h.Ns mainGlobals mg
section
variable {K : PySem.W.Frag} {mg : Str → Option Value}
theorem Hd.g_is_integer (A : Hd K mg) : mg "is_integer" = some (.ref (He.ga K "is_integer")) := by
  obtain ⟨h, X, G⟩ := A.ex
  exact He.glo_ok X G (A.c.fact 0)
theorem Hd.g_numbers_of (A : Hd K mg) : mg "numbers_of" = some (.ref (He.ga K "numbers_of")) := by
  obtain ⟨h, X, G⟩ := A.ex
  exact He.glo_ok X G (A.c.fact 1)
theorem Hd.g_check_points (A : Hd K mg) : mg "check_points" = some (.ref (He.ga K "check_points")) := by
  obtain ⟨h, X, G⟩ := A.ex
  exact He.glo_ok X G (A.c.fact 2)
theorem Hd.g_is_between (A : Hd K mg) : mg "is_between" = some (.ref (He.ga K "is_between")) := by
  obtain ⟨h, X, G⟩ := A.ex
  exact He.glo_ok X G (A.c.fact 3)
theorem Hd.g_is_triple (A : Hd K mg) : mg "is_triple" = some (.ref (He.ga K "is_triple")) := by
  obtain ⟨h, X, G⟩ := A.ex
  exact He.glo_ok X G (A.c.fact 4)
theorem Hd.g_check_triples (A : Hd K mg) : mg "check_triples" = some (.ref (He.ga K "check_triples")) := by
  obtain ⟨h, X, G⟩ := A.ex
  exact He.glo_ok X G (A.c.fact 5)
theorem Hd.g_check_between (A : Hd K mg) : mg "check_between" = some (.ref (He.ga K "check_between")) := by
  obtain ⟨h, X, G⟩ := A.ex
  exact He.glo_ok X G (A.c.fact 6)
theorem Hd.g_pair_of (A : Hd K mg) : mg "pair_of" = some (.ref (He.ga K "pair_of")) := by
  obtain ⟨h, X, G⟩ := A.ex
  exact He.glo_ok X G (A.c.fact 7)
theorem Hd.g__law_draw (A : Hd K mg) : mg "_law_draw" = some (.ref (He.ga K "_law_draw")) := by
  obtain ⟨h, X, G⟩ := A.ex
  exact He.glo_ok X G (A.c.fact 8)
theorem Hd.g__law_pair (A : Hd K mg) : mg "_law_pair" = some (.ref (He.ga K "_law_pair")) := by
  obtain ⟨h, X, G⟩ := A.ex
  exact He.glo_ok X G (A.c.fact 9)
theorem Hd.g__law_call (A : Hd K mg) : mg "_law_call" = some (.ref (He.ga K "_law_call")) := by
  obtain ⟨h, X, G⟩ := A.ex
  exact He.glo_ok X G (A.c.fact 10)
theorem Hd.g_is_name (A : Hd K mg) : mg "is_name" = some (.ref (He.ga K "is_name")) := by
  obtain ⟨h, X, G⟩ := A.ex
  exact He.glo_ok X G (A.c.fact 11)
theorem Hd.g_point_of (A : Hd K mg) : mg "point_of" = some (.ref (He.ga K "point_of")) := by
  obtain ⟨h, X, G⟩ := A.ex
  exact He.glo_ok X G (A.c.fact 12)
theorem Hd.g__law_error (A : Hd K mg) : mg "_law_error" = some (.ref (He.ga K "_law_error")) := by
  obtain ⟨h, X, G⟩ := A.ex
  exact He.glo_ok X G (A.c.fact 13)
theorem Hd.g__law_do (A : Hd K mg) : mg "_law_do" = some (.ref (He.ga K "_law_do")) := by
  obtain ⟨h, X, G⟩ := A.ex
  exact He.glo_ok X G (A.c.fact 14)
theorem Hd.g__law_is_number (A : Hd K mg) : mg "_law_is_number" = some (.ref (He.ga K "_law_is_number")) := by
  obtain ⟨h, X, G⟩ := A.ex
  exact He.glo_ok X G (A.c.fact 15)
theorem Hd.g__law_now (A : Hd K mg) : mg "_law_now" = some (.ref (He.ga K "_law_now")) := by
  obtain ⟨h, X, G⟩ := A.ex
  exact He.glo_ok X G (A.c.fact 16)
theorem Hd.g__law_moved (A : Hd K mg) : mg "_law_moved" = some (.ref (He.ga K "_law_moved")) := by
  obtain ⟨h, X, G⟩ := A.ex
  exact He.glo_ok X G (A.c.fact 17)
theorem Hd.g__law_due (A : Hd K mg) : mg "_law_due" = some (.ref (He.ga K "_law_due")) := by
  obtain ⟨h, X, G⟩ := A.ex
  exact He.glo_ok X G (A.c.fact 18)
theorem Hd.g__law_hand (A : Hd K mg) : mg "_law_hand" = some (.ref (He.ga K "_law_hand")) := by
  obtain ⟨h, X, G⟩ := A.ex
  exact He.glo_ok X G (A.c.fact 19)
theorem Hd.g__law_net_here (A : Hd K mg) : mg "_law_net_here" = some (.ref (He.ga K "_law_net_here")) := by
  obtain ⟨h, X, G⟩ := A.ex
  exact He.glo_ok X G (A.c.fact 20)
theorem Hd.g__law_points (A : Hd K mg) : mg "_law_points" = some (.ref (He.ga K "_law_points")) := by
  obtain ⟨h, X, G⟩ := A.ex
  exact He.glo_ok X G (A.c.fact 21)
theorem Hd.g__law_right (A : Hd K mg) : mg "_law_right" = some (.ref (He.ga K "_law_right")) := by
  obtain ⟨h, X, G⟩ := A.ex
  exact He.glo_ok X G (A.c.fact 22)
theorem Hd.g_law (A : Hd K mg) : mg "law" = some (.ref (He.ga K "law")) := by
  obtain ⟨h, X, G⟩ := A.ex
  exact He.glo_ok X G (A.c.fact 23)
theorem Hd.g_History (A : Hd K mg) : mg "History" = some (.ref (He.ga K "History")) := by
  obtain ⟨h, X, G⟩ := A.ex
  exact He.glo_ok X G (A.c.fact 25)
theorem Hd.g_InvalidName (A : Hd K mg) : mg "InvalidName" = some (.ref (He.ga K "InvalidName")) := by
  obtain ⟨h, X, G⟩ := A.ex
  exact He.glo_ok X G (A.c.fact 26)
theorem Hd.g_InvalidNumber (A : Hd K mg) : mg "InvalidNumber" = some (.ref (He.ga K "InvalidNumber")) := by
  obtain ⟨h, X, G⟩ := A.ex
  exact He.glo_ok X G (A.c.fact 27)
theorem Hd.g_InvalidPoint (A : Hd K mg) : mg "InvalidPoint" = some (.ref (He.ga K "InvalidPoint")) := by
  obtain ⟨h, X, G⟩ := A.ex
  exact He.glo_ok X G (A.c.fact 28)
theorem Hd.g_Net (A : Hd K mg) : mg "Net" = some (.ref (He.ga K "Net")) := by
  obtain ⟨h, X, G⟩ := A.ex
  exact He.glo_ok X G (A.c.fact 29)
theorem Hd.g_NothingLeft (A : Hd K mg) : mg "NothingLeft" = some (.ref (He.ga K "NothingLeft")) := by
  obtain ⟨h, X, G⟩ := A.ex
  exact He.glo_ok X G (A.c.fact 30)
theorem Hd.g_Point (A : Hd K mg) : mg "Point" = some (.ref (He.ga K "Point")) := by
  obtain ⟨h, X, G⟩ := A.ex
  exact He.glo_ok X G (A.c.fact 31)
theorem Hd.g_UnknownName (A : Hd K mg) : mg "UnknownName" = some (.ref (He.ga K "UnknownName")) := by
  obtain ⟨h, X, G⟩ := A.ex
  exact He.glo_ok X G (A.c.fact 32)
theorem Hd.f_all (A : Hd K mg) : mg "all" = none := by
  obtain ⟨h, X, G⟩ := A.ex
  exact He.free_ok X G (A.c.fact 33)
theorem Hd.f_bool (A : Hd K mg) : mg "bool" = none := by
  obtain ⟨h, X, G⟩ := A.ex
  exact He.free_ok X G (A.c.fact 34)
theorem Hd.f_enumerate (A : Hd K mg) : mg "enumerate" = none := by
  obtain ⟨h, X, G⟩ := A.ex
  exact He.free_ok X G (A.c.fact 35)
theorem Hd.f_int (A : Hd K mg) : mg "int" = none := by
  obtain ⟨h, X, G⟩ := A.ex
  exact He.free_ok X G (A.c.fact 36)
theorem Hd.f_isinstance (A : Hd K mg) : mg "isinstance" = none := by
  obtain ⟨h, X, G⟩ := A.ex
  exact He.free_ok X G (A.c.fact 37)
theorem Hd.f_len (A : Hd K mg) : mg "len" = none := by
  obtain ⟨h, X, G⟩ := A.ex
  exact He.free_ok X G (A.c.fact 38)
theorem Hd.f_list (A : Hd K mg) : mg "list" = none := by
  obtain ⟨h, X, G⟩ := A.ex
  exact He.free_ok X G (A.c.fact 39)
theorem Hd.f_max (A : Hd K mg) : mg "max" = none := by
  obtain ⟨h, X, G⟩ := A.ex
  exact He.free_ok X G (A.c.fact 40)
theorem Hd.f_min (A : Hd K mg) : mg "min" = none := by
  obtain ⟨h, X, G⟩ := A.ex
  exact He.free_ok X G (A.c.fact 41)
theorem Hd.f_range (A : Hd K mg) : mg "range" = none := by
  obtain ⟨h, X, G⟩ := A.ex
  exact He.free_ok X G (A.c.fact 42)
theorem Hd.f_repr (A : Hd K mg) : mg "repr" = none := by
  obtain ⟨h, X, G⟩ := A.ex
  exact He.free_ok X G (A.c.fact 43)
theorem Hd.f_str (A : Hd K mg) : mg "str" = none := by
  obtain ⟨h, X, G⟩ := A.ex
  exact He.free_ok X G (A.c.fact 44)
theorem Hd.f_tuple (A : Hd K mg) : mg "tuple" = none := by
  obtain ⟨h, X, G⟩ := A.ex
  exact He.free_ok X G (A.c.fact 45)
theorem Hd.c_MOST_POINTS (A : Hd K mg) : ∃ t, mg "MOST_POINTS" = some (.int (100) t) := by
  obtain ⟨h, X, G⟩ := A.ex
  exact He.int_ok X G (A.c.fact 46)
theorem Hd.c_SMALL (A : Hd K mg) : ∃ t, mg "SMALL" = some (.str "abcdefghijklmnopqrstuvwxyz" t) := by
  obtain ⟨h, X, G⟩ := A.ex
  exact He.str_ok X G (A.c.fact 47)
theorem Hd.fl_History_begin (A : Hd K mg) : FldD K mg "History" "begin" := ⟨_, A.g_History, He.cls_ok (A.c.fact 48), He.noat_ok (A.c.fact 49)⟩
theorem Hd.fl_History_kept_moves (A : Hd K mg) : FldD K mg "History" "kept_moves" := ⟨_, A.g_History, He.cls_ok (A.c.fact 48), He.noat_ok (A.c.fact 50)⟩
theorem Hd.fl_History_later (A : Hd K mg) : FldD K mg "History" "later" := ⟨_, A.g_History, He.cls_ok (A.c.fact 48), He.noat_ok (A.c.fact 51)⟩
theorem Hd.fl_History_made (A : Hd K mg) : FldD K mg "History" "made" := ⟨_, A.g_History, He.cls_ok (A.c.fact 48), He.noat_ok (A.c.fact 52)⟩
theorem Hd.fl_History_now (A : Hd K mg) : FldD K mg "History" "now" := ⟨_, A.g_History, He.cls_ok (A.c.fact 48), He.noat_ok (A.c.fact 53)⟩
theorem Hd.fl_Net_own_triples (A : Hd K mg) : FldD K mg "Net" "own_triples" := ⟨_, A.g_Net, He.cls_ok (A.c.fact 54), He.noat_ok (A.c.fact 55)⟩
theorem Hd.fl_Net_pairs (A : Hd K mg) : FldD K mg "Net" "pairs" := ⟨_, A.g_Net, He.cls_ok (A.c.fact 54), He.noat_ok (A.c.fact 56)⟩
theorem Hd.fl_Point_x (A : Hd K mg) : FldD K mg "Point" "x" := ⟨_, A.g_Point, He.cls_ok (A.c.fact 57), He.noat_ok (A.c.fact 58)⟩
theorem Hd.fl_Point_y (A : Hd K mg) : FldD K mg "Point" "y" := ⟨_, A.g_Point, He.cls_ok (A.c.fact 57), He.noat_ok (A.c.fact 59)⟩
theorem Hd.isi (A : Hd K mg) : IsiTab ⟨K, mg, none⟩ isiT := by
  obtain ⟨h, X, G⟩ := A.ex
  exact isiTab_of X G (He.ba A.more).1
variable {P : Program} {w : World} {base : Heap}
theorem scx_InvalidName : FnScope ["self", "name"] ["self", "name"] (defScope (inClass (top 7) 0)) := ⟨rfl, rfl, rfl, by decide +kernel, rfl, by decide +kernel, by decide +kernel⟩
theorem Hd.rx_InvalidName (A : Hd K mg) : RaiseD P w K mg base 1 "InvalidName" ["name"] := by
  obtain ⟨fd, F⟩ := A.c.def_ 49
  obtain ⟨h, X, G⟩ := A.ex
  obtain ⟨h1, h2, h3, h4⟩ := rxB_ok (He.ba (He.ba A.more).2).1
  exact raise1 (rx_glo X G (He.ba (He.ba A.more).2).1) h1 (h4 _ (by simp)) h2 h3 F scx_InvalidName (F.bindsN fun _ _ _ _ _ _ us hl => match us, hl with | [_, _], _ => rfl) fun _ _ _ _ _ _ => pss_one (ps_ost (pe_var (i := 0) rfl (Or.inl rfl)) (pe_var (i := 1) rfl (Or.inl rfl)))
theorem scx_InvalidNet : FnScope ["self", "part", "number"] ["self", "part", "number"] (defScope (inClass (top 5) 0)) := ⟨rfl, rfl, rfl, by decide +kernel, rfl, by decide +kernel, by decide +kernel⟩
theorem Hd.rx_InvalidNet (A : Hd K mg) : RaiseD P w K mg base 1 "InvalidNet" ["part", "number"] := by
  obtain ⟨fd, F⟩ := A.c.def_ 50
  obtain ⟨h, X, G⟩ := A.ex
  obtain ⟨h1, h2, h3, h4⟩ := rxB_ok (He.ba (He.ba (He.ba A.more).2).2).1
  exact raise2 (rx_glo X G (He.ba (He.ba (He.ba A.more).2).2).1) h1 (h4 _ (by simp)) (h4 _ (by simp)) h2 h3 F scx_InvalidNet (F.bindsN fun _ _ _ _ _ _ us hl => match us, hl with | [_, _, _], _ => rfl) fun _ _ _ _ _ _ => pss_cons (ps_ost (pe_var (i := 0) rfl (Or.inl rfl)) (pe_var (i := 1) rfl (Or.inl rfl))) (pss_one (ps_ost (pe_var (i := 0) rfl (Or.inl rfl)) (pe_var (i := 2) rfl (Or.inl rfl))))
theorem scx_InvalidNumber : FnScope ["self", "number"] ["self", "number"] (defScope (inClass (top 4) 0)) := ⟨rfl, rfl, rfl, by decide +kernel, rfl, by decide +kernel, by decide +kernel⟩
theorem Hd.rx_InvalidNumber (A : Hd K mg) : RaiseD P w K mg base 1 "InvalidNumber" ["number"] := by
  obtain ⟨fd, F⟩ := A.c.def_ 51
  obtain ⟨h, X, G⟩ := A.ex
  obtain ⟨h1, h2, h3, h4⟩ := rxB_ok (He.ba (He.ba (He.ba (He.ba A.more).2).2).2).1
  exact raise1 (rx_glo X G (He.ba (He.ba (He.ba (He.ba A.more).2).2).2).1) h1 (h4 _ (by simp)) h2 h3 F scx_InvalidNumber (F.bindsN fun _ _ _ _ _ _ us hl => match us, hl with | [_, _], _ => rfl) fun _ _ _ _ _ _ => pss_one (ps_ost (pe_var (i := 0) rfl (Or.inl rfl)) (pe_var (i := 1) rfl (Or.inl rfl)))
theorem scx_InvalidPoint : FnScope ["self", "thing"] ["self", "thing"] (defScope (inClass (top 3) 0)) := ⟨rfl, rfl, rfl, by decide +kernel, rfl, by decide +kernel, by decide +kernel⟩
theorem Hd.rx_InvalidPoint (A : Hd K mg) : RaiseD P w K mg base 1 "InvalidPoint" ["thing"] := by
  obtain ⟨fd, F⟩ := A.c.def_ 52
  obtain ⟨h, X, G⟩ := A.ex
  obtain ⟨h1, h2, h3, h4⟩ := rxB_ok (He.ba (He.ba (He.ba (He.ba (He.ba A.more).2).2).2).2).1
  exact raise1 (rx_glo X G (He.ba (He.ba (He.ba (He.ba (He.ba A.more).2).2).2).2).1) h1 (h4 _ (by simp)) h2 h3 F scx_InvalidPoint (F.bindsN fun _ _ _ _ _ _ us hl => match us, hl with | [_, _], _ => rfl) fun _ _ _ _ _ _ => pss_one (ps_ost (pe_var (i := 0) rfl (Or.inl rfl)) (pe_var (i := 1) rfl (Or.inl rfl)))
theorem scx_NothingLeft : FnScope ["self", "many"] ["self", "many"] (defScope (inClass (top 6) 0)) := ⟨rfl, rfl, rfl, by decide +kernel, rfl, by decide +kernel, by decide +kernel⟩
theorem Hd.rx_NothingLeft (A : Hd K mg) : RaiseD P w K mg base 1 "NothingLeft" ["many"] := by
  obtain ⟨fd, F⟩ := A.c.def_ 53
  obtain ⟨h, X, G⟩ := A.ex
  obtain ⟨h1, h2, h3, h4⟩ := rxB_ok (He.ba (He.ba (He.ba (He.ba (He.ba (He.ba A.more).2).2).2).2).2).1
  exact raise1 (rx_glo X G (He.ba (He.ba (He.ba (He.ba (He.ba (He.ba A.more).2).2).2).2).2).1) h1 (h4 _ (by simp)) h2 h3 F scx_NothingLeft (F.bindsN fun _ _ _ _ _ _ us hl => match us, hl with | [_, _], _ => rfl) fun _ _ _ _ _ _ => pss_one (ps_ost (pe_var (i := 0) rfl (Or.inl rfl)) (pe_var (i := 1) rfl (Or.inl rfl)))
theorem scx_UnknownName : FnScope ["self", "name"] ["self", "name"] (defScope (inClass (top 8) 0)) := ⟨rfl, rfl, rfl, by decide +kernel, rfl, by decide +kernel, by decide +kernel⟩
theorem Hd.rx_UnknownName (A : Hd K mg) : RaiseD P w K mg base 1 "UnknownName" ["name"] := by
  obtain ⟨fd, F⟩ := A.c.def_ 54
  obtain ⟨h, X, G⟩ := A.ex
  obtain ⟨h1, h2, h3, h4⟩ := rxB_ok (He.ba (He.ba (He.ba (He.ba (He.ba (He.ba (He.ba A.more).2).2).2).2).2).2).1
  exact raise1 (rx_glo X G (He.ba (He.ba (He.ba (He.ba (He.ba (He.ba (He.ba A.more).2).2).2).2).2).2).1) h1 (h4 _ (by simp)) h2 h3 F scx_UnknownName (F.bindsN fun _ _ _ _ _ _ us hl => match us, hl with | [_, _], _ => rfl) fun _ _ _ _ _ _ => pss_one (ps_ost (pe_var (i := 0) rfl (Or.inl rfl)) (pe_var (i := 1) rfl (Or.inl rfl)))
theorem Hd.cat_FillError (A : Hd K mg) : CatchD K mg (.ref (He.ga K "FillError")) (catF catL_FillError) ∧ mg "FillError" = some (.ref (He.ga K "FillError")) := by
  obtain ⟨h, X, G⟩ := A.ex
  exact catchD_of X G (He.ba (He.ba (He.ba (He.ba (He.ba (He.ba (He.ba (He.ba A.more).2).2).2).2).2).2).2).1
theorem Hd.xf_many (A : Hd K mg) : XfD K mg xfC_many "many" := by
  obtain ⟨h, X, G⟩ := A.ex
  exact xfD_of X G (He.ba (He.ba (He.ba (He.ba (He.ba (He.ba (He.ba (He.ba (He.ba A.more).2).2).2).2).2).2).2).2).1
theorem Hd.xf_name (A : Hd K mg) : XfD K mg xfC_name "name" := by
  obtain ⟨h, X, G⟩ := A.ex
  exact xfD_of X G (He.ba (He.ba (He.ba (He.ba (He.ba (He.ba (He.ba (He.ba (He.ba (He.ba A.more).2).2).2).2).2).2).2).2).2).1
theorem Hd.xf_number (A : Hd K mg) : XfD K mg xfC_number "number" := by
  obtain ⟨h, X, G⟩ := A.ex
  exact xfD_of X G (He.ba (He.ba (He.ba (He.ba (He.ba (He.ba (He.ba (He.ba (He.ba (He.ba (He.ba A.more).2).2).2).2).2).2).2).2).2).2).1
theorem Hd.xf_thing (A : Hd K mg) : XfD K mg xfC_thing "thing" := by
  obtain ⟨h, X, G⟩ := A.ex
  exact xfD_of X G (He.ba (He.ba (He.ba (He.ba (He.ba (He.ba (He.ba (He.ba (He.ba (He.ba (He.ba (He.ba A.more).2).2).2).2).2).2).2).2).2).2).2).1
theorem Hd.isx (A : Hd K mg) : IsxTab K mg (isxF isxL) := by
  obtain ⟨h, X, G⟩ := A.ex
  exact isxTab_of X G (He.ba (He.ba (He.ba (He.ba (He.ba (He.ba (He.ba (He.ba (He.ba (He.ba (He.ba (He.ba (He.ba A.more).2).2).2).2).2).2).2).2).2).2).2).2).1
/-! Kept_init_History -/
abbrev N_Kept_init_History : List Str := ["self"]
theorem sc_Kept_init_History : FnScope N_Kept_init_History ["self"] (defScope (inClass (top 21) 0)) := ⟨rfl, rfl, rfl, by decide +kernel, rfl, by decide +kernel, by decide +kernel⟩
def w_Kept_init_History : WS := (sFldO "History" 0 "kept_moves" wDicC)
def sp_Kept_init_History : ISp := fun ds μ Q Xd => ds.length = 0 ∧ ∀ a, w_Kept_init_History (defI "History" a Q Xd) (startI N_Kept_init_History "History" a ds) μ
theorem d_Kept_init_History (A : Hd K mg) {cdv : Value} {A2 : Around} {fr : List Env} {s : Shared} {H : Hp} {E : XK} {f : Addr} (hr : Room 0 (A2.deeper (envOfC "Kept.__init__" (defScope (inClass (top 21) 0)) s.heap.objs.size f cdv))) (hgd : (A2.deeper (envOfC "Kept.__init__" (defScope (inClass (top 21) 0)) s.heap.objs.size f cdv)).guards = some []) :
    DSs none (fun cls d _ H2 => E cls d H2) (cxOf (L2.CX P w) P w K mg base N_Kept_init_History "Kept.__init__" (defScope (inClass (top 21) 0)) f cdv A2 fr s H E) (defBody (inClass (top 21) 0)) w_Kept_init_History := by
  have hN := (sc_Kept_init_History).nd
  exact (dss_one (ds_fldOD A.fl_History_kept_moves rfl de_dicC))
theorem Hd.bi_Kept_init_History (A : Hd K mg) : BIniD P w K mg base 1 "Kept" "History" ["self"] sp_Kept_init_History := by
  obtain ⟨fd, F⟩ := A.c.def_ 0
  obtain ⟨h, X, G⟩ := A.ex
  exact biniD_of X G (He.ba (He.ba (He.ba (He.ba (He.ba (He.ba (He.ba (He.ba (He.ba (He.ba (He.ba (He.ba (He.ba (He.ba (He.ba (He.ba A.more).2).2).2).2).2).2).2).2).2).2).2).2).2).2).2).2 (F.bindsN fun _ _ _ _ _ _ us hl => match us, hl with | [_], _ => rfl) (def_okI F sc_Kept_init_History (fun ds μ Q Xd h => by rw [h.1]; rfl) (fun cdv A2 fr s H E hr hgd => d_Kept_init_History A hr hgd) fun ds μ Q Xd a h => h.2 a)
/-! is_integer -/
abbrev N_is_integer : List Str := ["thing"]
theorem sc_is_integer : FnScope N_is_integer ["thing"] (defScope (top 11)) := ⟨rfl, rfl, rfl, by decide +kernel, rfl, by decide +kernel, by decide +kernel⟩
def w_is_integer : WS := (sRet (wAndV (wN (fIsi isiT) (wCons (wVar 0) (wCons (wC (.ty "int")) wNil))) (wNotV (wN (fIsi isiT) (wCons (wVar 0) (wCons (wC (.ty "bool")) wNil))))))
def sp_is_integer : DSp := fun ds μ Q Xd => ds.length = 1 ∧ w_is_integer (defE Q Xd) (startD N_is_integer ds) μ
theorem d_is_integer (A : Hd K mg) {cdv : Value} {A2 : Around} {fr : List Env} {s : Shared} {H : Hp} {E : XK} {f : Addr} (hr : Room 0 (A2.deeper (envOfC "is_integer" (defScope (top 11)) s.heap.objs.size f cdv))) (hgd : (A2.deeper (envOfC "is_integer" (defScope (top 11)) s.heap.objs.size f cdv)).guards = some []) :
    DSs none (fun cls d _ H2 => E cls d H2) (cxOf (L2.CX P w) P w K mg base N_is_integer "is_integer" (defScope (top 11)) f cdv A2 fr s H E) (defBody (top 11)) w_is_integer := by
  have hN := (sc_is_integer).nd
  exact (dss_one (ds_ret (de_and (de_callB call_isi (sn_isi A.isi) rfl A.f_isinstance bt_isinstance (da_cons (dv 0) (da_cons (de_ty rfl A.f_int bt_int) da_nil))) (de_one (de_not (de_callB call_isi (sn_isi A.isi) rfl A.f_isinstance bt_isinstance (da_cons (dv 0) (da_cons (de_ty rfl A.f_bool bt_bool) da_nil))))))))
theorem Hd.ok_is_integer (A : Hd K mg) : CallD P w K mg base 1 "is_integer" ["thing"] sp_is_integer := by
  obtain ⟨fd, F⟩ := A.c.def_ 1
  exact ⟨_, fd, A.g_is_integer, F.kp, F.bindsN fun _ _ _ _ _ _ us hl => match us, hl with | [_], _ => rfl, def_ok F sc_is_integer (fun ds μ Q Xd h => h.1) (fun cdv A2 fr s H E hr hgd => d_is_integer A hr hgd) fun ds μ Q Xd h => h.2⟩
/-! numbers_of -/
abbrev N_numbers_of : List Str := ["thing"]
theorem sc_numbers_of : FnScope N_numbers_of ["thing"] (defScope (top 17)) := ⟨rfl, rfl, rfl, by decide +kernel, rfl, by decide +kernel, by decide +kernel⟩
def w_numbers_of : WS := (sSeq (sIf (wB (wN (fIsi isiT) (wCons (wVar 0) (wCons (wC (.cls "Point")) wNil))))
  (sRet (wTup (wCons (w1 (fFld "Point" "x") (wVar 0)) (wCons (w1 (fFld "Point" "y") (wVar 0)) wNil))))
  sNext)
 (sSeq (sIf (wAnd (wB (wN (fIsi isiT) (wCons (wVar 0) (wCons (wC (.ty "tuple")) wNil)))) (wAnd (wB (w2 fEqU (wN fLen (wCons (wVar 0) wNil)) (wC (.int (2))))) (wAnd (wB (wCall sp_is_integer (wCons (w2 fIx (wVar 0) (wC (.int (0)))) wNil))) (wB (wCall sp_is_integer (wCons (w2 fIx (wVar 0) (wC (.int (1)))) wNil))))))
  (sRet (wTup (wCons (wN fInt1 (wCons (w2 fIx (wVar 0) (wC (.int (0)))) wNil)) (wCons (wN fInt1 (wCons (w2 fIx (wVar 0) (wC (.int (1)))) wNil)) wNil))))
  sNext)
 (sRet (wC .non))))
def sp_numbers_of : DSp := fun ds μ Q Xd => ds.length = 1 ∧ w_numbers_of (defE Q Xd) (startD N_numbers_of ds) μ
theorem d_numbers_of (A : Hd K mg) {cdv : Value} {A2 : Around} {fr : List Env} {s : Shared} {H : Hp} {E : XK} {f : Addr} (hr : Room 1 (A2.deeper (envOfC "numbers_of" (defScope (top 17)) s.heap.objs.size f cdv))) (hgd : (A2.deeper (envOfC "numbers_of" (defScope (top 17)) s.heap.objs.size f cdv)).guards = some []) :
    DSs none (fun cls d _ H2 => E cls d H2) (cxOf (L2.CX P w) P w K mg base N_numbers_of "numbers_of" (defScope (top 17)) f cdv A2 fr s H E) (defBody (top 17)) w_numbers_of := by
  have hN := (sc_numbers_of).nd
  exact (dss_cons (ds_if (dt_val (de_callB call_isi (sn_isi A.isi) rfl A.f_isinstance bt_isinstance (da_cons (dv 0) (da_cons (de_cls rfl A.g_Point) da_nil)))) (dss_one (ds_ret (de_tup (da_cons (de_fldD A.fl_Point_x (dv 0)) (da_cons (de_fldD A.fl_Point_y (dv 0)) da_nil))))) dss_nil)
 (dss_cons (ds_if (dt_w (dw_and (dt_val (de_callB call_isi (sn_isi A.isi) rfl A.f_isinstance bt_isinstance (da_cons (dv 0) (da_cons (de_ty rfl A.f_tuple bt_tuple) da_nil)))) (dw_and (dt_cmp (op_eqU (have z := room64 hr; z)) s2_eqU (de_callB call_len_seq sn_len rfl A.f_len bt_len (da_cons (dv 0) da_nil)) de_int (nomark _)) (dw_and (dt_val (de_callD A.ok_is_integer hr (by decide) hgd rfl (takes_of rfl rfl rfl rfl) (da_cons (de_item (dv 0) de_int) da_nil))) (dw_and1 (dt_val (de_callD A.ok_is_integer hr (by decide) hgd rfl (takes_of rfl rfl rfl rfl) (da_cons (de_item (dv 0) de_int) da_nil)))))))) (dss_one (ds_ret (de_tup (da_cons (de_callTy call_int1 sn_int1 rfl A.f_int bt_int (da_cons (de_item (dv 0) de_int) da_nil)) (da_cons (de_callTy call_int1 sn_int1 rfl A.f_int bt_int (da_cons (de_item (dv 0) de_int) da_nil)) da_nil))))) dss_nil)
 (dss_one (ds_ret de_non))))
theorem Hd.ok_numbers_of (A : Hd K mg) : CallD P w K mg base 2 "numbers_of" ["thing"] sp_numbers_of := by
  obtain ⟨fd, F⟩ := A.c.def_ 2
  exact ⟨_, fd, A.g_numbers_of, F.kp, F.bindsN fun _ _ _ _ _ _ us hl => match us, hl with | [_], _ => rfl, def_ok F sc_numbers_of (fun ds μ Q Xd h => h.1) (fun cdv A2 fr s H E hr hgd => d_numbers_of A hr hgd) fun ds μ Q Xd h => h.2⟩
/-! check_points -/
abbrev N_check_points : List Str := ["points", "number", "thing"]
theorem sc_check_points : FnScope N_check_points ["points"] (defScope (top 25)) := ⟨rfl, rfl, rfl, by decide +kernel, rfl, by decide +kernel, by decide +kernel⟩
def w_check_points : WS := (sSeq (sIf (wOr (wNot (wB (wN (fIsi isiT) (wCons (wVar 0) (wCons (wC (.ty "list")) wNil))))) (wB (w2 fGt (wN fLen (wCons (wVar 0) wNil)) (wC (.int (100))))))
  (sRaise "InvalidNet" ["part", "number"] (wCons (wC (.str "points")) (wCons (wC .non) wNil)))
  sNext)
 (sForC (wiEnC (wCons (wVar 0) wNil)) (kTup 2 (kCons (kName 1) (kCons (kName 2) kNil)))
  (sIf (wB (w2 fIsN (wCall sp_numbers_of (wCons (wVar 2) wNil)) (wC .non)))
  (sRaise "InvalidNet" ["part", "number"] (wCons (wC (.str "points")) (wCons (wVar 1) wNil)))
  sNext)))
def sp_check_points : DSp := fun ds μ Q Xd => ds.length = 1 ∧ w_check_points (defE Q Xd) (startD N_check_points ds) μ
theorem d_check_points (A : Hd K mg) {cdv : Value} {A2 : Around} {fr : List Env} {s : Shared} {H : Hp} {E : XK} {f : Addr} (hr : Room 2 (A2.deeper (envOfC "check_points" (defScope (top 25)) s.heap.objs.size f cdv))) (hgd : (A2.deeper (envOfC "check_points" (defScope (top 25)) s.heap.objs.size f cdv)).guards = some []) :
    DSs none (fun cls d _ H2 => E cls d H2) (cxOf (L2.CX P w) P w K mg base N_check_points "check_points" (defScope (top 25)) f cdv A2 fr s H E) (defBody (top 25)) w_check_points := by
  have hN := (sc_check_points).nd
  exact (dss_cons (ds_if (dt_w (dw_or (dt_not (dt_val (de_callB call_isi (sn_isi A.isi) rfl A.f_isinstance bt_isinstance (da_cons (dv 0) (da_cons (de_ty rfl A.f_list bt_list) da_nil))))) (dw_or1 (dt_cmp op_gt s2_IB (de_callB call_len_seq sn_len rfl A.f_len bt_len (da_cons (dv 0) da_nil)) (de_gintE rfl A.c_MOST_POINTS) (nomark _))))) (dss_one (ds_raiseD A.rx_InvalidNet rfl hr (by decide) rfl (takes_of rfl rfl rfl rfl) (da_cons de_str (da_cons de_non da_nil)))) dss_nil)
 (dss_one (ds_forC (passes_of rfl) rfl (di_enC (by rfl) A.f_enumerate (da_cons (dv 0) da_nil)) (dg_tup rfl (dgs_cons (dg_name hN rfl) (dgs_cons (dg_name hN rfl) dgs_nil))) (dss_one (ds_if (dt_cmp op_isN s2_isN (de_callD A.ok_numbers_of hr (by decide) hgd rfl (takes_of rfl rfl rfl rfl) (da_cons (dv 2) da_nil)) de_non (nomark _)) (dss_one (ds_raiseD A.rx_InvalidNet rfl hr (by decide) rfl (takes_of rfl rfl rfl rfl) (da_cons de_str (da_cons (dv 1) da_nil)))) dss_nil)))))
theorem Hd.ok_check_points (A : Hd K mg) : CallD P w K mg base 3 "check_points" ["points"] sp_check_points := by
  obtain ⟨fd, F⟩ := A.c.def_ 3
  exact ⟨_, fd, A.g_check_points, F.kp, F.bindsN fun _ _ _ _ _ _ us hl => match us, hl with | [_], _ => rfl, def_ok F sc_check_points (fun ds μ Q Xd h => h.1) (fun cdv A2 fr s H E hr hgd => d_check_points A hr hgd) fun ds μ Q Xd h => h.2⟩
/-! is_between -/
abbrev N_is_between : List Str := ["thing", "least", "most"]
theorem sc_is_between : FnScope N_is_between ["thing", "least", "most"] (defScope (top 12)) := ⟨rfl, rfl, rfl, by decide +kernel, rfl, by decide +kernel, by decide +kernel⟩
def w_is_between : WS := (sRet (wAndV (wCall sp_is_integer (wCons (wVar 0) wNil)) (wChain fLe fLe (wVar 1) (wN fInt1 (wCons (wVar 0) wNil)) (wVar 2))))
def sp_is_between : DSp := fun ds μ Q Xd => ds.length = 3 ∧ w_is_between (defE Q Xd) (startD N_is_between ds) μ
theorem d_is_between (A : Hd K mg) {cdv : Value} {A2 : Around} {fr : List Env} {s : Shared} {H : Hp} {E : XK} {f : Addr} (hr : Room 1 (A2.deeper (envOfC "is_between" (defScope (top 12)) s.heap.objs.size f cdv))) (hgd : (A2.deeper (envOfC "is_between" (defScope (top 12)) s.heap.objs.size f cdv)).guards = some []) :
    DSs none (fun cls d _ H2 => E cls d H2) (cxOf (L2.CX P w) P w K mg base N_is_between "is_between" (defScope (top 12)) f cdv A2 fr s H E) (defBody (top 12)) w_is_between := by
  have hN := (sc_is_between).nd
  exact (dss_one (ds_ret (de_and (de_callD A.ok_is_integer hr (by decide) hgd rfl (takes_of rfl rfl rfl rfl) (da_cons (dv 0) da_nil)) (de_one (de_chain op_le s2_IB op_le s2_IB (dv 1) (de_callTy call_int1 sn_int1 rfl A.f_int bt_int (da_cons (dv 0) da_nil)) (dv 2))))))
theorem Hd.ok_is_between (A : Hd K mg) : CallD P w K mg base 2 "is_between" ["thing", "least", "most"] sp_is_between := by
  obtain ⟨fd, F⟩ := A.c.def_ 4
  exact ⟨_, fd, A.g_is_between, F.kp, F.bindsN fun _ _ _ _ _ _ us hl => match us, hl with | [_, _, _], _ => rfl, def_ok F sc_is_between (fun ds μ Q Xd h => h.1) (fun cdv A2 fr s H E hr hgd => d_is_between A hr hgd) fun ds μ Q Xd h => h.2⟩
/-! is_triple -/
abbrev N_is_triple : List Str := ["thing", "many", "index"]
theorem sc_is_triple : FnScope N_is_triple ["thing", "many"] (defScope (top 26)) := ⟨rfl, rfl, rfl, by decide +kernel, rfl, by decide +kernel, by decide +kernel⟩
def w_is_triple : WS := (sSeq (sIf (wOr (wNot (wB (wN (fIsi isiT) (wCons (wVar 0) (wCons (wC (.ty "tuple")) wNil))))) (wB (w2 fNeU (wN fLen (wCons (wVar 0) wNil)) (wC (.int (3))))))
  (sRet (wC (.bl false)))
  sNext)
 (sSeq (sIf (wNot (wB (wN fAll (wCons (wLc (wiT (wVar 0)) (kNameC 2) wYes (wCall sp_is_between (wCons (wVar 2) (wCons (wC (.int (0))) (wCons (w2 fSub (wVar 1) (wC (.int (1)))) wNil)))) [2]) wNil))))
  (sRet (wC (.bl false)))
  sNext)
 (sRet (wAndV (w2 fNeU (w2 fIx (wVar 0) (wC (.int (0)))) (w2 fIx (wVar 0) (wC (.int (1))))) (wAndV (w2 fNeU (w2 fIx (wVar 0) (wC (.int (1)))) (w2 fIx (wVar 0) (wC (.int (2))))) (w2 fNeU (w2 fIx (wVar 0) (wC (.int (2)))) (w2 fIx (wVar 0) (wC (.int (0))))))))))
def sp_is_triple : DSp := fun ds μ Q Xd => ds.length = 2 ∧ w_is_triple (defE Q Xd) (startD N_is_triple ds) μ
theorem d_is_triple (A : Hd K mg) {cdv : Value} {A2 : Around} {fr : List Env} {s : Shared} {H : Hp} {E : XK} {f : Addr} (hr : Room 2 (A2.deeper (envOfC "is_triple" (defScope (top 26)) s.heap.objs.size f cdv))) (hgd : (A2.deeper (envOfC "is_triple" (defScope (top 26)) s.heap.objs.size f cdv)).guards = some []) :
    DSs none (fun cls d _ H2 => E cls d H2) (cxOf (L2.CX P w) P w K mg base N_is_triple "is_triple" (defScope (top 26)) f cdv A2 fr s H E) (defBody (top 26)) w_is_triple := by
  have hN := (sc_is_triple).nd
  exact (dss_cons (ds_if (dt_w (dw_or (dt_not (dt_val (de_callB call_isi (sn_isi A.isi) rfl A.f_isinstance bt_isinstance (da_cons (dv 0) (da_cons (de_ty rfl A.f_tuple bt_tuple) da_nil))))) (dw_or1 (dt_cmp (op_neU (have z := room64 hr; z)) s2_neU (de_callB call_len_seq sn_len rfl A.f_len bt_len (da_cons (dv 0) da_nil)) de_int (nomark _))))) (dss_one (ds_ret de_bl)) dss_nil)
 (dss_cons (ds_if (dt_not (dt_val (de_callB (cr_all rfl) sn_all rfl A.f_all bt_all (da_cons (de_lc rfl hN (di_tup (dv 0)) (blkOk_by (own := [("index", 2)]) (by show blkC N_is_triple (defScope (top 26)) _ _ = true; decide +kernel)) (lcg_name (by decide)) (fun _ _ _ _ _ => (pg_name hN rfl (by first | exact Or.inl rfl | exact Or.inr rfl) (by first | exact .inl rfl | exact .inr rfl))) (fun _ _ _ _ _ => dts_nil) (fun _ _ _ _ _ => (de_callD A.ok_is_between hr (by decide) hgd rfl takes0 (da_cons (dv 2) (da_cons de_int (da_cons (de_sub (dv 1) de_int) da_nil)))))) da_nil)))) (dss_one (ds_ret de_bl)) dss_nil)
 (dss_one (ds_ret (de_and (de_cmp (op_neU (have z := room64 hr; z)) s2_neU (de_item (dv 0) de_int) (de_item (dv 0) de_int) (nomark _)) (de_and (de_cmp (op_neU (have z := room64 hr; z)) s2_neU (de_item (dv 0) de_int) (de_item (dv 0) de_int) (nomark _)) (de_one (de_cmp (op_neU (have z := room64 hr; z)) s2_neU (de_item (dv 0) de_int) (de_item (dv 0) de_int) (nomark _)))))))))
theorem Hd.ok_is_triple (A : Hd K mg) : CallD P w K mg base 3 "is_triple" ["thing", "many"] sp_is_triple := by
  obtain ⟨fd, F⟩ := A.c.def_ 5
  exact ⟨_, fd, A.g_is_triple, F.kp, F.bindsN fun _ _ _ _ _ _ us hl => match us, hl with | [_, _], _ => rfl, def_ok F sc_is_triple (fun ds μ Q Xd h => h.1) (fun cdv A2 fr s H E hr hgd => d_is_triple A hr hgd) fun ds μ Q Xd h => h.2⟩
/-! check_triples -/
abbrev N_check_triples : List Str := ["triples", "many", "number", "thing"]
theorem sc_check_triples : FnScope N_check_triples ["triples", "many"] (defScope (top 27)) := ⟨rfl, rfl, rfl, by decide +kernel, rfl, by decide +kernel, by decide +kernel⟩
def w_check_triples : WS := (sSeq (sIf (wOr (wNot (wB (wN (fIsi isiT) (wCons (wVar 0) (wCons (wC (.ty "list")) wNil))))) (wB (w2 fGt (wN fLen (wCons (wVar 0) wNil)) (wC (.int (100))))))
  (sRaise "InvalidNet" ["part", "number"] (wCons (wC (.str "triples")) (wCons (wC .non) wNil)))
  sNext)
 (sForC (wiEnC (wCons (wVar 0) wNil)) (kTup 2 (kCons (kName 2) (kCons (kName 3) kNil)))
  (sIf (wNot (wB (wCall sp_is_triple (wCons (wVar 3) (wCons (wVar 1) wNil)))))
  (sRaise "InvalidNet" ["part", "number"] (wCons (wC (.str "triples")) (wCons (wVar 2) wNil)))
  sNext)))
def sp_check_triples : DSp := fun ds μ Q Xd => ds.length = 2 ∧ w_check_triples (defE Q Xd) (startD N_check_triples ds) μ
theorem d_check_triples (A : Hd K mg) {cdv : Value} {A2 : Around} {fr : List Env} {s : Shared} {H : Hp} {E : XK} {f : Addr} (hr : Room 3 (A2.deeper (envOfC "check_triples" (defScope (top 27)) s.heap.objs.size f cdv))) (hgd : (A2.deeper (envOfC "check_triples" (defScope (top 27)) s.heap.objs.size f cdv)).guards = some []) :
    DSs none (fun cls d _ H2 => E cls d H2) (cxOf (L2.CX P w) P w K mg base N_check_triples "check_triples" (defScope (top 27)) f cdv A2 fr s H E) (defBody (top 27)) w_check_triples := by
  have hN := (sc_check_triples).nd
  exact (dss_cons (ds_if (dt_w (dw_or (dt_not (dt_val (de_callB call_isi (sn_isi A.isi) rfl A.f_isinstance bt_isinstance (da_cons (dv 0) (da_cons (de_ty rfl A.f_list bt_list) da_nil))))) (dw_or1 (dt_cmp op_gt s2_IB (de_callB call_len_seq sn_len rfl A.f_len bt_len (da_cons (dv 0) da_nil)) (de_gintE rfl A.c_MOST_POINTS) (nomark _))))) (dss_one (ds_raiseD A.rx_InvalidNet rfl hr (by decide) rfl (takes_of rfl rfl rfl rfl) (da_cons de_str (da_cons de_non da_nil)))) dss_nil)
 (dss_one (ds_forC (passes_of rfl) rfl (di_enC (by rfl) A.f_enumerate (da_cons (dv 0) da_nil)) (dg_tup rfl (dgs_cons (dg_name hN rfl) (dgs_cons (dg_name hN rfl) dgs_nil))) (dss_one (ds_if (dt_not (dt_val (de_callD A.ok_is_triple hr (by decide) hgd rfl (takes_of rfl rfl rfl rfl) (da_cons (dv 3) (da_cons (dv 1) da_nil))))) (dss_one (ds_raiseD A.rx_InvalidNet rfl hr (by decide) rfl (takes_of rfl rfl rfl rfl) (da_cons de_str (da_cons (dv 2) da_nil)))) dss_nil)))))
theorem Hd.ok_check_triples (A : Hd K mg) : CallD P w K mg base 4 "check_triples" ["triples", "many"] sp_check_triples := by
  obtain ⟨fd, F⟩ := A.c.def_ 6
  exact ⟨_, fd, A.g_check_triples, F.kp, F.bindsN fun _ _ _ _ _ _ us hl => match us, hl with | [_, _], _ => rfl, def_ok F sc_check_triples (fun ds μ Q Xd h => h.1) (fun cdv A2 fr s H E hr hgd => d_check_triples A hr hgd) fun ds μ Q Xd h => h.2⟩
/-! Net_init -/
abbrev N_Net_init : List Str := ["self", "points", "triples", "thing"]
theorem sc_Net_init : FnScope N_Net_init ["self", "points", "triples"] (defScope (inClass (top 28) 0)) := ⟨rfl, rfl, rfl, by decide +kernel, rfl, by decide +kernel, by decide +kernel⟩
def w_Net_init : WS := (sSeq (sDrop (wCall sp_check_points (wCons (wVar 1) wNil)))
 (sSeq (sDrop (wCall sp_check_triples (wCons (wVar 2) (wCons (wN fLen (wCons (wVar 1) wNil)) wNil))))
 (sSeq (sFldO "Net" 0 "pairs" (wLcU (wiCel (wVar 1)) (kNameC 3) wYes (wCall sp_numbers_of (wCons (wVar 3) wNil)) [3]))
 (sFldO "Net" 0 "own_triples" (wN fListOf (wCons (wVar 2) wNil))))))
def sp_Net_init : ISp := fun ds μ Q Xd => ds.length = 2 ∧ ∀ a, w_Net_init (defI "Net" a Q Xd) (startI N_Net_init "Net" a ds) μ
theorem d_Net_init (A : Hd K mg) {cdv : Value} {A2 : Around} {fr : List Env} {s : Shared} {H : Hp} {E : XK} {f : Addr} (hr : Room 4 (A2.deeper (envOfC "Net.__init__" (defScope (inClass (top 28) 0)) s.heap.objs.size f cdv))) (hgd : (A2.deeper (envOfC "Net.__init__" (defScope (inClass (top 28) 0)) s.heap.objs.size f cdv)).guards = some []) :
    DSs none (fun cls d _ H2 => E cls d H2) (cxOf (L2.CX P w) P w K mg base N_Net_init "Net.__init__" (defScope (inClass (top 28) 0)) f cdv A2 fr s H E) (defBody (inClass (top 28) 0)) w_Net_init := by
  have hN := (sc_Net_init).nd
  exact (dss_cons (ds_expr (de_callD A.ok_check_points hr (by decide) hgd rfl (takes_of rfl rfl rfl rfl) (da_cons (dv 1) da_nil)))
 (dss_cons (ds_expr (de_callD A.ok_check_triples hr (by decide) hgd rfl (takes_of rfl rfl rfl rfl) (da_cons (dv 2) (da_cons (de_callB call_len_seq sn_len rfl A.f_len bt_len (da_cons (dv 1) da_nil)) da_nil))))
 (dss_cons (ds_fldOD A.fl_Net_pairs rfl (de_lcU rfl hN (di_cel (dv 1)) (blkOk_by (own := [("thing", 3)]) (by show blkC N_Net_init (defScope (inClass (top 28) 0)) _ _ = true; decide +kernel)) (lcg_name (by decide)) (fun _ _ _ _ _ => (pg_name hN rfl (by first | exact Or.inl rfl | exact Or.inr rfl) (by first | exact .inl rfl | exact .inr rfl))) (fun _ _ _ _ _ => dts_nil) (fun _ _ _ _ _ => (de_callD A.ok_numbers_of hr (by decide) hgd rfl takes0 (da_cons (dv 3) da_nil)))))
 (dss_one (ds_fldOD A.fl_Net_own_triples rfl (de_callTy call_list_of sn_listOf rfl A.f_list bt_list (da_cons (dv 2) da_nil)))))))
theorem Hd.ok_Net_init (A : Hd K mg) : MakeD P w K mg base 5 "Net" ["self", "points", "triples"] sp_Net_init := by
  obtain ⟨fd, F⟩ := A.c.def_ 7
  refine ⟨_, _, fd, A.g_Net, He.mkr_ok (A.c.fact 61), F.bindsN fun _ _ _ _ _ _ us hl => match us, hl with | [_, _, _], _ => rfl, def_okI F sc_Net_init (fun ds μ Q Xd h => by rw [h.1]; rfl) (fun cdv A2 fr s H E hr hgd => d_Net_init A hr hgd) fun ds μ Q Xd a h => h.2 a⟩
/-! Net_twin -/
abbrev N_Net_twin : List Str := ["self"]
theorem sc_Net_twin : FnScope N_Net_twin ["self"] (defScope (inClass (top 28) 5)) := ⟨rfl, rfl, rfl, by decide +kernel, rfl, by decide +kernel, by decide +kernel⟩
def w_Net_twin : WS := (sRet (wMake "Net" sp_Net_init (wCons (wN fListOf (wCons (w1 (fFld "Net" "pairs") (wVar 0)) wNil)) (wCons (w1 (fFld "Net" "own_triples") (wVar 0)) wNil))))
def sp_Net_twin : DSp := fun ds μ Q Xd => ds.length = 1 ∧ w_Net_twin (defE Q Xd) (startD N_Net_twin ds) μ
theorem d_Net_twin (A : Hd K mg) {cdv : Value} {A2 : Around} {fr : List Env} {s : Shared} {H : Hp} {E : XK} {f : Addr} (hr : Room 6 (A2.deeper (envOfC "Net.twin" (defScope (inClass (top 28) 5)) s.heap.objs.size f cdv))) (hgd : (A2.deeper (envOfC "Net.twin" (defScope (inClass (top 28) 5)) s.heap.objs.size f cdv)).guards = some []) :
    DSs none (fun cls d _ H2 => E cls d H2) (cxOf (L2.CX P w) P w K mg base N_Net_twin "Net.twin" (defScope (inClass (top 28) 5)) f cdv A2 fr s H E) (defBody (inClass (top 28) 5)) w_Net_twin := by
  have hN := (sc_Net_twin).nd
  exact (dss_one (ds_ret (de_makeD A.ok_Net_init hr (by decide) hgd rfl (takes_of rfl rfl rfl rfl) (da_cons (de_callTy call_list_of sn_listOf rfl A.f_list bt_list (da_cons (de_fldD A.fl_Net_pairs (dv 0)) da_nil)) (da_cons (de_fldD A.fl_Net_own_triples (dv 0)) da_nil)))))
theorem Hd.ok_Net_twin (A : Hd K mg) : MethD P w K mg base 7 "Net" "twin" ["self"] sp_Net_twin := by
  obtain ⟨fd, F⟩ := A.c.def_ 8
  exact ⟨_, _, fd, A.g_Net, He.cls_ok (A.c.fact 54), He.meth_ok (A.c.fact 63), F.bindsN fun _ _ _ _ _ _ us hl => match us, hl with | [_], _ => rfl, def_ok F sc_Net_twin (fun ds μ Q Xd h => h.1) (fun cdv A2 fr s H E hr hgd => d_Net_twin A hr hgd) fun ds μ Q Xd h => h.2⟩
/-! History_init -/
abbrev N_History_init : List Str := ["self", "net"]
theorem sc_History_init : FnScope N_History_init ["self", "net"] (defScope (inClass (top 22) 0)) := ⟨rfl, rfl, rfl, by decide +kernel, rfl, by decide +kernel, by decide +kernel⟩
def w_History_init : WS := (sSeq (sBaseI "History" 0 sp_Kept_init_History)
 (sSeq (sFldO "History" 0 "begin" (wMeth "Net" "twin" sp_Net_twin (wVar 1) wNil))
 (sSeq (sFldO "History" 0 "now" (wMeth "Net" "twin" sp_Net_twin (wVar 1) wNil))
 (sSeq (sFldO "History" 0 "made" (wLst wNil))
 (sFldO "History" 0 "later" (wLst wNil))))))
def sp_History_init : ISp := fun ds μ Q Xd => ds.length = 1 ∧ ∀ a, w_History_init (defI "History" a Q Xd) (startI N_History_init "History" a ds) μ
theorem d_History_init (A : Hd K mg) {cdv : Value} {A2 : Around} {fr : List Env} {s : Shared} {H : Hp} {E : XK} {f : Addr} (hr : Room 7 (A2.deeper (envOfC "History.__init__" (defScope (inClass (top 22) 0)) s.heap.objs.size f cdv))) (hgd : (A2.deeper (envOfC "History.__init__" (defScope (inClass (top 22) 0)) s.heap.objs.size f cdv)).guards = some []) :
    DSs none (fun cls d _ H2 => E cls d H2) (cxOf (L2.CX P w) P w K mg base N_History_init "History.__init__" (defScope (inClass (top 22) 0)) f cdv A2 fr s H E) (defBody (inClass (top 22) 0)) w_History_init := by
  have hN := (sc_History_init).nd
  exact (dss_cons (ds_baseI (i := 0) A.bi_Kept_init_History hr (by decide) hgd (takes_of rfl rfl rfl rfl) rfl rfl)
 (dss_cons (ds_fldOD A.fl_History_begin rfl (de_methD0 A.ok_Net_twin hr (by decide) hgd (takes_of rfl rfl rfl rfl) (dv 1)))
 (dss_cons (ds_fldOD A.fl_History_now rfl (de_methD0 A.ok_Net_twin hr (by decide) hgd (takes_of rfl rfl rfl rfl) (dv 1)))
 (dss_cons (ds_fldOD A.fl_History_made rfl (de_lst da_nil))
 (dss_one (ds_fldOD A.fl_History_later rfl (de_lst da_nil)))))))
theorem Hd.ok_History_init (A : Hd K mg) : MakeD P w K mg base 8 "History" ["self", "net"] sp_History_init := by
  obtain ⟨fd, F⟩ := A.c.def_ 9
  refine ⟨_, _, fd, A.g_History, He.mkr_ok (A.c.fact 60), F.bindsN fun _ _ _ _ _ _ us hl => match us, hl with | [_, _], _ => rfl, def_okI F sc_History_init (fun ds μ Q Xd h => by rw [h.1]; rfl) (fun cdv A2 fr s H E hr hgd => d_History_init A hr hgd) fun ds μ Q Xd a h => h.2 a⟩
/-! check_between -/
abbrev N_check_between : List Str := ["thing", "least", "most"]
theorem sc_check_between : FnScope N_check_between ["thing", "least", "most"] (defScope (top 13)) := ⟨rfl, rfl, rfl, by decide +kernel, rfl, by decide +kernel, by decide +kernel⟩
def w_check_between : WS := (sIf (wNot (wB (wCall sp_is_between (wCons (wVar 0) (wCons (wVar 1) (wCons (wVar 2) wNil))))))
  (sRaise "InvalidNumber" ["number"] (wCons (wVar 0) wNil))
  sNext)
def sp_check_between : DSp := fun ds μ Q Xd => ds.length = 3 ∧ w_check_between (defE Q Xd) (startD N_check_between ds) μ
theorem d_check_between (A : Hd K mg) {cdv : Value} {A2 : Around} {fr : List Env} {s : Shared} {H : Hp} {E : XK} {f : Addr} (hr : Room 2 (A2.deeper (envOfC "check_between" (defScope (top 13)) s.heap.objs.size f cdv))) (hgd : (A2.deeper (envOfC "check_between" (defScope (top 13)) s.heap.objs.size f cdv)).guards = some []) :
    DSs none (fun cls d _ H2 => E cls d H2) (cxOf (L2.CX P w) P w K mg base N_check_between "check_between" (defScope (top 13)) f cdv A2 fr s H E) (defBody (top 13)) w_check_between := by
  have hN := (sc_check_between).nd
  exact (dss_one (ds_if (dt_not (dt_val (de_callD A.ok_is_between hr (by decide) hgd rfl (takes_of rfl rfl rfl rfl) (da_cons (dv 0) (da_cons (dv 1) (da_cons (dv 2) da_nil)))))) (dss_one (ds_raiseD A.rx_InvalidNumber rfl hr (by decide) rfl (takes_of rfl rfl rfl rfl) (da_cons (dv 0) da_nil))) dss_nil))
theorem Hd.ok_check_between (A : Hd K mg) : CallD P w K mg base 3 "check_between" ["thing", "least", "most"] sp_check_between := by
  obtain ⟨fd, F⟩ := A.c.def_ 10
  exact ⟨_, fd, A.g_check_between, F.kp, F.bindsN fun _ _ _ _ _ _ us hl => match us, hl with | [_, _, _], _ => rfl, def_ok F sc_check_between (fun ds μ Q Xd h => h.1) (fun cdv A2 fr s H E hr hgd => d_check_between A hr hgd) fun ds μ Q Xd h => h.2⟩
/-! pair_of -/
abbrev N_pair_of : List Str := ["thing", "numbers"]
theorem sc_pair_of : FnScope N_pair_of ["thing"] (defScope (top 18)) := ⟨rfl, rfl, rfl, by decide +kernel, rfl, by decide +kernel, by decide +kernel⟩
def w_pair_of : WS := (sSeq (sSet 1 (wCall sp_numbers_of (wCons (wVar 0) wNil)))
 (sSeq (sIf (wB (w2 fIsN (wVar 1) (wC .non)))
  (sRaise "InvalidPoint" ["thing"] (wCons (wVar 0) wNil))
  sNext)
 (sRet (wVar 1))))
def sp_pair_of : DSp := fun ds μ Q Xd => ds.length = 1 ∧ w_pair_of (defE Q Xd) (startD N_pair_of ds) μ
theorem d_pair_of (A : Hd K mg) {cdv : Value} {A2 : Around} {fr : List Env} {s : Shared} {H : Hp} {E : XK} {f : Addr} (hr : Room 2 (A2.deeper (envOfC "pair_of" (defScope (top 18)) s.heap.objs.size f cdv))) (hgd : (A2.deeper (envOfC "pair_of" (defScope (top 18)) s.heap.objs.size f cdv)).guards = some []) :
    DSs none (fun cls d _ H2 => E cls d H2) (cxOf (L2.CX P w) P w K mg base N_pair_of "pair_of" (defScope (top 18)) f cdv A2 fr s H E) (defBody (top 18)) w_pair_of := by
  have hN := (sc_pair_of).nd
  exact (dss_cons (ds_set (i := 1) hN rfl (de_callD A.ok_numbers_of hr (by decide) hgd rfl (takes_of rfl rfl rfl rfl) (da_cons (dv 0) da_nil)))
 (dss_cons (ds_if (dt_cmp op_isN s2_isN (dv 1) de_non (nomark _)) (dss_one (ds_raiseD A.rx_InvalidPoint rfl hr (by decide) rfl (takes_of rfl rfl rfl rfl) (da_cons (dv 0) da_nil))) dss_nil)
 (dss_one (ds_ret (dv 1)))))
theorem Hd.ok_pair_of (A : Hd K mg) : CallD P w K mg base 3 "pair_of" ["thing"] sp_pair_of := by
  obtain ⟨fd, F⟩ := A.c.def_ 11
  exact ⟨_, fd, A.g_pair_of, F.kp, F.bindsN fun _ _ _ _ _ _ us hl => match us, hl with | [_], _ => rfl, def_ok F sc_pair_of (fun ds μ Q Xd h => h.1) (fun cdv A2 fr s H E hr hgd => d_pair_of A hr hgd) fun ds μ Q Xd h => h.2⟩
/-! Net_put -/
abbrev N_Net_put : List Str := ["self", "index", "point", "pair"]
theorem sc_Net_put : FnScope N_Net_put ["self", "index", "point"] (defScope (inClass (top 28) 6)) := ⟨rfl, rfl, rfl, by decide +kernel, rfl, by decide +kernel, by decide +kernel⟩
def w_Net_put : WS := (sSeq (sDrop (wCall sp_check_between (wCons (wVar 1) (wCons (wC (.int (0))) (wCons (w2 fSub (wN fLen (wCons (w1 (fFld "Net" "pairs") (wVar 0)) wNil)) (wC (.int (1)))) wNil)))))
 (sSeq (sSet 3 (wCall sp_pair_of (wCons (wVar 2) wNil)))
 (sFldL "Net" "pairs" (wVar 0) (w2 fPlus (w2 fPlus (wSl (w1 (fFld "Net" "pairs") (wVar 0)) oNone (oSome (wVar 1))) (wLst (wCons (wVar 3) wNil))) (wSl (w1 (fFld "Net" "pairs") (wVar 0)) (oSome (w2 fPlus (wVar 1) (wC (.int (1))))) oNone)))))
def sp_Net_put : DSp := fun ds μ Q Xd => ds.length = 3 ∧ w_Net_put (defE Q Xd) (startD N_Net_put ds) μ
theorem d_Net_put (A : Hd K mg) {cdv : Value} {A2 : Around} {fr : List Env} {s : Shared} {H : Hp} {E : XK} {f : Addr} (hr : Room 3 (A2.deeper (envOfC "Net.put" (defScope (inClass (top 28) 6)) s.heap.objs.size f cdv))) (hgd : (A2.deeper (envOfC "Net.put" (defScope (inClass (top 28) 6)) s.heap.objs.size f cdv)).guards = some []) :
    DSs none (fun cls d _ H2 => E cls d H2) (cxOf (L2.CX P w) P w K mg base N_Net_put "Net.put" (defScope (inClass (top 28) 6)) f cdv A2 fr s H E) (defBody (inClass (top 28) 6)) w_Net_put := by
  have hN := (sc_Net_put).nd
  exact (dss_cons (ds_expr (de_callD A.ok_check_between hr (by decide) hgd rfl (takes_of rfl rfl rfl rfl) (da_cons (dv 1) (da_cons de_int (da_cons (de_sub (de_callB call_len_seq sn_len rfl A.f_len bt_len (da_cons (de_fldD A.fl_Net_pairs (dv 0)) da_nil)) de_int) da_nil)))))
 (dss_cons (ds_set (i := 3) hN rfl (de_callD A.ok_pair_of hr (by decide) hgd rfl (takes_of rfl rfl rfl rfl) (da_cons (dv 2) da_nil)))
 (dss_one (ds_fldL A.fl_Net_pairs (dv 0) (de_plus (de_plus (de_slice (de_fldD A.fl_Net_pairs (dv 0)) do_none (do_some (dv 1))) (de_lst (da_cons (dv 3) da_nil))) (de_slice (de_fldD A.fl_Net_pairs (dv 0)) (do_some (de_plus (dv 1) de_int)) do_none))))))
theorem Hd.ok_Net_put (A : Hd K mg) : MethD P w K mg base 4 "Net" "put" ["self", "index", "point"] sp_Net_put := by
  obtain ⟨fd, F⟩ := A.c.def_ 12
  exact ⟨_, _, fd, A.g_Net, He.cls_ok (A.c.fact 54), He.meth_ok (A.c.fact 64), F.bindsN fun _ _ _ _ _ _ us hl => match us, hl with | [_, _, _], _ => rfl, def_ok F sc_Net_put (fun ds μ Q Xd h => h.1) (fun cdv A2 fr s H E hr hgd => d_Net_put A hr hgd) fun ds μ Q Xd h => h.2⟩
/-! Net_setitem -/
abbrev N_Net_setitem : List Str := ["self", "index", "point"]
theorem sc_Net_setitem : FnScope N_Net_setitem ["self", "index", "point"] (defScope (inClass (top 28) 11)) := ⟨rfl, rfl, rfl, by decide +kernel, rfl, by decide +kernel, by decide +kernel⟩
def w_Net_setitem : WS := (sDrop (wMeth "Net" "put" sp_Net_put (wVar 0) (wCons (wVar 1) (wCons (wVar 2) wNil))))
def sp_Net_setitem : DSp := fun ds μ Q Xd => ds.length = 3 ∧ w_Net_setitem (defE Q Xd) (startD N_Net_setitem ds) μ
theorem d_Net_setitem (A : Hd K mg) {cdv : Value} {A2 : Around} {fr : List Env} {s : Shared} {H : Hp} {E : XK} {f : Addr} (hr : Room 4 (A2.deeper (envOfC "Net.__setitem__" (defScope (inClass (top 28) 11)) s.heap.objs.size f cdv))) (hgd : (A2.deeper (envOfC "Net.__setitem__" (defScope (inClass (top 28) 11)) s.heap.objs.size f cdv)).guards = some []) :
    DSs none (fun cls d _ H2 => E cls d H2) (cxOf (L2.CX P w) P w K mg base N_Net_setitem "Net.__setitem__" (defScope (inClass (top 28) 11)) f cdv A2 fr s H E) (defBody (inClass (top 28) 11)) w_Net_setitem := by
  have hN := (sc_Net_setitem).nd
  exact (dss_one (ds_expr (de_methD A.ok_Net_put hr (by decide) hgd (takes_of rfl rfl rfl rfl) (dv 0) (da_cons (dv 1) (da_cons (dv 2) da_nil)))))
theorem Hd.sp_Net_setitem (A : Hd K mg) : SpcD P w K mg base 5 ["Net"] "__setitem__" ["self", "index", "point"] sp_Net_setitem := by
  obtain ⟨fd, F⟩ := A.c.def_ 13
  obtain ⟨h, X, G⟩ := A.ex
  exact spcD_of X G (He.ba (He.ba (He.ba (He.ba (He.ba (He.ba (He.ba (He.ba (He.ba (He.ba (He.ba (He.ba (He.ba (He.ba A.more).2).2).2).2).2).2).2).2).2).2).2).2).2).1 (F.bindsN fun _ _ _ _ _ _ us hl => match us, hl with | [_, _, _], _ => rfl) (def_ok F sc_Net_setitem (fun ds μ Q Xd h => h.1) (fun cdv A2 fr s H E hr hgd => d_Net_setitem A hr hgd) fun ds μ Q Xd h => h.2)
/-! Point_init -/
abbrev N_Point_init : List Str := ["self", "x", "y"]
theorem sc_Point_init : FnScope N_Point_init ["self", "x", "y"] (defScope (inClass (top 16) 0)) := ⟨rfl, rfl, rfl, by decide +kernel, rfl, by decide +kernel, by decide +kernel⟩
def w_Point_init : WS := (sSeq (sIf (wOr (wNot (wB (wCall sp_is_integer (wCons (wVar 1) wNil)))) (wNot (wB (wCall sp_is_integer (wCons (wVar 2) wNil)))))
  (sRaise "InvalidPoint" ["thing"] (wCons (wTup (wCons (wVar 1) (wCons (wVar 2) wNil))) wNil))
  sNext)
 (sSeq (sFldO "Point" 0 "x" (wVar 1))
 (sFldO "Point" 0 "y" (wVar 2))))
def sp_Point_init : ISp := fun ds μ Q Xd => ds.length = 2 ∧ ∀ a, w_Point_init (defI "Point" a Q Xd) (startI N_Point_init "Point" a ds) μ
theorem d_Point_init (A : Hd K mg) {cdv : Value} {A2 : Around} {fr : List Env} {s : Shared} {H : Hp} {E : XK} {f : Addr} (hr : Room 2 (A2.deeper (envOfC "Point.__init__" (defScope (inClass (top 16) 0)) s.heap.objs.size f cdv))) (hgd : (A2.deeper (envOfC "Point.__init__" (defScope (inClass (top 16) 0)) s.heap.objs.size f cdv)).guards = some []) :
    DSs none (fun cls d _ H2 => E cls d H2) (cxOf (L2.CX P w) P w K mg base N_Point_init "Point.__init__" (defScope (inClass (top 16) 0)) f cdv A2 fr s H E) (defBody (inClass (top 16) 0)) w_Point_init := by
  have hN := (sc_Point_init).nd
  exact (dss_cons (ds_if (dt_w (dw_or (dt_not (dt_val (de_callD A.ok_is_integer hr (by decide) hgd rfl (takes_of rfl rfl rfl rfl) (da_cons (dv 1) da_nil)))) (dw_or1 (dt_not (dt_val (de_callD A.ok_is_integer hr (by decide) hgd rfl (takes_of rfl rfl rfl rfl) (da_cons (dv 2) da_nil))))))) (dss_one (ds_raiseD A.rx_InvalidPoint rfl hr (by decide) rfl (takes_of rfl rfl rfl rfl) (da_cons (de_tup (da_cons (dv 1) (da_cons (dv 2) da_nil))) da_nil))) dss_nil)
 (dss_cons (ds_fldOD A.fl_Point_x rfl (dv 1))
 (dss_one (ds_fldOD A.fl_Point_y rfl (dv 2)))))
theorem Hd.ok_Point_init (A : Hd K mg) : MakeD P w K mg base 3 "Point" ["self", "x", "y"] sp_Point_init := by
  obtain ⟨fd, F⟩ := A.c.def_ 14
  refine ⟨_, _, fd, A.g_Point, He.mkr_ok (A.c.fact 62), F.bindsN fun _ _ _ _ _ _ us hl => match us, hl with | [_, _, _], _ => rfl, def_okI F sc_Point_init (fun ds μ Q Xd h => by rw [h.1]; rfl) (fun cdv A2 fr s H E hr hgd => d_Point_init A hr hgd) fun ds μ Q Xd a h => h.2 a⟩
/-! _law_draw -/
abbrev N__law_draw : List Str := ["pool", "many", "found"]
theorem sc__law_draw : FnScope N__law_draw ["pool", "many"] (defScope (top 31)) := ⟨rfl, rfl, rfl, by decide +kernel, rfl, by decide +kernel, by decide +kernel⟩
def w__law_draw : WS := (sSeq (sIf (wB (w2 fGt (w2 fIx (wVar 0) (wC (.int (0)))) (wC (.int (0)))))
  (sSeq (sSet 2 (w2 fMod (wN fInt1 (wCons (w2 fIx (wVar 0) (wC (.int (0)))) wNil)) (wVar 1)))
 (sSeq (sAsg (w2 fDiv (w2 fIx (wVar 0) (wC (.int (0)))) (wVar 1)) (kSub (wVar 0) (wC (.int (0)))))
 (sRet (wVar 2))))
  sNext)
 (sSeq (sAsg (w2 fMod (wN fInt1 (wCons (w2 fPlus (w2 fTimes (w2 fIx (wVar 0) (wC (.int (1)))) (wC (.int (48271)))) (wC (.int (11)))) wNil)) (wC (.int (2147483647)))) (kSub (wVar 0) (wC (.int (1)))))
 (sRet (w2 fMod (w2 fDiv (w2 fMod (wN fInt1 (wCons (w2 fTimes (w2 fIx (wVar 0) (wC (.int (1)))) (w2 fIx (wVar 0) (wC (.int (1))))) wNil)) (wC (.int (2147483629)))) (wC (.int (64)))) (wVar 1)))))
def sp__law_draw : DSp := fun ds μ Q Xd => ds.length = 2 ∧ w__law_draw (defE Q Xd) (startD N__law_draw ds) μ
theorem d__law_draw (A : Hd K mg) {cdv : Value} {A2 : Around} {fr : List Env} {s : Shared} {H : Hp} {E : XK} {f : Addr} (hr : Room 0 (A2.deeper (envOfC "_law_draw" (defScope (top 31)) s.heap.objs.size f cdv))) (hgd : (A2.deeper (envOfC "_law_draw" (defScope (top 31)) s.heap.objs.size f cdv)).guards = some []) :
    DSs none (fun cls d _ H2 => E cls d H2) (cxOf (L2.CX P w) P w K mg base N__law_draw "_law_draw" (defScope (top 31)) f cdv A2 fr s H E) (defBody (top 31)) w__law_draw := by
  have hN := (sc__law_draw).nd
  exact (dss_cons (ds_if (dt_cmp op_gt s2_IB (de_item (dv 0) de_int) de_int (nomark _)) (dss_cons (ds_set (i := 2) hN rfl (de_mod (de_callTy call_int1 sn_int1 rfl A.f_int bt_int (da_cons (de_item (dv 0) de_int) da_nil)) (dv 1)))
 (dss_cons (ds_asg (de_div (de_item (dv 0) de_int) (dv 1)) (dg_sub (dv 0) de_int))
 (dss_one (ds_ret (dv 2))))) dss_nil)
 (dss_cons (ds_asg (de_mod (de_callTy call_int1 sn_int1 rfl A.f_int bt_int (da_cons (de_plus (de_times (de_item (dv 0) de_int) de_int) de_int) da_nil)) de_int) (dg_sub (dv 0) de_int))
 (dss_one (ds_ret (de_mod (de_div (de_mod (de_callTy call_int1 sn_int1 rfl A.f_int bt_int (da_cons (de_times (de_item (dv 0) de_int) (de_item (dv 0) de_int)) da_nil)) de_int) de_int) (dv 1))))))
theorem Hd.ok__law_draw (A : Hd K mg) : CallD P w K mg base 1 "_law_draw" ["pool", "many"] sp__law_draw := by
  obtain ⟨fd, F⟩ := A.c.def_ 15
  exact ⟨_, fd, A.g__law_draw, F.kp, F.bindsN fun _ _ _ _ _ _ us hl => match us, hl with | [_, _], _ => rfl, def_ok F sc__law_draw (fun ds μ Q Xd h => h.1) (fun cdv A2 fr s H E hr hgd => d__law_draw A hr hgd) fun ds μ Q Xd h => h.2⟩
/-! _law_pair -/
abbrev N__law_pair : List Str := ["pool", "size_here"]
theorem sc__law_pair : FnScope N__law_pair ["pool", "size_here"] (defScope (top 32)) := ⟨rfl, rfl, rfl, by decide +kernel, rfl, by decide +kernel, by decide +kernel⟩
def w__law_pair : WS := (sRet (wTup (wCons (w2 fSub (wCall sp__law_draw (wCons (wVar 0) (wCons (w2 fPlus (w2 fTimes (wC (.int (2))) (wVar 1)) (wC (.int (1)))) wNil))) (wVar 1)) (wCons (w2 fSub (wCall sp__law_draw (wCons (wVar 0) (wCons (w2 fPlus (w2 fTimes (wC (.int (2))) (wVar 1)) (wC (.int (1)))) wNil))) (wVar 1)) wNil))))
def sp__law_pair : DSp := fun ds μ Q Xd => ds.length = 2 ∧ w__law_pair (defE Q Xd) (startD N__law_pair ds) μ
theorem d__law_pair (A : Hd K mg) {cdv : Value} {A2 : Around} {fr : List Env} {s : Shared} {H : Hp} {E : XK} {f : Addr} (hr : Room 1 (A2.deeper (envOfC "_law_pair" (defScope (top 32)) s.heap.objs.size f cdv))) (hgd : (A2.deeper (envOfC "_law_pair" (defScope (top 32)) s.heap.objs.size f cdv)).guards = some []) :
    DSs none (fun cls d _ H2 => E cls d H2) (cxOf (L2.CX P w) P w K mg base N__law_pair "_law_pair" (defScope (top 32)) f cdv A2 fr s H E) (defBody (top 32)) w__law_pair := by
  have hN := (sc__law_pair).nd
  exact (dss_one (ds_ret (de_tup (da_cons (de_sub (de_callD A.ok__law_draw hr (by decide) hgd rfl (takes_of rfl rfl rfl rfl) (da_cons (dv 0) (da_cons (de_plus (de_times de_int (dv 1)) de_int) da_nil))) (dv 1)) (da_cons (de_sub (de_callD A.ok__law_draw hr (by decide) hgd rfl (takes_of rfl rfl rfl rfl) (da_cons (dv 0) (da_cons (de_plus (de_times de_int (dv 1)) de_int) da_nil))) (dv 1)) da_nil)))))
theorem Hd.ok__law_pair (A : Hd K mg) : CallD P w K mg base 2 "_law_pair" ["pool", "size_here"] sp__law_pair := by
  obtain ⟨fd, F⟩ := A.c.def_ 16
  exact ⟨_, fd, A.g__law_pair, F.kp, F.bindsN fun _ _ _ _ _ _ us hl => match us, hl with | [_, _], _ => rfl, def_ok F sc__law_pair (fun ds μ Q Xd h => h.1) (fun cdv A2 fr s H E hr hgd => d__law_pair A hr hgd) fun ds μ Q Xd h => h.2⟩
/-! _law_call -/
abbrev N__law_call : List Str := ["pool", "way", "index"]
theorem sc__law_call : FnScope N__law_call ["pool"] (defScope (top 41)) := ⟨rfl, rfl, rfl, by decide +kernel, rfl, by decide +kernel, by decide +kernel⟩
def w__law_call : WS := (sSeq (sSet 1 (wCall sp__law_draw (wCons (wVar 0) (wCons (wC (.int (12))) wNil))))
 (sSeq (sIf (wB (w2 fLt (wVar 1) (wC (.int (6)))))
  (sSeq (sSet 2 (w2 fIx (wLst (wCons (wC (.int (0))) (wCons (wC (.int (1))) (wCons (wC (.int (2))) (wCons (wC (.int (2))) (wCons (wC (.int (4))) (wCons (wC (.int (9))) (wCons (w1 fNeg (wC (.int (1)))) (wCons (wC (.bl true)) wNil))))))))) (wCall sp__law_draw (wCons (wVar 0) (wCons (wC (.int (8))) wNil)))))
 (sRet (wTup (wCons (wC (.str "move")) (wCons (wVar 2) (wCons (w2 fIx (wLst (wCons (wCall sp__law_pair (wCons (wVar 0) (wCons (wC (.int (9))) wNil))) (wCons (wCall sp__law_pair (wCons (wVar 0) (wCons (wC (.int (9))) wNil))) (wCons (wCall sp__law_pair (wCons (wVar 0) (wCons (wC (.int (9))) wNil))) (wCons (wC .non) wNil))))) (wCall sp__law_draw (wCons (wVar 0) (wCons (wC (.int (4))) wNil)))) wNil))))))
  sNext)
 (sSeq (sIf (wB (w2 fLt (wVar 1) (wC (.int (9)))))
  (sRet (wTup (wCons (w2 fIx (wLst (wCons (wC (.str "undo")) (wCons (wC (.str "redo")) wNil))) (w2 fMod (wVar 1) (wC (.int (2))))) (wCons (w2 fIx (wLst (wCons (wC (.int (1))) (wCons (wC (.int (1))) (wCons (wC (.int (2))) (wCons (wC (.int (3))) (wCons (wC (.int (0))) (wCons (wC .non) (wCons (wC (.bl true)) (wCons (wC (.int (99))) wNil))))))))) (wCall sp__law_draw (wCons (wVar 0) (wCons (wC (.int (8))) wNil)))) wNil))))
  sNext)
 (sRet (wTup (wCons (w2 fIx (wLst (wCons (wC (.str "keep")) (wCons (wC (.str "turn")) wNil))) (w2 fMod (wVar 1) (wC (.int (2))))) (wCons (w2 fIx (wLst (wCons (wC (.str "m")) (wCons (wC (.str "n")) (wCons (wC (.str "abcdefgh")) (wCons (wC (.str "m")) (wCons (wC (.str "M")) (wCons (wC .non) (wCons (wC (.str "")) (wCons (wC (.str "abcdefghi")) wNil))))))))) (wCall sp__law_draw (wCons (wVar 0) (wCons (wC (.int (8))) wNil)))) wNil)))))))
def sp__law_call : DSp := fun ds μ Q Xd => ds.length = 1 ∧ w__law_call (defE Q Xd) (startD N__law_call ds) μ
theorem d__law_call (A : Hd K mg) {cdv : Value} {A2 : Around} {fr : List Env} {s : Shared} {H : Hp} {E : XK} {f : Addr} (hr : Room 2 (A2.deeper (envOfC "_law_call" (defScope (top 41)) s.heap.objs.size f cdv))) (hgd : (A2.deeper (envOfC "_law_call" (defScope (top 41)) s.heap.objs.size f cdv)).guards = some []) :
    DSs none (fun cls d _ H2 => E cls d H2) (cxOf (L2.CX P w) P w K mg base N__law_call "_law_call" (defScope (top 41)) f cdv A2 fr s H E) (defBody (top 41)) w__law_call := by
  have hN := (sc__law_call).nd
  exact (dss_cons (ds_set (i := 1) hN rfl (de_callD A.ok__law_draw hr (by decide) hgd rfl (takes_of rfl rfl rfl rfl) (da_cons (dv 0) (da_cons de_int da_nil))))
 (dss_cons (ds_if (dt_cmp op_lt s2_IB (dv 1) de_int (nomark _)) (dss_cons (ds_set (i := 2) hN rfl (de_item (de_lst (da_cons de_int (da_cons de_int (da_cons de_int (da_cons de_int (da_cons de_int (da_cons de_int (da_cons (de_neg de_int) (da_cons de_bl da_nil))))))))) (de_callD A.ok__law_draw hr (by decide) hgd rfl (takes_of rfl rfl rfl rfl) (da_cons (dv 0) (da_cons de_int da_nil)))))
 (dss_one (ds_ret (de_tup (da_cons de_str (da_cons (dv 2) (da_cons (de_item (de_lst (da_cons (de_callD A.ok__law_pair hr (by decide) hgd rfl (takes_of rfl rfl rfl rfl) (da_cons (dv 0) (da_cons de_int da_nil))) (da_cons (de_callD A.ok__law_pair hr (by decide) hgd rfl (takes_of rfl rfl rfl rfl) (da_cons (dv 0) (da_cons de_int da_nil))) (da_cons (de_callD A.ok__law_pair hr (by decide) hgd rfl (takes_of rfl rfl rfl rfl) (da_cons (dv 0) (da_cons de_int da_nil))) (da_cons de_non da_nil))))) (de_callD A.ok__law_draw hr (by decide) hgd rfl (takes_of rfl rfl rfl rfl) (da_cons (dv 0) (da_cons de_int da_nil)))) da_nil))))))) dss_nil)
 (dss_cons (ds_if (dt_cmp op_lt s2_IB (dv 1) de_int (nomark _)) (dss_one (ds_ret (de_tup (da_cons (de_item (de_lst (da_cons de_str (da_cons de_str da_nil))) (de_mod (dv 1) de_int)) (da_cons (de_item (de_lst (da_cons de_int (da_cons de_int (da_cons de_int (da_cons de_int (da_cons de_int (da_cons de_non (da_cons de_bl (da_cons de_int da_nil))))))))) (de_callD A.ok__law_draw hr (by decide) hgd rfl (takes_of rfl rfl rfl rfl) (da_cons (dv 0) (da_cons de_int da_nil)))) da_nil))))) dss_nil)
 (dss_one (ds_ret (de_tup (da_cons (de_item (de_lst (da_cons de_str (da_cons de_str da_nil))) (de_mod (dv 1) de_int)) (da_cons (de_item (de_lst (da_cons de_str (da_cons de_str (da_cons de_str (da_cons de_str (da_cons de_str (da_cons de_non (da_cons de_str (da_cons de_str da_nil))))))))) (de_callD A.ok__law_draw hr (by decide) hgd rfl (takes_of rfl rfl rfl rfl) (da_cons (dv 0) (da_cons de_int da_nil)))) da_nil))))))))
theorem Hd.ok__law_call (A : Hd K mg) : CallD P w K mg base 3 "_law_call" ["pool"] sp__law_call := by
  obtain ⟨fd, F⟩ := A.c.def_ 17
  exact ⟨_, fd, A.g__law_call, F.kp, F.bindsN fun _ _ _ _ _ _ us hl => match us, hl with | [_], _ => rfl, def_ok F sc__law_call (fun ds μ Q Xd h => h.1) (fun cdv A2 fr s H E hr hgd => d__law_call A hr hgd) fun ds μ Q Xd h => h.2⟩
/-! is_name -/
abbrev N_is_name : List Str := ["thing", "letter"]
theorem sc_is_name : FnScope N_is_name ["thing"] (defScope (top 14)) := ⟨rfl, rfl, rfl, by decide +kernel, rfl, by decide +kernel, by decide +kernel⟩
def w_is_name : WS := (sSeq (sIf (wOr (wNot (wB (wN (fIsi isiT) (wCons (wVar 0) (wCons (wC (.ty "str")) wNil))))) (wNot (wB (wChain fLe fLe (wC (.int (1))) (wN fLenS (wCons (wVar 0) wNil)) (wC (.int (8)))))))
  (sRet (wC (.bl false)))
  sNext)
 (sRet (wN fAll (wCons (wLc (wiS (wVar 0)) (kNameC 1) wYes (w2 fInS (wVar 1) (wC (.str "abcdefghijklmnopqrstuvwxyz"))) [1]) wNil))))
def sp_is_name : DSp := fun ds μ Q Xd => ds.length = 1 ∧ w_is_name (defE Q Xd) (startD N_is_name ds) μ
theorem d_is_name (A : Hd K mg) {cdv : Value} {A2 : Around} {fr : List Env} {s : Shared} {H : Hp} {E : XK} {f : Addr} (hr : Room 0 (A2.deeper (envOfC "is_name" (defScope (top 14)) s.heap.objs.size f cdv))) (hgd : (A2.deeper (envOfC "is_name" (defScope (top 14)) s.heap.objs.size f cdv)).guards = some []) :
    DSs none (fun cls d _ H2 => E cls d H2) (cxOf (L2.CX P w) P w K mg base N_is_name "is_name" (defScope (top 14)) f cdv A2 fr s H E) (defBody (top 14)) w_is_name := by
  have hN := (sc_is_name).nd
  exact (dss_cons (ds_if (dt_w (dw_or (dt_not (dt_val (de_callB call_isi (sn_isi A.isi) rfl A.f_isinstance bt_isinstance (da_cons (dv 0) (da_cons (de_ty rfl A.f_str bt_str) da_nil))))) (dw_or1 (dt_not (dt_chain op_le s2_IB op_le s2_IB de_int (de_callB call_len_str sn_lenS rfl A.f_len bt_len (da_cons (dv 0) da_nil)) de_int))))) (dss_one (ds_ret de_bl)) dss_nil)
 (dss_one (ds_ret (de_callB (cr_all rfl) sn_all rfl A.f_all bt_all (da_cons (de_lc rfl hN (di_str (dv 0)) (blkOk_by (own := [("letter", 1)]) (by show blkC N_is_name (defScope (top 14)) _ _ = true; decide +kernel)) (lcg_name (by decide)) (fun _ _ _ _ _ => (pg_name hN rfl (by first | exact Or.inl rfl | exact Or.inr rfl) (by first | exact .inl rfl | exact .inr rfl))) (fun _ _ _ _ _ => dts_nil) (fun _ _ _ _ _ => (de_cmp op_inS s2_inS (dv 1) (de_gstrE rfl A.c_SMALL) (by with_unfolding_all rfl)))) da_nil)))))
theorem Hd.ok_is_name (A : Hd K mg) : CallD P w K mg base 1 "is_name" ["thing"] sp_is_name := by
  obtain ⟨fd, F⟩ := A.c.def_ 18
  exact ⟨_, fd, A.g_is_name, F.kp, F.bindsN fun _ _ _ _ _ _ us hl => match us, hl with | [_], _ => rfl, def_ok F sc_is_name (fun ds μ Q Xd h => h.1) (fun cdv A2 fr s H E hr hgd => d_is_name A hr hgd) fun ds μ Q Xd h => h.2⟩
/-! History_keep_moves -/
abbrev N_History_keep_moves : List Str := ["self", "name", "moves"]
theorem sc_History_keep_moves : FnScope N_History_keep_moves ["self", "name", "moves"] (defScope (inClass (top 21) 2)) := ⟨rfl, rfl, rfl, by decide +kernel, rfl, by decide +kernel, by decide +kernel⟩
def w_History_keep_moves : WS := (sSeq (sIf (wNot (wB (wCall sp_is_name (wCons (wVar 1) wNil))))
  (sRaise "InvalidName" ["name"] (wCons (wVar 1) wNil))
  sNext)
 (sPutT (w1 (fFld "History" "kept_moves") (wVar 0)) (wVar 1) (wN fListOf (wCons (wVar 2) wNil))))
def sp_History_keep_moves : DSp := fun ds μ Q Xd => ds.length = 3 ∧ w_History_keep_moves (defE Q Xd) (startD N_History_keep_moves ds) μ
theorem d_History_keep_moves (A : Hd K mg) {cdv : Value} {A2 : Around} {fr : List Env} {s : Shared} {H : Hp} {E : XK} {f : Addr} (hr : Room 2 (A2.deeper (envOfC "Kept.keep_moves" (defScope (inClass (top 21) 2)) s.heap.objs.size f cdv))) (hgd : (A2.deeper (envOfC "Kept.keep_moves" (defScope (inClass (top 21) 2)) s.heap.objs.size f cdv)).guards = some []) :
    DSs none (fun cls d _ H2 => E cls d H2) (cxOf (L2.CX P w) P w K mg base N_History_keep_moves "Kept.keep_moves" (defScope (inClass (top 21) 2)) f cdv A2 fr s H E) (defBody (inClass (top 21) 2)) w_History_keep_moves := by
  have hN := (sc_History_keep_moves).nd
  exact (dss_cons (ds_if (dt_not (dt_val (de_callD A.ok_is_name hr (by decide) hgd rfl (takes_of rfl rfl rfl rfl) (da_cons (dv 1) da_nil)))) (dss_one (ds_raiseD A.rx_InvalidName rfl hr (by decide) rfl (takes_of rfl rfl rfl rfl) (da_cons (dv 1) da_nil))) dss_nil)
 (dss_one (ds_putT (have z := room2 hr; z) (de_fldD A.fl_History_kept_moves (dv 0)) (dv 1) (de_callTy call_list_of sn_listOf rfl A.f_list bt_list (da_cons (dv 2) da_nil)))))
theorem Hd.ok_History_keep_moves (A : Hd K mg) : MethD P w K mg base 3 "History" "keep_moves" ["self", "name", "moves"] sp_History_keep_moves := by
  obtain ⟨fd, F⟩ := A.c.def_ 19
  exact ⟨_, _, fd, A.g_History, He.cls_ok (A.c.fact 48), He.meth_ok (A.c.fact 65), F.bindsN fun _ _ _ _ _ _ us hl => match us, hl with | [_, _, _], _ => rfl, def_ok F sc_History_keep_moves (fun ds μ Q Xd h => h.1) (fun cdv A2 fr s H E hr hgd => d_History_keep_moves A hr hgd) fun ds μ Q Xd h => h.2⟩
/-! History_keep -/
abbrev N_History_keep : List Str := ["self", "name"]
theorem sc_History_keep : FnScope N_History_keep ["self", "name"] (defScope (inClass (top 22) 7)) := ⟨rfl, rfl, rfl, by decide +kernel, rfl, by decide +kernel, by decide +kernel⟩
def w_History_keep : WS := (sDrop (wMeth "History" "keep_moves" sp_History_keep_moves (wVar 0) (wCons (wVar 1) (wCons (w1 (fFld "History" "made") (wVar 0)) wNil))))
def sp_History_keep : DSp := fun ds μ Q Xd => ds.length = 2 ∧ w_History_keep (defE Q Xd) (startD N_History_keep ds) μ
theorem d_History_keep (A : Hd K mg) {cdv : Value} {A2 : Around} {fr : List Env} {s : Shared} {H : Hp} {E : XK} {f : Addr} (hr : Room 3 (A2.deeper (envOfC "History.keep" (defScope (inClass (top 22) 7)) s.heap.objs.size f cdv))) (hgd : (A2.deeper (envOfC "History.keep" (defScope (inClass (top 22) 7)) s.heap.objs.size f cdv)).guards = some []) :
    DSs none (fun cls d _ H2 => E cls d H2) (cxOf (L2.CX P w) P w K mg base N_History_keep "History.keep" (defScope (inClass (top 22) 7)) f cdv A2 fr s H E) (defBody (inClass (top 22) 7)) w_History_keep := by
  have hN := (sc_History_keep).nd
  exact (dss_one (ds_expr (de_methD A.ok_History_keep_moves hr (by decide) hgd (takes_of rfl rfl rfl rfl) (dv 0) (da_cons (dv 1) (da_cons (de_fldD A.fl_History_made (dv 0)) da_nil)))))
theorem Hd.ok_History_keep (A : Hd K mg) : MethD P w K mg base 4 "History" "keep" ["self", "name"] sp_History_keep := by
  obtain ⟨fd, F⟩ := A.c.def_ 20
  exact ⟨_, _, fd, A.g_History, He.cls_ok (A.c.fact 48), He.meth_ok (A.c.fact 66), F.bindsN fun _ _ _ _ _ _ us hl => match us, hl with | [_, _], _ => rfl, def_ok F sc_History_keep (fun ds μ Q Xd h => h.1) (fun cdv A2 fr s H E hr hgd => d_History_keep A hr hgd) fun ds μ Q Xd h => h.2⟩
/-! point_of -/
abbrev N_point_of : List Str := ["pair"]
theorem sc_point_of : FnScope N_point_of ["pair"] (defScope (top 19)) := ⟨rfl, rfl, rfl, by decide +kernel, rfl, by decide +kernel, by decide +kernel⟩
def w_point_of : WS := (sRet (wMake "Point" sp_Point_init (wCons (w2 fIx (wVar 0) (wC (.int (0)))) (wCons (w2 fIx (wVar 0) (wC (.int (1)))) wNil))))
def sp_point_of : DSp := fun ds μ Q Xd => ds.length = 1 ∧ w_point_of (defE Q Xd) (startD N_point_of ds) μ
theorem d_point_of (A : Hd K mg) {cdv : Value} {A2 : Around} {fr : List Env} {s : Shared} {H : Hp} {E : XK} {f : Addr} (hr : Room 4 (A2.deeper (envOfC "point_of" (defScope (top 19)) s.heap.objs.size f cdv))) (hgd : (A2.deeper (envOfC "point_of" (defScope (top 19)) s.heap.objs.size f cdv)).guards = some []) :
    DSs none (fun cls d _ H2 => E cls d H2) (cxOf (L2.CX P w) P w K mg base N_point_of "point_of" (defScope (top 19)) f cdv A2 fr s H E) (defBody (top 19)) w_point_of := by
  have hN := (sc_point_of).nd
  exact (dss_one (ds_ret (de_makeD A.ok_Point_init hr (by decide) hgd rfl (takes_of rfl rfl rfl rfl) (da_cons (de_item (dv 0) de_int) (da_cons (de_item (dv 0) de_int) da_nil)))))
theorem Hd.ok_point_of (A : Hd K mg) : CallD P w K mg base 5 "point_of" ["pair"] sp_point_of := by
  obtain ⟨fd, F⟩ := A.c.def_ 21
  exact ⟨_, fd, A.g_point_of, F.kp, F.bindsN fun _ _ _ _ _ _ us hl => match us, hl with | [_], _ => rfl, def_ok F sc_point_of (fun ds μ Q Xd h => h.1) (fun cdv A2 fr s H E hr hgd => d_point_of A hr hgd) fun ds μ Q Xd h => h.2⟩
/-! Net_getitem -/
abbrev N_Net_getitem : List Str := ["self", "index"]
theorem sc_Net_getitem : FnScope N_Net_getitem ["self", "index"] (defScope (inClass (top 28) 10)) := ⟨rfl, rfl, rfl, by decide +kernel, rfl, by decide +kernel, by decide +kernel⟩
def w_Net_getitem : WS := (sSeq (sDrop (wCall sp_check_between (wCons (wVar 1) (wCons (wC (.int (0))) (wCons (w2 fSub (wN fLen (wCons (w1 (fFld "Net" "pairs") (wVar 0)) wNil)) (wC (.int (1)))) wNil)))))
 (sRet (wCall sp_point_of (wCons (w2 fIx (w1 (fFld "Net" "pairs") (wVar 0)) (wN fInt1 (wCons (wVar 1) wNil))) wNil))))
def sp_Net_getitem : DSp := fun ds μ Q Xd => ds.length = 2 ∧ w_Net_getitem (defE Q Xd) (startD N_Net_getitem ds) μ
theorem d_Net_getitem (A : Hd K mg) {cdv : Value} {A2 : Around} {fr : List Env} {s : Shared} {H : Hp} {E : XK} {f : Addr} (hr : Room 5 (A2.deeper (envOfC "Net.__getitem__" (defScope (inClass (top 28) 10)) s.heap.objs.size f cdv))) (hgd : (A2.deeper (envOfC "Net.__getitem__" (defScope (inClass (top 28) 10)) s.heap.objs.size f cdv)).guards = some []) :
    DSs none (fun cls d _ H2 => E cls d H2) (cxOf (L2.CX P w) P w K mg base N_Net_getitem "Net.__getitem__" (defScope (inClass (top 28) 10)) f cdv A2 fr s H E) (defBody (inClass (top 28) 10)) w_Net_getitem := by
  have hN := (sc_Net_getitem).nd
  exact (dss_cons (ds_expr (de_callD A.ok_check_between hr (by decide) hgd rfl (takes_of rfl rfl rfl rfl) (da_cons (dv 1) (da_cons de_int (da_cons (de_sub (de_callB call_len_seq sn_len rfl A.f_len bt_len (da_cons (de_fldD A.fl_Net_pairs (dv 0)) da_nil)) de_int) da_nil)))))
 (dss_one (ds_ret (de_callD A.ok_point_of hr (by decide) hgd rfl (takes_of rfl rfl rfl rfl) (da_cons (de_item (de_fldD A.fl_Net_pairs (dv 0)) (de_callTy call_int1 sn_int1 rfl A.f_int bt_int (da_cons (dv 1) da_nil))) da_nil)))))
theorem Hd.sp_Net_getitem (A : Hd K mg) : SpcD P w K mg base 6 ["Net"] "__getitem__" ["self", "index"] sp_Net_getitem := by
  obtain ⟨fd, F⟩ := A.c.def_ 22
  obtain ⟨h, X, G⟩ := A.ex
  exact spcD_of X G (He.ba (He.ba (He.ba (He.ba (He.ba (He.ba (He.ba (He.ba (He.ba (He.ba (He.ba (He.ba (He.ba (He.ba (He.ba A.more).2).2).2).2).2).2).2).2).2).2).2).2).2).2).1 (F.bindsN fun _ _ _ _ _ _ us hl => match us, hl with | [_, _], _ => rfl) (def_ok F sc_Net_getitem (fun ds μ Q Xd h => h.1) (fun cdv A2 fr s H E hr hgd => d_Net_getitem A hr hgd) fun ds μ Q Xd h => h.2)
/-! Net_twin_C -/
abbrev N_Net_twin_C : List Str := ["self"]
theorem sc_Net_twin_C : FnScope N_Net_twin_C ["self"] (defScope (inClass (top 28) 5)) := ⟨rfl, rfl, rfl, by decide +kernel, rfl, by decide +kernel, by decide +kernel⟩
def w_Net_twin_C : WS := (sRet (wMakeC "Net" sp_Net_init (wCons (wN fListOf (wCons (w1 (fFld "Net" "pairs") (wVar 0)) wNil)) (wCons (w1 (fFld "Net" "own_triples") (wVar 0)) wNil))))
def sp_Net_twin_C : DSp := fun ds μ Q Xd => ds.length = 1 ∧ w_Net_twin_C (defE Q Xd) (startD N_Net_twin_C ds) μ
theorem d_Net_twin_C (A : Hd K mg) {cdv : Value} {A2 : Around} {fr : List Env} {s : Shared} {H : Hp} {E : XK} {f : Addr} (hr : Room 6 (A2.deeper (envOfC "Net.twin" (defScope (inClass (top 28) 5)) s.heap.objs.size f cdv))) (hgd : (A2.deeper (envOfC "Net.twin" (defScope (inClass (top 28) 5)) s.heap.objs.size f cdv)).guards = some []) :
    DSs none (fun cls d _ H2 => E cls d H2) (cxOf (L2.CX P w) P w K mg base N_Net_twin_C "Net.twin" (defScope (inClass (top 28) 5)) f cdv A2 fr s H E) (defBody (inClass (top 28) 5)) w_Net_twin_C := by
  have hN := (sc_Net_twin_C).nd
  exact (dss_one (ds_ret (de_makeDC A.ok_Net_init hr (by decide) hgd rfl (takes_of rfl rfl rfl rfl) (da_cons (de_callTy call_list_of sn_listOf rfl A.f_list bt_list (da_cons (de_fldD A.fl_Net_pairs (dv 0)) da_nil)) (da_cons (de_fldD A.fl_Net_own_triples (dv 0)) da_nil)))))
theorem Hd.ok_Net_twin_C (A : Hd K mg) : MethD P w K mg base 7 "Net" "twin" ["self"] sp_Net_twin_C := by
  obtain ⟨fd, F⟩ := A.c.def_ 23
  exact ⟨_, _, fd, A.g_Net, He.cls_ok (A.c.fact 54), He.meth_ok (A.c.fact 63), F.bindsN fun _ _ _ _ _ _ us hl => match us, hl with | [_], _ => rfl, def_ok F sc_Net_twin_C (fun ds μ Q Xd h => h.1) (fun cdv A2 fr s H E hr hgd => d_Net_twin_C A hr hgd) fun ds μ Q Xd h => h.2⟩
/-! History_move -/
abbrev N_History_move : List Str := ["self", "index", "point", "before", "net"]
theorem sc_History_move : FnScope N_History_move ["self", "index", "point"] (defScope (inClass (top 22) 3)) := ⟨rfl, rfl, rfl, by decide +kernel, rfl, by decide +kernel, by decide +kernel⟩
def w_History_move : WS := (sSeq (sSet 3 (wIxO ["Net"] sp_Net_getitem (w1 (fFld "History" "now") (wVar 0)) (wVar 1)))
 (sSeq (sSet 4 (wMeth "Net" "twin" sp_Net_twin_C (w1 (fFld "History" "now") (wVar 0)) wNil))
 (sSeq (sDrop (wMeth "Net" "put" sp_Net_put (wVar 4) (wCons (wVar 1) (wCons (wVar 2) wNil))))
 (sSeq (sFldL "History" "now" (wVar 0) (wVar 4))
 (sSeq (sFldL "History" "made" (wVar 0) (w2 fPlus (w1 (fFld "History" "made") (wVar 0)) (wLst (wCons (wTup (wCons (wVar 1) (wCons (wCall sp_numbers_of (wCons (wVar 2) wNil)) wNil))) wNil))))
 (sSeq (sFldL "History" "later" (wVar 0) (wLst wNil))
 (sRet (wVar 3))))))))
def sp_History_move : DSp := fun ds μ Q Xd => ds.length = 3 ∧ w_History_move (defE Q Xd) (startD N_History_move ds) μ
theorem d_History_move (A : Hd K mg) {cdv : Value} {A2 : Around} {fr : List Env} {s : Shared} {H : Hp} {E : XK} {f : Addr} (hr : Room 7 (A2.deeper (envOfC "History.move" (defScope (inClass (top 22) 3)) s.heap.objs.size f cdv))) (hgd : (A2.deeper (envOfC "History.move" (defScope (inClass (top 22) 3)) s.heap.objs.size f cdv)).guards = some []) :
    DSs none (fun cls d _ H2 => E cls d H2) (cxOf (L2.CX P w) P w K mg base N_History_move "History.move" (defScope (inClass (top 22) 3)) f cdv A2 fr s H E) (defBody (inClass (top 22) 3)) w_History_move := by
  have hN := (sc_History_move).nd
  exact (dss_cons (ds_set (i := 3) hN rfl (de_ixO A.sp_Net_getitem hr (by decide) hgd (takes_of rfl rfl rfl rfl) (de_fldD A.fl_History_now (dv 0)) (dv 1)))
 (dss_cons (ds_set (i := 4) hN rfl (de_methD0 A.ok_Net_twin_C hr (by decide) hgd (takes_of rfl rfl rfl rfl) (de_fldD A.fl_History_now (dv 0))))
 (dss_cons (ds_expr (de_methD A.ok_Net_put hr (by decide) hgd (takes_of rfl rfl rfl rfl) (dv 4) (da_cons (dv 1) (da_cons (dv 2) da_nil))))
 (dss_cons (ds_fldL A.fl_History_now (dv 0) (dv 4))
 (dss_cons (ds_fldL A.fl_History_made (dv 0) (de_plus (de_fldD A.fl_History_made (dv 0)) (de_lst (da_cons (de_tup (da_cons (dv 1) (da_cons (de_callD A.ok_numbers_of hr (by decide) hgd rfl (takes_of rfl rfl rfl rfl) (da_cons (dv 2) da_nil)) da_nil))) da_nil))))
 (dss_cons (ds_fldL A.fl_History_later (dv 0) (de_lst da_nil))
 (dss_one (ds_ret (dv 3)))))))))
theorem Hd.ok_History_move (A : Hd K mg) : MethD P w K mg base 8 "History" "move" ["self", "index", "point"] sp_History_move := by
  obtain ⟨fd, F⟩ := A.c.def_ 24
  exact ⟨_, _, fd, A.g_History, He.cls_ok (A.c.fact 48), He.meth_ok (A.c.fact 67), F.bindsN fun _ _ _ _ _ _ us hl => match us, hl with | [_, _, _], _ => rfl, def_ok F sc_History_move (fun ds μ Q Xd h => h.1) (fun cdv A2 fr s H E hr hgd => d_History_move A hr hgd) fun ds μ Q Xd h => h.2⟩
/-! History_replay -/
abbrev N_History_replay : List Str := ["self", "made", "later", "net", "index", "pair"]
theorem sc_History_replay : FnScope N_History_replay ["self", "made", "later"] (defScope (inClass (top 22) 4)) := ⟨rfl, rfl, rfl, by decide +kernel, rfl, by decide +kernel, by decide +kernel⟩
def w_History_replay : WS := (sSeq (sSet 3 (wMeth "Net" "twin" sp_Net_twin_C (w1 (fFld "History" "begin") (wVar 0)) wNil))
 (sSeq (sFor (wiL (wVar 1)) (kTup 2 (kCons (kName 4) (kCons (kName 5) kNil)))
  (sDrop (wMeth "Net" "put" sp_Net_put (wVar 3) (wCons (wVar 4) (wCons (wVar 5) wNil)))))
 (sSeq (sFldL "History" "now" (wVar 0) (wVar 3))
 (sSeq (sFldL "History" "made" (wVar 0) (wVar 1))
 (sFldL "History" "later" (wVar 0) (wVar 2))))))
def sp_History_replay : DSp := fun ds μ Q Xd => ds.length = 3 ∧ w_History_replay (defE Q Xd) (startD N_History_replay ds) μ
theorem d_History_replay (A : Hd K mg) {cdv : Value} {A2 : Around} {fr : List Env} {s : Shared} {H : Hp} {E : XK} {f : Addr} (hr : Room 7 (A2.deeper (envOfC "History.replay" (defScope (inClass (top 22) 4)) s.heap.objs.size f cdv))) (hgd : (A2.deeper (envOfC "History.replay" (defScope (inClass (top 22) 4)) s.heap.objs.size f cdv)).guards = some []) :
    DSs none (fun cls d _ H2 => E cls d H2) (cxOf (L2.CX P w) P w K mg base N_History_replay "History.replay" (defScope (inClass (top 22) 4)) f cdv A2 fr s H E) (defBody (inClass (top 22) 4)) w_History_replay := by
  have hN := (sc_History_replay).nd
  exact (dss_cons (ds_set (i := 3) hN rfl (de_methD0 A.ok_Net_twin_C hr (by decide) hgd (takes_of rfl rfl rfl rfl) (de_fldD A.fl_History_begin (dv 0))))
 (dss_cons (ds_for (passes_of rfl) rfl (di_list (dv 1)) (dg_tup rfl (dgs_cons (dg_name hN rfl) (dgs_cons (dg_name hN rfl) dgs_nil))) (dss_one (ds_expr (de_methD A.ok_Net_put hr (by decide) hgd (takes_of rfl rfl rfl rfl) (dv 3) (da_cons (dv 4) (da_cons (dv 5) da_nil))))))
 (dss_cons (ds_fldL A.fl_History_now (dv 0) (dv 3))
 (dss_cons (ds_fldL A.fl_History_made (dv 0) (dv 1))
 (dss_one (ds_fldL A.fl_History_later (dv 0) (dv 2)))))))
theorem Hd.ok_History_replay (A : Hd K mg) : MethD P w K mg base 8 "History" "replay" ["self", "made", "later"] sp_History_replay := by
  obtain ⟨fd, F⟩ := A.c.def_ 25
  exact ⟨_, _, fd, A.g_History, He.cls_ok (A.c.fact 48), He.meth_ok (A.c.fact 68), F.bindsN fun _ _ _ _ _ _ us hl => match us, hl with | [_, _, _], _ => rfl, def_ok F sc_History_replay (fun ds μ Q Xd h => h.1) (fun cdv A2 fr s H E hr hgd => d_History_replay A hr hgd) fun ds μ Q Xd h => h.2⟩
/-! History_redo -/
abbrev N_History_redo : List Str := ["self", "many"]
theorem sc_History_redo : FnScope N_History_redo ["self", "many"] (defScope (inClass (top 22) 6)) := ⟨rfl, rfl, rfl, by decide +kernel, rfl, by decide +kernel, by decide +kernel⟩
def w_History_redo : WS := (sSeq (sIf (wNot (wB (wCall sp_is_between (wCons (wVar 1) (wCons (wC (.int (1))) (wCons (wN fLen (wCons (w1 (fFld "History" "later") (wVar 0)) wNil)) wNil))))))
  (sRaise "NothingLeft" ["many"] (wCons (wVar 1) wNil))
  sNext)
 (sSeq (sDrop (wMeth "History" "replay" sp_History_replay (wVar 0) (wCons (w2 fPlus (w1 (fFld "History" "made") (wVar 0)) (wSl (w1 (fFld "History" "later") (wVar 0)) oNone (oSome (wVar 1)))) (wCons (wSl (w1 (fFld "History" "later") (wVar 0)) (oSome (wVar 1)) oNone) wNil))))
 (sRet (wN fLen (wCons (w1 (fFld "History" "made") (wVar 0)) wNil)))))
def sp_History_redo : DSp := fun ds μ Q Xd => ds.length = 2 ∧ w_History_redo (defE Q Xd) (startD N_History_redo ds) μ
theorem d_History_redo (A : Hd K mg) {cdv : Value} {A2 : Around} {fr : List Env} {s : Shared} {H : Hp} {E : XK} {f : Addr} (hr : Room 8 (A2.deeper (envOfC "History.redo" (defScope (inClass (top 22) 6)) s.heap.objs.size f cdv))) (hgd : (A2.deeper (envOfC "History.redo" (defScope (inClass (top 22) 6)) s.heap.objs.size f cdv)).guards = some []) :
    DSs none (fun cls d _ H2 => E cls d H2) (cxOf (L2.CX P w) P w K mg base N_History_redo "History.redo" (defScope (inClass (top 22) 6)) f cdv A2 fr s H E) (defBody (inClass (top 22) 6)) w_History_redo := by
  have hN := (sc_History_redo).nd
  exact (dss_cons (ds_if (dt_not (dt_val (de_callD A.ok_is_between hr (by decide) hgd rfl (takes_of rfl rfl rfl rfl) (da_cons (dv 1) (da_cons de_int (da_cons (de_callB call_len_seq sn_len rfl A.f_len bt_len (da_cons (de_fldD A.fl_History_later (dv 0)) da_nil)) da_nil)))))) (dss_one (ds_raiseD A.rx_NothingLeft rfl hr (by decide) rfl (takes_of rfl rfl rfl rfl) (da_cons (dv 1) da_nil))) dss_nil)
 (dss_cons (ds_expr (de_methD A.ok_History_replay hr (by decide) hgd (takes_of rfl rfl rfl rfl) (dv 0) (da_cons (de_plus (de_fldD A.fl_History_made (dv 0)) (de_slice (de_fldD A.fl_History_later (dv 0)) do_none (do_some (dv 1)))) (da_cons (de_slice (de_fldD A.fl_History_later (dv 0)) (do_some (dv 1)) do_none) da_nil))))
 (dss_one (ds_ret (de_callB call_len_seq sn_len rfl A.f_len bt_len (da_cons (de_fldD A.fl_History_made (dv 0)) da_nil))))))
theorem Hd.ok_History_redo (A : Hd K mg) : MethD P w K mg base 9 "History" "redo" ["self", "many"] sp_History_redo := by
  obtain ⟨fd, F⟩ := A.c.def_ 26
  exact ⟨_, _, fd, A.g_History, He.cls_ok (A.c.fact 48), He.meth_ok (A.c.fact 69), F.bindsN fun _ _ _ _ _ _ us hl => match us, hl with | [_, _], _ => rfl, def_ok F sc_History_redo (fun ds μ Q Xd h => h.1) (fun cdv A2 fr s H E hr hgd => d_History_redo A hr hgd) fun ds μ Q Xd h => h.2⟩
/-! History_moves_at -/
abbrev N_History_moves_at : List Str := ["self", "name"]
theorem sc_History_moves_at : FnScope N_History_moves_at ["self", "name"] (defScope (inClass (top 21) 3)) := ⟨rfl, rfl, rfl, by decide +kernel, rfl, by decide +kernel, by decide +kernel⟩
def w_History_moves_at : WS := (sSeq (sIf (wOr (wNot (wB (wN (fIsi isiT) (wCons (wVar 1) (wCons (wC (.ty "str")) wNil))))) (wB (w2 (fInT true) (wVar 1) (w1 (fFld "History" "kept_moves") (wVar 0)))))
  (sRaise "UnknownName" ["name"] (wCons (wVar 1) wNil))
  sNext)
 (sRet (wN fListOf (wCons (w2 fGetT (w1 (fFld "History" "kept_moves") (wVar 0)) (wVar 1)) wNil))))
def sp_History_moves_at : DSp := fun ds μ Q Xd => ds.length = 2 ∧ w_History_moves_at (defE Q Xd) (startD N_History_moves_at ds) μ
theorem d_History_moves_at (A : Hd K mg) {cdv : Value} {A2 : Around} {fr : List Env} {s : Shared} {H : Hp} {E : XK} {f : Addr} (hr : Room 2 (A2.deeper (envOfC "Kept.moves_at" (defScope (inClass (top 21) 3)) s.heap.objs.size f cdv))) (hgd : (A2.deeper (envOfC "Kept.moves_at" (defScope (inClass (top 21) 3)) s.heap.objs.size f cdv)).guards = some []) :
    DSs none (fun cls d _ H2 => E cls d H2) (cxOf (L2.CX P w) P w K mg base N_History_moves_at "Kept.moves_at" (defScope (inClass (top 21) 3)) f cdv A2 fr s H E) (defBody (inClass (top 21) 3)) w_History_moves_at := by
  have hN := (sc_History_moves_at).nd
  exact (dss_cons (ds_if (dt_w (dw_or (dt_not (dt_val (de_callB call_isi (sn_isi A.isi) rfl A.f_isinstance bt_isinstance (da_cons (dv 1) (da_cons (de_ty rfl A.f_str bt_str) da_nil))))) (dw_or1 (dt_notInT (have z := room2 hr; z) (dv 1) (de_fldD A.fl_History_kept_moves (dv 0)))))) (dss_one (ds_raiseD A.rx_UnknownName rfl hr (by decide) rfl (takes_of rfl rfl rfl rfl) (da_cons (dv 1) da_nil))) dss_nil)
 (dss_one (ds_ret (de_callTy call_list_of sn_listOf rfl A.f_list bt_list (da_cons (de_getT (have z := room2 hr; z) (de_fldD A.fl_History_kept_moves (dv 0)) (dv 1)) da_nil)))))
theorem Hd.ok_History_moves_at (A : Hd K mg) : MethD P w K mg base 3 "History" "moves_at" ["self", "name"] sp_History_moves_at := by
  obtain ⟨fd, F⟩ := A.c.def_ 27
  exact ⟨_, _, fd, A.g_History, He.cls_ok (A.c.fact 48), He.meth_ok (A.c.fact 70), F.bindsN fun _ _ _ _ _ _ us hl => match us, hl with | [_, _], _ => rfl, def_ok F sc_History_moves_at (fun ds μ Q Xd h => h.1) (fun cdv A2 fr s H E hr hgd => d_History_moves_at A hr hgd) fun ds μ Q Xd h => h.2⟩
/-! History_turn -/
abbrev N_History_turn : List Str := ["self", "name"]
theorem sc_History_turn : FnScope N_History_turn ["self", "name"] (defScope (inClass (top 22) 8)) := ⟨rfl, rfl, rfl, by decide +kernel, rfl, by decide +kernel, by decide +kernel⟩
def w_History_turn : WS := (sSeq (sDrop (wMeth "History" "replay" sp_History_replay (wVar 0) (wCons (wMeth "History" "moves_at" sp_History_moves_at (wVar 0) (wCons (wVar 1) wNil)) (wCons (wLst wNil) wNil))))
 (sRet (wN fLen (wCons (w1 (fFld "History" "made") (wVar 0)) wNil))))
def sp_History_turn : DSp := fun ds μ Q Xd => ds.length = 2 ∧ w_History_turn (defE Q Xd) (startD N_History_turn ds) μ
theorem d_History_turn (A : Hd K mg) {cdv : Value} {A2 : Around} {fr : List Env} {s : Shared} {H : Hp} {E : XK} {f : Addr} (hr : Room 8 (A2.deeper (envOfC "History.turn" (defScope (inClass (top 22) 8)) s.heap.objs.size f cdv))) (hgd : (A2.deeper (envOfC "History.turn" (defScope (inClass (top 22) 8)) s.heap.objs.size f cdv)).guards = some []) :
    DSs none (fun cls d _ H2 => E cls d H2) (cxOf (L2.CX P w) P w K mg base N_History_turn "History.turn" (defScope (inClass (top 22) 8)) f cdv A2 fr s H E) (defBody (inClass (top 22) 8)) w_History_turn := by
  have hN := (sc_History_turn).nd
  exact (dss_cons (ds_expr (de_methD A.ok_History_replay hr (by decide) hgd (takes_of rfl rfl rfl rfl) (dv 0) (da_cons (de_methD A.ok_History_moves_at hr (by decide) hgd (takes_of rfl rfl rfl rfl) (dv 0) (da_cons (dv 1) da_nil)) (da_cons (de_lst da_nil) da_nil))))
 (dss_one (ds_ret (de_callB call_len_seq sn_len rfl A.f_len bt_len (da_cons (de_fldD A.fl_History_made (dv 0)) da_nil)))))
theorem Hd.ok_History_turn (A : Hd K mg) : MethD P w K mg base 9 "History" "turn" ["self", "name"] sp_History_turn := by
  obtain ⟨fd, F⟩ := A.c.def_ 28
  exact ⟨_, _, fd, A.g_History, He.cls_ok (A.c.fact 48), He.meth_ok (A.c.fact 71), F.bindsN fun _ _ _ _ _ _ us hl => match us, hl with | [_, _], _ => rfl, def_ok F sc_History_turn (fun ds μ Q Xd h => h.1) (fun cdv A2 fr s H E hr hgd => d_History_turn A hr hgd) fun ds μ Q Xd h => h.2⟩
/-! History_undo -/
abbrev N_History_undo : List Str := ["self", "many", "at"]
theorem sc_History_undo : FnScope N_History_undo ["self", "many"] (defScope (inClass (top 22) 5)) := ⟨rfl, rfl, rfl, by decide +kernel, rfl, by decide +kernel, by decide +kernel⟩
def w_History_undo : WS := (sSeq (sIf (wNot (wB (wCall sp_is_between (wCons (wVar 1) (wCons (wC (.int (1))) (wCons (wN fLen (wCons (w1 (fFld "History" "made") (wVar 0)) wNil)) wNil))))))
  (sRaise "NothingLeft" ["many"] (wCons (wVar 1) wNil))
  sNext)
 (sSeq (sSet 2 (w2 fSub (wN fLen (wCons (w1 (fFld "History" "made") (wVar 0)) wNil)) (wVar 1)))
 (sSeq (sDrop (wMeth "History" "replay" sp_History_replay (wVar 0) (wCons (wSl (w1 (fFld "History" "made") (wVar 0)) oNone (oSome (wVar 2))) (wCons (w2 fPlus (wSl (w1 (fFld "History" "made") (wVar 0)) (oSome (wVar 2)) oNone) (w1 (fFld "History" "later") (wVar 0))) wNil))))
 (sRet (wVar 2)))))
def sp_History_undo : DSp := fun ds μ Q Xd => ds.length = 2 ∧ w_History_undo (defE Q Xd) (startD N_History_undo ds) μ
theorem d_History_undo (A : Hd K mg) {cdv : Value} {A2 : Around} {fr : List Env} {s : Shared} {H : Hp} {E : XK} {f : Addr} (hr : Room 8 (A2.deeper (envOfC "History.undo" (defScope (inClass (top 22) 5)) s.heap.objs.size f cdv))) (hgd : (A2.deeper (envOfC "History.undo" (defScope (inClass (top 22) 5)) s.heap.objs.size f cdv)).guards = some []) :
    DSs none (fun cls d _ H2 => E cls d H2) (cxOf (L2.CX P w) P w K mg base N_History_undo "History.undo" (defScope (inClass (top 22) 5)) f cdv A2 fr s H E) (defBody (inClass (top 22) 5)) w_History_undo := by
  have hN := (sc_History_undo).nd
  exact (dss_cons (ds_if (dt_not (dt_val (de_callD A.ok_is_between hr (by decide) hgd rfl (takes_of rfl rfl rfl rfl) (da_cons (dv 1) (da_cons de_int (da_cons (de_callB call_len_seq sn_len rfl A.f_len bt_len (da_cons (de_fldD A.fl_History_made (dv 0)) da_nil)) da_nil)))))) (dss_one (ds_raiseD A.rx_NothingLeft rfl hr (by decide) rfl (takes_of rfl rfl rfl rfl) (da_cons (dv 1) da_nil))) dss_nil)
 (dss_cons (ds_set (i := 2) hN rfl (de_sub (de_callB call_len_seq sn_len rfl A.f_len bt_len (da_cons (de_fldD A.fl_History_made (dv 0)) da_nil)) (dv 1)))
 (dss_cons (ds_expr (de_methD A.ok_History_replay hr (by decide) hgd (takes_of rfl rfl rfl rfl) (dv 0) (da_cons (de_slice (de_fldD A.fl_History_made (dv 0)) do_none (do_some (dv 2))) (da_cons (de_plus (de_slice (de_fldD A.fl_History_made (dv 0)) (do_some (dv 2)) do_none) (de_fldD A.fl_History_later (dv 0))) da_nil))))
 (dss_one (ds_ret (dv 2))))))
theorem Hd.ok_History_undo (A : Hd K mg) : MethD P w K mg base 9 "History" "undo" ["self", "many"] sp_History_undo := by
  obtain ⟨fd, F⟩ := A.c.def_ 29
  exact ⟨_, _, fd, A.g_History, He.cls_ok (A.c.fact 48), He.meth_ok (A.c.fact 72), F.bindsN fun _ _ _ _ _ _ us hl => match us, hl with | [_, _], _ => rfl, def_ok F sc_History_undo (fun ds μ Q Xd h => h.1) (fun cdv A2 fr s H E hr hgd => d_History_undo A hr hgd) fun ds μ Q Xd h => h.2⟩
/-! Point_pair -/
abbrev N_Point_pair : List Str := ["self"]
theorem sc_Point_pair : FnScope N_Point_pair ["self"] (defScope (inClass (top 16) 2)) := ⟨rfl, rfl, rfl, by decide +kernel, rfl, by decide +kernel, by decide +kernel⟩
def w_Point_pair : WS := (sRet (wTup (wCons (w1 (fFld "Point" "x") (wVar 0)) (wCons (w1 (fFld "Point" "y") (wVar 0)) wNil))))
def sp_Point_pair : DSp := fun ds μ Q Xd => ds.length = 1 ∧ w_Point_pair (defE Q Xd) (startD N_Point_pair ds) μ
theorem d_Point_pair (A : Hd K mg) {cdv : Value} {A2 : Around} {fr : List Env} {s : Shared} {H : Hp} {E : XK} {f : Addr} (hr : Room 0 (A2.deeper (envOfC "Point.pair" (defScope (inClass (top 16) 2)) s.heap.objs.size f cdv))) (hgd : (A2.deeper (envOfC "Point.pair" (defScope (inClass (top 16) 2)) s.heap.objs.size f cdv)).guards = some []) :
    DSs none (fun cls d _ H2 => E cls d H2) (cxOf (L2.CX P w) P w K mg base N_Point_pair "Point.pair" (defScope (inClass (top 16) 2)) f cdv A2 fr s H E) (defBody (inClass (top 16) 2)) w_Point_pair := by
  have hN := (sc_Point_pair).nd
  exact (dss_one (ds_ret (de_tup (da_cons (de_fldD A.fl_Point_x (dv 0)) (da_cons (de_fldD A.fl_Point_y (dv 0)) da_nil)))))
theorem Hd.ok_Point_pair (A : Hd K mg) : MethD P w K mg base 1 "Point" "pair" ["self"] sp_Point_pair := by
  obtain ⟨fd, F⟩ := A.c.def_ 30
  exact ⟨_, _, fd, A.g_Point, He.cls_ok (A.c.fact 57), He.meth_ok (A.c.fact 73), F.bindsN fun _ _ _ _ _ _ us hl => match us, hl with | [_], _ => rfl, def_ok F sc_Point_pair (fun ds μ Q Xd h => h.1) (fun cdv A2 fr s H E hr hgd => d_Point_pair A hr hgd) fun ds μ Q Xd h => h.2⟩
/-! _law_error -/
abbrev N__law_error : List Str := ["e", "word"]
theorem sc__law_error : FnScope N__law_error ["e"] (defScope (top 35)) := ⟨rfl, rfl, rfl, by decide +kernel, rfl, by decide +kernel, by decide +kernel⟩
def w__law_error : WS := (sSeq (sIf (wB (wIsE (isxF isxL) 0 "InvalidNumber"))
  (sRet (wTup (wCons (wC (.str "number")) (wCons (wN fRepr (wCons (wXf xfC_number 0 "number") wNil)) wNil))))
  sNext)
 (sSeq (sIf (wB (wIsE (isxF isxL) 0 "InvalidPoint"))
  (sRet (wTup (wCons (wC (.str "point")) (wCons (wN fRepr (wCons (wXf xfC_thing 0 "thing") wNil)) wNil))))
  sNext)
 (sSeq (sIf (wB (wIsE (isxF isxL) 0 "NothingLeft"))
  (sRet (wTup (wCons (wC (.str "left")) (wCons (wN fRepr (wCons (wXf xfC_many 0 "many") wNil)) wNil))))
  sNext)
 (sSeq (sSet 1 (wIf (wB (wIsE (isxF isxL) 0 "InvalidName")) (wC (.str "name")) (wC (.str "unknown"))))
 (sRet (wTup (wCons (wVar 1) (wCons (wAndV (wIsE2 (isxF isxL) 0 "InvalidName" "UnknownName") (wN fRepr (wCons (wXf xfC_name 0 "name") wNil))) wNil))))))))
def sp__law_error : XSp := fun c ks es μ Q => w__law_error (defE Q fun _ _ _ _ => False) (startX N__law_error c ks es) μ
theorem d__law_error (A : Hd K mg) {cdv : Value} {A2 : Around} {fr : List Env} {s : Shared} {H : Hp} {E : XK} {f : Addr} {a : Addr} {oe : Obj} {cls : Value} {d : Option Addr} (hr : L2H.RoomH 0 (A2.deeper (envOfC "_law_error" (defScope (top 35)) s.heap.objs.size f cdv))) (hgd : (A2.deeper (envOfC "_law_error" (defScope (top 35)) s.heap.objs.size f cdv)).guards = some []) (hz : Zc cls d oe) (hf : ∃ vs, oe.data = .fields vs) :
    DSs (exOf a cls d) WF ((cxOf (L2.CX P w) P w K mg base N__law_error "_law_error" (defScope (top 35)) f cdv A2 fr s H E).suite a [(a, oe)]) (defBody (top 35)) w__law_error := by
  have hN := (sc__law_error).nd
  exact (dss_cons (ds_if (dt_val (de_isX (i := 0) A.isx hz hf rfl A.f_isinstance rfl rfl A.g_InvalidNumber)) (dss_one (ds_ret (de_tup (da_cons de_str (da_cons (de_callB (call_reprD hgd (have z := room64H hr; z)) sn_repr rfl A.f_repr bt_repr (da_cons (de_xf (i := 0) (cs := xfC_number) hz hf A.xf_number rfl) da_nil)) da_nil))))) dss_nil)
 (dss_cons (ds_if (dt_val (de_isX (i := 0) A.isx hz hf rfl A.f_isinstance rfl rfl A.g_InvalidPoint)) (dss_one (ds_ret (de_tup (da_cons de_str (da_cons (de_callB (call_reprD hgd (have z := room64H hr; z)) sn_repr rfl A.f_repr bt_repr (da_cons (de_xf (i := 0) (cs := xfC_thing) hz hf A.xf_thing rfl) da_nil)) da_nil))))) dss_nil)
 (dss_cons (ds_if (dt_val (de_isX (i := 0) A.isx hz hf rfl A.f_isinstance rfl rfl A.g_NothingLeft)) (dss_one (ds_ret (de_tup (da_cons de_str (da_cons (de_callB (call_reprD hgd (have z := room64H hr; z)) sn_repr rfl A.f_repr bt_repr (da_cons (de_xf (i := 0) (cs := xfC_many) hz hf A.xf_many rfl) da_nil)) da_nil))))) dss_nil)
 (dss_cons (ds_set (i := 1) hN rfl (de_if (dt_val (de_isX (i := 0) A.isx hz hf rfl A.f_isinstance rfl rfl A.g_InvalidName)) de_str de_str))
 (dss_one (ds_ret (de_tup (da_cons (dv 1) (da_cons (de_and (de_isX2 (i := 0) A.isx hz hf rfl A.f_isinstance rfl rfl A.g_InvalidName rfl A.g_UnknownName) (de_one (de_callB (call_reprD hgd (have z := room64H hr; z)) sn_repr rfl A.f_repr bt_repr (da_cons (de_xf (i := 0) (cs := xfC_name) hz hf A.xf_name rfl) da_nil)))) da_nil)))))))))
theorem Hd.ok__law_error (A : Hd K mg) : HotD P w K mg base 1 "_law_error" ["e"] sp__law_error := by
  obtain ⟨fd, F⟩ := A.c.def_ 31
  exact ⟨_, fd, A.g__law_error, F.kp, F.bindsN fun _ _ _ _ _ _ us hl => match us, hl with | [_], _ => rfl, def_okX F sc__law_error rfl fun cdv A2 fr s H E a oe cls d hr hgd hz hf => d__law_error A hr hgd hz hf⟩
/-! _law_do -/
abbrev N__law_do : List Str := ["history", "call", "e"]
theorem sc__law_do : FnScope N__law_do ["history", "call"] (defScope (top 36)) := ⟨rfl, rfl, rfl, by decide +kernel, rfl, by decide +kernel, by decide +kernel⟩
def w__law_do : WS := (sTry (catF catL_FillError) 2 (sSeq (sIf (wB (w2 fEqU (w2 fIx (wVar 1) (wC (.int (0)))) (wC (.str "move"))))
  (sRet (wTup (wCons (wC (.str "told")) (wCons (wMeth "Point" "pair" sp_Point_pair (wMeth "History" "move" sp_History_move (wVar 0) (wCons (w2 fIx (wVar 1) (wC (.int (1)))) (wCons (w2 fIx (wVar 1) (wC (.int (2)))) wNil))) wNil) wNil))))
  sNext)
 (sSeq (sIf (wB (w2 fEqU (w2 fIx (wVar 1) (wC (.int (0)))) (wC (.str "undo"))))
  (sRet (wTup (wCons (wC (.str "told")) (wCons (wMeth "History" "undo" sp_History_undo (wVar 0) (wCons (w2 fIx (wVar 1) (wC (.int (1)))) wNil)) wNil))))
  sNext)
 (sSeq (sIf (wB (w2 fEqU (w2 fIx (wVar 1) (wC (.int (0)))) (wC (.str "redo"))))
  (sRet (wTup (wCons (wC (.str "told")) (wCons (wMeth "History" "redo" sp_History_redo (wVar 0) (wCons (w2 fIx (wVar 1) (wC (.int (1)))) wNil)) wNil))))
  sNext)
 (sRet (wIf (wB (w2 fEqU (w2 fIx (wVar 1) (wC (.int (0)))) (wC (.str "keep")))) (wTup (wCons (wC (.str "told")) (wCons (wMeth "History" "keep" sp_History_keep (wVar 0) (wCons (w2 fIx (wVar 1) (wC (.int (1)))) wNil)) wNil))) (wTup (wCons (wC (.str "told")) (wCons (wMeth "History" "turn" sp_History_turn (wVar 0) (wCons (w2 fIx (wVar 1) (wC (.int (1)))) wNil)) wNil)))))))) (sRet (wHotX sp__law_error 2)))
def sp__law_do : DSp := fun ds μ Q Xd => ds.length = 2 ∧ w__law_do (defE Q Xd) (startD N__law_do ds) μ
theorem d__law_do (A : Hd K mg) {cdv : Value} {A2 : Around} {fr : List Env} {s : Shared} {H : Hp} {E : XK} {f : Addr} (hr : Room 9 (A2.deeper (envOfC "_law_do" (defScope (top 36)) s.heap.objs.size f cdv))) (hgd : (A2.deeper (envOfC "_law_do" (defScope (top 36)) s.heap.objs.size f cdv)).guards = some []) :
    DSs none (fun cls d _ H2 => E cls d H2) (cxOf (L2.CX P w) P w K mg base N__law_do "_law_do" (defScope (top 36)) f cdv A2 fr s H E) (defBody (top 36)) w__law_do := by
  have hN := (sc__law_do).nd
  exact (dss_one (ds_try (i := 2) rfl rfl hN rfl rfl ⟨rfl, by decide, .inl A.cat_FillError.2⟩ (takes_of rfl rfl rfl rfl) A.cat_FillError.1 (fun W2 pn xe tk2 po2 => (dss_cons (ds_if (dt_cmp (op_eqU (have z := room64 hr; z)) s2_eqU (de_item (dv 1) de_int) de_str (nomark _)) (dss_one (ds_ret (de_tup (da_cons de_str (da_cons (de_methD0 A.ok_Point_pair hr (by decide) hgd tk2 (de_methD A.ok_History_move hr (by decide) hgd tk2 (dv 0) (da_cons (de_item (dv 1) de_int) (da_cons (de_item (dv 1) de_int) da_nil)))) da_nil))))) dss_nil)
 (dss_cons (ds_if (dt_cmp (op_eqU (have z := room64 hr; z)) s2_eqU (de_item (dv 1) de_int) de_str (nomark _)) (dss_one (ds_ret (de_tup (da_cons de_str (da_cons (de_methD A.ok_History_undo hr (by decide) hgd tk2 (dv 0) (da_cons (de_item (dv 1) de_int) da_nil)) da_nil))))) dss_nil)
 (dss_cons (ds_if (dt_cmp (op_eqU (have z := room64 hr; z)) s2_eqU (de_item (dv 1) de_int) de_str (nomark _)) (dss_one (ds_ret (de_tup (da_cons de_str (da_cons (de_methD A.ok_History_redo hr (by decide) hgd tk2 (dv 0) (da_cons (de_item (dv 1) de_int) da_nil)) da_nil))))) dss_nil)
 (dss_one (ds_ret (de_if (dt_cmp (op_eqU (have z := room64 hr; z)) s2_eqU (de_item (dv 1) de_int) de_str (nomark _)) (de_tup (da_cons de_str (da_cons (de_methD A.ok_History_keep hr (by decide) hgd tk2 (dv 0) (da_cons (de_item (dv 1) de_int) da_nil)) da_nil))) (de_tup (da_cons de_str (da_cons (de_methD A.ok_History_turn hr (by decide) hgd tk2 (dv 0) (da_cons (de_item (dv 1) de_int) da_nil)) da_nil)))))))))) (fun a oe cls d pn hz hf => (dss_one (ds_ret (de_hotX (i := 2) A.ok__law_error hr (by decide) hgd hz hf rfl rfl))))))
theorem Hd.ok__law_do (A : Hd K mg) : CallD P w K mg base 10 "_law_do" ["history", "call"] sp__law_do := by
  obtain ⟨fd, F⟩ := A.c.def_ 32
  exact ⟨_, fd, A.g__law_do, F.kp, F.bindsN fun _ _ _ _ _ _ us hl => match us, hl with | [_, _], _ => rfl, def_ok F sc__law_do (fun ds μ Q Xd h => h.1) (fun cdv A2 fr s H E hr hgd => d__law_do A hr hgd) fun ds μ Q Xd h => h.2⟩
/-! _law_is_number -/
abbrev N__law_is_number : List Str := ["thing", "least", "most"]
theorem sc__law_is_number : FnScope N__law_is_number ["thing", "least", "most"] (defScope (top 38)) := ⟨rfl, rfl, rfl, by decide +kernel, rfl, by decide +kernel, by decide +kernel⟩
def w__law_is_number : WS := (sRet (wAndV (wN (fIsi isiT) (wCons (wVar 0) (wCons (wC (.ty "int")) wNil))) (wAndV (wNotV (wN (fIsi isiT) (wCons (wVar 0) (wCons (wC (.ty "bool")) wNil)))) (wChain fLe fLe (wVar 1) (wVar 0) (wVar 2)))))
def sp__law_is_number : DSp := fun ds μ Q Xd => ds.length = 3 ∧ w__law_is_number (defE Q Xd) (startD N__law_is_number ds) μ
theorem d__law_is_number (A : Hd K mg) {cdv : Value} {A2 : Around} {fr : List Env} {s : Shared} {H : Hp} {E : XK} {f : Addr} (hr : Room 0 (A2.deeper (envOfC "_law_is_number" (defScope (top 38)) s.heap.objs.size f cdv))) (hgd : (A2.deeper (envOfC "_law_is_number" (defScope (top 38)) s.heap.objs.size f cdv)).guards = some []) :
    DSs none (fun cls d _ H2 => E cls d H2) (cxOf (L2.CX P w) P w K mg base N__law_is_number "_law_is_number" (defScope (top 38)) f cdv A2 fr s H E) (defBody (top 38)) w__law_is_number := by
  have hN := (sc__law_is_number).nd
  exact (dss_one (ds_ret (de_and (de_callB call_isi (sn_isi A.isi) rfl A.f_isinstance bt_isinstance (da_cons (dv 0) (da_cons (de_ty rfl A.f_int bt_int) da_nil))) (de_and (de_not (de_callB call_isi (sn_isi A.isi) rfl A.f_isinstance bt_isinstance (da_cons (dv 0) (da_cons (de_ty rfl A.f_bool bt_bool) da_nil)))) (de_one (de_chain op_le s2_IB op_le s2_IB (dv 1) (dv 0) (dv 2)))))))
theorem Hd.ok__law_is_number (A : Hd K mg) : CallD P w K mg base 1 "_law_is_number" ["thing", "least", "most"] sp__law_is_number := by
  obtain ⟨fd, F⟩ := A.c.def_ 33
  exact ⟨_, fd, A.g__law_is_number, F.kp, F.bindsN fun _ _ _ _ _ _ us hl => match us, hl with | [_, _, _], _ => rfl, def_ok F sc__law_is_number (fun ds μ Q Xd h => h.1) (fun cdv A2 fr s H E hr hgd => d__law_is_number A hr hgd) fun ds μ Q Xd h => h.2⟩
/-! _law_now -/
abbrev N__law_now : List Str := ["world", "pairs", "index", "p"]
theorem sc__law_now : FnScope N__law_now ["world"] (defScope (top 37)) := ⟨rfl, rfl, rfl, by decide +kernel, rfl, by decide +kernel, by decide +kernel⟩
def w__law_now : WS := (sSeq (sSetLst 1 (w2 fGetT (wVar 0) (wC (.str "pairs"))))
 (sSeq (sFor (wiL (w2 fGetT (wVar 0) (wC (.str "made")))) (kTup 2 (kCons (kName 2) (kCons (kName 3) kNil)))
  (sAsg (wVar 3) (kSubO 1 (wVar 2))))
 (sFrz 1 (sRet (wVar 1)))))
def sp__law_now : DSp := fun ds μ Q Xd => ds.length = 1 ∧ w__law_now (defE Q Xd) (startD N__law_now ds) μ
theorem d__law_now (A : Hd K mg) {cdv : Value} {A2 : Around} {fr : List Env} {s : Shared} {H : Hp} {E : XK} {f : Addr} (hr : Room 0 (A2.deeper (envOfC "_law_now" (defScope (top 37)) s.heap.objs.size f cdv))) (hgd : (A2.deeper (envOfC "_law_now" (defScope (top 37)) s.heap.objs.size f cdv)).guards = some []) :
    DSs none (fun cls d _ H2 => E cls d H2) (cxOf (L2.CX P w) P w K mg base N__law_now "_law_now" (defScope (top 37)) f cdv A2 fr s H E) (defBody (top 37)) w__law_now := by
  have hN := (sc__law_now).nd
  exact (dss_cons (ds_setLst (i := 1) hN rfl rfl A.f_list (de_getT (have z := room2 hr; z) (dv 0) de_str))
 (dss_cons (ds_for (passes_of rfl) rfl (di_list (de_getT (have z := room2 hr; z) (dv 0) de_str)) (dg_tup rfl (dgs_cons (dg_name hN rfl) (dgs_cons (dg_name hN rfl) dgs_nil))) (dss_one (ds_asg (dv 3) (dg_subO (i := 1) rfl (dv 2)))))
 (dss_one (ds_frz 1 (ds_ret (dv 1))))))
theorem Hd.ok__law_now (A : Hd K mg) : CallD P w K mg base 1 "_law_now" ["world"] sp__law_now := by
  obtain ⟨fd, F⟩ := A.c.def_ 34
  exact ⟨_, fd, A.g__law_now, F.kp, F.bindsN fun _ _ _ _ _ _ us hl => match us, hl with | [_], _ => rfl, def_ok F sc__law_now (fun ds μ Q Xd h => h.1) (fun cdv A2 fr s H E hr hgd => d__law_now A hr hgd) fun ds μ Q Xd h => h.2⟩
/-! _law_moved -/
abbrev N__law_moved : List Str := ["world", "index", "thing", "pairs"]
theorem sc__law_moved : FnScope N__law_moved ["world", "index", "thing"] (defScope (top 39)) := ⟨rfl, rfl, rfl, by decide +kernel, rfl, by decide +kernel, by decide +kernel⟩
def w__law_moved : WS := (sSeq (sSet 3 (wCall sp__law_now (wCons (wVar 0) wNil)))
 (sSeq (sIf (wNot (wB (wCall sp__law_is_number (wCons (wVar 1) (wCons (wC (.int (0))) (wCons (w2 fSub (wN fLen (wCons (wVar 3) wNil)) (wC (.int (1)))) wNil))))))
  (sRet (wTup (wCons (wC (.str "number")) (wCons (wN fRepr (wCons (wVar 1) wNil)) wNil))))
  sNext)
 (sSeq (sIf (wOr (wNot (wB (wN (fIsi isiT) (wCons (wVar 2) (wCons (wC (.ty "tuple")) wNil))))) (wB (w2 fNeU (wN fLen (wCons (wVar 2) wNil)) (wC (.int (2))))))
  (sRet (wTup (wCons (wC (.str "point")) (wCons (wN fRepr (wCons (wVar 2) wNil)) wNil))))
  sNext)
 (sSeq (sAsg (wTup (wCons (w2 fPlus (w2 fGetT (wVar 0) (wC (.str "made"))) (wLst (wCons (wTup (wCons (wVar 1) (wCons (wVar 2) wNil))) wNil))) (wCons (wLst wNil) wNil))) (kTup 2 (kCons (kPutT (wVar 0) (wC (.str "made"))) (kCons (kPutT (wVar 0) (wC (.str "later"))) kNil))))
 (sRet (wTup (wCons (wC (.str "told")) (wCons (w2 fIx (wVar 3) (wVar 1)) wNil))))))))
def sp__law_moved : DSp := fun ds μ Q Xd => ds.length = 3 ∧ w__law_moved (defE Q Xd) (startD N__law_moved ds) μ
theorem d__law_moved (A : Hd K mg) {cdv : Value} {A2 : Around} {fr : List Env} {s : Shared} {H : Hp} {E : XK} {f : Addr} (hr : Room 1 (A2.deeper (envOfC "_law_moved" (defScope (top 39)) s.heap.objs.size f cdv))) (hgd : (A2.deeper (envOfC "_law_moved" (defScope (top 39)) s.heap.objs.size f cdv)).guards = some []) :
    DSs none (fun cls d _ H2 => E cls d H2) (cxOf (L2.CX P w) P w K mg base N__law_moved "_law_moved" (defScope (top 39)) f cdv A2 fr s H E) (defBody (top 39)) w__law_moved := by
  have hN := (sc__law_moved).nd
  exact (dss_cons (ds_set (i := 3) hN rfl (de_callD A.ok__law_now hr (by decide) hgd rfl (takes_of rfl rfl rfl rfl) (da_cons (dv 0) da_nil)))
 (dss_cons (ds_if (dt_not (dt_val (de_callD A.ok__law_is_number hr (by decide) hgd rfl (takes_of rfl rfl rfl rfl) (da_cons (dv 1) (da_cons de_int (da_cons (de_sub (de_callB call_len_seq sn_len rfl A.f_len bt_len (da_cons (dv 3) da_nil)) de_int) da_nil)))))) (dss_one (ds_ret (de_tup (da_cons de_str (da_cons (de_callB (call_reprD hgd (have z := room64 hr; z)) sn_repr rfl A.f_repr bt_repr (da_cons (dv 1) da_nil)) da_nil))))) dss_nil)
 (dss_cons (ds_if (dt_w (dw_or (dt_not (dt_val (de_callB call_isi (sn_isi A.isi) rfl A.f_isinstance bt_isinstance (da_cons (dv 2) (da_cons (de_ty rfl A.f_tuple bt_tuple) da_nil))))) (dw_or1 (dt_cmp (op_neU (have z := room64 hr; z)) s2_neU (de_callB call_len_seq sn_len rfl A.f_len bt_len (da_cons (dv 2) da_nil)) de_int (nomark _))))) (dss_one (ds_ret (de_tup (da_cons de_str (da_cons (de_callB (call_reprD hgd (have z := room64 hr; z)) sn_repr rfl A.f_repr bt_repr (da_cons (dv 2) da_nil)) da_nil))))) dss_nil)
 (dss_cons (ds_asg (de_tup (da_cons (de_plus (de_getT (have z := room2 hr; z) (dv 0) de_str) (de_lst (da_cons (de_tup (da_cons (dv 1) (da_cons (dv 2) da_nil))) da_nil))) (da_cons (de_lst da_nil) da_nil))) (dg_tup rfl (dgs_cons (dg_putT (have z := room2 hr; z) (dv 0) de_str) (dgs_cons (dg_putT (have z := room2 hr; z) (dv 0) de_str) dgs_nil))))
 (dss_one (ds_ret (de_tup (da_cons de_str (da_cons (de_item (dv 3) (dv 1)) da_nil)))))))))
theorem Hd.ok__law_moved (A : Hd K mg) : CallD P w K mg base 2 "_law_moved" ["world", "index", "thing"] sp__law_moved := by
  obtain ⟨fd, F⟩ := A.c.def_ 35
  exact ⟨_, fd, A.g__law_moved, F.kp, F.bindsN fun _ _ _ _ _ _ us hl => match us, hl with | [_, _, _], _ => rfl, def_ok F sc__law_moved (fun ds μ Q Xd h => h.1) (fun cdv A2 fr s H E hr hgd => d__law_moved A hr hgd) fun ds μ Q Xd h => h.2⟩
/-! _law_due -/
abbrev N__law_due : List Str := ["world", "call", "made", "later", "thing", "at"]
theorem sc__law_due : FnScope N__law_due ["world", "call"] (defScope (top 40)) := ⟨rfl, rfl, rfl, by decide +kernel, rfl, by decide +kernel, by decide +kernel⟩
def w__law_due : WS := (sSeq (sPar2 2 3 (wCons (w2 fGetT (wVar 0) (wC (.str "made"))) (wCons (w2 fGetT (wVar 0) (wC (.str "later"))) wNil)))
 (sSeq (sIf (wB (w2 fEqU (w2 fIx (wVar 1) (wC (.int (0)))) (wC (.str "move"))))
  (sRet (wCall sp__law_moved (wCons (wVar 0) (wCons (w2 fIx (wVar 1) (wC (.int (1)))) (wCons (w2 fIx (wVar 1) (wC (.int (2)))) wNil)))))
  sNext)
 (sSeq (sSet 4 (w2 fIx (wVar 1) (wC (.int (1)))))
 (sSeq (sIf (wB (w2 (fInTp false) (w2 fIx (wVar 1) (wC (.int (0)))) (wTup (wCons (wC (.str "undo")) (wCons (wC (.str "redo")) wNil)))))
  (sSeq (sIf (wNot (wB (wCall sp__law_is_number (wCons (wVar 4) (wCons (wC (.int (1))) (wCons (wN fLen (wCons (wIf (wB (w2 fEqU (w2 fIx (wVar 1) (wC (.int (0)))) (wC (.str "undo")))) (wVar 2) (wVar 3)) wNil)) wNil))))))
  (sRet (wTup (wCons (wC (.str "left")) (wCons (wN fRepr (wCons (wVar 4) wNil)) wNil))))
  sNext)
 (sSeq (sSet 5 (wIf (wB (w2 fEqU (w2 fIx (wVar 1) (wC (.int (0)))) (wC (.str "undo")))) (w2 fSub (wN fLen (wCons (wVar 2) wNil)) (wVar 4)) (w2 fPlus (wN fLen (wCons (wVar 2) wNil)) (wVar 4))))
 (sSeq (sAsg (wTup (wCons (wSl (w2 fPlus (wVar 2) (wVar 3)) oNone (oSome (wVar 5))) (wCons (wSl (w2 fPlus (wVar 2) (wVar 3)) (oSome (wVar 5)) oNone) wNil))) (kTup 2 (kCons (kPutT (wVar 0) (wC (.str "made"))) (kCons (kPutT (wVar 0) (wC (.str "later"))) kNil))))
 (sRet (wTup (wCons (wC (.str "told")) (wCons (wVar 5) wNil)))))))
  sNext)
 (sSeq (sIf (wB (w2 fEqU (w2 fIx (wVar 1) (wC (.int (0)))) (wC (.str "keep"))))
  (sSeq (sIf (wB (w2 fNotInD (wVar 4) (wLst (wCons (wC (.str "m")) (wCons (wC (.str "n")) (wCons (wC (.str "abcdefgh")) wNil))))))
  (sRet (wTup (wCons (wC (.str "name")) (wCons (wN fRepr (wCons (wVar 4) wNil)) wNil))))
  sNext)
 (sSeq (sPutT (w2 fGetT (wVar 0) (wC (.str "kept"))) (wVar 4) (wVar 2))
 (sRet (wTup (wCons (wC (.str "told")) (wCons (wC .non) wNil))))))
  sNext)
 (sSeq (sIf (wB (w2 (fInU true) (wVar 4) (w2 fGetT (wVar 0) (wC (.str "kept")))))
  (sRet (wTup (wCons (wC (.str "unknown")) (wCons (wN fRepr (wCons (wVar 4) wNil)) wNil))))
  sNext)
 (sSeq (sAsg (wTup (wCons (w2 fGetT (w2 fGetT (wVar 0) (wC (.str "kept"))) (wVar 4)) (wCons (wLst wNil) wNil))) (kTup 2 (kCons (kPutT (wVar 0) (wC (.str "made"))) (kCons (kPutT (wVar 0) (wC (.str "later"))) kNil))))
 (sRet (wTup (wCons (wC (.str "told")) (wCons (wN fLen (wCons (w2 fGetT (wVar 0) (wC (.str "made"))) wNil)) wNil)))))))))))
def sp__law_due : DSp := fun ds μ Q Xd => ds.length = 2 ∧ w__law_due (defE Q Xd) (startD N__law_due ds) μ
theorem d__law_due (A : Hd K mg) {cdv : Value} {A2 : Around} {fr : List Env} {s : Shared} {H : Hp} {E : XK} {f : Addr} (hr : Room 2 (A2.deeper (envOfC "_law_due" (defScope (top 40)) s.heap.objs.size f cdv))) (hgd : (A2.deeper (envOfC "_law_due" (defScope (top 40)) s.heap.objs.size f cdv)).guards = some []) :
    DSs none (fun cls d _ H2 => E cls d H2) (cxOf (L2.CX P w) P w K mg base N__law_due "_law_due" (defScope (top 40)) f cdv A2 fr s H E) (defBody (top 40)) w__law_due := by
  have hN := (sc__law_due).nd
  exact (dss_cons (ds_par2 (i := 2) (j := 3) rfl hN rfl rfl (by decide) (da_cons (de_getT (have z := room2 hr; z) (dv 0) de_str) (da_cons (de_getT (have z := room2 hr; z) (dv 0) de_str) da_nil)))
 (dss_cons (ds_if (dt_cmp (op_eqU (have z := room64 hr; z)) s2_eqU (de_item (dv 1) de_int) de_str (nomark _)) (dss_one (ds_ret (de_callD A.ok__law_moved hr (by decide) hgd rfl (takes_of rfl rfl rfl rfl) (da_cons (dv 0) (da_cons (de_item (dv 1) de_int) (da_cons (de_item (dv 1) de_int) da_nil)))))) dss_nil)
 (dss_cons (ds_set (i := 4) hN rfl (de_item (dv 1) de_int))
 (dss_cons (ds_if (dt_cmp op_in_seq s2_inTp (de_item (dv 1) de_int) (de_tup (da_cons de_str (da_cons de_str da_nil))) (by with_unfolding_all rfl)) (dss_cons (ds_if (dt_not (dt_val (de_callD A.ok__law_is_number hr (by decide) hgd rfl (takes_of rfl rfl rfl rfl) (da_cons (dv 4) (da_cons de_int (da_cons (de_callB call_len_seq sn_len rfl A.f_len bt_len (da_cons (de_if (dt_cmp (op_eqU (have z := room64 hr; z)) s2_eqU (de_item (dv 1) de_int) de_str (nomark _)) (dv 2) (dv 3)) da_nil)) da_nil)))))) (dss_one (ds_ret (de_tup (da_cons de_str (da_cons (de_callB (call_reprD hgd (have z := room64 hr; z)) sn_repr rfl A.f_repr bt_repr (da_cons (dv 4) da_nil)) da_nil))))) dss_nil)
 (dss_cons (ds_set (i := 5) hN rfl (de_if (dt_cmp (op_eqU (have z := room64 hr; z)) s2_eqU (de_item (dv 1) de_int) de_str (nomark _)) (de_sub (de_callB call_len_seq sn_len rfl A.f_len bt_len (da_cons (dv 2) da_nil)) (dv 4)) (de_plus (de_callB call_len_seq sn_len rfl A.f_len bt_len (da_cons (dv 2) da_nil)) (dv 4))))
 (dss_cons (ds_asg (de_tup (da_cons (de_slice (de_plus (dv 2) (dv 3)) do_none (do_some (dv 5))) (da_cons (de_slice (de_plus (dv 2) (dv 3)) (do_some (dv 5)) do_none) da_nil))) (dg_tup rfl (dgs_cons (dg_putT (have z := room2 hr; z) (dv 0) de_str) (dgs_cons (dg_putT (have z := room2 hr; z) (dv 0) de_str) dgs_nil))))
 (dss_one (ds_ret (de_tup (da_cons de_str (da_cons (dv 5) da_nil)))))))) dss_nil)
 (dss_cons (ds_if (dt_cmp (op_eqU (have z := room64 hr; z)) s2_eqU (de_item (dv 1) de_int) de_str (nomark _)) (dss_cons (ds_if (dt_cmp (op_notInD (have z := room65 hr; z)) s2_notInD (dv 4) (de_lst (da_cons de_str (da_cons de_str (da_cons de_str da_nil)))) (by with_unfolding_all rfl)) (dss_one (ds_ret (de_tup (da_cons de_str (da_cons (de_callB (call_reprD hgd (have z := room64 hr; z)) sn_repr rfl A.f_repr bt_repr (da_cons (dv 4) da_nil)) da_nil))))) dss_nil)
 (dss_cons (ds_putT (have z := room2 hr; z) (de_getT (have z := room2 hr; z) (dv 0) de_str) (dv 4) (dv 2))
 (dss_one (ds_ret (de_tup (da_cons de_str (da_cons de_non da_nil))))))) dss_nil)
 (dss_cons (ds_if (dt_notInU (have z := room2 hr; z) (dv 4) (de_getT (have z := room2 hr; z) (dv 0) de_str)) (dss_one (ds_ret (de_tup (da_cons de_str (da_cons (de_callB (call_reprD hgd (have z := room64 hr; z)) sn_repr rfl A.f_repr bt_repr (da_cons (dv 4) da_nil)) da_nil))))) dss_nil)
 (dss_cons (ds_asg (de_tup (da_cons (de_getT (have z := room2 hr; z) (de_getT (have z := room2 hr; z) (dv 0) de_str) (dv 4)) (da_cons (de_lst da_nil) da_nil))) (dg_tup rfl (dgs_cons (dg_putT (have z := room2 hr; z) (dv 0) de_str) (dgs_cons (dg_putT (have z := room2 hr; z) (dv 0) de_str) dgs_nil))))
 (dss_one (ds_ret (de_tup (da_cons de_str (da_cons (de_callB call_len_seq sn_len rfl A.f_len bt_len (da_cons (de_getT (have z := room2 hr; z) (dv 0) de_str) da_nil)) da_nil))))))))))))
theorem Hd.ok__law_due (A : Hd K mg) : CallD P w K mg base 3 "_law_due" ["world", "call"] sp__law_due := by
  obtain ⟨fd, F⟩ := A.c.def_ 36
  exact ⟨_, fd, A.g__law_due, F.kp, F.bindsN fun _ _ _ _ _ _ us hl => match us, hl with | [_, _], _ => rfl, def_ok F sc__law_due (fun ds μ Q Xd h => h.1) (fun cdv A2 fr s H E hr hgd => d__law_due A hr hgd) fun ds μ Q Xd h => h.2⟩
/-! _law_hand -/
abbrev N__law_hand : List Str := ["script", "k", "cell", "seed"]
theorem sc__law_hand : FnScope N__law_hand ["script", "k"] (defScope (top 30)) := ⟨rfl, rfl, rfl, by decide +kernel, rfl, by decide +kernel, by decide +kernel⟩
def w__law_hand : WS := (sSeq (sSet 2 (w2 fIx (w2 fPlus (wSl (wVar 0) (oSome (wVar 1)) (oSome (w2 fPlus (wVar 1) (wC (.int (1)))))) (wLst (wCons (wC (.int (0))) wNil))) (wC (.int (0)))))
 (sSeq (sSet 3 (w2 fMod (w2 fTimes (w2 fPlus (w2 fPlus (w2 fMod (wN fInt1 (wCons (wVar 2) wNil)) (wC (.int (2147483647)))) (w2 fTimes (wC (.int (7919))) (wVar 1))) (wC (.int (1)))) (wC (.int (48271)))) (wC (.int (2147483629)))))
 (sRet (wLstC (wCons (w2 fTimes (wN fInt1 (wCons (w2 fGe (wVar 2) (w2 fPow (wC (.int (10))) (wC (.int (18))))) wNil)) (wVar 2)) (wCons (wVar 3) wNil))))))
def sp__law_hand : DSp := fun ds μ Q Xd => ds.length = 2 ∧ w__law_hand (defE Q Xd) (startD N__law_hand ds) μ
theorem d__law_hand (A : Hd K mg) {cdv : Value} {A2 : Around} {fr : List Env} {s : Shared} {H : Hp} {E : XK} {f : Addr} (hr : Room 0 (A2.deeper (envOfC "_law_hand" (defScope (top 30)) s.heap.objs.size f cdv))) (hgd : (A2.deeper (envOfC "_law_hand" (defScope (top 30)) s.heap.objs.size f cdv)).guards = some []) :
    DSs none (fun cls d _ H2 => E cls d H2) (cxOf (L2.CX P w) P w K mg base N__law_hand "_law_hand" (defScope (top 30)) f cdv A2 fr s H E) (defBody (top 30)) w__law_hand := by
  have hN := (sc__law_hand).nd
  exact (dss_cons (ds_set (i := 2) hN rfl (de_item (de_plus (de_slice (dv 0) (do_some (dv 1)) (do_some (de_plus (dv 1) de_int))) (de_lst (da_cons de_int da_nil))) de_int))
 (dss_cons (ds_set (i := 3) hN rfl (de_mod (de_times (de_plus (de_plus (de_mod (de_callTy call_int1 sn_int1 rfl A.f_int bt_int (da_cons (dv 2) da_nil)) de_int) (de_times de_int (dv 1))) de_int) de_int) de_int))
 (dss_one (ds_ret (de_lstC (da_cons (de_times (de_callTy call_int1 sn_int1 rfl A.f_int bt_int (da_cons (de_cmp op_ge s2_IB (dv 2) (de_pow de_int de_int) (nomark _)) da_nil)) (dv 2)) (da_cons (dv 3) da_nil)))))))
theorem Hd.ok__law_hand (A : Hd K mg) : CallD P w K mg base 1 "_law_hand" ["script", "k"] sp__law_hand := by
  obtain ⟨fd, F⟩ := A.c.def_ 37
  exact ⟨_, fd, A.g__law_hand, F.kp, F.bindsN fun _ _ _ _ _ _ us hl => match us, hl with | [_, _], _ => rfl, def_ok F sc__law_hand (fun ds μ Q Xd h => h.1) (fun cdv A2 fr s H E hr hgd => d__law_hand A hr hgd) fun ds μ Q Xd h => h.2⟩
/-! _law_net_here -/
abbrev N__law_net_here : List Str := ["pool", "pairs", "turn"]
theorem sc__law_net_here : FnScope N__law_net_here ["pool"] (defScope (top 33)) := ⟨rfl, rfl, rfl, by decide +kernel, rfl, by decide +kernel, by decide +kernel⟩
def w__law_net_here : WS := (sSeq (sSet 1 (wLc (wiR1 (wCons (w2 fPlus (wC (.int (3))) (wCall sp__law_draw (wCons (wVar 0) (wCons (wC (.int (3))) wNil)))) wNil)) (kNameC 2) wYes (wCall sp__law_pair (wCons (wVar 0) (wCons (wC (.int (5))) wNil))) [2]))
 (sRet (wTup (wCons (wVar 1) (wCons (wIf (wB (w2 fGt (wN fLen (wCons (wVar 1) wNil)) (wC (.int (3))))) (wLst (wCons (wTup (wCons (wC (.int (0))) (wCons (wC (.int (1))) (wCons (wC (.int (2))) wNil)))) (wCons (wTup (wCons (wC (.int (2))) (wCons (wC (.int (1))) (wCons (w2 fSub (wN fLen (wCons (wVar 1) wNil)) (wC (.int (1)))) wNil)))) wNil))) (wLst (wCons (wTup (wCons (wC (.int (0))) (wCons (wC (.int (1))) (wCons (wC (.int (2))) wNil)))) wNil))) wNil)))))
def sp__law_net_here : DSp := fun ds μ Q Xd => ds.length = 1 ∧ w__law_net_here (defE Q Xd) (startD N__law_net_here ds) μ
theorem d__law_net_here (A : Hd K mg) {cdv : Value} {A2 : Around} {fr : List Env} {s : Shared} {H : Hp} {E : XK} {f : Addr} (hr : Room 2 (A2.deeper (envOfC "_law_net_here" (defScope (top 33)) s.heap.objs.size f cdv))) (hgd : (A2.deeper (envOfC "_law_net_here" (defScope (top 33)) s.heap.objs.size f cdv)).guards = some []) :
    DSs none (fun cls d _ H2 => E cls d H2) (cxOf (L2.CX P w) P w K mg base N__law_net_here "_law_net_here" (defScope (top 33)) f cdv A2 fr s H E) (defBody (top 33)) w__law_net_here := by
  have hN := (sc__law_net_here).nd
  exact (dss_cons (ds_setLc (i := 1) rfl hN rfl rfl (di_range1 (by rfl) A.f_range (da_cons (de_plus de_int (de_callD A.ok__law_draw hr (by decide) hgd (by rfl) (takes_of (by rfl) (by rfl) (by rfl) (by rfl)) (da_cons (dv 0) (da_cons de_int da_nil)))) da_nil)) (blkOk_by (own := [("turn", 2)]) (by show blkC N__law_net_here (defScope (top 33)) _ _ = true; decide +kernel)) (lcg_name (by decide)) (fun _ _ _ _ _ => (pg_name hN rfl (by first | exact Or.inl rfl | exact Or.inr rfl) (by first | exact .inl rfl | exact .inr rfl))) (fun _ _ _ _ _ => dts_nil) (fun _ _ _ _ _ => (de_callD A.ok__law_pair hr (by decide) hgd rfl takes0 (da_cons (dv 0) (da_cons de_int da_nil)))))
 (dss_one (ds_ret (de_tup (da_cons (dv 1) (da_cons (de_if (dt_cmp op_gt s2_IB (de_callB call_len_seq sn_len rfl A.f_len bt_len (da_cons (dv 1) da_nil)) de_int (nomark _)) (de_lst (da_cons (de_tup (da_cons de_int (da_cons de_int (da_cons de_int da_nil)))) (da_cons (de_tup (da_cons de_int (da_cons de_int (da_cons (de_sub (de_callB call_len_seq sn_len rfl A.f_len bt_len (da_cons (dv 1) da_nil)) de_int) da_nil)))) da_nil))) (de_lst (da_cons (de_tup (da_cons de_int (da_cons de_int (da_cons de_int da_nil)))) da_nil))) da_nil))))))
theorem Hd.ok__law_net_here (A : Hd K mg) : CallD P w K mg base 3 "_law_net_here" ["pool"] sp__law_net_here := by
  obtain ⟨fd, F⟩ := A.c.def_ 38
  exact ⟨_, fd, A.g__law_net_here, F.kp, F.bindsN fun _ _ _ _ _ _ us hl => match us, hl with | [_], _ => rfl, def_ok F sc__law_net_here (fun ds μ Q Xd h => h.1) (fun cdv A2 fr s H E hr hgd => d__law_net_here A hr hgd) fun ds μ Q Xd h => h.2⟩
/-! History_kept -/
abbrev N_History_kept : List Str := ["self"]
theorem sc_History_kept : FnScope N_History_kept ["self"] (defScope (inClass (top 21) 1)) := ⟨rfl, rfl, rfl, by decide +kernel, rfl, by decide +kernel, by decide +kernel⟩
def w_History_kept : WS := (sRet (wN fLstT (wCons (w1 (fFld "History" "kept_moves") (wVar 0)) wNil)))
def sp_History_kept : DSp := fun ds μ Q Xd => ds.length = 1 ∧ w_History_kept (defE Q Xd) (startD N_History_kept ds) μ
theorem d_History_kept (A : Hd K mg) {cdv : Value} {A2 : Around} {fr : List Env} {s : Shared} {H : Hp} {E : XK} {f : Addr} (hr : Room 0 (A2.deeper (envOfC "Kept.kept" (defScope (inClass (top 21) 1)) s.heap.objs.size f cdv))) (hgd : (A2.deeper (envOfC "Kept.kept" (defScope (inClass (top 21) 1)) s.heap.objs.size f cdv)).guards = some []) :
    DSs none (fun cls d _ H2 => E cls d H2) (cxOf (L2.CX P w) P w K mg base N_History_kept "Kept.kept" (defScope (inClass (top 21) 1)) f cdv A2 fr s H E) (defBody (inClass (top 21) 1)) w_History_kept := by
  have hN := (sc_History_kept).nd
  exact (dss_one (ds_ret (de_callTy (call_listD rfl) sn_lstT rfl A.f_list bt_list (da_cons (de_fldD A.fl_History_kept_moves (dv 0)) da_nil))))
theorem Hd.ok_History_kept (A : Hd K mg) : MethD P w K mg base 1 "History" "kept" ["self"] sp_History_kept := by
  obtain ⟨fd, F⟩ := A.c.def_ 39
  exact ⟨_, _, fd, A.g_History, He.cls_ok (A.c.fact 48), He.meth_ok (A.c.fact 74), F.bindsN fun _ _ _ _ _ _ us hl => match us, hl with | [_], _ => rfl, def_ok F sc_History_kept (fun ds μ Q Xd h => h.1) (fun cdv A2 fr s H E hr hgd => d_History_kept A hr hgd) fun ds μ Q Xd h => h.2⟩
/-! History_len -/
abbrev N_History_len : List Str := ["self"]
theorem sc_History_len : FnScope N_History_len ["self"] (defScope (inClass (top 22) 9)) := ⟨rfl, rfl, rfl, by decide +kernel, rfl, by decide +kernel, by decide +kernel⟩
def w_History_len : WS := (sRet (wN fLen (wCons (w1 (fFld "History" "made") (wVar 0)) wNil)))
def sp_History_len : DSp := fun ds μ Q Xd => ds.length = 1 ∧ w_History_len (defE Q Xd) (startD N_History_len ds) μ
theorem d_History_len (A : Hd K mg) {cdv : Value} {A2 : Around} {fr : List Env} {s : Shared} {H : Hp} {E : XK} {f : Addr} (hr : Room 0 (A2.deeper (envOfC "History.__len__" (defScope (inClass (top 22) 9)) s.heap.objs.size f cdv))) (hgd : (A2.deeper (envOfC "History.__len__" (defScope (inClass (top 22) 9)) s.heap.objs.size f cdv)).guards = some []) :
    DSs none (fun cls d _ H2 => E cls d H2) (cxOf (L2.CX P w) P w K mg base N_History_len "History.__len__" (defScope (inClass (top 22) 9)) f cdv A2 fr s H E) (defBody (inClass (top 22) 9)) w_History_len := by
  have hN := (sc_History_len).nd
  exact (dss_one (ds_ret (de_callB call_len_seq sn_len rfl A.f_len bt_len (da_cons (de_fldD A.fl_History_made (dv 0)) da_nil))))
theorem Hd.sp_History_len (A : Hd K mg) : SpcD P w K mg base 1 ["History"] "__len__" ["self"] sp_History_len := by
  obtain ⟨fd, F⟩ := A.c.def_ 40
  obtain ⟨h, X, G⟩ := A.ex
  exact spcD_of X G (He.ba (He.ba (He.ba (He.ba (He.ba (He.ba (He.ba (He.ba (He.ba (He.ba (He.ba (He.ba (He.ba (He.ba (He.ba (He.ba A.more).2).2).2).2).2).2).2).2).2).2).2).2).2).2).2).1 (F.bindsN fun _ _ _ _ _ _ us hl => match us, hl with | [_], _ => rfl) (def_ok F sc_History_len (fun ds μ Q Xd h => h.1) (fun cdv A2 fr s H E hr hgd => d_History_len A hr hgd) fun ds μ Q Xd h => h.2)
/-! History_moves -/
abbrev N_History_moves : List Str := ["self", "index", "pair"]
theorem sc_History_moves : FnScope N_History_moves ["self"] (defScope (inClass (top 22) 2)) := ⟨rfl, rfl, rfl, by decide +kernel, rfl, by decide +kernel, by decide +kernel⟩
def w_History_moves : WS := (sRet (wLc (wiL (w1 (fFld "History" "made") (wVar 0))) (kTup 2 (kCons (kNameC 1) (kCons (kNameC 2) kNil))) wYes (wTup (wCons (wVar 1) (wCons (wCall sp_point_of (wCons (wVar 2) wNil)) wNil))) [1, 2]))
def sp_History_moves : DSp := fun ds μ Q Xd => ds.length = 1 ∧ w_History_moves (defE Q Xd) (startD N_History_moves ds) μ
theorem d_History_moves (A : Hd K mg) {cdv : Value} {A2 : Around} {fr : List Env} {s : Shared} {H : Hp} {E : XK} {f : Addr} (hr : Room 5 (A2.deeper (envOfC "History.moves" (defScope (inClass (top 22) 2)) s.heap.objs.size f cdv))) (hgd : (A2.deeper (envOfC "History.moves" (defScope (inClass (top 22) 2)) s.heap.objs.size f cdv)).guards = some []) :
    DSs none (fun cls d _ H2 => E cls d H2) (cxOf (L2.CX P w) P w K mg base N_History_moves "History.moves" (defScope (inClass (top 22) 2)) f cdv A2 fr s H E) (defBody (inClass (top 22) 2)) w_History_moves := by
  have hN := (sc_History_moves).nd
  exact (dss_one (ds_ret (de_lc rfl hN (di_list (de_fldD A.fl_History_made (dv 0))) (blkOk_by (own := [("index", 1), ("pair", 2)]) (by show blkC N_History_moves (defScope (inClass (top 22) 2)) _ _ = true; decide +kernel)) (lcg_tup (lcgs_cons (lcg_name (by decide)) (lcgs_cons (lcg_name (by decide)) lcgs_nil))) (fun _ _ _ _ _ => (pg_tup rfl (pgs_cons (pg_name hN rfl (by first | exact Or.inl rfl | exact Or.inr rfl) (by first | exact .inl rfl | exact .inr rfl)) (pgs_cons (pg_name hN rfl (by first | exact Or.inl rfl | exact Or.inr rfl) (by first | exact .inl rfl | exact .inr rfl)) pgs_nil)))) (fun _ _ _ _ _ => dts_nil) (fun _ _ _ _ _ => (de_tup (da_cons (dv 1) (da_cons (de_callD A.ok_point_of hr (by decide) hgd rfl takes0 (da_cons (dv 2) da_nil)) da_nil)))))))
theorem Hd.ok_History_moves (A : Hd K mg) : MethD P w K mg base 6 "History" "moves" ["self"] sp_History_moves := by
  obtain ⟨fd, F⟩ := A.c.def_ 41
  exact ⟨_, _, fd, A.g_History, He.cls_ok (A.c.fact 48), He.meth_ok (A.c.fact 75), F.bindsN fun _ _ _ _ _ _ us hl => match us, hl with | [_], _ => rfl, def_ok F sc_History_moves (fun ds μ Q Xd h => h.1) (fun cdv A2 fr s H E hr hgd => d_History_moves A hr hgd) fun ds μ Q Xd h => h.2⟩
/-! History_moves_C -/
abbrev N_History_moves_C : List Str := ["self", "index", "pair"]
theorem sc_History_moves_C : FnScope N_History_moves_C ["self"] (defScope (inClass (top 22) 2)) := ⟨rfl, rfl, rfl, by decide +kernel, rfl, by decide +kernel, by decide +kernel⟩
def w_History_moves_C : WS := (sRet (wLcC (wiL (w1 (fFld "History" "made") (wVar 0))) (kTup 2 (kCons (kNameC 1) (kCons (kNameC 2) kNil))) wYes (wTup (wCons (wVar 1) (wCons (wCall sp_point_of (wCons (wVar 2) wNil)) wNil))) [1, 2]))
def sp_History_moves_C : DSp := fun ds μ Q Xd => ds.length = 1 ∧ w_History_moves_C (defE Q Xd) (startD N_History_moves_C ds) μ
theorem d_History_moves_C (A : Hd K mg) {cdv : Value} {A2 : Around} {fr : List Env} {s : Shared} {H : Hp} {E : XK} {f : Addr} (hr : Room 5 (A2.deeper (envOfC "History.moves" (defScope (inClass (top 22) 2)) s.heap.objs.size f cdv))) (hgd : (A2.deeper (envOfC "History.moves" (defScope (inClass (top 22) 2)) s.heap.objs.size f cdv)).guards = some []) :
    DSs none (fun cls d _ H2 => E cls d H2) (cxOf (L2.CX P w) P w K mg base N_History_moves_C "History.moves" (defScope (inClass (top 22) 2)) f cdv A2 fr s H E) (defBody (inClass (top 22) 2)) w_History_moves_C := by
  have hN := (sc_History_moves_C).nd
  exact (dss_one (ds_ret (de_lcC rfl hN (di_list (de_fldD A.fl_History_made (dv 0))) (blkOk_by (own := [("index", 1), ("pair", 2)]) (by show blkC N_History_moves_C (defScope (inClass (top 22) 2)) _ _ = true; decide +kernel)) (lcg_tup (lcgs_cons (lcg_name (by decide)) (lcgs_cons (lcg_name (by decide)) lcgs_nil))) (fun _ _ _ _ _ => (pg_tup rfl (pgs_cons (pg_name hN rfl (by first | exact Or.inl rfl | exact Or.inr rfl) (by first | exact .inl rfl | exact .inr rfl)) (pgs_cons (pg_name hN rfl (by first | exact Or.inl rfl | exact Or.inr rfl) (by first | exact .inl rfl | exact .inr rfl)) pgs_nil)))) (fun _ _ _ _ _ => dts_nil) (fun _ _ _ _ _ => (de_tup (da_cons (dv 1) (da_cons (de_callD A.ok_point_of hr (by decide) hgd rfl takes0 (da_cons (dv 2) da_nil)) da_nil)))))))
theorem Hd.ok_History_moves_C (A : Hd K mg) : MethD P w K mg base 6 "History" "moves" ["self"] sp_History_moves_C := by
  obtain ⟨fd, F⟩ := A.c.def_ 42
  exact ⟨_, _, fd, A.g_History, He.cls_ok (A.c.fact 48), He.meth_ok (A.c.fact 75), F.bindsN fun _ _ _ _ _ _ us hl => match us, hl with | [_], _ => rfl, def_ok F sc_History_moves_C (fun ds μ Q Xd h => h.1) (fun cdv A2 fr s H E hr hgd => d_History_moves_C A hr hgd) fun ds μ Q Xd h => h.2⟩
/-! History_net_now_C -/
abbrev N_History_net_now_C : List Str := ["self"]
theorem sc_History_net_now_C : FnScope N_History_net_now_C ["self"] (defScope (inClass (top 22) 1)) := ⟨rfl, rfl, rfl, by decide +kernel, rfl, by decide +kernel, by decide +kernel⟩
def w_History_net_now_C : WS := (sRet (wMeth "Net" "twin" sp_Net_twin_C (w1 (fFld "History" "now") (wVar 0)) wNil))
def sp_History_net_now_C : DSp := fun ds μ Q Xd => ds.length = 1 ∧ w_History_net_now_C (defE Q Xd) (startD N_History_net_now_C ds) μ
theorem d_History_net_now_C (A : Hd K mg) {cdv : Value} {A2 : Around} {fr : List Env} {s : Shared} {H : Hp} {E : XK} {f : Addr} (hr : Room 7 (A2.deeper (envOfC "History.net_now" (defScope (inClass (top 22) 1)) s.heap.objs.size f cdv))) (hgd : (A2.deeper (envOfC "History.net_now" (defScope (inClass (top 22) 1)) s.heap.objs.size f cdv)).guards = some []) :
    DSs none (fun cls d _ H2 => E cls d H2) (cxOf (L2.CX P w) P w K mg base N_History_net_now_C "History.net_now" (defScope (inClass (top 22) 1)) f cdv A2 fr s H E) (defBody (inClass (top 22) 1)) w_History_net_now_C := by
  have hN := (sc_History_net_now_C).nd
  exact (dss_one (ds_ret (de_methD0 A.ok_Net_twin_C hr (by decide) hgd (takes_of rfl rfl rfl rfl) (de_fldD A.fl_History_now (dv 0)))))
theorem Hd.ok_History_net_now_C (A : Hd K mg) : MethD P w K mg base 8 "History" "net_now" ["self"] sp_History_net_now_C := by
  obtain ⟨fd, F⟩ := A.c.def_ 43
  exact ⟨_, _, fd, A.g_History, He.cls_ok (A.c.fact 48), He.meth_ok (A.c.fact 76), F.bindsN fun _ _ _ _ _ _ us hl => match us, hl with | [_], _ => rfl, def_ok F sc_History_net_now_C (fun ds μ Q Xd h => h.1) (fun cdv A2 fr s H E hr hgd => d_History_net_now_C A hr hgd) fun ds μ Q Xd h => h.2⟩
/-! Net_triples -/
abbrev N_Net_triples : List Str := ["self"]
theorem sc_Net_triples : FnScope N_Net_triples ["self"] (defScope (inClass (top 28) 2)) := ⟨rfl, rfl, rfl, by decide +kernel, rfl, by decide +kernel, by decide +kernel⟩
def w_Net_triples : WS := (sRet (wN fListOf (wCons (w1 (fFld "Net" "own_triples") (wVar 0)) wNil)))
def sp_Net_triples : DSp := fun ds μ Q Xd => ds.length = 1 ∧ w_Net_triples (defE Q Xd) (startD N_Net_triples ds) μ
theorem d_Net_triples (A : Hd K mg) {cdv : Value} {A2 : Around} {fr : List Env} {s : Shared} {H : Hp} {E : XK} {f : Addr} (hr : Room 0 (A2.deeper (envOfC "Net.triples" (defScope (inClass (top 28) 2)) s.heap.objs.size f cdv))) (hgd : (A2.deeper (envOfC "Net.triples" (defScope (inClass (top 28) 2)) s.heap.objs.size f cdv)).guards = some []) :
    DSs none (fun cls d _ H2 => E cls d H2) (cxOf (L2.CX P w) P w K mg base N_Net_triples "Net.triples" (defScope (inClass (top 28) 2)) f cdv A2 fr s H E) (defBody (inClass (top 28) 2)) w_Net_triples := by
  have hN := (sc_Net_triples).nd
  exact (dss_one (ds_ret (de_callTy call_list_of sn_listOf rfl A.f_list bt_list (da_cons (de_fldD A.fl_Net_own_triples (dv 0)) da_nil))))
theorem Hd.ok_Net_triples (A : Hd K mg) : MethD P w K mg base 1 "Net" "triples" ["self"] sp_Net_triples := by
  obtain ⟨fd, F⟩ := A.c.def_ 44
  exact ⟨_, _, fd, A.g_Net, He.cls_ok (A.c.fact 54), He.meth_ok (A.c.fact 77), F.bindsN fun _ _ _ _ _ _ us hl => match us, hl with | [_], _ => rfl, def_ok F sc_Net_triples (fun ds μ Q Xd h => h.1) (fun cdv A2 fr s H E hr hgd => d_Net_triples A hr hgd) fun ds μ Q Xd h => h.2⟩
/-! Net_points -/
abbrev N_Net_points : List Str := ["self", "pair"]
theorem sc_Net_points : FnScope N_Net_points ["self"] (defScope (inClass (top 28) 1)) := ⟨rfl, rfl, rfl, by decide +kernel, rfl, by decide +kernel, by decide +kernel⟩
def w_Net_points : WS := (sRet (wLc (wiL (w1 (fFld "Net" "pairs") (wVar 0))) (kNameC 1) wYes (wCall sp_point_of (wCons (wVar 1) wNil)) [1]))
def sp_Net_points : DSp := fun ds μ Q Xd => ds.length = 1 ∧ w_Net_points (defE Q Xd) (startD N_Net_points ds) μ
theorem d_Net_points (A : Hd K mg) {cdv : Value} {A2 : Around} {fr : List Env} {s : Shared} {H : Hp} {E : XK} {f : Addr} (hr : Room 5 (A2.deeper (envOfC "Net.points" (defScope (inClass (top 28) 1)) s.heap.objs.size f cdv))) (hgd : (A2.deeper (envOfC "Net.points" (defScope (inClass (top 28) 1)) s.heap.objs.size f cdv)).guards = some []) :
    DSs none (fun cls d _ H2 => E cls d H2) (cxOf (L2.CX P w) P w K mg base N_Net_points "Net.points" (defScope (inClass (top 28) 1)) f cdv A2 fr s H E) (defBody (inClass (top 28) 1)) w_Net_points := by
  have hN := (sc_Net_points).nd
  exact (dss_one (ds_ret (de_lc rfl hN (di_list (de_fldD A.fl_Net_pairs (dv 0))) (blkOk_by (own := [("pair", 1)]) (by show blkC N_Net_points (defScope (inClass (top 28) 1)) _ _ = true; decide +kernel)) (lcg_name (by decide)) (fun _ _ _ _ _ => (pg_name hN rfl (by first | exact Or.inl rfl | exact Or.inr rfl) (by first | exact .inl rfl | exact .inr rfl))) (fun _ _ _ _ _ => dts_nil) (fun _ _ _ _ _ => (de_callD A.ok_point_of hr (by decide) hgd rfl takes0 (da_cons (dv 1) da_nil))))))
theorem Hd.ok_Net_points (A : Hd K mg) : MethD P w K mg base 6 "Net" "points" ["self"] sp_Net_points := by
  obtain ⟨fd, F⟩ := A.c.def_ 45
  exact ⟨_, _, fd, A.g_Net, He.cls_ok (A.c.fact 54), He.meth_ok (A.c.fact 78), F.bindsN fun _ _ _ _ _ _ us hl => match us, hl with | [_], _ => rfl, def_ok F sc_Net_points (fun ds μ Q Xd h => h.1) (fun cdv A2 fr s H E hr hgd => d_Net_points A hr hgd) fun ds μ Q Xd h => h.2⟩
/-! _law_points -/
abbrev N__law_points : List Str := ["net", "point"]
theorem sc__law_points : FnScope N__law_points ["net"] (defScope (top 34)) := ⟨rfl, rfl, rfl, by decide +kernel, rfl, by decide +kernel, by decide +kernel⟩
def w__law_points : WS := (sRet (wLc (wiL (wMeth "Net" "points" sp_Net_points (wVar 0) wNil)) (kNameC 1) wYes (wMeth "Point" "pair" sp_Point_pair (wVar 1) wNil) [1]))
def sp__law_points : DSp := fun ds μ Q Xd => ds.length = 1 ∧ w__law_points (defE Q Xd) (startD N__law_points ds) μ
theorem d__law_points (A : Hd K mg) {cdv : Value} {A2 : Around} {fr : List Env} {s : Shared} {H : Hp} {E : XK} {f : Addr} (hr : Room 6 (A2.deeper (envOfC "_law_points" (defScope (top 34)) s.heap.objs.size f cdv))) (hgd : (A2.deeper (envOfC "_law_points" (defScope (top 34)) s.heap.objs.size f cdv)).guards = some []) :
    DSs none (fun cls d _ H2 => E cls d H2) (cxOf (L2.CX P w) P w K mg base N__law_points "_law_points" (defScope (top 34)) f cdv A2 fr s H E) (defBody (top 34)) w__law_points := by
  have hN := (sc__law_points).nd
  exact (dss_one (ds_ret (de_lc rfl hN (di_list (de_methD0 A.ok_Net_points hr (by decide) hgd (takes_of rfl rfl rfl rfl) (dv 0))) (blkOk_by (own := [("point", 1)]) (by show blkC N__law_points (defScope (top 34)) _ _ = true; decide +kernel)) (lcg_name (by decide)) (fun _ _ _ _ _ => (pg_name hN rfl (by first | exact Or.inl rfl | exact Or.inr rfl) (by first | exact .inl rfl | exact .inr rfl))) (fun _ _ _ _ _ => dts_nil) (fun _ _ _ _ _ => (de_methD0 A.ok_Point_pair hr (by decide) hgd takes0 (dv 1))))))
theorem Hd.ok__law_points (A : Hd K mg) : CallD P w K mg base 7 "_law_points" ["net"] sp__law_points := by
  obtain ⟨fd, F⟩ := A.c.def_ 46
  exact ⟨_, fd, A.g__law_points, F.kp, F.bindsN fun _ _ _ _ _ _ us hl => match us, hl with | [_], _ => rfl, def_ok F sc__law_points (fun ds μ Q Xd h => h.1) (fun cdv A2 fr s H E hr hgd => d__law_points A hr hgd) fun ds μ Q Xd h => h.2⟩
/-! _law_right -/
abbrev N__law_right : List Str := ["history", "world", "net", "index", "point", "name"]
theorem sc__law_right : FnScope N__law_right ["history", "world"] (defScope (top 42)) := ⟨rfl, rfl, rfl, by decide +kernel, rfl, by decide +kernel, by decide +kernel⟩
def w__law_right : WS := (sSeq (sIf (wB (w2 fNeU (wLc (wiL (wMeth "History" "moves" sp_History_moves (wVar 0) wNil)) (kTup 2 (kCons (kNameC 3) (kCons (kNameC 4) kNil))) wYes (wTup (wCons (wVar 3) (wCons (wMeth "Point" "pair" sp_Point_pair (wVar 4) wNil) wNil))) [3, 4]) (w2 fGetT (wVar 1) (wC (.str "made")))))
  (sRet (wC (.bl false)))
  sNext)
 (sSeq (sDrop (wAppL (wMeth "History" "moves" sp_History_moves_C (wVar 0) wNil) (wC .non)))
 (sSeq (sSet 2 (wMeth "History" "net_now" sp_History_net_now_C (wVar 0) wNil))
 (sSeq (sIf (wOr (wB (w2 fNeU (wCall sp__law_points (wCons (wVar 2) wNil)) (wCall sp__law_now (wCons (wVar 1) wNil)))) (wB (w2 fNeU (wMeth "Net" "triples" sp_Net_triples (wVar 2) wNil) (w2 fGetT (wVar 1) (wC (.str "triples"))))))
  (sRet (wC (.bl false)))
  sNext)
 (sSeq (sSetIx ["Net"] sp_Net_setitem (wVar 2) (wC (.int (0))) (wTup (wCons (wC (.int (55))) (wCons (wC (.int (55))) wNil))))
 (sRet (wAndV (w2 fEqU (wN (fLenO ["History"] sp_History_len) (wCons (wVar 0) wNil)) (wN fLen (wCons (w2 fGetT (wVar 1) (wC (.str "made"))) wNil))) (w2 fEqU (wMeth "History" "kept" sp_History_kept (wVar 0) wNil) (wKeysG 1 5 "kept")))))))))
def sp__law_right : DSp := fun ds μ Q Xd => ds.length = 2 ∧ w__law_right (defE Q Xd) (startD N__law_right ds) μ
theorem d__law_right (A : Hd K mg) {cdv : Value} {A2 : Around} {fr : List Env} {s : Shared} {H : Hp} {E : XK} {f : Addr} (hr : Room 8 (A2.deeper (envOfC "_law_right" (defScope (top 42)) s.heap.objs.size f cdv))) (hgd : (A2.deeper (envOfC "_law_right" (defScope (top 42)) s.heap.objs.size f cdv)).guards = some []) :
    DSs none (fun cls d _ H2 => E cls d H2) (cxOf (L2.CX P w) P w K mg base N__law_right "_law_right" (defScope (top 42)) f cdv A2 fr s H E) (defBody (top 42)) w__law_right := by
  have hN := (sc__law_right).nd
  exact (dss_cons (ds_if (dt_cmp (op_neU (have z := room64 hr; z)) s2_neU (de_lc rfl hN (di_list (de_methD0 A.ok_History_moves hr (by decide) hgd (takes_of rfl rfl rfl rfl) (dv 0))) (blkOk_by (own := [("index", 3), ("point", 4)]) (by show blkC N__law_right (defScope (top 42)) _ _ = true; decide +kernel)) (lcg_tup (lcgs_cons (lcg_name (by decide)) (lcgs_cons (lcg_name (by decide)) lcgs_nil))) (fun _ _ _ _ _ => (pg_tup rfl (pgs_cons (pg_name hN rfl (by first | exact Or.inl rfl | exact Or.inr rfl) (by first | exact .inl rfl | exact .inr rfl)) (pgs_cons (pg_name hN rfl (by first | exact Or.inl rfl | exact Or.inr rfl) (by first | exact .inl rfl | exact .inr rfl)) pgs_nil)))) (fun _ _ _ _ _ => dts_nil) (fun _ _ _ _ _ => (de_tup (da_cons (dv 3) (da_cons (de_methD0 A.ok_Point_pair hr (by decide) hgd takes0 (dv 4)) da_nil))))) (de_getT (have z := room2 hr; z) (dv 1) de_str) (nomark _)) (dss_one (ds_ret de_bl)) dss_nil)
 (dss_cons (ds_expr (de_appL (de_methD0 A.ok_History_moves_C hr (by decide) hgd (takes_of rfl rfl rfl rfl) (dv 0)) de_non))
 (dss_cons (ds_set (i := 2) hN rfl (de_methD0 A.ok_History_net_now_C hr (by decide) hgd (takes_of rfl rfl rfl rfl) (dv 0)))
 (dss_cons (ds_if (dt_w (dw_or (dt_cmp (op_neU (have z := room64 hr; z)) s2_neU (de_callD A.ok__law_points hr (by decide) hgd rfl (takes_of rfl rfl rfl rfl) (da_cons (dv 2) da_nil)) (de_callD A.ok__law_now hr (by decide) hgd rfl (takes_of rfl rfl rfl rfl) (da_cons (dv 1) da_nil)) (nomark _)) (dw_or1 (dt_cmp (op_neU (have z := room64 hr; z)) s2_neU (de_methD0 A.ok_Net_triples hr (by decide) hgd (takes_of rfl rfl rfl rfl) (dv 2)) (de_getT (have z := room2 hr; z) (dv 1) de_str) (nomark _))))) (dss_one (ds_ret de_bl)) dss_nil)
 (dss_cons (ds_setIx A.sp_Net_setitem hr (by decide) hgd (takes_of rfl rfl rfl rfl) (dv 2) de_int (de_tup (da_cons de_int (da_cons de_int da_nil))))
 (dss_one (ds_ret (de_and (de_cmp (op_eqU (have z := room64 hr; z)) s2_eqU (de_lenO A.sp_History_len hr (by decide) hgd (by rfl) A.f_len (da_cons (dv 0) da_nil)) (de_callB call_len_seq sn_len rfl A.f_len bt_len (da_cons (de_getT (have z := room2 hr; z) (dv 1) de_str) da_nil)) (nomark _)) (de_one (de_cmp (op_eqU (have z := room64 hr; z)) s2_eqU (de_methD0 A.ok_History_kept hr (by decide) hgd (takes_of rfl rfl rfl rfl) (dv 0)) (de_keysG (i := 1) (j := 5) (have z := room2 hr; z) rfl hN rfl (by first | exact Or.inl rfl | exact Or.inr (Or.inl rfl)) (blkOk_by (own := [("name", 5)]) (by show blkC N__law_right (defScope (top 42)) _ _ = true; decide +kernel)) (fun _ _ _ _ _ => (pg_name hN rfl (by first | exact Or.inl rfl | exact Or.inr rfl) (by first | exact .inl rfl | exact .inr rfl))) (fun _ _ _ _ _ => (pe_var rfl (Or.inl rfl)))) (nomark _)))))))))))
theorem Hd.ok__law_right (A : Hd K mg) : CallD P w K mg base 9 "_law_right" ["history", "world"] sp__law_right := by
  obtain ⟨fd, F⟩ := A.c.def_ 47
  exact ⟨_, fd, A.g__law_right, F.kp, F.bindsN fun _ _ _ _ _ _ us hl => match us, hl with | [_, _], _ => rfl, def_ok F sc__law_right (fun ds μ Q Xd h => h.1) (fun cdv A2 fr s H E hr hgd => d__law_right A hr hgd) fun ds μ Q Xd h => h.2⟩
/-! law -/
abbrev N_law : List Str := ["script", "k", "pool", "pairs", "triples", "net", "history", "world", "turn", "call"]
theorem sc_law : FnScope N_law ["script"] (defScope (top 43)) := ⟨rfl, rfl, rfl, by decide +kernel, rfl, by decide +kernel, by decide +kernel⟩
def w_law : WS := (sSeq (sFor (wiR1 (wCons (wN fMax2 (wCons (wC (.int (1))) (wCons (wN fMin2 (wCons (wN fLen (wCons (wVar 0) wNil)) (wCons (wC (.int (4))) wNil))) wNil))) wNil)) (kName 1)
  (sSeq (sSet 2 (wCall sp__law_hand (wCons (wVar 0) (wCons (wVar 1) wNil))))
 (sSeq (sAsg (wCall sp__law_net_here (wCons (wVar 2) wNil)) (kTup 2 (kCons (kName 3) (kCons (kName 4) kNil))))
 (sSeq (sSet 5 (wMakeC "Net" sp_Net_init (wCons (wVar 3) (wCons (wVar 4) wNil))))
 (sSeq (sSet 6 (wMakeC "History" sp_History_init (wCons (wVar 5) wNil)))
 (sSeq (sSetIx ["Net"] sp_Net_setitem (wVar 5) (wC (.int (0))) (wMake "Point" sp_Point_init (wCons (wC (.int (66))) (wCons (wC (.int (66))) wNil))))
 (sSeq (sSet 7 (wDicL ["pairs", "triples", "made", "later", "kept"] (wCons (wVar 3) (wCons (wVar 4) (wCons (wLst wNil) (wCons (wLst wNil) (wCons wDicC wNil)))))))
 (sFor (wiR1 (wCons (wC (.int (40))) wNil)) (kName 8)
  (sSeq (sSet 9 (wCall sp__law_call (wCons (wVar 2) wNil)))
 (sIf (wOr (wB (w2 fNeU (wCall sp__law_do (wCons (wVar 6) (wCons (wVar 9) wNil))) (wCall sp__law_due (wCons (wVar 7) (wCons (wVar 9) wNil))))) (wNot (wB (wCall sp__law_right (wCons (wVar 6) (wCons (wVar 7) wNil))))))
  (sRet (wC (.bl false)))
  sNext))))))))))
 (sRet (wC (.bl true))))
def sp_law : DSp := fun ds μ Q Xd => ds.length = 1 ∧ w_law (defE Q Xd) (startD N_law ds) μ
theorem d_law (A : Hd K mg) {cdv : Value} {A2 : Around} {fr : List Env} {s : Shared} {H : Hp} {E : XK} {f : Addr} (hr : Room 10 (A2.deeper (envOfC "law" (defScope (top 43)) s.heap.objs.size f cdv))) (hgd : (A2.deeper (envOfC "law" (defScope (top 43)) s.heap.objs.size f cdv)).guards = some []) :
    DSs none (fun cls d _ H2 => E cls d H2) (cxOf (L2.CX P w) P w K mg base N_law "law" (defScope (top 43)) f cdv A2 fr s H E) (defBody (top 43)) w_law := by
  have hN := (sc_law).nd
  exact (dss_cons (ds_for (passes_of rfl) rfl (di_range1 (by rfl) A.f_range (da_cons (de_callB (call_max2 (by rfl)) sn_max2 (by rfl) A.f_max bt_max (da_cons de_int (da_cons (de_callB (call_min2 (by rfl)) sn_min2 (by rfl) A.f_min bt_min (da_cons (de_callB call_len_seq sn_len (by rfl) A.f_len bt_len (da_cons (dv 0) da_nil)) (da_cons de_int da_nil))) da_nil))) da_nil)) (dg_name hN rfl) (dss_cons (ds_set (i := 2) hN rfl (de_callD A.ok__law_hand hr (by decide) hgd rfl (takes_of rfl rfl rfl rfl) (da_cons (dv 0) (da_cons (dv 1) da_nil))))
 (dss_cons (ds_asg (de_callD A.ok__law_net_here hr (by decide) hgd rfl (takes_of rfl rfl rfl rfl) (da_cons (dv 2) da_nil)) (dg_tup rfl (dgs_cons (dg_name hN rfl) (dgs_cons (dg_name hN rfl) dgs_nil))))
 (dss_cons (ds_set (i := 5) hN rfl (de_makeDC A.ok_Net_init hr (by decide) hgd rfl (takes_of rfl rfl rfl rfl) (da_cons (dv 3) (da_cons (dv 4) da_nil))))
 (dss_cons (ds_set (i := 6) hN rfl (de_makeDC A.ok_History_init hr (by decide) hgd rfl (takes_of rfl rfl rfl rfl) (da_cons (dv 5) da_nil)))
 (dss_cons (ds_setIx A.sp_Net_setitem hr (by decide) hgd (takes_of rfl rfl rfl rfl) (dv 5) de_int (de_makeD A.ok_Point_init hr (by decide) hgd rfl (takes_of rfl rfl rfl rfl) (da_cons de_int (da_cons de_int da_nil))))
 (dss_cons (ds_set (i := 7) hN rfl (de_dicL (dps_cons (dv 3) (dps_cons (dv 4) (dps_cons (de_lst da_nil) (dps_cons (de_lst da_nil) (dps_cons de_dicC dps_nil)))))))
 (dss_one (ds_for (passes_of rfl) rfl (di_range1 (by rfl) A.f_range (da_cons de_int da_nil)) (dg_name hN rfl) (dss_cons (ds_set (i := 9) hN rfl (de_callD A.ok__law_call hr (by decide) hgd rfl (takes_of rfl rfl rfl rfl) (da_cons (dv 2) da_nil)))
 (dss_one (ds_if (dt_w (dw_or (dt_cmp (op_neU (have z := room64 hr; z)) s2_neU (de_callD A.ok__law_do hr (by decide) hgd rfl (takes_of rfl rfl rfl rfl) (da_cons (dv 6) (da_cons (dv 9) da_nil))) (de_callD A.ok__law_due hr (by decide) hgd rfl (takes_of rfl rfl rfl rfl) (da_cons (dv 7) (da_cons (dv 9) da_nil))) (nomark _)) (dw_or1 (dt_not (dt_val (de_callD A.ok__law_right hr (by decide) hgd rfl (takes_of rfl rfl rfl rfl) (da_cons (dv 6) (da_cons (dv 7) da_nil)))))))) (dss_one (ds_ret de_bl)) dss_nil))))))))))))
 (dss_one (ds_ret de_bl)))
end
theorem isi_0 : isiF isiL (.b "int") (.b "int") = some true := by decide +kernel
theorem isi_1 : isiF isiL (.b "bool") (.b "int") = some true := by decide +kernel
theorem isi_2 : isiF isiL (.b "str") (.b "int") = some false := by decide +kernel
theorem isi_3 : isiF isiL (.b "NoneType") (.b "int") = some false := by decide +kernel
theorem isi_4 : isiF isiL (.b "tuple") (.b "int") = some false := by decide +kernel
theorem isi_5 : isiF isiL (.b "list") (.b "int") = some false := by decide +kernel
theorem isi_6 : isiF isiL (.c "Point") (.b "int") = some false := by decide +kernel
theorem isi_7 : isiF isiL (.c "History") (.b "int") = some false := by decide +kernel
theorem isi_8 : isiF isiL (.c "Net") (.b "int") = some false := by decide +kernel
theorem isi_9 : isiF isiL (.b "int") (.b "bool") = some false := by decide +kernel
theorem isi_10 : isiF isiL (.b "bool") (.b "bool") = some true := by decide +kernel
theorem isi_11 : isiF isiL (.b "str") (.b "bool") = some false := by decide +kernel
theorem isi_12 : isiF isiL (.b "NoneType") (.b "bool") = some false := by decide +kernel
theorem isi_13 : isiF isiL (.b "tuple") (.b "bool") = some false := by decide +kernel
theorem isi_14 : isiF isiL (.b "list") (.b "bool") = some false := by decide +kernel
theorem isi_15 : isiF isiL (.c "Point") (.b "bool") = some false := by decide +kernel
theorem isi_16 : isiF isiL (.c "History") (.b "bool") = some false := by decide +kernel
theorem isi_17 : isiF isiL (.c "Net") (.b "bool") = some false := by decide +kernel
theorem isi_18 : isiF isiL (.b "int") (.c "Point") = some false := by decide +kernel
theorem isi_19 : isiF isiL (.b "bool") (.c "Point") = some false := by decide +kernel
theorem isi_20 : isiF isiL (.b "str") (.c "Point") = some false := by decide +kernel
theorem isi_21 : isiF isiL (.b "NoneType") (.c "Point") = some false := by decide +kernel
theorem isi_22 : isiF isiL (.b "tuple") (.c "Point") = some false := by decide +kernel
theorem isi_23 : isiF isiL (.b "list") (.c "Point") = some false := by decide +kernel
theorem isi_24 : isiF isiL (.c "Point") (.c "Point") = some true := by decide +kernel
theorem isi_25 : isiF isiL (.c "History") (.c "Point") = some false := by decide +kernel
theorem isi_26 : isiF isiL (.c "Net") (.c "Point") = some false := by decide +kernel
theorem isi_27 : isiF isiL (.b "int") (.b "tuple") = some false := by decide +kernel
theorem isi_28 : isiF isiL (.b "bool") (.b "tuple") = some false := by decide +kernel
theorem isi_29 : isiF isiL (.b "str") (.b "tuple") = some false := by decide +kernel
theorem isi_30 : isiF isiL (.b "NoneType") (.b "tuple") = some false := by decide +kernel
theorem isi_31 : isiF isiL (.b "tuple") (.b "tuple") = some true := by decide +kernel
theorem isi_32 : isiF isiL (.b "list") (.b "tuple") = some false := by decide +kernel
theorem isi_33 : isiF isiL (.c "Point") (.b "tuple") = some false := by decide +kernel
theorem isi_34 : isiF isiL (.c "History") (.b "tuple") = some false := by decide +kernel
theorem isi_35 : isiF isiL (.c "Net") (.b "tuple") = some false := by decide +kernel
theorem isi_36 : isiF isiL (.b "int") (.b "list") = some false := by decide +kernel
theorem isi_37 : isiF isiL (.b "bool") (.b "list") = some false := by decide +kernel
theorem isi_38 : isiF isiL (.b "str") (.b "list") = some false := by decide +kernel
theorem isi_39 : isiF isiL (.b "NoneType") (.b "list") = some false := by decide +kernel
theorem isi_40 : isiF isiL (.b "tuple") (.b "list") = some false := by decide +kernel
theorem isi_41 : isiF isiL (.b "list") (.b "list") = some true := by decide +kernel
theorem isi_42 : isiF isiL (.c "Point") (.b "list") = some false := by decide +kernel
theorem isi_43 : isiF isiL (.c "History") (.b "list") = some false := by decide +kernel
theorem isi_44 : isiF isiL (.c "Net") (.b "list") = some false := by decide +kernel
theorem isi_45 : isiF isiL (.b "int") (.b "str") = some false := by decide +kernel
theorem isi_46 : isiF isiL (.b "bool") (.b "str") = some false := by decide +kernel
theorem isi_47 : isiF isiL (.b "str") (.b "str") = some true := by decide +kernel
theorem isi_48 : isiF isiL (.b "NoneType") (.b "str") = some false := by decide +kernel
theorem isi_49 : isiF isiL (.b "tuple") (.b "str") = some false := by decide +kernel
theorem isi_50 : isiF isiL (.b "list") (.b "str") = some false := by decide +kernel
theorem isi_51 : isiF isiL (.c "Point") (.b "str") = some false := by decide +kernel
theorem isi_52 : isiF isiL (.c "History") (.b "str") = some false := by decide +kernel
theorem isi_53 : isiF isiL (.c "Net") (.b "str") = some false := by decide +kernel
theorem isi_54 : catF catL_FillError (Str.ofString "InvalidName") = some true := by decide +kernel
theorem isi_55 : catF catL_FillError (Str.ofString "InvalidNet") = some true := by decide +kernel
theorem isi_56 : catF catL_FillError (Str.ofString "InvalidNumber") = some true := by decide +kernel
theorem isi_57 : catF catL_FillError (Str.ofString "InvalidPoint") = some true := by decide +kernel
theorem isi_58 : catF catL_FillError (Str.ofString "NothingLeft") = some true := by decide +kernel
theorem isi_59 : catF catL_FillError (Str.ofString "UnknownName") = some true := by decide +kernel
theorem isi_60 : isxF isxL (.c (Str.ofString "InvalidName")) (.c (Str.ofString "InvalidName")) = some true := by decide +kernel
theorem isi_61 : isxF isxL (.c (Str.ofString "InvalidName")) (.c (Str.ofString "InvalidNumber")) = some false := by decide +kernel
theorem isi_62 : isxF isxL (.c (Str.ofString "InvalidName")) (.c (Str.ofString "InvalidPoint")) = some false := by decide +kernel
theorem isi_63 : isxF isxL (.c (Str.ofString "InvalidName")) (.c (Str.ofString "NothingLeft")) = some false := by decide +kernel
theorem isi_64 : isxF isxL (.c (Str.ofString "InvalidName")) (.c (Str.ofString "UnknownName")) = some false := by decide +kernel
theorem isi_65 : isxF isxL (.c (Str.ofString "InvalidNet")) (.c (Str.ofString "InvalidName")) = some false := by decide +kernel
theorem isi_66 : isxF isxL (.c (Str.ofString "InvalidNet")) (.c (Str.ofString "InvalidNumber")) = some false := by decide +kernel
theorem isi_67 : isxF isxL (.c (Str.ofString "InvalidNet")) (.c (Str.ofString "InvalidPoint")) = some false := by decide +kernel
theorem isi_68 : isxF isxL (.c (Str.ofString "InvalidNet")) (.c (Str.ofString "NothingLeft")) = some false := by decide +kernel
theorem isi_69 : isxF isxL (.c (Str.ofString "InvalidNet")) (.c (Str.ofString "UnknownName")) = some false := by decide +kernel
theorem isi_70 : isxF isxL (.c (Str.ofString "InvalidNumber")) (.c (Str.ofString "InvalidName")) = some false := by decide +kernel
theorem isi_71 : isxF isxL (.c (Str.ofString "InvalidNumber")) (.c (Str.ofString "InvalidNumber")) = some true := by decide +kernel
theorem isi_72 : isxF isxL (.c (Str.ofString "InvalidNumber")) (.c (Str.ofString "InvalidPoint")) = some false := by decide +kernel
theorem isi_73 : isxF isxL (.c (Str.ofString "InvalidNumber")) (.c (Str.ofString "NothingLeft")) = some false := by decide +kernel
theorem isi_74 : isxF isxL (.c (Str.ofString "InvalidNumber")) (.c (Str.ofString "UnknownName")) = some false := by decide +kernel
theorem isi_75 : isxF isxL (.c (Str.ofString "InvalidPoint")) (.c (Str.ofString "InvalidName")) = some false := by decide +kernel
theorem isi_76 : isxF isxL (.c (Str.ofString "InvalidPoint")) (.c (Str.ofString "InvalidNumber")) = some false := by decide +kernel
theorem isi_77 : isxF isxL (.c (Str.ofString "InvalidPoint")) (.c (Str.ofString "InvalidPoint")) = some true := by decide +kernel
theorem isi_78 : isxF isxL (.c (Str.ofString "InvalidPoint")) (.c (Str.ofString "NothingLeft")) = some false := by decide +kernel
theorem isi_79 : isxF isxL (.c (Str.ofString "InvalidPoint")) (.c (Str.ofString "UnknownName")) = some false := by decide +kernel
theorem isi_80 : isxF isxL (.c (Str.ofString "NothingLeft")) (.c (Str.ofString "InvalidName")) = some false := by decide +kernel
theorem isi_81 : isxF isxL (.c (Str.ofString "NothingLeft")) (.c (Str.ofString "InvalidNumber")) = some false := by decide +kernel
theorem isi_82 : isxF isxL (.c (Str.ofString "NothingLeft")) (.c (Str.ofString "InvalidPoint")) = some false := by decide +kernel
theorem isi_83 : isxF isxL (.c (Str.ofString "NothingLeft")) (.c (Str.ofString "NothingLeft")) = some true := by decide +kernel
theorem isi_84 : isxF isxL (.c (Str.ofString "NothingLeft")) (.c (Str.ofString "UnknownName")) = some false := by decide +kernel
theorem isi_85 : isxF isxL (.c (Str.ofString "UnknownName")) (.c (Str.ofString "InvalidName")) = some false := by decide +kernel
theorem isi_86 : isxF isxL (.c (Str.ofString "UnknownName")) (.c (Str.ofString "InvalidNumber")) = some false := by decide +kernel
theorem isi_87 : isxF isxL (.c (Str.ofString "UnknownName")) (.c (Str.ofString "InvalidPoint")) = some false := by decide +kernel
theorem isi_88 : isxF isxL (.c (Str.ofString "UnknownName")) (.c (Str.ofString "NothingLeft")) = some false := by decide +kernel
theorem isi_89 : isxF isxL (.c (Str.ofString "UnknownName")) (.c (Str.ofString "UnknownName")) = some true := by decide +kernel
end K85

set_option Elab.async false
set_option linter.all false
set_option maxRecDepth 100000
set_option maxHeartbeats 4000000
set_option autoImplicit false
set_option exponentiation.threshold 3000
namespace K85
open PySem PySem.Spec PyProof.Rows L2 DL
local macro_rules
  | `(tactic| walk_at "dk") => `(tactic| try simp only [g_gen, r_newD, r_put0, r_kw, r_kw1, r_kw2, r_kw0, r_kw00, c_wi, c_en, c_en1, c_for, c_for1, c_lc, c_lc1, c_lof, c_lof1, c_ap, c_ap1, c_ap2, y_p2, y_p21, y_oo, y_fo, y_foq, y_of, y_of2, c_si, c_si1, c_si2, c_si3, c_lu1, c_lu2, c_lu3, z_fl, z_fl1, z_fl2, z_ps, z_ps1, z_ps2, z_ps3, z_eqT, z_cat, z_cat1, z_cat2, y_pop, y_pop1, y_pop2, y_lcC, y_lcR, y_callR, t_wis, t_wisa, t_dicL, t_kpt, t_kpt1, t_kpt2, t_slst, t_dic, t_put, t_put1, t_put2, t_put3, t_base, y_cell, y_rem, y_rem1, y_rem2, x_subO, x_subO1, x_subO2, v_slo, v_slo1, w_ff, w_ft, w_tf, w_tt, false_and, and_false, v_ix, v_ix1, v_ix2, v_inv, v_inv1, v_co, v_co1, v_co2, v_len, v_len1, isiD, tyD, clD, r_insobj, fldOf, DL.isNon, items_tup, items_lst, items_frl, hasCls, othTy, insD, DL.putK, DL.putD, initEnd, startI, startD, DL.wipeD, List.map_cons, List.map_nil, List.length_cons, List.length_nil, List.getElem?_cons_zero, List.getElem?_cons_succ, List.getElem?_nil, List.set_cons_zero, List.set_cons_succ, List.cons_append, List.nil_append, List.append_nil, List.replicate, Nat.sub_self, Nat.reduceSub, Nat.reduceAdd, Nat.reduceLeDiff, Nat.reduceEqDiff, Nat.reduceLT, Int.reduceLT, Int.reduceLE, if_true, if_false, Bool.not_true, Bool.not_false, reduceIte, reduceCtorEq, true_and, and_true, Nat.zero_add, Bool.true_eq_false, Bool.false_eq_true, eqU_int, eqU_str, eqU_bl, str_eq, str_beq, String.reduceEq, decide_true, decide_false, decide_eq_true_eq, pl_items, pl_st0, pl_st1, pl_fold, notOwn, List.mem_singleton, List.mem_cons, List.not_mem_nil, or_false, false_or, or_true, true_or, forall_eq, forall_eq_or_imp, implies_true, Int.reduceToNat, Int.reduceEq, Int.reduceNe, Int.reduceAdd, Int.reduceSub, Int.reduceMul, Int.reducePow, Int.reduceMod, Int.reduceDiv, atI_0, atI_1, atI_2, atI_3, rg1, rg2, startI, r_var, r_var2, r_c, r_w2, r_w2a, r_w2b, r_w1, r_w1a, r_wB, r_wBa, r_ch, r_ch1, r_ch2, r_ch3t, r_ch3f, r_and, r_andt, r_andf, r_or, r_ort, r_orf, r_not, r_nota, r_ife, r_ifet, r_ifef, r_andv, r_andvt, r_andvf, r_orv, r_orvt, r_orvf, r_notv, r_notva, r_nil, r_cons, r_cons1, r_cons2, r_tup, r_tupa, r_lst, r_lsta, r_lstc, r_lstca, r_wn, r_wna, r_call, r_calla, r_mk, r_mk1, r_mk2, r_mkc, r_mkc1, r_mkc2, r_me, r_me1, r_me2, r_bo, r_bo1, r_bo2, r_onone, r_osome, r_osomea, r_sl, r_sl1, r_sl2, r_sl3, r_sl3f, r_ii, r_ii0, r_ib, r_i1, r_plus, r_plusl, r_times, r_timesl, r_isn, r_notn, r_isb, r_notb, r_pm, r_pm1, DL.perm, z_neT, z_catT, r_eqd, r_ned, r_int1, r_int1b, r_max2, r_min2, r_abs, r_ix, r_ix2, r_ix3, r_len, r_len2, r_isi, r_isi2, r_fld, r_fld2, r_fld3, r_insobj, r_kx, r_next, r_never, r_seq, r_seqa, r_if, r_ift, r_iff, r_ret, r_retn, r_brk, r_cnt, r_drop, r_dropa, r_set, r_seta, r_asg, r_asga, r_name, r_namec, r_ktup, r_kunl, r_kcons, r_kcs, r_knil, r_par2, r_par2a, r_par3, r_par3a, r_aug, r_auga, r_augb, r_augc, r_for, r_fora, r_knx, r_fldo, r_fldoa, r_put, r_frz, r_frz2, r_frz3, r_frz4, r_cl, r_seto, r_setoa, r_wil, r_wila, r_wilf, r_wit, r_wita, r_wi1, r_wi1a, r_wi2, r_wi2a, r_wie, r_wiea, r_wiz, r_wiza, r_wizt, r_lc, r_lc0, r_lcn, r_lcc, r_lc1, r_lc2t, r_lc2f, r_lc3, r_yes, r_sub, r_sub1, r_sub2, r_sub3, r_dnx, r_drt, r_dxc, r_inx, r_init, r_ixc, t_raise, t_raise2, t_try, t_cat, t_catt, t_catf, t_sunx, t_surt, t_nx0, t_nx1, t_nx2, t_nx3, t_prop, t_prop2, t_xf, t_xf2, t_isx, t_isx2, t_wht, t_whf, t_equ, t_neu, t_el, List.reverse_cons, List.reverse_nil, isiDT, anyT, List.all_cons, List.all_nil, Option.isSome_some, Bool.and_true, Bool.true_and, u_lof, u_lof2, u_tof, u_tof2, u_isiT, u_dict, u_bl, u_ownN, u_has, u_hasN, u_bk, u_bk1, u_bk2, u_stat, u_ap, u_ap1, u_ap2, u_ex, u_ex1, u_ex2, u_ownL, u_olen, u_oix, u_oix1, u_oin, u_sumT, u_sumL, u_mu, u_mu1, u_hot, u_hot1, startX, u_mb, u_mb1, u_mb1f, u_mb2, u_rev, u_revf, u_wio, u_wex, u_wel, u_wef, u_wet, u_en, u_en0, u_enc, u_enn, Int.cast_ofNat_Int, u_wzx, u_wzl, u_wzt, u_wzm, u_zd, u_zd0, intsD, DL.intD, u_kd, isTy, Bool.true_xor, Bool.false_xor, eqU_pl, p_int, p_bl, p_non, p_tup, p_lst, p_frl, p0_int, p0_bl, p0_non, deq, deqs, Bool.and_true, Bool.and_false, Bool.false_and, List.contains_cons, List.contains_nil, Bool.or_false, Bool.false_or, Bool.or_self, eq_self, beq_self_eq_true, Bool.not_true, Bool.not_false, List.flatten_cons, List.flatten_nil, isi_0, isi_1, isi_2, isi_3, isi_4, isi_5, isi_6, isi_7, isi_8, isi_9, isi_10, isi_11, isi_12, isi_13, isi_14, isi_15, isi_16, isi_17, isi_18, isi_19, isi_20, isi_21, isi_22, isi_23, isi_24, isi_25, isi_26, isi_27, isi_28, isi_29, isi_30, isi_31, isi_32, isi_33, isi_34, isi_35, isi_36, isi_37, isi_38, isi_39, isi_40, isi_41, isi_42, isi_43, isi_44, isi_45, isi_46, isi_47, isi_48, isi_49, isi_50, isi_51, isi_52, isi_53, isi_54, isi_55, isi_56, isi_57, isi_58, isi_59, isi_60, isi_61, isi_62, isi_63, isi_64, isi_65, isi_66, isi_67, isi_68, isi_69, isi_70, isi_71, isi_72, isi_73, isi_74, isi_75, isi_76, isi_77, isi_78, isi_79, isi_80, isi_81, isi_82, isi_83, isi_84, isi_85, isi_86, isi_87, isi_88, isi_89])
local macro_rules
  | `(tactic| walk_at "ds") => `(tactic| try simp only [g_gen, r_newD, r_put0, r_kw, r_kw1, r_kw2, r_kw0, r_kw00, c_wi, c_en, c_en1, c_for, c_for1, c_lc, c_lc1, c_lof, c_lof1, c_ap, c_ap1, c_ap2, y_p2, y_p21, y_oo, y_fo, y_foq, y_of, y_of2, c_si, c_si1, c_si2, c_si3, c_lu1, c_lu2, c_lu3, z_fl, z_fl1, z_fl2, z_ps, z_ps1, z_ps2, z_ps3, z_eqT, z_cat, z_cat1, z_cat2, y_pop, y_pop1, y_pop2, y_lcC, y_lcR, y_callR, t_wis, t_wisa, t_dicL, t_kpt, t_kpt1, t_kpt2, t_slst, t_dic, t_put, t_put1, t_put2, t_put3, t_base, y_cell, y_rem, y_rem1, y_rem2, x_subO, x_subO1, x_subO2, v_slo, v_slo1, w_ff, w_ft, w_tf, w_tt, false_and, and_false, isClsU, v_ix, v_ix1, v_ix2, v_inv, v_inv1, v_co, v_co1, v_co2, v_len, v_len1, v_f2or, isiD, tyD, clD, r_insobj, fldOf, DL.isNon, items_tup, items_lst, items_frl, hasCls, isCls, othTy, insD, DL.putK, DL.putD, initEnd, startI, startD, DL.wipeD, List.map_cons, List.map_nil, List.length_cons, List.length_nil, List.getElem?_cons_zero, List.getElem?_cons_succ, List.getElem?_nil, List.set_cons_zero, List.set_cons_succ, List.cons_append, List.nil_append, List.append_nil, List.replicate, Nat.sub_self, Nat.reduceSub, Nat.reduceAdd, Nat.reduceLeDiff, Nat.reduceEqDiff, Nat.reduceLT, Int.reduceLT, Int.reduceLE, if_true, if_false, Bool.not_true, Bool.not_false, reduceIte, reduceCtorEq, true_and, and_true, Nat.zero_add, Bool.true_eq_false, Bool.false_eq_true, eqU_int, eqU_str, eqU_bl, str_eq, str_beq, String.reduceEq, decide_true, decide_false, decide_eq_true_eq, pl_items, pl_st0, pl_st1, pl_fold, notOwn, List.mem_singleton, List.mem_cons, List.not_mem_nil, or_false, false_or, or_true, true_or, forall_eq, forall_eq_or_imp, implies_true, Int.reduceToNat, Int.reduceEq, Int.reduceNe, Int.reduceAdd, Int.reduceSub, Int.reduceMul, Int.reducePow, Int.reduceMod, Int.reduceDiv, atI_0, atI_1, atI_2, atI_3, rg1, rg2, startI, r_var, r_var2, r_c, r_w2, r_w2a, r_w2b, r_w1, r_w1a, r_wB, r_wBa, r_ch, r_ch1, r_ch2, r_ch3t, r_ch3f, r_and, r_andt, r_andf, r_or, r_ort, r_orf, r_not, r_nota, r_ife, r_ifet, r_ifef, r_andv, r_andvt, r_andvf, r_orv, r_orvt, r_orvf, r_notv, r_notva, r_nil, r_cons, r_cons1, r_cons2, r_tup, r_tupa, r_lst, r_lsta, r_lstc, r_lstca, r_wn, r_wna, r_call, r_calla, r_mk, r_mk1, r_mk2, r_mkc, r_mkc1, r_mkc2, r_me, r_me1, r_me2, r_bo, r_bo1, r_bo2, r_onone, r_osome, r_osomea, r_sl, r_sl1, r_sl2, r_sl3, r_sl3f, r_ii, r_ii0, r_ib, r_i1, r_plus, r_plusl, r_times, r_timesl, r_isn, r_notn, r_isb, r_notb, r_pm, r_pm1, DL.perm, z_neT, z_catT, r_eqd, r_ned, r_int1, r_int1b, r_max2, r_min2, r_abs, r_ix, r_ix2, r_ix3, r_len, r_len2, r_isi, r_isi2, r_fld, r_fld2, r_fld3, r_insobj, r_kx, r_next, r_never, r_seqa, r_if, r_ift, r_iff, r_ret, r_retn, r_brk, r_cnt, r_drop, r_dropa, r_set, r_seta, r_asg, r_asga, r_name, r_namec, r_ktup, r_kunl, r_kcons, r_kcs, r_knil, r_par2, r_par2a, r_par3, r_par3a, r_aug, r_auga, r_augb, r_augc, r_for, r_fora, r_knx, r_fldo, r_fldoa, r_put, r_frz, r_frz2, r_frz3, r_frz4, r_cl, r_seto, r_setoa, r_wil, r_wila, r_wilf, r_wit, r_wita, r_wi1, r_wi1a, r_wi2, r_wi2a, r_wie, r_wiea, r_wiz, r_wiza, r_wizt, r_lc, r_lc0, r_lcn, r_lcc, r_lc1, r_lc2t, r_lc2f, r_lc3, r_yes, r_sub, r_sub1, r_sub2, r_sub3, r_dnx, r_drt, r_dxc, r_inx, r_init, r_ixc, t_raise, t_raise2, t_try, t_cat, t_catt, t_catf, t_sunx, t_surt, t_nx0, t_nx1, t_nx2, t_nx3, t_prop, t_prop2, t_xf, t_xf2, t_isx, t_isx2, t_wht, t_whf, t_equ, t_neu, t_el, List.reverse_cons, List.reverse_nil, isiDT, anyT, List.all_cons, List.all_nil, Option.isSome_some, Bool.and_true, Bool.true_and, u_lof, u_lof2, u_tof, u_tof2, u_isiT, u_dict, u_bl, u_own, u_ownN, u_has, u_hasN, u_bk, u_bk1, u_bk2, u_stat, u_ap, u_ap1, u_ap2, u_ex, u_ex1, u_ex2, u_ownL, u_olen, u_oix, u_oix1, u_oin, u_sumT, u_sumL, u_mu, u_mu1, u_hot, u_hot1, startX, u_mb, u_mb1, u_mb1f, u_mb2, u_rev, u_revf, u_wio, u_wex, u_wel, u_wef, u_wet, u_en, u_en0, u_enc, u_enn, Int.cast_ofNat_Int, u_wzx, u_wzl, u_wzt, u_wzm, u_zd, u_zd0, intsD, DL.intD, u_kd, othC, isTy, Bool.true_xor, Bool.false_xor, eqU_pl, p_int, p_bl, p_non, p_tup, p_lst, p_frl, p0_int, p0_bl, p0_non, deq, deqs, Bool.and_true, Bool.and_false, Bool.false_and, List.contains_cons, List.contains_nil, Bool.or_false, Bool.false_or, Bool.or_self, eq_self, beq_self_eq_true, Bool.not_true, Bool.not_false, List.flatten_cons, List.flatten_nil, isi_0, isi_1, isi_2, isi_3, isi_4, isi_5, isi_6, isi_7, isi_8, isi_9, isi_10, isi_11, isi_12, isi_13, isi_14, isi_15, isi_16, isi_17, isi_18, isi_19, isi_20, isi_21, isi_22, isi_23, isi_24, isi_25, isi_26, isi_27, isi_28, isi_29, isi_30, isi_31, isi_32, isi_33, isi_34, isi_35, isi_36, isi_37, isi_38, isi_39, isi_40, isi_41, isi_42, isi_43, isi_44, isi_45, isi_46, isi_47, isi_48, isi_49, isi_50, isi_51, isi_52, isi_53, isi_54, isi_55, isi_56, isi_57, isi_58, isi_59, isi_60, isi_61, isi_62, isi_63, isi_64, isi_65, isi_66, isi_67, isi_68, isi_69, isi_70, isi_71, isi_72, isi_73, isi_74, isi_75, isi_76, isi_77, isi_78, isi_79, isi_80, isi_81, isi_82, isi_83, isi_84, isi_85, isi_86, isi_87, isi_88, isi_89])
local macro_rules
  | `(tactic| walk_at "dn") => `(tactic| try simp only [g_gen, r_newD, r_put0, r_kw, r_kw1, r_kw2, r_kw0, r_kw00, c_wi, c_en, c_en1, c_for, c_for1, c_lc, c_lc1, c_lof, c_lof1, c_ap, c_ap1, c_ap2, y_p2, y_p21, y_oo, y_fo, y_foq, y_of, y_of2, c_si, c_si1, c_si2, c_si3, c_lu1, c_lu2, c_lu3, z_fl, z_fl1, z_fl2, z_ps, z_ps1, z_ps2, z_ps3, z_eqT, z_cat, z_cat1, z_cat2, y_pop, y_pop1, y_pop2, y_lcC, y_lcR, y_callR, t_wis, t_wisa, t_dicL, t_kpt, t_kpt1, t_kpt2, t_slst, t_dic, t_put, t_put1, t_put2, t_put3, t_base, y_cell, y_rem, y_rem1, y_rem2, x_subO, x_subO1, x_subO2, v_slo, v_slo1, w_ff, w_ft, w_tf, w_tt, false_and, and_false, isClsU, v_ix, v_ix1, v_ix2, v_inv, v_inv1, v_co, v_co1, v_co2, v_len, v_len1, v_f2or, isiD, tyD, clD, r_insobj, fldOf, DL.isNon, items_tup, items_lst, items_frl, hasCls, isCls, othTy, insD, DL.putK, DL.putD, initEnd, startI, startD, DL.wipeD, List.map_cons, List.map_nil, List.length_cons, List.length_nil, List.getElem?_cons_zero, List.getElem?_cons_succ, List.getElem?_nil, List.set_cons_zero, List.set_cons_succ, List.cons_append, List.nil_append, List.append_nil, List.replicate, Nat.sub_self, Nat.reduceSub, Nat.reduceAdd, Nat.reduceLeDiff, Nat.reduceEqDiff, Nat.reduceLT, Int.reduceLT, Int.reduceLE, if_true, if_false, Bool.not_true, Bool.not_false, reduceIte, reduceCtorEq, true_and, and_true, Nat.zero_add, Bool.true_eq_false, Bool.false_eq_true, eqU_int, eqU_str, eqU_bl, str_eq, str_beq, String.reduceEq, decide_true, decide_false, decide_eq_true_eq, pl_items, pl_st0, pl_st1, pl_fold, notOwn, List.mem_singleton, List.mem_cons, List.not_mem_nil, or_false, false_or, or_true, true_or, forall_eq, forall_eq_or_imp, implies_true, Int.reduceToNat, Int.reduceEq, Int.reduceNe, Int.reduceAdd, Int.reduceSub, Int.reduceMul, Int.reducePow, Int.reduceMod, Int.reduceDiv, atI_0, atI_1, atI_2, atI_3, rg1, rg2, startI, r_var, r_var2, r_c, r_w2, r_w2a, r_w2b, r_w1, r_w1a, r_wB, r_wBa, r_ch, r_ch1, r_ch2, r_ch3t, r_ch3f, r_and, r_andt, r_andf, r_or, r_ort, r_orf, r_not, r_nota, r_ife, r_ifet, r_ifef, r_andv, r_andvt, r_andvf, r_orv, r_orvt, r_orvf, r_notv, r_notva, r_nil, r_cons, r_cons1, r_cons2, r_tup, r_tupa, r_lst, r_lsta, r_lstc, r_lstca, r_wn, r_wna, r_call, r_calla, r_mk, r_mk1, r_mk2, r_mkc, r_mkc1, r_mkc2, r_me, r_me1, r_me2, r_bo, r_bo1, r_bo2, r_onone, r_osome, r_osomea, r_sl, r_sl1, r_sl2, r_sl3, r_sl3f, r_ii, r_ii0, r_ib, r_i1, r_plus, r_plusl, r_times, r_timesl, r_isn, r_notn, r_isb, r_notb, r_pm, r_pm1, DL.perm, z_neT, z_catT, r_eqd, r_ned, r_int1, r_int1b, r_max2, r_min2, r_abs, r_ix, r_ix2, r_ix3, r_len, r_len2, r_isi, r_isi2, r_fld, r_fld2, r_fld3, r_insobj, r_kx, r_next, r_never, r_seq, r_seqa, r_if, r_ift, r_iff, r_ret, r_retn, r_brk, r_cnt, r_drop, r_dropa, r_set, r_seta, r_asg, r_asga, r_name, r_namec, r_ktup, r_kunl, r_kcons, r_kcs, r_knil, r_par2, r_par2a, r_par3, r_par3a, r_aug, r_auga, r_augb, r_augc, r_for, r_fora, r_knx, r_fldo, r_fldoa, r_put, r_frz, r_frz2, r_frz3, r_frz4, r_cl, r_seto, r_setoa, r_wil, r_wila, r_wilf, r_wit, r_wita, r_wi1, r_wi1a, r_wi2, r_wi2a, r_wie, r_wiea, r_wiz, r_wiza, r_wizt, r_lc, r_lc0, r_lcn, r_lcc, r_lc1, r_lc2t, r_lc2f, r_lc3, r_yes, r_sub, r_sub1, r_sub2, r_sub3, r_dnx, r_drt, r_dxc, r_inx, r_init, r_ixc, t_raise, t_raise2, t_try, t_cat, t_catt, t_catf, t_sunx, t_surt, t_nx0, t_nx1, t_nx2, t_nx3, t_prop, t_prop2, t_xf, t_xf2, t_isx, t_isx2, t_wht, t_whf, t_equ, t_neu, t_el, List.reverse_cons, List.reverse_nil, isiDT, anyT, List.all_cons, List.all_nil, Option.isSome_some, Bool.and_true, Bool.true_and, u_lof, u_lof2, u_tof, u_tof2, u_isiT, u_dict, u_bl, u_own, u_ownN, u_has, u_hasN, u_bk, u_bk1, u_bk2, u_stat, u_ap, u_ap1, u_ap2, u_ex, u_ex1, u_ex2, u_ownL, u_olen, u_oix, u_oix1, u_oin, u_sumT, u_sumL, u_mu, u_mu1, u_hot, u_hot1, startX, u_mb, u_mb1, u_mb1f, u_mb2, u_rev, u_revf, u_wio, u_wex, u_wel, u_wef, u_wet, u_en, u_en0, u_enc, u_enn, Int.cast_ofNat_Int, u_wzx, u_wzl, u_wzt, u_wzm, u_zd, u_zd0, intsD, DL.intD, u_kd, othC, isTy, Bool.true_xor, Bool.false_xor, eqU_pl, p_int, p_bl, p_non, p_tup, p_lst, p_frl, p0_int, p0_bl, p0_non, deq, deqs, Bool.and_true, Bool.and_false, Bool.false_and, List.contains_cons, List.contains_nil, Bool.or_false, Bool.false_or, Bool.or_self, eq_self, beq_self_eq_true, Bool.not_true, Bool.not_false, List.flatten_cons, List.flatten_nil, isi_0, isi_1, isi_2, isi_3, isi_4, isi_5, isi_6, isi_7, isi_8, isi_9, isi_10, isi_11, isi_12, isi_13, isi_14, isi_15, isi_16, isi_17, isi_18, isi_19, isi_20, isi_21, isi_22, isi_23, isi_24, isi_25, isi_26, isi_27, isi_28, isi_29, isi_30, isi_31, isi_32, isi_33, isi_34, isi_35, isi_36, isi_37, isi_38, isi_39, isi_40, isi_41, isi_42, isi_43, isi_44, isi_45, isi_46, isi_47, isi_48, isi_49, isi_50, isi_51, isi_52, isi_53, isi_54, isi_55, isi_56, isi_57, isi_58, isi_59, isi_60, isi_61, isi_62, isi_63, isi_64, isi_65, isi_66, isi_67, isi_68, isi_69, isi_70, isi_71, isi_72, isi_73, isi_74, isi_75, isi_76, isi_77, isi_78, isi_79, isi_80, isi_81, isi_82, isi_83, isi_84, isi_85, isi_86, isi_87, isi_88, isi_89])
local macro_rules
  | `(tactic| walk_at "dl1") => `(tactic| simp only [g_gen, r_newD, r_put0, r_kw, r_kw1, r_kw2, r_kw0, r_kw00, c_wi, c_en, c_en1, c_for, c_for1, c_lc, c_lc1, c_lof, c_lof1, c_ap, c_ap1, c_ap2, y_p2, y_p21, y_oo, y_fo, y_foq, y_of, y_of2, c_si, c_si1, c_si2, c_si3, c_lu1, c_lu2, c_lu3, z_fl, z_fl1, z_fl2, z_ps, z_ps1, z_ps2, z_ps3, z_eqT, z_cat, z_cat1, z_cat2, y_pop, y_pop1, y_pop2, y_lcC, y_lcR, y_callR, t_wis, t_wisa, t_dicL, t_kpt, t_kpt1, t_kpt2, t_slst, t_dic, t_put, t_put1, t_put2, t_put3, t_base, y_cell, y_rem, y_rem1, y_rem2, x_subO, x_subO1, x_subO2, v_slo, v_slo1, w_ff, w_ft, w_tf, w_tt, false_and, and_false, isClsU, v_ix, v_ix1, v_ix2, v_inv, v_inv1, v_co, v_co1, v_co2, v_len, v_len1, v_f2or, isiD, tyD, clD, r_insobj, fldOf, DL.isNon, items_tup, items_lst, items_frl, hasCls, isCls, othTy, insD, DL.putK, DL.putD, initEnd, startI, startD, DL.wipeD, List.map_cons, List.map_nil, List.length_cons, List.length_nil, List.getElem?_cons_zero, List.getElem?_cons_succ, List.getElem?_nil, List.set_cons_zero, List.set_cons_succ, List.cons_append, List.nil_append, List.append_nil, List.replicate, Nat.sub_self, Nat.reduceSub, Nat.reduceAdd, Nat.reduceLeDiff, Nat.reduceEqDiff, Nat.reduceLT, Int.reduceLT, Int.reduceLE, if_true, if_false, Bool.not_true, Bool.not_false, reduceIte, reduceCtorEq, true_and, and_true, Nat.zero_add, Bool.true_eq_false, Bool.false_eq_true, eqU_int, eqU_str, eqU_bl, str_eq, str_beq, String.reduceEq, decide_true, decide_false, decide_eq_true_eq, pl_items, pl_st0, pl_st1, pl_fold, notOwn, List.mem_singleton, List.mem_cons, List.not_mem_nil, or_false, false_or, or_true, true_or, forall_eq, forall_eq_or_imp, implies_true, range_succ, range_zero, Int.reduceToNat, Int.reduceEq, Int.reduceNe, Int.reduceAdd, Int.reduceSub, Int.reduceMul, Int.reducePow, Int.reduceMod, Int.reduceDiv, atI_0, atI_1, atI_2, atI_3, rg1, rg2, startI, r_var, r_var2, r_c, r_w2, r_w2a, r_w2b, r_w1, r_w1a, r_wB, r_wBa, r_ch, r_ch1, r_ch2, r_ch3t, r_ch3f, r_and, r_andt, r_andf, r_or, r_ort, r_orf, r_not, r_nota, r_ife, r_ifet, r_ifef, r_andv, r_andvt, r_andvf, r_orv, r_orvt, r_orvf, r_notv, r_notva, r_nil, r_cons, r_cons1, r_cons2, r_tup, r_tupa, r_lst, r_lsta, r_lstc, r_lstca, r_wn, r_wna, r_call, r_calla, r_mk, r_mk1, r_mk2, r_mkc, r_mkc1, r_mkc2, r_me, r_me1, r_me2, r_bo, r_bo1, r_bo2, r_onone, r_osome, r_osomea, r_sl, r_sl1, r_sl2, r_sl3, r_sl3f, r_ii, r_ii0, r_ib, r_i1, r_plus, r_plusl, r_times, r_timesl, r_isn, r_notn, r_isb, r_notb, r_pm, r_pm1, DL.perm, z_neT, z_catT, r_eqd, r_ned, r_int1, r_int1b, r_max2, r_min2, r_abs, r_ix, r_ix2, r_ix3, r_len, r_len2, r_isi, r_isi2, r_fld, r_fld2, r_fld3, r_insobj, r_kx, r_next, r_never, r_seq, r_seqa, r_if, r_ift, r_iff, r_ret, r_retn, r_brk, r_cnt, r_drop, r_dropa, r_set, r_seta, r_asg, r_asga, r_name, r_namec, r_ktup, r_kunl, r_kcons, r_kcs, r_knil, r_par2, r_par2a, r_par3, r_par3a, r_aug, r_auga, r_augb, r_augc, r_for, r_fora, r_knx, r_fldo, r_fldoa, r_put, r_frz, r_frz2, r_frz3, r_frz4, r_cl, r_seto, r_setoa, r_wil, r_wila, r_wilf, r_wit, r_wita, r_wi1, r_wi1a, r_wi2, r_wi2a, r_wie, r_wiea, r_wiz, r_wiza, r_wizt, r_lc, r_lc0, r_lcn, r_lcc, r_lc1, r_lc2t, r_lc2f, r_lc3, r_yes, r_sub, r_sub1, r_sub2, r_sub3, r_dnx, r_drt, r_dxc, r_inx, r_init, r_ixc, t_raise, t_raise2, t_try, t_cat, t_catt, t_catf, t_sunx, t_surt, t_nx0, t_nx1, t_nx2, t_nx3, t_prop, t_prop2, t_xf, t_xf2, t_isx, t_isx2, t_wht, t_whf, t_equ, t_neu, t_el, List.reverse_cons, List.reverse_nil, isiDT, anyT, List.all_cons, List.all_nil, Option.isSome_some, Bool.and_true, Bool.true_and, u_lof, u_lof2, u_tof, u_tof2, u_isiT, u_dict, u_bl, u_own, u_ownN, u_has, u_hasN, u_bk, u_bk1, u_bk2, u_stat, u_ap, u_ap1, u_ap2, u_ex, u_ex1, u_ex2, u_ownL, u_olen, u_oix, u_oix1, u_oin, u_sumT, u_sumL, u_mu, u_mu1, u_hot, u_hot1, startX, u_mb, u_mb1, u_mb1f, u_mb2, u_rev, u_revf, u_wio, u_wex, u_wel, u_wef, u_wet, u_en, u_en0, u_enc, u_enn, Int.cast_ofNat_Int, u_wzx, u_wzl, u_wzt, u_wzm, u_zd, u_zd0, intsD, DL.intD, u_kd, othC, isTy, Bool.true_xor, Bool.false_xor, eqU_pl, p_int, p_bl, p_non, p_tup, p_lst, p_frl, p0_int, p0_bl, p0_non, deq, deqs, Bool.and_true, Bool.and_false, Bool.false_and, List.contains_cons, List.contains_nil, Bool.or_false, Bool.false_or, Bool.or_self, eq_self, beq_self_eq_true, Bool.not_true, Bool.not_false, List.flatten_cons, List.flatten_nil, isi_0, isi_1, isi_2, isi_3, isi_4, isi_5, isi_6, isi_7, isi_8, isi_9, isi_10, isi_11, isi_12, isi_13, isi_14, isi_15, isi_16, isi_17, isi_18, isi_19, isi_20, isi_21, isi_22, isi_23, isi_24, isi_25, isi_26, isi_27, isi_28, isi_29, isi_30, isi_31, isi_32, isi_33, isi_34, isi_35, isi_36, isi_37, isi_38, isi_39, isi_40, isi_41, isi_42, isi_43, isi_44, isi_45, isi_46, isi_47, isi_48, isi_49, isi_50, isi_51, isi_52, isi_53, isi_54, isi_55, isi_56, isi_57, isi_58, isi_59, isi_60, isi_61, isi_62, isi_63, isi_64, isi_65, isi_66, isi_67, isi_68, isi_69, isi_70, isi_71, isi_72, isi_73, isi_74, isi_75, isi_76, isi_77, isi_78, isi_79, isi_80, isi_81, isi_82, isi_83, isi_84, isi_85, isi_86, isi_87, isi_88, isi_89])
local macro_rules
  | `(tactic| walk_at "dl") => `(tactic| try simp only [g_gen, r_newD, r_put0, r_kw, r_kw1, r_kw2, r_kw0, r_kw00, c_wi, c_en, c_en1, c_for, c_for1, c_lc, c_lc1, c_lof, c_lof1, c_ap, c_ap1, c_ap2, y_p2, y_p21, y_oo, y_fo, y_foq, y_of, y_of2, c_si, c_si1, c_si2, c_si3, c_lu1, c_lu2, c_lu3, z_fl, z_fl1, z_fl2, z_ps, z_ps1, z_ps2, z_ps3, z_eqT, z_cat, z_cat1, z_cat2, y_pop, y_pop1, y_pop2, y_lcC, y_lcR, y_callR, t_wis, t_wisa, t_dicL, t_kpt, t_kpt1, t_kpt2, t_slst, t_dic, t_put, t_put1, t_put2, t_put3, t_base, y_cell, y_rem, y_rem1, y_rem2, x_subO, x_subO1, x_subO2, v_slo, v_slo1, w_ff, w_ft, w_tf, w_tt, false_and, and_false, isClsU, v_ix, v_ix1, v_ix2, v_inv, v_inv1, v_co, v_co1, v_co2, v_len, v_len1, v_f2or, isiD, tyD, clD, r_insobj, fldOf, DL.isNon, items_tup, items_lst, items_frl, hasCls, isCls, othTy, insD, DL.putK, DL.putD, initEnd, startI, startD, DL.wipeD, List.map_cons, List.map_nil, List.length_cons, List.length_nil, List.getElem?_cons_zero, List.getElem?_cons_succ, List.getElem?_nil, List.set_cons_zero, List.set_cons_succ, List.cons_append, List.nil_append, List.append_nil, List.replicate, Nat.sub_self, Nat.reduceSub, Nat.reduceAdd, Nat.reduceLeDiff, Nat.reduceEqDiff, Nat.reduceLT, Int.reduceLT, Int.reduceLE, if_true, if_false, Bool.not_true, Bool.not_false, reduceIte, reduceCtorEq, true_and, and_true, Nat.zero_add, Bool.true_eq_false, Bool.false_eq_true, eqU_int, eqU_str, eqU_bl, str_eq, str_beq, String.reduceEq, decide_true, decide_false, decide_eq_true_eq, pl_items, pl_st0, pl_st1, pl_fold, notOwn, List.mem_singleton, List.mem_cons, List.not_mem_nil, or_false, false_or, or_true, true_or, forall_eq, forall_eq_or_imp, implies_true, range_succ, range_zero, Int.reduceToNat, Int.reduceEq, Int.reduceNe, Int.reduceAdd, Int.reduceSub, Int.reduceMul, Int.reducePow, Int.reduceMod, Int.reduceDiv, atI_0, atI_1, atI_2, atI_3, rg1, rg2, startI, r_var, r_var2, r_c, r_w2, r_w2a, r_w2b, r_w1, r_w1a, r_wB, r_wBa, r_ch, r_ch1, r_ch2, r_ch3t, r_ch3f, r_and, r_andt, r_andf, r_or, r_ort, r_orf, r_not, r_nota, r_ife, r_ifet, r_ifef, r_andv, r_andvt, r_andvf, r_orv, r_orvt, r_orvf, r_notv, r_notva, r_nil, r_cons, r_cons1, r_cons2, r_tup, r_tupa, r_lst, r_lsta, r_lstc, r_lstca, r_wn, r_wna, r_call, r_calla, r_mk, r_mk1, r_mk2, r_mkc, r_mkc1, r_mkc2, r_me, r_me1, r_me2, r_bo, r_bo1, r_bo2, r_onone, r_osome, r_osomea, r_sl, r_sl1, r_sl2, r_sl3, r_sl3f, r_ii, r_ii0, r_ib, r_i1, r_plus, r_plusl, r_times, r_timesl, r_isn, r_notn, r_isb, r_notb, r_pm, r_pm1, DL.perm, z_neT, z_catT, r_eqd, r_ned, r_int1, r_int1b, r_max2, r_min2, r_abs, r_ix, r_ix2, r_ix3, r_len, r_len2, r_isi, r_isi2, r_fld, r_fld2, r_fld3, r_insobj, r_kx, r_next, r_never, r_seq, r_seqa, r_if, r_ift, r_iff, r_ret, r_retn, r_brk, r_cnt, r_drop, r_dropa, r_set, r_seta, r_asg, r_asga, r_name, r_namec, r_ktup, r_kunl, r_kcons, r_kcs, r_knil, r_par2, r_par2a, r_par3, r_par3a, r_aug, r_auga, r_augb, r_augc, r_for, r_fora, r_knx, r_fldo, r_fldoa, r_put, r_frz, r_frz2, r_frz3, r_frz4, r_cl, r_seto, r_setoa, r_wil, r_wila, r_wilf, r_wit, r_wita, r_wi1, r_wi1a, r_wi2, r_wi2a, r_wie, r_wiea, r_wiz, r_wiza, r_wizt, r_lc, r_lc0, r_lcn, r_lcc, r_lc1, r_lc2t, r_lc2f, r_lc3, r_yes, r_sub, r_sub1, r_sub2, r_sub3, r_dnx, r_drt, r_dxc, r_inx, r_init, r_ixc, t_raise, t_raise2, t_try, t_cat, t_catt, t_catf, t_sunx, t_surt, t_nx0, t_nx1, t_nx2, t_nx3, t_prop, t_prop2, t_xf, t_xf2, t_isx, t_isx2, t_wht, t_whf, t_equ, t_neu, t_el, List.reverse_cons, List.reverse_nil, isiDT, anyT, List.all_cons, List.all_nil, Option.isSome_some, Bool.and_true, Bool.true_and, u_lof, u_lof2, u_tof, u_tof2, u_isiT, u_dict, u_bl, u_own, u_ownN, u_has, u_hasN, u_bk, u_bk1, u_bk2, u_stat, u_ap, u_ap1, u_ap2, u_ex, u_ex1, u_ex2, u_ownL, u_olen, u_oix, u_oix1, u_oin, u_sumT, u_sumL, u_mu, u_mu1, u_hot, u_hot1, startX, u_mb, u_mb1, u_mb1f, u_mb2, u_rev, u_revf, u_wio, u_wex, u_wel, u_wef, u_wet, u_en, u_en0, u_enc, u_enn, Int.cast_ofNat_Int, u_wzx, u_wzl, u_wzt, u_wzm, u_zd, u_zd0, intsD, DL.intD, u_kd, othC, isTy, Bool.true_xor, Bool.false_xor, eqU_pl, p_int, p_bl, p_non, p_tup, p_lst, p_frl, p0_int, p0_bl, p0_non, deq, deqs, Bool.and_true, Bool.and_false, Bool.false_and, List.contains_cons, List.contains_nil, Bool.or_false, Bool.false_or, Bool.or_self, eq_self, beq_self_eq_true, Bool.not_true, Bool.not_false, List.flatten_cons, List.flatten_nil, isi_0, isi_1, isi_2, isi_3, isi_4, isi_5, isi_6, isi_7, isi_8, isi_9, isi_10, isi_11, isi_12, isi_13, isi_14, isi_15, isi_16, isi_17, isi_18, isi_19, isi_20, isi_21, isi_22, isi_23, isi_24, isi_25, isi_26, isi_27, isi_28, isi_29, isi_30, isi_31, isi_32, isi_33, isi_34, isi_35, isi_36, isi_37, isi_38, isi_39, isi_40, isi_41, isi_42, isi_43, isi_44, isi_45, isi_46, isi_47, isi_48, isi_49, isi_50, isi_51, isi_52, isi_53, isi_54, isi_55, isi_56, isi_57, isi_58, isi_59, isi_60, isi_61, isi_62, isi_63, isi_64, isi_65, isi_66, isi_67, isi_68, isi_69, isi_70, isi_71, isi_72, isi_73, isi_74, isi_75, isi_76, isi_77, isi_78, isi_79, isi_80, isi_81, isi_82, isi_83, isi_84, isi_85, isi_86, isi_87, isi_88, isi_89])
local macro_rules
  | `(tactic| walk_at "cm") => `(tactic| first | exact .inl (.inr ⟨by omega, by omega⟩) | exact .inl (.inl ⟨by omega, by omega⟩) | exact cm_bd (by unfold Bd; omega) (by unfold Bd; omega))
local macro_rules
  | `(tactic| walk_at "cs") => `(tactic| repeat ((with_reducible refine And.intro ?_ ?_); (· first | decide | (walk_at "cm") | exact ⟨by decide, by decide, by decide⟩ | omega)))
local macro_rules
  | `(tactic| walk_at "go") => `(tactic| (walk_at "dl"; walk_at "cs"))
local macro_rules
  | `(tactic| walk_at "gn") => `(tactic| (walk_at "dn"; walk_at "cs"))
section
variable {Q : D → Mu → Prop} {Xd : XD} {μ : Mu}
theorem ii_int {i : Int} (h : Q (.bl true) μ) : sp_is_integer [.int i] μ Q Xd := by
  unfold sp_is_integer w_is_integer
  walk_at "dl"
  exact h
abbrev pr (x y : Int) : D := .tup [.int x, .int y]
abbrev pt (x y : Int) : D := .obj "Point" ["x", "y"] [.int x, .int y]
theorem point_init {Q : List Str → List D → Mu → Prop} {x y : Int} (h : Q ["x", "y"] [.int x, .int y] μ) : sp_Point_init [.int x, .int y] μ Q Xd := by
  unfold sp_Point_init w_Point_init
  refine ⟨rfl, fun a => ?_⟩
  walk_at "dl"
  refine ii_int ?_
  walk_at "dl"
  refine ii_int ?_
  walk_at "dl"
  exact h
/-- a point or a pair -/
def IsP (d : D) (x y : Int) : Prop := d = pr x y ∨ d = pt x y
theorem isP_pr {x y : Int} : IsP (pr x y) x y := .inl rfl
theorem nums {d : D} {x y : Int} (hd : IsP d x y) (h : Q (pr x y) μ) : sp_numbers_of [d] μ Q Xd := by
  unfold sp_numbers_of w_numbers_of
  rcases hd with rfl | rfl
  · walk_at "dl"
    refine ii_int ?_
    walk_at "dl"
    refine ii_int ?_
    walk_at "dl"
    exact h
  · walk_at "dl"
    exact h
theorem pair_ev {d : D} {x y : Int} (hd : IsP d x y) (h : Q (pr x y) μ) : sp_pair_of [d] μ Q Xd := by
  unfold sp_pair_of w_pair_of
  walk_at "dl"
  refine nums hd ?_
  walk_at "dl"
  exact h
theorem draw_ev {p q many : Int} (ok : PoolOk p q) (h1 : 1 ≤ many) (h2 : Bd many) (h : ∀ r p' q', PoolOk p' q' → 0 ≤ r → r < many → Q (.int r) (pl μ p' q')) : sp__law_draw [.loc μ.length, .int many] (pl μ p q) Q Xd := by
  obtain ⟨p0, q0, q1⟩ := ok
  unfold sp__law_draw w__law_draw
  walk_at "dl"
  by_cases c : 0 < p
  · rw [decide_eq_true c]
    walk_at "dl"
    refine ⟨by omega, cd_bd (by omega) h2, ?_⟩
    exact h _ _ _ ⟨Int.ediv_nonneg p0 (by omega), q0, q1⟩ (Int.emod_nonneg _ (by omega)) (Int.emod_lt_of_pos _ (by omega))
  · rw [decide_eq_false c]
    walk_at "dl"
    have m1 := Int.emod_nonneg (q * 48271 + 11) (show (2147483647 : Int) ≠ 0 by decide)
    have m2 := Int.emod_lt_of_pos (q * 48271 + 11) (show (0 : Int) < 2147483647 by decide)
    refine ⟨cm_bd (by unfold Bd; omega) (by unfold Bd; omega), ?_⟩
    generalize (q * 48271 + 11) % 2147483647 = q' at m1 m2 ⊢
    exact ⟨cm_bd (by unfold Bd; omega) (by unfold Bd; omega), cd_bd (by omega) (by unfold Bd; omega), by omega, h _ _ _ ⟨p0, m1, m2⟩ (Int.emod_nonneg _ (by omega)) (Int.emod_lt_of_pos _ (by omega))⟩
theorem lpair_ev {p q : Int} {n : Nat} (ok : PoolOk p q) (hn : n ≤ 1000) (h : ∀ x y p' q', PoolOk p' q' → -(n : Int) ≤ x → x ≤ n → -(n : Int) ≤ y → y ≤ n → Q (pr x y) (pl μ p' q')) : sp__law_pair [.loc μ.length, .int n] (pl μ p q) Q Xd := by
  unfold sp__law_pair w__law_pair
  walk_at "dl"
  refine ⟨cm_bd (by unfold Bd; omega) (by unfold Bd; omega), draw_ev ok (by omega) (by unfold Bd; omega) fun r p1 q1 ok1 r0 r1 => ?_⟩
  walk_at "dl"
  refine ⟨cm_bd (by unfold Bd; omega) (by unfold Bd; omega), draw_ev ok1 (by omega) (by unfold Bd; omega) fun r2 p2 q2 ok2 r3 r4 => ?_⟩
  walk_at "dl"
  exact h _ _ _ _ ok2 (by omega) (by omega) (by omega) (by omega)
theorem hand_ev {ns : List Int} {k : Int} (hl : ns.length ≤ 63) (k0 : 0 ≤ k) (k1 : k ≤ 63) (h : ∀ p q, PoolOk p q → Q (.loc μ.length) (pl μ p q)) : sp__law_hand [.frl (ns.map D.int), .int k] μ Q Xd := by
  unfold sp__law_hand w__law_hand
  walk_at "dl"
  refine ⟨cut_few hl, ?_⟩
  obtain ⟨c, hc⟩ := cell_of (ns := ns) (lo := some k) (hi := some (k + 1))
  rw [hc]
  walk_at "dl"
  have m1 := Int.emod_nonneg c (show (2147483647 : Int) ≠ 0 by decide)
  have m2 := Int.emod_lt_of_pos c (show (0 : Int) < 2147483647 by decide)
  refine ⟨cm_bd (by unfold Bd; omega) (by unfold Bd; omega), cm_bd (by unfold Bd; omega) (by unfold Bd; omega), ⟨by decide, by decide, by decide⟩, .inl (.inl ?_), h _ _ ⟨?_, Int.emod_nonneg _ (by decide), ?_⟩⟩
  · split <;> decide
  · have e : (10 : Int) ^ Int.toNat 18 = 1000000000000000000 := by decide
    try rw [e]
    split <;> omega
  · have := Int.emod_lt_of_pos ((c % 2147483647 + 7919 * k + 1) * 48271) (show (0 : Int) < 2147483629 by decide)
    omega

/-- no integer -/
def NotInt (d : D) : Prop := d = .non ∨ (∃ b, d = .bl b) ∨ (∃ s, d = .str s) ∨ (∃ ds, d = .tup ds) ∨ ∃ ds, d = .lst ds
theorem ii_not {d : D} (hd : NotInt d) (h : Q (.bl false) μ) : sp_is_integer [d] μ Q Xd := by
  unfold sp_is_integer w_is_integer
  rcases hd with rfl | ⟨b, rfl⟩ | ⟨b, rfl⟩ | ⟨b, rfl⟩ | ⟨b, rfl⟩
  all_goals
    walk_at "dl"
    exact h
/-- no point and no pair -/
def NoP (d : D) : Prop := d = .non ∨ (∃ i, d = .int i) ∨ (∃ b, d = .bl b) ∨ (∃ s, d = .str s) ∨ (∃ ds, d = .lst ds) ∨ (∃ ds, d = .tup ds ∧ ds.length ≠ 2) ∨ (∃ a b, d = .tup [a, b] ∧ NotInt a) ∨ ∃ i b, d = .tup [.int i, b] ∧ NotInt b
theorem nums_no {d : D} (hd : NoP d) (h : Q .non μ) : sp_numbers_of [d] μ Q Xd := by
  unfold sp_numbers_of w_numbers_of
  rcases hd with rfl | ⟨b, rfl⟩ | ⟨b, rfl⟩ | ⟨b, rfl⟩ | ⟨b, rfl⟩ | ⟨ds, rfl, hl⟩ | ⟨a, b, rfl, ha⟩ | ⟨i, b, rfl, hb⟩
  case inr.inr.inr.inr.inr.inl =>
    walk_at "dl"
    rw [decide_eq_false (by omega)]
    walk_at "dl"
    exact h
  case inr.inr.inr.inr.inr.inr.inl =>
    walk_at "dl"
    refine ii_not ha ?_
    walk_at "dl"
    exact h
  case inr.inr.inr.inr.inr.inr.inr =>
    walk_at "dl"
    refine ii_int ?_
    walk_at "dl"
    refine ii_not hb ?_
    walk_at "dl"
    exact h
  all_goals
    walk_at "dl"
    exact h
theorem pair_no {d : D} (hd : NoP d) (h : Xd "InvalidPoint" ["thing"] [d] μ) : sp_pair_of [d] μ Q Xd := by
  unfold sp_pair_of w_pair_of
  walk_at "dl"
  refine nums_no hd ?_
  walk_at "dl"
  exact h
theorem pof_ev {x y : Int} (h : Q (pt x y) μ) : sp_point_of [pr x y] μ Q Xd := by
  unfold sp_point_of w_point_of
  walk_at "dl"
  refine point_init ?_
  exact h

abbrev pd (p : SA.P) : D := pr p.1 p.2
theorem deq_pd (u v : SA.P) : deq (pd u) (pd v) = decide (u = v) := by
  have : (u = v) ↔ u.1 = v.1 ∧ u.2 = v.2 := ⟨fun h => by rw [h]; exact ⟨rfl, rfl⟩, fun h => Prod.ext h.1 h.2⟩
  simp [deq, deqs, this]
theorem btw_ev {i lo hi : Int} (h : Q (.bl (decide (lo ≤ i) && decide (i ≤ hi))) μ) : sp_is_between [.int i, .int lo, .int hi] μ Q Xd := by
  unfold sp_is_between w_is_between
  walk_at "go"
  refine ii_int ?_
  walk_at "go"
  by_cases c : lo ≤ i
  · rw [decide_eq_true c] at h ⊢
    walk_at "go"
    exact h
  · rw [decide_eq_false c] at h ⊢
    walk_at "go"
    exact h
theorem btw_no {d : D} {lo hi : Int} (hd : NotInt d) (h : Q (.bl false) μ) : sp_is_between [d, .int lo, .int hi] μ Q Xd := by
  unfold sp_is_between w_is_between
  walk_at "go"
  refine ii_not hd ?_
  walk_at "go"
  exact h
abbrev T3i : Type := Nat × Nat × Nat
def triD (t : T3i) : D := .tup [.int (t.1 : Nat), .int (t.2.1 : Nat), .int (t.2.2 : Nat)]
def netD (ps : List SA.P) (tr : List T3i) : D := .obj "Net" ["pairs", "own_triples"] [.lst (ps.map pd), .lst (tr.map triD)]
def netC (ps : List SA.P) (tr : List T3i) : Cell := .ins "Net" ["pairs", "own_triples"] [.lst (ps.map pd), .lst (tr.map triD)]
theorem enumf_mem {α : Type} {f : α → D} {l : List α} {d : D} (h : d ∈ enumD (l.map f)) : ∃ (i : Nat) (a : α), a ∈ l ∧ d = .tup [.int i, f a] := by
  unfold enumD at h
  obtain ⟨i, hi⟩ := List.getElem?_of_mem h
  rw [List.getElem?_mapIdx, List.getElem?_map] at hi
  cases e : l[i]? with
  | none => rw [e] at hi; cases hi
  | some t =>
    rw [e] at hi
    cases hi
    exact ⟨i, t, List.mem_of_getElem? e, rfl⟩
theorem chkp_ev {f : SA.P → D} {ps : List SA.P} {d : D} (hd : IsL μ d (ps.map f)) (hf : ∀ p, IsP (f p) p.1 p.2) (hl : ps.length ≤ 100) (h : Q .non μ) : sp_check_points [d] μ Q Xd := by
  have hd' := hd
  unfold sp_check_points w_check_points
  rcases hd with rfl | ⟨n, rfl, en⟩
  all_goals
    walk_at "gn"
    try simp only [en]
    walk_at "gn"
    try simp only [isL_items hd']
    walk_at "gn"
    rw [List.length_map, decide_eq_false (show ¬ ((100 : Int) < (ps.length : Nat)) by omega)]
    walk_at "gn"
    refine KWic_go hd' fun C hC => ?_
    show forLC _ _ _ C _ _ _
  · refine forLC_inv (fun ρ μ' => μ' = μ ∧ ∃ s1 s2, ρ = [.v (.lst (ps.map f)), s1, s2]) (fun ρ μ' hI => hI.1 ▸ hC) (fun ρ μ' hI => ?_) (fun d hd ρ μ' K hI hK => ?_) ⟨rfl, _, _, rfl⟩
    · obtain ⟨rfl, s1, s2, rfl⟩ := hI
      walk_at "gn"
      exact h
    · obtain ⟨rfl, s1, s2, rfl⟩ := hI
      obtain ⟨i, t, _, rfl⟩ := enumf_mem hd
      walk_at "gn"
      refine nums (hf t) ?_
      walk_at "gn"
      exact hK _ _ ⟨rfl, _, _, rfl⟩
  · refine forLC_inv (fun ρ μ' => μ' = μ ∧ ∃ s1 s2, ρ = [.v (.loc n), s1, s2]) (fun ρ μ' hI => hI.1 ▸ hC) (fun ρ μ' hI => ?_) (fun d hd ρ μ' K hI hK => ?_) ⟨rfl, _, _, rfl⟩
    · obtain ⟨rfl, s1, s2, rfl⟩ := hI
      walk_at "gn"
      exact h
    · obtain ⟨rfl, s1, s2, rfl⟩ := hI
      obtain ⟨i, t, _, rfl⟩ := enumf_mem hd
      walk_at "gn"
      refine nums (hf t) ?_
      walk_at "gn"
      exact hK _ _ ⟨rfl, _, _, rfl⟩
def TrOk3 (n : Nat) (t : T3i) : Prop := (t.1 < n ∧ t.2.1 < n ∧ t.2.2 < n) ∧ t.1 ≠ t.2.1 ∧ t.2.1 ≠ t.2.2 ∧ t.2.2 ≠ t.1
theorem istr_ev {t : T3i} {n : Nat} (ok : TrOk3 n t) (h : Q (.bl true) μ) : sp_is_triple [triD t, .int (n : Nat)] μ Q Xd := by
  obtain ⟨a, b, c⟩ := t
  obtain ⟨⟨h1, h2, h3⟩, n1, n2, n3⟩ := ok
  simp only at h1 h2 h3 n1 n2 n3
  unfold sp_is_triple w_is_triple triD
  walk_at "gn"
  refine btw_ev ?_
  rw [decide_eq_true (by omega), decide_eq_true (by omega)]
  walk_at "gn"
  refine btw_ev ?_
  rw [decide_eq_true (by omega), decide_eq_true (by omega)]
  walk_at "gn"
  refine btw_ev ?_
  rw [decide_eq_true (by omega), decide_eq_true (by omega)]
  walk_at "gn"
  refine ⟨[true, true, true], rfl, ?_⟩
  walk_at "gn"
  rw [show (!(id true && (id true && id true))) = false from rfl]
  walk_at "gn"
  rw [decide_eq_false (show ¬ (((a : Nat) : Int) = (b : Nat)) by omega)]
  walk_at "gn"
  rw [decide_eq_false (show ¬ (((b : Nat) : Int) = (c : Nat)) by omega)]
  walk_at "gn"
  rw [decide_eq_false (show ¬ (((c : Nat) : Int) = (a : Nat)) by omega)]
  walk_at "gn"
  exact h
theorem chkt_ev {tr : List T3i} {n : Nat} {d : D} (hd : IsL μ d (tr.map triD)) (ok : ∀ t ∈ tr, TrOk3 n t) (hl : tr.length ≤ 100) (h : Q .non μ) : sp_check_triples [d, .int (n : Nat)] μ Q Xd := by
  have hd' := hd
  unfold sp_check_triples w_check_triples
  rcases hd with rfl | ⟨m, rfl, en⟩
  all_goals
    walk_at "gn"
    try simp only [en]
    walk_at "gn"
    try simp only [isL_items hd']
    walk_at "gn"
    rw [List.length_map, decide_eq_false (show ¬ ((100 : Int) < (tr.length : Nat)) by omega)]
    walk_at "gn"
    refine KWic_go hd' fun C hC => ?_
    show forLC _ _ _ C _ _ _
  · refine forLC_inv (fun ρ μ' => μ' = μ ∧ ∃ s1 s2, ρ = [.v (.lst (tr.map triD)), .v (.int (n : Nat)), s1, s2]) (fun ρ μ' hI => hI.1 ▸ hC) (fun ρ μ' hI => ?_) (fun d hd ρ μ' K hI hK => ?_) ⟨rfl, _, _, rfl⟩
    · obtain ⟨rfl, s1, s2, rfl⟩ := hI
      walk_at "gn"
      exact h
    · obtain ⟨rfl, s1, s2, rfl⟩ := hI
      obtain ⟨i, t, ht, rfl⟩ := enumf_mem hd
      walk_at "gn"
      refine istr_ev (ok t ht) ?_
      walk_at "gn"
      exact hK _ _ ⟨rfl, _, _, rfl⟩
  · refine forLC_inv (fun ρ μ' => μ' = μ ∧ ∃ s1 s2, ρ = [.v (.loc m), .v (.int (n : Nat)), s1, s2]) (fun ρ μ' hI => hI.1 ▸ hC) (fun ρ μ' hI => ?_) (fun d hd ρ μ' K hI hK => ?_) ⟨rfl, _, _, rfl⟩
    · obtain ⟨rfl, s1, s2, rfl⟩ := hI
      walk_at "gn"
      exact h
    · obtain ⟨rfl, s1, s2, rfl⟩ := hI
      obtain ⟨i, t, ht, rfl⟩ := enumf_mem hd
      walk_at "gn"
      refine istr_ev (ok t ht) ?_
      walk_at "gn"
      exact hK _ _ ⟨rfl, _, _, rfl⟩
theorem net_init {Q : List Str → List D → Mu → Prop} {f : SA.P → D} {ps : List SA.P} {tr : List T3i} {d e : D} (hd : IsL μ d (ps.map f)) (he : IsL μ e (tr.map triD)) (hf : ∀ p, IsP (f p) p.1 p.2) (hl : ps.length ≤ 100) (ht : tr.length ≤ 100) (ok : ∀ t ∈ tr, TrOk3 ps.length t) (h : Q ["pairs", "own_triples"] [.lst (ps.map pd), .lst (tr.map triD)] μ) : sp_Net_init [d, e] μ Q Xd := by
  have ed := isL_items hd
  have ee := isL_items he
  unfold sp_Net_init w_Net_init
  refine ⟨rfl, fun x => ?_⟩
  walk_at "gn"
  refine chkp_ev hd hf hl ?_
  walk_at "gn"
  rw [ed]
  walk_at "gn"
  rw [List.length_map]
  refine chkt_ev he ok ht ?_
  walk_at "gn"
  refine KWic_go hd fun C hC => ?_
  walk_at "gn"
  refine lcLC_mp (α := SA.P) (f := f) (l := ps) pd hC (fun p hp K hK => ?_) (by omega) ?_
  · walk_at "gn"
    refine nums (hf p) ?_
    walk_at "gn"
    exact hK
  walk_at "gn"
  rw [ee]
  walk_at "gn"
  exact h
def atP (ps : List SA.P) (i : Nat) : SA.P := (ps[i]?).getD (0, 0)
theorem atP_at {ps : List SA.P} {i : Nat} (h : i < ps.length) : atI (ps.map pd) ((i : Nat) : Int) = some (pd (atP ps i)) := by
  rw [DL.atI_nat, List.getElem?_map, List.getElem?_eq_getElem h]
  unfold atP
  rw [List.getElem?_eq_getElem h]
  rfl
def IsN (μ : Mu) (d : D) (ps : List SA.P) (tr : List T3i) : Prop := d = netD ps tr ∨ ∃ n, d = .loc n ∧ μ[n]? = some (netC ps tr)
theorem isN_o {μ : Mu} {ps : List SA.P} {tr : List T3i} : IsN μ (netD ps tr) ps tr := .inl rfl
def ptd (p : SA.P) : D := pt p.1 p.2
theorem isP_ptd (p : SA.P) : IsP (ptd p) p.1 p.2 := .inr rfl
theorem isP_pd (p : SA.P) : IsP (pd p) p.1 p.2 := .inl rfl
theorem cbt_ok {i lo hi : Int} (h1 : lo ≤ i) (h2 : i ≤ hi) (h : Q .non μ) : sp_check_between [.int i, .int lo, .int hi] μ Q Xd := by
  unfold sp_check_between w_check_between
  walk_at "gn"
  refine btw_ev ?_
  rw [decide_eq_true h1, decide_eq_true h2]
  walk_at "gn"
  exact h
def NoIx (n : Nat) (d : D) : Prop := NotInt d ∨ ∃ i : Int, d = .int i ∧ (i < 0 ∨ (n : Int) ≤ i)
theorem cbt_no {d : D} {n : Nat} (hd : NoIx n d) (h : Xd "InvalidNumber" ["number"] [d] μ) : sp_check_between [d, .int 0, .int ((n : Nat) - 1)] μ Q Xd := by
  unfold sp_check_between w_check_between
  walk_at "gn"
  rcases hd with hd | ⟨i, rfl, hi⟩
  · refine btw_no hd ?_
    walk_at "gn"
    exact h
  · refine btw_ev ?_
    rw [show (decide ((0 : Int) ≤ i) && decide (i ≤ (n : Int) - 1)) = false from by
      rw [Bool.and_eq_false_iff, decide_eq_false_iff_not, decide_eq_false_iff_not]
      omega]
    walk_at "gn"
    exact h
theorem cutD_take {L : List D} {i : Nat} (hi : i ≤ L.length) : DL.cutD L none (some (i : Nat)) = L.take i := by
  unfold DL.cutD
  rw [HT.sIx_none, HT.sIx_nat, List.drop_zero, Nat.sub_zero, Nat.min_eq_left hi]
theorem cutD_drop {L : List D} {i : Nat} (hi : i ≤ L.length) : DL.cutD L (some (i : Nat)) none = L.drop i := by
  unfold DL.cutD
  rw [HT.sIx_none, HT.sIx_nat, Nat.min_eq_left hi]
  exact List.take_of_length_le (by rw [List.length_drop]; omega)
theorem cut_set {ps : List SA.P} {i : Nat} {v : SA.P} (hi : i < ps.length) : DL.cutD (ps.map pd) none (some (i : Nat)) ++ [pd v] ++ DL.cutD (ps.map pd) (some ((i : Nat) + 1)) none = (ps.set i v).map pd := by
  have e : ((i : Nat) : Int) + 1 = ((i + 1 : Nat) : Int) := by omega
  rw [e, cutD_take (by rw [List.length_map]; omega), cutD_drop (by rw [List.length_map]; omega)]
  rw [List.set_eq_take_append_cons_drop, if_pos hi, List.map_append, List.map_cons, List.map_take, List.map_drop]
  simp
theorem put_ev {n : Nat} {d : D} {v : SA.P} {ps : List SA.P} {tr : List T3i} {i : Nat} (hd : IsP d v.1 v.2) (en : μ[n]? = some (netC ps tr)) (hi : i < ps.length) (hl : ps.length ≤ 100) (h : Q .non (μ.set n (netC (ps.set i v) tr))) : sp_Net_put [.loc n, .int (i : Nat), d] μ Q Xd := by
  unfold netC at en
  unfold sp_Net_put w_Net_put
  walk_at "gn"
  simp only [en]
  walk_at "gn"
  rw [List.length_map]
  refine cbt_ok (by omega) (by omega) ?_
  walk_at "gn"
  refine pair_ev hd ?_
  walk_at "gn"
  simp only [en]
  walk_at "gn"
  have l1 : (DL.cutD (ps.map pd) none (some (i : Nat))).length = i := by
    rw [cutD_take (by rw [List.length_map]; omega), List.length_take, List.length_map]
    omega
  have l2 : (DL.cutD (ps.map pd) (some ((i : Nat) + 1)) none).length = ps.length - (i + 1) := by
    rw [show ((i : Nat) : Int) + 1 = ((i + 1 : Nat) : Int) from by omega, cutD_drop (by rw [List.length_map]; omega), List.length_drop, List.length_map]
  refine ⟨by rw [l1, sizeLine_eq]; omega, ?_⟩
  simp only [en]
  walk_at "gn"
  refine ⟨by rw [List.length_append, l1, l2, List.length_singleton, sizeLine_eq]; omega, ?_⟩
  rw [show DL.cutD (ps.map pd) none (some (i : Nat)) ++ [pr v.1 v.2] ++ DL.cutD (ps.map pd) (some ((i : Nat) + 1)) none = (ps.set i v).map pd from cut_set hi]
  refine putL_go en (by decide) ?_
  walk_at "gn"
  exact h
theorem twin_ev {d : D} {ps : List SA.P} {tr : List T3i} (hd : IsN μ d ps tr) (hl : ps.length ≤ 100) (ht : tr.length ≤ 100) (ok : ∀ t ∈ tr, TrOk3 ps.length t) (h : Q (netD ps tr) μ) : sp_Net_twin [d] μ Q Xd := by
  unfold netD at h
  unfold sp_Net_twin w_Net_twin
  rcases hd with rfl | ⟨n, rfl, en⟩
  · unfold netD
    walk_at "gn"
    refine net_init isL_l isL_l isP_pd hl ht ok ?_
    walk_at "gn"
    exact h
  · unfold netC at en
    walk_at "gn"
    simp only [en]
    walk_at "gn"
    simp only [en]
    walk_at "gn"
    refine net_init isL_l isL_l isP_pd hl ht ok ?_
    walk_at "gn"
    exact h
theorem deq_triD (a b : T3i) : deq (triD a) (triD b) = decide (a = b) := by
  obtain ⟨a1, a2, a3⟩ := a
  obtain ⟨b1, b2, b3⟩ := b
  unfold triD
  simp only [deq, deqs, Bool.and_true]
  rw [← Bool.decide_and, ← Bool.decide_and]
  refine decide_eq_decide.mpr ⟨fun h => ?_, fun e => ?_⟩
  · simp only [Prod.mk.injEq]
    omega
  · simp only [Prod.mk.injEq] at e
    omega
theorem twinC_ev {d : D} {ps : List SA.P} {tr : List T3i} (hd : IsN μ d ps tr) (hl : ps.length ≤ 100) (ht : tr.length ≤ 100) (ok : ∀ t ∈ tr, TrOk3 ps.length t) (h : Q (.loc μ.length) (μ ++ [netC ps tr])) : sp_Net_twin_C [d] μ Q Xd := by
  unfold netC at h
  unfold sp_Net_twin_C w_Net_twin_C
  rcases hd with rfl | ⟨n, rfl, en⟩
  · unfold netD
    walk_at "gn"
    refine net_init isL_l isL_l isP_pd hl ht ok ?_
    walk_at "gn"
    exact h
  · unfold netC at en
    walk_at "gn"
    simp only [en]
    walk_at "gn"
    simp only [en]
    walk_at "gn"
    refine net_init isL_l isL_l isP_pd hl ht ok ?_
    walk_at "gn"
    exact h
theorem setit_ev {n : Nat} {d : D} {v : SA.P} {ps : List SA.P} {tr : List T3i} {i : Nat} (hd : IsP d v.1 v.2) (en : μ[n]? = some (netC ps tr)) (hi : i < ps.length) (hl : ps.length ≤ 100) (h : Q .non (μ.set n (netC (ps.set i v) tr))) : sp_Net_setitem [.loc n, .int (i : Nat), d] μ Q Xd := by
  have en' := en
  unfold netC at en
  unfold sp_Net_setitem w_Net_setitem
  walk_at "gn"
  simp only [en]
  walk_at "gn"
  refine put_ev hd en' hi hl ?_
  walk_at "gn"
  exact h


/-- the pool's cell, with other cells behind it -/
def pc (μ : Mu) (d e : D) (ν : Mu) : Mu := μ ++ .lst [d, e] :: ν
theorem pc_get {μ ν : Mu} {d e : D} : (pc μ d e ν)[μ.length]? = some (.lst [d, e]) := by
  unfold pc
  rw [List.getElem?_append_right (Nat.le_refl _), Nat.sub_self]
  rfl
theorem pc_set {μ ν : Mu} {d e : D} {c : Cell} : (pc μ d e ν).set μ.length c = μ ++ c :: ν := by
  unfold pc
  rw [List.set_append_right _ _ (Nat.le_refl _), Nat.sub_self]
  rfl
theorem pc_items {μ ν : Mu} {d e : D} : itemsD (.loc μ.length) (pc μ d e ν) = some [d, e] := by
  show (match (pc μ d e ν)[μ.length]? with
    | some (.lst ds) => some ds
    | _ => none) = _
  rw [pc_get]
theorem pc_st0 {μ ν : Mu} {d e x : D} {k : Mu → Prop} : stL (.loc μ.length) (.int 0) x (pc μ d e ν) k = k (pc μ x e ν) := by
  unfold stL
  simp only
  rw [pc_get]
  simp only
  rw [show ixN [d, e].length 0 = some 0 from rfl]
  simp only
  rw [pc_set]
  rfl
theorem pc_st1 {μ ν : Mu} {d e x : D} {k : Mu → Prop} : stL (.loc μ.length) (.int 1) x (pc μ d e ν) k = k (pc μ d x ν) := by
  unfold stL
  simp only
  rw [pc_get]
  simp only
  rw [show ixN [d, e].length 1 = some 1 from rfl]
  simp only
  rw [pc_set]
  rfl
theorem drawN_ev {ν : Mu} {p q many : Int} (ok : PoolOk p q) (h1 : 1 ≤ many) (h2 : Bd many) (h : ∀ r p' q', PoolOk p' q' → 0 ≤ r → r < many → Q (.int r) (pc μ (.int p') (.int q') ν)) : sp__law_draw [.loc μ.length, .int many] (pc μ (.int p) (.int q) ν) Q Xd := by
  obtain ⟨p0, q0, q1⟩ := ok
  unfold sp__law_draw w__law_draw
  walk_at "dl"
  simp only [pc_items]
  walk_at "dl"
  by_cases c : 0 < p
  · rw [decide_eq_true c]
    walk_at "dl"
    simp only [pc_items]
    walk_at "dl"
    simp only [pc_st0, pc_items]
    walk_at "dl"
    refine ⟨by omega, cd_bd (by omega) h2, ?_⟩
    simp only [pc_st0, pc_items]
    walk_at "dl"
    exact h _ _ _ ⟨Int.ediv_nonneg p0 (by omega), q0, q1⟩ (Int.emod_nonneg _ (by omega)) (Int.emod_lt_of_pos _ (by omega))
  · rw [decide_eq_false c]
    walk_at "dl"
    have m1 := Int.emod_nonneg (q * 48271 + 11) (show (2147483647 : Int) ≠ 0 by decide)
    have m2 := Int.emod_lt_of_pos (q * 48271 + 11) (show (0 : Int) < 2147483647 by decide)
    simp only [pc_items]
    walk_at "dl"
    refine ⟨cm_bd (by unfold Bd; omega) (by unfold Bd; omega), ?_⟩
    generalize (q * 48271 + 11) % 2147483647 = q' at m1 m2 ⊢
    simp only [pc_st1, pc_items]
    walk_at "dl"
    simp only [pc_items]
    walk_at "dl"
    try simp only [pc_items]
    walk_at "dl"
    exact ⟨cm_bd (by unfold Bd; omega) (by unfold Bd; omega), cd_bd (by omega) (by unfold Bd; omega), by omega, h _ _ _ ⟨p0, m1, m2⟩ (Int.emod_nonneg _ (by omega)) (Int.emod_lt_of_pos _ (by omega))⟩

theorem lpairN_ev {ν : Mu} {p q : Int} {n : Nat} (ok : PoolOk p q) (hn : n ≤ 1000) (h : ∀ x y p' q', PoolOk p' q' → -(n : Int) ≤ x → x ≤ n → -(n : Int) ≤ y → y ≤ n → Q (pr x y) (pc μ (.int p') (.int q') ν)) : sp__law_pair [.loc μ.length, .int n] (pc μ (.int p) (.int q) ν) Q Xd := by
  unfold sp__law_pair w__law_pair
  walk_at "dl"
  refine ⟨cm_bd (by unfold Bd; omega) (by unfold Bd; omega), drawN_ev ok (by omega) (by unfold Bd; omega) fun r p1 q1 ok1 r0 r1 => ?_⟩
  walk_at "dl"
  refine ⟨cm_bd (by unfold Bd; omega) (by unfold Bd; omega), drawN_ev ok1 (by omega) (by unfold Bd; omega) fun r2 p2 q2 ok2 r3 r4 => ?_⟩
  walk_at "dl"
  exact h _ _ _ _ ok2 (by omega) (by omega) (by omega) (by omega)
/-- histories: state told by lookups -/
abbrev Mv : Type := Nat × SA.P
def mvD (m : Mv) : D := .tup [.int (m.1 : Nat), pd m.2]
def mvP (m : Mv) : D := .tup [.int (m.1 : Nat), ptd m.2]
def plays (P : List SA.P) (ms : List Mv) : List SA.P := ms.foldl (fun ps m => ps.set m.1 m.2) P
theorem plays_app {P : List SA.P} {a b : List Mv} : plays P (a ++ b) = plays (plays P a) b := List.foldl_append
theorem plays_one {P : List SA.P} {m : Mv} : plays P [m] = P.set m.1 m.2 := rfl
theorem plays_len {P : List SA.P} : ∀ {ms : List Mv}, (plays P ms).length = P.length := by
  intro ms
  induction ms generalizing P with
  | nil => rfl
  | cons m ms ih =>
    show (plays (P.set m.1 m.2) ms).length = _
    rw [ih, List.length_set]
def MvOk (n : Nat) (ms : List Mv) : Prop := ∀ m ∈ ms, m.1 < n
theorem mvOk_app {n : Nat} {a b : List Mv} (h1 : MvOk n a) (h2 : MvOk n b) : MvOk n (a ++ b) := fun m hm => (List.mem_append.mp hm).elim (h1 m) (h2 m)
theorem mvOk_take {n k : Nat} {a : List Mv} (h : MvOk n a) : MvOk n (a.take k) := fun m hm => h m (List.mem_of_mem_take hm)
theorem mvOk_drop {n k : Nat} {a : List Mv} (h : MvOk n a) : MvOk n (a.drop k) := fun m hm => h m (List.mem_of_mem_drop hm)
abbrev hK : List Str := ["kept_moves", "begin", "now", "made", "later"]
def histC (kd : Nat) (b nd : D) (made later : List Mv) : Cell := .ins "History" ["kept_moves", "begin", "now", "made", "later"] [.loc kd, b, nd, .lst (made.map mvD), .lst (later.map mvD)]
def keptC (kn : List Str) (kv : List (List Mv)) : Cell := .dic kn (kv.map fun ms => .lst (ms.map mvD))
structure NOk (P : List SA.P) (tr : List T3i) : Prop where
  l1 : P.length ≤ 100
  l2 : tr.length ≤ 100
  ok : ∀ t ∈ tr, TrOk3 P.length t
/-- the history's object alone -/
def HAt (μ : Mu) (h kd : Nat) (nd : D) (P : List SA.P) (tr : List T3i) (made later : List Mv) : Prop := μ[h]? = some (histC kd (netD P tr) nd made later) ∧ IsN μ nd (plays P made) tr
/-- all cells but one stay -/
def Fr1 (μ μ' : Mu) (k : Nat) : Prop := ∀ (n : Nat) (c : Cell), μ[n]? = some c → n ≠ k → μ'[n]? = some c
theorem fr_set {k : Nat} {c : Cell} : Fr1 μ (μ.set k c) k := fun n c' e h => by
  rw [List.getElem?_set_ne (Ne.symm h)]
  exact e
theorem fr_app {k : Nat} {l : Mu} : Fr1 μ (μ ++ l) k := fun n c' e h => by
  rw [List.getElem?_append_left (by rcases Nat.lt_or_ge n μ.length with z | z; exact z; rw [List.getElem?_eq_none z] at e; cases e)]
  exact e
theorem fr_trans {a b c : Mu} {k : Nat} (h1 : Fr1 a b k) (h2 : Fr1 b c k) : Fr1 a c k := fun n o e h => h2 n o (h1 n o e h) h
theorem lt_of_at {n : Nat} {c : Cell} (e : μ[n]? = some c) : n < μ.length := by
  rcases Nat.lt_or_ge n μ.length with z | z
  · exact z
  · rw [List.getElem?_eq_none z] at e
    cases e
theorem isN_fr {μ' : Mu} {k : Nat} {d : D} {ps : List SA.P} {tr : List T3i} (h : IsN μ d ps tr) (f : Fr1 μ μ' k) (hk : ∀ qs us, μ[k]? ≠ some (netC qs us)) : IsN μ' d ps tr := by
  rcases h with h | ⟨n, rfl, e⟩
  · exact .inl h
  · refine .inr ⟨n, rfl, f n _ e fun z => ?_⟩
    subst z
    exact hk _ _ e
theorem hAt_fr {μ' : Mu} {h kd k : Nat} {nd : D} {P : List SA.P} {tr : List T3i} {made later : List Mv} (H : HAt μ h kd nd P tr made later) (f : Fr1 μ μ' k) (hh : h ≠ k) (hk : ∀ qs us, μ[k]? ≠ some (netC qs us)) : HAt μ' h kd nd P tr made later :=
  ⟨f _ _ H.1 hh, isN_fr H.2 f hk⟩
/-- not a net -/
theorem nn_of {n : Nat} {c : Cell} (e : μ[n]? = some c) (hc : ∀ qs us, c ≠ netC qs us) : ∀ qs us, μ[n]? ≠ some (netC qs us) := fun qs us z => by
  rw [e] at z
  exact hc qs us (Option.some.inj z)
theorem nn_dic {kn : List Str} {kv : List D} : ∀ qs us, Cell.dic kn kv ≠ netC qs us := fun qs us z => by
  unfold netC at z
  cases z
theorem nn_lst {ds : List D} : ∀ qs us, Cell.lst ds ≠ netC qs us := fun qs us z => by
  unfold netC at z
  cases z
theorem get_ev {d : D} {ps : List SA.P} {tr : List T3i} {i : Nat} (hd : IsN μ d ps tr) (hi : i < ps.length) (h : Q (ptd (atP ps i)) μ) : sp_Net_getitem [d, .int (i : Nat)] μ Q Xd := by
  unfold sp_Net_getitem w_Net_getitem
  rcases hd with rfl | ⟨n, rfl, en⟩
  · unfold netD
    walk_at "gn"
    rw [List.length_map]
    refine cbt_ok (by omega) (by omega) ?_
    walk_at "gn"
    rw [atP_at hi]
    walk_at "gn"
    refine pof_ev ?_
    walk_at "gn"
    exact h
  · unfold netC at en
    walk_at "gn"
    simp only [en]
    walk_at "gn"
    rw [List.length_map]
    refine cbt_ok (by omega) (by omega) ?_
    walk_at "gn"
    simp only [en]
    walk_at "gn"
    rw [atP_at hi]
    walk_at "gn"
    refine pof_ev ?_
    walk_at "gn"
    exact h
theorem nums_pd {d : D} {v : SA.P} (hd : IsP d v.1 v.2) (h : Q (pd v) μ) : sp_numbers_of [d] μ Q Xd := nums hd h
theorem insD_net {d : D} {ps : List SA.P} {tr : List T3i} (hd : IsN μ d ps tr) : insD d μ = some (("Net" : Str), (["pairs", "own_triples"] : List Str), [.lst (ps.map pd), .lst (tr.map triD)]) := by
  rcases hd with rfl | ⟨n, rfl, e⟩
  · rfl
  · unfold netC at e
    unfold insD
    simp only [e]
theorem insD_hist {h kd : Nat} {b nd : D} {made later : List Mv} (e : μ[h]? = some (histC kd b nd made later)) : insD (.loc h) μ = some (("History" : Str), hK, [.loc kd, b, nd, .lst (made.map mvD), .lst (later.map mvD)]) := by
  unfold histC at e
  unfold insD
  simp only [e]
theorem hasN_go {m : Str} {d : D} {ps : List SA.P} {tr : List T3i} {K : Prop} (hd : IsN μ d ps tr) (hm : (["pairs", "own_triples"] : List Str).contains m = false) (h : K) : hasCls "Net" m d μ K := by
  unfold hasCls
  rw [insD_net hd]
  exact ⟨rfl, hm, h⟩
theorem clsN_go {d : D} {ps : List SA.P} {tr : List T3i} {K : Prop} (hd : IsN μ d ps tr) (h : K) : isCls "Net" d μ K := by
  unfold isCls
  rw [insD_net hd]
  exact ⟨rfl, h⟩
theorem hasH_go {m : Str} {h kd : Nat} {b nd : D} {made later : List Mv} {K : Prop} (e : μ[h]? = some (histC kd b nd made later)) (hm : hK.contains m = false) (k : K) : hasCls "History" m (.loc h) μ K := by
  unfold hasCls
  rw [insD_hist e]
  exact ⟨rfl, hm, k⟩
/-- a history's dict of kept moves is made -/
theorem kinit_ev {Q : List Str → List D → Mu → Prop} (h : Q ["kept_moves"] [.loc μ.length] (μ ++ [.dic [] []])) : sp_Kept_init_History [] μ Q Xd := by
  unfold sp_Kept_init_History w_Kept_init_History
  refine ⟨rfl, fun a => ?_⟩
  walk_at "dl"
  exact h
theorem netnowC_ev {h kd : Nat} {nd : D} {P : List SA.P} {tr : List T3i} {made later : List Mv} (H : HAt μ h kd nd P tr made later) (k : NOk P tr) (hq : Q (.loc μ.length) (μ ++ [netC (plays P made) tr])) : sp_History_net_now_C [.loc h] μ Q Xd := by
  have e := H.1
  unfold histC at e
  unfold sp_History_net_now_C w_History_net_now_C
  walk_at "gn"
  simp only [e]
  walk_at "gn"
  refine hasN_go H.2 rfl ?_
  walk_at "gn"
  exact twinC_ev H.2 (by rw [plays_len]; exact k.l1) k.l2 (by rw [plays_len]; exact k.ok) hq
theorem hlen_ev {h kd : Nat} {nd : D} {P : List SA.P} {tr : List T3i} {made later : List Mv} (H : HAt μ h kd nd P tr made later) (hq : Q (.int (made.length : Nat)) μ) : sp_History_len [.loc h] μ Q Xd := by
  have e := H.1
  unfold histC at e
  unfold sp_History_len w_History_len
  walk_at "gn"
  simp only [e]
  walk_at "gn"
  rw [List.length_map]
  exact hq
theorem hmoves_ev {h kd : Nat} {nd : D} {P : List SA.P} {tr : List T3i} {made later : List Mv} (H : HAt μ h kd nd P tr made later) (hl : made.length ≤ 1000) (hq : Q (.lst (made.map mvP)) μ) : sp_History_moves [.loc h] μ Q Xd := by
  have e := H.1
  unfold histC at e
  unfold sp_History_moves w_History_moves
  walk_at "gn"
  simp only [e]
  walk_at "gn"
  refine lc_mp (α := Mv) (f := mvD) (l := made) mvP (fun m hm ds acc hacc hK2 => ?_) (by omega) ?_
  · unfold mvD
    walk_at "gn"
    refine pof_ev ?_
    walk_at "gn"
    exact hK2
  exact hq
theorem hmove_ev {h kd i : Nat} {nd d : D} {v : SA.P} {P : List SA.P} {tr : List T3i} {made later : List Mv} (H : HAt μ h kd nd P tr made later) (k : NOk P tr) (hd : IsP d v.1 v.2) (hi : i < P.length) (hl : made.length ≤ 1000)
    (hq : ∀ nd' μ', HAt μ' h kd nd' P tr (made ++ [(i, v)]) [] → Fr1 μ μ' h → Q (ptd (atP (plays P made) i)) μ') : sp_History_move [.loc h, .int (i : Nat), d] μ Q Xd := by
  have e := H.1
  unfold histC at e
  unfold sp_History_move w_History_move
  walk_at "gn"
  simp only [e]
  walk_at "gn"
  refine clsN_go H.2 ?_
  refine get_ev H.2 (by rw [plays_len]; exact hi) ?_
  walk_at "gn"
  simp only [e]
  walk_at "gn"
  refine hasN_go H.2 rfl ?_
  walk_at "gn"
  refine twinC_ev H.2 (by rw [plays_len]; exact k.l1) k.l2 (by rw [plays_len]; exact k.ok) ?_
  have g0 : ∀ {c : Cell}, (μ ++ [c])[μ.length]? = some c := List.getElem?_concat_length
  walk_at "gn"
  refine hasN_go (.inr ⟨_, rfl, g0⟩) rfl ?_
  walk_at "gn"
  refine put_ev hd g0 (by rw [plays_len]; exact hi) (by rw [plays_len]; exact k.l1) ?_
  rw [List.set_append_right _ _ (Nat.le_refl _), Nat.sub_self, List.set_cons_zero]
  have hh := lt_of_at H.1
  generalize hμ1 : μ ++ [netC ((plays P made).set i v) tr] = μ1
  have g1 : μ1[μ.length]? = some (netC ((plays P made).set i v) tr) := by rw [← hμ1]; exact g0
  have f1 : Fr1 μ μ1 h := by rw [← hμ1]; exact fr_app
  have e1 : μ1[h]? = μ[h]? := by rw [← hμ1, List.getElem?_append_left hh]
  rw [e] at e1
  walk_at "gn"
  refine putL_go e1 (by decide) ?_
  walk_at "gn"
  generalize hμ2 : μ1.set h _ = μ2
  have l1 : h < μ1.length := lt_of_at e1
  have e2 : μ2[h]? = some (histC kd (netD P tr) (.loc μ.length) made later) := by
    rw [← hμ2, List.getElem?_set_self l1]
    rfl
  have f2 : Fr1 μ μ2 h := by rw [← hμ2]; exact fr_trans f1 fr_set
  have g2 : μ2[μ.length]? = some (netC ((plays P made).set i v) tr) := by
    rw [← hμ2, List.getElem?_set_ne (by omega)]
    exact g1
  unfold histC at e2
  simp only [e2]
  walk_at "gn"
  refine nums_pd hd ?_
  walk_at "gn"
  refine ⟨by rw [List.length_map, sizeLine_eq]; omega, putL_go e2 (by decide) ?_⟩
  walk_at "gn"
  refine putL_go (List.getElem?_set_self (lt_of_at e2)) (by decide) ?_
  walk_at "gn"
  rw [List.set_set]
  refine hq (.loc μ.length) _ ⟨?_, ?_⟩ (fr_trans f2 fr_set)
  · rw [List.getElem?_set_self (lt_of_at e2)]
    unfold histC
    rw [List.map_append]
    rfl
  · refine .inr ⟨_, rfl, ?_⟩
    rw [List.getElem?_set_ne (by omega), g2, plays_app]
    rfl
theorem replay_ev {h kd : Nat} {nd : D} {P : List SA.P} {tr : List T3i} {made later mn ln : List Mv} (H : HAt μ h kd nd P tr made later) (k : NOk P tr) (hm : MvOk P.length mn) (hl : mn.length ≤ 1000)
    (hq : ∀ nd' μ', HAt μ' h kd nd' P tr mn ln → Fr1 μ μ' h → Q .non μ') : sp_History_replay [.loc h, .lst (mn.map mvD), .lst (ln.map mvD)] μ Q Xd := by
  have e := H.1
  unfold histC at e
  unfold sp_History_replay w_History_replay
  walk_at "gn"
  simp only [e]
  walk_at "gn"
  refine ⟨rfl, rfl, ?_⟩
  refine twinC_ev (ps := P) (tr := tr) isN_o k.l1 k.l2 k.ok ?_
  walk_at "gn"
  have hh := lt_of_at H.1
  refine forL_pre (α := Mv) (f := mvD) (l := mn) (fun pre ρ μ' => (∃ s1 s2, ρ = [.v (.loc h), .v (.lst (mn.map mvD)), .v (.lst (ln.map mvD)), .v (.loc μ.length), s1, s2]) ∧ μ' = μ ++ [netC (plays P pre) tr]) (fun pre m post hs ρ μ' K hI hK => ?_) (fun ρ μ' hI => ?_) ⟨⟨_, _, rfl⟩, rfl⟩
  · obtain ⟨⟨s1, s2, rfl⟩, rfl⟩ := hI
    have g0 : ∀ {c : Cell}, (μ ++ [c])[μ.length]? = some c := List.getElem?_concat_length
    have hmi : m.1 < P.length := hm m (by rw [hs]; simp)
    unfold mvD
    walk_at "gn"
    refine hasN_go (.inr ⟨_, rfl, g0⟩) rfl ?_
    walk_at "gn"
    refine put_ev (v := m.2) isP_pr g0 (by rw [plays_len]; exact hmi) (by rw [plays_len]; exact k.l1) ?_
    walk_at "gn"
    refine hK _ _ ⟨⟨_, _, rfl⟩, ?_⟩
    rw [List.set_append_right _ _ (Nat.le_refl _), Nat.sub_self, List.set_cons_zero, plays_app]
    rfl
  · obtain ⟨⟨s1, s2, rfl⟩, rfl⟩ := hI
    have e1 : (μ ++ [netC (plays P mn) tr])[h]? = some (histC kd (netD P tr) nd made later) := by rw [List.getElem?_append_left hh]; exact H.1
    have g1 : (μ ++ [netC (plays P mn) tr])[μ.length]? = some (netC (plays P mn) tr) := List.getElem?_concat_length
    have f1 : Fr1 μ (μ ++ [netC (plays P mn) tr]) h := fr_app
    generalize μ ++ [netC (plays P mn) tr] = μ1 at e1 g1 f1 ⊢
    unfold histC at e1
    walk_at "gn"
    refine putL_go e1 (by decide) ?_
    walk_at "gn"
    refine putL_go (List.getElem?_set_self (lt_of_at e1)) (by decide) ?_
    walk_at "gn"
    rw [List.set_set]
    refine putL_go (List.getElem?_set_self (lt_of_at e1)) (by decide) ?_
    walk_at "gn"
    rw [List.set_set]
    refine hq (.loc μ.length) _ ⟨?_, ?_⟩ (fr_trans f1 fr_set)
    · rw [List.getElem?_set_self (lt_of_at e1)]
      rfl
    · refine .inr ⟨_, rfl, ?_⟩
      rw [List.getElem?_set_ne (by omega), g1]
theorem undo_ev {h kd many : Nat} {nd : D} {P : List SA.P} {tr : List T3i} {made later : List Mv} (H : HAt μ h kd nd P tr made later) (k : NOk P tr) (hm : MvOk P.length made) (hl : made.length ≤ 1000) (hl2 : later.length ≤ 1000) (h1 : 1 ≤ many) (h2 : many ≤ made.length)
    (hq : ∀ nd' μ', HAt μ' h kd nd' P tr (made.take (made.length - many)) (made.drop (made.length - many) ++ later) → Fr1 μ μ' h → Q (.int ((made.length - many : Nat) : Nat)) μ') : sp_History_undo [.loc h, .int (many : Nat)] μ Q Xd := by
  have e := H.1
  unfold histC at e
  unfold sp_History_undo w_History_undo
  walk_at "gn"
  simp only [e]
  walk_at "gn"
  rw [List.length_map]
  refine btw_ev ?_
  rw [decide_eq_true (by omega), decide_eq_true (by omega)]
  walk_at "gn"
  simp only [e]
  walk_at "gn"
  rw [List.length_map, show ((made.length : Nat) : Int) - (many : Nat) = ((made.length - many : Nat) : Nat) by omega]
  refine hasH_go H.1 (by decide) ?_
  walk_at "gn"
  simp only [e]
  walk_at "gn"
  simp only [e]
  walk_at "gn"
  rw [cutD_take (by rw [List.length_map]; omega), cutD_drop (by rw [List.length_map]; omega)]
  simp only [e]
  walk_at "gn"
  refine ⟨by rw [List.length_drop, List.length_map, List.length_map, sizeLine_eq]; omega, ?_⟩
  rw [← List.map_take, ← List.map_drop, ← List.map_append]
  refine replay_ev H k (mvOk_take hm) (by rw [List.length_take]; omega) fun nd' μ' H' f => ?_
  walk_at "gn"
  exact hq nd' μ' H' f
theorem redo_ev {h kd many : Nat} {nd : D} {P : List SA.P} {tr : List T3i} {made later : List Mv} (H : HAt μ h kd nd P tr made later) (k : NOk P tr) (hm : MvOk P.length made) (hm2 : MvOk P.length later) (hl : made.length ≤ 500) (hl2 : later.length ≤ 500) (h1 : 1 ≤ many) (h2 : many ≤ later.length)
    (hq : ∀ nd' μ', HAt μ' h kd nd' P tr (made ++ later.take many) (later.drop many) → Fr1 μ μ' h → Q (.int ((made.length + many : Nat) : Nat)) μ') : sp_History_redo [.loc h, .int (many : Nat)] μ Q Xd := by
  have e := H.1
  unfold histC at e
  unfold sp_History_redo w_History_redo
  walk_at "gn"
  simp only [e]
  walk_at "gn"
  rw [List.length_map]
  refine btw_ev ?_
  rw [decide_eq_true (by omega), decide_eq_true (by omega)]
  walk_at "gn"
  refine hasH_go H.1 (by decide) ?_
  walk_at "gn"
  simp only [e]
  walk_at "gn"
  simp only [e]
  walk_at "gn"
  rw [cutD_take (by rw [List.length_map]; omega)]
  refine ⟨by rw [List.length_take, List.length_map, List.length_map, sizeLine_eq]; omega, ?_⟩
  simp only [e]
  walk_at "gn"
  rw [cutD_drop (by rw [List.length_map]; omega)]
  rw [← List.map_take, ← List.map_drop, ← List.map_append]
  refine replay_ev H k (mvOk_app hm (mvOk_take hm2)) (by rw [List.length_append, List.length_take]; omega) fun nd' μ' H' f => ?_
  have e' := H'.1
  unfold histC at e'
  walk_at "gn"
  simp only [e']
  walk_at "gn"
  rw [List.length_map, List.length_append, List.length_take, Nat.min_eq_left h2]
  exact hq nd' μ' H' f
theorem bools_of {α : Type} {f : α → Bool} : ∀ {l : List α}, boolsD (l.map fun a => D.bl (f a)) = some (l.map f)
  | [] => rfl
  | a :: l => by
    rw [List.map_cons, boolsD, bools_of]
    rfl
theorem isname_ev {s : Str} (hz : s.length ≤ 1000) (h : Q (.bl (decide (1 ≤ s.length ∧ s.length ≤ 8) && s.cps.toList.all fun c => decide (c ∈ ("abcdefghijklmnopqrstuvwxyz" : Str).cps.toList))) μ) : sp_is_name [.str s] μ Q Xd := by
  unfold sp_is_name w_is_name
  walk_at "gn"
  refine lenS_go (by rw [sizeLine_eq]; omega) ?_
  walk_at "gn"
  by_cases c1 : 1 ≤ s.length ∧ s.length ≤ 8
  · rw [decide_eq_true c1] at h
    obtain ⟨c1, c2⟩ := c1
    rw [decide_eq_true (by omega)]
    walk_at "gn"
    rw [decide_eq_true (by omega)]
    walk_at "gn"
    unfold lettersD
    refine lc_mp (α := Nat) (f := fun c => D.str ⟨#[c]⟩) (l := s.cps.toList) (fun c => D.bl (decide (c ∈ ("abcdefghijklmnopqrstuvwxyz" : Str).cps.toList))) (fun c hc ds acc hacc hK2 => ?_) (by rw [Array.length_toList]; unfold Str.length at hz; omega) ?_
    · walk_at "gn"
      refine ⟨c, _, rfl, rfl, ?_⟩
      walk_at "gn"
      exact hK2
    walk_at "gn"
    refine ⟨s.cps.toList.map fun c => decide (c ∈ ("abcdefghijklmnopqrstuvwxyz" : Str).cps.toList), bools_of, ?_⟩
    show Q (.bl ((s.cps.toList.map fun c => decide (c ∈ ("abcdefghijklmnopqrstuvwxyz" : Str).cps.toList)).all id)) μ
    rw [List.all_map, Function.id_comp]
    rw [Bool.true_and] at h
    exact h
  · rw [decide_eq_false c1] at h
    rw [Bool.false_and] at h
    by_cases c2 : 1 ≤ s.length
    · rw [decide_eq_true (by omega)]
      walk_at "gn"
      rw [decide_eq_false (by omega)]
      walk_at "gn"
      exact h
    · rw [decide_eq_false (by omega)]
      walk_at "gn"
      exact h
theorem setTd_map {α : Type} {f : α → D} {k : Str} {a : α} : ∀ {ks : List Str} {as : List α}, setTd k (f a) ks (as.map f) = (setTd k a ks as).map f
  | [], _ => by unfold setTd; simp
  | _ :: _, [] => by unfold setTd; simp
  | g :: ks, x :: as => by
    have ih := setTd_map (f := f) (k := k) (a := a) (ks := ks) (as := as)
    unfold setTd at ih ⊢
    rw [List.map_cons, List.zipWith_cons_cons, List.zipWith_cons_cons, List.map_cons, ih]
    by_cases c : g = k
    · rw [if_pos c, if_pos c]
    · rw [if_neg c, if_neg c]
theorem putTd_map {α : Type} {f : α → D} {k : Str} {a : α} {ks : List Str} {as : List α} : putTd k (f a) ks (as.map f) = (putTd k a ks as).map f := by
  unfold putTd
  split
  · exact setTd_map
  · rw [List.map_append]
    rfl
theorem getTd_map {α : Type} {f : α → D} {k : Str} : ∀ {ks : List Str} {as : List α}, getTd k ks (as.map f) = (getTd k ks as).map f
  | [], _ => by simp [getTd]
  | _ :: _, [] => by simp [getTd]
  | g :: ks, x :: as => by
    rw [List.map_cons, getTd, getTd]
    by_cases c : g = k
    · rw [if_pos c, if_pos c]
      rfl
    · rw [if_neg c, if_neg c]
      exact getTd_map
theorem getTd_ex {α : Type} {k : Str} : ∀ {ks : List Str} {as : List α}, ks.length = as.length → k ∈ ks → ∃ a, getTd k ks as = some a ∧ a ∈ as
  | [], _, _, h => by simp at h
  | _ :: _, [], h, _ => by simp at h
  | g :: ks, x :: as, h, hk => by
    rw [getTd]
    by_cases c : g = k
    · rw [if_pos c]
      exact ⟨x, rfl, List.mem_cons_self⟩
    · rw [if_neg c]
      obtain ⟨a, e, ha⟩ := getTd_ex (ks := ks) (as := as) (by simpa using h) ((List.mem_cons.mp hk).resolve_left fun z => c z.symm)
      exact ⟨a, e, List.mem_cons_of_mem _ ha⟩
theorem putTd_all {α : Type} {p : α → Prop} {k : Str} {a : α} (ha : p a) {ks : List Str} {as : List α} (h : ∀ x ∈ as, p x) : ∀ x ∈ putTd k a ks as, p x := by
  intro x hx
  unfold putTd at hx
  split at hx
  · unfold setTd at hx
    induction ks generalizing as with
    | nil => simp at hx
    | cons g ks ih =>
      cases as with
      | nil => simp at hx
      | cons y as =>
        rw [List.zipWith_cons_cons] at hx
        rcases List.mem_cons.mp hx with rfl | hx
        · split
          · exact ha
          · exact h y List.mem_cons_self
        · by_cases c : k ∈ ks
          · exact ih (fun x hx => h x (List.mem_cons_of_mem _ hx)) c hx
          · rename_i hk
            have : ∀ {l : List Str} {bs : List α}, (∀ x ∈ bs, p x) → x ∈ List.zipWith (fun g y => if g = k then a else y) l bs → p x := by
              intro l
              induction l with
              | nil => intro bs _ hz; simp at hz
              | cons g l ihl =>
                intro bs hb hz
                cases bs with
                | nil => simp at hz
                | cons b bs =>
                  rw [List.zipWith_cons_cons] at hz
                  rcases List.mem_cons.mp hz with rfl | hz
                  · split
                    · exact ha
                    · exact hb b List.mem_cons_self
                  · exact ihl (fun x hx => hb x (List.mem_cons_of_mem _ hx)) hz
            exact this (fun x hx => h x (List.mem_cons_of_mem _ hx)) hx
  · rcases List.mem_append.mp hx with hx | hx
    · exact h x hx
    · rw [List.mem_singleton.mp hx]
      exact ha
theorem putTk_len {k : Str} {ks : List Str} : (putTk k ks).length ≤ ks.length + 1 := by
  unfold putTk
  split
  · omega
  · rw [List.length_append, List.length_singleton]
    exact Nat.le_refl _
theorem keep_ev {h kd : Nat} {nm : Str} {nd : D} {P : List SA.P} {tr : List T3i} {made later : List Mv} {kn : List Str} {kv : List (List Mv)} (H : HAt μ h kd nd P tr made later) (ek : μ[kd]? = some (keptC kn kv)) (hl : made.length ≤ 1000) (hk : kn.length < 1000)
    (hn : nm.length ≤ 1000) (hn2 : (decide (1 ≤ nm.length ∧ nm.length ≤ 8) && nm.cps.toList.all fun c => decide (c ∈ ("abcdefghijklmnopqrstuvwxyz" : Str).cps.toList)) = true)
    (hq : Q .non (μ.set kd (keptC (putTk nm kn) (putTd nm made kn kv)))) : sp_History_keep [.loc h, .str nm] μ Q Xd := by
  have e := H.1
  unfold histC at e
  unfold sp_History_keep w_History_keep
  walk_at "gn"
  refine hasH_go H.1 (by decide) ?_
  walk_at "gn"
  simp only [e]
  walk_at "gn"
  unfold sp_History_keep_moves w_History_keep_moves
  walk_at "gn"
  refine isname_ev hn ?_
  rw [hn2]
  walk_at "gn"
  simp only [e]
  walk_at "gn"
  refine putN_go ek hk ?_
  rw [putTd_map (f := fun ms : List Mv => D.lst (ms.map mvD))]
  walk_at "gn"
  exact hq
theorem turn_ev {h kd : Nat} {nm : Str} {nd : D} {P : List SA.P} {tr : List T3i} {made later mn : List Mv} {kn : List Str} {kv : List (List Mv)} (H : HAt μ h kd nd P tr made later) (k : NOk P tr) (ek : μ[kd]? = some (keptC kn kv)) (hl : mn.length ≤ 1000) (hm : MvOk P.length mn)
    (hn : nm ∈ kn) (hg : getTd nm kn kv = some mn)
    (hq : ∀ nd' μ', HAt μ' h kd nd' P tr mn [] → Fr1 μ μ' h → Q (.int (mn.length : Nat)) μ') : sp_History_turn [.loc h, .str nm] μ Q Xd := by
  have e := H.1
  unfold histC at e
  unfold sp_History_turn w_History_turn
  walk_at "gn"
  refine hasH_go H.1 (by decide) ?_
  walk_at "gn"
  refine hasH_go H.1 (by decide) ?_
  walk_at "gn"
  unfold sp_History_moves_at w_History_moves_at
  walk_at "gn"
  simp only [e]
  walk_at "gn"
  refine inT_go ek ?_
  rw [decide_eq_true hn]
  walk_at "gn"
  simp only [e]
  walk_at "gn"
  refine getT_go (d := .lst (mn.map mvD)) ek (by rw [getTd_map, hg]; rfl) ?_
  walk_at "gn"
  refine replay_ev (ln := []) H k hm hl fun nd' μ' H' f => ?_
  have e' := H'.1
  unfold histC at e'
  walk_at "gn"
  simp only [e']
  walk_at "gn"
  rw [List.length_map]
  exact hq nd' μ' H' f
/-- the pool, wherever it lies -/
def PAt (μ : Mu) (n : Nat) : Prop := ∃ p q, PoolOk p q ∧ μ[n]? = some (.lst [.int p, .int q])
theorem split_at {n : Nat} {c : Cell} (e : μ[n]? = some c) : ∃ a b, μ = a ++ c :: b ∧ a.length = n := by
  have hn := lt_of_at e
  refine ⟨μ.take n, μ.drop (n + 1), ?_, by rw [List.length_take]; omega⟩
  have h1 : μ[n] = c := by
    rw [List.getElem?_eq_getElem hn] at e
    exact Option.some.inj e
  rw [← h1, List.getElem_cons_drop, List.take_append_drop]
theorem drawA_ev {n : Nat} {many : Int} (hp : PAt μ n) (h1 : 1 ≤ many) (h2 : Bd many) (h : ∀ r μ', PAt μ' n → Fr1 μ μ' n → 0 ≤ r → r < many → Q (.int r) μ') : sp__law_draw [.loc n, .int many] μ Q Xd := by
  obtain ⟨p, q, ok, e⟩ := hp
  obtain ⟨a, b, rfl, rfl⟩ := split_at e
  refine drawN_ev (μ := a) (ν := b) ok h1 h2 fun r p' q' ok' r0 r1 => h r _ ⟨p', q', ok', pc_get⟩ ?_ r0 r1
  rw [show pc a (.int p') (.int q') b = (pc a (.int p) (.int q) b).set a.length (.lst [.int p', .int q']) from pc_set.symm]
  exact fr_set
theorem lpairA_ev {m n : Nat} (hp : PAt μ n) (hm : m ≤ 1000) (h : ∀ v μ', PAt μ' n → Fr1 μ μ' n → Q (pd v) μ') : sp__law_pair [.loc n, .int (m : Nat)] μ Q Xd := by
  obtain ⟨p, q, ok, e⟩ := hp
  obtain ⟨a, b, rfl, rfl⟩ := split_at e
  refine lpairN_ev (μ := a) (ν := b) ok hm fun x y p' q' ok' _ _ _ _ => h (x, y) _ ⟨p', q', ok', pc_get⟩ ?_
  rw [show pc a (.int p') (.int q') b = (pc a (.int p) (.int q) b).set a.length (.lst [.int p', .int q']) from pc_set.symm]
  exact fr_set
theorem clsH_go {h kd : Nat} {b nd : D} {made later : List Mv} {K : Prop} (e : μ[h]? = some (histC kd b nd made later)) (k : K) : isCls "History" (.loc h) μ K := by
  unfold isCls
  rw [insD_hist e]
  exact ⟨rfl, k⟩
/-- what a move returned, put back -/
def stk (P : List SA.P) (tr : List T3i) (pre : List Mv) (m : Mv) : D := .tup [.int (m.1 : Nat), netD (plays P pre) tr, ptd (atP (plays P pre) m.1)]
theorem eq_selfD {d : D} {K : Bool → Prop} (h1 : P5 d = true) (h2 : deq d d = true) (h : K true) : eqU d d K := by
  rw [eqU_pl h1 h1, h2]
  exact h

theorem nind_pl {x : D} {ds : List D} {μ : Mu} {Q : D → Mu → Prop} (hx : P5 x = true) (hy : P5 (.lst ds) = true) (h : Q (.bl (!(ds.any fun d => deq d x))) μ) : fNotInD x (.lst ds) μ Q := by
  obtain ⟨p, e1, s1⟩ := P5_shaped hx
  obtain ⟨q, e2, s2⟩ := P5_shaped hy
  obtain ⟨qs, rfl, e3⟩ := lst_toP e2
  exact ⟨p, qs, e1, e2, s1, s2, by rw [toPs_any e1 e3]; exact h⟩

theorem get_no {d o : D} {ps : List SA.P} {tr : List T3i} (hd : IsN μ d ps tr) (ho : NoIx ps.length o) (h : Xd "InvalidNumber" ["number"] [o] μ) : sp_Net_getitem [d, o] μ Q Xd := by
  unfold sp_Net_getitem w_Net_getitem
  rcases hd with rfl | ⟨n, rfl, en⟩
  · unfold netD
    walk_at "gn"
    rw [List.length_map]
    refine cbt_no ho ?_
    walk_at "gn"
    exact h
  · unfold netC at en
    walk_at "gn"
    simp only [en]
    walk_at "gn"
    rw [List.length_map]
    refine cbt_no ho ?_
    walk_at "gn"
    exact h
theorem put_nop {n : Nat} {d : D} {ps : List SA.P} {tr : List T3i} {i : Nat} (hd : NoP d) (en : μ[n]? = some (netC ps tr)) (hi : i < ps.length) (h : Xd "InvalidPoint" ["thing"] [d] μ) : sp_Net_put [.loc n, .int (i : Nat), d] μ Q Xd := by
  unfold netC at en
  unfold sp_Net_put w_Net_put
  walk_at "gn"
  simp only [en]
  walk_at "gn"
  rw [List.length_map]
  refine cbt_ok (by omega) (by omega) ?_
  walk_at "gn"
  refine pair_no hd ?_
  walk_at "gn"
  exact h
def isNm (s : Str) : Bool := decide (1 ≤ s.length ∧ s.length ≤ 8) && s.cps.toList.all fun c => decide (c ∈ ("abcdefghijklmnopqrstuvwxyz" : Str).cps.toList)
def NoCt (n : Nat) (d : D) : Prop := NotInt d ∨ ∃ i : Int, d = .int i ∧ (i < 1 ∨ (n : Int) < i)
theorem btw_ct {d : D} {n : Nat} (hd : NoCt n d) (h : Q (.bl false) μ) : sp_is_between [d, .int 1, .int (n : Nat)] μ Q Xd := by
  rcases hd with hd | ⟨i, rfl, hi⟩
  · exact btw_no hd h
  · refine btw_ev ?_
    rw [show (decide ((1 : Int) ≤ i) && decide (i ≤ (n : Nat))) = false from by
      rw [Bool.and_eq_false_iff, decide_eq_false_iff_not, decide_eq_false_iff_not]
      omega]
    exact h
section
variable {h kd : Nat} {nd : D} {P : List SA.P} {tr : List T3i} {made later : List Mv}
theorem hmove_no {d x : D} (H : HAt μ h kd nd P tr made later) (hd : NoIx P.length d) (hx : Xd "InvalidNumber" ["number"] [d] μ) : sp_History_move [.loc h, d, x] μ Q Xd := by
  have e := H.1
  unfold histC at e
  unfold sp_History_move w_History_move
  walk_at "gn"
  simp only [e]
  walk_at "gn"
  refine clsN_go H.2 ?_
  refine get_no H.2 (by rw [plays_len]; exact hd) ?_
  walk_at "gn"
  exact hx
theorem hmove_nop {i : Nat} (H : HAt μ h kd nd P tr made later) (k : NOk P tr) (hi : i < P.length) (hx : Xd "InvalidPoint" ["thing"] [.non] (μ ++ [netC (plays P made) tr])) : sp_History_move [.loc h, .int (i : Nat), .non] μ Q Xd := by
  have e := H.1
  unfold histC at e
  unfold sp_History_move w_History_move
  walk_at "gn"
  simp only [e]
  walk_at "gn"
  refine clsN_go H.2 ?_
  refine get_ev H.2 (by rw [plays_len]; exact hi) ?_
  walk_at "gn"
  simp only [e]
  walk_at "gn"
  refine hasN_go H.2 rfl ?_
  walk_at "gn"
  refine twinC_ev H.2 (by rw [plays_len]; exact k.l1) k.l2 (by rw [plays_len]; exact k.ok) ?_
  have g0 : ∀ {c : Cell}, (μ ++ [c])[μ.length]? = some c := List.getElem?_concat_length
  walk_at "gn"
  refine hasN_go (.inr ⟨_, rfl, g0⟩) rfl ?_
  walk_at "gn"
  refine put_nop (.inl rfl) g0 (by rw [plays_len]; exact hi) ?_
  walk_at "gn"
  exact hx
theorem undo_no {d : D} (H : HAt μ h kd nd P tr made later) (hd : NoCt made.length d) (hx : Xd "NothingLeft" ["many"] [d] μ) : sp_History_undo [.loc h, d] μ Q Xd := by
  have e := H.1
  unfold histC at e
  unfold sp_History_undo w_History_undo
  walk_at "gn"
  simp only [e]
  walk_at "gn"
  rw [List.length_map]
  refine btw_ct hd ?_
  walk_at "gn"
  exact hx
theorem redo_no {d : D} (H : HAt μ h kd nd P tr made later) (hd : NoCt later.length d) (hx : Xd "NothingLeft" ["many"] [d] μ) : sp_History_redo [.loc h, d] μ Q Xd := by
  have e := H.1
  unfold histC at e
  unfold sp_History_redo w_History_redo
  walk_at "gn"
  simp only [e]
  walk_at "gn"
  rw [List.length_map]
  refine btw_ct hd ?_
  walk_at "gn"
  exact hx
def NoNm (d : D) : Prop := d = .non ∨ ∃ s : Str, d = .str s ∧ s.length ≤ 1000 ∧ isNm s = false
theorem isname_no {d : D} (hd : NoNm d) (hq : Q (.bl false) μ) : sp_is_name [d] μ Q Xd := by
  rcases hd with rfl | ⟨s, rfl, h1, h2⟩
  · unfold sp_is_name w_is_name
    walk_at "gn"
    exact hq
  · refine isname_ev h1 ?_
    unfold isNm at h2
    rw [h2]
    exact hq
theorem keep_no {d : D} (H : HAt μ h kd nd P tr made later) (hd : NoNm d) (hx : Xd "InvalidName" ["name"] [d] μ) : sp_History_keep [.loc h, d] μ Q Xd := by
  have e := H.1
  unfold histC at e
  unfold sp_History_keep w_History_keep
  walk_at "gn"
  refine hasH_go H.1 (by decide) ?_
  walk_at "gn"
  simp only [e]
  walk_at "gn"
  unfold sp_History_keep_moves w_History_keep_moves
  walk_at "gn"
  refine isname_no hd ?_
  walk_at "gn"
  exact hx
def NoKn (kn : List Str) (d : D) : Prop := d = .non ∨ ∃ s : Str, d = .str s ∧ s ∉ kn
theorem turn_no {d : D} {kn : List Str} {kv : List (List Mv)} (H : HAt μ h kd nd P tr made later) (ek : μ[kd]? = some (keptC kn kv)) (hd : NoKn kn d) (hx : Xd "UnknownName" ["name"] [d] μ) : sp_History_turn [.loc h, d] μ Q Xd := by
  have e := H.1
  unfold histC at e
  unfold sp_History_turn w_History_turn
  walk_at "gn"
  refine hasH_go H.1 (by decide) ?_
  walk_at "gn"
  refine hasH_go H.1 (by decide) ?_
  walk_at "gn"
  unfold sp_History_moves_at w_History_moves_at
  rcases hd with rfl | ⟨s, rfl, hs⟩
  · walk_at "gn"
    exact hx
  · walk_at "gn"
    simp only [e]
    walk_at "gn"
    refine inT_go ek ?_
    rw [decide_eq_false hs]
    walk_at "gn"
    exact hx
end
/-- one call: what it tells, and what stands then -/
inductive Stp (P : List SA.P) (made later : List Mv) (kn : List Str) (kv : List (List Mv)) : D → D → List Mv → List Mv → List Str → List (List Mv) → Prop
  | move {i : Nat} {v : SA.P} : i < P.length → Stp P made later kn kv (.tup [.str "move", .int (i : Nat), pd v]) (.tup [.str "told", pd (atP (plays P made) i)]) (made ++ [(i, v)]) [] kn kv
  | moveN {d x : D} {p : PyData} : NoIx P.length d → toP d = some p → reprC p → P5 (.tup [.str "number", .str p.shown]) = true → Stp P made later kn kv (.tup [.str "move", d, x]) (.tup [.str "number", .str p.shown]) made later kn kv
  | moveP {i : Nat} : i < P.length → Stp P made later kn kv (.tup [.str "move", .int (i : Nat), .non]) (.tup [.str "point", .str "None"]) made later kn kv
  | undo {k : Nat} : 1 ≤ k → k ≤ made.length → Stp P made later kn kv (.tup [.str "undo", .int (k : Nat)]) (.tup [.str "told", .int ((made.length - k : Nat) : Nat)]) (made.take (made.length - k)) (made.drop (made.length - k) ++ later) kn kv
  | redo {k : Nat} : 1 ≤ k → k ≤ later.length → Stp P made later kn kv (.tup [.str "redo", .int (k : Nat)]) (.tup [.str "told", .int ((made.length + k : Nat) : Nat)]) (made ++ later.take k) (later.drop k) kn kv
  | undoN {d : D} {p : PyData} : NoCt made.length d → toP d = some p → reprC p → P5 (.tup [.str "left", .str p.shown]) = true → Stp P made later kn kv (.tup [.str "undo", d]) (.tup [.str "left", .str p.shown]) made later kn kv
  | redoN {d : D} {p : PyData} : NoCt later.length d → toP d = some p → reprC p → P5 (.tup [.str "left", .str p.shown]) = true → Stp P made later kn kv (.tup [.str "redo", d]) (.tup [.str "left", .str p.shown]) made later kn kv
  | keep {s : Str} : s ∈ (["m", "n", "abcdefgh"] : List Str) → Stp P made later kn kv (.tup [.str "keep", .str s]) (.tup [.str "told", .non]) made later (putTk s kn) (putTd s made kn kv)
  | keepN {d : D} {p : PyData} : NoNm d → d ∈ ([.str "M", .non, .str "", .str "abcdefghi"] : List D) → toP d = some p → reprC p → P5 (.tup [.str "name", .str p.shown]) = true → Stp P made later kn kv (.tup [.str "keep", d]) (.tup [.str "name", .str p.shown]) made later kn kv
  | turn {s : Str} {mn : List Mv} : s ∈ kn → getTd s kn kv = some mn → mn ∈ kv → Stp P made later kn kv (.tup [.str "turn", .str s]) (.tup [.str "told", .int (mn.length : Nat)]) mn [] kn kv
  | turnN {d : D} {p : PyData} : NoKn kn d → toP d = some p → reprC p → P5 (.tup [.str "unknown", .str p.shown]) = true → Stp P made later kn kv (.tup [.str "turn", d]) (.tup [.str "unknown", .str p.shown]) made later kn kv
theorem nm_all : ∀ s ∈ (["m", "n", "abcdefgh"] : List Str), s.length ≤ 1000 ∧ isNm s = true := by decide +kernel
theorem pp_ev {x y : Int} (h : Q (pr x y) μ) : sp_Point_pair [pt x y] μ Q Xd := by
  unfold sp_Point_pair w_Point_pair
  walk_at "gn"
  exact h
/-- all cells but two stay -/
def Fr2 (μ μ' : Mu) (a b : Nat) : Prop := ∀ (n : Nat) (c : Cell), μ[n]? = some c → n ≠ a → n ≠ b → μ'[n]? = some c
theorem do_ev {h kd : Nat} {nd : D} {P : List SA.P} {tr : List T3i} {made later made' later' : List Mv} {kn kn' : List Str} {kv kv' : List (List Mv)} {c r : D} (S : Stp P made later kn kv c r made' later' kn' kv') (H : HAt μ h kd nd P tr made later) (ek : μ[kd]? = some (keptC kn kv)) (k : NOk P tr) (m1 : MvOk P.length made) (m2 : MvOk P.length later)
    (m3 : ∀ ms ∈ kv, MvOk P.length ms ∧ ms.length ≤ 500) (l1 : made.length ≤ 200) (l2 : later.length ≤ 200) (l3 : kn.length ≤ 200) (hne : h ≠ kd)
    (hq : ∀ nd' μ', HAt μ' h kd nd' P tr made' later' → μ'[kd]? = some (keptC kn' kv') → Fr2 μ μ' h kd → Q r μ') : sp__law_do [.loc h, c] μ Q Xd := by
  have same : ∀ {l : Mu}, HAt (μ ++ l) h kd nd P tr made later ∧ (μ ++ l)[kd]? = some (keptC kn kv) ∧ Fr2 μ (μ ++ l) h kd := fun {l} => by
    have f : ∀ {n : Nat} {c : Cell}, μ[n]? = some c → (μ ++ l)[n]? = some c := fun {n c} e => by
      rw [List.getElem?_append_left (lt_of_at e)]
      exact e
    refine ⟨⟨f H.1, ?_⟩, f ek, fun n c e _ _ => f e⟩
    rcases H.2 with z | ⟨n, z, e⟩
    · exact .inl z
    · exact .inr ⟨n, z, f e⟩
  have s0 : Fr2 μ μ h kd := fun _ _ e _ _ => e
  unfold sp__law_do w__law_do
  cases S with
  | @move i v hi =>
    walk_at "gn"
    refine hasH_go H.1 (by decide) ?_
    walk_at "gn"
    refine hmove_ev (v := v) H k isP_pr hi (by omega) fun nd' μ' H' f => ?_
    walk_at "gn"
    refine ⟨rfl, rfl, pp_ev ?_⟩
    walk_at "gn"
    exact hq _ _ H' (f _ _ ek (Ne.symm hne)) fun n c e n1 _ => f n c e n1
  | moveN h1 h2 h3 h4 =>
    walk_at "gn"
    refine hasH_go H.1 (by decide) ?_
    walk_at "gn"
    refine hmove_no H h1 ?_
    walk_at "gn"
    unfold sp__law_error w__law_error
    walk_at "gn"
    refine ⟨_, h2, h3, ?_⟩
    walk_at "gn"
    exact hq _ _ H ek s0
  | moveP hi =>
    walk_at "gn"
    refine hasH_go H.1 (by decide) ?_
    walk_at "gn"
    refine hmove_nop H k hi ?_
    walk_at "gn"
    unfold sp__law_error w__law_error
    walk_at "gn"
    refine ⟨.none, by rw [toP], by unfold reprC; trivial, ?_⟩
    walk_at "gn"
    exact hq _ _ same.1 same.2.1 same.2.2
  | undo h1 h2 =>
    walk_at "gn"
    refine hasH_go H.1 (by decide) ?_
    refine undo_ev H k m1 (by omega) (by omega) h1 h2 fun nd' μ' H' f => ?_
    walk_at "gn"
    exact hq _ _ H' (f _ _ ek (Ne.symm hne)) fun n c e n1 _ => f n c e n1
  | redo h1 h2 =>
    walk_at "gn"
    refine hasH_go H.1 (by decide) ?_
    refine redo_ev H k m1 m2 (by omega) (by omega) h1 h2 fun nd' μ' H' f => ?_
    walk_at "gn"
    exact hq _ _ H' (f _ _ ek (Ne.symm hne)) fun n c e n1 _ => f n c e n1
  | undoN h1 h2 h3 h4 =>
    walk_at "gn"
    refine hasH_go H.1 (by decide) ?_
    refine undo_no H h1 ?_
    walk_at "gn"
    unfold sp__law_error w__law_error
    walk_at "gn"
    refine ⟨_, h2, h3, ?_⟩
    walk_at "gn"
    exact hq _ _ H ek s0
  | redoN h1 h2 h3 h4 =>
    walk_at "gn"
    refine hasH_go H.1 (by decide) ?_
    refine redo_no H h1 ?_
    walk_at "gn"
    unfold sp__law_error w__law_error
    walk_at "gn"
    refine ⟨_, h2, h3, ?_⟩
    walk_at "gn"
    exact hq _ _ H ek s0
  | @keep nm h1 =>
    walk_at "gn"
    refine hasH_go H.1 (by decide) ?_
    refine keep_ev H ek (by omega) (by omega) (nm_all _ h1).1 (nm_all _ h1).2 ?_
    walk_at "gn"
    refine hq nd _ (hAt_fr H fr_set hne (nn_of ek nn_dic)) (List.getElem?_set_self (lt_of_at ek)) fun n c e _ n2 => ?_
    rw [List.getElem?_set_ne (Ne.symm n2)]
    exact e
  | keepN h1 h2 h3 h4 h5 =>
    walk_at "gn"
    refine hasH_go H.1 (by decide) ?_
    walk_at "gn"
    refine keep_no H h1 ?_
    walk_at "gn"
    unfold sp__law_error w__law_error
    walk_at "gn"
    refine isx2_go (b1 := true) (b2 := false) rfl (by decide +kernel) (by decide +kernel) ?_
    rw [Bool.true_or]
    walk_at "gn"
    refine ⟨_, h3, h4, ?_⟩
    walk_at "gn"
    exact hq _ _ H ek s0
  | turn h1 h2 h3 =>
    walk_at "gn"
    refine hasH_go H.1 (by decide) ?_
    refine turn_ev H k ek (by have := (m3 _ h3).2; omega) (m3 _ h3).1 h1 h2 fun nd' μ' H' f => ?_
    walk_at "gn"
    exact hq _ _ H' (f _ _ ek (Ne.symm hne)) fun n c e n1 _ => f n c e n1
  | turnN h1 h2 h3 h4 =>
    walk_at "gn"
    refine hasH_go H.1 (by decide) ?_
    refine turn_no H ek h1 ?_
    walk_at "gn"
    unfold sp__law_error w__law_error
    walk_at "gn"
    refine isx2_go (b1 := false) (b2 := true) rfl (by decide +kernel) (by decide +kernel) ?_
    rw [Bool.or_true]
    walk_at "gn"
    refine ⟨_, h2, h3, ?_⟩
    walk_at "gn"
    exact hq _ _ H ek s0
/-- what the law holds -/
abbrev wK : List Str := ["pairs", "triples", "made", "later", "kept"]
def worldC (P : List SA.P) (tr : List T3i) (made later : List Mv) (kk : Nat) : Cell := .dic ["pairs", "triples", "made", "later", "kept"] [.lst (P.map pd), .lst (tr.map triD), .lst (made.map mvD), .lst (later.map mvD), .loc kk]
structure WAt (μ : Mu) (kw kk : Nat) (P : List SA.P) (tr : List T3i) (made later : List Mv) (kn : List Str) (kv : List (List Mv)) : Prop where
  e : μ[kw]? = some (worldC P tr made later kk)
  ek : μ[kk]? = some (keptC kn kv)
  ne : kw ≠ kk
theorem isnum_ev {i lo hi : Int} (hq : Q (.bl (decide (lo ≤ i) && decide (i ≤ hi))) μ) : sp__law_is_number [.int i, .int lo, .int hi] μ Q Xd := by
  unfold sp__law_is_number w__law_is_number
  walk_at "gn"
  by_cases c : lo ≤ i
  · rw [decide_eq_true c] at hq ⊢
    walk_at "gn"
    exact hq
  · rw [decide_eq_false c] at hq ⊢
    walk_at "gn"
    exact hq
theorem isnum_no {d : D} {lo hi : Int} (hd : d = .non ∨ ∃ b, d = .bl b) (hq : Q (.bl false) μ) : sp__law_is_number [d, .int lo, .int hi] μ Q Xd := by
  unfold sp__law_is_number w__law_is_number
  rcases hd with rfl | ⟨b, rfl⟩
  · walk_at "gn"
    exact hq
  · walk_at "gn"
    exact hq
theorem ixN_nat {n i : Nat} (h : i < n) : ixN n ((i : Nat) : Int) = some i := by
  unfold ixN
  rw [if_pos (by omega), if_pos (by omega)]
  rfl
theorem isnum_ct {d : D} {n : Nat} (hd : NoCt n d) (hq : Q (.bl false) μ) : sp__law_is_number [d, .int 1, .int (n : Nat)] μ Q Xd := by
  rcases hd with (rfl | ⟨b, rfl⟩ | ⟨b, rfl⟩ | ⟨b, rfl⟩ | ⟨b, rfl⟩) | ⟨j, rfl, hj⟩
  · exact isnum_no (.inl rfl) hq
  · exact isnum_no (.inr ⟨_, rfl⟩) hq
  · unfold sp__law_is_number w__law_is_number
    walk_at "gn"
    exact hq
  · unfold sp__law_is_number w__law_is_number
    walk_at "gn"
    exact hq
  · unfold sp__law_is_number w__law_is_number
    walk_at "gn"
    exact hq
  · refine isnum_ev ?_
    rw [show (decide ((1 : Int) ≤ j) && decide (j ≤ (n : Nat))) = false from by
      rw [Bool.and_eq_false_iff, decide_eq_false_iff_not, decide_eq_false_iff_not]
      omega]
    exact hq
theorem now_ev {kw kk : Nat} {P : List SA.P} {tr : List T3i} {made later : List Mv} {kn : List Str} {kv : List (List Mv)} (W : WAt μ kw kk P tr made later kn kv) (m1 : MvOk P.length made) (hl : made.length ≤ 1000) (hq : Q (.lst ((plays P made).map pd)) μ) : sp__law_now [.loc kw] μ Q Xd := by
  have e := W.e
  unfold worldC at e
  unfold sp__law_now w__law_now
  walk_at "gn"
  refine getT_go e (d := .lst (P.map pd)) (by rfl) ?_
  walk_at "gn"
  refine ⟨_, rfl, by simp, fun a => ?_⟩
  walk_at "gn"
  refine getT_go e (d := .lst (made.map mvD)) (by rfl) ?_
  walk_at "gn"
  refine forL_pre (α := Mv) (f := mvD) (l := made) (fun pre ρ μ' => (∃ s1 s2, ρ = [.v (.loc kw), .own a (.lst ((plays P pre).map pd)), s1, s2]) ∧ μ' = μ) (fun pre m post hs ρ μ' K hI hK => ?_) (fun ρ μ' hI => ?_) ⟨⟨_, _, rfl⟩, rfl⟩
  · obtain ⟨⟨s1, s2, rfl⟩, rfl⟩ := hI
    have hmi : m.1 < P.length := m1 m (by rw [hs]; simp)
    unfold mvD
    walk_at "gn"
    rw [List.length_map, plays_len, ixN_nat hmi]
    show K _ _
    refine hK _ _ ⟨⟨.v (.int (m.1 : Nat)), .v (pd m.2), ?_⟩, rfl⟩
    rw [plays_app, plays_one, List.map_set]
  · obtain ⟨⟨s1, s2, rfl⟩, rfl⟩ := hI
    walk_at "gn"
    exact hq
theorem wput_go {kw kk : Nat} {P : List SA.P} {tr : List T3i} {made later mn ln : List Mv} {kn : List Str} {kv : List (List Mv)} {K : Mu → Prop} (W : WAt μ kw kk P tr made later kn kv) (hK : K (μ.set kw (worldC P tr mn ln kk))) : putN (.loc kw) "made" (.lst (mn.map mvD)) μ fun μ3 => putN (.loc kw) "later" (.lst (ln.map mvD)) μ3 K := by
  have e := W.e
  unfold worldC at e
  refine putN_go e (by decide) ?_
  refine putN_go (ks := ["pairs", "triples", "made", "later", "kept"]) (ds := [.lst (P.map pd), .lst (tr.map triD), .lst (mn.map mvD), .lst (later.map mvD), .loc kk]) ((List.getElem?_set_self (lt_of_at e)).trans rfl) (by decide) ?_
  rw [List.set_set]
  exact hK
theorem wput_at {kw kk : Nat} {P : List SA.P} {tr : List T3i} {made later mn ln : List Mv} {kn : List Str} {kv : List (List Mv)} (W : WAt μ kw kk P tr made later kn kv) : WAt (μ.set kw (worldC P tr mn ln kk)) kw kk P tr mn ln kn kv ∧ Fr2 μ (μ.set kw (worldC P tr mn ln kk)) kw kk := by
  refine ⟨⟨List.getElem?_set_self (lt_of_at W.e), ?_, W.ne⟩, fun n c e n1 _ => ?_⟩
  · rw [List.getElem?_set_ne W.ne]
    exact W.ek
  · rw [List.getElem?_set_ne (Ne.symm n1)]
    exact e
theorem due_ev {kw kk : Nat} {P : List SA.P} {tr : List T3i} {made later made' later' : List Mv} {kn kn' : List Str} {kv kv' : List (List Mv)} {c r : D} (S : Stp P made later kn kv c r made' later' kn' kv') (W : WAt μ kw kk P tr made later kn kv) (hP : P.length ≤ 100) (m1 : MvOk P.length made)
    (l1 : made.length ≤ 200) (l2 : later.length ≤ 200) (l3 : kn.length ≤ 200)
    (hq : ∀ μ', WAt μ' kw kk P tr made' later' kn' kv' → Fr2 μ μ' kw kk → Q r μ') : sp__law_due [.loc kw, c] μ Q Xd := by
  have e := W.e
  have ek := W.ek
  unfold worldC at e
  have s0 : Fr2 μ μ kw kk := fun _ _ e _ _ => e
  unfold sp__law_due w__law_due
  cases S with
  | @move i v hi =>
    walk_at "gn"
    refine getT_go e (d := .lst (made.map mvD)) (by rfl) ?_
    walk_at "gn"
    refine getT_go e (d := .lst (later.map mvD)) (by rfl) ?_
    walk_at "gn"
    unfold sp__law_moved w__law_moved
    walk_at "gn"
    refine now_ev W m1 (by omega) ?_
    walk_at "gn"
    rw [List.length_map, plays_len]
    refine isnum_ev ?_
    rw [decide_eq_true (by omega), decide_eq_true (by omega)]
    walk_at "gn"
    refine getT_go e (d := .lst (made.map mvD)) (by rfl) ?_
    walk_at "gn"
    refine ⟨by rw [List.length_map, sizeLine_eq]; omega, ?_⟩
    walk_at "gn"
    rw [show List.map mvD made ++ [D.tup [D.int (i : Nat), pd v]] = (made ++ [(i, v)]).map mvD by rw [List.map_append]; rfl]
    refine wput_go (ln := []) W ?_
    rw [atP_at (by rw [plays_len]; exact hi)]
    walk_at "gn"
    exact hq _ (wput_at W).1 (wput_at W).2
  | @moveN d x p h1 h2 h3 h4 =>
    walk_at "gn"
    refine getT_go e (d := .lst (made.map mvD)) (by rfl) ?_
    walk_at "gn"
    refine getT_go e (d := .lst (later.map mvD)) (by rfl) ?_
    walk_at "gn"
    unfold sp__law_moved w__law_moved
    walk_at "gn"
    refine now_ev W m1 (by omega) ?_
    walk_at "gn"
    rw [List.length_map, plays_len]
    have no : ∀ {Q : D → Mu → Prop} {Xd : XD}, Q (.bl false) μ → sp__law_is_number [d, .int 0, .int ((P.length : Nat) - 1)] μ Q Xd := fun {Q Xd} hq => by
      rcases h1 with (rfl | ⟨b, rfl⟩ | ⟨b, rfl⟩ | ⟨b, rfl⟩ | ⟨b, rfl⟩) | ⟨j, rfl, hj⟩
      · exact isnum_no (.inl rfl) hq
      · exact isnum_no (.inr ⟨_, rfl⟩) hq
      · unfold sp__law_is_number w__law_is_number
        walk_at "gn"
        exact hq
      · unfold sp__law_is_number w__law_is_number
        walk_at "gn"
        exact hq
      · unfold sp__law_is_number w__law_is_number
        walk_at "gn"
        exact hq
      · refine isnum_ev ?_
        rw [show (decide ((0 : Int) ≤ j) && decide (j ≤ (P.length : Nat) - 1)) = false from by
          rw [Bool.and_eq_false_iff, decide_eq_false_iff_not, decide_eq_false_iff_not]
          omega]
        exact hq
    refine no ?_
    walk_at "gn"
    refine ⟨p, h2, h3, ?_⟩
    walk_at "gn"
    exact hq _ W s0
  | moveP hi =>
    walk_at "gn"
    refine getT_go e (d := .lst (made.map mvD)) (by rfl) ?_
    walk_at "gn"
    refine getT_go e (d := .lst (later.map mvD)) (by rfl) ?_
    walk_at "gn"
    unfold sp__law_moved w__law_moved
    walk_at "gn"
    refine now_ev W m1 (by omega) ?_
    walk_at "gn"
    rw [List.length_map, plays_len]
    refine isnum_ev ?_
    rw [decide_eq_true (by omega), decide_eq_true (by omega)]
    walk_at "gn"
    refine ⟨.none, by rw [toP], by unfold reprC; trivial, ?_⟩
    walk_at "gn"
    exact hq _ W s0
  | @undo k h1 h2 =>
    walk_at "gn"
    refine getT_go e (d := .lst (made.map mvD)) (by rfl) ?_
    walk_at "gn"
    refine getT_go e (d := .lst (later.map mvD)) (by rfl) ?_
    walk_at "gn"
    refine inTp_go ["undo", "redo"] rfl ?_
    rw [show (false != decide (("undo" : Str) ∈ (["undo", "redo"] : List Str))) = true by decide +kernel]
    walk_at "gn"
    rw [List.length_map]
    refine isnum_ev ?_
    rw [decide_eq_true (by omega), decide_eq_true (by omega)]
    walk_at "gn"
    refine ⟨by rw [List.length_map, List.length_map, sizeLine_eq]; omega, by rw [List.length_map, List.length_map, sizeLine_eq]; omega, ?_⟩
    rw [List.length_map, show ((made.length : Nat) : Int) - (k : Nat) = ((made.length - k : Nat) : Nat) by omega, ← List.map_append]
    rw [cutD_take (by rw [List.length_map, List.length_append]; omega), cutD_drop (by rw [List.length_map, List.length_append]; omega), ← List.map_take, ← List.map_drop, List.take_append_of_le_length (by omega), List.drop_append_of_le_length (by omega)]
    refine wput_go W ?_
    exact hq _ (wput_at W).1 (wput_at W).2
  | @redo k h1 h2 =>
    walk_at "gn"
    refine getT_go e (d := .lst (made.map mvD)) (by rfl) ?_
    walk_at "gn"
    refine getT_go e (d := .lst (later.map mvD)) (by rfl) ?_
    walk_at "gn"
    refine inTp_go ["undo", "redo"] rfl ?_
    rw [show (false != decide (("redo" : Str) ∈ (["undo", "redo"] : List Str))) = true by decide +kernel]
    walk_at "gn"
    rw [List.length_map]
    refine isnum_ev ?_
    rw [decide_eq_true (by omega), decide_eq_true (by omega)]
    walk_at "gn"
    refine ⟨by rw [List.length_map, List.length_map, sizeLine_eq]; omega, by rw [List.length_map, List.length_map, sizeLine_eq]; omega, ?_⟩
    rw [List.length_map, show ((made.length : Nat) : Int) + (k : Nat) = ((made.length + k : Nat) : Nat) by omega, ← List.map_append]
    rw [cutD_take (by rw [List.length_map, List.length_append]; omega), cutD_drop (by rw [List.length_map, List.length_append]; omega), ← List.map_take, ← List.map_drop, List.take_length_add_append, List.drop_length_add_append]
    refine wput_go W ?_
    exact hq _ (wput_at W).1 (wput_at W).2
  | undoN h1 h2 h3 h4 =>
    walk_at "gn"
    refine getT_go e (d := .lst (made.map mvD)) (by rfl) ?_
    walk_at "gn"
    refine getT_go e (d := .lst (later.map mvD)) (by rfl) ?_
    walk_at "gn"
    refine inTp_go ["undo", "redo"] rfl ?_
    rw [show (false != decide (("undo" : Str) ∈ (["undo", "redo"] : List Str))) = true by decide +kernel]
    walk_at "gn"
    rw [List.length_map]
    refine isnum_ct h1 ?_
    walk_at "gn"
    refine ⟨_, h2, h3, ?_⟩
    walk_at "gn"
    exact hq _ W s0
  | redoN h1 h2 h3 h4 =>
    walk_at "gn"
    refine getT_go e (d := .lst (made.map mvD)) (by rfl) ?_
    walk_at "gn"
    refine getT_go e (d := .lst (later.map mvD)) (by rfl) ?_
    walk_at "gn"
    refine inTp_go ["undo", "redo"] rfl ?_
    rw [show (false != decide (("redo" : Str) ∈ (["undo", "redo"] : List Str))) = true by decide +kernel]
    walk_at "gn"
    rw [List.length_map]
    refine isnum_ct h1 ?_
    walk_at "gn"
    refine ⟨_, h2, h3, ?_⟩
    walk_at "gn"
    exact hq _ W s0
  | @keep nm h1 =>
    walk_at "gn"
    refine getT_go e (d := .lst (made.map mvD)) (by rfl) ?_
    walk_at "gn"
    refine getT_go e (d := .lst (later.map mvD)) (by rfl) ?_
    walk_at "gn"
    refine inTp_go ["undo", "redo"] rfl ?_
    rw [show (false != decide (("keep" : Str) ∈ (["undo", "redo"] : List Str))) = false by decide +kernel]
    walk_at "gn"
    have nin : ∀ {Q : D → Mu → Prop}, Q (.bl false) μ → fNotInD (.str nm) (.lst [.str "m", .str "n", .str "abcdefgh"]) μ Q := fun {Q} hz => by
      rcases List.mem_cons.mp h1 with rfl | h1
      · exact nind_pl (by kernel_rfl) (by kernel_rfl) (by rw [show ([D.str "m", D.str "n", D.str "abcdefgh"].any fun d => deq d (.str "m")) = true by decide +kernel]; exact hz)
      rcases List.mem_cons.mp h1 with rfl | h1
      · exact nind_pl (by kernel_rfl) (by kernel_rfl) (by rw [show ([D.str "m", D.str "n", D.str "abcdefgh"].any fun d => deq d (.str "n")) = true by decide +kernel]; exact hz)
      rw [List.mem_singleton.mp h1]
      exact nind_pl (by kernel_rfl) (by kernel_rfl) (by rw [show ([D.str "m", D.str "n", D.str "abcdefgh"].any fun d => deq d (.str "abcdefgh")) = true by decide +kernel]; exact hz)
    refine nin ?_
    walk_at "gn"
    refine getT_go e (d := .loc kk) (by rfl) ?_
    walk_at "gn"
    refine putN_go ek (by omega) ?_
    rw [putTd_map (f := fun ms : List Mv => D.lst (ms.map mvD))]
    walk_at "gn"
    refine hq _ ⟨?_, List.getElem?_set_self (lt_of_at ek), W.ne⟩ fun n c e _ n2 => ?_
    · rw [List.getElem?_set_ne (Ne.symm W.ne)]
      exact W.e
    · rw [List.getElem?_set_ne (Ne.symm n2)]
      exact e
  | @keepN d p h1 h2 h3 h4 h5 =>
    walk_at "gn"
    refine getT_go e (d := .lst (made.map mvD)) (by rfl) ?_
    walk_at "gn"
    refine getT_go e (d := .lst (later.map mvD)) (by rfl) ?_
    walk_at "gn"
    refine inTp_go ["undo", "redo"] rfl ?_
    rw [show (false != decide (("keep" : Str) ∈ (["undo", "redo"] : List Str))) = false by decide +kernel]
    walk_at "gn"
    have nin : ∀ {Q : D → Mu → Prop}, Q (.bl true) μ → fNotInD d (.lst [.str "m", .str "n", .str "abcdefgh"]) μ Q := fun {Q} hq => by
      rcases List.mem_cons.mp h2 with rfl | h2
      · exact nind_pl (by kernel_rfl) (by kernel_rfl) (by rw [show ([D.str "m", D.str "n", D.str "abcdefgh"].any fun d => deq d (.str "M")) = false by decide +kernel]; exact hq)
      rcases List.mem_cons.mp h2 with rfl | h2
      · exact nind_pl (by kernel_rfl) (by kernel_rfl) (by rw [show ([D.str "m", D.str "n", D.str "abcdefgh"].any fun d => deq d .non) = false by decide +kernel]; exact hq)
      rcases List.mem_cons.mp h2 with rfl | h2
      · exact nind_pl (by kernel_rfl) (by kernel_rfl) (by rw [show ([D.str "m", D.str "n", D.str "abcdefgh"].any fun d => deq d (.str "")) = false by decide +kernel]; exact hq)
      rw [List.mem_singleton.mp h2]
      exact nind_pl (by kernel_rfl) (by kernel_rfl) (by rw [show ([D.str "m", D.str "n", D.str "abcdefgh"].any fun d => deq d (.str "abcdefghi")) = false by decide +kernel]; exact hq)
    refine nin ?_
    walk_at "gn"
    refine ⟨_, h3, h4, ?_⟩
    walk_at "gn"
    exact hq _ W s0
  | @turn nm mn h1 h2 h3 =>
    walk_at "gn"
    refine getT_go e (d := .lst (made.map mvD)) (by rfl) ?_
    walk_at "gn"
    refine getT_go e (d := .lst (later.map mvD)) (by rfl) ?_
    walk_at "gn"
    refine inTp_go ["undo", "redo"] rfl ?_
    rw [show (false != decide (("turn" : Str) ∈ (["undo", "redo"] : List Str))) = false by decide +kernel]
    walk_at "gn"
    refine getT_go e (d := .loc kk) (by rfl) ?_
    walk_at "gn"
    refine inU_str ek ?_
    rw [decide_eq_true h1]
    walk_at "gn"
    refine getT_go e (d := .loc kk) (by rfl) ?_
    walk_at "gn"
    refine getT_go (d := .lst (made'.map mvD)) ek (by rw [getTd_map, h2]; rfl) ?_
    walk_at "gn"
    refine wput_go (ln := []) W ?_
    walk_at "gn"
    refine getT_go (ks := ["pairs", "triples", "made", "later", "kept"]) (ds := [.lst (P.map pd), .lst (tr.map triD), .lst (made'.map mvD), .lst [], .loc kk]) ((wput_at W).1.e.trans rfl) (d := .lst (made'.map mvD)) (by rfl) ?_
    walk_at "gn"
    rw [List.length_map]
    exact hq _ (wput_at W).1 (wput_at W).2
  | turnN h1 h2 h3 h4 =>
    walk_at "gn"
    refine getT_go e (d := .lst (made.map mvD)) (by rfl) ?_
    walk_at "gn"
    refine getT_go e (d := .lst (later.map mvD)) (by rfl) ?_
    walk_at "gn"
    refine inTp_go ["undo", "redo"] rfl ?_
    rw [show (false != decide (("turn" : Str) ∈ (["undo", "redo"] : List Str))) = false by decide +kernel]
    walk_at "gn"
    refine getT_go e (d := .loc kk) (by rfl) ?_
    walk_at "gn"
    rcases h1 with rfl | ⟨s, rfl, hs⟩
    · refine inU_non ek ?_
      walk_at "gn"
      refine ⟨_, h2, h3, ?_⟩
      walk_at "gn"
      exact hq _ W s0
    · refine inU_str ek ?_
      rw [decide_eq_false hs]
      walk_at "gn"
      refine ⟨_, h2, h3, ?_⟩
      walk_at "gn"
      exact hq _ W s0
end
end K85

set_option Elab.async false
set_option linter.all false
set_option maxRecDepth 100000
set_option maxHeartbeats 4000000
set_option autoImplicit false
set_option exponentiation.threshold 3000
namespace K85
open PySem PySem.Spec PyProof.Rows L2 DL
local macro_rules
  | `(tactic| walk_at "dk") => `(tactic| try simp only [g_gen, r_newD, r_put0, r_kw, r_kw1, r_kw2, r_kw0, r_kw00, c_wi, c_en, c_en1, c_for, c_for1, c_lc, c_lc1, c_lof, c_lof1, c_ap, c_ap1, c_ap2, y_p2, y_p21, y_oo, y_fo, y_foq, y_of, y_of2, c_si, c_si1, c_si2, c_si3, c_lu1, c_lu2, c_lu3, z_fl, z_fl1, z_fl2, z_ps, z_ps1, z_ps2, z_ps3, z_eqT, z_cat, z_cat1, z_cat2, y_pop, y_pop1, y_pop2, y_lcC, y_lcR, y_callR, t_wis, t_wisa, t_dicL, t_kpt, t_kpt1, t_kpt2, t_slst, t_dic, t_put, t_put1, t_put2, t_put3, t_base, y_cell, y_rem, y_rem1, y_rem2, x_subO, x_subO1, x_subO2, v_slo, v_slo1, w_ff, w_ft, w_tf, w_tt, false_and, and_false, v_ix, v_ix1, v_ix2, v_inv, v_inv1, v_co, v_co1, v_co2, v_len, v_len1, isiD, tyD, clD, r_insobj, fldOf, DL.isNon, items_tup, items_lst, items_frl, hasCls, othTy, insD, DL.putK, DL.putD, initEnd, startI, startD, DL.wipeD, List.map_cons, List.map_nil, List.length_cons, List.length_nil, List.getElem?_cons_zero, List.getElem?_cons_succ, List.getElem?_nil, List.set_cons_zero, List.set_cons_succ, List.cons_append, List.nil_append, List.append_nil, List.replicate, Nat.sub_self, Nat.reduceSub, Nat.reduceAdd, Nat.reduceLeDiff, Nat.reduceEqDiff, Nat.reduceLT, Int.reduceLT, Int.reduceLE, if_true, if_false, Bool.not_true, Bool.not_false, reduceIte, reduceCtorEq, true_and, and_true, Nat.zero_add, Bool.true_eq_false, Bool.false_eq_true, eqU_int, eqU_str, eqU_bl, str_eq, str_beq, String.reduceEq, decide_true, decide_false, decide_eq_true_eq, pl_items, pl_st0, pl_st1, pl_fold, notOwn, List.mem_singleton, List.mem_cons, List.not_mem_nil, or_false, false_or, or_true, true_or, forall_eq, forall_eq_or_imp, implies_true, Int.reduceToNat, Int.reduceEq, Int.reduceNe, Int.reduceAdd, Int.reduceSub, Int.reduceMul, Int.reducePow, Int.reduceMod, Int.reduceDiv, atI_0, atI_1, atI_2, atI_3, rg1, rg2, startI, r_var, r_var2, r_c, r_w2, r_w2a, r_w2b, r_w1, r_w1a, r_wB, r_wBa, r_ch, r_ch1, r_ch2, r_ch3t, r_ch3f, r_and, r_andt, r_andf, r_or, r_ort, r_orf, r_not, r_nota, r_ife, r_ifet, r_ifef, r_andv, r_andvt, r_andvf, r_orv, r_orvt, r_orvf, r_notv, r_notva, r_nil, r_cons, r_cons1, r_cons2, r_tup, r_tupa, r_lst, r_lsta, r_lstc, r_lstca, r_wn, r_wna, r_call, r_calla, r_mk, r_mk1, r_mk2, r_mkc, r_mkc1, r_mkc2, r_me, r_me1, r_me2, r_bo, r_bo1, r_bo2, r_onone, r_osome, r_osomea, r_sl, r_sl1, r_sl2, r_sl3, r_sl3f, r_ii, r_ii0, r_ib, r_i1, r_plus, r_plusl, r_times, r_timesl, r_isn, r_notn, r_isb, r_notb, r_pm, r_pm1, DL.perm, z_neT, z_catT, r_eqd, r_ned, r_int1, r_int1b, r_max2, r_min2, r_abs, r_ix, r_ix2, r_ix3, r_len, r_len2, r_isi, r_isi2, r_fld, r_fld2, r_fld3, r_insobj, r_kx, r_next, r_never, r_seq, r_seqa, r_if, r_ift, r_iff, r_ret, r_retn, r_brk, r_cnt, r_drop, r_dropa, r_set, r_seta, r_asg, r_asga, r_name, r_namec, r_ktup, r_kunl, r_kcons, r_kcs, r_knil, r_par2, r_par2a, r_par3, r_par3a, r_aug, r_auga, r_augb, r_augc, r_for, r_fora, r_knx, r_fldo, r_fldoa, r_put, r_frz, r_frz2, r_frz3, r_frz4, r_cl, r_seto, r_setoa, r_wil, r_wila, r_wilf, r_wit, r_wita, r_wi1, r_wi1a, r_wi2, r_wi2a, r_wie, r_wiea, r_wiz, r_wiza, r_wizt, r_lc, r_lc0, r_lcn, r_lcc, r_lc1, r_lc2t, r_lc2f, r_lc3, r_yes, r_sub, r_sub1, r_sub2, r_sub3, r_dnx, r_drt, r_dxc, r_inx, r_init, r_ixc, t_raise, t_raise2, t_try, t_cat, t_catt, t_catf, t_sunx, t_surt, t_nx0, t_nx1, t_nx2, t_nx3, t_prop, t_prop2, t_xf, t_xf2, t_isx, t_isx2, t_wht, t_whf, t_equ, t_neu, t_el, List.reverse_cons, List.reverse_nil, isiDT, anyT, List.all_cons, List.all_nil, Option.isSome_some, Bool.and_true, Bool.true_and, u_lof, u_lof2, u_tof, u_tof2, u_isiT, u_dict, u_bl, u_ownN, u_has, u_hasN, u_bk, u_bk1, u_bk2, u_stat, u_ap, u_ap1, u_ap2, u_ex, u_ex1, u_ex2, u_ownL, u_olen, u_oix, u_oix1, u_oin, u_sumT, u_sumL, u_mu, u_mu1, u_hot, u_hot1, startX, u_mb, u_mb1, u_mb1f, u_mb2, u_rev, u_revf, u_wio, u_wex, u_wel, u_wef, u_wet, u_en, u_en0, u_enc, u_enn, Int.cast_ofNat_Int, u_wzx, u_wzl, u_wzt, u_wzm, u_zd, u_zd0, intsD, DL.intD, u_kd, isTy, Bool.true_xor, Bool.false_xor, eqU_pl, p_int, p_bl, p_non, p_tup, p_lst, p_frl, p0_int, p0_bl, p0_non, deq, deqs, Bool.and_true, Bool.and_false, Bool.false_and, List.contains_cons, List.contains_nil, Bool.or_false, Bool.false_or, Bool.or_self, eq_self, beq_self_eq_true, Bool.not_true, Bool.not_false, List.flatten_cons, List.flatten_nil, isi_0, isi_1, isi_2, isi_3, isi_4, isi_5, isi_6, isi_7, isi_8, isi_9, isi_10, isi_11, isi_12, isi_13, isi_14, isi_15, isi_16, isi_17, isi_18, isi_19, isi_20, isi_21, isi_22, isi_23, isi_24, isi_25, isi_26, isi_27, isi_28, isi_29, isi_30, isi_31, isi_32, isi_33, isi_34, isi_35, isi_36, isi_37, isi_38, isi_39, isi_40, isi_41, isi_42, isi_43, isi_44, isi_45, isi_46, isi_47, isi_48, isi_49, isi_50, isi_51, isi_52, isi_53, isi_54, isi_55, isi_56, isi_57, isi_58, isi_59, isi_60, isi_61, isi_62, isi_63, isi_64, isi_65, isi_66, isi_67, isi_68, isi_69, isi_70, isi_71, isi_72, isi_73, isi_74, isi_75, isi_76, isi_77, isi_78, isi_79, isi_80, isi_81, isi_82, isi_83, isi_84, isi_85, isi_86, isi_87, isi_88, isi_89])
local macro_rules
  | `(tactic| walk_at "ds") => `(tactic| try simp only [g_gen, r_newD, r_put0, r_kw, r_kw1, r_kw2, r_kw0, r_kw00, c_wi, c_en, c_en1, c_for, c_for1, c_lc, c_lc1, c_lof, c_lof1, c_ap, c_ap1, c_ap2, y_p2, y_p21, y_oo, y_fo, y_foq, y_of, y_of2, c_si, c_si1, c_si2, c_si3, c_lu1, c_lu2, c_lu3, z_fl, z_fl1, z_fl2, z_ps, z_ps1, z_ps2, z_ps3, z_eqT, z_cat, z_cat1, z_cat2, y_pop, y_pop1, y_pop2, y_lcC, y_lcR, y_callR, t_wis, t_wisa, t_dicL, t_kpt, t_kpt1, t_kpt2, t_slst, t_dic, t_put, t_put1, t_put2, t_put3, t_base, y_cell, y_rem, y_rem1, y_rem2, x_subO, x_subO1, x_subO2, v_slo, v_slo1, w_ff, w_ft, w_tf, w_tt, false_and, and_false, isClsU, v_ix, v_ix1, v_ix2, v_inv, v_inv1, v_co, v_co1, v_co2, v_len, v_len1, v_f2or, isiD, tyD, clD, r_insobj, fldOf, DL.isNon, items_tup, items_lst, items_frl, hasCls, isCls, othTy, insD, DL.putK, DL.putD, initEnd, startI, startD, DL.wipeD, List.map_cons, List.map_nil, List.length_cons, List.length_nil, List.getElem?_cons_zero, List.getElem?_cons_succ, List.getElem?_nil, List.set_cons_zero, List.set_cons_succ, List.cons_append, List.nil_append, List.append_nil, List.replicate, Nat.sub_self, Nat.reduceSub, Nat.reduceAdd, Nat.reduceLeDiff, Nat.reduceEqDiff, Nat.reduceLT, Int.reduceLT, Int.reduceLE, if_true, if_false, Bool.not_true, Bool.not_false, reduceIte, reduceCtorEq, true_and, and_true, Nat.zero_add, Bool.true_eq_false, Bool.false_eq_true, eqU_int, eqU_str, eqU_bl, str_eq, str_beq, String.reduceEq, decide_true, decide_false, decide_eq_true_eq, pl_items, pl_st0, pl_st1, pl_fold, notOwn, List.mem_singleton, List.mem_cons, List.not_mem_nil, or_false, false_or, or_true, true_or, forall_eq, forall_eq_or_imp, implies_true, Int.reduceToNat, Int.reduceEq, Int.reduceNe, Int.reduceAdd, Int.reduceSub, Int.reduceMul, Int.reducePow, Int.reduceMod, Int.reduceDiv, atI_0, atI_1, atI_2, atI_3, rg1, rg2, startI, r_var, r_var2, r_c, r_w2, r_w2a, r_w2b, r_w1, r_w1a, r_wB, r_wBa, r_ch, r_ch1, r_ch2, r_ch3t, r_ch3f, r_and, r_andt, r_andf, r_or, r_ort, r_orf, r_not, r_nota, r_ife, r_ifet, r_ifef, r_andv, r_andvt, r_andvf, r_orv, r_orvt, r_orvf, r_notv, r_notva, r_nil, r_cons, r_cons1, r_cons2, r_tup, r_tupa, r_lst, r_lsta, r_lstc, r_lstca, r_wn, r_wna, r_call, r_calla, r_mk, r_mk1, r_mk2, r_mkc, r_mkc1, r_mkc2, r_me, r_me1, r_me2, r_bo, r_bo1, r_bo2, r_onone, r_osome, r_osomea, r_sl, r_sl1, r_sl2, r_sl3, r_sl3f, r_ii, r_ii0, r_ib, r_i1, r_plus, r_plusl, r_times, r_timesl, r_isn, r_notn, r_isb, r_notb, r_pm, r_pm1, DL.perm, z_neT, z_catT, r_eqd, r_ned, r_int1, r_int1b, r_max2, r_min2, r_abs, r_ix, r_ix2, r_ix3, r_len, r_len2, r_isi, r_isi2, r_fld, r_fld2, r_fld3, r_insobj, r_kx, r_next, r_never, r_seqa, r_if, r_ift, r_iff, r_ret, r_retn, r_brk, r_cnt, r_drop, r_dropa, r_set, r_seta, r_asg, r_asga, r_name, r_namec, r_ktup, r_kunl, r_kcons, r_kcs, r_knil, r_par2, r_par2a, r_par3, r_par3a, r_aug, r_auga, r_augb, r_augc, r_for, r_fora, r_knx, r_fldo, r_fldoa, r_put, r_frz, r_frz2, r_frz3, r_frz4, r_cl, r_seto, r_setoa, r_wil, r_wila, r_wilf, r_wit, r_wita, r_wi1, r_wi1a, r_wi2, r_wi2a, r_wie, r_wiea, r_wiz, r_wiza, r_wizt, r_lc, r_lc0, r_lcn, r_lcc, r_lc1, r_lc2t, r_lc2f, r_lc3, r_yes, r_sub, r_sub1, r_sub2, r_sub3, r_dnx, r_drt, r_dxc, r_inx, r_init, r_ixc, t_raise, t_raise2, t_try, t_cat, t_catt, t_catf, t_sunx, t_surt, t_nx0, t_nx1, t_nx2, t_nx3, t_prop, t_prop2, t_xf, t_xf2, t_isx, t_isx2, t_wht, t_whf, t_equ, t_neu, t_el, List.reverse_cons, List.reverse_nil, isiDT, anyT, List.all_cons, List.all_nil, Option.isSome_some, Bool.and_true, Bool.true_and, u_lof, u_lof2, u_tof, u_tof2, u_isiT, u_dict, u_bl, u_own, u_ownN, u_has, u_hasN, u_bk, u_bk1, u_bk2, u_stat, u_ap, u_ap1, u_ap2, u_ex, u_ex1, u_ex2, u_ownL, u_olen, u_oix, u_oix1, u_oin, u_sumT, u_sumL, u_mu, u_mu1, u_hot, u_hot1, startX, u_mb, u_mb1, u_mb1f, u_mb2, u_rev, u_revf, u_wio, u_wex, u_wel, u_wef, u_wet, u_en, u_en0, u_enc, u_enn, Int.cast_ofNat_Int, u_wzx, u_wzl, u_wzt, u_wzm, u_zd, u_zd0, intsD, DL.intD, u_kd, othC, isTy, Bool.true_xor, Bool.false_xor, eqU_pl, p_int, p_bl, p_non, p_tup, p_lst, p_frl, p0_int, p0_bl, p0_non, deq, deqs, Bool.and_true, Bool.and_false, Bool.false_and, List.contains_cons, List.contains_nil, Bool.or_false, Bool.false_or, Bool.or_self, eq_self, beq_self_eq_true, Bool.not_true, Bool.not_false, List.flatten_cons, List.flatten_nil, isi_0, isi_1, isi_2, isi_3, isi_4, isi_5, isi_6, isi_7, isi_8, isi_9, isi_10, isi_11, isi_12, isi_13, isi_14, isi_15, isi_16, isi_17, isi_18, isi_19, isi_20, isi_21, isi_22, isi_23, isi_24, isi_25, isi_26, isi_27, isi_28, isi_29, isi_30, isi_31, isi_32, isi_33, isi_34, isi_35, isi_36, isi_37, isi_38, isi_39, isi_40, isi_41, isi_42, isi_43, isi_44, isi_45, isi_46, isi_47, isi_48, isi_49, isi_50, isi_51, isi_52, isi_53, isi_54, isi_55, isi_56, isi_57, isi_58, isi_59, isi_60, isi_61, isi_62, isi_63, isi_64, isi_65, isi_66, isi_67, isi_68, isi_69, isi_70, isi_71, isi_72, isi_73, isi_74, isi_75, isi_76, isi_77, isi_78, isi_79, isi_80, isi_81, isi_82, isi_83, isi_84, isi_85, isi_86, isi_87, isi_88, isi_89])
local macro_rules
  | `(tactic| walk_at "dn") => `(tactic| try simp only [g_gen, r_newD, r_put0, r_kw, r_kw1, r_kw2, r_kw0, r_kw00, c_wi, c_en, c_en1, c_for, c_for1, c_lc, c_lc1, c_lof, c_lof1, c_ap, c_ap1, c_ap2, y_p2, y_p21, y_oo, y_fo, y_foq, y_of, y_of2, c_si, c_si1, c_si2, c_si3, c_lu1, c_lu2, c_lu3, z_fl, z_fl1, z_fl2, z_ps, z_ps1, z_ps2, z_ps3, z_eqT, z_cat, z_cat1, z_cat2, y_pop, y_pop1, y_pop2, y_lcC, y_lcR, y_callR, t_wis, t_wisa, t_dicL, t_kpt, t_kpt1, t_kpt2, t_slst, t_dic, t_put, t_put1, t_put2, t_put3, t_base, y_cell, y_rem, y_rem1, y_rem2, x_subO, x_subO1, x_subO2, v_slo, v_slo1, w_ff, w_ft, w_tf, w_tt, false_and, and_false, isClsU, v_ix, v_ix1, v_ix2, v_inv, v_inv1, v_co, v_co1, v_co2, v_len, v_len1, v_f2or, isiD, tyD, clD, r_insobj, fldOf, DL.isNon, items_tup, items_lst, items_frl, hasCls, isCls, othTy, insD, DL.putK, DL.putD, initEnd, startI, startD, DL.wipeD, List.map_cons, List.map_nil, List.length_cons, List.length_nil, List.getElem?_cons_zero, List.getElem?_cons_succ, List.getElem?_nil, List.set_cons_zero, List.set_cons_succ, List.cons_append, List.nil_append, List.append_nil, List.replicate, Nat.sub_self, Nat.reduceSub, Nat.reduceAdd, Nat.reduceLeDiff, Nat.reduceEqDiff, Nat.reduceLT, Int.reduceLT, Int.reduceLE, if_true, if_false, Bool.not_true, Bool.not_false, reduceIte, reduceCtorEq, true_and, and_true, Nat.zero_add, Bool.true_eq_false, Bool.false_eq_true, eqU_int, eqU_str, eqU_bl, str_eq, str_beq, String.reduceEq, decide_true, decide_false, decide_eq_true_eq, pl_items, pl_st0, pl_st1, pl_fold, notOwn, List.mem_singleton, List.mem_cons, List.not_mem_nil, or_false, false_or, or_true, true_or, forall_eq, forall_eq_or_imp, implies_true, Int.reduceToNat, Int.reduceEq, Int.reduceNe, Int.reduceAdd, Int.reduceSub, Int.reduceMul, Int.reducePow, Int.reduceMod, Int.reduceDiv, atI_0, atI_1, atI_2, atI_3, rg1, rg2, startI, r_var, r_var2, r_c, r_w2, r_w2a, r_w2b, r_w1, r_w1a, r_wB, r_wBa, r_ch, r_ch1, r_ch2, r_ch3t, r_ch3f, r_and, r_andt, r_andf, r_or, r_ort, r_orf, r_not, r_nota, r_ife, r_ifet, r_ifef, r_andv, r_andvt, r_andvf, r_orv, r_orvt, r_orvf, r_notv, r_notva, r_nil, r_cons, r_cons1, r_cons2, r_tup, r_tupa, r_lst, r_lsta, r_lstc, r_lstca, r_wn, r_wna, r_call, r_calla, r_mk, r_mk1, r_mk2, r_mkc, r_mkc1, r_mkc2, r_me, r_me1, r_me2, r_bo, r_bo1, r_bo2, r_onone, r_osome, r_osomea, r_sl, r_sl1, r_sl2, r_sl3, r_sl3f, r_ii, r_ii0, r_ib, r_i1, r_plus, r_plusl, r_times, r_timesl, r_isn, r_notn, r_isb, r_notb, r_pm, r_pm1, DL.perm, z_neT, z_catT, r_eqd, r_ned, r_int1, r_int1b, r_max2, r_min2, r_abs, r_ix, r_ix2, r_ix3, r_len, r_len2, r_isi, r_isi2, r_fld, r_fld2, r_fld3, r_insobj, r_kx, r_next, r_never, r_seq, r_seqa, r_if, r_ift, r_iff, r_ret, r_retn, r_brk, r_cnt, r_drop, r_dropa, r_set, r_seta, r_asg, r_asga, r_name, r_namec, r_ktup, r_kunl, r_kcons, r_kcs, r_knil, r_par2, r_par2a, r_par3, r_par3a, r_aug, r_auga, r_augb, r_augc, r_for, r_fora, r_knx, r_fldo, r_fldoa, r_put, r_frz, r_frz2, r_frz3, r_frz4, r_cl, r_seto, r_setoa, r_wil, r_wila, r_wilf, r_wit, r_wita, r_wi1, r_wi1a, r_wi2, r_wi2a, r_wie, r_wiea, r_wiz, r_wiza, r_wizt, r_lc, r_lc0, r_lcn, r_lcc, r_lc1, r_lc2t, r_lc2f, r_lc3, r_yes, r_sub, r_sub1, r_sub2, r_sub3, r_dnx, r_drt, r_dxc, r_inx, r_init, r_ixc, t_raise, t_raise2, t_try, t_cat, t_catt, t_catf, t_sunx, t_surt, t_nx0, t_nx1, t_nx2, t_nx3, t_prop, t_prop2, t_xf, t_xf2, t_isx, t_isx2, t_wht, t_whf, t_equ, t_neu, t_el, List.reverse_cons, List.reverse_nil, isiDT, anyT, List.all_cons, List.all_nil, Option.isSome_some, Bool.and_true, Bool.true_and, u_lof, u_lof2, u_tof, u_tof2, u_isiT, u_dict, u_bl, u_own, u_ownN, u_has, u_hasN, u_bk, u_bk1, u_bk2, u_stat, u_ap, u_ap1, u_ap2, u_ex, u_ex1, u_ex2, u_ownL, u_olen, u_oix, u_oix1, u_oin, u_sumT, u_sumL, u_mu, u_mu1, u_hot, u_hot1, startX, u_mb, u_mb1, u_mb1f, u_mb2, u_rev, u_revf, u_wio, u_wex, u_wel, u_wef, u_wet, u_en, u_en0, u_enc, u_enn, Int.cast_ofNat_Int, u_wzx, u_wzl, u_wzt, u_wzm, u_zd, u_zd0, intsD, DL.intD, u_kd, othC, isTy, Bool.true_xor, Bool.false_xor, eqU_pl, p_int, p_bl, p_non, p_tup, p_lst, p_frl, p0_int, p0_bl, p0_non, deq, deqs, Bool.and_true, Bool.and_false, Bool.false_and, List.contains_cons, List.contains_nil, Bool.or_false, Bool.false_or, Bool.or_self, eq_self, beq_self_eq_true, Bool.not_true, Bool.not_false, List.flatten_cons, List.flatten_nil, isi_0, isi_1, isi_2, isi_3, isi_4, isi_5, isi_6, isi_7, isi_8, isi_9, isi_10, isi_11, isi_12, isi_13, isi_14, isi_15, isi_16, isi_17, isi_18, isi_19, isi_20, isi_21, isi_22, isi_23, isi_24, isi_25, isi_26, isi_27, isi_28, isi_29, isi_30, isi_31, isi_32, isi_33, isi_34, isi_35, isi_36, isi_37, isi_38, isi_39, isi_40, isi_41, isi_42, isi_43, isi_44, isi_45, isi_46, isi_47, isi_48, isi_49, isi_50, isi_51, isi_52, isi_53, isi_54, isi_55, isi_56, isi_57, isi_58, isi_59, isi_60, isi_61, isi_62, isi_63, isi_64, isi_65, isi_66, isi_67, isi_68, isi_69, isi_70, isi_71, isi_72, isi_73, isi_74, isi_75, isi_76, isi_77, isi_78, isi_79, isi_80, isi_81, isi_82, isi_83, isi_84, isi_85, isi_86, isi_87, isi_88, isi_89])
local macro_rules
  | `(tactic| walk_at "dl1") => `(tactic| simp only [g_gen, r_newD, r_put0, r_kw, r_kw1, r_kw2, r_kw0, r_kw00, c_wi, c_en, c_en1, c_for, c_for1, c_lc, c_lc1, c_lof, c_lof1, c_ap, c_ap1, c_ap2, y_p2, y_p21, y_oo, y_fo, y_foq, y_of, y_of2, c_si, c_si1, c_si2, c_si3, c_lu1, c_lu2, c_lu3, z_fl, z_fl1, z_fl2, z_ps, z_ps1, z_ps2, z_ps3, z_eqT, z_cat, z_cat1, z_cat2, y_pop, y_pop1, y_pop2, y_lcC, y_lcR, y_callR, t_wis, t_wisa, t_dicL, t_kpt, t_kpt1, t_kpt2, t_slst, t_dic, t_put, t_put1, t_put2, t_put3, t_base, y_cell, y_rem, y_rem1, y_rem2, x_subO, x_subO1, x_subO2, v_slo, v_slo1, w_ff, w_ft, w_tf, w_tt, false_and, and_false, isClsU, v_ix, v_ix1, v_ix2, v_inv, v_inv1, v_co, v_co1, v_co2, v_len, v_len1, v_f2or, isiD, tyD, clD, r_insobj, fldOf, DL.isNon, items_tup, items_lst, items_frl, hasCls, isCls, othTy, insD, DL.putK, DL.putD, initEnd, startI, startD, DL.wipeD, List.map_cons, List.map_nil, List.length_cons, List.length_nil, List.getElem?_cons_zero, List.getElem?_cons_succ, List.getElem?_nil, List.set_cons_zero, List.set_cons_succ, List.cons_append, List.nil_append, List.append_nil, List.replicate, Nat.sub_self, Nat.reduceSub, Nat.reduceAdd, Nat.reduceLeDiff, Nat.reduceEqDiff, Nat.reduceLT, Int.reduceLT, Int.reduceLE, if_true, if_false, Bool.not_true, Bool.not_false, reduceIte, reduceCtorEq, true_and, and_true, Nat.zero_add, Bool.true_eq_false, Bool.false_eq_true, eqU_int, eqU_str, eqU_bl, str_eq, str_beq, String.reduceEq, decide_true, decide_false, decide_eq_true_eq, pl_items, pl_st0, pl_st1, pl_fold, notOwn, List.mem_singleton, List.mem_cons, List.not_mem_nil, or_false, false_or, or_true, true_or, forall_eq, forall_eq_or_imp, implies_true, range_succ, range_zero, Int.reduceToNat, Int.reduceEq, Int.reduceNe, Int.reduceAdd, Int.reduceSub, Int.reduceMul, Int.reducePow, Int.reduceMod, Int.reduceDiv, atI_0, atI_1, atI_2, atI_3, rg1, rg2, startI, r_var, r_var2, r_c, r_w2, r_w2a, r_w2b, r_w1, r_w1a, r_wB, r_wBa, r_ch, r_ch1, r_ch2, r_ch3t, r_ch3f, r_and, r_andt, r_andf, r_or, r_ort, r_orf, r_not, r_nota, r_ife, r_ifet, r_ifef, r_andv, r_andvt, r_andvf, r_orv, r_orvt, r_orvf, r_notv, r_notva, r_nil, r_cons, r_cons1, r_cons2, r_tup, r_tupa, r_lst, r_lsta, r_lstc, r_lstca, r_wn, r_wna, r_call, r_calla, r_mk, r_mk1, r_mk2, r_mkc, r_mkc1, r_mkc2, r_me, r_me1, r_me2, r_bo, r_bo1, r_bo2, r_onone, r_osome, r_osomea, r_sl, r_sl1, r_sl2, r_sl3, r_sl3f, r_ii, r_ii0, r_ib, r_i1, r_plus, r_plusl, r_times, r_timesl, r_isn, r_notn, r_isb, r_notb, r_pm, r_pm1, DL.perm, z_neT, z_catT, r_eqd, r_ned, r_int1, r_int1b, r_max2, r_min2, r_abs, r_ix, r_ix2, r_ix3, r_len, r_len2, r_isi, r_isi2, r_fld, r_fld2, r_fld3, r_insobj, r_kx, r_next, r_never, r_seq, r_seqa, r_if, r_ift, r_iff, r_ret, r_retn, r_brk, r_cnt, r_drop, r_dropa, r_set, r_seta, r_asg, r_asga, r_name, r_namec, r_ktup, r_kunl, r_kcons, r_kcs, r_knil, r_par2, r_par2a, r_par3, r_par3a, r_aug, r_auga, r_augb, r_augc, r_for, r_fora, r_knx, r_fldo, r_fldoa, r_put, r_frz, r_frz2, r_frz3, r_frz4, r_cl, r_seto, r_setoa, r_wil, r_wila, r_wilf, r_wit, r_wita, r_wi1, r_wi1a, r_wi2, r_wi2a, r_wie, r_wiea, r_wiz, r_wiza, r_wizt, r_lc, r_lc0, r_lcn, r_lcc, r_lc1, r_lc2t, r_lc2f, r_lc3, r_yes, r_sub, r_sub1, r_sub2, r_sub3, r_dnx, r_drt, r_dxc, r_inx, r_init, r_ixc, t_raise, t_raise2, t_try, t_cat, t_catt, t_catf, t_sunx, t_surt, t_nx0, t_nx1, t_nx2, t_nx3, t_prop, t_prop2, t_xf, t_xf2, t_isx, t_isx2, t_wht, t_whf, t_equ, t_neu, t_el, List.reverse_cons, List.reverse_nil, isiDT, anyT, List.all_cons, List.all_nil, Option.isSome_some, Bool.and_true, Bool.true_and, u_lof, u_lof2, u_tof, u_tof2, u_isiT, u_dict, u_bl, u_own, u_ownN, u_has, u_hasN, u_bk, u_bk1, u_bk2, u_stat, u_ap, u_ap1, u_ap2, u_ex, u_ex1, u_ex2, u_ownL, u_olen, u_oix, u_oix1, u_oin, u_sumT, u_sumL, u_mu, u_mu1, u_hot, u_hot1, startX, u_mb, u_mb1, u_mb1f, u_mb2, u_rev, u_revf, u_wio, u_wex, u_wel, u_wef, u_wet, u_en, u_en0, u_enc, u_enn, Int.cast_ofNat_Int, u_wzx, u_wzl, u_wzt, u_wzm, u_zd, u_zd0, intsD, DL.intD, u_kd, othC, isTy, Bool.true_xor, Bool.false_xor, eqU_pl, p_int, p_bl, p_non, p_tup, p_lst, p_frl, p0_int, p0_bl, p0_non, deq, deqs, Bool.and_true, Bool.and_false, Bool.false_and, List.contains_cons, List.contains_nil, Bool.or_false, Bool.false_or, Bool.or_self, eq_self, beq_self_eq_true, Bool.not_true, Bool.not_false, List.flatten_cons, List.flatten_nil, isi_0, isi_1, isi_2, isi_3, isi_4, isi_5, isi_6, isi_7, isi_8, isi_9, isi_10, isi_11, isi_12, isi_13, isi_14, isi_15, isi_16, isi_17, isi_18, isi_19, isi_20, isi_21, isi_22, isi_23, isi_24, isi_25, isi_26, isi_27, isi_28, isi_29, isi_30, isi_31, isi_32, isi_33, isi_34, isi_35, isi_36, isi_37, isi_38, isi_39, isi_40, isi_41, isi_42, isi_43, isi_44, isi_45, isi_46, isi_47, isi_48, isi_49, isi_50, isi_51, isi_52, isi_53, isi_54, isi_55, isi_56, isi_57, isi_58, isi_59, isi_60, isi_61, isi_62, isi_63, isi_64, isi_65, isi_66, isi_67, isi_68, isi_69, isi_70, isi_71, isi_72, isi_73, isi_74, isi_75, isi_76, isi_77, isi_78, isi_79, isi_80, isi_81, isi_82, isi_83, isi_84, isi_85, isi_86, isi_87, isi_88, isi_89])
local macro_rules
  | `(tactic| walk_at "dl") => `(tactic| try simp only [g_gen, r_newD, r_put0, r_kw, r_kw1, r_kw2, r_kw0, r_kw00, c_wi, c_en, c_en1, c_for, c_for1, c_lc, c_lc1, c_lof, c_lof1, c_ap, c_ap1, c_ap2, y_p2, y_p21, y_oo, y_fo, y_foq, y_of, y_of2, c_si, c_si1, c_si2, c_si3, c_lu1, c_lu2, c_lu3, z_fl, z_fl1, z_fl2, z_ps, z_ps1, z_ps2, z_ps3, z_eqT, z_cat, z_cat1, z_cat2, y_pop, y_pop1, y_pop2, y_lcC, y_lcR, y_callR, t_wis, t_wisa, t_dicL, t_kpt, t_kpt1, t_kpt2, t_slst, t_dic, t_put, t_put1, t_put2, t_put3, t_base, y_cell, y_rem, y_rem1, y_rem2, x_subO, x_subO1, x_subO2, v_slo, v_slo1, w_ff, w_ft, w_tf, w_tt, false_and, and_false, isClsU, v_ix, v_ix1, v_ix2, v_inv, v_inv1, v_co, v_co1, v_co2, v_len, v_len1, v_f2or, isiD, tyD, clD, r_insobj, fldOf, DL.isNon, items_tup, items_lst, items_frl, hasCls, isCls, othTy, insD, DL.putK, DL.putD, initEnd, startI, startD, DL.wipeD, List.map_cons, List.map_nil, List.length_cons, List.length_nil, List.getElem?_cons_zero, List.getElem?_cons_succ, List.getElem?_nil, List.set_cons_zero, List.set_cons_succ, List.cons_append, List.nil_append, List.append_nil, List.replicate, Nat.sub_self, Nat.reduceSub, Nat.reduceAdd, Nat.reduceLeDiff, Nat.reduceEqDiff, Nat.reduceLT, Int.reduceLT, Int.reduceLE, if_true, if_false, Bool.not_true, Bool.not_false, reduceIte, reduceCtorEq, true_and, and_true, Nat.zero_add, Bool.true_eq_false, Bool.false_eq_true, eqU_int, eqU_str, eqU_bl, str_eq, str_beq, String.reduceEq, decide_true, decide_false, decide_eq_true_eq, pl_items, pl_st0, pl_st1, pl_fold, notOwn, List.mem_singleton, List.mem_cons, List.not_mem_nil, or_false, false_or, or_true, true_or, forall_eq, forall_eq_or_imp, implies_true, range_succ, range_zero, Int.reduceToNat, Int.reduceEq, Int.reduceNe, Int.reduceAdd, Int.reduceSub, Int.reduceMul, Int.reducePow, Int.reduceMod, Int.reduceDiv, atI_0, atI_1, atI_2, atI_3, rg1, rg2, startI, r_var, r_var2, r_c, r_w2, r_w2a, r_w2b, r_w1, r_w1a, r_wB, r_wBa, r_ch, r_ch1, r_ch2, r_ch3t, r_ch3f, r_and, r_andt, r_andf, r_or, r_ort, r_orf, r_not, r_nota, r_ife, r_ifet, r_ifef, r_andv, r_andvt, r_andvf, r_orv, r_orvt, r_orvf, r_notv, r_notva, r_nil, r_cons, r_cons1, r_cons2, r_tup, r_tupa, r_lst, r_lsta, r_lstc, r_lstca, r_wn, r_wna, r_call, r_calla, r_mk, r_mk1, r_mk2, r_mkc, r_mkc1, r_mkc2, r_me, r_me1, r_me2, r_bo, r_bo1, r_bo2, r_onone, r_osome, r_osomea, r_sl, r_sl1, r_sl2, r_sl3, r_sl3f, r_ii, r_ii0, r_ib, r_i1, r_plus, r_plusl, r_times, r_timesl, r_isn, r_notn, r_isb, r_notb, r_pm, r_pm1, DL.perm, z_neT, z_catT, r_eqd, r_ned, r_int1, r_int1b, r_max2, r_min2, r_abs, r_ix, r_ix2, r_ix3, r_len, r_len2, r_isi, r_isi2, r_fld, r_fld2, r_fld3, r_insobj, r_kx, r_next, r_never, r_seq, r_seqa, r_if, r_ift, r_iff, r_ret, r_retn, r_brk, r_cnt, r_drop, r_dropa, r_set, r_seta, r_asg, r_asga, r_name, r_namec, r_ktup, r_kunl, r_kcons, r_kcs, r_knil, r_par2, r_par2a, r_par3, r_par3a, r_aug, r_auga, r_augb, r_augc, r_for, r_fora, r_knx, r_fldo, r_fldoa, r_put, r_frz, r_frz2, r_frz3, r_frz4, r_cl, r_seto, r_setoa, r_wil, r_wila, r_wilf, r_wit, r_wita, r_wi1, r_wi1a, r_wi2, r_wi2a, r_wie, r_wiea, r_wiz, r_wiza, r_wizt, r_lc, r_lc0, r_lcn, r_lcc, r_lc1, r_lc2t, r_lc2f, r_lc3, r_yes, r_sub, r_sub1, r_sub2, r_sub3, r_dnx, r_drt, r_dxc, r_inx, r_init, r_ixc, t_raise, t_raise2, t_try, t_cat, t_catt, t_catf, t_sunx, t_surt, t_nx0, t_nx1, t_nx2, t_nx3, t_prop, t_prop2, t_xf, t_xf2, t_isx, t_isx2, t_wht, t_whf, t_equ, t_neu, t_el, List.reverse_cons, List.reverse_nil, isiDT, anyT, List.all_cons, List.all_nil, Option.isSome_some, Bool.and_true, Bool.true_and, u_lof, u_lof2, u_tof, u_tof2, u_isiT, u_dict, u_bl, u_own, u_ownN, u_has, u_hasN, u_bk, u_bk1, u_bk2, u_stat, u_ap, u_ap1, u_ap2, u_ex, u_ex1, u_ex2, u_ownL, u_olen, u_oix, u_oix1, u_oin, u_sumT, u_sumL, u_mu, u_mu1, u_hot, u_hot1, startX, u_mb, u_mb1, u_mb1f, u_mb2, u_rev, u_revf, u_wio, u_wex, u_wel, u_wef, u_wet, u_en, u_en0, u_enc, u_enn, Int.cast_ofNat_Int, u_wzx, u_wzl, u_wzt, u_wzm, u_zd, u_zd0, intsD, DL.intD, u_kd, othC, isTy, Bool.true_xor, Bool.false_xor, eqU_pl, p_int, p_bl, p_non, p_tup, p_lst, p_frl, p0_int, p0_bl, p0_non, deq, deqs, Bool.and_true, Bool.and_false, Bool.false_and, List.contains_cons, List.contains_nil, Bool.or_false, Bool.false_or, Bool.or_self, eq_self, beq_self_eq_true, Bool.not_true, Bool.not_false, List.flatten_cons, List.flatten_nil, isi_0, isi_1, isi_2, isi_3, isi_4, isi_5, isi_6, isi_7, isi_8, isi_9, isi_10, isi_11, isi_12, isi_13, isi_14, isi_15, isi_16, isi_17, isi_18, isi_19, isi_20, isi_21, isi_22, isi_23, isi_24, isi_25, isi_26, isi_27, isi_28, isi_29, isi_30, isi_31, isi_32, isi_33, isi_34, isi_35, isi_36, isi_37, isi_38, isi_39, isi_40, isi_41, isi_42, isi_43, isi_44, isi_45, isi_46, isi_47, isi_48, isi_49, isi_50, isi_51, isi_52, isi_53, isi_54, isi_55, isi_56, isi_57, isi_58, isi_59, isi_60, isi_61, isi_62, isi_63, isi_64, isi_65, isi_66, isi_67, isi_68, isi_69, isi_70, isi_71, isi_72, isi_73, isi_74, isi_75, isi_76, isi_77, isi_78, isi_79, isi_80, isi_81, isi_82, isi_83, isi_84, isi_85, isi_86, isi_87, isi_88, isi_89])
local macro_rules
  | `(tactic| walk_at "cm") => `(tactic| first | exact .inl (.inr ⟨by omega, by omega⟩) | exact .inl (.inl ⟨by omega, by omega⟩) | exact cm_bd (by unfold Bd; omega) (by unfold Bd; omega))
local macro_rules
  | `(tactic| walk_at "cs") => `(tactic| repeat ((with_reducible refine And.intro ?_ ?_); (· first | decide | (walk_at "cm") | exact ⟨by decide, by decide, by decide⟩ | omega)))
local macro_rules
  | `(tactic| walk_at "go") => `(tactic| (walk_at "dl"; walk_at "cs"))
local macro_rules
  | `(tactic| walk_at "gn") => `(tactic| (walk_at "dn"; walk_at "cs"))
section
variable {Q : D → Mu → Prop} {Xd : XD} {μ : Mu}
theorem isN_app {d : D} {ps : List SA.P} {tr : List T3i} {l : Mu} (h : IsN μ d ps tr) : IsN (μ ++ l) d ps tr := by
  rcases h with h | ⟨n, h, e⟩
  · exact .inl h
  · refine .inr ⟨n, h, ?_⟩
    rw [List.getElem?_append_left (lt_of_at e)]
    exact e
theorem hinitA_ev {Q : List Str → List D → Mu → Prop} {d : D} {ps : List SA.P} {tr : List T3i} (hd : IsN μ d ps tr) (k : NOk ps tr) (h : Q ["kept_moves", "begin", "now", "made", "later"] [.loc μ.length, netD ps tr, netD ps tr, .lst [], .lst []] (μ ++ [.dic [] []])) : sp_History_init [d] μ Q Xd := by
  unfold sp_History_init w_History_init
  refine ⟨rfl, fun a => ?_⟩
  walk_at "dl"
  refine base_go rfl ?_
  refine kinit_ev ?_
  walk_at "dl"
  refine hasN_go (isN_app hd) rfl ?_
  refine twin_ev (isN_app hd) k.l1 k.l2 k.ok ?_
  walk_at "dl"
  refine hasN_go (isN_app hd) rfl ?_
  refine twin_ev (isN_app hd) k.l1 k.l2 k.ok ?_
  walk_at "dl"
  exact h
theorem deq_mvD (a b : Mv) : deq (mvD a) (mvD b) = decide (a = b) := by
  obtain ⟨i, u⟩ := a
  obtain ⟨j, v⟩ := b
  have h : deq (mvD (i, u)) (mvD (j, v)) = (decide (((i : Nat) : Int) = (j : Nat)) && deq (pd u) (pd v)) := by
    simp [mvD, deq, deqs]
  rw [h, deq_pd]
  simp only [Prod.mk.injEq, Bool.decide_and]
  congr 1
  exact decide_eq_decide.mpr (by omega)
theorem P5_mvs (ms : List Mv) : P5 (.lst (ms.map mvD)) = true := all_map (p := Pn (Pn (Pn (Pn P0)))) fun m => rfl
theorem P5_pl (ps : List SA.P) : P5 (.lst (ps.map pd)) = true := all_map (p := Pn (Pn (Pn (Pn P0)))) fun m => rfl
theorem P5_tr (ts : List T3i) : P5 (.lst (ts.map triD)) = true := all_map (p := Pn (Pn (Pn (Pn P0)))) fun m => rfl
theorem P5_st {ts : List Str} (h : ∀ t ∈ ts, PyData.strOk t = true) : P5 (.lst (ts.map D.str)) = true := by
  show ((ts.map D.str).all (Pn (Pn (Pn (Pn P0))))) = true
  rw [List.all_map, List.all_eq_true]
  exact h
theorem eq_strs {ts : List Str} {K : Bool → Prop} (hs : ∀ t ∈ ts, PyData.strOk t = true) (h : K true) : eqU (.lst (ts.map D.str)) (.lst (ts.map D.str)) K := eq_selfD (P5_st hs) (by rw [show deq (.lst (ts.map D.str)) (.lst (ts.map D.str)) = decide (ts = ts) from by rw [deq]; exact deqs_map (fun a b => by rw [deq]) _ _]; exact decide_eq_true rfl) h
theorem eq_mvs {ms : List Mv} {K : Bool → Prop} (h : K true) : eqU (.lst (ms.map mvD)) (.lst (ms.map mvD)) K := eq_selfD (P5_mvs ms) (by rw [show deq (.lst (ms.map mvD)) (.lst (ms.map mvD)) = decide (ms = ms) from by rw [deq]; exact deqs_map deq_mvD _ _]; exact decide_eq_true rfl) h
theorem eq_pls {ps : List SA.P} {K : Bool → Prop} (h : K true) : eqU (.lst (ps.map pd)) (.lst (ps.map pd)) K := eq_selfD (P5_pl ps) (by rw [show deq (.lst (ps.map pd)) (.lst (ps.map pd)) = decide (ps = ps) from by rw [deq]; exact deqs_map deq_pd _ _]; exact decide_eq_true rfl) h
theorem eq_trs {ts : List T3i} {K : Bool → Prop} (h : K true) : eqU (.lst (ts.map triD)) (.lst (ts.map triD)) K := eq_selfD (P5_tr ts) (by rw [show deq (.lst (ts.map triD)) (.lst (ts.map triD)) = decide (ts = ts) from by rw [deq]; exact deqs_map deq_triD _ _]; exact decide_eq_true rfl) h
theorem npts_ev {d : D} {ps : List SA.P} {tr : List T3i} (hd : IsN μ d ps tr) (hl : ps.length ≤ 100) (h : Q (.lst (ps.map ptd)) μ) : sp_Net_points [d] μ Q Xd := by
  unfold sp_Net_points w_Net_points
  rcases hd with rfl | ⟨n, rfl, en⟩
  · unfold netD
    walk_at "gn"
    refine lc_mp (α := SA.P) (f := pd) (l := ps) ptd (fun p hp ds acc hacc hK => ?_) (by omega) ?_
    · walk_at "gn"
      refine pof_ev ?_
      walk_at "gn"
      exact hK
    walk_at "gn"
    exact h
  · unfold netC at en
    walk_at "gn"
    simp only [en]
    walk_at "gn"
    refine lc_mp (α := SA.P) (f := pd) (l := ps) ptd (fun p hp ds acc hacc hK => ?_) (by omega) ?_
    · walk_at "gn"
      refine pof_ev ?_
      walk_at "gn"
      exact hK
    walk_at "gn"
    exact h
theorem ntri_ev {d : D} {ps : List SA.P} {tr : List T3i} (hd : IsN μ d ps tr) (h : Q (.lst (tr.map triD)) μ) : sp_Net_triples [d] μ Q Xd := by
  unfold sp_Net_triples w_Net_triples
  rcases hd with rfl | ⟨n, rfl, en⟩
  · unfold netD
    walk_at "gn"
    exact h
  · unfold netC at en
    walk_at "gn"
    simp only [en]
    walk_at "gn"
    exact h
theorem lpts_ev {d : D} {ps : List SA.P} {tr : List T3i} (hd : IsN μ d ps tr) (hl : ps.length ≤ 100) (h : Q (.lst (ps.map pd)) μ) : sp__law_points [d] μ Q Xd := by
  unfold sp__law_points w__law_points
  walk_at "gn"
  refine hasN_go hd rfl ?_
  refine npts_ev hd hl ?_
  walk_at "gn"
  refine lc_mp (α := SA.P) (f := ptd) (l := ps) pd (fun p hp ds acc hacc hK2 => ?_) (by omega) ?_
  · unfold ptd
    walk_at "gn"
    refine pp_ev ?_
    walk_at "gn"
    exact hK2
  exact h
theorem hmovesC_ev {h kd : Nat} {nd : D} {P : List SA.P} {tr : List T3i} {made later : List Mv} (H : HAt μ h kd nd P tr made later) (hl : made.length ≤ 1000) (hq : Q (.loc μ.length) (μ ++ [.lst (made.map mvP)])) : sp_History_moves_C [.loc h] μ Q Xd := by
  have e := H.1
  unfold histC at e
  unfold sp_History_moves_C w_History_moves_C
  walk_at "gn"
  simp only [e]
  walk_at "gn"
  refine lc_mp (α := Mv) (f := mvD) (l := made) mvP (fun m hm ds acc hacc hK2 => ?_) (by omega) ?_
  · unfold mvD
    walk_at "gn"
    refine pof_ev ?_
    walk_at "gn"
    exact hK2
  walk_at "gn"
  exact hq
theorem hkept_ev {h kd : Nat} {nd : D} {P : List SA.P} {tr : List T3i} {made later : List Mv} {kn : List Str} {kv : List (List Mv)} (H : HAt μ h kd nd P tr made later) (ek : μ[kd]? = some (keptC kn kv)) (hq : Q (.lst (kn.map D.str)) μ) : sp_History_kept [.loc h] μ Q Xd := by
  have e := H.1
  unfold histC at e
  unfold sp_History_kept w_History_kept
  walk_at "gn"
  simp only [e]
  walk_at "gn"
  exact lstT_go ek hq
theorem right_ev {h kd kw kk : Nat} {nd : D} {P : List SA.P} {tr : List T3i} {made later : List Mv} {kn : List Str} {kv : List (List Mv)} (H : HAt μ h kd nd P tr made later) (ek : μ[kd]? = some (keptC kn kv)) (W : WAt μ kw kk P tr made later kn kv) (k : NOk P tr) (hP : 0 < P.length) (m1 : MvOk P.length made) (l1 : made.length ≤ 200) (l3 : kn.length ≤ 200) (hs : ∀ t ∈ kn, PyData.strOk t = true)
    (hq : ∀ l, Q (.bl true) (μ ++ l)) : sp__law_right [.loc h, .loc kw] μ Q Xd := by
  have e := W.e
  unfold worldC at e
  unfold sp__law_right w__law_right
  walk_at "gn"
  refine hasH_go H.1 (by decide) ?_
  refine hmoves_ev H (by omega) ?_
  walk_at "gn"
  refine lc_mp (α := Mv) (f := mvP) (l := made) mvD (fun m hm ds acc hacc hK2 => ?_) (by omega) ?_
  · unfold mvP
    walk_at "gn"
    refine ⟨rfl, rfl, pp_ev ?_⟩
    walk_at "gn"
    exact hK2
  walk_at "gn"
  refine getT_go e (d := .lst (made.map mvD)) (by rfl) ?_
  walk_at "gn"
  refine eq_mvs ?_
  walk_at "gn"
  refine hasH_go H.1 (by decide) ?_
  refine hmovesC_ev H (by omega) ?_
  walk_at "gn"
  refine isC_go List.getElem?_concat_length (appL_go List.getElem?_concat_length (by rw [List.length_map]; omega) ?_)
  rw [List.set_append_right _ _ (Nat.le_refl _), Nat.sub_self, List.set_cons_zero]
  generalize hc : Cell.lst (made.map mvP ++ [.non]) = c1
  have f1 : ∀ {n : Nat} {c : Cell} {l : Mu}, μ[n]? = some c → (μ ++ l)[n]? = some c := fun {n c l} e => by
    rw [List.getElem?_append_left (lt_of_at e)]
    exact e
  have HA : ∀ {l : Mu}, HAt (μ ++ l) h kd nd P tr made later := fun {l} => ⟨f1 H.1, isN_app H.2⟩
  have WA : ∀ {l : Mu}, WAt (μ ++ l) kw kk P tr made later kn kv := fun {l} => ⟨f1 W.e, f1 W.ek, W.ne⟩
  walk_at "gn"
  refine hasH_go (HA (l := [c1])).1 (by decide) ?_
  refine netnowC_ev (HA (l := [c1])) k ?_
  walk_at "gn"
  rw [List.append_assoc]
  have g0 : (μ ++ ([c1] ++ [netC (plays P made) tr]))[(μ ++ [c1]).length]? = some (netC (plays P made) tr) := by
    rw [← List.append_assoc]
    exact List.getElem?_concat_length
  have iN : IsN (μ ++ ([c1] ++ [netC (plays P made) tr])) (.loc (μ ++ [c1]).length) (plays P made) tr := .inr ⟨_, rfl, g0⟩
  refine lpts_ev iN (by rw [plays_len]; exact k.l1) ?_
  walk_at "gn"
  refine now_ev WA m1 (by omega) ?_
  walk_at "gn"
  refine eq_pls ?_
  walk_at "gn"
  refine hasN_go iN rfl ?_
  refine ntri_ev iN ?_
  walk_at "gn"
  refine getT_go (WA (l := [c1] ++ [netC (plays P made) tr])).e (d := .lst (tr.map triD)) (by rfl) ?_
  walk_at "gn"
  refine eq_trs ?_
  walk_at "gn"
  refine clsN_go iN ?_
  change (μ ++ [c1, netC (plays P made) tr])[(μ ++ [c1]).length]? = _ at g0
  refine setit_ev (i := 0) (v := (55, 55)) isP_pr g0 (by rw [plays_len]; exact hP) (by rw [plays_len]; exact k.l1) ?_
  have es : ∀ {c : Cell}, (μ ++ [c1, netC (plays P made) tr]).set (μ ++ [c1]).length c = μ ++ [c1, c] := fun {c} => by
    rw [show μ ++ [c1, netC (plays P made) tr] = (μ ++ [c1]) ++ [netC (plays P made) tr] by rw [List.append_assoc]; rfl, List.set_append_right _ _ (Nat.le_refl _), Nat.sub_self, List.set_cons_zero, List.append_assoc]
    rfl
  rw [es]
  generalize hl2 : [c1, netC ((plays P made).set 0 (55, 55)) tr] = l2
  walk_at "gn"
  refine clsH_go (HA (l := l2)).1 ?_
  refine hlen_ev (HA (l := l2)) ?_
  walk_at "gn"
  refine getT_go (WA (l := l2)).e (d := .lst (made.map mvD)) (by rfl) ?_
  walk_at "gn"
  rw [List.length_map, decide_eq_true rfl]
  walk_at "gn"
  refine hasH_go (HA (l := l2)).1 (by decide) ?_
  refine hkept_ev (HA (l := l2)) (f1 ek) ?_
  walk_at "gn"
  refine keysG_go (by simp) rfl (WA (l := l2)).e (by rfl) (WA (l := l2)).ek (by omega) ?_
  walk_at "gn"
  refine eq_strs hs ?_
  exact hq _
theorem lnh_ev {p q : Int} (ok : PoolOk p q) (h : ∀ (P : List SA.P) (tr : List T3i) p' q', PoolOk p' q' → 3 ≤ P.length → P.length ≤ 5 → NOk P tr → Q (.tup [.lst (P.map pd), .lst (tr.map triD)]) (pl μ p' q')) : sp__law_net_here [.loc μ.length] (pl μ p q) Q Xd := by
  unfold sp__law_net_here w__law_net_here
  walk_at "gn"
  refine draw_ev ok (by decide) (by unfold Bd; omega) fun r p1 q1 ok1 r0 r1 => ?_
  walk_at "gn"
  obtain ⟨n, rfl⟩ := Int.eq_ofNat_of_zero_le r0
  rw [show ((3 : Int) + (n : Nat)).toNat = 3 + n by omega]
  refine lc_pool (α := SA.P) (f := pd) (fun _ _ => True) (by omega) (fun i hi p q ok K hK => ?_) (fun P hP _ p2 q2 ok2 => ?_) ok1
  · walk_at "gn"
    refine lpair_ev (n := 5) ok (by decide) fun x y p' q' ok' _ _ _ _ => ?_
    walk_at "gn"
    exact hK (x, y) p' q' ok' trivial
  · walk_at "gn"
    rw [List.length_map, hP]
    by_cases c : n = 0
    · subst c
      rw [decide_eq_false (by decide)]
      walk_at "gn"
      refine h P [(0, 1, 2)] p2 q2 ok2 (by omega) (by omega) ⟨by omega, by show 1 ≤ 100; decide, fun t ht => ?_⟩
      rw [List.mem_singleton.mp ht, hP]
      exact ⟨⟨by decide, by decide, by decide⟩, by decide, by decide, by decide⟩
    · rw [decide_eq_true (by omega)]
      walk_at "gn"
      rw [List.length_map, hP, show (((3 + n : Nat) : Int) - 1) = ((2 + n : Nat) : Int) by omega]
      refine h P [(0, 1, 2), (2, 1, 2 + n)] p2 q2 ok2 (by omega) (by omega) ⟨by omega, by show 2 ≤ 100; decide, fun t ht => ?_⟩
      rcases List.mem_cons.mp ht with rfl | ht
      · rw [hP]
        exact ⟨⟨by show 0 < 3 + n; omega, by show 1 < 3 + n; omega, by show 2 < 3 + n; omega⟩, by decide, by decide, by decide⟩
      · rw [List.mem_singleton.mp ht, hP]
        exact ⟨⟨by show 2 < 3 + n; omega, by show 1 < 3 + n; omega, by show 2 + n < 3 + n; omega⟩, by show (2 : Nat) ≠ 1; decide, by show (1 : Nat) ≠ 2 + n; omega, by show 2 + n ≠ 2; omega⟩
def IxOk (d : D) : Prop := d ∈ ([.int 0, .int 1, .int 2, .int 4, .int 9, .int (-1), .bl true] : List D)
def CtOk (d : D) : Prop := d ∈ ([.int 1, .int 2, .int 3, .int 0, .non, .bl true, .int 99] : List D)
def NmOk (d : D) : Prop := d ∈ ([.str "m", .str "n", .str "abcdefgh", .str "M", .non, .str "", .str "abcdefghi"] : List D)
def CallOk (c : D) : Prop := (∃ d x, c = .tup [.str "move", d, x] ∧ IxOk d ∧ (x = .non ∨ ∃ v, x = pd v)) ∨ (∃ d, (c = .tup [.str "undo", d] ∨ c = .tup [.str "redo", d]) ∧ CtOk d) ∨ ∃ d, (c = .tup [.str "keep", d] ∨ c = .tup [.str "turn", d]) ∧ NmOk d
theorem pick_ok {p : D → Prop} {ds : List D} (h : ∀ d ∈ ds, p d) {r : Int} (r0 : 0 ≤ r) (r1 : r < ds.length) : ∃ d, atI ds r = some d ∧ p d := by
  obtain ⟨n, rfl⟩ := Int.eq_ofNat_of_zero_le r0
  have hn : n < ds.length := by omega
  exact ⟨ds[n], by rw [DL.atI_nat, List.getElem?_eq_getElem hn], h _ (List.getElem_mem hn)⟩
theorem call_ev {np : Nat} (hp : PAt μ np) (hq : ∀ c μ', PAt μ' np → Fr1 μ μ' np → CallOk c → Q c μ') : sp__law_call [.loc np] μ Q Xd := by
  unfold sp__law_call w__law_call
  walk_at "gn"
  refine drawA_ev hp (by decide) (by unfold Bd; omega) fun way μ1 p1 f1 w0 w1 => ?_
  walk_at "gn"
  by_cases c6 : way < 6
  · rw [decide_eq_true c6]
    walk_at "gn"
    refine drawA_ev p1 (by decide) (by unfold Bd; omega) fun r μ2 p2 f2 r0 r1 => ?_
    obtain ⟨d, hd, hok⟩ := pick_ok (p := IxOk) (ds := [.int 0, .int 1, .int 2, .int 2, .int 4, .int 9, .int (-1), .bl true]) (by unfold IxOk; simp) r0 r1
    walk_at "gn"
    rw [hd]
    walk_at "gn"
    refine lpairA_ev (m := 9) p2 (by decide) fun v3 μ3 p3 f3 => ?_
    walk_at "gn"
    refine lpairA_ev (m := 9) p3 (by decide) fun v4 μ4 p4 f4 => ?_
    walk_at "gn"
    refine lpairA_ev (m := 9) p4 (by decide) fun v5 μ5 p5 f5 => ?_
    walk_at "gn"
    refine drawA_ev p5 (by decide) (by unfold Bd; omega) fun r2 μ6 p6 f6 r20 r21 => ?_
    obtain ⟨x, hx, hok2⟩ := pick_ok (p := fun x => x = .non ∨ ∃ v, x = pd v) (ds := [pd v3, pd v4, pd v5, .non]) (fun d hd => by
      rcases List.mem_cons.mp hd with rfl | hd
      · exact .inr ⟨_, rfl⟩
      rcases List.mem_cons.mp hd with rfl | hd
      · exact .inr ⟨_, rfl⟩
      rcases List.mem_cons.mp hd with rfl | hd
      · exact .inr ⟨_, rfl⟩
      rw [List.mem_singleton.mp hd]
      exact .inl rfl) r20 r21
    walk_at "gn"
    rw [hx]
    walk_at "gn"
    exact hq _ _ p6 (fr_trans f1 (fr_trans f2 (fr_trans f3 (fr_trans f4 (fr_trans f5 f6))))) (.inl ⟨_, _, rfl, hok, hok2⟩)
  rw [decide_eq_false c6]
  walk_at "gn"
  have m0 := Int.emod_nonneg way (show (2 : Int) ≠ 0 by decide)
  have m1 := Int.emod_lt_of_pos way (show (0 : Int) < 2 by decide)
  by_cases c9 : way < 9
  · rw [decide_eq_true c9]
    walk_at "gn"
    obtain ⟨w, hw, hwo⟩ := pick_ok (p := fun w => w = .str "undo" ∨ w = .str "redo") (ds := [.str "undo", .str "redo"]) (by simp) m0 m1
    rw [hw]
    walk_at "gn"
    refine drawA_ev p1 (by decide) (by unfold Bd; omega) fun r μ2 p2 f2 r0 r1 => ?_
    obtain ⟨d, hd, hok⟩ := pick_ok (p := CtOk) (ds := [.int 1, .int 1, .int 2, .int 3, .int 0, .non, .bl true, .int 99]) (by unfold CtOk; simp) r0 r1
    walk_at "gn"
    rw [hd]
    walk_at "gn"
    refine hq _ _ p2 (fr_trans f1 f2) (.inr (.inl ⟨d, ?_, hok⟩))
    rcases hwo with rfl | rfl
    · exact .inl rfl
    · exact .inr rfl
  · rw [decide_eq_false c9]
    walk_at "gn"
    obtain ⟨w, hw, hwo⟩ := pick_ok (p := fun w => w = .str "keep" ∨ w = .str "turn") (ds := [.str "keep", .str "turn"]) (by simp) m0 m1
    rw [hw]
    walk_at "gn"
    refine drawA_ev p1 (by decide) (by unfold Bd; omega) fun r μ2 p2 f2 r0 r1 => ?_
    obtain ⟨d, hd, hok⟩ := pick_ok (p := NmOk) (ds := [.str "m", .str "n", .str "abcdefgh", .str "m", .str "M", .non, .str "", .str "abcdefghi"]) (by unfold NmOk; simp) r0 r1
    walk_at "gn"
    rw [hd]
    walk_at "gn"
    refine hq _ _ p2 (fr_trans f1 f2) (.inr (.inr ⟨d, ?_, hok⟩))
    rcases hwo with rfl | rfl
    · exact .inl rfl
    · exact .inr rfl
/-- how a thing is shown -/
def Shw (d : D) (w : Str) : Prop := ∃ p, toP d = some p ∧ reprC p ∧ P5 (.tup [.str w, .str p.shown]) = true
theorem shw_all : (∀ d, IxOk d → Shw d "number") ∧ (∀ d, CtOk d → Shw d "left") ∧ ∀ d, NmOk d → Shw d "name" ∧ Shw d "unknown" := by
  have i : ∀ (z : Int) (w : Str), z ∈ ([0, 1, 2, 3, 4, 9, 99, -1] : List Int) → w ∈ (["number", "left"] : List Str) → Shw (.int z) w := fun z w hz hw => by
    refine ⟨.int z, by rw [toP], ?_, ?_⟩
    · simp only [List.mem_cons, List.not_mem_nil, or_false] at hz
      rcases hz with rfl | rfl | rfl | rfl | rfl | rfl | rfl | rfl <;> (unfold reprC; decide +kernel)
    · simp only [List.mem_cons, List.not_mem_nil, or_false] at hz hw
      rcases hw with rfl | rfl <;> rcases hz with rfl | rfl | rfl | rfl | rfl | rfl | rfl | rfl <;> decide +kernel
  have b : ∀ (w : Str), w ∈ (["number", "left"] : List Str) → Shw (.bl true) w := fun w hw => by
    refine ⟨.bool true, by rw [toP], by unfold reprC; trivial, ?_⟩
    simp only [List.mem_cons, List.not_mem_nil, or_false] at hw
    rcases hw with rfl | rfl <;> decide +kernel
  have n : ∀ (w : Str), w ∈ (["left", "name", "unknown"] : List Str) → Shw .non w := fun w hw => by
    refine ⟨.none, by rw [toP], by unfold reprC; trivial, ?_⟩
    simp only [List.mem_cons, List.not_mem_nil, or_false] at hw
    rcases hw with rfl | rfl | rfl <;> decide +kernel
  have t : ∀ (z w : Str), z ∈ (["m", "n", "abcdefgh", "M", "", "abcdefghi"] : List Str) → w ∈ (["name", "unknown"] : List Str) → Shw (.str z) w := fun z w hz hw => by
    refine ⟨.str z, by rw [toP], ?_, ?_⟩
    · show (reprText z).length ≤ sizeLine
      rw [sizeLine_eq]
      simp only [List.mem_cons, List.not_mem_nil, or_false] at hz
      rcases hz with rfl | rfl | rfl | rfl | rfl | rfl <;> decide +kernel
    · simp only [List.mem_cons, List.not_mem_nil, or_false] at hz hw
      rcases hw with rfl | rfl <;> rcases hz with rfl | rfl | rfl | rfl | rfl | rfl <;> decide +kernel
  refine ⟨fun d hd => ?_, fun d hd => ?_, fun d hd => ?_⟩
  · unfold IxOk at hd
    simp only [List.mem_cons, List.not_mem_nil, or_false] at hd
    rcases hd with rfl | rfl | rfl | rfl | rfl | rfl | rfl
    all_goals first | exact b _ (by simp) | exact i _ _ (by simp) (by simp)
  · unfold CtOk at hd
    simp only [List.mem_cons, List.not_mem_nil, or_false] at hd
    rcases hd with rfl | rfl | rfl | rfl | rfl | rfl | rfl
    all_goals first | exact b _ (by simp) | exact n _ (by simp) | exact i _ _ (by simp) (by simp)
  · unfold NmOk at hd
    simp only [List.mem_cons, List.not_mem_nil, or_false] at hd
    rcases hd with rfl | rfl | rfl | rfl | rfl | rfl | rfl
    all_goals first | exact ⟨n _ (by simp), n _ (by simp)⟩ | exact ⟨t _ _ (by simp) (by simp), t _ _ (by simp) (by simp)⟩
theorem stp_ex {P : List SA.P} {made later : List Mv} {kn : List Str} {kv : List (List Mv)} {c : D} (h3 : 3 ≤ P.length) (h5 : P.length ≤ 5) (l2 : kn.length = kv.length) (hc : CallOk c) : ∃ r made' later' kn' kv', Stp P made later kn kv c r made' later' kn' kv' := by
  obtain ⟨s1, s2, s3⟩ := shw_all
  rcases hc with ⟨d, x, rfl, hd, hx⟩ | ⟨d, hcd, hd⟩ | ⟨d, hcd, hd⟩
  · obtain ⟨p, e1, e2, e3⟩ := s1 d hd
    have no : NoIx P.length d → ∃ r made' later' kn' kv', Stp P made later kn kv (.tup [.str "move", d, x]) r made' later' kn' kv' := fun hn => ⟨_, _, _, _, _, .moveN hn e1 e2 e3⟩
    have yes : ∀ i : Nat, i < P.length → d = .int (i : Nat) → ∃ r made' later' kn' kv', Stp P made later kn kv (.tup [.str "move", d, x]) r made' later' kn' kv' := fun i hi e => by
      subst e
      rcases hx with rfl | ⟨v, rfl⟩
      · exact ⟨_, _, _, _, _, .moveP hi⟩
      · exact ⟨_, _, _, _, _, .move hi⟩
    unfold IxOk at hd
    simp only [List.mem_cons, List.not_mem_nil, or_false] at hd
    rcases hd with rfl | rfl | rfl | rfl | rfl | rfl | rfl
    · exact yes 0 (by omega) rfl
    · exact yes 1 (by omega) rfl
    · exact yes 2 (by omega) rfl
    · by_cases c : 4 < P.length
      · exact yes 4 c rfl
      · exact no (.inr ⟨_, rfl, .inr (by omega)⟩)
    · exact no (.inr ⟨_, rfl, .inr (by omega)⟩)
    · exact no (.inr ⟨_, rfl, .inl (by omega)⟩)
    · exact no (.inl (.inr (.inl ⟨_, rfl⟩)))
  · obtain ⟨p, e1, e2, e3⟩ := s2 d hd
    have ct : ∀ n : Nat, NoCt n d ∨ ∃ k : Nat, d = .int (k : Nat) ∧ 1 ≤ k ∧ k ≤ n := fun n => by
      have num : ∀ z : Nat, NoCt n (.int (z : Nat)) ∨ ∃ k : Nat, D.int ((z : Nat) : Int) = .int (k : Nat) ∧ 1 ≤ k ∧ k ≤ n := fun z => by
        by_cases c : 1 ≤ z ∧ z ≤ n
        · exact .inr ⟨z, rfl, c⟩
        · exact .inl (.inr ⟨_, rfl, by omega⟩)
      unfold CtOk at hd
      simp only [List.mem_cons, List.not_mem_nil, or_false] at hd
      rcases hd with rfl | rfl | rfl | rfl | rfl | rfl | rfl
      · exact num 1
      · exact num 2
      · exact num 3
      · exact num 0
      · exact .inl (.inl (.inl rfl))
      · exact .inl (.inl (.inr (.inl ⟨_, rfl⟩)))
      · exact num 99
    rcases hcd with rfl | rfl
    · rcases ct made.length with hn | ⟨k, rfl, h1, h2⟩
      · exact ⟨_, _, _, _, _, .undoN hn e1 e2 e3⟩
      · exact ⟨_, _, _, _, _, .undo h1 h2⟩
    · rcases ct later.length with hn | ⟨k, rfl, h1, h2⟩
      · exact ⟨_, _, _, _, _, .redoN hn e1 e2 e3⟩
      · exact ⟨_, _, _, _, _, .redo h1 h2⟩
  · obtain ⟨⟨p, e1, e2, e3⟩, ⟨p', f1, f2, f3⟩⟩ := s3 d hd
    rcases hcd with rfl | rfl
    · have no : NoNm d → d ∈ ([.str "M", .non, .str "", .str "abcdefghi"] : List D) → ∃ r made' later' kn' kv', Stp P made later kn kv (.tup [.str "keep", d]) r made' later' kn' kv' := fun h1 h2 => ⟨_, _, _, _, _, .keepN h1 h2 e1 e2 e3⟩
      unfold NmOk at hd
      simp only [List.mem_cons, List.not_mem_nil, or_false] at hd
      rcases hd with rfl | rfl | rfl | rfl | rfl | rfl | rfl
      · exact ⟨_, _, _, _, _, .keep (by simp)⟩
      · exact ⟨_, _, _, _, _, .keep (by simp)⟩
      · exact ⟨_, _, _, _, _, .keep (by simp)⟩
      · exact no (.inr ⟨_, rfl, by decide +kernel, by decide +kernel⟩) (by simp)
      · exact no (.inl rfl) (by simp)
      · exact no (.inr ⟨_, rfl, by decide +kernel, by decide +kernel⟩) (by simp)
      · exact no (.inr ⟨_, rfl, by decide +kernel, by decide +kernel⟩) (by simp)
    · have st : d = .non ∨ ∃ s : Str, d = .str s := by
        unfold NmOk at hd
        simp only [List.mem_cons, List.not_mem_nil, or_false] at hd
        rcases hd with rfl | rfl | rfl | rfl | rfl | rfl | rfl
        all_goals first | exact .inl rfl | exact .inr ⟨_, rfl⟩
      rcases st with rfl | ⟨s, rfl⟩
      · exact ⟨_, _, _, _, _, .turnN (.inl rfl) f1 f2 f3⟩
      · by_cases c : s ∈ kn
        · obtain ⟨mn, h1, h2⟩ := getTd_ex l2 c
          exact ⟨_, _, _, _, _, .turn c h1 h2⟩
        · exact ⟨_, _, _, _, _, .turnN (.inr ⟨s, rfl, c⟩) f1 f2 f3⟩
theorem told_p5 {x : D} (hx : Pn (Pn (Pn (Pn P0))) x = true) : P5 (.tup [.str "told", x]) = true := by
  show ([D.str "told", x].all (Pn (Pn (Pn (Pn P0))))) = true
  rw [List.all_cons, List.all_cons, List.all_nil, hx, show Pn (Pn (Pn (Pn P0))) (.str "told") = true by kernel_rfl]
  rfl
theorem stp_p5 {P : List SA.P} {made later made' later' : List Mv} {kn kn' : List Str} {kv kv' : List (List Mv)} {c r : D} (S : Stp P made later kn kv c r made' later' kn' kv') : P5 r = true ∧ deq r r = true := by
  cases S with
  | move hi => exact ⟨told_p5 rfl, by simp [deq, deqs]⟩
  | moveN h1 h2 h3 h4 => exact ⟨h4, by simp [deq, deqs]⟩
  | moveP hi => exact ⟨by kernel_rfl, by simp [deq, deqs]⟩
  | undo h1 h2 => exact ⟨told_p5 rfl, by simp [deq, deqs]⟩
  | redo h1 h2 => exact ⟨told_p5 rfl, by simp [deq, deqs]⟩
  | undoN h1 h2 h3 h4 => exact ⟨h4, by simp [deq, deqs]⟩
  | redoN h1 h2 h3 h4 => exact ⟨h4, by simp [deq, deqs]⟩
  | keep h1 => exact ⟨told_p5 rfl, by simp [deq, deqs]⟩
  | keepN h1 h2 h3 h4 h5 => exact ⟨h5, by simp [deq, deqs]⟩
  | turn h1 h2 h3 => exact ⟨told_p5 rfl, by simp [deq, deqs]⟩
  | turnN h1 h2 h3 h4 => exact ⟨h4, by simp [deq, deqs]⟩
structure Inv5 (P : List SA.P) (i : Nat) (made later : List Mv) (kn : List Str) (kv : List (List Mv)) : Prop where
  m1 : MvOk P.length made
  m2 : MvOk P.length later
  m3 : ∀ ms ∈ kv, MvOk P.length ms ∧ ms.length ≤ i
  l1 : made.length + later.length ≤ i
  l2 : kn.length = kv.length
  l3 : kn.length ≤ i
  s : ∀ t ∈ kn, PyData.strOk t = true
theorem stp_inv {P : List SA.P} {i : Nat} {made later made' later' : List Mv} {kn kn' : List Str} {kv kv' : List (List Mv)} {c r : D} (S : Stp P made later kn kv c r made' later' kn' kv') (I : Inv5 P i made later kn kv) : Inv5 P (i + 1) made' later' kn' kv' := by
  have up : Inv5 P (i + 1) made later kn kv := ⟨I.m1, I.m2, fun ms hm => ⟨(I.m3 ms hm).1, Nat.le_succ_of_le (I.m3 ms hm).2⟩, Nat.le_succ_of_le I.l1, I.l2, Nat.le_succ_of_le I.l3, I.s⟩
  have := I.l1
  cases S with
  | @move i v hi => exact { up with m1 := mvOk_app I.m1 (fun m hm => by rw [List.mem_singleton.mp hm]; exact hi), m2 := fun _ z => by simp at z, l1 := by rw [List.length_append, List.length_singleton, List.length_nil]; omega }
  | moveN h1 h2 h3 h4 => exact up
  | moveP hi => exact up
  | undo h1 h2 => exact { up with m1 := mvOk_take I.m1, m2 := mvOk_app (mvOk_drop I.m1) I.m2, l1 := by rw [List.length_append, List.length_take, List.length_drop]; omega }
  | redo h1 h2 => exact { up with m1 := mvOk_app I.m1 (mvOk_take I.m2), m2 := mvOk_drop I.m2, l1 := by rw [List.length_append, List.length_take, List.length_drop]; omega }
  | undoN h1 h2 h3 h4 => exact up
  | redoN h1 h2 h3 h4 => exact up
  | @keep s h1 =>
    refine { up with m3 := putTd_all ⟨I.m1, by omega⟩ up.m3, l2 := putT_len I.l2, l3 := by have := putTk_len (k := s) (ks := kn); have := I.l3; omega, s := fun t ht => ?_ }
    unfold putTk at ht
    split at ht
    · exact I.s t ht
    · rcases List.mem_append.mp ht with ht | ht
      · exact I.s t ht
      · rw [List.mem_singleton.mp ht]
        simp only [List.mem_cons, List.not_mem_nil, or_false] at h1
        rcases h1 with rfl | rfl | rfl <;> decide +kernel
  | keepN h1 h2 h3 h4 h5 => exact up
  | turn h1 h2 h3 => exact { up with m1 := (I.m3 _ h3).1, m2 := fun _ z => by simp at z, l1 := by have := (I.m3 _ h3).2; rw [List.length_nil]; omega }
  | turnN h1 h2 h3 h4 => exact up
structure LW (np h kd kw kk : Nat) (P : List SA.P) (tr : List T3i) (nd : D) (made later : List Mv) (kn : List Str) (kv : List (List Mv)) (μ : Mu) : Prop where
  H : HAt μ h kd nd P tr made later
  ek : μ[kd]? = some (keptC kn kv)
  W : WAt μ kw kk P tr made later kn kv
  p : PAt μ np
  d1 : np ≠ h ∧ np ≠ kd ∧ np ≠ kw ∧ np ≠ kk
  d2 : h ≠ kd ∧ h ≠ kw ∧ h ≠ kk
  d3 : kd ≠ kw ∧ kd ≠ kk
def Iv (ns : List Int) (ρ : DS) (_ : Mu) : Prop := ∃ s1 s2 s3 s4 s5 s6 s7 s8 s9 : Sl, ρ = [.v (.frl (ns.map D.int)), s1, s2, s3, s4, s5, s6, s7, s8, s9]
theorem pAt_nn {n : Nat} (h : PAt μ n) : ∀ qs us, μ[n]? ≠ some (netC qs us) := by
  obtain ⟨p, q, ok, e⟩ := h
  exact nn_of e nn_lst
theorem isN_fr2 {μ' : Mu} {a b : Nat} {d : D} {ps : List SA.P} {tr : List T3i} (h : IsN μ d ps tr) (f : Fr2 μ μ' a b) (ha : ∀ qs us, μ[a]? ≠ some (netC qs us)) (hb : ∀ qs us, μ[b]? ≠ some (netC qs us)) : IsN μ' d ps tr := by
  rcases h with h | ⟨n, rfl, e⟩
  · exact .inl h
  · refine .inr ⟨n, rfl, f n _ e (fun z => ?_) fun z => ?_⟩
    · subst z
      exact ha _ _ e
    · subst z
      exact hb _ _ e
theorem law_ev {ns : List Int} (hl : ns.length ≤ 63) (h : ∀ μ, Q (.bl true) μ) : sp_law [.frl (ns.map D.int)] [] Q Xd := by
  unfold sp_law w_law
  walk_at "dn"
  obtain ⟨t1, t2, t3⟩ := turns_ok (n := (ns.map D.int).length) (m := 4) (by decide)
  refine ⟨t1, t2, ?_⟩
  change forL _ _ _ (rangeD 0 (turns (ns.map D.int).length 4).toNat) _ _
  refine forL_inv (Iv ns) (fun ρ μ hI => ?_) (fun d hd ρ μ K hI hK => ?_) ⟨_, _, _, _, _, _, _, _, _, rfl⟩
  · obtain ⟨s1, s2, s3, s4, s5, s6, s7, s8, s9, rfl⟩ := hI
    walk_at "gn"
    exact h _
  · obtain ⟨i, hi, rfl⟩ := mem_range hd
    obtain ⟨s1, s2, s3, s4, s5, s6, s7, s8, s9, rfl⟩ := hI
    walk_at "gn"
    refine hand_ev hl (by omega) (by omega) fun p q ok => ?_
    walk_at "gn"
    refine lnh_ev ok fun P tr p1 q1 ok1 h3 h5 nk => ?_
    walk_at "gn"
    refine net_init (f := pd) (ps := P) (tr := tr) isL_l isL_l isP_pd nk.l1 nk.l2 nk.ok ?_
    walk_at "gn"
    refine hinitA_ev (ps := P) (tr := tr) (.inr ⟨_, rfl, List.getElem?_concat_length⟩) nk ?_
    walk_at "gn"
    refine point_init ?_
    walk_at "gn"
    have hz : (pl μ p1 q1).length = μ.length + 1 := by unfold pl; rw [List.length_append]; rfl
    have g : ∀ {l : Mu} {j : Nat}, (pl μ p1 q1 ++ l)[μ.length + (j + 1)]? = l[j]? := fun {l j} => by
      rw [List.getElem?_append_right (by omega)]
      congr 1
      omega
    have gs : ∀ {l : Mu} {j : Nat} {c : Cell}, (pl μ p1 q1 ++ l).set (μ.length + (j + 1)) c = pl μ p1 q1 ++ l.set j c := fun {l j c} => by
      rw [List.set_append_right _ _ (by omega)]
      congr 2
      omega
    simp only [List.append_assoc, List.cons_append, List.nil_append, List.length_append, hz, List.length_cons, List.length_nil, Nat.zero_add, Nat.add_assoc, Nat.reduceAdd]
    refine clsN_go (ps := P) (tr := tr) (.inr ⟨_, rfl, g (j := 0)⟩) ?_
    refine setit_ev (ps := P) (tr := tr) (i := 0) (v := (66, 66)) (isP_ptd (66, 66)) (g (j := 0)) (by omega) nk.l1 ?_
    rw [gs (j := 0), List.set_cons_zero]
    walk_at "gn"
    simp only [List.append_assoc, List.cons_append, List.nil_append, List.length_append, hz, List.length_cons, List.length_nil, Nat.zero_add, Nat.add_assoc, Nat.reduceAdd]
    refine dicL_go (by decide +kernel) (by decide) (g (j := 3)) ?_
    rw [gs (j := 3)]
    walk_at "gn"
    have L0 : LW μ.length (μ.length + 3) (μ.length + 2) (μ.length + 4) (μ.length + 5) P tr (netD P tr) [] [] [] [] (pl μ p1 q1 ++ [netC (P.set 0 (66, 66)) tr, Cell.dic [] [], histC (μ.length + 2) (netD P tr) (netD P tr) [] [], worldC P tr [] [] (μ.length + 5), Cell.dic [] []]) := by
      refine ⟨⟨g (j := 2), isN_o⟩, g (j := 1), ⟨g (j := 3), g (j := 4), by omega⟩, ⟨p1, q1, ok1, ?_⟩, ⟨by omega, by omega, by omega, by omega⟩, ⟨by omega, by omega, by omega⟩, ⟨by omega, by omega⟩⟩
      rw [List.getElem?_append_left (by omega)]
      exact pl_get
    refine forL_rng (fun j ρ μ' => ∃ s8 s9 nd made later kn kv, Inv5 P j made later kn kv ∧ LW μ.length (μ.length + 3) (μ.length + 2) (μ.length + 4) (μ.length + 5) P tr nd made later kn kv μ' ∧
      ρ = [.v (.frl (ns.map D.int)), .v (.int (0 + (i : Nat))), .v (.loc μ.length), .v (.lst (P.map pd)), .v (.lst (tr.map triD)), .v (.loc (μ.length + 1)), .v (.loc (μ.length + 3)), .v (.loc (μ.length + 4)), s8, s9]) (fun j hj ρ μ' K2 hI hK2 => ?_) (fun ρ μ' hI => ?_) ⟨_, _, _, _, _, _, _, ⟨fun _ z => by simp at z, fun _ z => by simp at z, fun _ z => by simp at z, Nat.le_refl _, rfl, Nat.le_refl _, fun _ z => by simp at z⟩, L0, rfl⟩
    · clear L0 g gs hz
      obtain ⟨s8, s9, nd, made, later, kn, kv, I, L, rfl⟩ := hI
      generalize μ.length + 1 = n1 at hK2 ⊢
      generalize μ.length + 2 = kd at L hK2 ⊢
      generalize μ.length + 3 = hh at L hK2 ⊢
      generalize μ.length + 4 = kw at L hK2 ⊢
      generalize μ.length + 5 = kk at L hK2 ⊢
      obtain ⟨⟨d11, d12, d13, d14⟩, ⟨d21, d22, d23⟩, d31, d32⟩ := And.intro L.d1 (And.intro L.d2 L.d3)
      have il := I.l1
      have il3 := I.l3
      walk_at "gn"
      refine call_ev L.p fun c μ1 pp1 f1 hc => ?_
      have H1 := hAt_fr L.H f1 (Ne.symm d11) (pAt_nn L.p)
      have ek1 := f1 _ _ L.ek (Ne.symm d12)
      have W1 : WAt μ1 kw kk P tr made later kn kv := ⟨f1 _ _ L.W.e (Ne.symm d13), f1 _ _ L.W.ek (Ne.symm d14), L.W.ne⟩
      obtain ⟨r, made', later', kn', kv', S⟩ := stp_ex (made := made) (later := later) h3 h5 I.l2 hc
      have I' := stp_inv S I
      have il' := I'.l1
      have il3' := I'.l3
      walk_at "gn"
      refine do_ev S H1 ek1 nk I.m1 I.m2 (fun ms hm => ⟨(I.m3 ms hm).1, by have := (I.m3 ms hm).2; omega⟩) (by omega) (by omega) (by omega) d21 fun nd' μ2 H2 ek2 f2 => ?_
      have W2 : WAt μ2 kw kk P tr made later kn kv := ⟨f2 _ _ W1.e (Ne.symm d22) (Ne.symm d31), f2 _ _ W1.ek (Ne.symm d23) (Ne.symm d32), W1.ne⟩
      have pp2 : PAt μ2 μ.length := by
        obtain ⟨p, q, pok, pe⟩ := pp1
        exact ⟨p, q, pok, f2 _ _ pe d11 d12⟩
      walk_at "gn"
      refine due_ev S W2 (by omega) I.m1 (by omega) (by omega) (by omega) fun μ3 W3 f3 => ?_
      have H3 : HAt μ3 hh kd nd' P tr made' later' := ⟨f3 _ _ H2.1 d22 d23, isN_fr2 H2.2 f3 (nn_of W2.e nn_dic) (nn_of W2.ek nn_dic)⟩
      have ek3 := f3 _ _ ek2 d31 d32
      have pp3 : PAt μ3 μ.length := by
        obtain ⟨p, q, pok, pe⟩ := pp2
        exact ⟨p, q, pok, f3 _ _ pe d13 d14⟩
      walk_at "gn"
      refine eq_selfD (stp_p5 S).1 (stp_p5 S).2 ?_
      walk_at "gn"
      refine right_ev H3 ek3 W3 nk (by omega) I'.m1 (by omega) (by omega) I'.s fun l => ?_
      walk_at "gn"
      refine hK2 _ _ ⟨_, _, nd', made', later', kn', kv', I', ?_, rfl⟩
      have f4 : ∀ {n : Nat} {c : Cell}, μ3[n]? = some c → (μ3 ++ l)[n]? = some c := fun {n c} e => by
        rw [List.getElem?_append_left (lt_of_at e)]
        exact e
      obtain ⟨p, q, pok, pe⟩ := pp3
      exact ⟨⟨f4 H3.1, isN_app H3.2⟩, f4 ek3, ⟨f4 W3.e, f4 W3.ek, W3.ne⟩, ⟨p, q, pok, f4 pe⟩, L.d1, L.d2, L.d3⟩
    · obtain ⟨s8, s9, nd, made, later, kn, kv, I, L, rfl⟩ := hI
      exact hK _ _ ⟨_, _, _, _, _, _, _, _, _, rfl⟩
end
end K85

set_option Elab.async false
set_option linter.all false
set_option maxRecDepth 100000
set_option maxHeartbeats 0
namespace K85
open PySem PySem.Spec PyProof.Rows L2 DL
theorem law_at {P : Program} {w : World} {K : PySem.W.Frag} {mg : Str → Option Value} {h : Heap} {f : Addr} (X : K.In h) (G : h.Ns mainGlobals mg) (hm : mg ("law" : Str) = some (.ref f)) (c : SaysY fa fn exB K) :
    ∃ fd : FuncData, (∀ (s : Shared) (v : Value), BindsTo s fd ⟨[v], []⟩ [("script", v)]) ∧ ∀ base : Heap, K.In base → base.Ns mainGlobals mg → FnG P w K mg base 11 f fd ["script"] (toSp ⟨K, mg, none⟩ sp_law) := by
  have A : Hd K mg := ⟨c.d, c.more, h, X, G⟩
  obtain ⟨fd, F⟩ := A.c.def_ 48
  have e := hm.symm.trans A.g_law
  cases e
  have b := FunD.bindsA (ps := ["script"]) F fun _ _ _ _ _ _ us hl => match us, hl with | [_], _ => rfl
  exact ⟨fd, fun s v => b s [v] rfl, fun base _ _ => def_ok F sc_law (fun ds μ Q Xd h => h.1) (fun cdv A2 fr s H E hr hgd => d_law A hr hgd) fun ds μ Q Xd h => h.2⟩
end K85
open PySem PySem.W PySem.Calls PyProof.Rows
theorem PySem.Challenge.cw_filledonce_k85_histories_holds : PySem.Challenge.rw_filledonce_k85_histories.Holds := by
  w_on; o_law
  refine HandSHeadRun.head_any (r := OpenLaw.row PySem.Challenge.rw_filledonce_k85_histories) (q := view (OpenLaw.row PySem.Challenge.rw_filledonce_k85_histories).prog [43]) (H := K85.hk) (ob := K85.ob) (M := 9000) (loose := K85.loose) (d := HandSHeadRun.topDef (OpenLaw.row PySem.Challenge.rw_filledonce_k85_histories).prog 43) (kwd := []) K85.ob_eq
    (by kernel_rfl) (fun s => by kernel_rfl) K85.run (by kernel_rfl) (by kernel_rfl) (by kernel_rfl) (by rfl) (by first | assumption | decide +kernel) (by decide +kernel) ⟨rfl, rfl, rfl, rfl, rfl, by decide +kernel⟩ ?hw ?hc
  case hw => w_witness2
  case hc =>
    refine DL.walk_ofD (l := PySem.Challenge.rw_filledonce_k85_histories) (n := 63) (k := 11) (x := "script") (sp := K85.sp_law) rfl (by decide) (by kernel_rfl) ⟨rfl, by decide, by decide⟩ ?F fun ns hl => K85.law_ev hl fun _ => rfl
    intro w mg fa h Y G hmg0
    obtain ⟨K, KX, c⟩ := Y
    have hmg : mg ("law" : PySem.Str) = some (.ref fa) := by
      have e : (HandSHeadRun.topDef (OpenLaw.row PySem.Challenge.rw_filledonce_k85_histories).prog 43).name = ("law" : PySem.Str) := by kernel_rfl
      rw [← e]
      exact hmg0
    obtain ⟨fd, hb, hF⟩ := K85.law_at (P := (PySem.Challenge.rw_filledonce_k85_histories).prog) (w := w) KX G hmg c
    exact ⟨K, fd, KX, hb, hF⟩

