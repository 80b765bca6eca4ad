import PyProof.Rows.All
import PyProof.Rows.TupTab
import Wide.All
import OpenK.AllK
import Wide.FinOn
import HandS.ForMost
import HandS.Exc
import HandS.ExcInit
import HandS.ExcField
import HandS.ExcIs
import HandS.TryOnly
import HandS.WordsExc
import HandS.IsInst
import HandS.Wide
import HandS.WideMore
import HandS.Walk
import HandS.Zip
import HandS.Style
import HandS.RaiseMore
import HandS.Deep
import HandS.Defaults
import HandS.HeadHook2
import KE.KOpsOwn
import HandS.NoneIn
import HandS.Property
import HandS.ClsMeth
import HandS.SlotsOwn
import HandS.Ends
import HandS.HeadEnd
import HandS.HeadHook4
import HandS.Head2
import KE.KExcIs
import PyProof.CallFns
import PyProof.ReprRoads
import HandS.HeadNt
import HandS.Spec
import HandS.Head0
import HandS.Head1
import PyProof.InstNe
import HandS.OwnEq
import HandS.HotCalls
import PyProof.NeKinds
import HandS.Star
import HandS.SetFor
import KE.DataFind
import OpenK.KMake
import HandS.SortInts
import PySem.Challenge.RW_filledonce_k47_whole_sums_of_nets
import HandS.GenList
import HandS.MakeKwOnly
import HandS.Iter
import HandS.TupLe
import HandS.TupAny
import HandS.DictComp
import HandS.Steps
import HandS.WordsDict
import HandS.Small
import PyProof.EqKinds
import PyProof.FactsAll.NoneType
import HandS.Text
import HandS.FStr
import HandS.Codes
import PyProof.StrOps2
import HandS.Flow
import KE.KStateDown
import Lean
set_option Elab.async false
set_option linter.all false
set_option maxRecDepth 100000
set_option maxHeartbeats 4000000
set_option autoImplicit false
/-! The value layer: data in place of the heap. -/
namespace DL
open PySem PySem.Spec PyProof.Rows L2

/-- a datum: what a value is worth -/
inductive D where
  | non | bl (b : Bool) | int (i : Int) | str (s : Str)
  | tup (ds : List D) | lst (ds : List D)
  /-- a list that is known to the object (the script) -/
  | frl (ds : List D)
  /-- an instance that is not changed any more: its class, its attributes' names and values -/
  | obj (c : Str) (ks : List Str) (ds : List D)
  /-- a changeable thing, by its number -/
  | loc (n : Nat)
  | ty (n : String) | cls (c : Str)
  /-- any tracked thing -/
  | opq (o : HO)
/-- a changeable thing -/
inductive Cell where
  | lst (ds : List D)
  | ins (c : Str) (ks : List Str) (ds : List D)
  /-- a pool of draws -/
  | pool
  /-- a dict from ints to ints -/
  | dct (kvs : List (Int × Int))
  /-- a dict of texts: its keys in their order, their values -/
  | dic (ks : List Str) (ds : List D)
/-- a slot: empty, a datum, or a thing of the def's own that is being filled -/
inductive Sl where
  | no | v (d : D) | own (a : Addr) (c : Cell)
  /-- the exception that a suite holds -/
  | exn (c : Str) (ks : List Str) (ds : List D)
structure Gx where
  K : PySem.W.Frag
  mg : Str → Option Value
  ex : Option (Addr × Addr × Addr)
def PoolOk (p q : Int) : Prop := 0 ≤ p ∧ 0 ≤ q ∧ q < 2147483647

mutual
def Rep (G : Gx) (m : List Addr) (E : Hp) : D → V → Prop
  | .non, v => v = .non
  | .bl b, v => v = .bl b
  | .int i, v => v = .int i
  | .str s, v => v = .str s
  | .ty n, v => v = .ty n
  | .cls c, v => ∃ C, G.mg c = some (.ref C) ∧ v = .ref C
  | .tup ds, v => ∃ a vs, v = .ref a ∧ SqT G.K E a vs ∧ Reps G m E ds vs
  | .lst ds, v => ∃ a vs, v = .ref a ∧ E a = some (.lst vs) ∧ Reps G m E ds vs
  | .frl ds, v => ∃ a vs, v = .ref a ∧ SqL G.K E a vs ∧ Reps G m E ds vs
  | .obj c ks ds, v => ∃ a C dx vs, v = .ref a ∧ G.mg c = some (.ref C) ∧ E a = some (.ins C dx (ks.zip vs)) ∧ ks.length = ds.length ∧ Reps G m E ds vs
  | .loc n, v => ∃ a, v = .ref a ∧ m[n]? = some a
  | .opq o, v => ∃ a, v = .ref a ∧ E a = some o
def Reps (G : Gx) (m : List Addr) (E : Hp) : List D → List V → Prop
  | [], vs => vs = []
  | d :: ds, vs => ∃ v r, vs = v :: r ∧ Rep G m E d v ∧ Reps G m E ds r
end

theorem SqT.same {K : PySem.W.Frag} {H H' : Hp} {a : Addr} {xs : List V} (e : Same H H') (h : SqT K H a xs) : SqT K H' a xs := by
  rcases h with (h | ⟨o, h⟩) | h
  · exact .inl (.inl (e _ _ h))
  · exact .inl (.inr ⟨o, e _ _ h⟩)
  · exact .inr h
theorem pre_get {m m' : List Addr} {n : Nat} {a : Addr} (hp : m <+: m') (h : m[n]? = some a) : m'[n]? = some a := by
  obtain ⟨e, rfl⟩ := hp
  obtain ⟨hl, _⟩ := List.getElem?_eq_some_iff.mp h
  rw [List.getElem?_append_left hl]
  exact h
mutual
theorem Rep.mono {G : Gx} {m m' : List Addr} {E E' : Hp} (hp : m <+: m') (he : Same E E') : ∀ (d : D) (v : V), Rep G m E d v → Rep G m' E' d v
  | .non, v, r => by rw [Rep] at r ⊢; exact r
  | .bl b, v, r => by rw [Rep] at r ⊢; exact r
  | .int i, v, r => by rw [Rep] at r ⊢; exact r
  | .str s, v, r => by rw [Rep] at r ⊢; exact r
  | .ty n, v, r => by rw [Rep] at r ⊢; exact r
  | .cls c, v, r => by rw [Rep] at r ⊢; exact r
  | .tup ds, v, r => by
    rw [Rep] at r ⊢
    obtain ⟨a, vs, e, s, q⟩ := r
    exact ⟨a, vs, e, SqT.same he s, Reps.mono hp he _ _ q⟩
  | .lst ds, v, r => by
    rw [Rep] at r ⊢
    obtain ⟨a, vs, e, s, q⟩ := r
    exact ⟨a, vs, e, he _ _ s, Reps.mono hp he _ _ q⟩
  | .frl ds, v, r => by
    rw [Rep] at r ⊢
    obtain ⟨a, vs, e, s, q⟩ := r
    exact ⟨a, vs, e, Same.seq he s, Reps.mono hp he _ _ q⟩
  | .obj c ks ds, v, r => by
    rw [Rep] at r ⊢
    obtain ⟨a, C, dx, vs, e, g, s, l, q⟩ := r
    exact ⟨a, C, dx, vs, e, g, he _ _ s, l, Reps.mono hp he _ _ q⟩
  | .loc n, v, r => by
    rw [Rep] at r ⊢
    obtain ⟨a, e, s⟩ := r
    exact ⟨a, e, pre_get hp s⟩
  | .opq o, v, r => by
    rw [Rep] at r ⊢
    obtain ⟨a, e, s⟩ := r
    exact ⟨a, e, he _ _ s⟩
theorem Reps.mono {G : Gx} {m m' : List Addr} {E E' : Hp} (hp : m <+: m') (he : Same E E') : ∀ (ds : List D) (vs : List V), Reps G m E ds vs → Reps G m' E' ds vs
  | [], vs, r => by rw [Reps] at r ⊢; exact r
  | d :: ds, vs, r => by
    rw [Reps] at r ⊢
    obtain ⟨v, t, e, s, q⟩ := r
    exact ⟨v, t, e, Rep.mono hp he _ _ s, Reps.mono hp he _ _ q⟩
end
theorem Reps.len {G : Gx} {m : List Addr} {E : Hp} : ∀ {ds : List D} {vs : List V}, Reps G m E ds vs → ds.length = vs.length
  | [], vs, r => by rw [Reps] at r; rw [r]; rfl
  | d :: ds, vs, r => by
    rw [Reps] at r
    obtain ⟨v, t, e, _, q⟩ := r
    rw [e, List.length_cons, List.length_cons, Reps.len q]
theorem Reps.nil {G : Gx} {m : List Addr} {E : Hp} : Reps G m E [] [] := by rw [Reps]
theorem Reps.cons {G : Gx} {m : List Addr} {E : Hp} {d : D} {ds : List D} {v : V} {vs : List V} (h : Rep G m E d v) (t : Reps G m E ds vs) : Reps G m E (d :: ds) (v :: vs) := by
  rw [Reps]; exact ⟨v, vs, rfl, h, t⟩
theorem Reps.uncons {G : Gx} {m : List Addr} {E : Hp} {d : D} {ds : List D} {vs : List V} (h : Reps G m E (d :: ds) vs) : ∃ v r, vs = v :: r ∧ Rep G m E d v ∧ Reps G m E ds r := by
  rw [Reps] at h; exact h
theorem Reps.get {G : Gx} {m : List Addr} {E : Hp} : ∀ {ds : List D} {vs : List V} {i : Nat} {d : D}, Reps G m E ds vs → ds[i]? = some d → ∃ v, vs[i]? = some v ∧ Rep G m E d v
  | [], _, _, _, _, h => by simp at h
  | d0 :: ds, vs, 0, d, r, h => by
    obtain ⟨v, t, rfl, q, _⟩ := r.uncons
    simp at h; subst h
    exact ⟨v, rfl, q⟩
  | d0 :: ds, vs, i + 1, d, r, h => by
    obtain ⟨v, t, rfl, _, q⟩ := r.uncons
    obtain ⟨u, e, s⟩ := Reps.get (i := i) (d := d) q (by simpa using h)
    exact ⟨u, by simpa using e, s⟩
theorem Reps.get' {G : Gx} {m : List Addr} {E : Hp} {ds : List D} {vs : List V} {i : Nat} {v : V} (r : Reps G m E ds vs) (h : vs[i]? = some v) : ∃ d, ds[i]? = some d ∧ Rep G m E d v := by
  obtain ⟨hl, _⟩ := List.getElem?_eq_some_iff.mp h
  have hd : i < ds.length := by rw [r.len]; exact hl
  obtain ⟨u, e, s⟩ := r.get (List.getElem?_eq_getElem hd)
  rw [h] at e; cases e
  exact ⟨_, List.getElem?_eq_getElem hd, s⟩
theorem Reps.append {G : Gx} {m : List Addr} {E : Hp} : ∀ {ds es : List D} {vs us : List V}, Reps G m E ds vs → Reps G m E es us → Reps G m E (ds ++ es) (vs ++ us)
  | [], es, vs, us, r, q => by rw [Reps] at r; subst r; exact q
  | d :: ds, es, vs, us, r, q => by
    obtain ⟨v, t, rfl, h, r'⟩ := r.uncons
    exact Reps.cons h (Reps.append r' q)
theorem Reps.take {G : Gx} {m : List Addr} {E : Hp} : ∀ {ds : List D} {vs : List V} (n : Nat), Reps G m E ds vs → Reps G m E (ds.take n) (vs.take n)
  | ds, vs, 0, r => by simp [Reps]
  | [], vs, n + 1, r => by rw [Reps] at r; subst r; simp [Reps]
  | d :: ds, vs, n + 1, r => by
    obtain ⟨v, t, rfl, h, r'⟩ := r.uncons
    exact Reps.cons h (Reps.take n r')
theorem Reps.drop {G : Gx} {m : List Addr} {E : Hp} : ∀ {ds : List D} {vs : List V} (n : Nat), Reps G m E ds vs → Reps G m E (ds.drop n) (vs.drop n)
  | ds, vs, 0, r => r
  | [], vs, n + 1, r => by rw [Reps] at r; subst r; simp [Reps]
  | d :: ds, vs, n + 1, r => by
    obtain ⟨v, t, rfl, h, r'⟩ := r.uncons
    exact Reps.drop n r'
theorem Reps.set {G : Gx} {m : List Addr} {E : Hp} {d : D} {v : V} (h : Rep G m E d v) : ∀ {ds : List D} {vs : List V} (n : Nat), Reps G m E ds vs → Reps G m E (ds.set n d) (vs.set n v)
  | [], vs, n, r => by rw [Reps] at r; subst r; simp [Reps]
  | d0 :: ds, vs, 0, r => by
    obtain ⟨u, t, rfl, _, r'⟩ := r.uncons
    exact Reps.cons h r'
  | d0 :: ds, vs, n + 1, r => by
    obtain ⟨u, t, rfl, q, r'⟩ := r.uncons
    exact Reps.cons q (Reps.set h n r')
theorem Reps.eraseIdx {G : Gx} {m : List Addr} {E : Hp} : ∀ {ds : List D} {vs : List V} (n : Nat), Reps G m E ds vs → Reps G m E (ds.eraseIdx n) (vs.eraseIdx n)
  | [], vs, n, r => by rw [Reps] at r; subst r; simp [Reps]
  | d0 :: ds, vs, 0, r => by
    obtain ⟨u, t, rfl, _, r'⟩ := r.uncons
    exact r'
  | d0 :: ds, vs, n + 1, r => by
    obtain ⟨u, t, rfl, q, r'⟩ := r.uncons
    exact Reps.cons q (Reps.eraseIdx n r')
theorem Reps.reverse {G : Gx} {m : List Addr} {E : Hp} : ∀ {ds : List D} {vs : List V}, Reps G m E ds vs → Reps G m E ds.reverse vs.reverse
  | [], vs, r => by rw [Reps] at r; subst r; exact Reps.nil
  | d0 :: ds, vs, r => by
    obtain ⟨u, t, rfl, q, r'⟩ := r.uncons
    rw [List.reverse_cons, List.reverse_cons]
    exact Reps.append (Reps.reverse r') (Reps.cons q Reps.nil)
theorem Reps.map_of {G : Gx} {m : List Addr} {E : Hp} {α : Type} {f : α → D} {g : α → V} (h : ∀ x, Rep G m E (f x) (g x)) : ∀ l : List α, Reps G m E (l.map f) (l.map g)
  | [] => Reps.nil
  | x :: l => Reps.cons (h x) (Reps.map_of h l)

/-! ### what is seen of the heap: all but the hidden and the changeable -/
noncomputable def vis (W : Addr → Prop) (m : List Addr) (H : Hp) : Hp := fun b => open Classical in if W b ∨ b ∈ m then none else H b
theorem vis_some {W : Addr → Prop} {m : List Addr} {H : Hp} {b : Addr} {o : HO} : vis W m H b = some o ↔ (¬ W b ∧ b ∉ m ∧ H b = some o) := by
  unfold vis
  by_cases h : W b ∨ b ∈ m
  · rw [if_pos h]
    constructor
    · intro z; cases z
    · rintro ⟨h1, h2, _⟩
      exact absurd h (by simp [h1, h2])
  · rw [if_neg h]
    constructor
    · intro z
      exact ⟨fun q => h (.inl q), fun q => h (.inr q), z⟩
    · exact fun z => z.2.2
theorem vis_le {W : Addr → Prop} {m : List Addr} {H : Hp} : Same (vis W m H) H := fun b o h => (vis_some.mp h).2.2
def dkV (kvs : List (Int × Int)) : List (Key × V) := kvs.map fun p => (.inl p.1, .int p.2)
def skV (ks : List Str) (vs : List V) : List (Key × V) := (ks.zip vs).map fun p => (.inr p.1, p.2)
def CellOk (G : Gx) (m : List Addr) (E H : Hp) (c : Cell) (a : Addr) : Prop :=
  match c with
  | .lst ds => ∃ vs, H a = some (.lst vs) ∧ Reps G m E ds vs
  | .ins c ks ds => ∃ C dx vs, G.mg c = some (.ref C) ∧ H a = some (.ins C dx (ks.zip vs)) ∧ ks.length = ds.length ∧ Reps G m E ds vs
  | .pool => ∃ p q, PoolOk p q ∧ H a = some (.lst [.int p, .int q])
  | .dct kvs => H a = some (.dK (dkV kvs))
  | .dic ks ds => ∃ vs, H a = some (.dK (skV ks vs)) ∧ ks.length = ds.length ∧ Reps G m E ds vs
structure MuOk (G : Gx) (W : Addr → Prop) (m : List Addr) (μ : List Cell) (H : Hp) : Prop where
  len : m.length = μ.length
  nd : m.Nodup
  out : ∀ a ∈ m, ¬ W a
  hw : ∀ z, W z → H z ≠ none
  cell : ∀ (n : Nat) (c : Cell) (a : Addr), μ[n]? = some c → m[n]? = some a → CellOk G m (vis W m H) H c a
theorem CellOk.there {G : Gx} {m : List Addr} {E H : Hp} {c : Cell} {a : Addr} (h : CellOk G m E H c a) : H a ≠ none := by
  cases c with
  | lst ds => obtain ⟨_, e, _⟩ := h; rw [e]; intro z; cases z
  | ins c ks ds => obtain ⟨_, _, _, _, e, _⟩ := h; rw [e]; intro z; cases z
  | pool => obtain ⟨_, _, _, e⟩ := h; rw [e]; intro z; cases z
  | dct kvs => intro z; rw [show H a = some (.dK (dkV kvs)) from h] at z; cases z
  | dic ks ds => obtain ⟨_, e, _⟩ := h; rw [e]; intro z; cases z
theorem CellOk.keep {G : Gx} {m m' : List Addr} {E E' H H' : Hp} {c : Cell} {a : Addr} (hp : m <+: m') (he : Same E E') (e : H' a = H a) (h : CellOk G m E H c a) : CellOk G m' E' H' c a := by
  cases c with
  | lst ds =>
    obtain ⟨vs, h1, h2⟩ := h
    exact ⟨vs, e.trans h1, Reps.mono hp he _ _ h2⟩
  | ins c ks ds =>
    obtain ⟨C, dx, vs, h0, h1, hl, h2⟩ := h
    exact ⟨C, dx, vs, h0, e.trans h1, hl, Reps.mono hp he _ _ h2⟩
  | pool =>
    obtain ⟨p, q, h0, h1⟩ := h
    exact ⟨p, q, h0, e.trans h1⟩
  | dct kvs => exact e.trans h
  | dic ks ds =>
    obtain ⟨vs, h1, hl, h2⟩ := h
    exact ⟨vs, e.trans h1, hl, Reps.mono hp he _ _ h2⟩
theorem MuOk.mem {G : Gx} {W : Addr → Prop} {m : List Addr} {μ : List Cell} {H : Hp} (M : MuOk G W m μ H) {a : Addr} (h : a ∈ m) : H a ≠ none := by
  obtain ⟨n, hn, e⟩ := List.mem_iff_getElem.mp h
  have hn' : n < μ.length := by rw [← M.len]; exact hn
  exact (M.cell n μ[n] a (List.getElem?_eq_getElem hn') (by rw [List.getElem?_eq_getElem hn, e])).there
/-- a step of code: what was hidden stays, what was seen stays -/
structure Step (G : Gx) (W : Addr → Prop) (m : List Addr) (H : Hp) (m' : List Addr) (μ' : List Cell) (H' : Hp) : Prop where
  pre : m <+: m'
  hid : ∀ z, W z → H' z = H z
  mu : MuOk G W m' μ' H'
  same : Same (vis W m H) (vis W m' H')
theorem Step.refl {G : Gx} {W : Addr → Prop} {m : List Addr} {μ : List Cell} {H : Hp} (M : MuOk G W m μ H) : Step G W m H m μ H := ⟨List.prefix_refl _, fun _ _ => rfl, M, Same.refl _⟩
theorem Step.trans {G : Gx} {W : Addr → Prop} {m m1 m2 : List Addr} {μ1 μ2 : List Cell} {H H1 H2 : Hp} (a : Step G W m H m1 μ1 H1) (b : Step G W m1 H1 m2 μ2 H2) : Step G W m H m2 μ2 H2 :=
  ⟨a.pre.trans b.pre, fun z h => (b.hid z h).trans (a.hid z h), b.mu, a.same.trans b.same⟩
abbrev Mu := List Cell
abbrev DS := List Sl
/-- behind an expression -/
def VPost (G : Gx) (W : Addr → Prop) (m : List Addr) (H : Hp) (Q : D → Mu → Prop) (v : V) (H' : Hp) : Prop :=
  ∃ m' d μ', Step G W m H m' μ' H' ∧ Rep G m' (vis W m' H') d v ∧ Q d μ'
theorem VPost.now {G : Gx} {W : Addr → Prop} {m : List Addr} {μ : Mu} {H : Hp} {Q : D → Mu → Prop} {d : D} {v : V} (M : MuOk G W m μ H) (r : Rep G m (vis W m H) d v) (q : Q d μ) : VPost G W m H Q v H := ⟨m, d, μ, .refl M, r, q⟩
theorem VPost.from {G : Gx} {W : Addr → Prop} {m m1 : List Addr} {μ1 : Mu} {H H1 H' : Hp} {Q : D → Mu → Prop} {v : V} (s : Step G W m H m1 μ1 H1) (p : VPost G W m1 H1 Q v H') : VPost G W m H Q v H' := by
  obtain ⟨m', d, μ', s', r, q⟩ := p
  exact ⟨m', d, μ', s.trans s', r, q⟩
theorem VPost.imp {G : Gx} {W : Addr → Prop} {m : List Addr} {H H' : Hp} {Q Q' : D → Mu → Prop} {v : V} (p : VPost G W m H Q v H') (h : ∀ d μ, Q d μ → Q' d μ) : VPost G W m H Q' v H' := by
  obtain ⟨m', d, μ', s', r, q⟩ := p
  exact ⟨m', d, μ', s', r, h _ _ q⟩
/-- an exception's data: its class, its attributes -/
abbrev XD := Str → List Str → List D → Mu → Prop
def XPost (G : Gx) (W : Addr → Prop) (m : List Addr) (H : Hp) (Xd : XD) (cls : Value) (d : Option Addr) (H' : Hp) : Prop :=
  ∃ m' c ks es μ' C dd vs, Step G W m H m' μ' H' ∧ cls = .ref C ∧ d = some dd ∧ G.mg c = some (.ref C) ∧ vis W m' H' dd = some (.xd (ks.zip vs)) ∧ ks.length = es.length ∧ Reps G m' (vis W m' H') es vs ∧ Xd c ks es μ'
theorem XPost.from {G : Gx} {W : Addr → Prop} {m m1 : List Addr} {μ1 : Mu} {H H1 H' : Hp} {Xd : XD} {cls : Value} {d : Option Addr} (s : Step G W m H m1 μ1 H1) (p : XPost G W m1 H1 Xd cls d H') : XPost G W m H Xd cls d H' := by
  obtain ⟨m', c, ks, es, μ', C, dd, vs, s', r⟩ := p
  exact ⟨m', c, ks, es, μ', C, dd, vs, s.trans s', r⟩
theorem XPost.imp {G : Gx} {W : Addr → Prop} {m : List Addr} {H H' : Hp} {Xd Xd' : XD} {cls : Value} {d : Option Addr} (p : XPost G W m H Xd cls d H') (h : ∀ c ks es μ, Xd c ks es μ → Xd' c ks es μ) : XPost G W m H Xd' cls d H' := by
  obtain ⟨m', c, ks, es, μ', C, dd, vs, s', e1, e2, e3, e4, e5, e6, q⟩ := p
  exact ⟨m', c, ks, es, μ', C, dd, vs, s', e1, e2, e3, e4, e5, e6, h _ _ _ _ q⟩
/-- a new thing, seen -/
theorem MuOk.fresh {G : Gx} {W : Addr → Prop} {m : List Addr} {μ : Mu} {H : Hp} (M : MuOk G W m μ H) {p : Addr} (np : H p = none) : ¬ W p ∧ p ∉ m :=
  ⟨fun z => M.hw p z np, fun z => M.mem z np⟩
theorem vis_upd {G : Gx} {W : Addr → Prop} {m : List Addr} {μ : Mu} {H : Hp} (M : MuOk G W m μ H) {p : Addr} {o : HO} (np : H p = none) : vis W m (upd H p o) = upd (vis W m H) p o := by
  obtain ⟨h1, h2⟩ := M.fresh np
  funext b
  by_cases hb : b = p
  · subst hb
    rw [upd_same]
    exact vis_some.mpr ⟨h1, h2, upd_same⟩
  · rw [upd_ne hb]
    unfold vis
    rw [upd_ne hb]
theorem same_new {H : Hp} {p : Addr} {o : HO} (np : H p = none) : Same H (upd H p o) := fun b x e => by
  rw [upd_ne (ne_of_none e np)]; exact e
theorem vis_none {W : Addr → Prop} {m : List Addr} {H : Hp} {p : Addr} (np : H p = none) : vis W m H p = none := by
  cases e : vis W m H p with
  | none => rfl
  | some o => rw [(vis_some.mp e).2.2] at np; cases np
theorem MuOk.laid {G : Gx} {W : Addr → Prop} {m : List Addr} {μ : Mu} {H : Hp} (M : MuOk G W m μ H) {p : Addr} {o : HO} (np : H p = none) : MuOk G W m μ (upd H p o) := by
  obtain ⟨h1, h2⟩ := M.fresh np
  refine ⟨M.len, M.nd, M.out, fun z hz => ?_, fun n c a hc ha => ?_⟩
  · by_cases e : z = p
    · subst e; rw [upd_same]; intro q; cases q
    · rw [upd_ne e]; exact M.hw z hz
  · have ne : a ≠ p := fun e => h2 (e ▸ List.mem_of_getElem? ha)
    rw [vis_upd M np]
    exact (M.cell n c a hc ha).keep (List.prefix_refl _) (same_new (vis_none np)) (upd_ne ne)
theorem Step.laid {G : Gx} {W : Addr → Prop} {m : List Addr} {μ : Mu} {H : Hp} (M : MuOk G W m μ H) {p : Addr} {o : HO} (np : H p = none) : Step G W m H m μ (upd H p o) := by
  refine ⟨List.prefix_refl _, fun z hz => upd_ne fun e => ?_, M.laid np, ?_⟩
  · subst e; exact M.hw z hz np
  · rw [vis_upd M np]; exact same_new (vis_none np)

/-! ### slots -/
def ownW (Z : Addr → Prop) (σ : L2.St) (ρ : DS) (b : Addr) : Prop := Z b ∨ ∃ (i : Nat) (c : Cell), ρ[i]? = some (Sl.own b c)
def ExOk (G : Gx) (m : List Addr) (E : Hp) (o : Option (Option V)) (c : Str) (ks : List Str) (ds : List D) : Prop :=
  ∃ a C dd vs, G.ex = some (a, C, dd) ∧ G.mg c = some (.ref C) ∧ o = some (some (V.ref a)) ∧ E dd = some (.xd (ks.zip vs)) ∧ ks.length = ds.length ∧ Reps G m E ds vs
theorem ExOk.mono {G : Gx} {m m' : List Addr} {E E' : Hp} {o : Option (Option V)} {c : Str} {ks : List Str} {ds : List D} (hp : m <+: m') (he : Same E E') (h : ExOk G m E o c ks ds) : ExOk G m' E' o c ks ds := by
  obtain ⟨a, C, dd, vs, h1, h2, h3, h4, h5, h6⟩ := h
  exact ⟨a, C, dd, vs, h1, h2, h3, he _ _ h4, h5, Reps.mono hp he _ _ h6⟩
structure SR (G : Gx) (Z : Addr → Prop) (m : List Addr) (σ : L2.St) (H : Hp) (ρ : DS) (μ : Mu) : Prop where
  len : ρ.length = σ.length
  mu : MuOk G (ownW Z σ ρ) m μ H
  val : ∀ (i : Nat) d, ρ[i]? = some (Sl.v d) → ∃ v, σ[i]? = some (some v) ∧ Rep G m (vis (ownW Z σ ρ) m H) d v
  own : ∀ (i : Nat) a c, ρ[i]? = some (Sl.own a c) → σ[i]? = some (some (V.ref a)) ∧ ¬ Z a ∧ CellOk G m (vis (ownW Z σ ρ) m H) H c a
  dis : ∀ (i j : Nat) (a : Addr) c c', ρ[i]? = some (Sl.own a c) → ρ[j]? = some (Sl.own a c') → i = j
  exn : ∀ (i : Nat) c ks ds, ρ[i]? = some (Sl.exn c ks ds) → ExOk G m (vis (ownW Z σ ρ) m H) (σ[i]?) c ks ds
theorem SR.step {G : Gx} {Z : Addr → Prop} {m m' : List Addr} {σ : L2.St} {H H' : Hp} {ρ : DS} {μ μ' : Mu} (S : SR G Z m σ H ρ μ) (s : Step G (ownW Z σ ρ) m H m' μ' H') : SR G Z m' σ H' ρ μ' := by
  refine ⟨S.len, s.mu, fun i d e => ?_, fun i a c e => ?_, S.dis, fun i c ks ds e => (S.exn i c ks ds e).mono s.pre s.same⟩
  · obtain ⟨v, e1, r⟩ := S.val i d e
    exact ⟨v, e1, Rep.mono s.pre s.same _ _ r⟩
  · obtain ⟨e1, nz, r⟩ := S.own i a c e
    exact ⟨e1, nz, r.keep s.pre s.same (s.hid a (.inr ⟨i, c, e⟩))⟩

/-! ### expressions -/
abbrev WE := DS → Mu → (D → Mu → Prop) → XD → Prop
/-- a reading by data as a reading: where the state is told by data -/
def lift (G : Gx) (W : WX) (w : WE) : TE := fun σ H Q' => ∃ Z m ρ μ Q Xd, SR G Z m σ H ρ μ ∧ w ρ μ Q Xd ∧ (∀ v H', VPost G (ownW Z σ ρ) m H Q v H' → Q' v H') ∧ ∀ cls d H', XPost G (ownW Z σ ρ) m H Xd cls d H' → W cls d σ H'
abbrev gx (X : Cx) (ex : Option (Addr × Addr × Addr)) : Gx := ⟨X.K, X.mg, ex⟩
abbrev DE (ex : Option (Addr × Addr × Addr)) (W : WX) (X : Cx) (e : Expr) (w : WE) : Prop := PE X e (lift (gx X ex) W w)
theorem pe_weak {X : Cx} {e : Expr} {t t' : TE} (h : PE X e t) (k : ∀ σ H Q, t' σ H Q → t σ H Q) : PE X e t' := ⟨fun pins s σ H Q I q => h.run pins s σ H Q I (k σ H Q q)⟩
/-- a name -/
def wVar (i : Nat) : WE := fun ρ μ Q _ => match ρ[i]? with
  | some (.v d) => Q d μ
  | _ => False
def wC (d : D) : WE := fun _ μ Q _ => Q d μ
section
variable {ex : Option (Addr × Addr × Addr)} {W : WX} {X : Cx}
theorem de_name {e : Expr} {i : Nat} (h : PE X e (tVar i)) : DE ex W X e (wVar i) := pe_weak h fun σ H Q' q => by
  obtain ⟨Z, m, ρ, μ, Q, Xd, S, q, k, kx⟩ := q
  unfold wVar at q
  split at q
  · rename_i d e
    obtain ⟨v, e1, r⟩ := S.val i d e
    exact ⟨v, e1, k v H (.now S.mu r q)⟩
  · exact q.elim
theorem dv (i : Nat) {x : Str} {pos : Pos} (hN : X.N[i]? = some x := by rfl) (hv : Vis X.env.scope x := by first | exact Or.inl rfl | exact Or.inr (Or.inl rfl) | exact Or.inr (Or.inr rfl)) (hd : (x == ("__debug__" : Str)) = false := by decide)
    (hcd : (x == ("__classdict__" : Str)) = false := by decide) : DE ex W X (.Name x pos) (wVar i) := de_name (pe_var hN hv hd hcd)
theorem de_c {e : Expr} {v : V} {d : D} (h : PE X e (tC v)) (hr : ∀ m E, Rep (gx X ex) m E d v) : DE ex W X e (wC d) := pe_weak h fun σ H Q' q => by
  obtain ⟨Z, m, ρ, μ, Q, Xd, S, q, k, kx⟩ := q
  exact k v H (.now S.mu (hr _ _) q)
theorem de_int {i j pos} : DE ex W X (.Constant (.int i) j pos) (wC (.int i)) := de_c pe_int fun _ _ => by rw [Rep]
theorem de_bl {b j pos} : DE ex W X (.Constant (.bool b) j pos) (wC (.bl b)) := de_c pe_bl fun _ _ => by rw [Rep]
theorem de_non {j pos} : DE ex W X (.Constant .none j pos) (wC .non) := de_c pe_non fun _ _ => by rw [Rep]
theorem de_str {x j pos} : DE ex W X (.Constant (.str x) j pos) (wC (.str x)) := de_c pe_str fun _ _ => by rw [Rep]
/-- a class of the text, as a value -/
theorem de_cls {x : Str} {C : Addr} {pos : Pos} (hg : Gl X x) (hm : X.mg x = some (.ref C)) (hd : (x == ("__debug__" : Str)) = false := by decide) : DE ex W X (.Name x pos) (wC (.cls x)) :=
  de_c (pe_glob hg hm (v := .ref C) rfl hd) fun _ _ => by rw [Rep]; exact ⟨C, hm, rfl⟩
/-- a built-in type, as a value -/
theorem de_ty {x : Str} {T : String} {pos : Pos} (hg : Gl X x) (hm : X.mg x = none) (hv : bootBuiltins x = some (.type T)) (hn : x ≠ "__name__" := by decide) (hd : (x == ("__debug__" : Str)) = false := by decide) : DE ex W X (.Name x pos) (wC (.ty T)) :=
  de_c (pe_bltn hg hm hv (v := .ty T) rfl hn hd) fun _ _ => by rw [Rep]
/-- a module's int -/
theorem de_gint {x : Str} {i : Int} {t : Tok} {pos : Pos} (hg : Gl X x) (hm : X.mg x = some (.int i t)) (hd : (x == ("__debug__" : Str)) = false := by decide) : DE ex W X (.Name x pos) (wC (.int i)) :=
  de_c (pe_glob hg hm (v := .int i) ⟨t, rfl⟩ hd) fun _ _ => by rw [Rep]
end
/-! ### operations on values -/
abbrev F2 := D → D → Mu → (D → Mu → Prop) → Prop
abbrev F1 := D → Mu → (D → Mu → Prop) → Prop
abbrev FN := List D → Mu → (D → Mu → Prop) → Prop
def w2 (f : F2) (wa wb : WE) : WE := fun ρ μ Q Xd => wa ρ μ (fun x μ1 => wb ρ μ1 (fun y μ2 => f x y μ2 Q) Xd) Xd
def w1 (f : F1) (wa : WE) : WE := fun ρ μ Q Xd => wa ρ μ (fun x μ1 => f x μ1 Q) Xd
def S2 (G : Gx) (r : R2) (f : F2) : Prop := ∀ (Z : Addr → Prop) (m : List Addr) (μ : Mu) (H : Hp) (x y : D) (u v : V) (Q : D → Mu → Prop) (Q' : VK),
  MuOk G Z m μ H → Rep G m (vis Z m H) x u → Rep G m (vis Z m H) y v → f x y μ Q → (∀ z H', VPost G Z m H Q z H' → Q' z H') → r u v H Q'
def S1 (G : Gx) (r : V → Hp → VK → Prop) (f : F1) : Prop := ∀ (Z : Addr → Prop) (m : List Addr) (μ : Mu) (H : Hp) (x : D) (u : V) (Q : D → Mu → Prop) (Q' : VK),
  MuOk G Z m μ H → Rep G m (vis Z m H) x u → f x μ Q → (∀ z H', VPost G Z m H Q z H' → Q' z H') → r u H Q'
def SN (G : Gx) (r : List V → Hp → VK → Prop) (f : FN) : Prop := ∀ (Z : Addr → Prop) (m : List Addr) (μ : Mu) (H : Hp) (xs : List D) (us : List V) (Q : D → Mu → Prop) (Q' : VK),
  MuOk G Z m μ H → Reps G m (vis Z m H) xs us → f xs μ Q → (∀ z H', VPost G Z m H Q z H' → Q' z H') → r us H Q'
/-- one operand behind another -/
theorem lift_bind {G : Gx} {W : WX} {wa : WE} {σ : L2.St} {H : Hp} {Q' : VK} {f : D → DS → Mu → (D → Mu → Prop) → XD → Prop} {R : V → Hp → Prop}
    (q : lift G W (fun ρ μ Q Xd => wa ρ μ (fun x μ1 => f x ρ μ1 Q Xd) Xd) σ H Q')
    (h : ∀ (Z : Addr → Prop) (m : List Addr) (ρ : DS) (μ : Mu) (Q : D → Mu → Prop) (Xd : XD) (x : D) (v : V) (H1 : Hp), SR G Z m σ H1 ρ μ → Rep G m (vis (ownW Z σ ρ) m H1) x v → f x ρ μ Q Xd →
      (∀ v H', VPost G (ownW Z σ ρ) m H1 Q v H' → Q' v H') → (∀ cls d H', XPost G (ownW Z σ ρ) m H1 Xd cls d H' → W cls d σ H') → R v H1) : lift G W wa σ H R := by
  obtain ⟨Z, m, ρ, μ, Q, Xd, S, q, k, kx⟩ := q
  refine ⟨Z, m, ρ, μ, _, Xd, S, q, fun v H1 P => ?_, kx⟩
  obtain ⟨m1, d, μ1, s1, r1, q1⟩ := P
  exact h Z m1 ρ μ1 Q Xd d v H1 (S.step s1) r1 q1 (fun v H' P => k v H' (VPost.from s1 P)) fun cls d H' P => kx cls d H' (XPost.from s1 P)
theorem lift_w2 {G : Gx} {W : WX} {r : R2} {f : F2} (hf : S2 G r f) {wa wb : WE} {σ : L2.St} {H : Hp} {Q' : VK} (q : lift G W (w2 f wa wb) σ H Q') : tOp r (lift G W wa) (lift G W wb) σ H Q' := by
  refine lift_bind (f := fun x ρ μ1 Q Xd => wb ρ μ1 (fun y μ2 => f x y μ2 Q) Xd) q fun Z m ρ μ Q Xd x v H1 S r1 q1 k kx => ?_
  refine ⟨Z, m, ρ, μ, _, Xd, S, q1, fun u H2 P => ?_, kx⟩
  obtain ⟨m2, y, μ2, s2, r2, q2⟩ := P
  exact hf _ m2 μ2 H2 x y v u Q Q' s2.mu (Rep.mono s2.pre s2.same _ _ r1) r2 q2 fun z H' P => k z H' (VPost.from s2 P)
theorem lift_w1 {G : Gx} {W : WX} {r : V → Hp → VK → Prop} {f : F1} (hf : S1 G r f) {wa : WE} {σ : L2.St} {H : Hp} {Q' : VK} (q : lift G W (w1 f wa) σ H Q') : tUn r (lift G W wa) σ H Q' := by
  refine lift_bind (f := fun x ρ μ1 Q Xd => f x μ1 Q) q fun Z m ρ μ Q Xd x v H1 S r1 q1 k kx => ?_
  exact hf _ m μ H1 x v Q Q' S.mu r1 q1 k
section
variable {ex : Option (Addr × Addr × Addr)} {W : WX} {X : Cx} {a b c : Expr} {wa wb wc : WE} {pos : Pos}
theorem de_op {op : Operator} {r : R2} {f : F2} (ho : OpR X (binaryOp op) r) (hf : S2 (gx X ex) r f) (ha : DE ex W X a wa) (hb : DE ex W X b wb) : DE ex W X (.BinOp a op b pos) (w2 f wa wb) := pe_weak (pe_op ho ha hb) fun _ _ _ q => lift_w2 hf q
theorem de_un {op : UnaryOp} {r : V → Hp → VK → Prop} {f : F1} (ho : UnR X (unaryOp op) r) (hf : S1 (gx X ex) r f) (ha : DE ex W X a wa) : DE ex W X (.UnaryOp op a pos) (w1 f wa) := pe_weak (pe_un ho ha) fun _ _ _ q => lift_w1 hf q
theorem de_cmp {op : CmpOp} {r : R2} {f : F2} (ho : OpR X (compareOp op) r) (hf : S2 (gx X ex) r f) (ha : DE ex W X a wa) (hb : DE ex W X b wb) (hm : behindInMarks op b = false) : DE ex W X (.Compare a [op] [b] pos) (w2 f wa wb) := pe_weak (pe_cmpR ho ha hb hm) fun _ _ _ q => lift_w2 hf q
theorem de_ix {r : R2} {f : F2} (hr : IxR X r) (hf : S2 (gx X ex) r f) (ha : DE ex W X a wa) (hb : DE ex W X b wb) (hs : PlainIx b := by exact fun _ _ => rfl) : DE ex W X (.Subscript a b pos) (w2 f wa wb) := pe_weak (pe_ix hr ha hb hs) fun _ _ _ q => lift_w2 hf q
end
/-! ### tests -/
abbrev WT := DS → Mu → (Bool → Mu → Prop) → XD → Prop
def BPost (G : Gx) (Z : Addr → Prop) (m : List Addr) (H : Hp) (Q : Bool → Mu → Prop) (b : Bool) (H' : Hp) : Prop :=
  ∃ m' μ', Step G Z m H m' μ' H' ∧ Q b μ'
theorem BPost.from {G : Gx} {Z : Addr → Prop} {m m1 : List Addr} {μ1 : Mu} {H H1 H' : Hp} {Q : Bool → Mu → Prop} {v : Bool} (s : Step G Z m H m1 μ1 H1) (p : BPost G Z m1 H1 Q v H') : BPost G Z m H Q v H' := by
  obtain ⟨m', μ', s', q⟩ := p
  exact ⟨m', μ', s.trans s', q⟩
def liftT (G : Gx) (W : WX) (w : WT) : TT := fun σ H Q' => ∃ Z m ρ μ Q Xd, SR G Z m σ H ρ μ ∧ w ρ μ Q Xd ∧ (∀ b H', BPost G (ownW Z σ ρ) m H Q b H' → Q' b H') ∧ ∀ cls d H', XPost G (ownW Z σ ρ) m H Xd cls d H' → W cls d σ H'
abbrev DT (ex : Option (Addr × Addr × Addr)) (W : WX) (X : Cx) (e : Expr) (w : WT) : Prop := PT X e (liftT (gx X ex) W w)
abbrev DW (ex : Option (Addr × Addr × Addr)) (W : WX) (X : Cx) (e : Expr) (w : WT) : Prop := PW X e (liftT (gx X ex) W w)
theorem pt_weak {X : Cx} {e : Expr} {t t' : TT} (h : PT X e t) (k : ∀ σ H Q, t' σ H Q → t σ H Q) : PT X e t' := ⟨fun pins s σ H Q I q => h.run pins s σ H Q I (k σ H Q q)⟩
theorem pw_weak {X : Cx} {e : Expr} {t t' : TT} (h : PW X e t) (k : ∀ σ H Q, t' σ H Q → t σ H Q) : PW X e t' := ⟨fun wh pins s σ H Q I q => h.run wh pins s σ H Q I (k σ H Q q)⟩
/-- an expression that gives a truth, as a test -/
def fBool : D → (Bool → Prop) → Prop
  | .bl b, Q => Q b
  | _, _ => False
def wB (w : WE) : WT := fun ρ μ Q Xd => w ρ μ (fun d μ1 => fBool d fun b => Q b μ1) Xd
theorem fBool_of {d : D} {Q : Bool → Prop} (h : fBool d Q) : ∃ b, d = .bl b ∧ Q b := by
  cases d <;> first | exact h.elim | exact ⟨_, rfl, h⟩
theorem lift_wB {G : Gx} {W : WX} {w : WE} {σ : L2.St} {H : Hp} {Q' : Bool → Hp → Prop} (q : liftT G W (wB w) σ H Q') : tTest (lift G W w) σ H Q' := by
  obtain ⟨Z, m, ρ, μ, Q, Xd, S, q, k, kx⟩ := q
  refine ⟨Z, m, ρ, μ, _, Xd, S, q, fun v H1 P => ?_, kx⟩
  obtain ⟨m1, d, μ1, s1, r1, q1⟩ := P
  obtain ⟨b, rfl, q2⟩ := fBool_of q1
  rw [Rep] at r1
  exact ⟨b, r1, k b H1 ⟨m1, μ1, s1, q2⟩⟩
section
variable {ex : Option (Addr × Addr × Addr)} {W : WX} {X : Cx} {a b c : Expr} {wa wb wc : WE} {ta tb tc : WT} {pos : Pos} {rest : List Expr}
theorem dt_val (h : DE ex W X a wa) (he : ∀ whole, isTrue a X.env whole = (do let v ← whole; standAt a.pos; holding [v] (truthy v)) := by intro _; rfl) : DT ex W X a (wB wa) :=
  pt_weak (pt_val h he) fun _ _ _ q => lift_wB q
theorem dt_cmp {op : CmpOp} {r : R2} {f : F2} (ho : OpR X (compareOp op) r) (hf : S2 (gx X ex) r f) (ha : DE ex W X a wa) (hb : DE ex W X b wb) (hm : behindInMarks op b = false) : DT ex W X (.Compare a [op] [b] pos) (wB (w2 f wa wb)) :=
  pt_weak (pt_cmpR ho ha hb hm) fun σ H Q q => by
    have h := lift_wB q
    obtain h : lift _ _ _ σ H _ := h
    exact lift_w2 hf h
/-- chained comparisons -/
def wChain (f f' : F2) (wa wb wc : WE) : WE := fun ρ μ Q Xd => wa ρ μ (fun x μ1 => wb ρ μ1 (fun y μ2 => f x y μ2 fun z μ3 => fBool z fun k => if k = true then wc ρ μ3 (fun w' μ4 => f' y w' μ4 Q) Xd else Q (.bl false) μ3) Xd) Xd
theorem lift_chain {G : Gx} {r r' : R2} {f f' : F2} (hf : S2 G r f) (hf' : S2 G r' f') {σ : L2.St} {H : Hp} {Q' : VK} (q : lift G W (wChain f f' wa wb wc) σ H Q') : tChain r r' (lift G W wa) (lift G W wb) (lift G W wc) σ H Q' := by
  refine lift_bind (f := fun x ρ μ1 Q Xd => wb ρ μ1 (fun y μ2 => f x y μ2 fun z μ3 => fBool z fun k => if k = true then wc ρ μ3 (fun w' μ4 => f' y w' μ4 Q) Xd else Q (.bl false) μ3) Xd) q fun Z m ρ μ Q Xd x v H1 S r1 q1 k kx => ?_
  refine ⟨Z, m, ρ, μ, _, Xd, S, q1, fun u H2 P => ?_, kx⟩
  obtain ⟨m2, y, μ2, s2, r2, q2⟩ := P
  refine hf _ m2 μ2 H2 x y v u _ _ s2.mu (Rep.mono s2.pre s2.same _ _ r1) r2 q2 fun z H3 P => ?_
  obtain ⟨m3, zd, μ3, s3, r3, q3⟩ := P
  obtain ⟨b, rfl, q4⟩ := fBool_of q3
  rw [Rep] at r3
  refine ⟨b, r3, ?_⟩
  have S3 := (S.step s2).step s3
  cases b with
  | false =>
    rw [if_neg Bool.false_ne_true] at q4 ⊢
    exact k _ _ (VPost.from (s2.trans s3) (.now s3.mu (by rw [Rep]) q4))
  | true =>
    rw [if_pos rfl] at q4 ⊢
    refine ⟨Z, m3, ρ, μ3, _, Xd, S3, q4, fun w' H4 P => ?_, fun cls d H' P => kx cls d H' (XPost.from (s2.trans s3) P)⟩
    obtain ⟨m4, wd, μ4, s4, r4, q5⟩ := P
    exact hf' _ m4 μ4 H4 y wd u w' Q Q' s4.mu (Rep.mono (s3.trans s4).pre (s3.trans s4).same _ _ r2) r4 q5 fun z H' P => k z H' (VPost.from ((s2.trans s3).trans s4) P)
theorem de_chain {op op' : CmpOp} {r r' : R2} {f f' : F2} (ho : OpR X (compareOp op) r) (hf : S2 (gx X ex) r f) (ho' : OpR X (compareOp op') r') (hf' : S2 (gx X ex) r' f') (ha : DE ex W X a wa) (hb : DE ex W X b wb) (hc : DE ex W X c wc)
    (hm : lastMarks [op, op'] [b, c] = false := by with_unfolding_all rfl) : DE ex W X (.Compare a [op, op'] [b, c] pos) (wChain f f' wa wb wc) := pe_weak (pe_chain ho ho' ha hb hc hm) fun _ _ _ q => lift_chain hf hf' q
/-! and, or, not, as tests -/
def wAnd (t u : WT) : WT := fun ρ μ Q Xd => t ρ μ (fun c μ1 => if c = true then u ρ μ1 Q Xd else Q false μ1) Xd
def wOr (t u : WT) : WT := fun ρ μ Q Xd => t ρ μ (fun c μ1 => if c = true then Q true μ1 else u ρ μ1 Q Xd) Xd
def wNot (t : WT) : WT := fun ρ μ Q Xd => t ρ μ (fun c μ1 => Q (!c) μ1) Xd
theorem dw_and1 (h : DT ex W X a ta) : DW ex W X (.BoolOp .And [a] pos) ta := pw_and1 h
theorem dw_or1 (h : DT ex W X a ta) : DW ex W X (.BoolOp .Or [a] pos) ta := pw_or1 h
theorem dw_and (ha : DT ex W X a ta) (hb : DW ex W X (.BoolOp .And (b :: rest) pos) tb) : DW ex W X (.BoolOp .And (a :: b :: rest) pos) (wAnd ta tb) := pw_weak (pw_and ha hb) fun σ H Q' q => by
  obtain ⟨Z, m, ρ, μ, Q, Xd, S, q, k, kx⟩ := q
  refine ⟨Z, m, ρ, μ, _, Xd, S, q, fun c H1 P => ?_, kx⟩
  obtain ⟨m1, μ1, s1, q1⟩ := P
  cases c with
  | false => exact k false H1 ⟨m1, μ1, s1, q1⟩
  | true =>
    rw [if_pos rfl] at q1 ⊢
    exact ⟨Z, m1, ρ, μ1, _, Xd, S.step s1, q1, fun b H2 P => k b H2 (BPost.from s1 P), fun cls d H' P => kx cls d H' (XPost.from s1 P)⟩
theorem dw_or (ha : DT ex W X a ta) (hb : DW ex W X (.BoolOp .Or (b :: rest) pos) tb) : DW ex W X (.BoolOp .Or (a :: b :: rest) pos) (wOr ta tb) := pw_weak (pw_or ha hb) fun σ H Q' q => by
  obtain ⟨Z, m, ρ, μ, Q, Xd, S, q, k, kx⟩ := q
  refine ⟨Z, m, ρ, μ, _, Xd, S, q, fun c H1 P => ?_, kx⟩
  obtain ⟨m1, μ1, s1, q1⟩ := P
  cases c with
  | true => exact k true H1 ⟨m1, μ1, s1, q1⟩
  | false =>
    rw [if_neg Bool.false_ne_true] at q1 ⊢
    exact ⟨Z, m1, ρ, μ1, _, Xd, S.step s1, q1, fun b H2 P => k b H2 (BPost.from s1 P), fun cls d H' P => kx cls d H' (XPost.from s1 P)⟩
theorem dt_w {e : Expr} (h : DW ex W X e ta) : DT ex W X e ta := PW.pt h
theorem dt_not (h : DT ex W X a ta) : DT ex W X (.UnaryOp .Not a pos) (wNot ta) := pt_weak (pt_not h) fun σ H Q' q => by
  obtain ⟨Z, m, ρ, μ, Q, Xd, S, q, k, kx⟩ := q
  refine ⟨Z, m, ρ, μ, _, Xd, S, q, fun c H1 P => ?_, kx⟩
  obtain ⟨m1, μ1, s1, q1⟩ := P
  exact k (!c) H1 ⟨m1, μ1, s1, q1⟩
end
end DL

set_option Elab.async false
set_option linter.all false
set_option maxRecDepth 100000
set_option maxHeartbeats 4000000
set_option autoImplicit false
namespace DL
open PySem PySem.Spec PyProof.Rows L2
/-! ### argument lists, displays, calls -/
abbrev WA := DS → Mu → (List D → Mu → Prop) → XD → Prop
def APost (G : Gx) (Z : Addr → Prop) (m : List Addr) (H : Hp) (Q : List D → Mu → Prop) (vs : List V) (H' : Hp) : Prop :=
  ∃ m' ds μ', Step G Z m H m' μ' H' ∧ Reps G m' (vis Z m' H') ds vs ∧ Q ds μ'
theorem APost.from {G : Gx} {Z : Addr → Prop} {m m1 : List Addr} {μ1 : Mu} {H H1 H' : Hp} {Q : List D → Mu → Prop} {vs : List V} (s : Step G Z m H m1 μ1 H1) (p : APost G Z m1 H1 Q vs H') : APost G Z m H Q vs H' := by
  obtain ⟨m', d, μ', s', r, q⟩ := p
  exact ⟨m', d, μ', s.trans s', r, q⟩
def liftA (G : Gx) (W : WX) (w : WA) : TA := fun σ H Q' => ∃ Z m ρ μ Q Xd, SR G Z m σ H ρ μ ∧ w ρ μ Q Xd ∧ (∀ vs H', APost G (ownW Z σ ρ) m H Q vs H' → Q' vs H') ∧ ∀ cls d H', XPost G (ownW Z σ ρ) m H Xd cls d H' → W cls d σ H'
abbrev DA (ex : Option (Addr × Addr × Addr)) (W : WX) (X : Cx) (es : List Expr) (w : WA) : Prop := PA X es (liftA (gx X ex) W w)
theorem pa_weak {X : Cx} {es : List Expr} {t t' : TA} (h : PA X es t) (k : ∀ σ H Q, t' σ H Q → t σ H Q) : PA X es t' := ⟨fun pos pins s σ H Q I q => h.run pos pins s σ H Q I (k σ H Q q)⟩
def wNil : WA := fun _ μ Q _ => Q [] μ
def wCons (wa : WE) (wr : WA) : WA := fun ρ μ Q Xd => wa ρ μ (fun d μ1 => wr ρ μ1 (fun ds μ2 => Q (d :: ds) μ2) Xd) Xd
def wTup (wa : WA) : WE := fun ρ μ Q Xd => wa ρ μ (fun ds μ1 => ds.length ≤ 1000 ∧ Q (.tup ds) μ1) Xd
def wLst (wa : WA) : WE := fun ρ μ Q Xd => wa ρ μ (fun ds μ1 => ds.length ≤ 1000 ∧ Q (.lst ds) μ1) Xd
def wN (f : FN) (wa : WA) : WE := fun ρ μ Q Xd => wa ρ μ (fun ds μ1 => f ds μ1 Q) Xd
abbrev DSp := List D → Mu → (D → Mu → Prop) → XD → Prop
def wCall (sp : DSp) (wa : WA) : WE := fun ρ μ Q Xd => wa ρ μ (fun ds μ1 => sp ds μ1 Q Xd) Xd
theorem le1000 {n : Nat} (h : n ≤ 1000) : n ≤ sizeLine := Nat.le_trans h (by decide)
section
variable {ex : Option (Addr × Addr × Addr)} {W : WX} {X : Cx} {e : Expr} {es : List Expr} {wa : WE} {ws : WA} {pos : Pos}
theorem da_nil : DA ex W X [] wNil := pa_weak pa_nil fun σ H Q' q => by
  obtain ⟨Z, m, ρ, μ, Q, Xd, S, q, k, kx⟩ := q
  exact k [] H ⟨m, [], μ, .refl S.mu, Reps.nil, q⟩
theorem lift_cons {G : Gx} {σ : L2.St} {H : Hp} {Q' : List V → Hp → Prop} (q : liftA G W (wCons wa ws) σ H Q') : tCons (lift G W wa) (liftA G W ws) σ H Q' := by
  obtain ⟨Z, m, ρ, μ, Q, Xd, S, q, k, kx⟩ := q
  refine ⟨Z, m, ρ, μ, _, Xd, S, q, fun v H1 P => ?_, kx⟩
  obtain ⟨m1, d, μ1, s1, r1, q1⟩ := P
  refine ⟨Z, m1, ρ, μ1, _, Xd, S.step s1, q1, fun vs H2 P => ?_, fun cls d H' P => kx cls d H' (XPost.from s1 P)⟩
  obtain ⟨m2, ds, μ2, s2, r2, q2⟩ := P
  exact k _ _ ⟨m2, d :: ds, μ2, s1.trans s2, Reps.cons (Rep.mono s2.pre s2.same _ _ r1) r2, q2⟩
theorem da_cons (ha : DE ex W X e wa) (hr : DA ex W X es ws) (hs : starEach (e :: es) X.env = (false, eval e X.env) :: starEach es X.env := by rfl) : DA ex W X (e :: es) (wCons wa ws) :=
  pa_weak (pa_cons ha hr hs) fun _ _ _ q => lift_cons q
theorem de_tup {x1} (h : DA ex W X es ws) : DE ex W X (.Tuple es x1 pos) (wTup ws) := pe_weak (pe_tup h) fun σ H Q' q => by
  obtain ⟨Z, m, ρ, μ, Q, Xd, S, q, k, kx⟩ := q
  refine ⟨Z, m, ρ, μ, _, Xd, S, q, fun vs H1 P => ?_, kx⟩
  obtain ⟨m1, ds, μ1, s1, r1, hl, q1⟩ := P
  refine ⟨by rw [← r1.len]; exact le1000 hl, fun p np => k _ _ ?_⟩
  have s2 := Step.laid (o := .tup vs) s1.mu np
  refine VPost.from s1 ⟨m1, _, μ1, s2, ?_, q1⟩
  rw [Rep]
  refine ⟨p, vs, rfl, .inl (.inl ?_), Reps.mono s2.pre s2.same _ _ r1⟩
  rw [vis_upd s1.mu np, upd_same]
theorem lift_lst {G : Gx} {σ : L2.St} {H : Hp} {Q' : VK} (q : lift G W (wLst ws) σ H Q') : tLst (liftA G W ws) σ H Q' := by
  obtain ⟨Z, m, ρ, μ, Q, Xd, S, q, k, kx⟩ := q
  refine ⟨Z, m, ρ, μ, _, Xd, S, q, fun vs H1 P => ?_, kx⟩
  obtain ⟨m1, ds, μ1, s1, r1, hl, q1⟩ := P
  refine ⟨by rw [← r1.len]; exact le1000 hl, fun p np => k _ _ ?_⟩
  have s2 := Step.laid (o := .lst vs) s1.mu np
  refine VPost.from s1 ⟨m1, _, μ1, s2, ?_, q1⟩
  rw [Rep]
  refine ⟨p, vs, rfl, ?_, Reps.mono s2.pre s2.same _ _ r1⟩
  rw [vis_upd s1.mu np, upd_same]
theorem de_lst (h : DA ex W X es ws) : DE ex W X (.List es pos) (wLst ws) := pe_weak (pe_lst h) fun _ _ _ q => lift_lst q
theorem lift_wN {G : Gx} {r : List V → Hp → VK → Prop} {f : FN} (hf : SN G r f) {σ : L2.St} {H : Hp} {Q' : VK} (q : lift G W (wN f ws) σ H Q') : tCB r (liftA G W ws) σ H Q' := by
  obtain ⟨Z, m, ρ, μ, Q, Xd, S, q, k, kx⟩ := q
  refine ⟨Z, m, ρ, μ, _, Xd, S, q, fun vs H1 P => ?_, kx⟩
  obtain ⟨m1, ds, μ1, s1, r1, q1⟩ := P
  exact hf _ m1 μ1 H1 ds vs Q Q' s1.mu r1 q1 fun z H' P => k z H' (VPost.from s1 P)
theorem de_callB {x : Str} {id : String} {p : Pos} {r : List V → Hp → VK → Prop} {f : FN} (hc : CallR X (.builtin id) r) (hf : SN (gx X ex) r f) (hg : Gl X x) (hm : X.mg x = none) (hv : bootBuiltins x = some (.builtin id)) (ha : DA ex W X (e :: es) ws)
    (hn : x ≠ "__name__" := by decide) (hdb : (x == ("__debug__" : Str)) = false := by decide) (he : starEach (e :: es) X.env = (false, eval e X.env) :: starEach es X.env := by rfl) (hpl : (backTo pos (starEach es X.env)).any (·.1) = false := by rfl) :
    DE ex W X (.Call (.Name x p) (e :: es) [] pos) (wN f ws) := pe_weak (pe_callB hc hg hm hv ha hn hdb he hpl) fun _ _ _ q => lift_wN hf q
theorem de_callTy {x : Str} {T : String} {p : Pos} {r : List V → Hp → VK → Prop} {f : FN} (hc : CallR X (.type T) r) (hf : SN (gx X ex) r f) (hg : Gl X x) (hm : X.mg x = none) (hv : bootBuiltins x = some (.type T)) (ha : DA ex W X (e :: es) ws)
    (hn : x ≠ "__name__" := by decide) (hdb : (x == ("__debug__" : Str)) = false := by decide) (he : starEach (e :: es) X.env = (false, eval e X.env) :: starEach es X.env := by rfl) (hpl : (backTo pos (starEach es X.env)).any (·.1) = false := by rfl) :
    DE ex W X (.Call (.Name x p) (e :: es) [] pos) (wN f ws) := pe_weak (pe_callTy hc hg hm hv ha hn hdb he hpl) fun _ _ _ q => lift_wN hf q
/-- a def keeps its promise wherever no repr is under way -/
structure FnG (P : Program) (wd : World) (K : PySem.W.Frag) (mg : Str → Option Value) (bs : Heap) (k : Nat) (f : Addr) (fd : FuncData) (ps : List Str) (sp : Sp) : Prop where
  len : ∀ vs H Q E, sp vs H Q E → vs.length = ps.length
  run : ∀ (A : Around) (fr : List Env) (s : Shared) (H : Hp) (args : Args) (us : List Value) (vs : List V) (Q : VK) (E : XK), Room k A → A.guards = some [] → Env0 P wd K mg bs A fr s H → BindsTo s fd args (ps.zip us) → Vals vs us →
    sp vs H Q E → codeAny (model P wd) A (.call (.ref f) args) (CR (L2.CX P wd) fr P wd H s Q E) s
section
variable {k : Nat} {f : Addr} {fd : FuncData} {ps : List Str} {sp0 : Sp}
theorem run_fnG {pins : List (Addr × Obj)} {σ : L2.St} {H : Hp} {s : Shared} {Q : VK} {us : List Value} {vs : List V} (F : FnG X.prog X.w X.K X.mg X.base k f fd ps sp0) (hr : Room k X.A) (hgd : X.A.guards = some []) (hb : Binds X.K fd ps []) (tk : Takes X W)
    (I : Inv X pins σ H s) (rv : Vals vs us) (h : sp0 vs H Q (L2.WE W σ)) : wpAny (model X.prog X.w) X.A (call (.ref f) us) (EP X pins σ Q) X.xe s := by
  have e0 : us.length = ps.length := rv.length.symm.trans (F.len _ _ _ _ h)
  have bd : BindsTo s fd ⟨us, []⟩ (ps.zip us) := by simpa using hb s us I.kIn (by simpa using e0)
  refine wpAny_call (codeAny_mono (F.run X.A X.stack s H ⟨us, []⟩ us vs Q _ hr hgd I.env0 bd rv h) fun res s2 hres => ?_)
  match res, hres with
  | .error er, hres => exact passAt tk σ pins H s er s2 I hres
  | .ok (.ret u), hres => exact I.after hres
end
/-- what a def promises, told by data -/
def toSp (G : Gx) (sp : DSp) : Sp := fun vs H Q' E => ∃ Z m μ ds Q Xd, MuOk G Z m μ H ∧ Reps G m (vis Z m H) ds vs ∧ sp ds μ Q Xd ∧ (∀ v H', VPost G Z m H Q v H' → Q' v H') ∧ ∀ cls d H', XPost G Z m H Xd cls d H' → E cls d H'
theorem lift_call {G : Gx} {sp : DSp} {σ : L2.St} {H : Hp} {Q' : VK} (q : lift G W (wCall sp ws) σ H Q') : tCallS (toSp G sp) (L2.WE W) (liftA G W ws) σ H Q' := by
  obtain ⟨Z, m, ρ, μ, Q, Xd, S, q, k, kx⟩ := q
  refine ⟨Z, m, ρ, μ, _, Xd, S, q, fun vs H1 P => ?_, kx⟩
  obtain ⟨m1, ds, μ1, s1, r1, q1⟩ := P
  exact ⟨_, m1, μ1, ds, Q, Xd, s1.mu, r1, q1, fun v H' P => k v H' (VPost.from s1 P), fun cls d H' P => kx cls d H' (XPost.from s1 P)⟩
theorem de_call {x : Str} {k : Nat} {f : Addr} {fd : FuncData} {ps : List Str} {sp : DSp} {p : Pos} (F : FnG X.prog X.w X.K X.mg X.base k f fd ps (toSp (gx X ex) sp)) (hr : Room k X.A) (hgd : X.A.guards = some []) (hg : Gl X x) (hm : X.mg x = some (.ref f))
    (hk : PySem.W.keepIn X.K (.ref f) = true) (hb : Binds X.K fd ps []) (tk : Takes X W) (ha : DA ex W X (e :: es) ws) (hdb : (x == ("__debug__" : Str)) = false := by decide)
    (he : starEach (e :: es) X.env = (false, eval e X.env) :: starEach es X.env := by rfl) (hpl : (backTo pos (starEach es X.env)).any (·.1) = false := by rfl) :
    DE ex W X (.Call (.Name x p) (e :: es) [] pos) (wCall sp ws) := by
  refine ⟨fun pins s σ H Q I h => ?_⟩
  refine wpAny_Call_Name_kw (ld_glob I hg hm ?_ hdb)
  exact PySem.W.callWith_K (h₀ := X.base) I.ok.mod.kin hk (thn (ha.run pos pins s σ H _ I (lift_call h)) fun us s1 ⟨vs, H1, I1, rv, q⟩ => ⟨I1.kIn, run_fnG F hr hgd hb tk I1 rv q⟩) he hpl
end

/-! ### statements -/
abbrev XS := Str → List Str → List D → DS → Mu → Prop
structure DEnds where
  nx : DS → Mu → Prop
  rt : D → Mu → Prop
  bk : DS → Mu → Prop := fun _ _ => False
  ct : DS → Mu → Prop := fun _ _ => False
  xc : XS := fun _ _ _ _ _ => False
abbrev WS := DEnds → DS → Mu → Prop
structure SStep (G : Gx) (Z : Addr → Prop) (m : List Addr) (σ : L2.St) (ρ : DS) (H : Hp) (m' : List Addr) (σ' : L2.St) (ρ' : DS) (H' : Hp) : Prop where
  pre : m <+: m'
  hid : ∀ z, Z z → H' z = H z
  same : Same (vis (ownW Z σ ρ) m H) (vis (ownW Z σ' ρ') m' H')
theorem SStep.refl {G : Gx} {Z : Addr → Prop} {m : List Addr} {σ : L2.St} {ρ : DS} {H : Hp} : SStep G Z m σ ρ H m σ ρ H := ⟨List.prefix_refl _, fun _ _ => rfl, Same.refl _⟩
theorem SStep.trans {G : Gx} {Z : Addr → Prop} {m m1 m2 : List Addr} {σ σ1 σ2 : L2.St} {ρ ρ1 ρ2 : DS} {H H1 H2 : Hp} (a : SStep G Z m σ ρ H m1 σ1 ρ1 H1) (b : SStep G Z m1 σ1 ρ1 H1 m2 σ2 ρ2 H2) : SStep G Z m σ ρ H m2 σ2 ρ2 H2 :=
  ⟨a.pre.trans b.pre, fun z h => (b.hid z h).trans (a.hid z h), a.same.trans b.same⟩
theorem SStep.of {G : Gx} {Z : Addr → Prop} {m m' : List Addr} {σ : L2.St} {ρ : DS} {μ' : Mu} {H H' : Hp} (s : Step G (ownW Z σ ρ) m H m' μ' H') : SStep G Z m σ ρ H m' σ ρ H' := ⟨s.pre, fun z h => s.hid z (.inl h), s.same⟩
def SPost (G : Gx) (Z : Addr → Prop) (m : List Addr) (σ : L2.St) (ρ : DS) (H : Hp) (P : DS → Mu → Prop) (σ' : L2.St) (H' : Hp) : Prop :=
  ∃ m' ρ' μ', SR G Z m' σ' H' ρ' μ' ∧ SStep G Z m σ ρ H m' σ' ρ' H' ∧ P ρ' μ'
def RPost (G : Gx) (Z : Addr → Prop) (m : List Addr) (σ : L2.St) (ρ : DS) (H : Hp) (Q : D → Mu → Prop) (v : V) (H' : Hp) : Prop :=
  ∃ m' d μ', m <+: m' ∧ (∀ z, Z z → H' z = H z) ∧ MuOk G Z m' μ' H' ∧ Same (vis (ownW Z σ ρ) m H) (vis Z m' H') ∧ Rep G m' (vis Z m' H') d v ∧ Q d μ'
def XSPost (G : Gx) (Z : Addr → Prop) (m : List Addr) (σ : L2.St) (ρ : DS) (H : Hp) (Xs : XS) (cls : Value) (d : Option Addr) (σ' : L2.St) (H' : Hp) : Prop :=
  ∃ m' c ks es ρ' μ' C dd vs, SR G Z m' σ' H' ρ' μ' ∧ SStep G Z m σ ρ H m' σ' ρ' H' ∧ cls = .ref C ∧ d = some dd ∧ G.mg c = some (.ref C) ∧ vis (ownW Z σ' ρ') m' H' dd = some (.xd (ks.zip vs)) ∧ ks.length = es.length ∧
    Reps G m' (vis (ownW Z σ' ρ') m' H') es vs ∧ Xs c ks es ρ' μ'
section
variable {G : Gx} {Z : Addr → Prop} {m m1 : List Addr} {σ σ1 σ' : L2.St} {ρ ρ1 : DS} {H H1 H' : Hp}
theorem SPost.from {P : DS → Mu → Prop} (s : SStep G Z m σ ρ H m1 σ1 ρ1 H1) (p : SPost G Z m1 σ1 ρ1 H1 P σ' H') : SPost G Z m σ ρ H P σ' H' := by
  obtain ⟨m', ρ', μ', S, s', q⟩ := p
  exact ⟨m', ρ', μ', S, s.trans s', q⟩
theorem RPost.from {Q : D → Mu → Prop} {v : V} (s : SStep G Z m σ ρ H m1 σ1 ρ1 H1) (p : RPost G Z m1 σ1 ρ1 H1 Q v H') : RPost G Z m σ ρ H Q v H' := by
  obtain ⟨m', d, μ', h1, h2, h3, h4, h5, h6⟩ := p
  exact ⟨m', d, μ', s.pre.trans h1, fun z hz => (h2 z hz).trans (s.hid z hz), h3, s.same.trans h4, h5, h6⟩
theorem XSPost.from {Xs : XS} {cls : Value} {d : Option Addr} (s : SStep G Z m σ ρ H m1 σ1 ρ1 H1) (p : XSPost G Z m1 σ1 ρ1 H1 Xs cls d σ' H') : XSPost G Z m σ ρ H Xs cls d σ' H' := by
  obtain ⟨m', c, ks, es, ρ', μ', C, dd, vs, S, s', r⟩ := p
  exact ⟨m', c, ks, es, ρ', μ', C, dd, vs, S, s.trans s', r⟩
theorem vis_own {m : List Addr} {H : Hp} : Same (vis (ownW Z σ ρ) m H) (vis Z m H) := fun b o h => by
  obtain ⟨h1, h2, h3⟩ := vis_some.mp h
  exact vis_some.mpr ⟨fun z => h1 (.inl z), h2, h3⟩
theorem MuOk.out_own {μ : Mu} (M : MuOk G (ownW Z σ ρ) m μ H) : MuOk G Z m μ H :=
  ⟨M.len, M.nd, fun a h z => M.out a h (.inl z), fun z h => M.hw z (.inl h), fun n c a h1 h2 => (M.cell n c a h1 h2).keep (List.prefix_refl _) vis_own rfl⟩
theorem RPost.of {Q : D → Mu → Prop} {v : V} (p : VPost G (ownW Z σ ρ) m H Q v H') : RPost G Z m σ ρ H Q v H' := by
  obtain ⟨m', d, μ', s, r, q⟩ := p
  exact ⟨m', d, μ', s.pre, fun z h => s.hid z (.inl h), s.mu.out_own, s.same.trans vis_own, Rep.mono (List.prefix_refl _) vis_own _ _ r, q⟩
theorem XSPost.of {μ : Mu} (S : SR G Z m σ H ρ μ) {Xs : XS} {cls : Value} {d : Option Addr} (p : XPost G (ownW Z σ ρ) m H (fun c ks es μ' => Xs c ks es ρ μ') cls d H') : XSPost G Z m σ ρ H Xs cls d σ H' := by
  obtain ⟨m', c, ks, es, μ', C, dd, vs, s, e1, e2, e3, e4, e5, e6, q⟩ := p
  exact ⟨m', c, ks, es, ρ, μ', C, dd, vs, S.step s, SStep.of s, e1, e2, e3, e4, e5, e6, q⟩
end
def liftS (G : Gx) (W : WX) (w : WS) : TS := fun D σ H => ∃ Z m ρ μ E, SR G Z m σ H ρ μ ∧ w E ρ μ ∧ (∀ σ' H', SPost G Z m σ ρ H E.nx σ' H' → D.nx σ' H') ∧ (∀ v H', RPost G Z m σ ρ H E.rt v H' → D.rt v H') ∧
  (∀ σ' H', SPost G Z m σ ρ H E.bk σ' H' → D.bk σ' H') ∧ (∀ σ' H', SPost G Z m σ ρ H E.ct σ' H' → D.ct σ' H') ∧ ∀ cls d σ' H', XSPost G Z m σ ρ H E.xc cls d σ' H' → W cls d σ' H'
abbrev DSt (ex : Option (Addr × Addr × Addr)) (W : WX) (X : Cx) (st : Stmt) (w : WS) : Prop := PS X st (liftS (gx X ex) W w)
abbrev DSs (ex : Option (Addr × Addr × Addr)) (W : WX) (X : Cx) (st : List Stmt) (w : WS) : Prop := PSs X st (liftS (gx X ex) W w)
theorem ps_weak {X : Cx} {st : Stmt} {t t' : TS} (h : PS X st t) (k : ∀ D σ H, t' D σ H → t D σ H) : PS X st t' := ⟨fun pins s σ H D I q => h.run pins s σ H D I (k D σ H q)⟩
theorem pss_weak {X : Cx} {st : List Stmt} {t t' : TS} (h : PSs X st t) (k : ∀ D σ H, t' D σ H → t D σ H) : PSs X st t' := ⟨fun pins s σ H D I q => h.run pins s σ H D I (k D σ H q)⟩
def sNext : WS := fun E ρ μ => E.nx ρ μ
def sSeq (a b : WS) : WS := fun E ρ μ => a { E with nx := fun ρ' μ' => b E ρ' μ' } ρ μ
def sIf (t : WT) (a b : WS) : WS := fun E ρ μ => t ρ μ (fun c μ1 => if c = true then a E ρ μ1 else b E ρ μ1) fun c ks es μ' => E.xc c ks es ρ μ'
def sRet (wa : WE) : WS := fun E ρ μ => wa ρ μ E.rt fun c ks es μ' => E.xc c ks es ρ μ'
def sRetN : WS := fun E _ μ => E.rt .non μ
def sDrop (wa : WE) : WS := fun E ρ μ => wa ρ μ (fun _ μ1 => E.nx ρ μ1) fun c ks es μ' => E.xc c ks es ρ μ'
def sBreak : WS := fun E ρ μ => E.bk ρ μ
def sCont : WS := fun E ρ μ => E.ct ρ μ
def sNever : WS := fun _ _ _ => False
section
variable {ex : Option (Addr × Addr × Addr)} {W : WX} {X : Cx} {e : Expr} {es : List Expr} {wa : WE} {ws : WA} {pos : Pos} {st : Stmt} {rest : List Stmt} {a b : WS} {t : WT}
theorem dss_nil : DSs ex W X [] sNext := pss_weak pss_nil fun D σ H q => by
  obtain ⟨Z, m, ρ, μ, E, S, q, kn, kr, kb, kc, kx⟩ := q
  exact kn σ H ⟨m, ρ, μ, S, .refl, q⟩
theorem dss_cons (h1 : DSt ex W X st a) (h2 : DSs ex W X rest b) : DSs ex W X (st :: rest) (sSeq a b) := pss_weak (pss_cons h1 h2) fun D σ H q => by
  obtain ⟨Z, m, ρ, μ, E, S, q, kn, kr, kb, kc, kx⟩ := q
  refine ⟨Z, m, ρ, μ, _, S, q, fun σ1 H1 P => ?_, kr, kb, kc, kx⟩
  obtain ⟨m1, ρ1, μ1, S1, s1, q1⟩ := P
  exact ⟨Z, m1, ρ1, μ1, E, S1, q1, fun σ' H' P => kn σ' H' (SPost.from s1 P), fun v H' P => kr v H' (RPost.from s1 P), fun σ' H' P => kb σ' H' (SPost.from s1 P), fun σ' H' P => kc σ' H' (SPost.from s1 P), fun cls d σ' H' P => kx cls d σ' H' (XSPost.from s1 P)⟩
theorem dss_one (h1 : DSt ex W X st a) : DSs ex W X [st] a := pss_one h1
theorem ds_if {c : Expr} {x y : List Stmt} (hc : DT ex W X c t) (ha : DSs ex W X x a) (hb : DSs ex W X y b) : DSt ex W X (.If c x y pos) (sIf t a b) := ps_weak (ps_if hc ha hb) fun D σ H q => by
  obtain ⟨Z, m, ρ, μ, E, S, q, kn, kr, kb, kc, kx⟩ := q
  refine ⟨Z, m, ρ, μ, _, _, S, q, fun c H1 P => ?_, fun cls d H' P => kx cls d σ H' (XSPost.of S P)⟩
  obtain ⟨m1, μ1, s1, q1⟩ := P
  have S1 := S.step s1
  have s2 : SStep (gx X ex) Z m σ ρ H m1 σ ρ H1 := SStep.of s1
  cases c with
  | true =>
    rw [if_pos rfl] at q1 ⊢
    exact ⟨Z, m1, ρ, μ1, E, S1, q1, fun σ' H' P => kn σ' H' (SPost.from s2 P), fun v H' P => kr v H' (RPost.from s2 P), fun σ' H' P => kb σ' H' (SPost.from s2 P), fun σ' H' P => kc σ' H' (SPost.from s2 P), fun cls d σ' H' P => kx cls d σ' H' (XSPost.from s2 P)⟩
  | false =>
    rw [if_neg Bool.false_ne_true] at q1 ⊢
    exact ⟨Z, m1, ρ, μ1, E, S1, q1, fun σ' H' P => kn σ' H' (SPost.from s2 P), fun v H' P => kr v H' (RPost.from s2 P), fun σ' H' P => kb σ' H' (SPost.from s2 P), fun σ' H' P => kc σ' H' (SPost.from s2 P), fun cls d σ' H' P => kx cls d σ' H' (XSPost.from s2 P)⟩
theorem ds_ret (h : DE ex W X e wa) : DSt ex W X (.Return (some e) pos) (sRet wa) := ps_weak (ps_ret h) fun D σ H q => by
  obtain ⟨Z, m, ρ, μ, E, S, q, kn, kr, kb, kc, kx⟩ := q
  exact ⟨Z, m, ρ, μ, _, _, S, q, fun v H1 P => kr v H1 (RPost.of P), fun cls d H' P => kx cls d σ H' (XSPost.of S P)⟩
theorem ds_expr (h : DE ex W X e wa) (hs : swapsWith e none pos.line X.env = pure false := by rfl) : DSt ex W X (.Expr e pos) (sDrop wa) := ps_weak (ps_expr h hs) fun D σ H q => by
  obtain ⟨Z, m, ρ, μ, E, S, q, kn, kr, kb, kc, kx⟩ := q
  refine ⟨Z, m, ρ, μ, _, _, S, q, fun v H1 P => ?_, fun cls d H' P => kx cls d σ H' (XSPost.of S P)⟩
  obtain ⟨m1, d, μ1, s1, r1, q1⟩ := P
  exact kn σ H1 ⟨m1, ρ, μ1, S.step s1, SStep.of s1, q1⟩
theorem ds_continue : DSt ex W X (.Continue pos) sCont := ps_weak ps_continue fun D σ H q => by
  obtain ⟨Z, m, ρ, μ, E, S, q, kn, kr, kb, kc, kx⟩ := q
  exact kc σ H ⟨m, ρ, μ, S, .refl, q⟩
end
/-! ### a slot is stored -/
theorem own_set {Z : Addr → Prop} {σ : L2.St} {ρ : DS} {i : Nat} {v : V} {d : D} {b : Addr} (h : ownW Z (σ.set i (some v)) (ρ.set i (.v d)) b) : ownW Z σ ρ b := by
  rcases h with h | ⟨j, ds, e1⟩
  · exact .inl h
  · by_cases hj : i = j
    · subst hj
      rw [List.getElem?_set] at e1
      simp at e1
    · rw [List.getElem?_set_ne hj] at e1
      exact .inr ⟨j, ds, e1⟩
theorem vis_mono {Z Z' : Addr → Prop} {m : List Addr} {H : Hp} (h : ∀ b, Z' b → Z b) : Same (vis Z m H) (vis Z' m H) := fun b o e => by
  obtain ⟨h1, h2, h3⟩ := vis_some.mp e
  exact vis_some.mpr ⟨fun z => h1 (h b z), h2, h3⟩
theorem MuOk.less {G : Gx} {Z Z' : Addr → Prop} {m : List Addr} {μ : Mu} {H : Hp} (M : MuOk G Z m μ H) (h : ∀ b, Z' b → Z b) : MuOk G Z' m μ H :=
  ⟨M.len, M.nd, fun a ha z => M.out a ha (h a z), fun z hz => M.hw z (h z hz), fun n c a h1 h2 => (M.cell n c a h1 h2).keep (List.prefix_refl _) (vis_mono h) rfl⟩
theorem SR.set {G : Gx} {Z : Addr → Prop} {m : List Addr} {σ : L2.St} {H : Hp} {ρ : DS} {μ : Mu} (S : SR G Z m σ H ρ μ) {i : Nat} {d : D} {v : V} (r : Rep G m (vis (ownW Z σ ρ) m H) d v) :
    SR G Z m (σ.set i (some v)) H (ρ.set i (.v d)) μ ∧ SStep G Z m σ ρ H m (σ.set i (some v)) (ρ.set i (.v d)) H := by
  have sm : Same (vis (ownW Z σ ρ) m H) (vis (ownW Z (σ.set i (some v)) (ρ.set i (.v d))) m H) := vis_mono fun b => own_set
  refine ⟨⟨by simpa using S.len, S.mu.less fun b => own_set, fun j e h => ?_, fun j a c h => ?_, fun j k a c c' h1 h2 => ?_, fun j c ks ds h => ?_⟩, List.prefix_refl _, fun _ _ => rfl, sm⟩
  · by_cases hj : i = j
    · subst hj
      rw [List.getElem?_set] at h
      simp at h
      obtain ⟨hl, rfl⟩ := h
      have hl' : i < σ.length := by rw [← S.len]; exact hl
      exact ⟨v, by simp [hl'], Rep.mono (List.prefix_refl _) sm _ _ r⟩
    · rw [List.getElem?_set_ne hj] at h
      obtain ⟨u, e1, q⟩ := S.val j e h
      exact ⟨u, by rw [List.getElem?_set_ne hj]; exact e1, Rep.mono (List.prefix_refl _) sm _ _ q⟩
  · by_cases hj : i = j
    · subst hj
      rw [List.getElem?_set] at h
      simp at h
    · rw [List.getElem?_set_ne hj] at h
      obtain ⟨e1, nz, q⟩ := S.own j a c h
      exact ⟨by rw [List.getElem?_set_ne hj]; exact e1, nz, q.keep (List.prefix_refl _) sm rfl⟩
  · have nj : i ≠ j := fun e => by subst e; rw [List.getElem?_set] at h1; simp at h1
    have nk : i ≠ k := fun e => by subst e; rw [List.getElem?_set] at h2; simp at h2
    rw [List.getElem?_set_ne nj] at h1
    rw [List.getElem?_set_ne nk] at h2
    exact S.dis j k a c c' h1 h2
  · have nj : i ≠ j := fun e => by subst e; rw [List.getElem?_set] at h; simp at h
    rw [List.getElem?_set_ne nj] at h ⊢
    exact (S.exn j c ks ds h).mono (List.prefix_refl _) sm
def sSet (i : Nat) (wa : WE) : WS := fun E ρ μ => wa ρ μ (fun d μ1 => E.nx (ρ.set i (.v d)) μ1) fun c ks es μ' => E.xc c ks es ρ μ'
/-! ### targets -/
abbrev WG := D → DS → Mu → (DS → Mu → Prop) → Prop
abbrev WGs := List D → DS → Mu → (DS → Mu → Prop) → Prop
def liftG (G : Gx) (g : WG) : TG := fun v σ H Q' => ∃ Z m ρ μ d Q, SR G Z m σ H ρ μ ∧ Rep G m (vis (ownW Z σ ρ) m H) d v ∧ g d ρ μ Q ∧ ∀ σ' H', SPost G Z m σ ρ H Q σ' H' → Q' σ' H'
def liftGs (G : Gx) (g : WGs) : TGs := fun vs σ H Q' => ∃ Z m ρ μ ds Q, SR G Z m σ H ρ μ ∧ Reps G m (vis (ownW Z σ ρ) m H) ds vs ∧ g ds ρ μ Q ∧ ∀ σ' H', SPost G Z m σ ρ H Q σ' H' → Q' σ' H'
abbrev DG (ex : Option (Addr × Addr × Addr)) (X : Cx) (e : Expr) (g : WG) : Prop := PG X e (liftG (gx X ex) g)
abbrev DGs (ex : Option (Addr × Addr × Addr)) (X : Cx) (e : List Expr) (g : WGs) : Prop := PGs X e (liftGs (gx X ex) g)
theorem pg_weak {X : Cx} {e : Expr} {t t' : TG} (h : PG X e t) (k : ∀ v σ H Q, t' v σ H Q → t v σ H Q) : PG X e t' := ⟨fun pins s σ H v u Q I r q => h.run pins s σ H v u Q I r (k v σ H Q q)⟩
theorem pgs_weak {X : Cx} {e : List Expr} {t t' : TGs} (h : PGs X e t) (k : ∀ v σ H Q, t' v σ H Q → t v σ H Q) : PGs X e t' := ⟨fun pins s σ H v u Q I r q => h.run pins s σ H v u Q I r (k v σ H Q q)⟩
def kName (i : Nat) : WG := fun d ρ μ Q => Q (ρ.set i (.v d)) μ
def kNil : WGs := fun ds ρ μ Q => match ds with
  | [] => Q ρ μ
  | _ :: _ => False
def kCons (g : WG) (gs : WGs) : WGs := fun ds ρ μ Q => match ds with
  | d :: r => g d ρ μ fun ρ1 μ1 => gs r ρ1 μ1 Q
  | [] => False
def kTup (n : Nat) (gs : WGs) : WG := fun d ρ μ Q => match d with
  | .tup ds => ds.length = n ∧ gs ds ρ μ Q
  | _ => False
section
variable {ex : Option (Addr × Addr × Addr)} {W : WX} {X : Cx} {e : Expr} {es : List Expr} {pos : Pos}
theorem dg_name {i : Nat} {x : Str} (hN : X.N.Nodup) (hi : X.N[i]? = some x) (hx : Loc X.env.scope x := by first | exact Or.inl rfl | exact Or.inr rfl) (hf : X.fn x = true ∨ X.env.scope.names.lookup x = some .local := by first | exact .inl rfl | exact .inr rfl | assumption) :
    DG ex X (.Name x pos) (kName i) := pg_weak (pg_name hN hi hx hf) fun v σ H Q' q => by
  obtain ⟨Z, m, ρ, μ, d, Q, S, r, q, k⟩ := q
  obtain ⟨S1, s1⟩ := S.set (i := i) r
  exact k _ _ ⟨m, _, μ, S1, s1, q⟩
theorem dgs_nil : DGs ex X [] kNil := pgs_weak pgs_nil fun vs σ H Q' q => by
  obtain ⟨Z, m, ρ, μ, ds, Q, S, r, q, k⟩ := q
  cases ds with
  | nil => rw [Reps] at r; exact ⟨r, k _ _ ⟨m, ρ, μ, S, .refl, q⟩⟩
  | cons d ds => exact q.elim
theorem dgs_cons {g : WG} {gs : WGs} (h1 : DG ex X e g) (h2 : DGs ex X es gs) (hs : (assignEach (e :: es) X.env).map (·.2) = assign e X.env :: (assignEach es X.env).map (·.2) := by rfl) : DGs ex X (e :: es) (kCons g gs) :=
  pgs_weak (pgs_cons h1 h2 hs) fun vs σ H Q' q => by
  obtain ⟨Z, m, ρ, μ, ds, Q, S, r, q, k⟩ := q
  cases ds with
  | nil => exact q.elim
  | cons d ds =>
    obtain ⟨v, vr, rfl, r1, r2⟩ := r.uncons
    refine ⟨v, vr, rfl, Z, m, ρ, μ, d, _, S, r1, q, fun σ1 H1 P => ?_⟩
    obtain ⟨m1, ρ1, μ1, S1, s1, q1⟩ := P
    exact ⟨Z, m1, ρ1, μ1, ds, Q, S1, Reps.mono s1.pre s1.same _ _ r2, q1, fun σ' H' P => k σ' H' (SPost.from s1 P)⟩
theorem dg_tup {k : Nat} {gs : WGs} {n : Nat} (hc : X.calm = true) (h : DGs ex X es gs) (hn : (assignEach es X.env).length = n := by rfl) (hst : (assignEach es X.env).findIdx? (·.1) = none := by rfl) : DG ex X (.Tuple es k pos) (kTup n gs) :=
  pg_weak (pg_tup hc h hn hst) fun v σ H Q' q => by
  obtain ⟨Z, m, ρ, μ, d, Q, S, r, q, k⟩ := q
  cases d with
  | tup ds =>
    obtain ⟨hl, q⟩ := q
    rw [Rep] at r
    obtain ⟨a, vs, e1, st, rs⟩ := r
    exact ⟨a, vs, e1, SqT.same vis_le st, by rw [← rs.len]; exact hl, Z, m, ρ, μ, ds, Q, S, rs, q, k⟩
  | _ => exact q.elim
/-- target = value -/
def sAsg (wa : WE) (g : WG) : WS := fun E ρ μ => wa ρ μ (fun d μ1 => g d ρ μ1 E.nx) fun c ks es μ' => E.xc c ks es ρ μ'
theorem ds_asg {tg : Expr} {wa : WE} {g : WG} (he : DE ex W X e wa) (hg : DG ex X tg g) (hs : swapsWithSole [tg] e pos.line X.env = pure false := by rfl) (hw : swappedStores [tg] e X.env = pure none := by rfl)
    (h1 : (assignEach [tg] X.env).map (·.2) = [assign tg X.env] := by rfl) : DSt ex W X (.Assign [tg] e pos) (sAsg wa g) := ps_weak (ps_asg he hg hs hw h1) fun D σ H q => by
  obtain ⟨Z, m, ρ, μ, E, S, q, kn, kr, kb, kc, kx⟩ := q
  refine ⟨Z, m, ρ, μ, _, _, S, q, fun v H1 P => ?_, fun cls d H' P => kx cls d σ H' (XSPost.of S P)⟩
  obtain ⟨m1, d, μ1, s1, r1, q1⟩ := P
  exact ⟨Z, m1, ρ, μ1, d, _, S.step s1, r1, q1, fun σ' H' P => kn σ' H' (SPost.from (SStep.of s1) P)⟩
theorem ds_set {i : Nat} {x : Str} {wa : WE} {pos' : Pos} (hN : X.N.Nodup) (hi : X.N[i]? = some x) (he : DE ex W X e wa) (hx : Loc X.env.scope x := by first | exact Or.inl rfl | exact Or.inr rfl)
    (hs : swapsWith e (some (.Name x pos')) pos.line X.env = pure false := by rfl) (hf : X.fn x = true ∨ X.env.scope.names.lookup x = some .local := by first | exact .inl rfl | exact .inr rfl | assumption) :
    DSt ex W X (.Assign [.Name x pos'] e pos) (sSet i wa) := ps_weak (ps_set (i := i) hN hi hx he hs hf) fun D σ H q => by
  obtain ⟨Z, m, ρ, μ, E, S, q, kn, kr, kb, kc, kx⟩ := q
  refine ⟨Z, m, ρ, μ, _, _, S, q, fun v H1 P => ?_, fun cls d H' P => kx cls d σ H' (XSPost.of S P)⟩
  obtain ⟨m1, d, μ1, s1, r1, q1⟩ := P
  obtain ⟨S1, s2⟩ := (S.step s1).set (i := i) r1
  exact kn _ _ ⟨m1, _, μ1, S1, (SStep.of s1).trans s2, q1⟩
/-- a, b = x, y and a, b, c = x, y, z: plain local names -/
def kPar2 (i j : Nat) (E : DEnds) (ρ : DS) : List D → Mu → Prop
  | [a, b], μ1 => E.nx ((ρ.set i (.v a)).set j (.v b)) μ1
  | _, _ => False
def kPar3 (i j l : Nat) (E : DEnds) (ρ : DS) : List D → Mu → Prop
  | [a, b, c], μ1 => E.nx (((ρ.set i (.v a)).set j (.v b)).set l (.v c)) μ1
  | _, _ => False
theorem kPar2_of {i j : Nat} {E : DEnds} {ρ : DS} {ds : List D} {μ : Mu} (h : kPar2 i j E ρ ds μ) : ∃ a b, ds = [a, b] ∧ E.nx ((ρ.set i (.v a)).set j (.v b)) μ := by
  match ds, h with
  | [a, b], h => exact ⟨a, b, rfl, h⟩
theorem kPar3_of {i j l : Nat} {E : DEnds} {ρ : DS} {ds : List D} {μ : Mu} (h : kPar3 i j l E ρ ds μ) : ∃ a b c, ds = [a, b, c] ∧ E.nx (((ρ.set i (.v a)).set j (.v b)).set l (.v c)) μ := by
  match ds, h with
  | [a, b, c], h => exact ⟨a, b, c, rfl, h⟩
def sPar2 (i j : Nat) (wa : WA) : WS := fun E ρ μ => wa ρ μ (kPar2 i j E ρ) fun c ks es μ' => E.xc c ks es ρ μ'
def sPar3 (i j l : Nat) (wa : WA) : WS := fun E ρ μ => wa ρ μ (kPar3 i j l E ρ) fun c ks es μ' => E.xc c ks es ρ μ'
theorem ds_par2 {i j : Nat} {x y : Str} {a b : Expr} {ws : WA} {px py pt : Pos} {kt k2 pt2} (hc : X.calm = true) (hN : X.N.Nodup) (hi : X.N[i]? = some x) (hj : X.N[j]? = some y) (hij : i ≠ j)
    (ha : DA ex W X [a, b] ws) (hx : X.env.scope.names.lookup x = some .local := by rfl) (hy : X.env.scope.names.lookup y = some .local := by rfl)
    (hw : swappedStores [.Tuple [.Name x px, .Name y py] kt pt] (.Tuple [a, b] k2 pt2) X.env = pure (some [x, y]) := by rfl)
    (hs : swapsWithSole [.Tuple [.Name x px, .Name y py] kt pt] (.Tuple [a, b] k2 pt2) pos.line X.env = pure false := by rfl) :
    DSt ex W X (.Assign [.Tuple [.Name x px, .Name y py] kt pt] (.Tuple [a, b] k2 pt2) pos) (sPar2 i j ws) := ps_weak (ps_par hc hN hi hj hij hx hy ha hw hs) fun D σ H q => by
  obtain ⟨Z, m, ρ, μ, E, S, q, kn, kr, kb, kc, kx⟩ := q
  refine ⟨Z, m, ρ, μ, kPar2 i j E ρ, _, S, q, fun vs H1 P => ?_, fun cls d H' P => kx cls d σ H' (XSPost.of S P)⟩
  obtain ⟨m1, ds, μ1, s1, r1, q1⟩ := P
  obtain ⟨d1, d2, rfl, q1⟩ := kPar2_of q1
  obtain ⟨v1, _, rfl, h1, r1⟩ := r1.uncons
  obtain ⟨v2, _, rfl, h2, r1⟩ := r1.uncons
  rw [Reps] at r1
  subst r1
  obtain ⟨S1, t1⟩ := (S.step s1).set (i := i) h1
  obtain ⟨S2, t2⟩ := S1.set (i := j) (Rep.mono t1.pre t1.same _ _ h2)
  exact ⟨v1, v2, rfl, kn _ _ ⟨m1, _, μ1, S2, ((SStep.of s1).trans t1).trans t2, q1⟩⟩
theorem ds_par3 {i j l : Nat} {x y z : Str} {a b c : Expr} {ws : WA} {px py pz pt : Pos} {kt k2 pt2} (hc : X.calm = true) (hN : X.N.Nodup) (hi : X.N[i]? = some x) (hj : X.N[j]? = some y) (hl : X.N[l]? = some z) (hij : i ≠ j) (hil : i ≠ l) (hjl : j ≠ l)
    (ha : DA ex W X [a, b, c] ws) (hx : X.env.scope.names.lookup x = some .local := by rfl) (hy : X.env.scope.names.lookup y = some .local := by rfl) (hz : X.env.scope.names.lookup z = some .local := by rfl)
    (hw : swappedStores [.Tuple [.Name x px, .Name y py, .Name z pz] kt pt] (.Tuple [a, b, c] k2 pt2) X.env = pure (some [x, y, z]) := by rfl)
    (hs : swapsWithSole [.Tuple [.Name x px, .Name y py, .Name z pz] kt pt] (.Tuple [a, b, c] k2 pt2) pos.line X.env = pure false := by rfl) :
    DSt ex W X (.Assign [.Tuple [.Name x px, .Name y py, .Name z pz] kt pt] (.Tuple [a, b, c] k2 pt2) pos) (sPar3 i j l ws) := ps_weak (ps_par3 hc hN hi hj hl hij hil hjl hx hy hz ha hw hs) fun D σ H q => by
  obtain ⟨Z, m, ρ, μ, E, S, q, kn, kr, kb, kc, kx⟩ := q
  refine ⟨Z, m, ρ, μ, kPar3 i j l E ρ, _, S, q, fun vs H1 P => ?_, fun cls d H' P => kx cls d σ H' (XSPost.of S P)⟩
  obtain ⟨m1, ds, μ1, s1, r1, q1⟩ := P
  obtain ⟨d1, d2, d3, rfl, q1⟩ := kPar3_of q1
  obtain ⟨v1, _, rfl, h1, r1⟩ := r1.uncons
  obtain ⟨v2, _, rfl, h2, r1⟩ := r1.uncons
  obtain ⟨v3, _, rfl, h3, r1⟩ := r1.uncons
  rw [Reps] at r1
  subst r1
  obtain ⟨S1, t1⟩ := (S.step s1).set (i := i) h1
  obtain ⟨S2, t2⟩ := S1.set (i := j) (Rep.mono t1.pre t1.same _ _ h2)
  obtain ⟨S3, t3⟩ := S2.set (i := l) (Rep.mono (t1.trans t2).pre (t1.trans t2).same _ _ h3)
  exact ⟨v1, v2, v3, rfl, kn _ _ ⟨m1, _, μ1, S3, (((SStep.of s1).trans t1).trans t2).trans t3, q1⟩⟩
/-- name op= e -/
def sAug (i : Nat) (f : F2) (wa : WE) : WS := fun E ρ μ => match ρ[i]? with
  | some (.v x) => wa ρ μ (fun y μ1 => f x y μ1 fun z μ2 => E.nx (ρ.set i (.v z)) μ2) fun c ks es μ' => E.xc c ks es ρ μ'
  | _ => False
theorem ds_aug {i : Nat} {x : Str} {wa : WE} {op : Operator} {r : R2} {f : F2} {pos' : Pos} (ho : OpR X (inplaceOp op) r) (hf2 : S2 (gx X ex) r f) (hN : X.N.Nodup) (hi : X.N[i]? = some x) (he : DE ex W X e wa) (hx : Loc X.env.scope x := by first | exact Or.inl rfl | exact Or.inr rfl)
    (hf : X.fn x = true ∨ X.env.scope.names.lookup x = some .local := by first | exact .inl rfl | exact .inr rfl | assumption) : DSt ex W X (.AugAssign (.Name x pos') op e pos) (sAug i f wa) := ps_weak (ps_aug (i := i) (ti := r) hN hi hx he (fun pins s σ H x y v u Q I rx ry q => ho pins s σ H x y v u Q I rx ry q) hf) fun D σ H q => by
  obtain ⟨Z, m, ρ, μ, E, S, q, kn, kr, kb, kc, kx⟩ := q
  unfold sAug at q
  split at q
  · rename_i d ed
    obtain ⟨v, e1, r0⟩ := S.val i d ed
    refine ⟨v, e1, Z, m, ρ, μ, _, _, S, q, fun u H1 P => ?_, fun cls d H' P => kx cls d σ H' (XSPost.of S P)⟩
    obtain ⟨m1, y, μ1, s1, r1, q1⟩ := P
    refine hf2 _ m1 μ1 H1 d y v u _ _ s1.mu (Rep.mono s1.pre s1.same _ _ r0) r1 q1 fun z H' P => ?_
    obtain ⟨m2, zd, μ2, s2, r2, q2⟩ := P
    obtain ⟨S2, t2⟩ := ((S.step s1).step s2).set (i := i) r2
    exact kn _ _ ⟨m2, _, μ2, S2, (SStep.of (s1.trans s2)).trans t2, q2⟩
  · exact q.elim
end

/-! ### a def -/
def startD (N : List Str) (ds : List D) : DS := ds.map Sl.v ++ List.replicate (N.length - ds.length) Sl.no
theorem start_own {Z : Addr → Prop} {N : List Str} {ds : List D} {vs : List V} : ownW Z (L2.start N vs) (startD N ds) = Z := by
  funext b
  apply propext
  constructor
  · rintro (h | ⟨i, es, e1⟩)
    · exact h
    · unfold startD at e1
      rw [List.getElem?_append] at e1
      split at e1
      · rw [List.getElem?_map] at e1
        cases q : ds[i]? with
        | none => rw [q] at e1; cases e1
        | some d => rw [q] at e1; cases e1
      · have := List.mem_of_getElem? e1
        rw [List.mem_replicate] at this
        exact nomatch this.2
  · exact fun h => .inl h
theorem SR.start {G : Gx} {Z : Addr → Prop} {m : List Addr} {H : Hp} {μ : Mu} {N : List Str} {ds : List D} {vs : List V} (M : MuOk G Z m μ H) (r : Reps G m (vis Z m H) ds vs) : SR G Z m (L2.start N vs) H (startD N ds) μ := by
  refine ⟨by simp [startD, L2.start, r.len], by rw [start_own]; exact M, fun i d e => ?_, fun i a es e => ?_, fun i j a es fs e1 e2 => ?_, fun i c ks es e1 => ?_⟩
  · unfold startD at e
    rw [List.getElem?_append] at e
    split at e
    · rename_i hl
      rw [List.getElem?_map] at e
      rw [List.length_map] at hl
      cases q : ds[i]? with
      | none => rw [q] at e; cases e
      | some d' =>
        rw [q] at e
        cases e
        obtain ⟨v, ev, rv⟩ := r.get q
        refine ⟨v, ?_, by rw [start_own]; exact rv⟩
        unfold L2.start
        rw [List.getElem?_append_left (by rw [List.length_map, ← r.len]; exact hl), List.getElem?_map, ev]
        rfl
    · have := List.mem_of_getElem? e
      rw [List.mem_replicate] at this
      exact nomatch this.2
  · unfold startD at e
    rw [List.getElem?_append] at e
    split at e
    · rw [List.getElem?_map] at e
      cases q : ds[i]? with
      | none => rw [q] at e; cases e
      | some d' => rw [q] at e; cases e
    · have := List.mem_of_getElem? e
      rw [List.mem_replicate] at this
      exact nomatch this.2
  · unfold startD at e1
    rw [List.getElem?_append] at e1
    split at e1
    · rw [List.getElem?_map] at e1
      cases q : ds[i]? with
      | none => rw [q] at e1; cases e1
      | some d' => rw [q] at e1; cases e1
    · have := List.mem_of_getElem? e1
      rw [List.mem_replicate] at this
      exact nomatch this.2
  · unfold startD at e1
    rw [List.getElem?_append] at e1
    split at e1
    · rw [List.getElem?_map] at e1
      cases q : ds[i]? with
      | none => rw [q] at e1; cases e1
      | some d' => rw [q] at e1; cases e1
    · have := List.mem_of_getElem? e1
      rw [List.mem_replicate] at this
      exact nomatch this.2
section
variable {P : Program} {w : World} {K : PySem.W.Frag} {mg : Str → Option Value} {base : Heap}
/-- the ends of a def's body -/
def defE (Q : D → Mu → Prop) (Xd : XD) : DEnds := { nx := fun _ μ => Q .non μ, rt := Q, xc := fun c ks es _ μ => Xd c ks es μ }
theorem fnG_of {x qual : Str} {params : Arguments} {body : List Stmt} {scope : Scope} {dvs : List V} {kws : List (Str × V)} {f : Addr} {fd : FuncData} {N ps : List Str} {k : Nat} {sp : Sp} (F : FunD K x qual params body scope dvs kws f fd) (S : FnScope N ps scope)
    (len : ∀ vs H Q E, sp vs H Q E → vs.length = ps.length)
    (hbody : ∀ (cdv : Value) (A : Around) (fr : List Env) (s : Shared) (H : Hp) (vs : List V) (Q : VK) (E : XK), Room k (A.deeper (envOfC qual scope s.heap.objs.size f cdv)) → (A.deeper (envOfC qual scope s.heap.objs.size f cdv)).guards = some [] → sp vs H Q E →
      ∃ t, PSs (cxOf (L2.CX P w) P w K mg base N qual scope f cdv A fr s H E) body t ∧ t { nx := fun _ H' => Q .non H', rt := Q } (L2.start N vs) H) : FnG P w K mg base (k + 1) f fd ps sp := by
  obtain ⟨oc, od, dV, kV, doc, pm, an, cdv, ct, osl, rfl, lk, hcd, _, _⟩ := F.ex
  refine ⟨len, fun A fr s H args us vs Q E room gd env bd rv hsp => ?_⟩
  have hlen := len _ _ _ _ hsp
  have kin : K.In s.heap := env.mod.kin.keeps fun b o e => (env.bs b o e).1
  have nolim : s.heap.NoLimit := env.mod.nolimit.keeps fun b o e => (env.bs b o e).1
  have kinds : ∀ y ∈ ps.zip us, scope.names.lookup y.1 = some .local ∨ (scope.names.lookup y.1 = some .cell ∧ ((cellsFrom (s.heap.objs.size + 1) scope.names []).lookup y.1).isSome = true) := by
    rintro ⟨n, v⟩ hy
    exact (S.par n (List.of_mem_zip hy).1).elim .inl fun q => .inr ⟨q, PySem.W.cellsFrom_some _ _ _ (.inl q)⟩
  refine codeAny_call_function room.depth (kin _ _ lk) rfl S.co S.gen rfl (PySem.W.codeRec_of kin hcd) (bd _ _ _ _ ?_)
  refine wpAny_newFunctionEnv_cells S.kind kinds fun env1 he1 s1 made => ?_
  subst he1
  refine ⟨nolim.keeps made.toInCall.keep, codeAny_func ?_⟩
  obtain ⟨t, ht, hq⟩ := hbody cdv A fr s H vs Q E (room.deeper _) gd hsp
  have I : Inv (cxOf (L2.CX P w) P w K mg base N qual scope f cdv A fr s H E) [] (L2.start N vs) H s1 := inv_start S room.hd env hlen rv made
  refine wpAny_mono (ht.run [] s1 (L2.start N vs) H _ I hq) (fun fl s2 hs => ?_) fun er s2 hs => hs
  match fl, hs with
  | .ret u, ⟨v, σ2, H2, J, rv2, q⟩ => exact ⟨v, H2, J.os, J.bare, J.base, J.hok, rv2, q⟩
  | .next, ⟨σ2, H2, J, q⟩ => exact ⟨V.non, H2, J.os, J.bare, J.base, J.hok, rfl, q⟩
  | .brk, ⟨_, _, _, q⟩ => exact q.elim
  | .cont, ⟨_, _, _, q⟩ => exact q.elim
theorem def_ok {x qual : Str} {params : Arguments} {body : List Stmt} {scope : Scope} {dvs : List V} {kws : List (Str × V)} {f : Addr} {fd : FuncData} {N ps : List Str} {k : Nat} {sp : DSp} {wb : WS} (F : FunD K x qual params body scope dvs kws f fd) (S : FnScope N ps scope)
    (len : ∀ ds μ Q Xd, sp ds μ Q Xd → ds.length = ps.length)
    (hbody : ∀ (cdv : Value) (A : Around) (fr : List Env) (s : Shared) (H : Hp) (E : XK), Room k (A.deeper (envOfC qual scope s.heap.objs.size f cdv)) → (A.deeper (envOfC qual scope s.heap.objs.size f cdv)).guards = some [] →
      DSs none (fun cls d _ H' => E cls d H') (cxOf (L2.CX P w) P w K mg base N qual scope f cdv A fr s H E) body wb)
    (hw : ∀ ds μ Q Xd, sp ds μ Q Xd → wb (defE Q Xd) (startD N ds) μ) : FnG P w K mg base (k + 1) f fd ps (toSp ⟨K, mg, none⟩ sp) := by
  refine fnG_of F S (fun vs H Q E h => ?_) (fun cdv A outer s H vs Q E hr hgd h => ?_)
  · obtain ⟨Z, m, μ, ds, Q', Xd, M, r, q, _⟩ := h
    rw [← r.len]
    exact len _ _ _ _ q
  · refine ⟨_, hbody cdv A outer s H E hr hgd, ?_⟩
    obtain ⟨Z, m, μ, ds, Q', Xd, M, r, q, kq, kx⟩ := h
    refine ⟨Z, m, startD N ds, μ, defE Q' Xd, .start M r, hw ds μ Q' Xd q, fun σ' H' P => ?_, fun v H' P => ?_, fun σ' H' P => ?_, fun σ' H' P => ?_, fun cls d σ' H' P => ?_⟩
    · obtain ⟨m', ρ', μ', S', s', q'⟩ := P
      have z := s'.same
      rw [start_own] at z
      exact kq _ _ ⟨m', .non, μ', ⟨s'.pre, s'.hid, S'.mu.out_own, z.trans vis_own⟩, by rw [Rep], q'⟩
    · obtain ⟨m', d, μ', h1, h2, h3, h4, h5, h6⟩ := P
      rw [start_own] at h4
      exact kq _ _ ⟨m', d, μ', ⟨h1, h2, h3, h4⟩, h5, h6⟩
    · obtain ⟨m', ρ', μ', S', s', q'⟩ := P
      exact q'.elim
    · obtain ⟨m', ρ', μ', S', s', q'⟩ := P
      exact q'.elim
    · obtain ⟨m', c, ks, es, ρ', μ', C, dd, vs', S', s', e1, e2, e3, e4, e5, e6, q'⟩ := P
      have z := s'.same
      rw [start_own] at z
      exact kx _ _ _ ⟨m', c, ks, es, μ', C, dd, vs', ⟨s'.pre, s'.hid, S'.mu.out_own, z.trans vis_own⟩, e1, e2, e3, vis_own _ _ e4, e5, Reps.mono (List.prefix_refl _) vis_own _ _ e6, q'⟩
end
end DL

set_option Elab.async false
set_option linter.all false
set_option maxRecDepth 100000
set_option maxHeartbeats 4000000
set_option autoImplicit false
namespace DL
open PySem PySem.Spec PyProof.Rows L2
/-! ### operations on ints -/
def fII (C : Int → Int → Prop) (g : Int → Int → Int) : F2
  | .int i, .int j, μ, Q => C i j ∧ Q (.int (g i j)) μ
  | _, _, _, _ => False
def fII0 (g : Int → Int → Int) : F2
  | .int i, .int j, μ, Q => Q (.int (g i j)) μ
  | _, _, _, _ => False
def fIB (g : Int → Int → Bool) : F2
  | .int i, .int j, μ, Q => Q (.bl (g i j)) μ
  | _, _, _, _ => False
def fI (g : Int → Int) : F1
  | .int i, μ, Q => Q (.int (g i)) μ
  | _, _, _ => False
theorem fII_of {C : Int → Int → Prop} {g : Int → Int → Int} {x y : D} {μ : Mu} {Q : D → Mu → Prop} (h : fII C g x y μ Q) : ∃ i j, x = .int i ∧ y = .int j ∧ C i j ∧ Q (.int (g i j)) μ := by
  unfold fII at h
  split at h
  · exact ⟨_, _, rfl, rfl, h⟩
  · exact h.elim
theorem fII0_of {g : Int → Int → Int} {x y : D} {μ : Mu} {Q : D → Mu → Prop} (h : fII0 g x y μ Q) : ∃ i j, x = .int i ∧ y = .int j ∧ Q (.int (g i j)) μ := by
  unfold fII0 at h
  split at h
  · exact ⟨_, _, rfl, rfl, h⟩
  · exact h.elim
theorem fIB_of {g : Int → Int → Bool} {x y : D} {μ : Mu} {Q : D → Mu → Prop} (h : fIB g x y μ Q) : ∃ i j, x = .int i ∧ y = .int j ∧ Q (.bl (g i j)) μ := by
  unfold fIB at h
  split at h
  · exact ⟨_, _, rfl, rfl, h⟩
  · exact h.elim
theorem s2_II {G : Gx} {C : Int → Int → Prop} {g : Int → Int → Int} : S2 G (rI C fun i j => .int (g i j)) (fII C g) := by
  intro Z m μ H x y u v Q Q' M rx ry h k
  obtain ⟨i, j, rfl, rfl, c, q⟩ := fII_of h
  rw [Rep] at rx ry
  exact ⟨i, j, rx, ry, c, k _ _ (.now M (by rw [Rep]) q)⟩
theorem s2_II0 {G : Gx} {g : Int → Int → Int} : S2 G (rI0 fun i j => .int (g i j)) (fII0 g) := by
  intro Z m μ H x y u v Q Q' M rx ry h k
  obtain ⟨i, j, rfl, rfl, q⟩ := fII0_of h
  rw [Rep] at rx ry
  exact ⟨i, j, rx, ry, k _ _ (.now M (by rw [Rep]) q)⟩
theorem s2_IB {G : Gx} {g : Int → Int → Bool} : S2 G (rI0 fun i j => .bl (g i j)) (fIB g) := by
  intro Z m μ H x y u v Q Q' M rx ry h k
  obtain ⟨i, j, rfl, rfl, q⟩ := fIB_of h
  rw [Rep] at rx ry
  exact ⟨i, j, rx, ry, k _ _ (.now M (by rw [Rep]) q)⟩
theorem fI_of {g : Int → Int} {x : D} {μ : Mu} {Q : D → Mu → Prop} (h : fI g x μ Q) : ∃ i, x = .int i ∧ Q (.int (g i)) μ := by
  unfold fI at h
  split at h
  · exact ⟨_, rfl, h⟩
  · exact h.elim
theorem s1_I {G : Gx} {g : Int → Int} : S1 G (rU fun i => .int (g i)) (fI g) := by
  intro Z m μ H x u Q Q' M rx h k
  obtain ⟨i, rfl, q⟩ := fI_of h
  rw [Rep] at rx
  exact ⟨i, rx, k _ _ (.now M (by rw [Rep]) q)⟩
abbrev fAdd : F2 := fII0 fun i j => i + j
abbrev fSub : F2 := fII0 fun i j => i - j
def CM (i j : Int) : Prop := CMul i j ∨ CMulW i j
theorem op_mulU {X : Cx} : OpR X (binaryOp .Mult) (rI CM fun i j => .int (i * j)) := by
  intro pins s σ H x y v u Q I rx ry h
  obtain ⟨i, j, e1, e2, c, q⟩ := h
  rcases c with c | c
  · exact op_mul pins s σ H x y v u Q I rx ry ⟨i, j, e1, e2, c, q⟩
  · exact op_mulW pins s σ H x y v u Q I rx ry ⟨i, j, e1, e2, c, q⟩
abbrev fMul : F2 := fII CM fun i j => i * j
abbrev fDiv : F2 := fII CDivW fun i j => i / j
abbrev fMod : F2 := fII (fun _ j => 0 < j) fun i j => i % j
abbrev fPow : F2 := fII CPow fun i j => i ^ j.toNat
abbrev fNeg : F1 := fI fun i => -i
abbrev fLt : F2 := fIB fun i j => decide (i < j)
abbrev fLe : F2 := fIB fun i j => decide (i ≤ j)
abbrev fGt : F2 := fIB fun i j => decide (j < i)
abbrev fGe : F2 := fIB fun i j => decide (j ≤ i)
abbrev fEqI : F2 := fIB fun i j => decide (i = j)
abbrev fNeI : F2 := fIB fun i j => !decide (i = j)
/-- is, is not of a value and None -/
def isNon : D → Bool
  | .non => true
  | _ => false
def fIsN : F2
  | x, .non, μ, Q => Q (.bl (isNon x)) μ
  | _, _, _, _ => False
def fNotN : F2
  | x, .non, μ, Q => Q (.bl (!isNon x)) μ
  | _, _, _, _ => False
theorem rep_non {G : Gx} {m : List Addr} {E : Hp} {x : D} {u : V} (r : Rep G m E x u) : decide (u = .non) = isNon x := by
  cases x <;> rw [Rep] at r
  case non => subst r; rfl
  case bl => subst r; rfl
  case int => subst r; rfl
  case str => subst r; rfl
  case ty => subst r; rfl
  case tup => obtain ⟨a, vs, rfl, _⟩ := r; rfl
  case lst => obtain ⟨a, vs, rfl, _⟩ := r; rfl
  case frl => obtain ⟨a, vs, rfl, _⟩ := r; rfl
  case obj => obtain ⟨a, C, dx, vs, rfl, _⟩ := r; rfl
  case loc => obtain ⟨a, rfl, _⟩ := r; rfl
  case cls => obtain ⟨C, _, rfl⟩ := r; rfl
  case opq => obtain ⟨a, rfl, _⟩ := r; rfl
theorem s2_isN {G : Gx} : S2 G (fun x y H Q => y = .non ∧ Q (.bl (decide (x = .non))) H) fIsN := by
  intro Z m μ H x y u v Q Q' M rx ry h k
  unfold fIsN at h
  split at h
  · rw [Rep] at ry
    refine ⟨ry, k _ _ (.now M (d := .bl _) ?_ h)⟩
    rw [Rep, rep_non rx]
  · exact h.elim
section
variable {ex : Option (Addr × Addr × Addr)} {W : WX} {X : Cx} {a b c : Expr} {wa wb wc : WE} {pos : Pos}
theorem de_sub (ha : DE ex W X a wa) (hb : DE ex W X b wb) : DE ex W X (.BinOp a .Sub b pos) (w2 fSub wa wb) := de_op op_sub s2_II0 ha hb
theorem de_div (ha : DE ex W X a wa) (hb : DE ex W X b wb) : DE ex W X (.BinOp a .FloorDiv b pos) (w2 fDiv wa wb) := de_op op_fdivW s2_II ha hb
theorem de_mod (ha : DE ex W X a wa) (hb : DE ex W X b wb) : DE ex W X (.BinOp a .Mod b pos) (w2 fMod wa wb) := de_op op_mod s2_II ha hb
theorem de_pow (ha : DE ex W X a wa) (hb : DE ex W X b wb) : DE ex W X (.BinOp a .Pow b pos) (w2 fPow wa wb) := de_op op_pow s2_II ha hb
theorem de_neg (ha : DE ex W X a wa) : DE ex W X (.UnaryOp .USub a pos) (w1 fNeg wa) := de_un un_neg s1_I ha
end
/-! ### data of the library, and == by it -/
mutual
def toP : D → Option PyData
  | .non => some .none
  | .bl b => some (.bool b)
  | .int i => some (.int i)
  | .str s => some (.str s)
  | .tup ds => (toPs ds).map .tuple
  | .lst ds => (toPs ds).map .list
  | .frl ds => (toPs ds).map .list
  | _ => none
def toPs : List D → Option (List PyData)
  | [] => some []
  | d :: ds => match toP d, toPs ds with
    | some p, some ps => some (p :: ps)
    | _, _ => none
end
mutual
theorem dp_of {G : Gx} {m : List Addr} {E H : Hp} (hE : Same E H) : ∀ (d : D) (v : V) (p : PyData), Rep G m E d v → toP d = some p → Dp G.K H v p
  | .non, v, p, r, e => by rw [Rep] at r; rw [toP] at e; cases e; subst r; exact .non
  | .bl b, v, p, r, e => by rw [Rep] at r; rw [toP] at e; cases e; subst r; exact .bl b
  | .int i, v, p, r, e => by rw [Rep] at r; rw [toP] at e; cases e; subst r; exact .int i
  | .str s, v, p, r, e => by rw [Rep] at r; rw [toP] at e; cases e; subst r; exact .str s
  | .tup ds, v, p, r, e => by
    rw [Rep] at r; rw [toP] at e
    obtain ⟨a, vs, rfl, s, q⟩ := r
    cases h : toPs ds with
    | none => rw [h] at e; cases e
    | some ps =>
      rw [h] at e; cases e
      exact .tup (SqT.same hE s) (dps_of hE ds vs ps q h)
  | .lst ds, v, p, r, e => by
    rw [Rep] at r; rw [toP] at e
    obtain ⟨a, vs, rfl, s, q⟩ := r
    cases h : toPs ds with
    | none => rw [h] at e; cases e
    | some ps =>
      rw [h] at e; cases e
      exact .lst (.inl (.inl (hE _ _ s))) (dps_of hE ds vs ps q h)
  | .frl ds, v, p, r, e => by
    rw [Rep] at r; rw [toP] at e
    obtain ⟨a, vs, rfl, s, q⟩ := r
    cases h : toPs ds with
    | none => rw [h] at e; cases e
    | some ps =>
      rw [h] at e; cases e
      exact .lst (Same.seq hE s) (dps_of hE ds vs ps q h)
  | .obj _ _ _, v, p, r, e => by simp [toP] at e
  | .loc _, v, p, r, e => by simp [toP] at e
  | .ty _, v, p, r, e => by simp [toP] at e
  | .cls _, v, p, r, e => by simp [toP] at e
  | .opq _, v, p, r, e => by simp [toP] at e
theorem dps_of {G : Gx} {m : List Addr} {E H : Hp} (hE : Same E H) : ∀ (ds : List D) (vs : List V) (ps : List PyData), Reps G m E ds vs → toPs ds = some ps → DpAll G.K H vs ps
  | [], vs, ps, r, e => by rw [Reps] at r; rw [toPs] at e; cases e; subst r; exact .nil
  | d :: ds, vs, ps, r, e => by
    obtain ⟨v, t, rfl, h, q⟩ := r.uncons
    rw [toPs] at e
    cases h1 : toP d with
    | none => rw [h1] at e; cases e
    | some p =>
      cases h2 : toPs ds with
      | none => rw [h1, h2] at e; cases e
      | some ps' =>
        rw [h1, h2] at e; cases e
        exact .cons (dp_of hE d v p h h1) (dps_of hE ds t ps' q h2)
end
/-- == of data -/
def eqD (x y : D) (k : Bool → Prop) : Prop := ∃ p q, toP x = some p ∧ toP y = some q ∧ SeqAt.shaped p = true ∧ SeqAt.shaped q = true ∧ k (PyData.eqv p q)
def fEqD : F2 := fun x y μ Q => eqD x y fun b => Q (.bl b) μ
def fNeD : F2 := fun x y μ Q => eqD x y fun b => Q (.bl (!b)) μ
theorem s2_eqD {G : Gx} : S2 G (rEqD G.K) fEqD := by
  intro Z m μ H x y u v Q Q' M rx ry h k
  obtain ⟨p, q, e1, e2, s1, s2, h⟩ := h
  exact ⟨p, q, dp_of vis_le _ _ _ rx e1, dp_of vis_le _ _ _ ry e2, s1, s2, k _ _ (.now M (by rw [Rep]) h)⟩
theorem s2_neD {G : Gx} : S2 G (rNeD G.K) fNeD := by
  intro Z m μ H x y u v Q Q' M rx ry h k
  obtain ⟨p, q, e1, e2, s1, s2, h⟩ := h
  exact ⟨p, q, dp_of vis_le _ _ _ rx e1, dp_of vis_le _ _ _ ry e2, s1, s2, k _ _ (.now M (by rw [Rep]) h)⟩
/-! ### items, lengths, cuts -/
/-- the items of a list or a tuple -/
def itemsD (d : D) (μ : Mu) : Option (List D) := match d with
  | .tup ds => some ds
  | .lst ds => some ds
  | .frl ds => some ds
  | .loc n => match μ[n]? with
    | some (.lst ds) => some ds
    | _ => none
  | _ => none
def fIx : F2 := fun x y μ Q => match itemsD x μ, y with
  | some ds, .int i => match atI ds i with
    | some d => Q d μ
    | none => False
  | _, _ => False
theorem atI_rep {G : Gx} {m : List Addr} {E : Hp} {ds : List D} {vs : List V} {i : Int} {d : D} (r : Reps G m E ds vs) (h : atI ds i = some d) : ∃ v, atI vs i = some v ∧ Rep G m E d v := by
  unfold atI at h ⊢
  rw [← r.len]
  cases e : ixN ds.length i with
  | none => rw [e] at h; cases h
  | some j =>
    rw [e] at h
    obtain ⟨v, e1, q⟩ := r.get (show ds[j]? = some d from h)
    exact ⟨v, e1, q⟩
theorem items_rep {G : Gx} {Z : Addr → Prop} {m : List Addr} {μ : Mu} {H : Hp} {x : D} {u : V} {ds : List D} (M : MuOk G Z m μ H) (r : Rep G m (vis Z m H) x u) (h : itemsD x μ = some ds) :
    ∃ a vs, u = .ref a ∧ (SqL G.K H a vs ∨ SqT G.K H a vs) ∧ Reps G m (vis Z m H) ds vs := by
  unfold itemsD at h
  split at h
  · cases h
    rw [Rep] at r
    obtain ⟨a, vs, e, s, q⟩ := r
    exact ⟨a, vs, e, .inr (SqT.same vis_le s), q⟩
  · cases h
    rw [Rep] at r
    obtain ⟨a, vs, e, s, q⟩ := r
    exact ⟨a, vs, e, .inl (.inl (.inl (vis_le _ _ s))), q⟩
  · cases h
    rw [Rep] at r
    obtain ⟨a, vs, e, s, q⟩ := r
    exact ⟨a, vs, e, .inl (Same.seq vis_le s), q⟩
  · rename_i n
    split at h
    · rename_i es e1
      cases h
      rw [Rep] at r
      obtain ⟨a, e, s⟩ := r
      obtain ⟨vs, h1, h2⟩ := M.cell n _ a e1 s
      exact ⟨a, vs, e, .inl (.inl (.inl h1)), h2⟩
    · cases h
  · cases h
def rIxLT (K : PySem.W.Frag) : R2 := fun x y H Q => rIxL K x y H Q ∨ rIxT K x y H Q
theorem s2_ix {G : Gx} : S2 G (rIxLT G.K) fIx := by
  intro Z m μ H x y u v Q Q' M rx ry h k
  unfold fIx at h
  split at h
  · rename_i ds i e1
    split at h
    · rename_i d e2
      rw [Rep] at ry
      obtain ⟨a, vs, e, s, q⟩ := items_rep M rx e1
      obtain ⟨w, ew, rw'⟩ := atI_rep q e2
      have fin := k w H (.now M rw' h)
      rcases s with s | s
      · exact .inl ⟨a, vs, i, w, e, ry, s, ew, fin⟩
      · exact .inr ⟨a, vs, i, w, e, ry, s, ew, fin⟩
    · exact h.elim
  · exact h.elim
def fLen : FN := fun xs μ Q => match xs with
  | [x] => match itemsD x μ with
    | some ds => Q (.int ds.length) μ
    | none => False
  | _ => False
theorem sn_len {G : Gx} : SN G (fun xs H Q => ∃ p ys, xs = [.ref p] ∧ (SqL G.K H p ys ∨ SqT G.K H p ys) ∧ Q (.int ys.length) H) fLen := by
  intro Z m μ H xs us Q Q' M r h k
  unfold fLen at h
  split at h
  · rename_i x
    split at h
    · rename_i ds e1
      obtain ⟨v, t, rfl, r1, r2⟩ := r.uncons
      rw [Reps] at r2
      subst r2
      obtain ⟨a, vs, rfl, s, q⟩ := items_rep M r1 e1
      exact ⟨a, vs, rfl, s, k _ _ (.now M (by rw [Rep, q.len]) h)⟩
    · exact h.elim
  · exact h.elim
/-- the cut of a list -/
def cutD (ds : List D) (lo hi : Option Int) : List D := (ds.drop (HT.sIx ds.length 0 lo)).take (HT.sIx ds.length ds.length hi - HT.sIx ds.length 0 lo)
theorem cut_rep {G : Gx} {m : List Addr} {E : Hp} {ds : List D} {vs : List V} {lo hi : Option Int} (r : Reps G m E ds vs) : Reps G m E (cutD ds lo hi) (cutV vs lo hi) := by
  unfold cutD cutV
  rw [← r.len]
  exact (r.drop _).take _
/-- a part of a slice -/
abbrev WO := DS → Mu → (Option Int → Mu → Prop) → XD → Prop
def oNone : WO := fun _ μ Q _ => Q none μ
def intOr (d : D) (Q : Int → Prop) : Prop := match d with
  | .int i => Q i
  | _ => False
theorem intOr_of {d : D} {Q : Int → Prop} (h : intOr d Q) : ∃ i, d = .int i ∧ Q i := by
  cases d <;> first | exact h.elim | exact ⟨_, rfl, h⟩
def oSome (wa : WE) : WO := fun ρ μ Q Xd => wa ρ μ (fun d μ1 => intOr d fun i => Q (some i) μ1) Xd
def OPost (G : Gx) (Z : Addr → Prop) (m : List Addr) (H : Hp) (Q : Option Int → Mu → Prop) (o : Option Int) (H' : Hp) : Prop := ∃ m' μ', Step G Z m H m' μ' H' ∧ Q o μ'
def liftO (G : Gx) (W : WX) (w : WO) : TO := fun σ H Q' => ∃ Z m ρ μ Q Xd, SR G Z m σ H ρ μ ∧ w ρ μ Q Xd ∧ (∀ o H', OPost G (ownW Z σ ρ) m H Q o H' → Q' o H') ∧ ∀ cls d H', XPost G (ownW Z σ ρ) m H Xd cls d H' → W cls d σ H'
abbrev DO (ex : Option (Addr × Addr × Addr)) (W : WX) (X : Cx) (e : Option Expr) (w : WO) : Prop := PO X e (liftO (gx X ex) W w)
theorem po_weak {X : Cx} {e : Option Expr} {t t' : TO} (h : PO X e t) (k : ∀ σ H Q, t' σ H Q → t σ H Q) : PO X e t' := ⟨fun pins s σ H Q I q => h.run pins s σ H Q I (k σ H Q q)⟩
def lstOr (d : D) (Q : List D → Prop) : Prop := match d with
  | .lst ds => Q ds
  | .frl ds => Q ds
  | _ => False
theorem lstOr_of {d : D} {Q : List D → Prop} (h : lstOr d Q) : ∃ ds, (d = .lst ds ∨ d = .frl ds) ∧ Q ds := by
  unfold lstOr at h
  split at h
  · exact ⟨_, .inl rfl, h⟩
  · exact ⟨_, .inr rfl, h⟩
  · exact h.elim
theorem lstOr_rep {G : Gx} {m : List Addr} {E : Hp} {d : D} {u : V} {Q : List D → Prop} (h : lstOr d Q) (r : Rep G m E d u) : ∃ ds a vs, u = .ref a ∧ SqL G.K E a vs ∧ Reps G m E ds vs ∧ Q ds := by
  obtain ⟨ds, e | e, q⟩ := lstOr_of h
  · subst e
    rw [Rep] at r
    obtain ⟨a, vs, e, s, r⟩ := r
    exact ⟨_, a, vs, e, .inl (.inl s), r, q⟩
  · subst e
    rw [Rep] at r
    obtain ⟨a, vs, e, s, r⟩ := r
    exact ⟨_, a, vs, e, s, r, q⟩
theorem SqL.same' {K : PySem.W.Frag} {H H' : Hp} {a : Addr} {xs : List V} (e : Same H H') (h : SqL K H a xs) : SqL K H' a xs := Same.seq e h
def wSl (wa : WE) (lo hi : WO) : WE := fun ρ μ Q Xd => wa ρ μ (fun x μ1 => lo ρ μ1 (fun l μ2 => hi ρ μ2 (fun u μ3 => lstOr x fun ds => Q (.lst (cutD ds l u)) μ3) Xd) Xd) Xd
section
variable {ex : Option (Addr × Addr × Addr)} {W : WX} {X : Cx} {a b c : Expr} {wa wb wc : WE} {wl wh : WO} {lo hi : Option Expr} {pos p2 : Pos}
theorem do_some (h : DE ex W X a wa) : DO ex W X (some a) (oSome wa) := po_weak (po_some h) fun σ H Q' q => by
  obtain ⟨Z, m, ρ, μ, Q, Xd, S, q, k, kx⟩ := q
  refine ⟨Z, m, ρ, μ, _, Xd, S, q, fun v H1 P => ?_, kx⟩
  obtain ⟨m1, d, μ1, s1, r1, q1⟩ := P
  obtain ⟨i, rfl, q2⟩ := intOr_of q1
  rw [Rep] at r1
  exact ⟨i, r1, k _ _ ⟨m1, μ1, s1, q2⟩⟩
theorem de_slice (ha : DE ex W X a wa) (hl : DO ex W X lo wl) (hh : DO ex W X hi wh) : DE ex W X (.Subscript a (.Slice lo hi none p2) pos) (wSl wa wl wh) := pe_weak (pe_slice sl_list ha hl hh) fun σ H Q' q => by
  refine lift_bind (f := fun x ρ μ1 Q Xd => wl ρ μ1 (fun l μ2 => wh ρ μ2 (fun u μ3 => lstOr x fun ds => Q (.lst (cutD ds l u)) μ3) Xd) Xd) q fun Z m ρ μ Q Xd x v H1 S r1 q1 k kx => ?_
  refine ⟨Z, m, ρ, μ, _, Xd, S, q1, fun l H2 P => ?_, kx⟩
  obtain ⟨m2, μ2, s2, q2⟩ := P
  refine ⟨Z, m2, ρ, μ2, _, Xd, S.step s2, q2, fun u H3 P => ?_, fun cls d H' P => kx cls d H' (XPost.from s2 P)⟩
  obtain ⟨m3, μ3, s3, q3⟩ := P
  obtain ⟨ds, p, vs, e, sq, rs, q4⟩ := lstOr_rep q3 (Rep.mono (s2.trans s3).pre (s2.trans s3).same _ _ r1)
  refine ⟨p, vs, e, SqL.same' vis_le sq, fun np hnp => k _ _ ?_⟩
  have s4 := Step.laid (o := .lst (cutV vs l u)) s3.mu hnp
  refine VPost.from (s2.trans s3) ⟨m3, _, μ3, s4, ?_, q4⟩
  rw [Rep]
  refine ⟨np, _, rfl, ?_, cut_rep (Reps.mono s4.pre s4.same _ _ rs)⟩
  rw [vis_upd s3.mu hnp, upd_same]
theorem de_item (ha : DE ex W X a wa) (hb : DE ex W X b wb) (hs : PlainIx b := by exact fun _ _ => rfl) : DE ex W X (.Subscript a b pos) (w2 fIx wa wb) := de_ix (ix_list.or ix_tup) (s2_ix (G := gx X ex)) ha hb hs
end
/-! ### lists put together -/
def fCat : F2
  | .lst a, .lst b, μ, Q => a.length + b.length ≤ sizeLine ∧ Q (.lst (a ++ b)) μ
  | _, _, _, _ => False
theorem s2_cat {G : Gx} : S2 G rCat fCat := by
  intro Z m μ H x y u v Q Q' M rx ry h k
  unfold fCat at h
  split at h
  · obtain ⟨hl, h⟩ := h
    rw [Rep] at rx ry
    obtain ⟨p, vs, rfl, sp, rp⟩ := rx
    obtain ⟨q, us, rfl, sq, rq⟩ := ry
    refine ⟨p, q, vs, us, rfl, rfl, vis_le _ _ sp, vis_le _ _ sq, by rw [← rp.len, ← rq.len]; exact hl, fun t nt => k _ _ ?_⟩
    have s4 := Step.laid (o := .lst (vs ++ us)) M nt
    refine ⟨m, _, μ, s4, ?_, h⟩
    rw [Rep]
    refine ⟨t, _, rfl, ?_, Reps.append (Reps.mono s4.pre s4.same _ _ rp) (Reps.mono s4.pre s4.same _ _ rq)⟩
    rw [vis_upd M nt, upd_same]
  · exact h.elim
def fRep : F2
  | .lst a, .int n, μ, Q => -(2 ^ 63) ≤ n ∧ n < 2 ^ 63 ∧ a.length * n.toNat ≤ sizeLine ∧ Q (.lst (List.replicate n.toNat a).flatten) μ
  | _, _, _, _ => False
theorem Reps.reps {G : Gx} {m : List Addr} {E : Hp} {ds : List D} {vs : List V} (r : Reps G m E ds vs) : ∀ n : Nat, Reps G m E (List.replicate n ds).flatten (List.replicate n vs).flatten
  | 0 => Reps.nil
  | n + 1 => by
    rw [List.replicate_succ, List.replicate_succ, List.flatten_cons, List.flatten_cons]
    exact Reps.append r (Reps.reps r n)
theorem fRep_of {x y : D} {μ : Mu} {Q : D → Mu → Prop} (h : fRep x y μ Q) : ∃ a n, x = .lst a ∧ y = .int n ∧ -(2 ^ 63) ≤ n ∧ n < 2 ^ 63 ∧ a.length * n.toNat ≤ sizeLine ∧ Q (.lst (List.replicate n.toNat a).flatten) μ := by
  unfold fRep at h
  split at h
  · exact ⟨_, _, rfl, rfl, h⟩
  · exact h.elim
theorem s2_rep {G : Gx} : S2 G rRep fRep := by
  intro Z m μ H x y u v Q Q' M rx ry h k
  obtain ⟨a, n, rfl, rfl, h1, h2, hl, h⟩ := fRep_of h
  rw [Rep] at rx
  rw [Rep] at ry
  obtain ⟨p, vs, rfl, sp, rp⟩ := rx
  refine ⟨p, n, vs, rfl, ry, vis_le _ _ sp, h1, h2, by rw [← rp.len]; exact hl, fun t nt => k _ _ ?_⟩
  have s4 := Step.laid (o := .lst (List.replicate n.toNat vs).flatten) M nt
  refine ⟨m, _, μ, s4, ?_, h⟩
  rw [Rep]
  refine ⟨t, _, rfl, ?_, Reps.reps (Reps.mono s4.pre s4.same _ _ rp) _⟩
  rw [vis_upd M nt, upd_same]
/-! ### calls of built-ins -/
def fInt1 : FN := fun xs μ Q => match xs with
  | [.int i] => Q (.int i) μ
  | [.bl b] => Q (.int (if b then 1 else 0)) μ
  | _ => False
theorem sn_int1 {G : Gx} : SN G (fun xs H Q => (∃ i, xs = [.int i] ∧ Q (.int i) H) ∨ ∃ k, xs = [.bl k] ∧ Q (.int (if k then 1 else 0)) H) fInt1 := by
  intro Z m μ H xs us Q Q' M r h k
  unfold fInt1 at h
  split at h
  · obtain ⟨v, t, rfl, r1, r2⟩ := r.uncons
    rw [Reps] at r2
    rw [Rep] at r1
    subst r1 r2
    exact .inl ⟨_, rfl, k _ _ (.now M (by rw [Rep]) h)⟩
  · obtain ⟨v, t, rfl, r1, r2⟩ := r.uncons
    rw [Reps] at r2
    rw [Rep] at r1
    subst r1 r2
    exact .inr ⟨_, rfl, k _ _ (.now M (by rw [Rep]) h)⟩
  · exact h.elim
def fMax2 : FN := fun xs μ Q => match xs with
  | [.int i, .int j] => Q (.int (if j > i then j else i)) μ
  | _ => False
def fMin2 : FN := fun xs μ Q => match xs with
  | [.int i, .int j] => Q (.int (if j < i then j else i)) μ
  | _ => False
def fAbs : FN := fun xs μ Q => match xs with
  | [.int i] => Q (.int (if i < 0 then -i else i)) μ
  | _ => False
theorem sn_max2 {G : Gx} : SN G (fun xs H Q => ∃ i j, xs = [.int i, .int j] ∧ Q (.int (if j > i then j else i)) H) fMax2 := by
  intro Z m μ H xs us Q Q' M r h k
  unfold fMax2 at h
  split at h
  · obtain ⟨v, t, rfl, r1, r2⟩ := r.uncons
    obtain ⟨v2, t2, rfl, r3, r4⟩ := r2.uncons
    rw [Reps] at r4
    rw [Rep] at r1 r3
    subst r1 r3 r4
    exact ⟨_, _, rfl, k _ _ (.now M (by rw [Rep]) h)⟩
  · exact h.elim
theorem sn_min2 {G : Gx} : SN G (fun xs H Q => ∃ i j, xs = [.int i, .int j] ∧ Q (.int (if j < i then j else i)) H) fMin2 := by
  intro Z m μ H xs us Q Q' M r h k
  unfold fMin2 at h
  split at h
  · obtain ⟨v, t, rfl, r1, r2⟩ := r.uncons
    obtain ⟨v2, t2, rfl, r3, r4⟩ := r2.uncons
    rw [Reps] at r4
    rw [Rep] at r1 r3
    subst r1 r3 r4
    exact ⟨_, _, rfl, k _ _ (.now M (by rw [Rep]) h)⟩
  · exact h.elim
theorem sn_abs {G : Gx} : SN G (fun xs H Q => ∃ i, xs = [.int i] ∧ Q (.int (if i < 0 then -i else i)) H) fAbs := by
  intro Z m μ H xs us Q Q' M r h k
  unfold fAbs at h
  split at h
  · obtain ⟨v, t, rfl, r1, r2⟩ := r.uncons
    rw [Reps] at r2
    rw [Rep] at r1
    subst r1 r2
    exact ⟨_, rfl, k _ _ (.now M (by rw [Rep]) h)⟩
  · exact h.elim
/-- the ints of a list of ints -/
def intD : D → Option Int
  | .int i => some i
  | _ => none
theorem intD_of {d : D} {i : Int} (h : intD d = some i) : d = .int i := by
  cases d <;> first | (cases h; done) | (cases h; rfl)
def intsD : List D → Option (List Int)
  | [] => some []
  | d :: ds => match intD d, intsD ds with
    | some i, some ns => some (i :: ns)
    | _, _ => none
theorem ints_rep {G : Gx} {m : List Addr} {E : Hp} : ∀ {ds : List D} {vs : List V} {ns : List Int}, Reps G m E ds vs → intsD ds = some ns → vs = ns.map V.int
  | [], vs, ns, r, e => by rw [Reps] at r; rw [intsD] at e; cases e; exact r
  | d :: ds, vs, ns, r, e => by
    obtain ⟨v, t, rfl, r1, r2⟩ := r.uncons
    rw [intsD] at e
    split at e
    · rename_i i ms h1 h2
      cases e
      have e1 := intD_of h1
      subst e1
      rw [Rep] at r1
      subst r1
      rw [ints_rep r2 h2]
      rfl
    · cases e
theorem intsD_map (ns : List Int) : intsD (ns.map D.int) = some ns := by
  induction ns with
  | nil => rfl
  | cons n ns ih => rw [List.map_cons, intsD, ih]; rfl
theorem reps_ints {G : Gx} {m : List Addr} {E : Hp} (ns : List Int) : Reps G m E (ns.map D.int) (ns.map V.int) := Reps.map_of (fun _ => by rw [Rep]) ns
end DL

set_option Elab.async false
set_option linter.all false
set_option maxRecDepth 100000
set_option maxHeartbeats 4000000
set_option autoImplicit false
namespace DL
open PySem PySem.Spec PyProof.Rows L2 RZ
/-! ### what is walked -/
abbrev WI := DS → Mu → (List D → Mu → Prop) → XD → Prop
/-- an iterator that gives the data ds, as long as what E0 shows stands -/
structure ItOk (G : Gx) (J : It) (m0 : List Addr) (E0 : Hp) (ds : List D) : Prop where
  go : ∀ (i : Nat) H, i < ds.length → Same E0 H → J.go i H
  stop : ∀ H, Same E0 H → J.stop ds.length H
  yld : ∀ (i : Nat) H x H3, i < ds.length → Same E0 H → J.yld i H x H3 → ∃ d, ds[i]? = some d ∧ ((H3 = H ∧ Rep G m0 E0 d x) ∨ ∃ T o, H T = none ∧ H3 = upd H T o ∧ ∀ m E, m0 <+: m → Same E0 E → E T = some o → Rep G m E d x)
def IPost (G : Gx) (Z : Addr → Prop) (m : List Addr) (H : Hp) (Q : List D → Mu → Prop) (J : It) (H' : Hp) : Prop :=
  ∃ m' ds μ', Step G Z m H m' μ' H' ∧ ItOk G J m' (vis Z m' H') ds ∧ Q ds μ'
/-- the same, as long as what is hidden stands, too -/
structure ItOkF (G : Gx) (J : It) (m0 : List Addr) (E0 : Hp) (F : Hp → Prop) (ds : List D) : Prop where
  go : ∀ (i : Nat) H, i < ds.length → Same E0 H → F H → J.go i H
  stop : ∀ H, Same E0 H → F H → J.stop ds.length H
  yld : ∀ (i : Nat) H x H3, i < ds.length → Same E0 H → F H → J.yld i H x H3 → ∃ d, ds[i]? = some d ∧ ((H3 = H ∧ Rep G m0 E0 d x) ∨ ∃ T o, H T = none ∧ H3 = upd H T o ∧ ∀ m E, m0 <+: m → Same E0 E → E T = some o → Rep G m E d x)
theorem ItOk.toF {G : Gx} {J : It} {m0 : List Addr} {E0 : Hp} {F : Hp → Prop} {ds : List D} (h : ItOk G J m0 E0 ds) : ItOkF G J m0 E0 F ds := ⟨fun i H a b _ => h.go i H a b, fun H b _ => h.stop H b, fun i H x H3 a b _ c => h.yld i H x H3 a b c⟩
def IPostF (G : Gx) (Z : Addr → Prop) (m : List Addr) (H : Hp) (Q : List D → Mu → Prop) (J : It) (H' : Hp) : Prop :=
  ∃ m' ds μ' F, Step G Z m H m' μ' H' ∧ (∀ H2, (∀ z, Z z → H2 z = H' z) → F H2) ∧ ItOkF G J m' (vis Z m' H') F ds ∧ Q ds μ'
theorem IPost.toF {G : Gx} {Z : Addr → Prop} {m : List Addr} {H : Hp} {Q : List D → Mu → Prop} {J : It} {H' : Hp} (p : IPost G Z m H Q J H') : IPostF G Z m H Q J H' := by
  obtain ⟨m', ds, μ', s, ok, q⟩ := p
  exact ⟨m', ds, μ', fun _ => True, s, fun _ _ => trivial, ok.toF, q⟩
def liftIF (G : Gx) (W : WX) (w : WI) : TI := fun σ H R => ∃ Z m ρ μ Q Xd, SR G Z m σ H ρ μ ∧ w ρ μ Q Xd ∧ (∀ J H', IPostF G (ownW Z σ ρ) m H Q J H' → R J H') ∧ ∀ cls d H', XPost G (ownW Z σ ρ) m H Xd cls d H' → W cls d σ H'
def liftI (G : Gx) (W : WX) (w : WI) : TI := fun σ H R => ∃ Z m ρ μ Q Xd, SR G Z m σ H ρ μ ∧ w ρ μ Q Xd ∧ (∀ J H', IPost G (ownW Z σ ρ) m H Q J H' → R J H') ∧ ∀ cls d H', XPost G (ownW Z σ ρ) m H Xd cls d H' → W cls d σ H'
abbrev DI (ex : Option (Addr × Addr × Addr)) (W : WX) (X : Cx) (tg e : Expr) (w : WI) : Prop := PI X tg e (liftI (gx X ex) W w)
theorem pi_weak {X : Cx} {tg e : Expr} {t t' : TI} (h : PI X tg e t) (k : ∀ σ H Q, t' σ H Q → t σ H Q) : PI X tg e t' := ⟨fun pins s σ H Q I q => h.run pins s σ H Q I (k σ H Q q)⟩
abbrev DIF (ex : Option (Addr × Addr × Addr)) (W : WX) (X : Cx) (tg e : Expr) (w : WI) : Prop := PI X tg e (liftIF (gx X ex) W w)
theorem DI.toF {ex : Option (Addr × Addr × Addr)} {W : WX} {X : Cx} {tg e : Expr} {w : WI} (h : DI ex W X tg e w) : DIF ex W X tg e w := pi_weak h fun σ H R q => by
  obtain ⟨Z, m, ρ, μ, Q, Xd, S, q, k, kx⟩ := q
  exact ⟨Z, m, ρ, μ, Q, Xd, S, q, fun J H' P => k J H' P.toF, kx⟩
def tupOr (d : D) (Q : List D → Prop) : Prop := match d with
  | .tup ds => Q ds
  | _ => False
theorem tupOr_of {d : D} {Q : List D → Prop} (h : tupOr d Q) : ∃ ds, d = .tup ds ∧ Q ds := by
  unfold tupOr at h
  split at h
  · exact ⟨_, rfl, h⟩
  · exact h.elim
def wiL (wa : WE) : WI := fun ρ μ Q Xd => wa ρ μ (fun d μ1 => lstOr d fun ds => Q ds μ1) Xd
def wiT (wa : WE) : WI := fun ρ μ Q Xd => wa ρ μ (fun d μ1 => tupOr d fun ds => Q ds μ1) Xd
/-- lo, lo + 1, .. -/
def rangeD (lo : Int) (n : Nat) : List D := (List.range n).map fun (k : Nat) => D.int (lo + (k : Int))
def rg1 (ds : List D) (Q : List D → Prop) : Prop := match ds with
  | [.int j] => -(2 ^ 62) ≤ j ∧ j < 2 ^ 62 ∧ Q (rangeD 0 j.toNat)
  | _ => False
def rg2 (ds : List D) (Q : List D → Prop) : Prop := match ds with
  | [.int i, .int j] => (-(2 ^ 62) ≤ i ∧ i < 2 ^ 62 ∧ -(2 ^ 62) ≤ j ∧ j < 2 ^ 62) ∧ Q (rangeD i (j - i).toNat)
  | _ => False
theorem rg1_of {ds : List D} {Q : List D → Prop} (h : rg1 ds Q) : ∃ j : Int, ds = [.int j] ∧ -(2 ^ 62) ≤ j ∧ j < 2 ^ 62 ∧ Q (rangeD 0 j.toNat) := by
  unfold rg1 at h
  split at h
  · exact ⟨_, rfl, h⟩
  · exact h.elim
def wiR1 (wa : WA) : WI := fun ρ μ Q Xd => wa ρ μ (fun ds μ1 => rg1 ds fun es => Q es μ1) Xd
def wiR2 (wa : WA) : WI := fun ρ μ Q Xd => wa ρ μ (fun ds μ1 => rg2 ds fun es => Q es μ1) Xd
/-- enumerate, zip -/
def enumD (ds : List D) : List D := ds.mapIdx fun i d => D.tup [.int (i : Nat), d]
def zipD (a b : List D) : List D := (a.zip b).map fun p => D.tup [p.1, p.2]
def lst1 (ds : List D) (Q : List D → Prop) : Prop := match ds with
  | [d] => lstOr d Q
  | _ => False
def wiEnum (wa : WA) : WI := fun ρ μ Q Xd => wa ρ μ (fun ds μ1 => lst1 ds fun es => Q (enumD es) μ1) Xd
def zip2 (ds : List D) (Q : List D → Prop) : Prop := match ds with
  | [a, b] => match a, b with
    | .tup xs, .tup ys => Q (zipD xs ys)
    | .lst xs, .lst ys => Q (zipD xs ys)
    | .frl xs, .lst ys => Q (zipD xs ys)
    | .lst xs, .frl ys => Q (zipD xs ys)
    | _, _ => False
  | _ => False
def wiZip (wa : WA) : WI := fun ρ μ Q Xd => wa ρ μ (fun ds μ1 => zip2 ds fun es => Q es μ1) Xd
theorem itok_list {G : Gx} {m : List Addr} {E : Hp} {a : Addr} {vs : List V} {ds : List D} (s : SqL G.K E a vs) (r : Reps G m E ds vs) : ItOk G (Itl G.K a) m E ds := by
  refine ⟨fun i H hi hs => ?_, fun H hs => ⟨vs, Same.seq hs s, by rw [r.len]; exact Nat.le_refl _⟩, fun i H x H3 hi hs y => ?_⟩
  · obtain ⟨v, e, _⟩ := r.get (List.getElem?_eq_getElem hi)
    exact ⟨vs, v, Same.seq hs s, e⟩
  · obtain ⟨e, y⟩ := y
    obtain ⟨d, ed, rd⟩ := r.get' (y vs (Same.seq hs s))
    exact ⟨d, ed, .inl ⟨e, rd⟩⟩
theorem itok_tup {G : Gx} {m : List Addr} {E : Hp} {a : Addr} {vs : List V} {ds : List D} (s : SqT G.K E a vs) (r : Reps G m E ds vs) : ItOk G (Itt G.K a) m E ds := by
  refine ⟨fun i H hi hs => ?_, fun H hs => ⟨vs, SqT.same hs s, by rw [r.len]; exact Nat.le_refl _⟩, fun i H x H3 hi hs y => ?_⟩
  · obtain ⟨v, e, _⟩ := r.get (List.getElem?_eq_getElem hi)
    exact ⟨vs, v, SqT.same hs s, e⟩
  · obtain ⟨e, y⟩ := y
    obtain ⟨d, ed, rd⟩ := r.get' (y vs (SqT.same hs s))
    exact ⟨d, ed, .inl ⟨e, rd⟩⟩
theorem itok_range {G : Gx} {m : List Addr} {E : Hp} {lo : Int} {n : Nat} : ItOk G (Itr lo n) m E (rangeD lo n) := by
  have hl : (rangeD lo n).length = n := by simp [rangeD]
  refine ⟨fun i H hi hs => ?_, fun H hs => ?_, fun i H x H3 hi hs y => ?_⟩
  · rw [hl] at hi; exact hi
  · rw [hl]; exact Nat.le_refl _
  · rw [hl] at hi
    obtain ⟨e, ex⟩ := y
    refine ⟨.int (lo + i), ?_, .inl ⟨e, by rw [Rep]; exact ex⟩⟩
    simp [rangeD, hi]
theorem itok_enum {G : Gx} {m : List Addr} {E : Hp} {a : Addr} {vs : List V} {ds : List D} (s : SqL G.K E a vs) (r : Reps G m E ds vs) : ItOk G (Ite G.K a) m E (enumD ds) := by
  have hl : (enumD ds).length = ds.length := by simp [enumD]
  refine ⟨fun i H hi hs => ?_, fun H hs => ⟨vs, Same.seq hs s, by rw [hl, r.len]; exact Nat.le_refl _⟩, fun i H x H3 hi hs y => ?_⟩
  · rw [hl] at hi
    obtain ⟨v, e, _⟩ := r.get (List.getElem?_eq_getElem hi)
    exact ⟨vs, v, Same.seq hs s, e⟩
  · obtain ⟨T, x', e, nT, eH, y⟩ := y
    obtain ⟨d, ed, rd⟩ := r.get' (y vs (Same.seq hs s))
    refine ⟨.tup [.int (i : Nat), d], ?_, .inr ⟨T, _, nT, eH, fun m' E' hp hE eT => ?_⟩⟩
    · simp only [enumD, List.getElem?_mapIdx, ed, Option.map_some]
    · rw [Rep]
      exact ⟨T, _, e, .inl (.inl eT), Reps.cons (by rw [Rep]) (Reps.cons (Rep.mono hp hE _ _ rd) Reps.nil)⟩
section
variable {ex : Option (Addr × Addr × Addr)} {W : WX} {X : Cx} {tg e : Expr} {wa : WE} {ws : WA} {p pos : Pos}
theorem di_list (h : DE ex W X e wa) : DI ex W X tg e (wiL wa) := pi_weak (pi_list h) fun σ H R q => by
  obtain ⟨Z, m, ρ, μ, Q, Xd, S, q, k, kx⟩ := q
  refine ⟨Z, m, ρ, μ, _, Xd, S, q, fun v H1 P => ?_, kx⟩
  obtain ⟨m1, d, μ1, s1, r1, q1⟩ := P
  obtain ⟨ds, a, vs, e, sq, rs, q2⟩ := lstOr_rep q1 r1
  exact ⟨a, e, ⟨vs, Same.seq vis_le sq⟩, k _ _ ⟨m1, ds, μ1, s1, itok_list (G := gx X ex) sq rs, q2⟩⟩
theorem di_tup (h : DE ex W X e wa) : DI ex W X tg e (wiT wa) := pi_weak (pi_tup h) fun σ H R q => by
  obtain ⟨Z, m, ρ, μ, Q, Xd, S, q, k, kx⟩ := q
  refine ⟨Z, m, ρ, μ, _, Xd, S, q, fun v H1 P => ?_, kx⟩
  obtain ⟨m1, d, μ1, s1, r1, q1⟩ := P
  obtain ⟨ds, rfl, q2⟩ := tupOr_of q1
  rw [Rep] at r1
  obtain ⟨a, vs, e, sq, rs⟩ := r1
  exact ⟨a, e, ⟨vs, SqT.same vis_le sq⟩, k _ _ ⟨m1, ds, μ1, s1, itok_tup (G := gx X ex) sq rs, q2⟩⟩
theorem di_range1 (hg : Gl X "range") (hm : X.mg "range" = none) (ha : DA ex W X [e] ws) (hs : starEach [e] X.env = [(false, eval e X.env)] := by rfl) : DI ex W X tg (.Call (.Name "range" p) [e] [] pos) (wiR1 ws) := pi_weak (pi_range1 hg hm ha hs) fun σ H R q => by
  obtain ⟨Z, m, ρ, μ, Q, Xd, S, q, k, kx⟩ := q
  refine ⟨Z, m, ρ, μ, _, Xd, S, q, fun vs H1 P => ?_, kx⟩
  obtain ⟨m1, ds, μ1, s1, r1, q1⟩ := P
  obtain ⟨j, rfl, h1, h2, q2⟩ := rg1_of q1
  obtain ⟨v, t, rfl, r2, r3⟩ := r1.uncons
  rw [Reps] at r3
  rw [Rep] at r2
  subst r2 r3
  exact ⟨j, rfl, h1, h2, k _ _ ⟨m1, _, μ1, s1, itok_range, q2⟩⟩
theorem lst_rep' {G : Gx} {m : List Addr} {E : Hp} {d : D} {ds : List D} {u : V} (h : d = .lst ds ∨ d = .frl ds) (r : Rep G m E d u) : ∃ a vs, u = .ref a ∧ SqL G.K E a vs ∧ Reps G m E ds vs := by
  obtain ⟨es, a, vs, h1, h2, h3, h4⟩ := lstOr_rep (Q := fun es => es = ds) (by rcases h with e | e <;> (subst e; rfl)) r
  exact ⟨a, vs, h1, h2, h4 ▸ h3⟩
end
/-! ### a list of the def's own, walked while it stands -/
def ownL (o : Option Sl) (k : List D → Prop) : Prop := match o with
  | some (.own _ (.lst ds)) => k ds
  | _ => False
theorem ownL_of {o : Option Sl} {k : List D → Prop} (h : ownL o k) : ∃ p ds, o = some (.own p (.lst ds)) ∧ k ds := by
  unfold ownL at h
  split at h
  · exact ⟨_, _, rfl, h⟩
  · exact h.elim
def wiOwn (i : Nat) : WI := fun ρ μ Q _ => ownL (ρ[i]?) fun ds => Q ds μ
/-! ### for -/
def forL (g : WG) (b : WS) (E : DEnds) : List D → DS → Mu → Prop
  | [], ρ, μ => E.nx ρ μ
  | d :: ds, ρ, μ => g d ρ μ fun ρ1 μ1 => b { E with nx := forL g b E ds, ct := forL g b E ds, bk := E.nx } ρ1 μ1
def sFor (wi : WI) (g : WG) (b : WS) : WS := fun E ρ μ => wi ρ μ (fun ds μ1 => forL g b E ds ρ μ1) fun c ks es μ' => E.xc c ks es ρ μ'
theorem SR.laid {G : Gx} {Z : Addr → Prop} {m : List Addr} {σ : L2.St} {H : Hp} {ρ : DS} {μ : Mu} (S : SR G Z m σ H ρ μ) {p : Addr} {o : HO} (np : H p = none) : SR G Z m σ (upd H p o) ρ μ ∧ SStep G Z m σ ρ H m σ ρ (upd H p o) :=
  ⟨S.step (Step.laid S.mu np), SStep.of (μ' := μ) (Step.laid S.mu np)⟩
theorem forL_cons {g : WG} {b : WS} {E : DEnds} {ds : List D} {i : Nat} {d : D} {ρ : DS} {μ : Mu} (hd : ds[i]? = some d) (h : forL g b E (ds.drop i) ρ μ) :
    g d ρ μ fun ρ1 μ1 => b { E with nx := forL g b E (ds.drop (i + 1)), ct := forL g b E (ds.drop (i + 1)), bk := E.nx } ρ1 μ1 := by
  obtain ⟨hi, e⟩ := List.getElem?_eq_some_iff.mp hd
  rw [List.drop_eq_getElem_cons hi, forL, e] at h
  exact h
section
variable {ex : Option (Addr × Addr × Addr)} {W : WX} {X : Cx} {tg iter : Expr} {body : List Stmt} {wi : WI} {g : WG} {b : WS} {pos : Pos}
theorem ds_for (hp : PassesOwn (model X.prog X.w) X.A X.env X.xe) (hc : X.calm = true) (hi : DI ex W X tg iter wi) (hg : DG ex X tg g) (hb : DSs ex W X body b) (hs : ∀ x, foldedSetIterable iter X.env x = pure x := by intro _; rfl) :
    DSt ex W X (.For tg iter body [] pos) (sFor wi g b) := ps_weak (ps_for hp hc hi hg hb hs) fun De σ H q => by
  obtain ⟨Z, m, ρ, μ, E, S, q, kn, kr, kb, kc, kx⟩ := q
  refine ⟨Z, m, ρ, μ, _, _, S, q, fun J H1 P => ?_, fun cls d H' P => kx cls d σ H' (XSPost.of S P)⟩
  obtain ⟨m1, ds, μ1, s1, ok, q1⟩ := P
  have t1 : SStep (gx X ex) Z m σ ρ H m1 σ ρ H1 := SStep.of s1
  refine ⟨fun i n σ' H' => n = ds.length - i ∧ i ≤ ds.length ∧ ∃ m' ρ' μ', SR (gx X ex) Z m' σ' H' ρ' μ' ∧ SStep (gx X ex) Z m1 σ ρ H1 m' σ' ρ' H' ∧ forL g b E (ds.drop i) ρ' μ', ⟨_, rfl, Nat.zero_le _, m1, ρ, μ1, S.step s1, .refl, q1⟩, ?_⟩
  rintro i n σ' H' ⟨rfl, hle, m', ρ', μ', S', s', q'⟩
  have vis' : Same (vis (ownW Z σ ρ) m1 H1) H' := s'.same.trans vis_le
  by_cases hlt : i < ds.length
  · refine .inr ⟨ok.go i H' hlt vis', fun σ2 H2 => ∃ m2 ρ2 μ2, SR (gx X ex) Z m2 σ2 H2 ρ2 μ2 ∧ SStep (gx X ex) Z m1 σ ρ H1 m2 σ2 ρ2 H2 ∧ forL g b E (ds.drop (i + 1)) ρ2 μ2,
      fun σ2 H2 ⟨m2, ρ2, μ2, S2, s2, q2⟩ => ⟨_, (by omega : ds.length - (i + 1) < ds.length - i), rfl, hlt, m2, ρ2, μ2, S2, s2, q2⟩, fun x H3 y => ?_⟩
    obtain ⟨d, ed, hy⟩ := ok.yld i H' x H3 hlt vis' y
    have q2 := forL_cons ed q'
    have : ∃ S3 : SR (gx X ex) Z m' σ' H3 ρ' μ', SStep (gx X ex) Z m1 σ ρ H1 m' σ' ρ' H3 ∧ Rep (gx X ex) m' (vis (ownW Z σ' ρ') m' H3) d x := by
      rcases hy with ⟨rfl, rd⟩ | ⟨T, o, nT, rfl, rd⟩
      · exact ⟨S', s', Rep.mono s'.pre s'.same _ _ rd⟩
      · obtain ⟨S3, s3⟩ := S'.laid (o := o) nT
        exact ⟨S3, s'.trans s3, rd _ _ s'.pre (s'.trans s3).same (by rw [vis_upd S'.mu nT, upd_same])⟩
    obtain ⟨S3, s3, rd⟩ := this
    refine ⟨Z, m', ρ', μ', d, _, S3, rd, q2, fun σ4 H4 P => ?_⟩
    obtain ⟨m4, ρ4, μ4, S4, s4, q4⟩ := P
    have t4 := s3.trans s4
    refine ⟨Z, m4, ρ4, μ4, _, S4, q4, fun σ5 H5 P => ?_, fun v H5 P => kr v H5 (RPost.from (t1.trans t4) P), fun σ5 H5 P => kn σ5 H5 (SPost.from (t1.trans t4) P), fun σ5 H5 P => ?_, fun cls d σ5 H5 P => kx cls d σ5 H5 (XSPost.from (t1.trans t4) P)⟩
    · obtain ⟨m5, ρ5, μ5, S5, s5, q5⟩ := P
      exact ⟨m5, ρ5, μ5, S5, t4.trans s5, q5⟩
    · obtain ⟨m5, ρ5, μ5, S5, s5, q5⟩ := P
      exact ⟨m5, ρ5, μ5, S5, t4.trans s5, q5⟩
  · have e : i = ds.length := by omega
    subst e
    refine .inl ⟨ok.stop H' vis', kn σ' H' ⟨m', ρ', μ', S', t1.trans s', ?_⟩⟩
    rw [List.drop_length, forL] at q'
    exact q'
/-! ### while -/
def whileL (c : WT) (b : WS) (E : DEnds) : Nat → DS → Mu → Prop
  | 0, _, _ => False
  | n + 1, ρ, μ => c ρ μ (fun k μ1 => if k = true then b { E with nx := whileL c b E n, ct := whileL c b E n, bk := E.nx } ρ μ1 else E.nx ρ μ1) fun c ks es μ' => E.xc c ks es ρ μ'
def sWhile (c : WT) (b : WS) : WS := fun E ρ μ => ∃ n, whileL c b E n ρ μ
theorem ds_while {c : Expr} {t : WT} (hp : PassesOwn (model X.prog X.w) X.A X.env X.xe) (hc : DT ex W X c t) (hb : DSs ex W X body b) : DSt ex W X (.While c body [] pos) (sWhile t b) := ps_weak (ps_while hp hc hb) fun De σ H q => by
  obtain ⟨Z, m, ρ, μ, E, S, ⟨n, q⟩, kn, kr, kb, kc, kx⟩ := q
  refine ⟨fun n σ' H' => ∃ m' ρ' μ', SR (gx X ex) Z m' σ' H' ρ' μ' ∧ SStep (gx X ex) Z m σ ρ H m' σ' ρ' H' ∧ whileL t b E n ρ' μ', ⟨n, m, ρ, μ, S, .refl, q⟩, ?_⟩
  rintro n σ' H' ⟨m', ρ', μ', S', s', q'⟩
  cases n with
  | zero => exact q'.elim
  | succ n =>
    refine ⟨Z, m', ρ', μ', _, _, S', q', fun k H1 P => ?_, fun cls d H1 P => kx cls d σ' H1 (XSPost.from s' (XSPost.of S' P))⟩
    obtain ⟨m1, μ1, s1, q1⟩ := P
    have t1 := s'.trans (SStep.of s1)
    cases k with
    | true =>
      rw [if_pos rfl] at q1 ⊢
      refine ⟨fun σ2 H2 => ∃ m2 ρ2 μ2, SR (gx X ex) Z m2 σ2 H2 ρ2 μ2 ∧ SStep (gx X ex) Z m σ ρ H m2 σ2 ρ2 H2 ∧ whileL t b E n ρ2 μ2, fun σ2 H2 h2 => ⟨n, Nat.lt_succ_self _, h2⟩, ?_⟩
      refine ⟨Z, m1, ρ', μ1, _, S'.step s1, q1, fun σ5 H5 P => ?_, fun v H5 P => kr v H5 (RPost.from t1 P), fun σ5 H5 P => kn σ5 H5 (SPost.from t1 P), fun σ5 H5 P => ?_, fun cls d σ5 H5 P => kx cls d σ5 H5 (XSPost.from t1 P)⟩
      · obtain ⟨m5, ρ5, μ5, S5, s5, q5⟩ := P
        exact ⟨m5, ρ5, μ5, S5, t1.trans s5, q5⟩
      · obtain ⟨m5, ρ5, μ5, S5, s5, q5⟩ := P
        exact ⟨m5, ρ5, μ5, S5, t1.trans s5, q5⟩
    | false =>
      rw [if_neg Bool.false_ne_true] at q1 ⊢
      exact kn σ' H1 ⟨m1, ρ', μ1, S'.step s1, t1, q1⟩
end
end DL

set_option Elab.async false
set_option linter.all false
set_option maxRecDepth 100000
set_option maxHeartbeats 4000000
set_option autoImplicit false
namespace DL
open PySem PySem.Spec PyProof.Rows L2
/-! ### comprehensions -/
def wipeD (ρ : DS) : List Nat → DS
  | [] => ρ
  | v :: vs => (wipeD ρ vs).set v .no
theorem wipeD_len (ρ : DS) : ∀ vs, (wipeD ρ vs).length = ρ.length
  | [] => rfl
  | v :: vs => by rw [wipeD, List.length_set, wipeD_len]
theorem wipeD_get {ρ : DS} {i : Nat} {x : Sl} (hx : x ≠ .no) : ∀ {vs : List Nat}, (wipeD ρ vs)[i]? = some x → ρ[i]? = some x ∧ i ∉ vs
  | [], h => ⟨h, by simp⟩
  | v :: vs, h => by
    rw [wipeD] at h
    by_cases hv : v = i
    · subst hv
      rw [List.getElem?_set] at h
      simp at h
      exact absurd h.2.symm hx
    · rw [List.getElem?_set_ne hv] at h
      obtain ⟨h1, h2⟩ := wipeD_get hx h
      exact ⟨h1, by simp [h2, Ne.symm hv]⟩
theorem wipe_get {σ : L2.St} {i : Nat} : ∀ {vs : List Nat}, i ∉ vs → (wipe σ vs)[i]? = σ[i]?
  | [], _ => rfl
  | v :: vs, h => by
    rw [wipe, List.getElem?_set_ne (fun e => h (by simp [e]))]
    exact wipe_get fun q => h (by simp [q])
/-- no slot at vs is a list that is being filled -/
def noOwn (ρ : DS) (vs : List Nat) : Prop := ∀ v ∈ vs, ∀ a ds, ρ[v]? ≠ some (.own a ds)
theorem own_wipe {Z : Addr → Prop} {σ : L2.St} {ρ : DS} {vs : List Nat} {b : Addr} (h : ownW Z (wipe σ vs) (wipeD ρ vs) b) : ownW Z σ ρ b := by
  rcases h with h | ⟨i, ds, e1⟩
  · exact .inl h
  · obtain ⟨e3, e4⟩ := wipeD_get (by intro z; cases z) e1
    exact .inr ⟨i, ds, e3⟩
theorem own_wipe' {Z : Addr → Prop} {σ : L2.St} {ρ : DS} {vs : List Nat} (no : noOwn ρ vs) : ownW Z (wipe σ vs) (wipeD ρ vs) = ownW Z σ ρ := by
  funext b
  refine propext ⟨own_wipe, fun h => ?_⟩
  rcases h with h | ⟨i, ds, e1⟩
  · exact .inl h
  · have hi : i ∉ vs := fun q => no i q b ds e1
    refine .inr ⟨i, ds, ?_⟩
    have : ∀ {l : List Nat}, i ∉ l → (wipeD ρ l)[i]? = ρ[i]? := by
      intro l
      induction l with
      | nil => intro _; rfl
      | cons v l ih =>
        intro hv
        rw [wipeD, List.getElem?_set_ne (fun e => hv (by simp [e]))]
        exact ih fun q => hv (by simp [q])
    rw [this hi]; exact e1
/-- hiding one thing more -/
def addZ (Z : Addr → Prop) (D : Addr) : Addr → Prop := fun b => Z b ∨ b = D
theorem own_add {Z : Addr → Prop} {D : Addr} {σ : L2.St} {ρ : DS} : ownW (addZ Z D) σ ρ = addZ (ownW Z σ ρ) D := by
  funext b
  apply propext
  unfold ownW addZ
  constructor
  · rintro ((h | h) | h)
    · exact .inl (.inl h)
    · exact .inr h
    · exact .inl (.inr h)
  · rintro ((h | h) | h)
    · exact .inl (.inl h)
    · exact .inr h
    · exact .inl (.inr h)
theorem SR.wiped {G : Gx} {Z : Addr → Prop} {m : List Addr} {σ : L2.St} {H : Hp} {ρ : DS} {μ : Mu} (S : SR G Z m σ H ρ μ) {vs : List Nat} (no : noOwn ρ vs) : SR G Z m (wipe σ vs) H (wipeD ρ vs) μ := by
  refine ⟨by rw [wipeD_len, wipe_length]; exact S.len, by rw [own_wipe' no]; exact S.mu, fun i d e => ?_, fun i a ds e => ?_, fun i j a ds es e1 e2 => ?_, fun i c ks ds e => ?_⟩
  · obtain ⟨e1, e2⟩ := wipeD_get (by intro z; cases z) e
    obtain ⟨v, h1, h2⟩ := S.val i d e1
    exact ⟨v, by rw [wipe_get e2]; exact h1, by rw [own_wipe' no]; exact h2⟩
  · obtain ⟨e1, e2⟩ := wipeD_get (by intro z; cases z) e
    obtain ⟨h1, h2, h4⟩ := S.own i a ds e1
    exact ⟨by rw [wipe_get e2]; exact h1, h2, by rw [own_wipe' no]; exact h4⟩
  · obtain ⟨h1, h2⟩ := wipeD_get (by intro z; cases z) e1
    obtain ⟨h3, h4⟩ := wipeD_get (by intro z; cases z) e2
    exact S.dis i j a ds es h1 h3
  · obtain ⟨e1, e2⟩ := wipeD_get (by intro z; cases z) e
    rw [wipe_get e2, own_wipe' no]
    exact S.exn i c ks ds e1
/-- the new list is hidden: it is in nobody's sight -/
theorem MuOk.hide {G : Gx} {Z : Addr → Prop} {m : List Addr} {μ : Mu} {H : Hp} (M : MuOk G Z m μ H) {D : Addr} {o : HO} (nD : H D = none) : MuOk G (addZ Z D) m μ (upd H D o) ∧ Same (vis Z m H) (vis (addZ Z D) m (upd H D o)) := by
  obtain ⟨h1, h2⟩ := M.fresh nD
  have sm : Same (vis Z m H) (vis (addZ Z D) m (upd H D o)) := fun b x e => by
    obtain ⟨z1, z2, z3⟩ := vis_some.mp e
    have hb : b ≠ D := fun q => by rw [q, nD] at z3; cases z3
    exact vis_some.mpr ⟨fun q => q.elim z1 hb, z2, by rw [upd_ne hb]; exact z3⟩
  refine ⟨⟨M.len, M.nd, fun a ha q => q.elim (M.out a ha) fun e => h2 (e ▸ ha), fun z hz => ?_, fun n c a hc ha => ?_⟩, sm⟩
  · rcases hz with hz | hz
    · by_cases e : z = D
      · rw [e, upd_same]; intro q; cases q
      · rw [upd_ne e]; exact M.hw z hz
    · rw [hz, upd_same]; intro q; cases q
  · have hb : a ≠ D := fun e => h2 (e ▸ List.mem_of_getElem? ha)
    exact (M.cell n c a hc ha).keep (List.prefix_refl _) sm (upd_ne hb)
theorem vis_hidden {Z : Addr → Prop} {m : List Addr} {H : Hp} {D : Addr} {o : HO} : vis (addZ Z D) m (upd H D o) = vis (addZ Z D) m H := by
  funext b
  unfold vis
  by_cases hb : b = D
  · rw [if_pos (.inl (.inr hb)), if_pos (.inl (.inr hb))]
  · rw [upd_ne hb]
/-- a hidden thing is written -/
theorem MuOk.hid {G : Gx} {Z : Addr → Prop} {m : List Addr} {μ : Mu} {H : Hp} {D : Addr} {o : HO} (M : MuOk G (addZ Z D) m μ H) : MuOk G (addZ Z D) m μ (upd H D o) := by
  refine ⟨M.len, M.nd, M.out, fun z hz => ?_, fun n c a hc ha => ?_⟩
  · by_cases e : z = D
    · rw [e, upd_same]; intro q; cases q
    · rw [upd_ne e]; exact M.hw z hz
  · have hb : a ≠ D := fun e => M.out a (List.mem_of_getElem? ha) (.inr e)
    rw [vis_hidden]
    exact (M.cell n c a hc ha).keep (List.prefix_refl _) (Same.refl _) (upd_ne hb)
theorem SR.hid {G : Gx} {Z : Addr → Prop} {m : List Addr} {σ : L2.St} {H : Hp} {ρ : DS} {μ : Mu} {D : Addr} {o : HO} (S : SR G (addZ Z D) m σ H ρ μ) : SR G (addZ Z D) m σ (upd H D o) ρ μ := by
  have e := own_add (Z := Z) (D := D) (σ := σ) (ρ := ρ)
  refine ⟨S.len, ?_, fun i d h => ?_, fun i a ds h => ?_, S.dis, fun i c ks ds h => ?_⟩
  · rw [e]; exact MuOk.hid (e ▸ S.mu)
  · obtain ⟨v, h1, h2⟩ := S.val i d h
    rw [e] at h2
    exact ⟨v, h1, by rw [e, vis_hidden]; exact h2⟩
  · obtain ⟨h1, h2, h4⟩ := S.own i a ds h
    rw [e] at h4
    exact ⟨h1, h2, by rw [e, vis_hidden]; exact h4.keep (List.prefix_refl _) (Same.refl _) (upd_ne (fun q => h2 (.inr q)))⟩
  · have z := S.exn i c ks ds h
    rw [e] at z ⊢
    rw [vis_hidden]
    exact z
/-- a comprehension's target: what it does to the slots -/
def LcG (G : Gx) (vs : List Nat) (g : TG) (k : WG) : Prop := ∀ (Z : Addr → Prop) (m : List Addr) (μ : Mu) (σ : L2.St) (H : Hp) (ρ : DS) (d : D) (v : V) (Q : DS → Mu → Prop) (R : L2.St → Hp → Prop),
  SR G Z m σ H ρ μ → Rep G m (vis (ownW Z σ ρ) m H) d v → k d ρ μ Q → (∀ σ' ρ', SR G Z m σ' H ρ' μ → ownW Z σ' ρ' = ownW Z σ ρ → wipe σ' vs = wipe σ vs → Q ρ' μ → R σ' H) → g v σ H R
theorem wipe_set {σ : L2.St} {i : Nat} {x : Option V} : ∀ {vs : List Nat}, i ∈ vs → wipe (σ.set i x) vs = wipe σ vs
  | v :: vs, h => by
    rw [wipe, wipe]
    by_cases hi : i ∈ vs
    · rw [wipe_set hi]
    · have e : v = i := by simpa [hi, eq_comm] using h
      subst e
      have : ∀ {l : List Nat}, v ∉ l → wipe (σ.set v x) l = (wipe σ l).set v x := by
        intro l
        induction l with
        | nil => intro _; rfl
        | cons u l ih =>
          intro hu
          rw [wipe, wipe, ih fun q => hu (by simp [q]), List.set_comm _ _ (fun q => hu (by simp [q]))]
      rw [this hi, List.set_set]
theorem own_set_no {Z : Addr → Prop} {σ : L2.St} {ρ : DS} {i : Nat} {v : V} {d : D} (h : ∀ a ds, ρ[i]? ≠ some (.own a ds)) : ownW Z (σ.set i (some v)) (ρ.set i (.v d)) = ownW Z σ ρ := by
  funext b
  refine propext ⟨own_set, fun q => ?_⟩
  rcases q with q | ⟨j, ds, e1⟩
  · exact .inl q
  · have hj : i ≠ j := fun e => h b ds (e ▸ e1)
    exact .inr ⟨j, ds, by rw [List.getElem?_set_ne hj]; exact e1⟩
/-- a slot that is not being filled: checked where it is stored -/
def notOwn (ρ : DS) (i : Nat) : Prop := match ρ[i]? with
  | some (.own _ _) => False
  | _ => True
theorem notOwn_of {ρ : DS} {i : Nat} (h : notOwn ρ i) : ∀ a ds, ρ[i]? ≠ some (.own a ds) := fun a ds e => by
  unfold notOwn at h
  rw [e] at h
  exact h
def kNameC (i : Nat) : WG := fun d ρ μ Q => notOwn ρ i ∧ Q (ρ.set i (.v d)) μ
theorem lcg_name {G : Gx} {vs : List Nat} {i : Nat} (hi : i ∈ vs) : LcG G vs (gName i) (kNameC i) := by
  intro Z m μ σ H ρ d v Q R S r q k
  obtain ⟨no, q⟩ := q
  have no := notOwn_of no
  obtain ⟨S1, s1⟩ := S.set (i := i) r
  exact k _ _ S1 (own_set_no no) (wipe_set hi) q
def LcGs (G : Gx) (vs : List Nat) (g : TGs) (k : WGs) : Prop := ∀ (Z : Addr → Prop) (m : List Addr) (μ : Mu) (σ : L2.St) (H : Hp) (ρ : DS) (ds : List D) (us : List V) (Q : DS → Mu → Prop) (R : L2.St → Hp → Prop),
  SR G Z m σ H ρ μ → Reps G m (vis (ownW Z σ ρ) m H) ds us → k ds ρ μ Q → (∀ σ' ρ', SR G Z m σ' H ρ' μ → ownW Z σ' ρ' = ownW Z σ ρ → wipe σ' vs = wipe σ vs → Q ρ' μ → R σ' H) → g us σ H R
theorem lcgs_nil {G : Gx} {vs : List Nat} : LcGs G vs gNil kNil := by
  intro Z m μ σ H ρ ds us Q R S r q k
  cases ds with
  | nil => rw [Reps] at r; exact ⟨r, k _ _ S rfl rfl q⟩
  | cons d ds => exact q.elim
theorem lcgs_cons {G : Gx} {vs : List Nat} {g : TG} {k : WG} {gs : TGs} {ks : WGs} (h1 : LcG G vs g k) (h2 : LcGs G vs gs ks) : LcGs G vs (gCons g gs) (kCons k ks) := by
  intro Z m μ σ H ρ ds us Q R S r q kk
  cases ds with
  | nil => exact q.elim
  | cons d ds =>
    obtain ⟨v, vr, rfl, r1, r2⟩ := r.uncons
    refine ⟨v, vr, rfl, h1 Z m μ σ H ρ d v _ _ S r1 q fun σ' ρ' S' ow e q' => ?_⟩
    exact h2 Z m μ σ' H ρ' ds vr Q R S' (by rw [ow]; exact r2) q' fun σ2 ρ2 S2 ow2 e2 q2 => kk σ2 ρ2 S2 (ow2.trans ow) (e2.trans e) q2
theorem lcg_tup {G : Gx} {vs : List Nat} {n : Nat} {gs : TGs} {ks : WGs} (h : LcGs G vs gs ks) : LcG G vs (gTup G.K n gs) (kTup n ks) := by
  intro Z m μ σ H ρ d v Q R S r q k
  cases d with
  | tup ds =>
    obtain ⟨hl, q⟩ := q
    rw [Rep] at r
    obtain ⟨a, us, e1, st, rs⟩ := r
    exact ⟨a, us, e1, SqT.same vis_le st, by rw [← rs.len]; exact hl, h Z m μ σ H ρ ds us Q R S rs q k⟩
  | _ => exact q.elim
theorem wipe_at {σ : L2.St} {i : Nat} : ∀ {vs : List Nat}, i ∈ vs → (wipe σ vs).set i none = wipe σ vs
  | v :: vs, h => by
    by_cases e : v = i
    · subst e; rw [wipe, List.set_set]
    · have hi : i ∈ vs := by
        rcases List.mem_cons.mp h with q | q
        · exact absurd q.symm e
        · exact q
      rw [wipe, List.set_comm _ _ e, wipe_at hi]
theorem wipe_sub {σ : L2.St} {vs : List Nat} : ∀ {us : List Nat}, (∀ u ∈ us, u ∈ vs) → wipe (wipe σ vs) us = wipe σ vs
  | [], _ => rfl
  | u :: us, h => by rw [wipe, wipe_sub fun x hx => h x (by simp [hx]), wipe_at (h u (by simp))]
theorem wipe_wipe (σ : L2.St) (vs : List Nat) : wipe (wipe σ vs) vs = wipe σ vs := wipe_sub fun _ h => h
def WF : WX := fun _ _ _ _ => False
def xF : XD := fun _ _ _ _ => False
def lcL (g : WG) (tt : WT) (te : WE) (ρw : DS) : List D → List D → Mu → (D → Mu → Prop) → Prop
  | [], acc, μ, Q => Q (.lst acc) μ
  | d :: ds, acc, μ, Q => g d ρw μ fun ρ2 μ2 => tt ρ2 μ2 (fun b μ3 => if b = true then te ρ2 μ3 (fun y μ4 => acc.length < 1000000 ∧ lcL g tt te ρw ds (acc ++ [y]) μ4 Q) xF else lcL g tt te ρw ds acc μ3 Q) xF
def wLc (wi : WI) (g : WG) (tt : WT) (te : WE) (vs : List Nat) : WE := fun ρ μ Q Xd => wi ρ μ (fun ds μ1 => (∀ v ∈ vs, notOwn ρ v) ∧ lcL g tt te (wipeD ρ vs) ds [] μ1 Q) Xd
theorem xpF {G : Gx} {Z : Addr → Prop} {m : List Addr} {H H' : Hp} {cls : Value} {d : Option Addr} (p : XPost G Z m H xF cls d H') : False := by
  obtain ⟨_, _, _, _, _, _, _, _, _, _, _, _, _, _, _, q⟩ := p
  exact q
abbrev DTs (X : Cx) (ifs : List Expr) (w : WT) : Prop := PTs X ifs (liftT (gx X none) WF w)
def wYes : WT := fun _ μ Q _ => Q true μ
theorem pts_weak {X : Cx} {es : List Expr} {t t' : TT} (h : PTs X es t) (k : ∀ σ H Q, t' σ H Q → t σ H Q) : PTs X es t' := ⟨fun pins s σ H Q I q => h.run pins s σ H Q I (k σ H Q q)⟩
theorem dts_nil {X : Cx} : DTs X [] wYes := pts_weak pts_nil fun σ H Q' q => by
  obtain ⟨Z, m, ρ, μ, Q, Xd, S, q, k, kx⟩ := q
  exact k true H ⟨m, μ, .refl S.mu, q⟩
theorem dts_one {X : Cx} {c : Expr} {t : WT} (h : DT none WF X c t) : DTs X [c] t := pts_one h
theorem lift_lc {G : Gx} {W : WX} {wi : WI} {g : TG} {k : WG} {tt : WT} {te : WE} {vs : List Nat} (hg : LcG G vs g k) {σ : L2.St} {H : Hp} {Q' : VK} (q : lift G W (wLc wi k tt te vs) σ H Q') :
    tLc (liftIF G W wi) g (liftT G WF tt) (lift G WF te) vs σ H Q' := by
  obtain ⟨Z, m, ρ, μ, Q, Xd, S, q, kq, kx⟩ := q
  refine ⟨Z, m, ρ, μ, _, Xd, S, q, fun J H1 P => ?_, kx⟩
  obtain ⟨m1, ds, μ1, F, s1, hF, ok, no', q1⟩ := P
  have no : noOwn ρ vs := fun v hv a ds => notOwn_of (no' v hv) a ds
  intro D nD
  have S1 := S.step s1
  have E0 := own_wipe' (Z := Z) (σ := σ) (ρ := ρ) (vs := vs) no
  have Sw := S1.wiped (vs := vs) no
  obtain ⟨Mh, sh⟩ := MuOk.hide (o := .lst []) S1.mu nD
  -- the state of a turn
  have base : SR G (addZ Z D) m1 (wipe σ vs) (upd H1 D (.lst [])) (wipeD ρ vs) μ1 := by
    refine ⟨Sw.len, by rw [own_add, E0]; exact Mh, fun i d e => ?_, fun i a es e => ?_, Sw.dis, fun i c ks es e => ?_⟩
    · obtain ⟨v, h1, h2⟩ := Sw.val i d e
      rw [E0] at h2
      exact ⟨v, h1, by rw [own_add, E0]; exact Rep.mono (List.prefix_refl _) sh _ _ h2⟩
    · obtain ⟨h1, h2, h4⟩ := Sw.own i a es e
      rw [E0] at h4
      have na : a ≠ D := fun z => h4.there (by rw [z, nD])
      exact ⟨h1, fun z => z.elim h2 na, by rw [own_add, E0]; exact h4.keep (List.prefix_refl _) sh (upd_ne na)⟩
    · have z := Sw.exn i c ks es e
      rw [E0] at z
      rw [own_add, E0]
      exact z.mono (List.prefix_refl _) sh
  have nDW : ¬ ownW Z σ ρ D := fun z => S1.mu.hw D z nD
  let In : List DL.D → Hp → Prop := fun rest H' => ∃ m' μ' acc us, m1 <+: m' ∧ (∀ z, ownW Z σ ρ z → H' z = H1 z) ∧ SR G (addZ Z D) m' (wipe σ vs) H' (wipeD ρ vs) μ' ∧ Same (vis (ownW Z σ ρ) m1 H1) (vis (addZ (ownW Z σ ρ) D) m' H') ∧
    H' D = some (.lst us) ∧ Reps G m' (vis (addZ (ownW Z σ ρ) D) m' H') acc us ∧ lcL k tt te (wipeD ρ vs) rest acc μ' Q
  refine ⟨fun i n H' => n = ds.length - i ∧ i ≤ ds.length ∧ In (ds.drop i) H', ⟨_, rfl, Nat.zero_le _, m1, μ1, [], [], List.prefix_refl _, fun z hz => upd_ne fun e => nDW (e ▸ hz), base, sh, upd_same, Reps.nil, q1⟩, ?_⟩
  rintro i n H' ⟨rfl, hle, m', μ', acc, us, pm, hid, S', sm, hD, ra, q'⟩
  have vis' : Same (vis (ownW Z σ ρ) m1 H1) H' := sm.trans vis_le
  by_cases hlt : i < ds.length
  · refine .inr ⟨ok.go i H' hlt vis' (hF H' hid), In (ds.drop (i + 1)), fun H2 h2 => ⟨_, (by omega : ds.length - (i + 1) < ds.length - i), rfl, hlt, h2⟩, fun x H3 y => ?_⟩
    obtain ⟨d, ed, hy⟩ := ok.yld i H' x H3 hlt vis' (hF H' hid) y
    obtain ⟨hi', ee⟩ := List.getElem?_eq_some_iff.mp ed
    rw [List.drop_eq_getElem_cons hi', lcL, ee] at q'
    have ow : ownW (addZ Z D) (wipe σ vs) (wipeD ρ vs) = addZ (ownW Z σ ρ) D := by rw [own_add, E0]
    have : SR G (addZ Z D) m' (wipe σ vs) H3 (wipeD ρ vs) μ' ∧ Same (vis (addZ (ownW Z σ ρ) D) m' H') (vis (addZ (ownW Z σ ρ) D) m' H3) ∧ (∀ z, addZ (ownW Z σ ρ) D z → H3 z = H' z) ∧ Rep G m' (vis (addZ (ownW Z σ ρ) D) m' H3) d x := by
      rcases hy with ⟨rfl, rd⟩ | ⟨T, o, nT, rfl, rd⟩
      · exact ⟨S', Same.refl _, fun _ _ => rfl, Rep.mono pm sm _ _ rd⟩
      · have st := Step.laid (o := o) S'.mu nT
        rw [ow] at st
        exact ⟨S'.step (by rw [ow]; exact st), st.same, st.hid, rd _ _ pm (sm.trans st.same) (by rw [vis_upd (ow ▸ S'.mu) nT, upd_same])⟩
    obtain ⟨S3, sm3, hid3, rd⟩ := this
    refine hg (addZ Z D) m' μ' (wipe σ vs) H3 (wipeD ρ vs) d x _ _ S3 (by rw [ow]; exact rd) q' fun σ4 ρ4 S4 ow4 ew q4 => ⟨?_, ?_⟩
    · exact ew.trans (wipe_wipe σ vs)
    · refine ⟨addZ Z D, m', ρ4, μ', _, _, S4, q4, fun b H5 P => ?_, fun cls dd H5 P => (xpF P).elim⟩
      obtain ⟨m5, μ5, s5, q5⟩ := P
      rw [ow4, ow] at s5
      have back : ∀ {m6 μ6 H6}, Step G (addZ (ownW Z σ ρ) D) m' H3 m6 μ6 H6 → SR G (addZ Z D) m6 (wipe σ vs) H6 (wipeD ρ vs) μ6 := fun {m6 μ6 H6} s6 => S3.step (by rw [ow]; exact s6)
      cases b with
      | false =>
        rw [if_neg Bool.false_ne_true] at q5 ⊢
        exact ⟨m5, μ5, acc, us, pm.trans s5.pre, fun z hz => ((s5.hid z (.inl hz)).trans (hid3 z (.inl hz))).trans (hid z hz), back s5, (sm.trans sm3).trans s5.same, ((s5.hid D (.inr rfl)).trans (hid3 D (.inr rfl))).trans hD, Reps.mono s5.pre (sm3.trans s5.same) _ _ ra, q5⟩
      | true =>
        rw [if_pos rfl] at q5 ⊢
        refine ⟨addZ Z D, m5, ρ4, μ5, _, _, S4.step (by rw [ow4, ow]; exact s5), q5, fun u H6 P => ?_, fun cls dd H6 P => (xpF P).elim⟩
        obtain ⟨m6, yd, μ6, s6, r6, hlen, q6⟩ := P
        rw [ow4, ow] at s6 r6
        have s56 := s5.trans s6
        refine ⟨us, ((s56.hid D (.inr rfl)).trans (hid3 D (.inr rfl))).trans hD, by rw [← ra.len]; exact Nat.lt_of_lt_of_le hlen (by decide), ?_⟩
        refine ⟨m6, μ6, acc ++ [yd], us ++ [u], pm.trans s56.pre, fun z hz => ?_, (back s56).hid, ?_, upd_same, ?_, q6⟩
        · have hb : z ≠ D := fun e => nDW (e ▸ hz)
          rw [upd_ne hb]
          exact ((s56.hid z (.inl hz)).trans (hid3 z (.inl hz))).trans (hid z hz)
        · rw [vis_hidden]
          exact (sm.trans sm3).trans s56.same
        · rw [vis_hidden]
          exact Reps.append (Reps.mono s56.pre (sm3.trans s56.same) _ _ ra) (Reps.cons r6 Reps.nil)
  · have e : i = ds.length := by omega
    subst e
    rw [List.drop_length, lcL] at q'
    refine .inl ⟨ok.stop H' vis' (hF H' hid), kq _ _ (VPost.from s1 ?_)⟩
    have ow : ownW (addZ Z D) (wipe σ vs) (wipeD ρ vs) = addZ (ownW Z σ ρ) D := by rw [own_add, E0]
    have M' := S'.mu
    rw [ow] at M'
    have sub : ∀ b, ownW Z σ ρ b → addZ (ownW Z σ ρ) D b := fun b h => .inl h
    refine ⟨m', .lst acc, μ', ⟨pm, hid, M'.less sub, sm.trans (vis_mono sub)⟩, ?_, q'⟩
    rw [Rep]
    exact ⟨D, us, rfl, vis_some.mpr ⟨nDW, fun z => M'.out D z (.inr rfl), hD⟩, Reps.mono (List.prefix_refl _) (vis_mono sub) _ _ ra⟩
section
variable {W : WX} {X : Cx} {elt tg iter : Expr} {ifs : List Expr} {scope : Scope} {own : List (Str × Nat)} {pos : Pos} {wi : WI} {g : TG} {k : WG} {tt : WT} {te : WE}
theorem de_lcF (hc : X.calm = true) (hN : X.N.Nodup) (hi : DIF none W X tg iter wi) (ok : BlkOk X.N X.env.scope scope own) (hk : LcG (gx X none) (own.map (·.2)) g k)
    (hg : ∀ (s : Shared) (H : Hp) (C : Addr) (cl : List (Str × Addr)) (fp : List Addr), PG (X.blk s H scope (compEnvC scope cl C X.env) fp) tg g) (ht : ∀ (s : Shared) (H : Hp) (C : Addr) (cl : List (Str × Addr)) (fp : List Addr), DTs (X.blk s H scope (compEnvC scope cl C X.env) fp) ifs tt)
    (he : ∀ (s : Shared) (H : Hp) (C : Addr) (cl : List (Str × Addr)) (fp : List Addr), DE none WF (X.blk s H scope (compEnvC scope cl C X.env) fp) elt te) (hs : ∀ x, foldedSetIterable iter X.env x = pure x := by intro _; rfl) :
    DE none W X (.ListComp elt [⟨tg, iter, ifs, 0⟩] scope pos) (wLc wi k tt te (own.map (·.2))) := pe_weak (pe_lc hc hN hi ok hg ht he hs) fun _ _ _ q => lift_lc hk q
theorem de_lc (hc : X.calm = true) (hN : X.N.Nodup) (hi : DI none W X tg iter wi) (ok : BlkOk X.N X.env.scope scope own) (hk : LcG (gx X none) (own.map (·.2)) g k)
    (hg : ∀ (s : Shared) (H : Hp) (C : Addr) (cl : List (Str × Addr)) (fp : List Addr), PG (X.blk s H scope (compEnvC scope cl C X.env) fp) tg g) (ht : ∀ (s : Shared) (H : Hp) (C : Addr) (cl : List (Str × Addr)) (fp : List Addr), DTs (X.blk s H scope (compEnvC scope cl C X.env) fp) ifs tt)
    (he : ∀ (s : Shared) (H : Hp) (C : Addr) (cl : List (Str × Addr)) (fp : List Addr), DE none WF (X.blk s H scope (compEnvC scope cl C X.env) fp) elt te) (hs : ∀ x, foldedSetIterable iter X.env x = pure x := by intro _; rfl) :
    DE none W X (.ListComp elt [⟨tg, iter, ifs, 0⟩] scope pos) (wLc wi k tt te (own.map (·.2))) := de_lcF hc hN hi.toF ok hk hg ht he hs
theorem ds_setLcF {i : Nat} {y : Str} {py spos : Pos} (hc : X.calm = true) (hN : X.N.Nodup) (hy : X.N[i]? = some y) (hsw : swapsWith (.ListComp elt [⟨tg, iter, ifs, 0⟩] scope pos) (some (.Name y py)) spos.line X.env = pure true)
    (hi : DIF none W X tg iter wi) (ok : BlkOk X.N X.env.scope scope own) (hk : LcG (gx X none) (own.map (·.2)) g k)
    (hg : ∀ (s : Shared) (H : Hp) (C : Addr) (cl : List (Str × Addr)) (fp : List Addr), PG (X.blk s H scope (compEnvC scope cl C X.env) fp) tg g) (ht : ∀ (s : Shared) (H : Hp) (C : Addr) (cl : List (Str × Addr)) (fp : List Addr), DTs (X.blk s H scope (compEnvC scope cl C X.env) fp) ifs tt)
    (he : ∀ (s : Shared) (H : Hp) (C : Addr) (cl : List (Str × Addr)) (fp : List Addr), DE none WF (X.blk s H scope (compEnvC scope cl C X.env) fp) elt te) (hyl : X.env.scope.names.lookup y = some .local := by rfl) (hs : ∀ x, foldedSetIterable iter X.env x = pure x := by intro _; rfl) :
    DSt none W X (.Assign [.Name y py] (.ListComp elt [⟨tg, iter, ifs, 0⟩] scope pos) spos) (sSet i (wLc wi k tt te (own.map (·.2)))) := ps_weak (ps_setLc hc hN hy hyl hsw hi ok hg ht he hs) fun De σ H q => by
  obtain ⟨Z, m, ρ, μ, E, S, q, kn, kr, kb, kc, kx⟩ := q
  refine lift_lc (W := W) hk ⟨Z, m, ρ, μ, _, _, S, q, fun v H1 P => ?_, fun cls d H' P => kx cls d σ H' (XSPost.of S P)⟩
  obtain ⟨m1, d, μ1, s1, r1, q1⟩ := P
  obtain ⟨S1, s2⟩ := (S.step s1).set (i := i) r1
  exact kn _ _ ⟨m1, _, μ1, S1, (SStep.of s1).trans s2, q1⟩
theorem ds_setLc {i : Nat} {y : Str} {py spos : Pos} (hc : X.calm = true) (hN : X.N.Nodup) (hy : X.N[i]? = some y) (hsw : swapsWith (.ListComp elt [⟨tg, iter, ifs, 0⟩] scope pos) (some (.Name y py)) spos.line X.env = pure true)
    (hi : DI none W X tg iter wi) (ok : BlkOk X.N X.env.scope scope own) (hk : LcG (gx X none) (own.map (·.2)) g k)
    (hg : ∀ (s : Shared) (H : Hp) (C : Addr) (cl : List (Str × Addr)) (fp : List Addr), PG (X.blk s H scope (compEnvC scope cl C X.env) fp) tg g) (ht : ∀ (s : Shared) (H : Hp) (C : Addr) (cl : List (Str × Addr)) (fp : List Addr), DTs (X.blk s H scope (compEnvC scope cl C X.env) fp) ifs tt)
    (he : ∀ (s : Shared) (H : Hp) (C : Addr) (cl : List (Str × Addr)) (fp : List Addr), DE none WF (X.blk s H scope (compEnvC scope cl C X.env) fp) elt te) (hyl : X.env.scope.names.lookup y = some .local := by rfl) (hs : ∀ x, foldedSetIterable iter X.env x = pure x := by intro _; rfl) :
    DSt none W X (.Assign [.Name y py] (.ListComp elt [⟨tg, iter, ifs, 0⟩] scope pos) spos) (sSet i (wLc wi k tt te (own.map (·.2)))) := ds_setLcF hc hN hy hsw hi.toF ok hk hg ht he hyl hs
end
end DL

set_option Elab.async false
set_option linter.all false
set_option maxRecDepth 100000
set_option maxHeartbeats 4000000
set_option autoImplicit false
namespace DL
open PySem PySem.Spec PyProof.Rows L2
/-! ### cells made and written -/
theorem vis_cell {Z : Addr → Prop} {m : List Addr} {H : Hp} {p : Addr} {o : HO} (np : H p = none) : vis Z (m ++ [p]) (upd H p o) = vis Z m H := by
  funext b
  by_cases hb : b = p
  · subst hb
    rw [vis_none np]
    unfold vis
    rw [if_pos (.inr (by simp))]
  · unfold vis
    rw [upd_ne hb]
    by_cases h : Z b ∨ b ∈ m
    · rw [if_pos h, if_pos (h.imp id fun q => List.mem_append_left _ q)]
    · rw [if_neg h, if_neg (by simpa [hb] using h)]
theorem Step.cell {G : Gx} {Z : Addr → Prop} {m : List Addr} {μ : Mu} {H : Hp} (M : MuOk G Z m μ H) {p : Addr} {o : HO} {c : Cell} (np : H p = none) (hc : CellOk G (m ++ [p]) (vis Z m H) (upd H p o) c p) :
    Step G Z m H (m ++ [p]) (μ ++ [c]) (upd H p o) := by
  obtain ⟨h1, h2⟩ := M.fresh np
  have ev := vis_cell (Z := Z) (m := m) (o := o) np
  have pre : m <+: m ++ [p] := List.prefix_append _ _
  refine ⟨pre, fun z hz => upd_ne fun e => ?_, ⟨by simp [M.len], ?_, fun a ha => ?_, fun z hz => ?_, fun n d a hd ha => ?_⟩, by rw [ev]; exact Same.refl _⟩
  · subst e; exact M.hw z hz np
  · rw [List.nodup_append]
    refine ⟨M.nd, by simp, fun a ha b hb => ?_⟩
    rw [List.mem_singleton] at hb
    subst hb
    exact fun e => h2 (e ▸ ha)
  · rcases List.mem_append.mp ha with q | q
    · exact M.out a q
    · rw [List.mem_singleton] at q; subst q; exact h1
  · by_cases e : z = p
    · subst e; rw [upd_same]; intro q; cases q
    · rw [upd_ne e]; exact M.hw z hz
  · rw [ev]
    by_cases hn : n < m.length
    · rw [List.getElem?_append_left hn] at ha
      rw [List.getElem?_append_left (by rw [← M.len]; exact hn)] at hd
      have hb : a ≠ p := fun e => h2 (e ▸ List.mem_of_getElem? ha)
      exact (M.cell n d a hd ha).keep pre (Same.refl _) (upd_ne hb)
    · have hlt := (List.getElem?_eq_some_iff.mp ha).1
      have e : n = m.length := by simp at hlt; omega
      subst e
      rw [List.getElem?_concat_length] at ha
      rw [M.len, List.getElem?_concat_length] at hd
      cases ha
      cases hd
      exact hc
theorem vis_put {Z : Addr → Prop} {m : List Addr} {H : Hp} {a : Addr} {o : HO} (ha : a ∈ m) : vis Z m (upd H a o) = vis Z m H := by
  funext b
  unfold vis
  by_cases hb : b = a
  · subst hb
    rw [if_pos (.inr ha), if_pos (.inr ha)]
  · rw [upd_ne hb]
theorem Step.put {G : Gx} {Z : Addr → Prop} {m : List Addr} {μ : Mu} {H : Hp} (M : MuOk G Z m μ H) {n : Nat} {a : Addr} {o : HO} {c : Cell} (ha : m[n]? = some a) (hc : CellOk G m (vis Z m H) (upd H a o) c a) :
    Step G Z m H m (μ.set n c) (upd H a o) := by
  have hm := List.mem_of_getElem? ha
  have ev := vis_put (Z := Z) (H := H) (o := o) hm
  refine ⟨List.prefix_refl _, fun z hz => upd_ne fun e => M.out a hm (e ▸ hz), ⟨by rw [List.length_set]; exact M.len, M.nd, M.out, fun z hz => ?_, fun k d b hd hb => ?_⟩, by rw [ev]; exact Same.refl _⟩
  · by_cases e : z = a
    · subst e; rw [upd_same]; intro q; cases q
    · rw [upd_ne e]; exact M.hw z hz
  · rw [ev]
    by_cases hk : n = k
    · subst hk
      rw [ha] at hb
      cases hb
      have hl : n < μ.length := by rw [← M.len]; exact (List.getElem?_eq_some_iff.mp ha).1
      rw [List.getElem?_set_self hl] at hd
      cases hd
      exact hc
    · rw [List.getElem?_set_ne hk] at hd
      have hab : b ≠ a := fun e => by
        subst e
        obtain ⟨l1, e1⟩ := List.getElem?_eq_some_iff.mp ha
        obtain ⟨l2, e2⟩ := List.getElem?_eq_some_iff.mp hb
        exact hk ((List.getElem_inj M.nd).mp (e1.trans e2.symm))
      exact (M.cell k d b hd hb).keep (List.prefix_refl _) (Same.refl _) (upd_ne hab)
/-- a list display whose list is changed later: a cell -/
def wLstC (wa : WA) : WE := fun ρ μ Q Xd => wa ρ μ (fun ds μ1 => ds.length ≤ 1000 ∧ Q (.loc μ1.length) (μ1 ++ [.lst ds])) Xd
section
variable {ex : Option (Addr × Addr × Addr)} {W : WX} {X : Cx} {e o i : Expr} {es : List Expr} {wa wo wi : WE} {ws : WA} {pos : Pos}
theorem de_lstC (h : DA ex W X es ws) : DE ex W X (.List es pos) (wLstC ws) := pe_weak (pe_lst h) fun σ H Q' q => by
  obtain ⟨Z, m, ρ, μ, Q, Xd, S, q, k, kx⟩ := q
  refine ⟨Z, m, ρ, μ, _, Xd, S, q, fun vs H1 P => ?_, kx⟩
  obtain ⟨m1, ds, μ1, s1, r1, hl, q1⟩ := P
  refine ⟨by rw [← r1.len]; exact le1000 hl, fun p np => k _ _ ?_⟩
  have s2 : Step (gx X ex) (ownW Z σ ρ) m1 H1 (m1 ++ [p]) (μ1 ++ [.lst ds]) (upd H1 p (.lst vs)) := Step.cell s1.mu np ⟨vs, upd_same, Reps.mono (List.prefix_append _ _) (Same.refl _) _ _ r1⟩
  refine VPost.from s1 ⟨_, _, _, s2, ?_, q1⟩
  rw [Rep]
  exact ⟨p, rfl, by rw [← s1.mu.len]; exact List.getElem?_concat_length⟩
/-- cell[i] = d -/
def stL (o i d : D) (μ : Mu) (k : Mu → Prop) : Prop := match o, i with
  | .loc n, .int j => match μ[n]? with
    | some (.lst ds) => match ixN ds.length j with
      | some x => k (μ.set n (.lst (ds.set x d)))
      | none => False
    | _ => False
  | _, _ => False
theorem stL_of {o i d : D} {μ : Mu} {k : Mu → Prop} (h : stL o i d μ k) : ∃ n j ds x, o = .loc n ∧ i = .int j ∧ μ[n]? = some (.lst ds) ∧ ixN ds.length j = some x ∧ k (μ.set n (.lst (ds.set x d))) := by
  unfold stL at h
  split at h
  · split at h
    · split at h
      · exact ⟨_, _, _, _, rfl, rfl, by assumption, by assumption, h⟩
      · exact h.elim
    · exact h.elim
  · exact h.elim
def kSub (wo wi : WE) : WG := fun d ρ μ Q => wo ρ μ (fun x μ1 => wi ρ μ1 (fun y μ2 => stL x y d μ2 fun μ3 => Q ρ μ3) xF) xF
theorem dg_sub (ho : DE none WF X o wo) (hi : DE none WF X i wi)
    (ha : ∀ v, assign (.Subscript o i pos) X.env v = (do
      let ov ← holding [v] (eval o X.env)
      let iv ← holding [v, ov] (eval i X.env)
      standAt pos
      holding [v, ov, iv] (setItem ov iv v)
      release [v, ov, iv] []) := by intro _; rfl) : DG none X (.Subscript o i pos) (kSub wo wi) := pg_weak (pg_sub ho hi set_list ha) fun v σ H Q' q => by
  obtain ⟨Z, m, ρ, μ, d, Q, S, r, q, k⟩ := q
  refine ⟨Z, m, ρ, μ, _, _, S, q, fun x H1 P => ?_, fun cls dd H1 P => (xpF P).elim⟩
  obtain ⟨m1, xd, μ1, s1, r1, q1⟩ := P
  refine ⟨Z, m1, ρ, μ1, _, _, S.step s1, q1, fun y H2 P => ?_, fun cls dd H1 P => (xpF P).elim⟩
  obtain ⟨m2, yd, μ2, s2, r2, q2⟩ := P
  obtain ⟨n, j, ds, z, rfl, rfl, e1, e2, q3⟩ := stL_of q2
  have s12 := s1.trans s2
  have r1' := Rep.mono s2.pre s2.same _ _ r1
  rw [Rep] at r1'
  rw [Rep] at r2
  obtain ⟨a, rfl, ea⟩ := r1'
  obtain ⟨vs, hv, rv⟩ := s2.mu.cell n _ a e1 ea
  have rd := Rep.mono s12.pre s12.same _ _ r
  refine ⟨a, vs, j, z, rfl, r2, hv, by rw [← rv.len]; exact e2, ?_⟩
  have s3 : Step (gx X none) (ownW Z σ ρ) m2 H2 m2 (μ2.set n (.lst (ds.set z d))) (upd H2 a (.lst (vs.set z v))) := Step.put s2.mu ea ⟨_, upd_same, Reps.set rd z rv⟩
  have s13 := s12.trans s3
  exact k _ _ ⟨m2, ρ, _, S.step s13, SStep.of s13, q3⟩
end
/-! ### and, or, if as values -/
section
variable {ex : Option (Addr × Addr × Addr)} {W : WX} {X : Cx} {a b c : Expr} {wa wb : WE} {t : WT} {pos : Pos} {rest : List Expr}
def wIf (t : WT) (wa wb : WE) : WE := fun ρ μ Q Xd => t ρ μ (fun k μ1 => if k = true then wa ρ μ1 Q Xd else wb ρ μ1 Q Xd) Xd
theorem de_if (hc : DT ex W X c t) (ha : DE ex W X a wa) (hb : DE ex W X b wb) : DE ex W X (.IfExp c a b pos) (wIf t wa wb) := pe_weak (pe_ifExp hc ha hb) fun σ H Q' q => by
  obtain ⟨Z, m, ρ, μ, Q, Xd, S, q, k, kx⟩ := q
  refine ⟨Z, m, ρ, μ, _, Xd, S, q, fun c H1 P => ?_, kx⟩
  obtain ⟨m1, μ1, s1, q1⟩ := P
  cases c with
  | true =>
    rw [if_pos rfl] at q1 ⊢
    exact ⟨Z, m1, ρ, μ1, Q, Xd, S.step s1, q1, fun v H2 P => k v H2 (VPost.from s1 P), fun cls d H' P => kx cls d H' (XPost.from s1 P)⟩
  | false =>
    rw [if_neg Bool.false_ne_true] at q1 ⊢
    exact ⟨Z, m1, ρ, μ1, Q, Xd, S.step s1, q1, fun v H2 P => k v H2 (VPost.from s1 P), fun cls d H' P => kx cls d H' (XPost.from s1 P)⟩
/-- a and b, a or b where a is a bool -/
def wAndV (wa wb : WE) : WE := fun ρ μ Q Xd => wa ρ μ (fun x μ1 => fBool x fun k => if k = true then wb ρ μ1 Q Xd else Q (.bl false) μ1) Xd
def wOrV (wa wb : WE) : WE := fun ρ μ Q Xd => wa ρ μ (fun x μ1 => fBool x fun k => if k = true then Q (.bl true) μ1 else wb ρ μ1 Q Xd) Xd
end
end DL

set_option Elab.async false
set_option linter.all false
set_option maxRecDepth 100000
set_option maxHeartbeats 4000000
set_option autoImplicit false
namespace DL
open PySem PySem.Spec PyProof.Rows L2
section
variable {ex : Option (Addr × Addr × Addr)} {W : WX} {X : Cx} {a b c : Expr} {wa wb : WE} {t : WT} {pos : Pos} {rest : List Expr}
theorem de_one {op : BoolOp} (h : DE ex W X a wa) : DE ex W X (.BoolOp op [a] pos) wa := pe_one h
theorem de_and (ha : DE ex W X a wa) (hb : DE ex W X (.BoolOp .And (b :: rest) pos) wb) : DE ex W X (.BoolOp .And (a :: b :: rest) pos) (wAndV wa wb) := pe_weak (pe_and ha hb) fun σ H Q' q => by
  obtain ⟨Z, m, ρ, μ, Q, Xd, S, q, k, kx⟩ := q
  refine ⟨Z, m, ρ, μ, _, Xd, S, q, fun v H1 P => ?_, kx⟩
  obtain ⟨m1, d, μ1, s1, r1, q1⟩ := P
  obtain ⟨c, rfl, q2⟩ := fBool_of q1
  rw [Rep] at r1
  clear q1
  have q1 := q2
  clear q2
  refine ⟨c, r1, ?_⟩
  cases c with
  | true =>
    rw [if_pos rfl] at q1 ⊢
    exact ⟨Z, m1, ρ, μ1, Q, Xd, S.step s1, q1, fun v H2 P => k v H2 (VPost.from s1 P), fun cls d H' P => kx cls d H' (XPost.from s1 P)⟩
  | false =>
    rw [if_neg Bool.false_ne_true] at q1 ⊢
    exact k _ _ (VPost.from s1 (.now s1.mu (by rw [Rep]) q1))
theorem de_or (ha : DE ex W X a wa) (hb : DE ex W X (.BoolOp .Or (b :: rest) pos) wb) : DE ex W X (.BoolOp .Or (a :: b :: rest) pos) (wOrV wa wb) := pe_weak (pe_or ha hb) fun σ H Q' q => by
  obtain ⟨Z, m, ρ, μ, Q, Xd, S, q, k, kx⟩ := q
  refine ⟨Z, m, ρ, μ, _, Xd, S, q, fun v H1 P => ?_, kx⟩
  obtain ⟨m1, d, μ1, s1, r1, q1⟩ := P
  obtain ⟨c, rfl, q2⟩ := fBool_of q1
  rw [Rep] at r1
  clear q1
  have q1 := q2
  clear q2
  refine ⟨c, r1, ?_⟩
  cases c with
  | true =>
    rw [if_pos rfl] at q1 ⊢
    exact k _ _ (VPost.from s1 (.now s1.mu (by rw [Rep]) q1))
  | false =>
    rw [if_neg Bool.false_ne_true] at q1 ⊢
    exact ⟨Z, m1, ρ, μ1, Q, Xd, S.step s1, q1, fun v H2 P => k v H2 (VPost.from s1 P), fun cls d H' P => kx cls d H' (XPost.from s1 P)⟩
def wNotV (wa : WE) : WE := fun ρ μ Q Xd => wa ρ μ (fun x μ1 => fBool x fun k => Q (.bl (!k)) μ1) Xd
theorem de_not (ha : DE ex W X a wa) : DE ex W X (.UnaryOp .Not a pos) (wNotV wa) := pe_weak (pe_not ha) fun σ H Q' q => by
  obtain ⟨Z, m, ρ, μ, Q, Xd, S, q, k, kx⟩ := q
  refine ⟨Z, m, ρ, μ, _, Xd, S, q, fun v H1 P => ?_, kx⟩
  obtain ⟨m1, d, μ1, s1, r1, q1⟩ := P
  obtain ⟨c, rfl, q2⟩ := fBool_of q1
  rw [Rep] at r1
  exact ⟨c, r1, k _ _ (VPost.from s1 (.now s1.mu (by rw [Rep]) q2))⟩
/-! (a, b, ..) = a list of that length -/
def kUnl (n : Nat) (gs : WGs) : WG := fun d ρ μ Q => match d with
  | .lst ds => ds.length = n ∧ gs ds ρ μ Q
  | .frl ds => ds.length = n ∧ gs ds ρ μ Q
  | _ => False
theorem kUnl_of {n : Nat} {gs : WGs} {d : D} {ρ : DS} {μ : Mu} {Q : DS → Mu → Prop} (h : kUnl n gs d ρ μ Q) : ∃ ds, (d = .lst ds ∨ d = .frl ds) ∧ ds.length = n ∧ gs ds ρ μ Q := by
  unfold kUnl at h
  split at h
  · exact ⟨_, .inl rfl, h⟩
  · exact ⟨_, .inr rfl, h⟩
  · exact h.elim
theorem dg_unl {es : List Expr} {k : Nat} {gs : WGs} {n : Nat} (hc : X.calm = true) (h : DGs ex X es gs) (hn : (assignEach es X.env).length = n := by rfl) (hst : (assignEach es X.env).findIdx? (·.1) = none := by rfl) : DG ex X (.Tuple es k pos) (kUnl n gs) :=
  pg_weak (pg_unl hc h hn hst) fun v σ H Q' q => by
  obtain ⟨Z, m, ρ, μ, d, Q, S, r, q, k⟩ := q
  obtain ⟨ds, hd, hl, q⟩ := kUnl_of q
  obtain ⟨a, vs, e1, st, rs⟩ := lst_rep' hd r
  exact ⟨a, vs, e1, Same.seq vis_le st, by rw [← rs.len]; exact hl, Z, m, ρ, μ, ds, Q, S, rs, q, k⟩
end
/-! ### isinstance -/
inductive TyN where
  | b (n : String) | c (c : Str)
  deriving DecidableEq
def tyD (d : D) (μ : Mu) : Option TyN := match d with
  | .non => some (.b "NoneType")
  | .bl _ => some (.b "bool")
  | .int _ => some (.b "int")
  | .str _ => some (.b "str")
  | .tup _ => some (.b "tuple")
  | .lst _ => some (.b "list")
  | .frl _ => some (.b "list")
  | .obj c _ _ => some (.c c)
  | .loc n => match μ[n]? with
    | some (.lst _) => some (.b "list")
    | some (.ins c _ _) => some (.c c)
    | _ => none
  | .opq (.dK _) => some (.b "dict")
  | _ => none
def clD : D → Option TyN
  | .ty n => some (.b n)
  | .cls c => some (.c c)
  | _ => none
/-- what of the text a class must have that type(x) is it -/
structure InsT (K : PySem.W.Frag) (C : Addr) : Prop where
  cl : Cls K C
  ca : PySem.W.findIn K (.ref C) "__class__" = some (some (.builtin "object.__class__"))
  cn : PySem.W.specialIn K (.builtin "object.__class__") "__get__" = some (some (.builtin "getset_descriptor.__get__"))
  ct : PySem.W.takesIn K (.builtin "object.__class__") = some true
  cm : PySem.W.mroIn K C (.type "object") = some true
def TyVal (G : Gx) : TyN → Value → Prop
  | .b n, v => v = .type n
  | .c c, v => ∃ C, G.mg c = some (.ref C) ∧ v = .ref C
/-- the answers of isinstance that are known: by a table -/
structure IsiTab (G : Gx) (f : TyN → TyN → Option Bool) : Prop where
  ok : ∀ t u b, f t u = some b → ∀ tv uv, TyVal G t tv → TyVal G u uv → PySem.W.kitOne G.K tv uv = some b
  ins : ∀ c u b, f (.c c) u = some b → ∀ C, G.mg c = some (.ref C) → InsT G.K C
theorem tyX_of {G : Gx} {Z : Addr → Prop} {m : List Addr} {μ : Mu} {H : Hp} {x : D} {v : V} {t : TyN} (M : MuOk G Z m μ H) (r : Rep G m (vis Z m H) x v) (h : tyD x μ = some t) (hi : ∀ c, t = .c c → ∀ C, G.mg c = some (.ref C) → InsT G.K C) :
    ∃ tv, TyVal G t tv ∧ TyX G.K H v tv := by
  unfold tyD at h
  split at h
  · cases h; rw [Rep] at r; subst r; exact ⟨_, rfl, .base .non⟩
  · cases h; rw [Rep] at r; subst r; exact ⟨_, rfl, .base (.bl _)⟩
  · cases h; rw [Rep] at r; subst r; exact ⟨_, rfl, .base (.int _)⟩
  · cases h; rw [Rep] at r; subst r; exact ⟨_, rfl, .base (.str _)⟩
  · cases h; rw [Rep] at r
    obtain ⟨a, vs, rfl, s, _⟩ := r
    refine ⟨_, rfl, ?_⟩
    rcases SqT.same vis_le s with (s | ⟨o, s⟩) | ⟨o, its, n, s, c, _⟩
    · exact .base (.tup s)
    · exact .fTuple s
    · exact .kTuple s c
  · cases h; rw [Rep] at r
    obtain ⟨a, vs, rfl, s, _⟩ := r
    exact ⟨_, rfl, .base (.lst (vis_le _ _ s))⟩
  · cases h; rw [Rep] at r
    obtain ⟨a, vs, rfl, s, _⟩ := r
    refine ⟨_, rfl, ?_⟩
    rcases Same.seq vis_le s with (s | ⟨o, s⟩) | ⟨o, its, n, s, c, _⟩
    · exact .base (.lst s)
    · exact .base (.frz s)
    · exact .kList s c
  · cases h; rw [Rep] at r
    obtain ⟨a, C, dx, vs, rfl, g, s, _⟩ := r
    have i := hi _ rfl C g
    exact ⟨_, ⟨C, g, rfl⟩, .base (.ins (vis_le _ _ s) i.cl i.ca i.cn i.ct i.cm)⟩
  · rw [Rep] at r
    obtain ⟨a, rfl, ea⟩ := r
    split at h
    · rename_i e1
      cases h
      obtain ⟨vs, h1, _⟩ := M.cell _ _ a e1 ea
      exact ⟨_, rfl, .base (.lst h1)⟩
    · rename_i e1
      cases h
      obtain ⟨C, dx, vs, g, h1, _⟩ := M.cell _ _ a e1 ea
      have i := hi _ rfl C g
      exact ⟨_, ⟨C, g, rfl⟩, .base (.ins h1 i.cl i.ca i.cn i.ct i.cm)⟩
    · cases h
  · cases h; rw [Rep] at r
    obtain ⟨a, rfl, s⟩ := r
    exact ⟨_, rfl, .base (.dK (vis_le _ _ s))⟩
  · cases h
theorem clV_of {G : Gx} {m : List Addr} {E : Hp} {x : D} {v : V} {u : TyN} (r : Rep G m E x v) (h : clD x = some u) : ∃ uv, TyVal G u uv ∧ ClsV v uv := by
  unfold clD at h
  split at h
  · cases h; rw [Rep] at r; subst r; exact ⟨_, rfl, .ty _⟩
  · cases h; rw [Rep] at r
    obtain ⟨C, g, rfl⟩ := r
    exact ⟨_, ⟨C, g, rfl⟩, .own C⟩
  · cases h
def isiD (f : TyN → TyN → Option Bool) (x c : D) (μ : Mu) : Option Bool := match tyD x μ, clD c with
  | some t, some u => f t u
  | _, _ => none
def fIsi (f : TyN → TyN → Option Bool) : FN := fun xs μ Q => match xs with
  | [x, c] => match isiD f x c μ with
    | some b => Q (.bl b) μ
    | none => False
  | _ => False
theorem isiD_of {f : TyN → TyN → Option Bool} {x c : D} {μ : Mu} {b : Bool} (h : isiD f x c μ = some b) : ∃ t u, tyD x μ = some t ∧ clD c = some u ∧ f t u = some b := by
  unfold isiD at h
  split at h
  · exact ⟨_, _, by assumption, by assumption, h⟩
  · cases h
theorem fIsi_of {f : TyN → TyN → Option Bool} {xs : List D} {μ : Mu} {Q : D → Mu → Prop} (h : fIsi f xs μ Q) : ∃ x c b, xs = [x, c] ∧ isiD f x c μ = some b ∧ Q (.bl b) μ := by
  unfold fIsi at h
  split at h
  · split at h
    · exact ⟨_, _, _, rfl, by assumption, h⟩
    · exact h.elim
  · exact h.elim
theorem sn_isi {G : Gx} {f : TyN → TyN → Option Bool} (T : IsiTab G f) : SN G (rIsi G.K) (fIsi f) := by
  intro Z m μ H xs us Q Q' M r h k
  obtain ⟨x, c, b, rfl, hb, q⟩ := fIsi_of h
  obtain ⟨v, t, rfl, r1, r2⟩ := r.uncons
  obtain ⟨v', t', rfl, r3, r4⟩ := r2.uncons
  rw [Reps] at r4
  subst r4
  obtain ⟨tn, un, h1, h2, h3⟩ := isiD_of hb
  obtain ⟨tv, t1, t2⟩ := tyX_of M r1 h1 fun c e C g => T.ins c un b (e ▸ h3) C g
  obtain ⟨uv, u1, u2⟩ := clV_of r3 h2
  exact ⟨v, v', tv, uv, b, rfl, u2, t2, T.ok _ _ _ h3 _ _ t1 u1, k _ _ (.now M (by rw [Rep]) q)⟩
/-! ### attributes -/
/-- an instance: class, names, values -/
def insD (d : D) (μ : Mu) : Option (Str × List Str × List D) := match d with
  | .obj c ks ds => some (c, ks, ds)
  | .loc n => match μ[n]? with
    | some (.ins c ks ds) => some (c, ks, ds)
    | _ => none
  | _ => none
theorem ins_rep {G : Gx} {Z : Addr → Prop} {m : List Addr} {μ : Mu} {H : Hp} {x : D} {v : V} {c : Str} {ks : List Str} {ds : List D} (M : MuOk G Z m μ H) (r : Rep G m (vis Z m H) x v) (h : insD x μ = some (c, ks, ds)) :
    ∃ a C dx vs, v = .ref a ∧ G.mg c = some (.ref C) ∧ H a = some (.ins C dx (ks.zip vs)) ∧ ks.length = ds.length ∧ Reps G m (vis Z m H) ds vs := by
  unfold insD at h
  split at h
  · cases h
    rw [Rep] at r
    obtain ⟨a, C, dx, vs, e, g, s, l, q⟩ := r
    exact ⟨a, C, dx, vs, e, g, vis_le _ _ s, l, q⟩
  · split at h
    · rename_i e1
      cases h
      rw [Rep] at r
      obtain ⟨a, e, ea⟩ := r
      obtain ⟨C, dx, vs, g, s, l, q⟩ := M.cell _ _ a e1 ea
      exact ⟨a, C, dx, vs, e, g, s, l, q⟩
    · cases h
  · cases h
/-- the value of a name -/
def fldOf (f : Str) : List Str → List D → Option D
  | k :: ks, d :: ds => if f == k then some d else fldOf f ks ds
  | _, _ => none
theorem fldOf_rep {G : Gx} {m : List Addr} {E : Hp} {f : Str} : ∀ {ks : List Str} {ds : List D} {vs : List V} {d : D}, Reps G m E ds vs → fldOf f ks ds = some d → ∃ v, (ks.zip vs).lookup f = some v ∧ Rep G m E d v
  | [], ds, vs, d, r, h => by cases ds <;> cases h
  | k :: ks, [], vs, d, r, h => by cases h
  | k :: ks, d0 :: ds, vs, d, r, h => by
    obtain ⟨v, t, rfl, r1, r2⟩ := r.uncons
    rw [List.zip_cons_cons, List.lookup_cons]
    rw [fldOf] at h
    cases e : f == k with
    | true => rw [e] at h; cases h; exact ⟨v, rfl, r1⟩
    | false => rw [e] at h; exact fldOf_rep r2 h
def fFld (c f : Str) : F1 := fun x μ Q => match insD x μ with
  | some (c', ks, ds) => c' = c ∧ match fldOf f ks ds with
    | some d => Q d μ
    | none => False
  | none => False
theorem fFld_of {c f : Str} {x : D} {μ : Mu} {Q : D → Mu → Prop} (h : fFld c f x μ Q) : ∃ ks ds d, insD x μ = some (c, ks, ds) ∧ fldOf f ks ds = some d ∧ Q d μ := by
  unfold fFld at h
  split at h
  · rename_i e
    obtain ⟨rfl, h⟩ := h
    split at h
    · exact ⟨_, _, _, e, by assumption, h⟩
    · exact h.elim
  · exact h.elim
def rFld (K : PySem.W.Frag) (f : Str) : V → Hp → VK → Prop := fun x H1 Q => ∃ a C dx fs v, x = .ref a ∧ H1 a = some (.ins C dx fs) ∧ Cls K C ∧ NoAttr K C f ∧ fs.lookup f = some v ∧ Q v H1
theorem s1_fld {G : Gx} {c f : Str} {C : Addr} (hm : G.mg c = some (.ref C)) (hc : Cls G.K C) (hn : NoAttr G.K C f) : S1 G (rFld G.K f) (fFld c f) := by
  intro Z m μ H x u Q Q' M rx h k
  obtain ⟨ks, ds, d, e1, e2, q⟩ := fFld_of h
  obtain ⟨a, C', dx, vs, rfl, g, s, l, rs⟩ := ins_rep M rx e1
  rw [hm] at g
  cases g
  obtain ⟨v, ev, rv⟩ := fldOf_rep rs e2
  exact ⟨a, C, dx, _, v, rfl, s, hc, hn, ev, k _ _ (.now M rv q)⟩
section
variable {ex : Option (Addr × Addr × Addr)} {W : WX} {X : Cx} {e o value : Expr} {wa wo : WE} {pos pos' : Pos}
theorem de_fld {c f : Str} {C : Addr} (hm : X.mg c = some (.ref C)) (hc : Cls X.K C) (hn : NoAttr X.K C f) (he : DE ex W X e wa) (hb : attributeBase e f X.env (eval e X.env) = eval e X.env := by rfl) : DE ex W X (.Attribute e f pos) (w1 (fFld c f) wa) :=
  pe_weak (pe_fld he hb) fun _ _ _ q => lift_w1 (G := gx X ex) (s1_fld hm hc hn) q
end
/-! stored -/
def putK (f : Str) : List Str → List Str
  | [] => [f]
  | g :: r => if g = f then g :: r else g :: putK f r
def putD {α : Type} (f : Str) (y : α) : List Str → List α → List α
  | [], _ => [y]
  | g :: r, x :: xs => if g = f then y :: xs else x :: putD f y r xs
  | _ :: _, [] => []
theorem putF_zip (f : Str) (y : V) : ∀ (ks : List Str) (vs : List V), ks.length = vs.length → putF f y (ks.zip vs) = (putK f ks).zip (putD f y ks vs)
  | [], [], _ => rfl
  | [], _ :: _, h => nomatch h
  | _ :: _, [], h => nomatch h
  | g :: r, x :: xs, h => by
    have ih := putF_zip f y r xs (by simpa using h)
    rw [List.zip_cons_cons, putK, putD, putF]
    by_cases e : g = f
    · rw [if_pos e, if_pos e, if_pos e, List.zip_cons_cons]
    · rw [if_neg e, if_neg e, if_neg e, List.zip_cons_cons, ih]
theorem putD_len (f : Str) : ∀ (ks : List Str) (ds : List D) (d : D), ks.length = ds.length → (putK f ks).length = (putD f d ks ds).length
  | [], [], _, _ => rfl
  | [], _ :: _, _, h => nomatch h
  | _ :: _, [], _, h => nomatch h
  | g :: r, x :: xs, d, h => by
    have ih := putD_len f r xs d (by simpa using h)
    rw [putK, putD]
    by_cases e : g = f
    · rw [if_pos e, if_pos e]; exact h
    · rw [if_neg e, if_neg e, List.length_cons, List.length_cons, ih]
theorem putD_rep {G : Gx} {m : List Addr} {E : Hp} {f : Str} {d : D} {v : V} (rd : Rep G m E d v) : ∀ {ks : List Str} {ds : List D} {vs : List V}, ks.length = ds.length → Reps G m E ds vs → Reps G m E (putD f d ks ds) (putD f v ks vs)
  | [], [], vs, _, r => by rw [Reps] at r; subst r; exact Reps.cons rd Reps.nil
  | [], _ :: _, _, h, _ => nomatch h
  | _ :: _, [], _, h, _ => nomatch h
  | g :: r, x :: xs, vs, h, q => by
    obtain ⟨u, t, rfl, q1, q2⟩ := q.uncons
    rw [putD, putD]
    by_cases e : g = f
    · rw [if_pos e, if_pos e]; exact Reps.cons rd q2
    · rw [if_neg e, if_neg e]; exact Reps.cons q1 (putD_rep rd (by simpa using h) q2)
/-- an own thing is written -/
theorem own_put {Z : Addr → Prop} {σ : L2.St} {ρ : DS} {i : Nat} {a : Addr} {c c' : Cell} (hi : ρ[i]? = some (.own a c)) : ownW Z σ (ρ.set i (.own a c')) = ownW Z σ ρ := by
  have hil := (List.getElem?_eq_some_iff.mp hi).1
  funext b
  apply propext
  constructor
  · rintro (h | ⟨j, e, h1⟩)
    · exact .inl h
    · by_cases hj : i = j
      · subst hj
        rw [List.getElem?_set_self hil] at h1
        cases h1
        exact .inr ⟨i, c, hi⟩
      · rw [List.getElem?_set_ne hj] at h1; exact .inr ⟨j, e, h1⟩
  · rintro (h | ⟨j, e, h1⟩)
    · exact .inl h
    · by_cases hj : i = j
      · subst hj
        rw [hi] at h1
        cases h1
        exact .inr ⟨i, c', List.getElem?_set_self hil⟩
      · exact .inr ⟨j, e, by rw [List.getElem?_set_ne hj]; exact h1⟩
theorem SR.putOwn {G : Gx} {Z : Addr → Prop} {m : List Addr} {σ : L2.St} {H : Hp} {ρ : DS} {μ : Mu} (S : SR G Z m σ H ρ μ) {i : Nat} {c c' : Cell} {a : Addr} {o : HO} (hi : ρ[i]? = some (.own a c))
    (hc : CellOk G m (vis (ownW Z σ ρ) m H) (upd H a o) c' a) : SR G Z m σ (upd H a o) (ρ.set i (.own a c')) μ ∧ SStep G Z m σ ρ H m σ (ρ.set i (.own a c')) (upd H a o) := by
  have hil := (List.getElem?_eq_some_iff.mp hi).1
  obtain ⟨hs, nz, _⟩ := S.own i a c hi
  have ow : ownW Z σ (ρ.set i (.own a c')) = ownW Z σ ρ := own_put hi
  have wa : ownW Z σ ρ a := .inr ⟨i, c, hi⟩
  have ev : vis (ownW Z σ ρ) m (upd H a o) = vis (ownW Z σ ρ) m H := by
    funext b
    unfold vis
    by_cases hb : b = a
    · rw [hb, if_pos (.inl wa), if_pos (.inl wa)]
    · rw [upd_ne hb]
  refine ⟨⟨by rw [List.length_set]; exact S.len, ?_, fun j d e => ?_, fun j b e h => ?_, fun j k b e f h1 h2 => ?_, fun j c ks ds h => ?_⟩, List.prefix_refl _, fun z hz => upd_ne fun e => nz (e ▸ hz), by rw [ow, ev]; exact Same.refl _⟩
  · rw [ow]
    refine ⟨S.mu.len, S.mu.nd, S.mu.out, fun z hz => ?_, fun n d b hd hb => ?_⟩
    · by_cases e : z = a
      · rw [e, upd_same]; intro q; cases q
      · rw [upd_ne e]; exact S.mu.hw z hz
    · rw [ev]
      have nb : b ≠ a := fun e => S.mu.out b (List.mem_of_getElem? hb) (e ▸ wa)
      exact (S.mu.cell n d b hd hb).keep (List.prefix_refl _) (Same.refl _) (upd_ne nb)
  · rw [ow, ev]
    have hj : i ≠ j := fun q => by subst q; rw [List.getElem?_set_self hil] at e; cases e
    rw [List.getElem?_set_ne hj] at e
    exact S.val j d e
  · rw [ow, ev]
    by_cases hj : i = j
    · subst hj
      rw [List.getElem?_set_self hil] at h
      cases h
      exact ⟨hs, nz, hc⟩
    · rw [List.getElem?_set_ne hj] at h
      obtain ⟨h1, h2, h3⟩ := S.own j b e h
      exact ⟨h1, h2, h3.keep (List.prefix_refl _) (Same.refl _) (upd_ne fun q => hj (S.dis i j a c e hi (q ▸ h)))⟩
  · have get : ∀ {l : Nat} {b : Addr} {es : Cell}, (ρ.set i (Sl.own a c'))[l]? = some (Sl.own b es) → ∃ es2 : Cell, ρ[l]? = some (Sl.own b es2) := fun {l b es} h => by
      by_cases hj : i = l
      · subst hj
        rw [List.getElem?_set_self hil] at h
        cases h
        exact ⟨c, hi⟩
      · rw [List.getElem?_set_ne hj] at h; exact ⟨es, h⟩
    obtain ⟨_, g1⟩ := get h1
    obtain ⟨_, g2⟩ := get h2
    exact S.dis j k b _ _ g1 g2
  · rw [ow, ev]
    have hj : i ≠ j := fun q => by subst q; rw [List.getElem?_set_self hil] at h; cases h
    rw [List.getElem?_set_ne hj] at h
    exact S.exn j c ks ds h
/-- self.f = value, self the thing that is being made -/
def putOwnI (c0 : Str) (i : Nat) (f : Str) (d : D) (ρ : DS) (k : DS → Prop) : Prop := match ρ[i]? with
  | some (.own a (.ins c ks ds)) => c = c0 ∧ ks.length < 1000 ∧ k (ρ.set i (.own a (.ins c (putK f ks) (putD f d ks ds))))
  | _ => False
theorem putOwnI_of {c : Str} {i : Nat} {f : Str} {d : D} {ρ : DS} {k : DS → Prop} (h : putOwnI c i f d ρ k) : ∃ a ks ds, ρ[i]? = some (.own a (.ins c ks ds)) ∧ ks.length < 1000 ∧ k (ρ.set i (.own a (.ins c (putK f ks) (putD f d ks ds)))) := by
  unfold putOwnI at h
  split at h
  · rename_i e
    obtain ⟨rfl, h⟩ := h
    exact ⟨_, _, _, e, h⟩
  · exact h.elim
def sFldO (c : Str) (i : Nat) (f : Str) (wa : WE) : WS := fun E ρ μ => wa ρ μ (fun d μ1 => putOwnI c i f d ρ fun ρ1 => E.nx ρ1 μ1) fun c ks es μ' => E.xc c ks es ρ μ'
section
variable {ex : Option (Addr × Addr × Addr)} {W : WX} {X : Cx} {e o value : Expr} {wa wo : WE} {pos pos' p0 : Pos}
theorem ds_fldO {i : Nat} {x c f : Str} {C : Addr} (hm : X.mg c = some (.ref C)) (hc : Cls X.K C) (hn : NoAttr X.K C f) (hN : X.N[i]? = some x) (hv : DE ex W X value wa) (hs : swapsWith value (some (.Attribute (.Name x p0) f pos')) pos.line X.env = pure false)
    (hvis : Vis X.env.scope x := by first | exact Or.inl rfl | exact Or.inr (Or.inl rfl) | exact Or.inr (Or.inr rfl)) (hd : (x == ("__debug__" : Str)) = false := by decide) (hcd : (x == ("__classdict__" : Str)) = false := by decide) :
    DSt ex W X (.Assign [.Attribute (.Name x p0) f pos'] value pos) (sFldO c i f wa) := ps_weak (ps_fld (pe_var hN hvis hd hcd) hv hs) fun De σ H q => by
  obtain ⟨Z, m, ρ, μ, E, S, q, kn, kr, kb, kc, kx⟩ := q
  refine ⟨Z, m, ρ, μ, _, _, S, q, fun v H1 P => ?_, fun cls d H' P => kx cls d σ H' (XSPost.of S P)⟩
  obtain ⟨m1, d, μ1, s1, r1, q1⟩ := P
  obtain ⟨a, ks, ds, hi, hl, q2⟩ := putOwnI_of q1
  have S1 := S.step s1
  obtain ⟨ha, nz, C0, dx, vs, g, hv, l, rs⟩ := S1.own i a _ hi
  have hC : C0 = C := by
    have g' : X.mg c = some (.ref C0) := g
    rw [hm] at g'; cases g'; rfl
  subst hC
  have lv : ks.length = vs.length := by rw [l]; exact rs.len
  refine ⟨_, ha, a, C0, dx, _, rfl, hv, hc, hn, by rw [List.length_zip, ← lv, Nat.min_self]; exact hl, ?_⟩
  obtain ⟨S2, s2⟩ := S1.putOwn (o := .ins C0 dx (putF f v (ks.zip vs))) (c' := .ins c (putK f ks) (putD f d ks ds)) hi ⟨C0, dx, putD f v ks vs, g, by rw [upd_same, putF_zip f v ks vs lv], putD_len f ks ds d l, putD_rep r1 l rs⟩
  exact kn _ _ ⟨m1, _, μ1, S2, (SStep.of s1).trans s2, q2⟩
end
end DL

set_option Elab.async false
set_option linter.all false
set_option maxRecDepth 100000
set_option maxHeartbeats 4000000
set_option autoImplicit false
namespace DL
open PySem PySem.Spec PyProof.Rows L2
/-! ### an own thing let go: a datum -/
def cellD : Cell → Option D
  | .lst ds => some (.lst ds)
  | .ins c ks ds => some (.obj c ks ds)
  | .pool => none
  | .dct kvs => none
  | .dic _ _ => none
theorem cellD_rep {G : Gx} {m : List Addr} {E H : Hp} {c : Cell} {a : Addr} {d : D} (h : CellOk G m E H c a) (e : cellD c = some d) {E' : Hp} (hE : Same E E') (ha : ∀ o, H a = some o → E' a = some o) : Rep G m E' d (.ref a) := by
  cases c with
  | lst ds =>
    cases e
    obtain ⟨vs, h1, h2⟩ := h
    rw [Rep]
    exact ⟨a, vs, rfl, ha _ h1, Reps.mono (List.prefix_refl _) hE _ _ h2⟩
  | ins c ks ds =>
    cases e
    obtain ⟨C, dx, vs, g, h1, l, h2⟩ := h
    rw [Rep]
    exact ⟨a, C, dx, vs, rfl, g, ha _ h1, l, Reps.mono (List.prefix_refl _) hE _ _ h2⟩
  | pool => cases e
  | dct kvs => cases e
  | dic _ _ => cases e
theorem SR.free {G : Gx} {Z : Addr → Prop} {m : List Addr} {σ : L2.St} {H : Hp} {ρ : DS} {μ : Mu} (S : SR G Z m σ H ρ μ) {i : Nat} {a : Addr} {c : Cell} {d : D} (hi : ρ[i]? = some (.own a c)) (hd : cellD c = some d) :
    SR G Z m σ H (ρ.set i (.v d)) μ ∧ SStep G Z m σ ρ H m σ (ρ.set i (.v d)) H := by
  have hil := (List.getElem?_eq_some_iff.mp hi).1
  obtain ⟨hs, nz, hc⟩ := S.own i a c hi
  have sub : ∀ b, ownW Z σ (ρ.set i (.v d)) b → ownW Z σ ρ b := fun b h => by
    rcases h with h | ⟨j, e, h1⟩
    · exact .inl h
    · by_cases hj : i = j
      · subst hj; rw [List.getElem?_set_self hil] at h1; cases h1
      · rw [List.getElem?_set_ne hj] at h1; exact .inr ⟨j, e, h1⟩
  have sm := vis_mono (m := m) (H := H) sub
  have nw : ¬ ownW Z σ (ρ.set i (.v d)) a := by
    rintro (h | ⟨j, e, h1⟩)
    · exact nz h
    · by_cases hj : i = j
      · subst hj; rw [List.getElem?_set_self hil] at h1; cases h1
      · rw [List.getElem?_set_ne hj] at h1; exact hj (S.dis i j a c e hi h1)
  refine ⟨⟨by rw [List.length_set]; exact S.len, S.mu.less sub, fun j e h => ?_, fun j b e h => ?_, fun j k b e f h1 h2 => ?_, fun j c ks ds h => ?_⟩, List.prefix_refl _, fun _ _ => rfl, sm⟩
  · by_cases hj : i = j
    · subst hj
      rw [List.getElem?_set_self hil] at h
      cases h
      exact ⟨_, hs, cellD_rep hc hd sm fun o ho => vis_some.mpr ⟨nw, fun q => S.mu.out a q (.inr ⟨i, c, hi⟩), ho⟩⟩
    · rw [List.getElem?_set_ne hj] at h
      obtain ⟨v, h1, h2⟩ := S.val j e h
      exact ⟨v, h1, Rep.mono (List.prefix_refl _) sm _ _ h2⟩
  · by_cases hj : i = j
    · subst hj; rw [List.getElem?_set_self hil] at h; cases h
    · rw [List.getElem?_set_ne hj] at h
      obtain ⟨h1, h2, h3⟩ := S.own j b e h
      exact ⟨h1, h2, h3.keep (List.prefix_refl _) sm rfl⟩
  · have get : ∀ {l : Nat} {b : Addr} {es : Cell}, (ρ.set i (Sl.v d))[l]? = some (Sl.own b es) → ρ[l]? = some (Sl.own b es) := fun {l b es} h => by
      by_cases hj : i = l
      · subst hj; rw [List.getElem?_set_self hil] at h; cases h
      · rw [List.getElem?_set_ne hj] at h; exact h
    exact S.dis j k b _ _ (get h1) (get h2)
  · have hj : i ≠ j := fun q => by subst q; rw [List.getElem?_set_self hil] at h; cases h
    rw [List.getElem?_set_ne hj] at h
    exact (S.exn j c ks ds h).mono (List.prefix_refl _) sm
/-- ahead of a statement: the thing at slot i is let go -/
def frz (i : Nat) (ρ : DS) (k : DS → Prop) : Prop := match ρ[i]? with
  | some (.own _ c) => match cellD c with
    | some d => k (ρ.set i (.v d))
    | none => False
  | _ => False
theorem frz_of {i : Nat} {ρ : DS} {k : DS → Prop} (h : frz i ρ k) : ∃ a c d, ρ[i]? = some (.own a c) ∧ cellD c = some d ∧ k (ρ.set i (.v d)) := by
  unfold frz at h
  split at h
  · split at h
    · exact ⟨_, _, _, by assumption, by assumption, h⟩
    · exact h.elim
  · exact h.elim
def sFrz (i : Nat) (w : WS) : WS := fun E ρ μ => frz i ρ fun ρ1 => w E ρ1 μ
section
variable {ex : Option (Addr × Addr × Addr)} {W : WX} {X : Cx} {st : Stmt} {sts : List Stmt} {w : WS} {e : Expr} {wa : WE} {ws : WA} {es : List Expr} {pos : Pos}
theorem lift_frz {G : Gx} {i : Nat} {De : Ends} {σ : L2.St} {H : Hp} (q : liftS G W (sFrz i w) De σ H) : liftS G W w De σ H := by
  obtain ⟨Z, m, ρ, μ, E, S, q, kn, kr, kb, kc, kx⟩ := q
  obtain ⟨a, c, d, hi, hd, q⟩ := frz_of q
  obtain ⟨S1, s1⟩ := S.free hi hd
  exact ⟨Z, m, _, μ, E, S1, q, fun σ' H' P => kn σ' H' (SPost.from s1 P), fun v H' P => kr v H' (RPost.from s1 P), fun σ' H' P => kb σ' H' (SPost.from s1 P), fun σ' H' P => kc σ' H' (SPost.from s1 P), fun cls d σ' H' P => kx cls d σ' H' (XSPost.from s1 P)⟩
theorem ds_frz (i : Nat) (h : DSt ex W X st w) : DSt ex W X st (sFrz i w) := ps_weak h fun De σ H q => lift_frz q
/-! ### a list of the def's own: made -/
theorem SR.born {G : Gx} {Z : Addr → Prop} {m : List Addr} {σ : L2.St} {H : Hp} {ρ : DS} {μ : Mu} (S : SR G Z m σ H ρ μ) {i : Nat} {p : Addr} {o : HO} {c : Cell} (np : H p = none) (hi : i < ρ.length) (hc : CellOk G m (vis (ownW Z σ ρ) m H) (upd H p o) c p) :
    SR G Z m (σ.set i (some (.ref p))) (upd H p o) (ρ.set i (.own p c)) μ ∧ SStep G Z m σ ρ H m (σ.set i (some (.ref p))) (ρ.set i (.own p c)) (upd H p o) := by
  have hil : i < σ.length := by rw [← S.len]; exact hi
  obtain ⟨f1, f2⟩ := S.mu.fresh np
  have sub : ∀ b, ownW Z (σ.set i (some (.ref p))) (ρ.set i (.own p c)) b → addZ (ownW Z σ ρ) p b := fun b h => by
    rcases h with h | ⟨j, e, h1⟩
    · exact .inl (.inl h)
    · by_cases hj : i = j
      · subst hj; rw [List.getElem?_set_self hi] at h1; cases h1; exact .inr rfl
      · rw [List.getElem?_set_ne hj] at h1; exact .inl (.inr ⟨j, e, h1⟩)
  obtain ⟨Mh, sh⟩ := MuOk.hide (o := o) S.mu np
  have sm : Same (vis (ownW Z σ ρ) m H) (vis (ownW Z (σ.set i (some (.ref p))) (ρ.set i (.own p c))) m (upd H p o)) := sh.trans (vis_mono sub)
  have nzp : ¬ Z p := fun h => f1 (.inl h)
  have old : ∀ {j : Nat} {e : Cell}, ρ[j]? ≠ some (Sl.own p e) := fun {j e} h => f1 (.inr ⟨j, e, h⟩)
  refine ⟨⟨by rw [List.length_set, List.length_set]; exact S.len, Mh.less sub, fun j e h => ?_, fun j b e h => ?_, fun j k b e f h1 h2 => ?_, fun j c ks ds h => ?_⟩, List.prefix_refl _, fun z hz => upd_ne fun q => nzp (q ▸ hz), sm⟩
  · by_cases hj : i = j
    · subst hj; rw [List.getElem?_set_self hi] at h; cases h
    · rw [List.getElem?_set_ne hj] at h
      obtain ⟨v, h1, h2⟩ := S.val j e h
      exact ⟨v, by rw [List.getElem?_set_ne hj]; exact h1, Rep.mono (List.prefix_refl _) sm _ _ h2⟩
  · by_cases hj : i = j
    · subst hj
      rw [List.getElem?_set_self hi] at h
      cases h
      exact ⟨List.getElem?_set_self hil, nzp, hc.keep (List.prefix_refl _) sm rfl⟩
    · rw [List.getElem?_set_ne hj] at h
      obtain ⟨h1, h2, h3⟩ := S.own j b e h
      refine ⟨by rw [List.getElem?_set_ne hj]; exact h1, h2, h3.keep (List.prefix_refl _) sm (upd_ne fun q => ?_)⟩
      subst q
      exact old h
  · by_cases hj : i = j
    · subst hj
      rw [List.getElem?_set_self hi] at h1
      cases h1
      by_cases hk : i = k
      · exact hk
      · rw [List.getElem?_set_ne hk] at h2
        exact absurd h2 old
    · rw [List.getElem?_set_ne hj] at h1
      by_cases hk : i = k
      · subst hk
        rw [List.getElem?_set_self hi] at h2
        cases h2
        exact absurd h1 old
      · rw [List.getElem?_set_ne hk] at h2
        exact S.dis j k b e f h1 h2
  · have hj : i ≠ j := fun q => by subst q; rw [List.getElem?_set_self hi] at h; cases h
    rw [List.getElem?_set_ne hj] at h ⊢
    exact (S.exn j c ks ds h).mono (List.prefix_refl _) sm
def sSetO (i : Nat) (wa : WA) : WS := fun E ρ μ => wa ρ μ (fun ds μ1 => ds.length ≤ 1000 ∧ i < ρ.length ∧ ∀ p, E.nx (ρ.set i (.own p (.lst ds))) μ1) fun c ks es μ' => E.xc c ks es ρ μ'
theorem ds_setO {i : Nat} {x : Str} {pos' lp : Pos} (hN : X.N.Nodup) (hi : X.N[i]? = some x) (he : DA ex W X es ws) (hx : Loc X.env.scope x := by first | exact Or.inl rfl | exact Or.inr rfl)
    (hs : swapsWith (.List es lp) (some (.Name x pos')) pos.line X.env = pure false := by rfl) (hf : X.fn x = true ∨ X.env.scope.names.lookup x = some .local := by first | exact .inl rfl | exact .inr rfl | assumption) :
    DSt ex W X (.Assign [.Name x pos'] (.List es lp) pos) (sSetO i ws) := ps_weak (ps_set (i := i) hN hi hx (pe_lst he) hs hf) fun D σ H q => by
  obtain ⟨Z, m, ρ, μ, E, S, q, kn, kr, kb, kc, kx⟩ := q
  refine ⟨Z, m, ρ, μ, _, _, S, q, fun vs H1 P => ?_, fun cls d H' P => kx cls d σ H' (XSPost.of S P)⟩
  obtain ⟨m1, ds, μ1, s1, r1, hl, hil, q1⟩ := P
  refine ⟨by rw [← r1.len]; exact le1000 hl, fun p np => kn _ _ ?_⟩
  obtain ⟨S2, s2⟩ := (S.step s1).born (o := .lst vs) (c := .lst ds) np hil ⟨vs, upd_same, r1⟩
  exact ⟨m1, _, μ1, S2, (SStep.of s1).trans s2, q1 p⟩
end
end DL

set_option Elab.async false
set_option linter.all false
set_option maxRecDepth 100000
set_option maxHeartbeats 4000000
set_option autoImplicit false
namespace DL
open PySem PySem.Spec PyProof.Rows L2
/-! ### __init__ and the making of instances -/
abbrev ISp := List D → Mu → (List Str → List D → Mu → Prop) → XD → Prop
def InitPost (G : Gx) (Z : Addr → Prop) (x : Addr) (c : Str) (m : List Addr) (H : Hp) (Q : List Str → List D → Mu → Prop) (H' : Hp) : Prop :=
  ∃ m' ks es μ', m <+: m' ∧ (∀ z, Z z → H' z = H z) ∧ MuOk G (addZ Z x) m' μ' H' ∧ Same (vis (addZ Z x) m H) (vis (addZ Z x) m' H') ∧ CellOk G m' (vis (addZ Z x) m' H') H' (.ins c ks es) x ∧ Q ks es μ'
def XInit (G : Gx) (Z : Addr → Prop) (x : Addr) (m : List Addr) (H : Hp) (Xd : XD) (cls : Value) (d : Option Addr) (H' : Hp) : Prop :=
  ∃ m' c ks es μ' C dd vs, m <+: m' ∧ (∀ z, Z z → H' z = H z) ∧ MuOk G Z m' μ' H' ∧ Same (vis (addZ Z x) m H) (vis Z m' H') ∧ cls = .ref C ∧ d = some dd ∧ G.mg c = some (.ref C) ∧ vis Z m' H' dd = some (.xd (ks.zip vs)) ∧ ks.length = es.length ∧
    Reps G m' (vis Z m' H') es vs ∧ Xd c ks es μ'
def toSpI (G : Gx) (c : Str) (sp : ISp) : Sp := fun vs H Q' E => ∃ x us C dx Z m μ ds Q Xd, vs = .ref x :: us ∧ G.mg c = some (.ref C) ∧ H x = some (.ins C dx []) ∧ ¬ Z x ∧ MuOk G (addZ Z x) m μ H ∧ Reps G m (vis (addZ Z x) m H) ds us ∧ sp ds μ Q Xd ∧
  (∀ H', InitPost G Z x c m H Q H' → Q' .non H') ∧ ∀ cls d H', XInit G Z x m H Xd cls d H' → E cls d H'
def startI (N : List Str) (c : Str) (x : Addr) (ds : List D) : DS := .own x (.ins c [] []) :: (ds.map Sl.v ++ List.replicate (N.length - ds.length - 1) Sl.no)
theorem startI_own {N : List Str} {c : Str} {x : Addr} {ds : List D} {i : Nat} {a : Addr} {e : Cell} (h : (startI N c x ds)[i]? = some (.own a e)) : i = 0 ∧ a = x ∧ e = .ins c [] [] := by
  unfold startI at h
  cases i with
  | zero => cases h; exact ⟨rfl, rfl, rfl⟩
  | succ i =>
    rw [List.getElem?_cons_succ] at h
    have hm := List.mem_of_getElem? h
    rcases List.mem_append.mp hm with q | q
    · obtain ⟨d, _, q⟩ := List.mem_map.mp q
      cases q
    · rw [List.mem_replicate] at q
      exact nomatch q.2
theorem startI_ownW {Z : Addr → Prop} {N : List Str} {c : Str} {x : Addr} {ds : List D} {σ : L2.St} : ownW Z σ (startI N c x ds) = addZ Z x := by
  funext b
  apply propext
  constructor
  · rintro (h | ⟨i, e, h⟩)
    · exact .inl h
    · obtain ⟨_, rfl, _⟩ := startI_own h
      exact .inr rfl
  · rintro (h | h)
    · exact .inl h
    · subst h
      exact .inr ⟨0, _, rfl⟩
theorem SR.startI {G : Gx} {Z : Addr → Prop} {m : List Addr} {H : Hp} {μ : Mu} {N : List Str} {ds : List D} {us : List V} {c : Str} {C x dx : Addr} (g : G.mg c = some (.ref C)) (hx : H x = some (.ins C dx [])) (nz : ¬ Z x) (M : MuOk G (addZ Z x) m μ H)
    (r : Reps G m (vis (addZ Z x) m H) ds us) : SR G Z m (L2.start N (.ref x :: us)) H (startI N c x ds) μ := by
  have ow := startI_ownW (Z := Z) (N := N) (c := c) (x := x) (ds := ds) (σ := L2.start N (.ref x :: us))
  refine ⟨?_, by rw [ow]; exact M, fun i d e => ?_, fun i a e h => ?_, fun i j a e f h1 h2 => ?_, fun i c2 ks es e => ?_⟩
  · have hl := r.len
    simp [startI, DL.startI, L2.start]
    omega
  · rw [ow]
    unfold DL.startI at e
    cases i with
    | zero => cases e
    | succ i =>
      rw [List.getElem?_cons_succ, List.getElem?_append] at e
      split at e
      · rename_i hl
        rw [List.getElem?_map] at e
        rw [List.length_map] at hl
        cases q : ds[i]? with
        | none => rw [q] at e; cases e
        | some d' =>
          rw [q] at e
          cases e
          obtain ⟨v, ev, rv⟩ := r.get q
          refine ⟨v, ?_, rv⟩
          unfold L2.start
          rw [List.map_cons, List.cons_append, List.getElem?_cons_succ, List.getElem?_append_left (by rw [List.length_map, ← r.len]; exact hl), List.getElem?_map, ev]
          rfl
      · have := List.mem_of_getElem? e
        rw [List.mem_replicate] at this
        exact nomatch this.2
  · obtain ⟨rfl, rfl, rfl⟩ := startI_own h
    exact ⟨rfl, nz, C, dx, [], g, hx, rfl, Reps.nil⟩
  · rw [(startI_own h1).1, (startI_own h2).1]
  · unfold DL.startI at e
    have hm := List.mem_of_getElem? e
    rcases List.mem_cons.mp hm with q | q
    · cases q
    · rcases List.mem_append.mp q with q | q
      · obtain ⟨d, _, q⟩ := List.mem_map.mp q
        cases q
      · rw [List.mem_replicate] at q
        exact nomatch q.2
/-- the ends of an __init__'s body -/
def initEnd (c : Str) (x : Addr) (Q : List Str → List D → Prop) (ρ : DS) : Prop := match ρ[0]? with
  | some (Sl.own a (Cell.ins c' ks ds)) => a = x ∧ c' = c ∧ Q ks ds
  | _ => False
theorem initEnd_of {c : Str} {x : Addr} {Q : List Str → List D → Prop} {ρ : DS} (h : initEnd c x Q ρ) : ∃ ks ds, ρ[0]? = some (.own x (.ins c ks ds)) ∧ Q ks ds := by
  unfold initEnd at h
  split at h
  · rename_i e
    obtain ⟨rfl, rfl, h⟩ := h
    exact ⟨_, _, e, h⟩
  · exact h.elim
def defI (c : Str) (x : Addr) (Q : List Str → List D → Mu → Prop) (Xd : XD) : DEnds := { nx := fun ρ μ => initEnd c x (fun ks ds => Q ks ds μ) ρ, rt := fun _ _ => False, xc := fun c ks es _ μ => Xd c ks es μ }
section
variable {P : Program} {w : World} {K : PySem.W.Frag} {mg : Str → Option Value} {base : Heap}
theorem def_okI {x qual : Str} {params : Arguments} {body : List Stmt} {scope : Scope} {dvs : List V} {kws : List (Str × V)} {f : Addr} {fd : FuncData} {N ps : List Str} {k : Nat} {c : Str} {sp : ISp} {wb : WS} (F : FunD K x qual params body scope dvs kws f fd) (S : FnScope N ps scope)
    (len : ∀ ds μ Q Xd, sp ds μ Q Xd → ds.length + 1 = ps.length)
    (hbody : ∀ (cdv : Value) (A : Around) (fr : List Env) (s : Shared) (H : Hp) (E : XK), Room k (A.deeper (envOfC qual scope s.heap.objs.size f cdv)) → (A.deeper (envOfC qual scope s.heap.objs.size f cdv)).guards = some [] →
      DSs none (fun cls d _ H' => E cls d H') (cxOf (L2.CX P w) P w K mg base N qual scope f cdv A fr s H E) body wb)
    (hw : ∀ ds μ Q Xd (a : Addr), sp ds μ Q Xd → wb (defI c a Q Xd) (startI N c a ds) μ) : FnG P w K mg base (k + 1) f fd ps (toSpI ⟨K, mg, none⟩ c sp) := by
  refine fnG_of F S (fun vs H Q E h => ?_) (fun cdv A outer s H vs Q E hr hgd h => ?_)
  · obtain ⟨a, us, C, dx, Z, m, μ, ds, Q', Xd, rfl, _, _, _, _, r, q, _⟩ := h
    rw [List.length_cons, ← r.len]
    exact len _ _ _ _ q
  · refine ⟨_, hbody cdv A outer s H E hr hgd, ?_⟩
    obtain ⟨a, us, C, dx, Z, m, μ, ds, Q', Xd, rfl, g, hx, nz, M, r, q, kq, kx⟩ := h
    refine ⟨Z, m, startI N c a ds, μ, defI c a Q' Xd, .startI g hx nz M r, hw ds μ Q' Xd a q, fun σ' H' P => ?_, fun v H' P => ?_, fun σ' H' P => ?_, fun σ' H' P => ?_, fun cls d σ' H' P => ?_⟩
    · obtain ⟨m', ρ', μ', S', s', q'⟩ := P
      obtain ⟨ks, es, h0, q2⟩ := initEnd_of q'
      obtain ⟨_, _, hc⟩ := S'.own 0 a _ h0
      have z := s'.same
      rw [startI_ownW] at z
      have sub : ∀ b, addZ Z a b → ownW Z σ' ρ' b := fun b h => by
        rcases h with h | h
        · exact .inl h
        · subst h; exact .inr ⟨0, _, h0⟩
      have sm := vis_mono (m := m') (H := H') sub
      exact kq _ ⟨m', ks, es, μ', s'.pre, s'.hid, S'.mu.less sub, z.trans sm, hc.keep (List.prefix_refl _) sm rfl, q2⟩
    · obtain ⟨m', d, μ', h1, h2, h3, h4, h5, h6⟩ := P
      exact h6.elim
    · obtain ⟨m', ρ', μ', S', s', q'⟩ := P
      exact q'.elim
    · obtain ⟨m', ρ', μ', S', s', q'⟩ := P
      exact q'.elim
    · obtain ⟨m', c', ks, es, ρ', μ', C', dd, vs', S', s', e1, e2, e3, e4, e5, e6, q'⟩ := P
      have z := s'.same
      rw [startI_ownW] at z
      exact kx _ _ _ ⟨m', c', ks, es, μ', C', dd, vs', s'.pre, s'.hid, S'.mu.out_own, z.trans vis_own, e1, e2, e3, vis_own _ _ e4, e5, Reps.mono (List.prefix_refl _) vis_own _ _ e6, q'⟩
end
/-! made -/
section
variable {ex : Option (Addr × Addr × Addr)} {W : WX} {X : Cx} {e o : Expr} {es : List Expr} {wa wo : WE} {ws : WA} {pos p apos : Pos} {k : Nat} {f C : Addr} {fd : FuncData} {ps : List Str} {c : Str}
theorem run_makeG {sp : Sp} {pins : List (Addr × Obj)} {σ : L2.St} {H : Hp} {s : Shared} {Q : VK} {us : List Value} {vs : List V} (M : Mk X.K C f) (F : FnG X.prog X.w X.K X.mg X.base k f fd ps sp) (hr : Room (k + 1) X.A) (hgd : X.A.guards = some []) (hb : Binds X.K fd ps [])
    (tk : Takes X W) (I : Inv X pins σ H s) (r : Vals vs us)
    (h : ∀ x dx, H x = none → H dx = none → dx ≠ x → sp (.ref x :: vs) (upd (upd H dx (.own x)) x (.ins C dx [])) (fun v H2 => v = .non ∧ Q (.ref x) H2) (L2.WE W σ)) :
    wpAny (model X.prog X.w) X.A (call (.ref C) us) (EP X pins σ Q) X.xe s := by
  have hq := h (s.heap.objs.size + 1) s.heap.objs.size (I.hok.fresh (Nat.le_succ _)) (I.hok.fresh (Nat.le_refl _)) (Nat.ne_of_lt (Nat.lt_succ_self _))
  have I2 := Inv.made (C := C) I
  have r2 : Vals (V.ref (s.heap.objs.size + 1) :: vs) (Value.ref (s.heap.objs.size + 1) :: us) := .cons rfl r
  have hl : (Value.ref (s.heap.objs.size + 1) :: us).length = ps.length := r2.length.symm.trans (F.len _ _ _ _ hq)
  have bd := hb _ (Value.ref (s.heap.objs.size + 1) :: us) I2.kIn (by simpa using hl)
  rw [List.append_nil] at bd
  refine wpAny_call (make_map (f := f) I.kIn M.makes M.init (beq_iff_eq.mp M.fn) (codeAny_mono (F.run _ X.stack _ _ ⟨Value.ref (s.heap.objs.size + 1) :: us, []⟩ (Value.ref (s.heap.objs.size + 1) :: us) _ _ _ (hr.make C us []) hgd (I2.env0.make C us []) bd r2 hq) fun res s2 hres => ?_))
  match res, hres with
  | .error er, hres => exact passAt tk σ pins _ _ er s2 I2 hres
  | .ok (.ret u), hres =>
    obtain ⟨v, H', I3, rv, ev, q3⟩ := I2.after hres
    subst ev
    exact ⟨rv, ⟨V.ref (s.heap.objs.size + 1), H', I3, rfl, q3⟩⟩
/-- C(..): the made thing as a datum; as a cell -/
def wMake (c : Str) (sp : ISp) (wa : WA) : WE := fun ρ μ Q Xd => wa ρ μ (fun ds μ1 => sp ds μ1 (fun ks es μ2 => Q (.obj c ks es) μ2) Xd) Xd
def wMakeC (c : Str) (sp : ISp) (wa : WA) : WE := fun ρ μ Q Xd => wa ρ μ (fun ds μ1 => sp ds μ1 (fun ks es μ2 => Q (.loc μ2.length) (μ2 ++ [.ins c ks es])) Xd) Xd
theorem made_in {G : Gx} {Z : Addr → Prop} {m : List Addr} {μ : Mu} {H : Hp} (M : MuOk G Z m μ H) {x dx C : Addr} (nx : H x = none) (nd : H dx = none) (ne : dx ≠ x) :
    ¬ Z x ∧ MuOk G (addZ Z x) m μ (upd (upd H dx (.own x)) x (.ins C dx [])) ∧ Same (vis Z m H) (vis (addZ Z x) m (upd (upd H dx (.own x)) x (.ins C dx []))) ∧ ∀ z, Z z → upd (upd H dx (.own x)) x (.ins C dx []) z = H z := by
  have s1 := Step.laid (o := .own x) M nd
  have nx' : upd H dx (.own x) x = none := by rw [upd_ne (Ne.symm ne)]; exact nx
  obtain ⟨M2, sm⟩ := MuOk.hide (o := .ins C dx []) s1.mu nx'
  have nz : ¬ Z x := fun z => M.hw x z nx
  refine ⟨nz, M2, s1.same.trans sm, fun z hz => ?_⟩
  have hb : z ≠ x := fun q => nz (q ▸ hz)
  exact (upd_ne hb).trans (s1.hid z hz)
theorem lift_make {G : Gx} {sp : ISp} {b : Bool} (hm : G.mg c = some (.ref C)) {σ : L2.St} {H : Hp} {Q' : VK} (q : lift G W (if b = true then wMake c sp ws else wMakeC c sp ws) σ H Q') :
    liftA G W ws σ H fun vs H1 => ∀ x dx, H1 x = none → H1 dx = none → dx ≠ x → toSpI G c sp (.ref x :: vs) (upd (upd H1 dx (.own x)) x (.ins C dx [])) (fun v H2 => v = .non ∧ Q' (.ref x) H2) (L2.WE W σ) := by
  obtain ⟨Z, m, ρ, μ, Q, Xd, S, q, k, kx⟩ := q
  cases b with
  | true =>
    rw [if_pos rfl] at q
    refine ⟨Z, m, ρ, μ, _, Xd, S, q, fun vs H1 P x dx nx nd ne => ?_, kx⟩
    obtain ⟨m1, ds, μ1, s1, r1, q1⟩ := P
    obtain ⟨nz, M2, sm, hid⟩ := made_in (C := C) s1.mu nx nd ne
    refine ⟨x, vs, C, dx, _, m1, μ1, ds, _, Xd, rfl, hm, upd_same, nz, M2, Reps.mono (List.prefix_refl _) sm _ _ r1, q1, fun H' P => ⟨rfl, k _ _ (VPost.from s1 ?_)⟩, fun cls d H' P => kx cls d H' (XPost.from s1 ?_)⟩
    · obtain ⟨m', ks, es, μ', h1, h2, h3, h4, h5, h6⟩ := P
      have sub : ∀ b, ownW Z σ ρ b → addZ (ownW Z σ ρ) x b := fun b h => .inl h
      refine ⟨m', _, μ', ⟨h1, fun z hz => (h2 z hz).trans (hid z hz), h3.less sub, (sm.trans h4).trans (vis_mono sub)⟩, ?_, h6⟩
      exact cellD_rep h5 rfl (vis_mono sub) fun o ho => vis_some.mpr ⟨nz, fun q => h3.out x q (.inr rfl), ho⟩
    · obtain ⟨m', c', ks, es, μ', C', dd, vs', h1, h2, h3, h4, e1, e2, e3, e4, e5, e6, h6⟩ := P
      exact ⟨m', c', ks, es, μ', C', dd, vs', ⟨h1, fun z hz => (h2 z hz).trans (hid z hz), h3, sm.trans h4⟩, e1, e2, e3, e4, e5, e6, h6⟩
  | false =>
    rw [if_neg Bool.false_ne_true] at q
    refine ⟨Z, m, ρ, μ, _, Xd, S, q, fun vs H1 P x dx nx nd ne => ?_, kx⟩
    obtain ⟨m1, ds, μ1, s1, r1, q1⟩ := P
    obtain ⟨nz, M2, sm, hid⟩ := made_in (C := C) s1.mu nx nd ne
    refine ⟨x, vs, C, dx, _, m1, μ1, ds, _, Xd, rfl, hm, upd_same, nz, M2, Reps.mono (List.prefix_refl _) sm _ _ r1, q1, fun H' P => ⟨rfl, k _ _ (VPost.from s1 ?_)⟩, fun cls d H' P => kx cls d H' (XPost.from s1 ?_)⟩
    · obtain ⟨m', ks, es, μ', h1, h2, h3, h4, h5, h6⟩ := P
      have sub : ∀ b, ownW Z σ ρ b → addZ (ownW Z σ ρ) x b := fun b h => .inl h
      have sm2 : vis (ownW Z σ ρ) (m' ++ [x]) H' = vis (addZ (ownW Z σ ρ) x) m' H' := by
        funext b
        unfold vis addZ
        by_cases hb : (ownW Z σ ρ b ∨ b = x) ∨ b ∈ m'
        · rw [if_pos hb, if_pos]
          rcases hb with (h | h) | h
          · exact .inl h
          · exact .inr (by simp [h])
          · exact .inr (by simp [h])
        · rw [if_neg hb, if_neg]
          rintro (h | h)
          · exact hb (.inl (.inl h))
          · rcases List.mem_append.mp h with q | q
            · exact hb (.inr q)
            · exact hb (.inl (.inr (by simpa using q)))
      have nm : x ∉ m' := fun q => h3.out x q (.inr rfl)
      have pre : m' <+: m' ++ [x] := List.prefix_append _ _
      refine ⟨m' ++ [x], _, μ' ++ [.ins c ks es], ⟨h1.trans pre, fun z hz => (h2 z hz).trans (hid z hz), ⟨by simp [h3.len], ?_, fun a ha => ?_, fun z hz => h3.hw z (.inl hz), fun n d a hd ha => ?_⟩, by rw [sm2]; exact sm.trans h4⟩, ?_, h6⟩
      · rw [List.nodup_append]
        refine ⟨h3.nd, by simp, fun a ha b hb => ?_⟩
        rw [List.mem_singleton] at hb
        subst hb
        exact fun e => nm (e ▸ ha)
      · rcases List.mem_append.mp ha with q | q
        · exact fun z => h3.out a q (.inl z)
        · rw [List.mem_singleton] at q; subst q; exact nz
      · rw [sm2]
        by_cases hn : n < m'.length
        · rw [List.getElem?_append_left hn] at ha
          rw [List.getElem?_append_left (by rw [← h3.len]; exact hn)] at hd
          exact (h3.cell n d a hd ha).keep pre (Same.refl _) rfl
        · have hlt := (List.getElem?_eq_some_iff.mp ha).1
          have e : n = m'.length := by simp at hlt; omega
          subst e
          rw [List.getElem?_concat_length] at ha
          rw [h3.len, List.getElem?_concat_length] at hd
          cases ha
          cases hd
          exact h5.keep pre (Same.refl _) rfl
      · rw [Rep]
        exact ⟨x, rfl, by rw [← h3.len]; exact List.getElem?_concat_length⟩
    · obtain ⟨m', c', ks, es, μ', C', dd, vs', h1, h2, h3, h4, e1, e2, e3, e4, e5, e6, h6⟩ := P
      exact ⟨m', c', ks, es, μ', C', dd, vs', ⟨h1, fun z hz => (h2 z hz).trans (hid z hz), h3, sm.trans h4⟩, e1, e2, e3, e4, e5, e6, h6⟩
theorem de_makeB (b : Bool) {x : Str} {sp : ISp} (M : Mk X.K C f) (F : FnG X.prog X.w X.K X.mg X.base k f fd ps (toSpI (gx X ex) x sp)) (hr : Room (k + 1) X.A) (hgd : X.A.guards = some []) (hg : Gl X x) (hm : X.mg x = some (.ref C)) (hb : Binds X.K fd ps [])
    (tk : Takes X W) (ha : DA ex W X (e :: es) ws) (hdb : (x == ("__debug__" : Str)) = false := by decide)
    (he : starEach (e :: es) X.env = (false, eval e X.env) :: starEach es X.env := by rfl) (hpl : (backTo pos (starEach es X.env)).any (·.1) = false := by rfl) :
    DE ex W X (.Call (.Name x p) (e :: es) [] pos) (if b = true then wMake x sp ws else wMakeC x sp ws) := by
  refine ⟨fun pins s σ H Q I h => ?_⟩
  refine wpAny_Call_Name_kw (ld_glob I hg hm ?_ hdb)
  refine PySem.W.callWith_K (h₀ := X.base) I.ok.mod.kin M.kp (thn (ha.run pos pins s σ H _ I (lift_make (G := gx X ex) hm h)) fun us s1 ⟨vs, H1, I1, r, q⟩ => ⟨I1.kIn, ?_⟩) he hpl
  exact run_makeG M F hr hgd hb tk I1 r q
theorem de_make {x : Str} {sp : ISp} (M : Mk X.K C f) (F : FnG X.prog X.w X.K X.mg X.base k f fd ps (toSpI (gx X ex) x sp)) (hr : Room (k + 1) X.A) (hgd : X.A.guards = some []) (hg : Gl X x) (hm : X.mg x = some (.ref C)) (hb : Binds X.K fd ps [])
    (tk : Takes X W) (ha : DA ex W X (e :: es) ws) (hdb : (x == ("__debug__" : Str)) = false := by decide)
    (he : starEach (e :: es) X.env = (false, eval e X.env) :: starEach es X.env := by rfl) (hpl : (backTo pos (starEach es X.env)).any (·.1) = false := by rfl) :
    DE ex W X (.Call (.Name x p) (e :: es) [] pos) (wMake x sp ws) := de_makeB true M F hr hgd hg hm hb tk ha hdb he hpl
end
end DL

set_option Elab.async false
set_option linter.all false
set_option maxRecDepth 100000
set_option maxHeartbeats 4000000
set_option autoImplicit false
namespace DL
open PySem PySem.Spec PyProof.Rows L2
/-! ### methods -/
def hasCls (c m : Str) (d : D) (μ : Mu) (Q : Prop) : Prop := match insD d μ with
  | some (c', ks, _) => c' = c ∧ ks.contains m = false ∧ Q
  | none => False
theorem hasCls_of {c m : Str} {d : D} {μ : Mu} {Q : Prop} (h : hasCls c m d μ Q) : ∃ ks ds, insD d μ = some (c, ks, ds) ∧ ks.contains m = false ∧ Q := by
  unfold hasCls at h
  split at h
  · rename_i e
    obtain ⟨rfl, h⟩ := h
    exact ⟨_, _, e, h⟩
  · exact h.elim
theorem lookup_zip_none {α : Type} {m : Str} : ∀ {ks : List Str} {vs : List α}, ks.contains m = false → (ks.zip vs).lookup m = none
  | [], _, _ => by simp
  | _ :: _, [], _ => by simp
  | k :: ks, v :: vs, h => by
    rw [List.contains_cons, Bool.or_eq_false_iff] at h
    rw [List.zip_cons_cons, List.lookup_cons, h.1]
    exact lookup_zip_none h.2
/-- o.m(..) -/
def wMeth (c m : Str) (sp : DSp) (wo : WE) (wa : WA) : WE := fun ρ μ Q Xd => wo ρ μ (fun x μ1 => hasCls c m x μ1 (wa ρ μ1 (fun ds μ2 => sp (x :: ds) μ2 Q Xd) Xd)) Xd
section
variable {ex : Option (Addr × Addr × Addr)} {W : WX} {X : Cx} {e o : Expr} {es : List Expr} {wa wo : WE} {ws : WA} {pos p apos : Pos} {k : Nat} {f C : Addr} {fd : FuncData} {ps : List Str} {c m : Str} {sp : DSp}
def tMethG (K : PySem.W.Frag) (C : Addr) (m : Str) (sp : Sp) (W : WX) (to : TE) (ta : TA) : TE := fun σ H Q => to σ H fun x H1 => ∃ a dx fs, x = .ref a ∧ H1 a = some (.ins C dx fs) ∧ fs.lookup m = none ∧ ta σ H1 fun vs H2 => sp (.ref a :: vs) H2 Q (L2.WE W σ)
theorem pe_methG {sp : Sp} {to : TE} {ta : TA} {pl : Sem Bool} (he : PE X o to) (hc : Cls X.K C) (hm : Meth X.K C m f) (F : FnG X.prog X.w X.K X.mg X.base k f fd ps sp) (hr : Room k X.A) (hgd : X.A.guards = some []) (hb : Binds X.K fd ps []) (tk : Takes X W) (ha : PA X (e :: es) ta)
    (hst : starEach (e :: es) X.env = (false, eval e X.env) :: starEach es X.env) (hpl : (backTo pos (starEach es X.env)).any (·.1) = false)
    (ht : eval (.Call (.Attribute o m apos) (e :: es) [] pos) X.env = (do
      let ov ← eval o X.env
      standAt apos.atName
      let (f, first) ← holding [ov] (getMethod ov m pl)
      callWith pos f first (backTo pos (starEach (e :: es) X.env)) (backToKw pos (keywordEach [] X.env)))) :
    PE X (.Call (.Attribute o m apos) (e :: es) [] pos) (tMethG X.K C m sp W to ta) := by
  refine ⟨fun pins s σ H Q I h => ?_⟩
  refine PySem.W.methodCall_KW (pl := pl) (thn (he.run pins s σ H _ I h) fun u s1 hx => ?_) ht
  obtain ⟨x, H1, I1, rx, a, dx, fs, ex, ea, l, q⟩ := hx
  subst ex
  obtain rfl : u = Value.ref a := rx
  refine getmeth_ok I1 ea hc hm l ?_
  refine PySem.W.callWith_K (first := [.ref a]) (h₀ := X.base) I.ok.mod.kin hm.kp (thn (ha.run pos pins s1 σ H1 _ I1 q) fun us s2 hx => ?_) hst hpl
  obtain ⟨vs, H2, I2, r, q2⟩ := hx
  exact ⟨I2.kIn, run_fnG (us := .ref a :: us) (vs := .ref a :: vs) F hr hgd hb tk I2 (.cons rfl r) q2⟩
theorem pe_methG0 {sp : Sp} {to : TE} {pl : Sem Bool} (he : PE X o to) (hc : Cls X.K C) (hm : Meth X.K C m f) (F : FnG X.prog X.w X.K X.mg X.base k f fd ps sp) (hr : Room k X.A) (hgd : X.A.guards = some []) (hb : Binds X.K fd ps []) (tk : Takes X W)
    (ht : eval (.Call (.Attribute o m apos) [] [] pos) X.env = (do
      let ov ← eval o X.env
      standAt apos.atName
      let (f, first) ← holding [ov] (getMethod ov m pl)
      callWith pos f first (backTo pos (starEach [] X.env)) (backToKw pos (keywordEach [] X.env)))) :
    PE X (.Call (.Attribute o m apos) [] [] pos) (tMethG X.K C m sp W to tNil) := by
  refine ⟨fun pins s σ H Q I h => ?_⟩
  refine PySem.W.methodCall_KW (pl := pl) (thn (he.run pins s σ H _ I h) fun u s1 hx => ?_) ht
  obtain ⟨x, H1, I1, rx, a, dx, fs, ex, ea, l, q⟩ := hx
  subst ex
  obtain rfl : u = Value.ref a := rx
  refine getmeth_ok I1 ea hc hm l ?_
  exact PySem.W.callWith_K0 (first := [.ref a]) I1.kIn hm.kp (run_fnG (us := [.ref a]) (vs := [.ref a]) F hr hgd hb tk I1 (.cons rfl .nil) q)
theorem lift_meth {G : Gx} {C : Addr} (hmC : G.mg c = some (.ref C)) {σ : L2.St} {H : Hp} {Q' : VK} (q : lift G W (wMeth c m sp wo ws) σ H Q') : tMethG G.K C m (toSp G sp) W (lift G W wo) (liftA G W ws) σ H Q' := by
  obtain ⟨Z, m0, ρ, μ, Q, Xd, S, q, k, kx⟩ := q
  refine ⟨Z, m0, ρ, μ, _, Xd, S, q, fun v H1 P => ?_, kx⟩
  obtain ⟨m1, x, μ1, s1, r1, q1⟩ := P
  obtain ⟨ks, ds, hi, hks, q2⟩ := hasCls_of q1
  obtain ⟨a, C', dx, vs, rfl, g, ha, l, rs⟩ := ins_rep s1.mu r1 hi
  rw [hmC] at g
  cases g
  refine ⟨a, dx, _, rfl, ha, lookup_zip_none hks, Z, m1, ρ, μ1, _, Xd, S.step s1, q2, fun us H2 P => ?_, fun cls d H' P => kx cls d H' (XPost.from s1 P)⟩
  obtain ⟨m2, es, μ2, s2, r2, q3⟩ := P
  exact ⟨_, m2, μ2, x :: es, Q, Xd, s2.mu, Reps.cons (Rep.mono s2.pre s2.same _ _ r1) r2, q3, fun v H' P => k v H' (VPost.from (s1.trans s2) P), fun cls d H' P => kx cls d H' (XPost.from (s1.trans s2) P)⟩
theorem de_meth {pl : Sem Bool} (hmC : X.mg c = some (.ref C)) (hc : Cls X.K C) (hm : Meth X.K C m f) (F : FnG X.prog X.w X.K X.mg X.base k f fd ps (toSp (gx X ex) sp)) (hr : Room k X.A) (hgd : X.A.guards = some []) (hb : Binds X.K fd ps []) (tk : Takes X W) (he : DE ex W X o wo) (ha : DA ex W X (e :: es) ws)
    (hst : starEach (e :: es) X.env = (false, eval e X.env) :: starEach es X.env := by rfl) (hpl : (backTo pos (starEach es X.env)).any (·.1) = false := by rfl)
    (ht : eval (.Call (.Attribute o m apos) (e :: es) [] pos) X.env = (do
      let ov ← eval o X.env
      standAt apos.atName
      let (f, first) ← holding [ov] (getMethod ov m pl)
      callWith pos f first (backTo pos (starEach (e :: es) X.env)) (backToKw pos (keywordEach [] X.env))) := by rfl) :
    DE ex W X (.Call (.Attribute o m apos) (e :: es) [] pos) (wMeth c m sp wo ws) := pe_weak (pe_methG he hc hm F hr hgd hb tk ha hst hpl ht) fun _ _ _ q => lift_meth (G := gx X ex) hmC q
theorem de_meth0 {pl : Sem Bool} (hmC : X.mg c = some (.ref C)) (hc : Cls X.K C) (hm : Meth X.K C m f) (F : FnG X.prog X.w X.K X.mg X.base k f fd ps (toSp (gx X ex) sp)) (hr : Room k X.A) (hgd : X.A.guards = some []) (hb : Binds X.K fd ps []) (tk : Takes X W) (he : DE ex W X o wo)
    (ht : eval (.Call (.Attribute o m apos) [] [] pos) X.env = (do
      let ov ← eval o X.env
      standAt apos.atName
      let (f, first) ← holding [ov] (getMethod ov m pl)
      callWith pos f first (backTo pos (starEach [] X.env)) (backToKw pos (keywordEach [] X.env))) := by rfl) :
    DE ex W X (.Call (.Attribute o m apos) [] [] pos) (wMeth c m sp wo wNil) := pe_weak (pe_methG0 he hc hm F hr hgd hb tk ht) fun σ H Q' q => by
  obtain ⟨Z, m0, ρ, μ, Q, Xd, S, q, k, kx⟩ := q
  refine ⟨Z, m0, ρ, μ, _, Xd, S, q, fun v H1 P => ?_, kx⟩
  obtain ⟨m1, x, μ1, s1, r1, q1⟩ := P
  obtain ⟨ks, ds, hi, hks, q2⟩ := hasCls_of q1
  obtain ⟨a, C', dx, vs, rfl, g, ha, l, rs⟩ := ins_rep s1.mu r1 hi
  have g' : X.mg c = some (.ref C') := g
  rw [hmC] at g'
  cases g'
  exact ⟨a, dx, _, rfl, ha, lookup_zip_none hks, ⟨_, m1, μ1, [x], Q, Xd, s1.mu, Reps.cons r1 Reps.nil, q2, fun v H' P => k v H' (VPost.from s1 P), fun cls d H' P => kx cls d H' (XPost.from s1 P)⟩⟩
end
/-! ### own operators -/
/-- what of the text an operator of a class needs: the def; beside a value of a built-in type -/
structure OpFn (K : PySem.W.Frag) (C : Addr) (op : Operator) (f : Addr) : Prop where
  first : PySem.W.selfFirst K C = true
  at_ : PySem.W.findIn K (.ref C) (PySem.dunder op.info.2) = some (some (.ref f))
  fn : PySem.W.isFn K (.ref f) = true
  back : ∃ rc, PySem.W.findIn K (.ref C) (PySem.dunderR op.info.2) = some rc ∧ (rc = none ∨ ∃ g : Addr, rc = some (.ref g))
structure OpTy (K : PySem.W.Frag) (C : Addr) (op : Operator) (T : String) : Prop where
  fo : ∃ r, PySem.W.findIn K (.type T) (PySem.dunder op.info.2) = some r
  ro : ∃ r, PySem.W.findIn K (.type T) (PySem.dunderR op.info.2) = some r
  sub : PySem.W.subIn K (.type T) (.ref C) = some false

section
open PySem.W
variable {prog : Program} {w : World} {A : Around} {E : Value → Shared → Prop} {s : Shared} {K : Frag} {x C g : Addr} {ox : Obj} {od : Option Obj} {T : String}
end
/-- the other operand: of a built-in type that is listed, or of the class itself -/
def othTy (c : Str) (Ts : List String) (y : D) (μ : Mu) (Q : Prop) : Prop := match tyD y μ with
  | some (.b T) => T ∈ Ts ∧ Q
  | some (.c c') => c' = c ∧ Q
  | none => False
def isCls (c : Str) (d : D) (μ : Mu) (Q : Prop) : Prop := match insD d μ with
  | some (c', _, _) => c' = c ∧ Q
  | none => False
/-- x op y by x's own def -/
def wBinO (c : Str) (Ts : List String) (sp : DSp) (wa wb : WE) : WE := fun ρ μ Q Xd => wa ρ μ (fun x μ1 => wb ρ μ1 (fun y μ2 => isCls c x μ2 (othTy c Ts y μ2 (sp [x, y] μ2 Q Xd))) Xd) Xd
section
variable {ex : Option (Addr × Addr × Addr)} {W : WX} {X : Cx} {a b : Expr} {wa wb : WE} {pos : Pos} {k : Nat} {f C : Addr} {fd : FuncData} {ps : List Str} {c : Str} {sp : DSp} {Ts : List String}
end
end DL

set_option Elab.async false
set_option linter.all false
set_option maxRecDepth 100000
set_option maxHeartbeats 4000000
set_option autoImplicit false
namespace DL
open PySem PySem.Spec PyProof.Rows L2
/-! ### what can be called, by name -/
section
variable {P : Program} {w : World} {K : PySem.W.Frag} {mg : Str → Option Value} {base : Heap}
structure CallD (P : Program) (w : World) (K : PySem.W.Frag) (mg : Str → Option Value) (base : Heap) (k : Nat) (x : Str) (ps : List Str) (sp : DSp) : Prop where
  ex : ∃ f fd, mg x = some (.ref f) ∧ PySem.W.keepIn K (.ref f) = true ∧ Binds K fd ps [] ∧ FnG P w K mg base k f fd ps (toSp ⟨K, mg, none⟩ sp)
structure MethD (P : Program) (w : World) (K : PySem.W.Frag) (mg : Str → Option Value) (base : Heap) (k : Nat) (c m : Str) (ps : List Str) (sp : DSp) : Prop where
  ex : ∃ C f fd, mg c = some (.ref C) ∧ Cls K C ∧ Meth K C m f ∧ Binds K fd ps [] ∧ FnG P w K mg base k f fd ps (toSp ⟨K, mg, none⟩ sp)
structure MakeD (P : Program) (w : World) (K : PySem.W.Frag) (mg : Str → Option Value) (base : Heap) (k : Nat) (c : Str) (ps : List Str) (sp : ISp) : Prop where
  ex : ∃ C f fd, mg c = some (.ref C) ∧ Mk K C f ∧ Binds K fd ps [] ∧ FnG P w K mg base k f fd ps (toSpI ⟨K, mg, none⟩ c sp)
structure OperD (P : Program) (w : World) (K : PySem.W.Frag) (mg : Str → Option Value) (base : Heap) (k : Nat) (c : Str) (op : Operator) (Ts : List String) (ps : List Str) (sp : DSp) : Prop where
  ex : ∃ C f fd, mg c = some (.ref C) ∧ InsT K C ∧ OpFn K C op f ∧ (∀ T ∈ Ts, OpTy K C op T) ∧ Binds K fd ps [] ∧ FnG P w K mg base k f fd ps (toSp ⟨K, mg, none⟩ sp)
structure FldD (K : PySem.W.Frag) (mg : Str → Option Value) (c f : Str) : Prop where
  ex : ∃ C, mg c = some (.ref C) ∧ Cls K C ∧ NoAttr K C f
end
section
variable {W : WX} {X : Cx} {e o : Expr} {es : List Expr} {wa wo : WE} {ws : WA} {pos p apos : Pos} {k j : Nat} {ps : List Str} {x c m : Str} {sp : DSp}
theorem de_callD (C : CallD X.prog X.w X.K X.mg X.base k x ps sp) (hr : Room j X.A) (hkj : k ≤ j) (hgd : X.A.guards = some []) (hg : Gl X x) (tk : Takes X W) (ha : DA none W X (e :: es) ws) (hdb : (x == ("__debug__" : Str)) = false := by decide)
    (he : starEach (e :: es) X.env = (false, eval e X.env) :: starEach es X.env := by rfl) (hpl : (backTo pos (starEach es X.env)).any (·.1) = false := by rfl) : DE none W X (.Call (.Name x p) (e :: es) [] pos) (wCall sp ws) := by
  obtain ⟨f, fd, h1, h2, h3, F⟩ := C.ex
  exact de_call F (hr.mono hkj) hgd hg h1 h2 h3 tk ha hdb he hpl
theorem de_methD {pl : Sem Bool} (C : MethD X.prog X.w X.K X.mg X.base k c m ps sp) (hr : Room j X.A) (hkj : k ≤ j) (hgd : X.A.guards = some []) (tk : Takes X W) (he : DE none W X o wo) (ha : DA none W X (e :: es) ws)
    (hst : starEach (e :: es) X.env = (false, eval e X.env) :: starEach es X.env := by rfl) (hpl : (backTo pos (starEach es X.env)).any (·.1) = false := by rfl)
    (ht : eval (.Call (.Attribute o m apos) (e :: es) [] pos) X.env = (do
      let ov ← eval o X.env
      standAt apos.atName
      let (f, first) ← holding [ov] (getMethod ov m pl)
      callWith pos f first (backTo pos (starEach (e :: es) X.env)) (backToKw pos (keywordEach [] X.env))) := by rfl) : DE none W X (.Call (.Attribute o m apos) (e :: es) [] pos) (wMeth c m sp wo ws) := by
  obtain ⟨Ca, f, fd, h1, h2, h3, h4, F⟩ := C.ex
  exact de_meth h1 h2 h3 F (hr.mono hkj) hgd h4 tk he ha hst hpl ht
theorem de_methD0 {pl : Sem Bool} (C : MethD X.prog X.w X.K X.mg X.base k c m ps sp) (hr : Room j X.A) (hkj : k ≤ j) (hgd : X.A.guards = some []) (tk : Takes X W) (he : DE none W X o wo)
    (ht : eval (.Call (.Attribute o m apos) [] [] pos) X.env = (do
      let ov ← eval o X.env
      standAt apos.atName
      let (f, first) ← holding [ov] (getMethod ov m pl)
      callWith pos f first (backTo pos (starEach [] X.env)) (backToKw pos (keywordEach [] X.env))) := by rfl) : DE none W X (.Call (.Attribute o m apos) [] [] pos) (wMeth c m sp wo wNil) := by
  obtain ⟨Ca, f, fd, h1, h2, h3, h4, F⟩ := C.ex
  exact de_meth0 h1 h2 h3 F (hr.mono hkj) hgd h4 tk he ht
theorem de_makeD {isp : ISp} (C : MakeD X.prog X.w X.K X.mg X.base k x ps isp) (hr : Room j X.A) (hkj : k + 1 ≤ j) (hgd : X.A.guards = some []) (hg : Gl X x) (tk : Takes X W) (ha : DA none W X (e :: es) ws) (hdb : (x == ("__debug__" : Str)) = false := by decide)
    (he : starEach (e :: es) X.env = (false, eval e X.env) :: starEach es X.env := by rfl) (hpl : (backTo pos (starEach es X.env)).any (·.1) = false := by rfl) : DE none W X (.Call (.Name x p) (e :: es) [] pos) (wMake x isp ws) := by
  obtain ⟨Ca, f, fd, h1, h2, h3, F⟩ := C.ex
  exact de_make h2 F (hr.mono hkj) hgd hg h1 h3 tk ha hdb he hpl
theorem de_fldD {f : Str} (C : FldD X.K X.mg c f) (he : DE none W X e wa) (hb : attributeBase e f X.env (eval e X.env) = eval e X.env := by rfl) : DE none W X (.Attribute e f pos) (w1 (fFld c f) wa) := by
  obtain ⟨Ca, h1, h2, h3⟩ := C.ex
  exact de_fld h1 h2 h3 he hb
theorem ds_fldOD {i : Nat} {f : Str} {value : Expr} {p0 pos' : Pos} (C : FldD X.K X.mg c f) (hN : X.N[i]? = some x) (hv : DE none W X value wa) (hs : swapsWith value (some (.Attribute (.Name x p0) f pos')) pos.line X.env = pure false := by rfl)
    (hvis : Vis X.env.scope x := by first | exact Or.inl rfl | exact Or.inr (Or.inl rfl) | exact Or.inr (Or.inr rfl)) (hd : (x == ("__debug__" : Str)) = false := by decide) (hcd : (x == ("__classdict__" : Str)) = false := by decide) :
    DSt none W X (.Assign [.Attribute (.Name x p0) f pos'] value pos) (sFldO c i f wa) := by
  obtain ⟨Ca, h1, h2, h3⟩ := C.ex
  exact ds_fldO h1 h2 h3 hN hv hs hvis hd hcd
theorem room64 {A : Around} (h : Room k A) : A.units + 64 < cLine := by have := h.un; omega
theorem room65 {A : Around} (h : Room k A) : A.units + 65 < cLine := by have := h.un; omega
end
/-! ### one rule for several kinds -/
def F2.or (f g : F2) : F2 := fun x y μ Q => f x y μ Q ∨ g x y μ Q
theorem s2_or {G : Gx} {r r' : R2} {f g : F2} (h1 : S2 G r f) (h2 : S2 G r' g) : S2 G (fun x y H Q => r x y H Q ∨ r' x y H Q) (F2.or f g) := by
  intro Z m μ H x y u v Q Q' M rx ry h k
  rcases h with h | h
  · exact .inl (h1 Z m μ H x y u v Q Q' M rx ry h k)
  · exact .inr (h2 Z m μ H x y u v Q Q' M rx ry h k)
/-- + of ints or lists, * of ints or a list and an int -/
def fPlus : F2
  | .int i, .int j, μ, Q => Q (.int (i + j)) μ
  | .lst a, .lst b, μ, Q => a.length + b.length ≤ sizeLine ∧ Q (.lst (a ++ b)) μ
  | _, _, _, _ => False
def fTimes : F2
  | .int i, .int j, μ, Q => CM i j ∧ Q (.int (i * j)) μ
  | .lst a, .int n, μ, Q => -(2 ^ 63) ≤ n ∧ n < 2 ^ 63 ∧ a.length * n.toNat ≤ sizeLine ∧ Q (.lst (List.replicate n.toNat a).flatten) μ
  | _, _, _, _ => False
theorem S2.imp {G : Gx} {r : R2} {f g : F2} (h : S2 G r f) (k : ∀ x y μ Q, g x y μ Q → f x y μ Q) : S2 G r g := fun Z m μ H x y u v Q Q' M rx ry q kk => h Z m μ H x y u v Q Q' M rx ry (k _ _ _ _ q) kk
theorem s2_plus {G : Gx} : S2 G (fun x y H Q => rI0 (fun i j => .int (i + j)) x y H Q ∨ rCat x y H Q) fPlus := (s2_or s2_II0 s2_cat).imp fun x y μ Q h => by
  unfold fPlus at h
  split at h
  · exact .inl h
  · exact .inr h
  · exact h.elim
theorem s2_times {G : Gx} : S2 G (fun x y H Q => rI CM (fun i j => .int (i * j)) x y H Q ∨ rRep x y H Q) fTimes := (s2_or s2_II s2_rep).imp fun x y μ Q h => by
  unfold fTimes at h
  split at h
  · exact .inl h
  · exact .inr h
  · exact h.elim
section
variable {ex : Option (Addr × Addr × Addr)} {W : WX} {X : Cx} {a b : Expr} {wa wb : WE} {pos : Pos}
theorem de_plus (ha : DE ex W X a wa) (hb : DE ex W X b wb) : DE ex W X (.BinOp a .Add b pos) (w2 fPlus wa wb) := de_op (op_add.or op_cat) s2_plus ha hb
theorem de_times (ha : DE ex W X a wa) (hb : DE ex W X b wb) : DE ex W X (.BinOp a .Mult b pos) (w2 fTimes wa wb) := de_op (op_mulU.or op_rep) s2_times ha hb
end
/-! ### the end: the law's def at the script -/
theorem mu_none {G : Gx} {H : Hp} : MuOk G (fun _ => False) [] [] H := ⟨rfl, by simp, fun a h => by simp at h, fun z h => h.elim, fun n c a h _ => by simp at h⟩
theorem vis_none_all {H : Hp} : vis (fun _ => False) [] H = H := by
  funext b
  unfold vis
  rw [if_neg (by simp)]
theorem sp_start {K : PySem.W.Frag} {mg : Str → Option Value} {sp : DSp} {H : Hp} {a : Addr} {ns : List Int} (hS : SqL K H a (ns.map V.int)) (h : sp [.frl (ns.map D.int)] [] (fun d _ => d = .bl true) xF) :
    toSp ⟨K, mg, none⟩ sp [.ref a] H (fun v _ => v = .bl true) fun _ _ _ => False := by
  refine ⟨fun _ => False, [], [], _, _, _, mu_none, ?_, h, fun v H' P => ?_, fun cls d H' P => xpF P⟩
  · rw [vis_none_all]
    refine Reps.cons ?_ Reps.nil
    rw [Rep]
    exact ⟨a, _, rfl, hS, reps_ints ns⟩
  · obtain ⟨m', d, μ', s, r, rfl⟩ := P
    rw [Rep] at r
    exact r
theorem call_at {P : Program} {w : World} {K : PySem.W.Frag} {mg bm : Str → Option Value} {k : Nat} {fa sc : Addr} {fd : FuncData} {x : Str} {sp : Sp} {s1 : Shared} {vs : List Value} {ns : List Int}
    (kin : K.In s1.heap) (gl : s1.heap.Ns mainGlobals mg) (bl : s1.heap.Ns builtinsNs bm) (bb : ∀ y : Str, y ≠ "__name__" → bm y = bootBuiltins y) (nolim : s1.heap.NoLimit) (gens : s1.gens = #[])
    (at_ : s1.heap.get? sc = some { cls := .type "list", data := .seq vs.toArray }) (iv : IntsAre vs ns) (few : ns.length ≤ sizeLine) (room : Room k callerA)
    (F : ∀ base : Heap, K.In base → base.Ns mainGlobals mg → FnG P w K mg base k fa fd [x] sp) (bind : ∀ (s : Shared) (u : Value), BindsTo s fd ⟨[u], []⟩ [(x, u)])
    (holds : ∀ H : Hp, SqL K H sc (ns.map V.int) → sp [.ref sc] H (fun v _ => v = .bl true) fun _ _ _ => False) :
    codeAny (model P w) callerA (.call (.ref fa) ⟨[.ref sc], []⟩) (fun r s' => r = .ok (.ret (.bool true)) ∧ OldK s1.heap s'.heap ∧ s'.os = s1.os ∧ AllBare s'.gens) s1 := by
  have lenI := iv.length
  have main : ∀ H : Hp, (∀ b, H b = none ∨ ∃ o xs, H b = some (.frz o (.lst xs))) → SqL K H sc (ns.map V.int) → HOk P w H s1.heap → (∀ b, H b ≠ none → b = sc) → (H sc ≠ none → K.lookup sc = none) →
      codeAny (model P w) callerA (.call (.ref fa) ⟨[.ref sc], []⟩) (fun r s' => r = .ok (.ret (.bool true)) ∧ OldK s1.heap s'.heap ∧ s'.os = s1.os ∧ AllBare s'.gens) s1 := by
    intro H frz isL hok alone free
    have none_of : ∀ {b : Addr}, b ≠ sc → H b = none := fun {b} nb => by
      cases z : H b with
      | none => rfl
      | some u => exact absurd (alone b (by rw [z]; simp)) nb
    have seen : ∀ {b : Addr} {o : Obj}, s1.heap.get? b = some o → H b = none → (hidT s1.heap H).get? b = some o := fun e n => hidT_get e n
    have notSc : ∀ {b : Addr} {o : Obj} {es : Array DictEntry} {ep : Nat}, s1.heap.get? b = some o → o.data = .dict es ep → b ≠ sc := fun {b o es ep} e d z => by
      subst z
      rw [at_] at e
      cases e
      cases (show Data.seq vs.toArray _ = Data.dict es ep from d)
    have names : ∀ {b : Addr} {m : Str → Option Value}, s1.heap.Ns b m → (hidT s1.heap H).Ns b m := fun {b m} hn => by
      obtain ⟨o, es, ep, e, d, r⟩ := hn
      exact ⟨o, es, ep, seen e (none_of (notSc e d)), d, r⟩
    have inB : K.In (hidT s1.heap H) := fun b o e => seen (kin b o e) (by
      cases z : H b with
      | none => rfl
      | some u =>
        have eb := alone b (by rw [z]; simp)
        subst eb
        rw [free (by rw [z]; simp)] at e
        cases e)
    obtain ⟨lm, l1, l2⟩ := nolim
    have md : Mod K mg (hidT s1.heap H) := ⟨inB, names gl, ⟨bm, names bl, bb⟩, ⟨lm, names l1, l2⟩⟩
    have env : Env0 P w K mg (hidT s1.heap H) callerA [] s1 H := ⟨rfl, md, fun b o e => of_hidT e, Nat.le_of_eq (hidT_size _ _), trivial, fun b hb => by simp [frs] at hb, hok, .of_eq gens⟩
    refine codeAny_mono ((F _ inB (names gl)).run callerA [] s1 H ⟨[.ref sc], []⟩ [.ref sc] [.ref sc] _ _ room rfl env (bind s1 (.ref sc)) (.cons rfl .nil) (holds H isL)) fun res s2 out => ?_
    match res, out with
    | .error er, out =>
      obtain ⟨_, _, _, _, _, _, _, _, _, _, _, _, z⟩ := out
      exact z.elim
    | .ok (.ret u), out =>
      obtain ⟨v, H', os, bare, un, hok', rv, ev⟩ := out
      have ev' : v = .bl true := ev
      subst ev'
      obtain rfl : u = Value.bool true := rv
      refine ⟨rfl, OldK.of_keep fun b o e => ?_, os, bare⟩
      rcases frz b with z | ⟨ob, xs, z⟩
      · exact un.keep b o e z (by simp [frs]) (by simp)
      · obtain ⟨e1, _⟩ := hok b _ z
        obtain ⟨e2, _⟩ := hok' b _ (un.frzs b ob _ z)
        rw [e] at e1
        cases e1
        exact e2
  cases hk : K.lookup sc with
  | some o =>
    have e := kin sc o hk
    rw [at_] at e
    cases e
    have isL : SqL K (fun _ => none) sc (ns.map V.int) := .inr ⟨_, vs.toArray, _, hk, rfl, rfl, rfl, by rw [List.size_toArray, lenI]; exact few, by simpa using vals_ints iv⟩
    exact main (fun _ => none) (fun _ => .inl rfl) isL (fun b u z => nomatch z) (fun b z => absurd rfl z) (fun z => absurd rfl z)
  | none =>
    obtain ⟨HH, eq1, eq2⟩ : ∃ HH : Hp, (∀ b, b = sc → HH b = some (.frz { cls := .type "list", data := .seq vs.toArray } (.lst (ns.map V.int)))) ∧ ∀ b, b ≠ sc → HH b = none :=
      ⟨fun b => if b = sc then some (.frz { cls := .type "list", data := .seq vs.toArray } (.lst (ns.map V.int))) else none, fun b hb => if_pos hb, fun b hb => if_neg hb⟩
    refine main HH (fun b => ?_) (.inl (.inr ⟨_, eq1 sc rfl⟩)) (fun b u z => ?_) (fun b z => ?_) fun _ => hk
    · by_cases hb : b = sc
      · exact .inr ⟨_, _, eq1 b hb⟩
      · exact .inl (eq2 b hb)
    · by_cases hb : b = sc
      · rw [eq1 b hb] at z
        cases z
        subst hb
        exact ⟨at_, by rw [List.length_map]; exact few, vs, _, vals_ints iv, at_⟩
      · rw [eq2 b hb] at z
        cases z
    · by_cases hb : b = sc
      · exact hb
      · exact absurd (eq2 b hb) z
/-- the goal that the head leaves, from the promise of the law's def -/
theorem walk_ofD {l : PySem.W.OpenLaw} {n k : Nat} {q : Program} {loose : List Str} {XP : (Str → Option Value) → Heap → Prop} {YP : World → Heap → Prop} {d : DefRec} {x : Str} {sp : DSp}
    (most : l.most = some n) (small : n ≤ sizeLine) (nodef : d.params.defaults = []) (room : Room k callerA)
    (F : ∀ (w : World) (mg : Str → Option Value) (fa : Addr) (h : Heap), YP w h → h.Ns mainGlobals mg → mg d.name = some (.ref fa) →
      ∃ (K : PySem.W.Frag) (fd : FuncData), K.In h ∧ (∀ (s : Shared) (u : Value), BindsTo s fd ⟨[u], []⟩ [(x, u)]) ∧ ∀ base : Heap, K.In base → base.Ns mainGlobals mg → FnG l.prog w K mg base k fa fd [x] (toSp ⟨K, mg, none⟩ sp))
    (holds : ∀ ns : List Int, ns.length ≤ n → sp [.frl (ns.map D.int)] [] (fun d _ => d = .bl true) xF) : PySem.W.WalkO q loose XP YP l.row.toRowW d [] (fun f vs => PySem.call f vs) := by
  refine Att.attach_call most nodef fun w s0 s1 mg bm fa o pm cd doc a vs ns G Y ho hd hcd hmg hobj hints hlen hgens => ?_
  obtain ⟨K, fd, kin, bind, hF⟩ := F w mg fa _ Y G.T.g hmg
  exact call_at kin G.T.g G.T.b G.T.builtins G.T.nolimit hgens hobj hints (Nat.le_trans hlen small) room hF bind fun H hS => sp_start hS (holds ns hlen)
end DL

set_option Elab.async false
set_option linter.all false
set_option maxRecDepth 100000
set_option maxHeartbeats 4000000
set_option autoImplicit false
namespace DL
open PySem PySem.Spec PyProof.Rows L2
/-! ### isinstance by a table -/
abbrev IsiL := List ((TyN × TyN) × Bool)
def isiF (L : IsiL) (t u : TyN) : Option Bool := (L.find? fun e => decide (e.1 = (t, u))).map (·.2)
def tvK (K : PySem.W.Frag) : TyN → Value
  | .b n => .type n
  | .c c => .ref (He.ga K c)
def insB (K : PySem.W.Frag) (c : Str) : Bool := (He.Fa.cls c).ok K && (He.eqO (PySem.W.findIn K (.ref (He.ga K c)) "__class__") (some (some (.builtin "object.__class__"))) && (He.eqO (PySem.W.specialIn K (.builtin "object.__class__") "__get__") (some (some (.builtin "getset_descriptor.__get__"))) &&
  (decide (PySem.W.takesIn K (.builtin "object.__class__") = some true) && decide (PySem.W.mroIn K (He.ga K c) (.type "object") = some true))))
theorem insB_ok {K : PySem.W.Frag} {c : Str} (h : insB K c = true) : InsT K (He.ga K c) := by
  obtain ⟨h1, h⟩ := He.ba h
  obtain ⟨h2, h⟩ := He.ba h
  obtain ⟨h3, h⟩ := He.ba h
  obtain ⟨h4, h5⟩ := He.ba h
  exact ⟨He.cls_ok h1, He.eqO_ok h2, He.eqO_ok h3, of_decide_eq_true h4, of_decide_eq_true h5⟩
def tyB (K : PySem.W.Frag) : TyN → Bool
  | .b _ => true
  | .c c => (He.Fa.glo c).ok K && insB K c
def clB (K : PySem.W.Frag) : TyN → Bool
  | .b _ => true
  | .c c => (He.Fa.glo c).ok K
def isiB (L : IsiL) (K : PySem.W.Frag) : Bool := L.all fun e => tyB K e.1.1 && (clB K e.1.2 && decide (PySem.W.kitOne K (tvK K e.1.1) (tvK K e.1.2) = some e.2))
section
variable {K : PySem.W.Frag} {h : Heap} {mg : Str → Option Value} (X : K.In h) (G : h.Ns mainGlobals mg)
include X G
theorem tv_of {t : TyN} {v : Value} {ex : Option (Addr × Addr × Addr)} (c : clB K t = true) (hv : TyVal ⟨K, mg, ex⟩ t v) : v = tvK K t := by
  cases t with
  | b n => exact hv
  | c c0 =>
    obtain ⟨C, h1, rfl⟩ := hv
    have h1' : mg c0 = some (.ref C) := h1
    rw [He.glo_ok X G c] at h1'
    cases h1'
    rfl
theorem isiTab_of {L : IsiL} {ex : Option (Addr × Addr × Addr)} (c : isiB L K = true) : IsiTab ⟨K, mg, ex⟩ (isiF L) := by
  have get : ∀ {t u b}, isiF L t u = some b → tyB K t = true ∧ clB K u = true ∧ PySem.W.kitOne K (tvK K t) (tvK K u) = some b := fun {t u b} e => by
    unfold isiF at e
    obtain ⟨z, e1, e2⟩ := Option.map_eq_some_iff.mp e
    have m := List.mem_of_find?_eq_some e1
    have p : z.1 = (t, u) := by
      have q := List.find?_some e1
      exact of_decide_eq_true q
    obtain ⟨zz, bb⟩ := z
    cases p
    cases e2
    have q := List.all_eq_true.mp c _ m
    obtain ⟨q1, q⟩ := He.ba q
    obtain ⟨q2, q3⟩ := He.ba q
    exact ⟨q1, q2, of_decide_eq_true q3⟩
  have lo : ∀ {t}, tyB K t = true → clB K t = true := fun {t} e => by
    cases t with
    | b n => rfl
    | c c0 => exact (He.ba e).1
  refine ⟨fun t u b e tv uv ht hu => ?_, fun c0 u b e C g => ?_⟩
  · obtain ⟨q1, q2, q3⟩ := get e
    rw [tv_of X G (lo q1) ht, tv_of X G q2 hu]
    exact q3
  · obtain ⟨q1, _, _⟩ := get e
    obtain ⟨q2, q4⟩ := He.ba q1
    have g' : mg c0 = some (.ref C) := g
    rw [He.glo_ok X G q2] at g'
    cases g'
    exact insB_ok q4
end
/-! ### own operators -/
/-! ### names, compared -/
theorem str_iff (a b : String) : Str.ofString a = Str.ofString b ↔ a = b := by
  constructor
  · intro h
    rw [Str.ofString_eq_toList, Str.ofString_eq_toList] at h
    have h1 := congrArg (fun z : Str => z.cps.toList) h
    have h2 : a.toList.map Char.toNat = b.toList.map Char.toNat := by simpa using h1
    have inj : ∀ {l k : List Char}, l.map Char.toNat = k.map Char.toNat → l = k := by
      intro l
      induction l with
      | nil => intro k e; cases k with
        | nil => rfl
        | cons c k => cases e
      | cons c l ih => intro k e; cases k with
        | nil => cases e
        | cons d k =>
          rw [List.map_cons, List.map_cons] at e
          injection e with e1 e2
          have : c = d := Char.ext (UInt32.toNat.inj e1)
          rw [this, ih e2]
    exact String.toList_inj.mp (inj h2)
  · intro h; rw [h]
theorem str_eq (a b : String) : (Str.ofString a = Str.ofString b) = (a = b) := propext (str_iff a b)
theorem str_beq (a b : String) : (Str.ofString a == Str.ofString b) = decide (a = b) := by
  by_cases h : a = b
  · subst h; simp
  · rw [decide_eq_false h]
    exact beq_eq_false_iff_ne.mpr fun e => h ((str_iff a b).mp e)
/-! ### boot -/
theorem bt_int : bootBuiltins "int" = some (.type "int") := by decide +kernel
theorem bt_bool : bootBuiltins "bool" = some (.type "bool") := by decide +kernel
theorem bt_tuple : bootBuiltins "tuple" = some (.type "tuple") := by decide +kernel
theorem bt_list : bootBuiltins "list" = some (.type "list") := by decide +kernel
theorem bt_len : bootBuiltins "len" = some (.builtin "len") := by decide +kernel
theorem bt_abs : bootBuiltins "abs" = some (.builtin "abs") := by decide +kernel
theorem bt_max : bootBuiltins "max" = some (.builtin "max") := by decide +kernel
theorem bt_min : bootBuiltins "min" = some (.builtin "min") := by decide +kernel
theorem bt_sorted : bootBuiltins "sorted" = some (.builtin "sorted") := by decide +kernel
theorem bt_isinstance : bootBuiltins "isinstance" = some (.builtin "isinstance") := by decide +kernel
theorem bt_all : bootBuiltins "all" = some (.builtin "all") := by decide +kernel
end DL

set_option Elab.async false
set_option linter.all false
set_option maxRecDepth 100000
set_option maxHeartbeats 4000000
set_option autoImplicit false
namespace DL
open PySem PySem.Spec PyProof.Rows L2
/-! ### exceptions of the text: raised -/
structure RaiseD (P : Program) (w : World) (K : PySem.W.Frag) (mg : Str → Option Value) (base : Heap) (k : Nat) (c : Str) (ks : List Str) : Prop where
  ex : ∃ C fI fd ps sp, mg c = some (.ref C) ∧ OexC K C ∧ PySem.W.findIn K (.ref C) "__init__" = some (some (.ref fI)) ∧ PySem.W.typeIn K (.ref fI) = some (.type "function") ∧ Binds K fd ps [] ∧ FnOk P w K mg base CX0 k fI fd ps sp ∧
    ∀ a ws H Q E, ws.length = ks.length → H a = some (exo a C none) → (∀ d H2, H d = none → d ≠ a → H2 a = some (exo a C (some d)) → H2 d = some (exd d (ks.zip ws).reverse) → (∀ b, b ≠ a → b ≠ d → H2 b = H b) → Q .non H2) → sp (.ref a :: ws) H Q E
def sRaise (c : Str) (ks : List Str) (wa : WA) : WS := fun E ρ μ => wa ρ μ (fun ds μ1 => ds.length ≤ 1000 ∧ ds.length = ks.length ∧ E.xc c ks.reverse ds.reverse ρ μ1) fun c ks es μ' => E.xc c ks es ρ μ'
theorem zip_reverse {α β : Type} : ∀ (xs : List α) (ys : List β), xs.length = ys.length → (xs.zip ys).reverse = xs.reverse.zip ys.reverse := by
  intro xs ys h
  rw [List.zip_eq_zipWith, List.zip_eq_zipWith]
  exact List.reverse_zipWith h
section
variable {W : WX} {X : Cx} {e : Expr} {es : List Expr} {ws : WA} {p pos pos' : Pos} {k j : Nat} {c : Str} {ks : List Str}
theorem ds_raiseD (R : RaiseD X.prog X.w X.K X.mg X.base k c ks) (hc : X.calm = true) (hr : Room j X.A) (hkj : k + 1 ≤ j) (hg : Gl X c) (tk : Takes X W) (ha : DA none W X (e :: es) ws) (hdb : (c == ("__debug__" : Str)) = false := by decide)
    (he : starEach (e :: es) X.env = (false, eval e X.env) :: starEach es X.env := by rfl) (hpl : (backTo pos (starEach es X.env)).any (·.1) = false := by rfl) :
    DSt none W X (.Raise (some (.Call (.Name c p) (e :: es) [] pos)) none pos') (sRaise c ks ws) := by
  obtain ⟨C, fI, fd, ps, sp, hm, T, hi, hf, hb, F, hsp⟩ := R.ex
  have mk := pmk_oex (ta := liftA (gx X none) W ws) (p := p) (pos := pos) T hi hf F (hr.mono hkj) hb .nil pass0 hg hm ha hdb he hpl
  refine ps_weak (ps_raise hc tk mk) fun De σ H q => ?_
  obtain ⟨Z, m, ρ, μ, E, S, q, kn, kr, kb, kc, kx⟩ := q
  refine ⟨Z, m, ρ, μ, _, _, S, q, fun vs H1 P => ?_, fun cls d H' P => kx cls d σ H' (XSPost.of S P)⟩
  obtain ⟨m1, ds, μ1, s1, r1, hl, hn, q1⟩ := P
  refine ⟨by rw [← r1.len]; exact hl, fun a na => ?_⟩
  rw [List.append_nil]
  have lv : vs.length = ks.length := by rw [← r1.len]; exact hn
  refine hsp a vs _ _ _ lv upd_same fun d H2 nd ne ha2 hd2 hold => ⟨rfl, d, _, ha2, hd2, ?_, ?_⟩
  · rw [upd_ne ne] at nd; exact nd
  · rw [upd_ne ne] at nd
    have same : upd (del H2 a) d (.xd (ks.zip vs).reverse) = upd H1 d (.xd (ks.zip vs).reverse) := by
      funext b
      by_cases hb : b = d
      · subst hb; rw [upd_same, upd_same]
      · rw [upd_ne hb, upd_ne hb]
        by_cases hba : b = a
        · subst hba; rw [del_same, na]
        · rw [del_ne hba, hold b hba hb, upd_ne hba]
    rw [same]
    have s2 := Step.laid (o := .xd (ks.zip vs).reverse) s1.mu nd
    have s12 := s1.trans s2
    refine kx _ _ σ _ (XSPost.from (SStep.of s12) ?_)
    refine ⟨m1, c, ks.reverse, ds.reverse, ρ, μ1, C, d, vs.reverse, S.step s12, .refl, rfl, rfl, hm, ?_, by rw [List.length_reverse, List.length_reverse]; exact hn.symm, ?_, q1⟩
    · rw [vis_upd s1.mu nd, upd_same, zip_reverse ks vs lv.symm]
    · exact Reps.reverse (Reps.mono s2.pre s2.same _ _ r1)
end
/-! the __init__ of an exception: one attribute, two -/
theorem raise1 {P : Program} {w : World} {K : PySem.W.Frag} {mg : Str → Option Value} {base : Heap} {c f x y qual : Str} {params : Arguments} {scope : Scope} {C fI : Addr} {fd : FuncData} {body : List Stmt}
    (hm : mg c = some (.ref C)) (T : OexC K C) (hno : PySem.W.findIn K (.ref C) f = some none) (hi : PySem.W.findIn K (.ref C) "__init__" = some (some (.ref fI))) (hf : PySem.W.typeIn K (.ref fI) = some (.type "function"))
    (F : FunD K "__init__" qual params body scope [] [] fI fd) (S : FnScope [x, y] [x, y] scope) (hb : Binds K fd [x, y] [])
    (hd : ∀ (cdv : Value) (A : Around) (fr : List Env) (s : Shared) (H : Hp) (E : XK), PSs (cxOf CX0 P w K mg base [x, y] qual scope fI cdv A fr s H E) body (tOst K f (tVar 0) (tVar 1))) : RaiseD P w K mg base 1 c [f] := by
  refine ⟨C, fI, fd, [x, y], fun vs H Q E => ∃ a v, vs = [.ref a, v] ∧ H a = some (exo a C none) ∧ ∀ dx, H dx = none → dx ≠ a → Q .non (upd (upd H dx (exd dx [(f, v)])) a (exo a C (some dx))), hm, T, hi, hf, hb, ?_, ?_⟩
  · refine F.ok S (fun vs H Q E h => ?_) (fun cdv A fr s H vs Q E hr h => ⟨tOst K f (tVar 0) (tVar 1), ?_, ?_⟩)
    · obtain ⟨a, v, rfl, _⟩ := h
      rfl
    · exact hd _ _ _ _ _ _
    · obtain ⟨a, v, rfl, ea, hq⟩ := h
      refine ⟨v, rfl, .ref a, rfl, a, C, rfl, T, hno, .inl ⟨ea, hq⟩⟩
  · intro a ws H Q E hl ea h
    match ws, hl with
    | [v], _ =>
      refine ⟨a, v, rfl, ea, fun dx nd ne => h dx _ nd ne upd_same ?_ fun b hba hbd => ?_⟩
      · rw [upd_ne ne, upd_same]; rfl
      · rw [upd_ne hba, upd_ne hbd]
theorem raise2 {P : Program} {w : World} {K : PySem.W.Frag} {mg : Str → Option Value} {base : Heap} {c f g x y z qual : Str} {params : Arguments} {scope : Scope} {C fI : Addr} {fd : FuncData} {body : List Stmt}
    (hm : mg c = some (.ref C)) (T : OexC K C) (hno : PySem.W.findIn K (.ref C) f = some none) (hno2 : PySem.W.findIn K (.ref C) g = some none) (hi : PySem.W.findIn K (.ref C) "__init__" = some (some (.ref fI))) (hf : PySem.W.typeIn K (.ref fI) = some (.type "function"))
    (F : FunD K "__init__" qual params body scope [] [] fI fd) (S : FnScope [x, y, z] [x, y, z] scope) (hb : Binds K fd [x, y, z] [])
    (hd : ∀ (cdv : Value) (A : Around) (fr : List Env) (s : Shared) (H : Hp) (E : XK), PSs (cxOf CX0 P w K mg base [x, y, z] qual scope fI cdv A fr s H E) body (tSeq (tOst K f (tVar 0) (tVar 1)) (tOst K g (tVar 0) (tVar 2)))) : RaiseD P w K mg base 1 c [f, g] := by
  refine ⟨C, fI, fd, [x, y, z], fun vs H Q E => ∃ a v u, vs = [.ref a, v, u] ∧ H a = some (exo a C none) ∧ ∀ dx, H dx = none → dx ≠ a → Q .non (upd (upd (upd H dx (exd dx [(f, v)])) a (exo a C (some dx))) dx (exd dx [(g, u), (f, v)])), hm, T, hi, hf, hb, ?_, ?_⟩
  · refine F.ok S (fun vs H Q E h => ?_) (fun cdv A fr s H vs Q E hr h => ⟨tSeq (tOst K f (tVar 0) (tVar 1)) (tOst K g (tVar 0) (tVar 2)), ?_, ?_⟩)
    · obtain ⟨a, v, u, rfl, _⟩ := h
      rfl
    · exact hd _ _ _ _ _ _
    · obtain ⟨a, v, u, rfl, ea, hq⟩ := h
      refine ⟨v, rfl, .ref a, rfl, a, C, rfl, T, hno, .inl ⟨ea, fun dx nd ne => ?_⟩⟩
      refine ⟨u, rfl, .ref a, rfl, a, C, rfl, T, hno2, .inr ⟨dx, [(f, v)], upd_same, by rw [upd_ne ne, upd_same], by simp, hq dx nd ne⟩⟩
  · intro a ws H Q E hl ea h
    match ws, hl with
    | [v, u], _ =>
      refine ⟨a, v, u, rfl, ea, fun dx nd ne => h dx _ nd ne ?_ ?_ fun b hba hbd => ?_⟩
      · rw [upd_ne (Ne.symm ne), upd_same]
      · rw [upd_same]; rfl
      · rw [upd_ne hbd, upd_ne hba, upd_ne hbd]
end DL

set_option Elab.async false
set_option linter.all false
set_option maxRecDepth 100000
set_option maxHeartbeats 4000000
set_option autoImplicit false
namespace DL
open PySem PySem.Spec PyProof.Rows L2
/-! ### what does not hang on the caught exception -/
mutual
theorem Rep.ex {K : PySem.W.Frag} {mg : Str → Option Value} {e1 e2 : Option (Addr × Addr × Addr)} {m : List Addr} {E : Hp} : ∀ (d : D) (v : V), Rep ⟨K, mg, e1⟩ m E d v → Rep ⟨K, mg, e2⟩ m E d v
  | .non, v, r => by rw [Rep] at r ⊢; exact r
  | .bl b, v, r => by rw [Rep] at r ⊢; exact r
  | .int i, v, r => by rw [Rep] at r ⊢; exact r
  | .str s, v, r => by rw [Rep] at r ⊢; exact r
  | .ty n, v, r => by rw [Rep] at r ⊢; exact r
  | .cls c, v, r => by rw [Rep] at r ⊢; exact r
  | .tup ds, v, r => by
    rw [Rep] at r ⊢
    obtain ⟨a, vs, e, s, q⟩ := r
    exact ⟨a, vs, e, s, Reps.ex ds vs q⟩
  | .lst ds, v, r => by
    rw [Rep] at r ⊢
    obtain ⟨a, vs, e, s, q⟩ := r
    exact ⟨a, vs, e, s, Reps.ex ds vs q⟩
  | .frl ds, v, r => by
    rw [Rep] at r ⊢
    obtain ⟨a, vs, e, s, q⟩ := r
    exact ⟨a, vs, e, s, Reps.ex ds vs q⟩
  | .obj c ks ds, v, r => by
    rw [Rep] at r ⊢
    obtain ⟨a, C, dx, vs, e, g, s, l, q⟩ := r
    exact ⟨a, C, dx, vs, e, g, s, l, Reps.ex ds vs q⟩
  | .loc n, v, r => by rw [Rep] at r ⊢; exact r
  | .opq o, v, r => by rw [Rep] at r ⊢; exact r
theorem Reps.ex {K : PySem.W.Frag} {mg : Str → Option Value} {e1 e2 : Option (Addr × Addr × Addr)} {m : List Addr} {E : Hp} : ∀ (ds : List D) (vs : List V), Reps ⟨K, mg, e1⟩ m E ds vs → Reps ⟨K, mg, e2⟩ m E ds vs
  | [], vs, r => by rw [Reps] at r ⊢; exact r
  | d :: ds, vs, r => by
    rw [Reps] at r ⊢
    obtain ⟨v, t, e, s, q⟩ := r
    exact ⟨v, t, e, Rep.ex d v s, Reps.ex ds t q⟩
end
section
variable {K : PySem.W.Frag} {mg : Str → Option Value} {e1 e2 : Option (Addr × Addr × Addr)} {Z : Addr → Prop} {m : List Addr} {μ : Mu} {H E : Hp} {σ : L2.St} {ρ : DS}
theorem CellOk.ex {c : Cell} {a : Addr} (h : CellOk ⟨K, mg, e1⟩ m E H c a) : CellOk ⟨K, mg, e2⟩ m E H c a := by
  cases c with
  | lst ds =>
    obtain ⟨vs, h1, h2⟩ := h
    exact ⟨vs, h1, Reps.ex _ _ h2⟩
  | ins c ks ds =>
    obtain ⟨C, dx, vs, h0, h1, hl, h2⟩ := h
    exact ⟨C, dx, vs, h0, h1, hl, Reps.ex _ _ h2⟩
  | pool => exact h
  | dct kvs => exact h
  | dic ks ds =>
    obtain ⟨vs, h1, hl, h2⟩ := h
    exact ⟨vs, h1, hl, Reps.ex _ _ h2⟩
theorem MuOk.ex (M : MuOk ⟨K, mg, e1⟩ Z m μ H) : MuOk ⟨K, mg, e2⟩ Z m μ H := ⟨M.len, M.nd, M.out, M.hw, fun n c a h1 h2 => (M.cell n c a h1 h2).ex⟩
/-- no slot holds an exception -/
def noExn (ρ : DS) : Bool := ρ.all fun s => match s with
  | .exn _ _ _ => false
  | _ => true
theorem SR.ex (S : SR ⟨K, mg, e1⟩ Z m σ H ρ μ) (hx : ∀ (i : Nat) c ks ds, ρ[i]? ≠ some (Sl.exn c ks ds)) : SR ⟨K, mg, e2⟩ Z m σ H ρ μ := by
  refine ⟨S.len, S.mu.ex, fun i d e => ?_, fun i a c e => ?_, S.dis, fun i c ks ds e => absurd e (hx i c ks ds)⟩
  · obtain ⟨v, h1, h2⟩ := S.val i d e
    exact ⟨v, h1, Rep.ex _ _ h2⟩
  · obtain ⟨h1, h2, h3⟩ := S.own i a c e
    exact ⟨h1, h2, h3.ex⟩
end
/-! ### try: .. except C as e: .. -/
def exOf (a : Addr) (cls : Value) (d : Option Addr) : Option (Addr × Addr × Addr) := match cls, d with
  | .ref C, some dd => some (a, C, dd)
  | _, _ => none
def suiteE (i : Nat) (E : DEnds) : DEnds := { nx := fun ρ2 μ2 => noExn (ρ2.set i .no) = true ∧ E.nx (ρ2.set i .no) μ2, rt := E.rt, bk := fun ρ2 μ2 => noExn (ρ2.set i .no) = true ∧ E.bk (ρ2.set i .no) μ2, ct := fun ρ2 μ2 => noExn (ρ2.set i .no) = true ∧ E.ct (ρ2.set i .no) μ2 }
def caught (mt : Str → Option Bool) (i : Nat) (wsu : WS) (E : DEnds) : XS := fun c ks es ρ' μ' => match mt c with
  | some true => wsu (suiteE i E) (ρ'.set i (.exn c ks es)) μ'
  | some false => E.xc c ks es ρ' μ'
  | none => False
def sTry (mt : Str → Option Bool) (i : Nat) (wb wsu : WS) : WS := fun E ρ μ => wb { E with xc := caught mt i wsu E } ρ μ
section
variable {W : WX} {X : Cx} {x n : Str} {cv : Value} {i : Nat} {body suite : List Stmt} {b0 : Stmt} {np pos pos' : Pos} {wb wsu : WS} {mt : Str → Option Bool}
end
/-! in the suite: e.f, isinstance(e, C) -/
def KExn (o : Option Sl) (k : Str → List Str → List D → Prop) : Prop := match o with
  | some (.exn c ks ds) => k c ks ds
  | _ => False
def getX (cs : List Str) (f : Str) (Q : D → Prop) : Str → List Str → List D → Prop := fun c ks ds => c ∈ cs ∧ match fldOf f ks ds with
  | some d => Q d
  | none => False
def wXf (cs : List Str) (i : Nat) (f : Str) : WE := fun ρ μ Q _ => KExn (ρ[i]?) (getX cs f fun d => Q d μ)
def wIsE (f : TyN → TyN → Option Bool) (i : Nat) (cn : Str) : WE := fun ρ μ Q _ => KExn (ρ[i]?) fun c _ _ => match f (.c c) (.c cn) with
  | some b => Q (.bl b) μ
  | none => False
/-- isinstance of caught exceptions: by a table -/
structure IsxTab (K : PySem.W.Frag) (mg : Str → Option Value) (f : TyN → TyN → Option Bool) : Prop where
  ok : ∀ c u b, f (.c c) (.c u) = some b → ∀ C U, mg c = some (.ref C) → mg u = some (.ref U) → ExcC K C ∧ PySem.W.kitOne K (.ref C) (.ref U) = some b
section
variable {X : Cx} {a : Addr} {oe : Obj} {cls : Value} {d : Option Addr} {pn : List (Addr × Obj)} {pos p1 p2 p3 : Pos} {x n cn : Str} {i : Nat} {cs : List Str}
end
end DL

set_option Elab.async false
set_option linter.all false
set_option maxRecDepth 100000
set_option maxHeartbeats 4000000
set_option autoImplicit false
namespace DL
open PySem PySem.Spec PyProof.Rows L2
/-! ### repr -/
end DL

set_option Elab.async false
set_option linter.all false
set_option maxRecDepth 100000
set_option maxHeartbeats 4000000
set_option autoImplicit false
namespace DL
open PySem PySem.Spec PyProof.Rows L2
/-! ### what the head tells of exceptions -/
def oexB (K : PySem.W.Frag) (C : Addr) : Bool := (match K.lookup C with
  | some ⟨.type "type", _, .cls cd, sl⟩ => (match cd.mro, sl.toList with
    | .ref C' :: bm, [_, _, _, _, some (.builtin n), _] => decide (C' = C) && (decide (n = "ValueError.__new__") && (cd.hasDict && (!cd.hasDel && PySem.HandSPX.refsVE bm)))
    | _, _ => false)
  | _ => false) && (He.eqO (PySem.W.findIn K (.ref C) "__setattr__") (some (some (.builtin "object.__setattr__"))) && (decide (PySem.W.subIn K (.ref C) (.type "BaseException") = some true) && (decide (PySem.W.typeIn K (.ref C) = some (.type "type")) && PySem.W.keepIn K (.ref C))))
theorem oexB_ok {K : PySem.W.Frag} {C : Addr} (h : oexB K C = true) : OexC K C := by
  obtain ⟨h1, h⟩ := He.ba h
  obtain ⟨h2, h⟩ := He.ba h
  obtain ⟨h3, h⟩ := He.ba h
  obtain ⟨h4, h5⟩ := He.ba h
  refine ⟨?_, He.eqO_ok h2, of_decide_eq_true h3, of_decide_eq_true h4, h5⟩
  split at h1
  · rename_i dd cd sl ho
    split at h1
    · rename_i C' bm k0 k1 k2 k3 n k5 em es
      obtain ⟨g1, h1⟩ := He.ba h1
      obtain ⟨g2, h1⟩ := He.ba h1
      obtain ⟨g3, h1⟩ := He.ba h1
      obtain ⟨g4, g5⟩ := He.ba h1
      have g1 := of_decide_eq_true g1
      have g2 := of_decide_eq_true g2
      rw [Bool.not_eq_true'] at g4
      obtain ⟨nm, bs, mro, ns, qn, hd, sn, sub, ab, col, dl⟩ := cd
      dsimp only at em g3 g4
      subst em g1 g2 g3 g4
      have hsl : sl = #[k0, k1, k2, k3, some (.builtin "ValueError.__new__"), k5] := by
        obtain ⟨l⟩ := sl
        simp only at es
        rw [es]
      subst hsl
      exact ⟨nm, qn, ns, bs, bm, sn, sub, ab, col, dd, k0, k1, k2, k3, k5, ho, g5⟩
    · cases h1
  · cases h1
/-- an exception class with its __init__, which stores the attributes ks -/
def rxB (K : PySem.W.Frag) (c : Str) (ks : List Str) : Bool := (He.Fa.glo c).ok K && (oexB K (He.ga K c) && (He.eqO (PySem.W.findIn K (.ref (He.ga K c)) "__init__") (some (some (.ref (He.ma K (He.ga K c) "__init__")))) &&
  (decide (PySem.W.typeIn K (.ref (He.ma K (He.ga K c) "__init__")) = some (.type "function")) && ks.all fun f => He.eqO (PySem.W.findIn K (.ref (He.ga K c)) f) (some none))))
theorem rxB_ok {K : PySem.W.Frag} {c : Str} {ks : List Str} (h : rxB K c ks = true) : OexC K (He.ga K c) ∧ PySem.W.findIn K (.ref (He.ga K c)) "__init__" = some (some (.ref (He.fAd K (c, some "__init__")))) ∧
    PySem.W.typeIn K (.ref (He.fAd K (c, some "__init__"))) = some (.type "function") ∧ ∀ f ∈ ks, PySem.W.findIn K (.ref (He.ga K c)) f = some none := by
  obtain ⟨h1, h⟩ := He.ba h
  obtain ⟨h2, h⟩ := He.ba h
  obtain ⟨h3, h⟩ := He.ba h
  obtain ⟨h4, h5⟩ := He.ba h
  exact ⟨oexB_ok h2, He.eqO_ok h3, of_decide_eq_true h4, fun f hf => He.eqO_ok (List.all_eq_true.mp h5 f hf)⟩
section
variable {K : PySem.W.Frag} {h : Heap} {mg : Str → Option Value} (X : K.In h) (G : h.Ns mainGlobals mg)
include X G
theorem rx_glo {c : Str} {ks : List Str} (b : rxB K c ks = true) : mg c = some (.ref (He.ga K c)) := He.glo_ok X G (He.ba b).1
end
/-! which exceptions a clause catches -/
section
variable {K : PySem.W.Frag} {h : Heap} {mg : Str → Option Value} (X : K.In h) (G : h.Ns mainGlobals mg)
include X G
/-! fields, isinstance -/
omit X G in
end
abbrev IsxL := List ((Str × Str) × Bool)
end DL

set_option Elab.async false
set_option linter.all false
set_option maxRecDepth 100000
set_option maxHeartbeats 4000000
set_option autoImplicit false
namespace DL
open PySem PySem.Spec PyProof.Rows L2
/-! ### properties -/
structure PropD (P : Program) (w : World) (K : PySem.W.Frag) (mg : Str → Option Value) (base : Heap) (k : Nat) (c f : Str) (ps : List Str) (sp : DSp) : Prop where
  ex : ∃ C p g fd, mg c = some (.ref C) ∧ Cls K C ∧ PropOf K C f p g ∧ Binds K fd ps [] ∧ FnG P w K mg base k g fd ps (toSp ⟨K, mg, none⟩ sp)
def wProp (c : Str) (sp : DSp) (wa : WE) : WE := fun ρ μ Q Xd => wa ρ μ (fun x μ1 => isCls c x μ1 (sp [x] μ1 Q xF)) Xd
section
variable {ex : Option (Addr × Addr × Addr)} {W : WX} {X : Cx} {e : Expr} {wa : WE} {pos : Pos} {k j : Nat} {ps : List Str} {c f : Str} {sp : DSp} {C p g a dx : Addr} {fd : FuncData}
end
/-! from the head's facts -/
/-! ### the Hook: defs at any address, and one Bool more -/
abbrev AlY : Type := He.AlD × Bool
structure SaysY (fa : List He.Fa) (fn : List He5.DefA) (ex : PySem.W.Frag → Bool) (K : PySem.W.Frag) : Prop where
  d : He5.SaysA fa fn K
  more : ex K = true
/-! a module's int -/
theorem de_gintE {ex : Option (Addr × Addr × Addr)} {W : WX} {X : Cx} {x : Str} {i : Int} {pos : Pos} (hg : Gl X x) (hm : ∃ t, X.mg x = some (.int i t)) (hd : (x == ("__debug__" : Str)) = false := by decide) : DE ex W X (.Name x pos) (wC (.int i)) := by
  obtain ⟨t, hm⟩ := hm
  exact de_gint hg hm hd
end DL

set_option Elab.async false
set_option linter.all false
set_option maxRecDepth 100000
set_option maxHeartbeats 4000000
set_option autoImplicit false
namespace DL
open PySem PySem.Spec PyProof.Rows L2
/-! ### == of scalars or of data -/
def atomV : D → Option V
  | .non => some .non
  | .bl b => some (.bl b)
  | .int i => some (.int i)
  | .str s => some (.str s)
  | _ => none
theorem atom_rep {G : Gx} {m : List Addr} {E : Hp} {x : D} {u v : V} (r : Rep G m E x u) (h : atomV x = some v) : u = v := by
  cases x <;> first | (rw [Rep] at r; cases h; exact r) | cases h
def eqU (x y : D) (k : Bool → Prop) : Prop := (∃ u v, atomV x = some u ∧ atomV y = some v ∧ scal u v = true ∧ k (decide (u = v))) ∨ eqD x y k
def fEqU : F2 := fun x y μ Q => eqU x y fun b => Q (.bl b) μ
def fNeU : F2 := fun x y μ Q => eqU x y fun b => Q (.bl (!b)) μ
theorem s2_eqU {G : Gx} : S2 G (fun x y H Q => rEq x y H Q ∨ rEqD G.K x y H Q) fEqU := by
  intro Z m μ H x y u v Q Q' M rx ry h k
  rcases h with ⟨u', v', e1, e2, hs, q⟩ | h
  · cases atom_rep rx e1
    cases atom_rep ry e2
    exact .inl ⟨hs, k _ _ (.now M (by rw [Rep]) q)⟩
  · exact .inr (s2_eqD Z m μ H x y u v Q Q' M rx ry h k)
theorem s2_neU {G : Gx} : S2 G (fun x y H Q => rNe x y H Q ∨ rNeD G.K x y H Q) fNeU := by
  intro Z m μ H x y u v Q Q' M rx ry h k
  rcases h with ⟨u', v', e1, e2, hs, q⟩ | h
  · cases atom_rep rx e1
    cases atom_rep ry e2
    exact .inl ⟨hs, k _ _ (.now M (by rw [Rep]) q)⟩
  · exact .inr (s2_neD Z m μ H x y u v Q Q' M rx ry h k)
theorem op_eqU {X : Cx} (hu : X.A.units + 64 < cLine) : OpR X (compareOp .Eq) (fun x y H Q => rEq x y H Q ∨ rEqD X.K x y H Q) := op_eq.or (op_eqD hu)
theorem op_neU {X : Cx} (hu : X.A.units + 64 < cLine) : OpR X (compareOp .NotEq) (fun x y H Q => rNe x y H Q ∨ rNeD X.K x y H Q) := op_ne.or (op_neD hu)
end DL

set_option Elab.async false
set_option linter.all false
set_option maxRecDepth 100000
set_option maxHeartbeats 4000000
set_option autoImplicit false
namespace DL
open PySem PySem.Spec PyProof.Rows L2
/-! ### sum, max, min, sorted of ints; any, all of truths -/
def lstInts (x : D) (k : List Int → Prop) : Prop := lstOr x fun ds => ∃ ns, intsD ds = some ns ∧ k ns
def boolD : D → Option Bool
  | .bl b => some b
  | _ => none
def boolsD : List D → Option (List Bool)
  | [] => some []
  | d :: ds => match boolD d, boolsD ds with
    | some i, some ns => some (i :: ns)
    | _, _ => none
theorem boolD_of {d : D} {b : Bool} (h : boolD d = some b) : d = .bl b := by
  cases d <;> first | (cases h; done) | (cases h; rfl)
theorem bools_rep {G : Gx} {m : List Addr} {E : Hp} : ∀ {ds : List D} {vs : List V} {bs : List Bool}, Reps G m E ds vs → boolsD ds = some bs → vs = bs.map V.bl
  | [], vs, ns, r, e => by rw [Reps] at r; rw [boolsD] at e; cases e; exact r
  | d :: ds, vs, ns, r, e => by
    obtain ⟨v, t, rfl, r1, r2⟩ := r.uncons
    rw [boolsD] at e
    split at e
    · rename_i i ms h1 h2
      cases e
      have e1 := boolD_of h1
      subst e1
      rw [Rep] at r1
      subst r1
      rw [bools_rep r2 h2]
      rfl
    · cases e
def lstBools (x : D) (k : List Bool → Prop) : Prop := lstOr x fun ds => ∃ bs, boolsD ds = some bs ∧ k bs
theorem lstInts_rep {G : Gx} {m : List Addr} {E : Hp} {d : D} {u : V} {k : List Int → Prop} (h : lstInts d k) (r : Rep G m E d u) : ∃ ns a, u = .ref a ∧ SqL G.K E a (ns.map V.int) ∧ k ns := by
  obtain ⟨ds, a, vs, e, s, rs, ns, hn, q⟩ := lstOr_rep h r
  have := ints_rep rs hn
  subst this
  exact ⟨ns, a, e, s, q⟩
theorem lstBools_rep {G : Gx} {m : List Addr} {E : Hp} {d : D} {u : V} {k : List Bool → Prop} (h : lstBools d k) (r : Rep G m E d u) : ∃ ns a, u = .ref a ∧ SqL G.K E a (ns.map V.bl) ∧ k ns := by
  obtain ⟨ds, a, vs, e, s, rs, ns, hn, q⟩ := lstOr_rep h r
  have := bools_rep rs hn
  subst this
  exact ⟨ns, a, e, s, q⟩
def fMaxL : FN := fun xs μ Q => match xs with
  | [x] => lstInts x fun ns => 0 < ns.length ∧ ∀ m, m ∈ ns → (∀ y, y ∈ ns → y ≤ m) → Q (.int m) μ
  | _ => False
def fSorted : FN := fun xs μ Q => match xs with
  | [x] => lstInts x fun ns => ns.length < 64 ∧ ∀ ns' : List Int, ns'.Perm ns → ns'.Pairwise (· ≤ ·) → Q (.lst (ns'.map D.int)) μ
  | _ => False
def fAll : FN := fun xs μ Q => match xs with
  | [x] => lstBools x fun bs => Q (.bl (bs.all id)) μ
  | _ => False
section
variable {G : Gx}
theorem sn_maxL : SN G (rMax G.K) fMaxL := by
  intro Z m μ H xs us Q Q' M r h k
  unfold fMaxL at h
  split at h
  · obtain ⟨v, t, rfl, r1, r2⟩ := r.uncons
    rw [Reps] at r2
    subst r2
    obtain ⟨ns, a, rfl, s, hl, q⟩ := lstInts_rep h r1
    exact ⟨a, ns, rfl, Same.seq vis_le s, hl, fun z z1 z2 => k _ _ (.now M (by rw [Rep]) (q z z1 z2))⟩
  · exact h.elim
theorem sn_sorted : SN G (rSorted G.K) fSorted := by
  intro Z m μ H xs us Q Q' M r h k
  unfold fSorted at h
  split at h
  · obtain ⟨v, t, rfl, r1, r2⟩ := r.uncons
    rw [Reps] at r2
    subst r2
    obtain ⟨ns, a, rfl, s, hl, q⟩ := lstInts_rep h r1
    refine ⟨a, ns, rfl, Same.seq vis_le s, hl, fun ns' p h1 h2 np => k _ _ ?_⟩
    have s2 := Step.laid (o := .lst (ns'.map V.int)) M np
    refine ⟨m, _, μ, s2, ?_, q ns' h1 h2⟩
    rw [Rep]
    exact ⟨p, _, rfl, by rw [vis_upd M np, upd_same], reps_ints ns'⟩
  · exact h.elim
theorem sn_all : SN G (rAll G.K) fAll := by
  intro Z m μ H xs us Q Q' M r h k
  unfold fAll at h
  split at h
  · obtain ⟨v, t, rfl, r1, r2⟩ := r.uncons
    rw [Reps] at r2
    subst r2
    obtain ⟨ns, a, rfl, s, q⟩ := lstBools_rep h r1
    exact ⟨a, ns, rfl, Same.seq vis_le s, k _ _ (.now M (by rw [Rep]) q)⟩
  · exact h.elim
end
end DL

set_option Elab.async false
set_option linter.all false
set_option maxRecDepth 100000
set_option maxHeartbeats 4000000
set_option autoImplicit false
namespace DL
open PySem PySem.Spec PyProof.Rows L2


theorem runEq3 {r : PySem.W.OpenRow} {q : Program} {H : PySem.W.Hook} {ob : PySem.W.SharedT → H.α} {M : Nat} {loose : List Str} {w : World}
    (h1 : ∀ os : OsState, (HandSHeadRun.endF (HandSHeadRun.stepQ (HandSHeadRun.denQ HandSHeadRun.tabQ) r.prog w) M r.prog w os).map (fun s => HandSHeadRun.looksF r.prog (PySem.W.boot_heap w.params) s.abs) = some true)
    (h2 : ∀ os : OsState, (HandSHeadRun.endF (HandSHeadRun.stepQ (HandSHeadRun.denQ HandSHeadRun.tabQ) r.prog w) M r.prog w os).map (fun s => HandSHeadRun.seenQ q loose (importedModules r.prog.main.body) (fun s => PySem.W.xlAt q [] s && PySem.W.recOk r.toRowW.records s) s.abs) = some (PySem.W.openGood q loose))
    (h3 : ∀ os : OsState, (HandSHeadRun.endF (HandSHeadRun.stepQ (HandSHeadRun.denQ HandSHeadRun.tabQ) r.prog w) M r.prog w os).map (fun s => ob s) = some (H.val w)) : HandSHeadRun.RunEq r q H ob M loose w := by
  intro os
  have a1 := h1 os
  have a2 := h2 os
  have a3 := h3 os
  generalize HandSHeadRun.endF (HandSHeadRun.stepQ (HandSHeadRun.denQ HandSHeadRun.tabQ) r.prog w) M r.prog w os = e at a1 a2 a3 ⊢
  cases e with
  | none => cases a1
  | some s =>
    rw [Option.map_some] at a1 a2 a3 ⊢
    rw [Option.some.inj a1, Option.some.inj a2, Option.some.inj a3]
/-! ### list(x), tuple(x) -/
def fListOf : FN := fun xs μ Q => match xs with
  | [x] => match itemsD x μ with
    | some ds => Q (.lst ds) μ
    | none => False
  | _ => False
theorem sn_listOf {G : Gx} : SN G (fun xs H Q => ∃ p ys, xs = [.ref p] ∧ (SqL G.K H p ys ∨ SqT G.K H p ys) ∧ ∀ l, H l = none → Q (.ref l) (upd H l (.lst ys))) fListOf := by
  intro Z m μ H xs us Q Q' M r h k
  unfold fListOf at h
  split at h
  · split at h
    · rename_i ds e1
      obtain ⟨v, t, rfl, r1, r2⟩ := r.uncons
      rw [Reps] at r2
      subst r2
      obtain ⟨a, vs, rfl, s, q⟩ := items_rep M r1 e1
      refine ⟨a, vs, rfl, s, fun l nl => k _ _ ?_⟩
      have s4 := Step.laid (o := .lst vs) M nl
      refine ⟨m, _, μ, s4, ?_, h⟩
      rw [Rep]
      refine ⟨l, _, rfl, ?_, Reps.mono s4.pre s4.same _ _ q⟩
      rw [vis_upd M nl, upd_same]
    · exact h.elim
  · exact h.elim
def fTupOf : FN := fun xs μ Q => match xs with
  | [x] => match itemsD x μ with
    | some ds => Q (.tup ds) μ
    | none => False
  | _ => False
theorem sn_tupOf {G : Gx} : SN G (fun xs H Q => ∃ p ys, xs = [.ref p] ∧ ((SqL G.K H p ys ∧ ∀ l, H l = none → Q (.ref l) (upd H l (.tup ys))) ∨ (SqT G.K H p ys ∧ Q (.ref p) H))) fTupOf := by
  intro Z m μ H xs us Q Q' M r h k
  unfold fTupOf at h
  split at h
  · rename_i x
    split at h
    · rename_i ds e1
      obtain ⟨v, t, rfl, r1, r2⟩ := r.uncons
      rw [Reps] at r2
      subst r2
      have laid : ∀ (a : Addr) (vs : List V), v = .ref a → SqL G.K H a vs → Reps G m (vis Z m H) ds vs → ∃ p ys, [v] = [.ref p] ∧ ((SqL G.K H p ys ∧ ∀ l, H l = none → Q' (.ref l) (upd H l (.tup ys))) ∨ (SqT G.K H p ys ∧ Q' (.ref p) H)) := by
        intro a vs e s q
        subst e
        refine ⟨a, vs, rfl, .inl ⟨s, fun l nl => k _ _ ?_⟩⟩
        have s4 := Step.laid (o := .tup vs) M nl
        refine ⟨m, _, μ, s4, ?_, h⟩
        rw [Rep]
        refine ⟨l, _, rfl, .inl (.inl ?_), Reps.mono s4.pre s4.same _ _ q⟩
        rw [vis_upd M nl, upd_same]
      unfold itemsD at e1
      split at e1
      · cases e1
        have r1' := r1
        rw [Rep] at r1
        obtain ⟨a, vs, e, s, q⟩ := r1
        subst e
        exact ⟨a, vs, rfl, .inr ⟨SqT.same vis_le s, k _ _ (.now M r1' h)⟩⟩
      · cases e1
        rw [Rep] at r1
        obtain ⟨a, vs, e, s, q⟩ := r1
        exact laid a vs e (.inl (.inl (vis_le _ _ s))) q
      · cases e1
        rw [Rep] at r1
        obtain ⟨a, vs, e, s, q⟩ := r1
        exact laid a vs e (Same.seq vis_le s) q
      · split at e1
        · rename_i es e2
          cases e1
          rw [Rep] at r1
          obtain ⟨a, e, s⟩ := r1
          obtain ⟨vs, h1, h2⟩ := M.cell _ _ a e2 s
          exact laid a vs e (.inl (.inl h1)) h2
        · cases e1
      · cases e1
    · exact h.elim
  · exact h.elim
/-! ### isinstance(x, (A, B)) -/
def anyT (f : TyN → TyN → Option Bool) (t : TyN) : List D → Option Bool
  | [] => some false
  | c :: cs => match clD c with
    | some u => match f t u with
      | some true => if cs.all (fun d => (clD d).isSome) then some true else none
      | some false => anyT f t cs
      | none => none
    | none => none
def isiDT (f : TyN → TyN → Option Bool) (x : D) (cs : List D) (μ : Mu) : Option Bool := match tyD x μ with
  | some t => match cs with
    | [] => none
    | c :: r => anyT f t (c :: r)
  | none => none
def fIsiT (f : TyN → TyN → Option Bool) : FN := fun xs μ Q => match xs with
  | [x, .tup cs] => match isiDT f x cs μ with
    | some b => Q (.bl b) μ
    | none => False
  | _ => False
/-! ### a dict of one int beside an int -/
def wDictII (i j : Int) : WE := fun _ μ Q _ => Q (.opq (.dK [(.inl i, .int j)])) μ
section
variable {ex : Option (Addr × Addr × Addr)} {W : WX} {X : Cx} {pos p1 p2 : Pos} {n1 n2 : Nat} {i j : Int}
end
end DL

set_option Elab.async false
set_option linter.all false
set_option maxRecDepth 100000
set_option maxHeartbeats 4000000
set_option autoImplicit false
namespace DL
open PySem PySem.Spec PyProof.Rows L2
/-! ### comparisons and `in` by own defs -/
structure CmpFn (K : PySem.W.Frag) (C : Addr) (nm : Str) (f : Addr) : Prop where
  at_ : PySem.W.findIn K (.ref C) nm = some (some (.ref f))
  fn : PySem.W.isFn K (.ref f) = true
/-- the class has no own `__ne__` -/
structure NeFn (K : PySem.W.Frag) (C : Addr) : Prop where
  at_ : PySem.W.findIn K (.ref C) "__ne__" = some (some (.builtin "object.__ne__"))
  top : PySem.W.mroIn K C (.type "object") = some true
section
open PySem.W
variable {prog : Program} {w : World} {A : Around} {E : Value → Shared → Prop} {s : Shared} {K : Frag} {x C g : Addr} {ox : Obj} {od : Option Obj} {b tb : Value}
end
/-- the other operand: of a listed built-in type or class -/
def othC (Ts : List String) (Cs : List Str) (y : D) (μ : Mu) (Q : Prop) : Prop := match tyD y μ with
  | some (.b T) => T ∈ Ts ∧ Q
  | some (.c c') => c' ∈ Cs ∧ Q
  | none => False
structure CmpD (P : Program) (w : World) (K : PySem.W.Frag) (mg : Str → Option Value) (base : Heap) (k : Nat) (c nm : Str) (Ts : List String) (Cs : List Str) (ps : List Str) (sp : DSp) : Prop where
  ex : ∃ C f fd, mg c = some (.ref C) ∧ CmpFn K C nm f ∧ (∀ T ∈ Ts, PySem.W.notFirst K C (.type T) = true) ∧ (∀ c' ∈ Cs, ∀ C', mg c' = some (.ref C') → InsT K C' ∧ PySem.W.notFirst K C (.ref C') = true) ∧ Binds K fd ps [] ∧ FnG P w K mg base k f fd ps (toSp ⟨K, mg, none⟩ sp)
def fOwn (c : Str) (Ts : List String) (Cs : List Str) (sp : DSp) : F2 := fun x y μ Q => isCls c x μ (othC Ts Cs y μ (sp [x, y] μ Q xF))
def fOwnN (c : Str) (Ts : List String) (Cs : List Str) (sp : DSp) : F2 := fun x y μ Q => isCls c x μ (othC Ts Cs y μ (sp [x, y] μ (fun d μ1 => fBool d fun b => Q (.bl (!b)) μ1) xF))
section
variable {X : Cx} {k j : Nat} {ps : List Str} {c nm : Str} {Ts : List String} {Cs : List Str} {sp : DSp}
/-! y in x by x's own `__contains__` -/
def fHas (c : Str) (sp : DSp) : F2 := fun y x μ Q => isCls c x μ (sp [x, y] μ (fun d μ1 => fBool d fun b => Q (.bl b) μ1) xF)
def fHasN (c : Str) (sp : DSp) : F2 := fun y x μ Q => isCls c x μ (sp [x, y] μ (fun d μ1 => fBool d fun b => Q (.bl (!b)) μ1) xF)
structure HasD (P : Program) (w : World) (K : PySem.W.Frag) (mg : Str → Option Value) (base : Heap) (k : Nat) (c : Str) (ps : List Str) (sp : DSp) : Prop where
  ex : ∃ C f fd, mg c = some (.ref C) ∧ CmpFn K C "__contains__" f ∧ Binds K fd ps [] ∧ FnG P w K mg base k f fd ps (toSp ⟨K, mg, none⟩ sp)
end
/-! from the head's facts -/
end DL

set_option Elab.async false
set_option linter.all false
set_option maxRecDepth 100000
set_option maxHeartbeats 4000000
set_option autoImplicit false
namespace DL
open PySem PySem.Spec PyProof.Rows L2
/-! ### y op x, y of a built-in type, by x's own `__rop__` -/
structure RfFn (K : PySem.W.Frag) (C : Addr) (op : Operator) (f : Addr) : Prop where
  first : PySem.W.selfFirst K C = true
  at_ : ∃ g : Addr, PySem.W.findIn K (.ref C) (PySem.dunder op.info.2) = some (some (.ref g))
  back : PySem.W.findIn K (.ref C) (PySem.dunderR op.info.2) = some (some (.ref f))
  fn : PySem.W.isFn K (.ref f) = true
/-- what of the built-in type: whether it has the operator itself (l) -/
structure RfTy (K : PySem.W.Frag) (C : Addr) (op : Operator) (T : String) (l : Bool) : Prop where
  ex : ∃ fo ro, PySem.W.findIn K (.type T) (PySem.dunder op.info.2) = some fo ∧ PySem.W.findIn K (.type T) (PySem.dunderR op.info.2) = some ro ∧ ((fo.isSome && !isSeqSlot fo) || (ro.isSome && !isSeqSlot ro)) = l
  sub : PySem.W.subIn K (.ref C) (.type T) = some false
section
open PySem.W
variable {prog : Program} {w : World} {A : Around} {E : Value → Shared → Prop} {s : Shared} {K : Frag} {x C g : Addr} {ox : Obj} {od : Option Obj} {T : String}
end
section
open PySem.W
variable {prog : Program} {w : World} {A : Around} {E : Value → Shared → Prop} {s : Shared}
end
/-- y op x by x's own reflected def -/
structure BackD (P : Program) (w : World) (K : PySem.W.Frag) (mg : Str → Option Value) (base : Heap) (k : Nat) (c : Str) (op : Operator) (T : String) (l : Bool) (ps : List Str) (sp : DSp) : Prop where
  ex : ∃ C f fd, mg c = some (.ref C) ∧ RfFn K C op f ∧ RfTy K C op T l ∧ Binds K fd ps [] ∧ FnG P w K mg base k f fd ps (toSp ⟨K, mg, none⟩ sp)
def isTy (T : String) (y : D) (μ : Mu) (Q : Prop) : Prop := match tyD y μ with
  | some (.b T') => T' = T ∧ Q
  | _ => False
def wBack (c : Str) (T : String) (sp : DSp) (wa wb : WE) : WE := fun ρ μ Q Xd => wa ρ μ (fun y μ1 => wb ρ μ1 (fun x μ2 => isTy T y μ2 (isCls c x μ2 (sp [x, y] μ2 Q Xd))) Xd) Xd
section
variable {W : WX} {X : Cx} {a b : Expr} {wa wb : WE} {pos : Pos} {k j : Nat} {ps : List Str} {c : Str} {sp : DSp} {T : String} {l : Bool}
end
end DL

set_option Elab.async false
set_option linter.all false
set_option maxRecDepth 100000
set_option maxHeartbeats 4000000
set_option autoImplicit false
namespace DL
open PySem PySem.Spec PyProof.Rows L2
/-! ### C.m(), m a staticmethod -/
structure StatD (P : Program) (w : World) (K : PySem.W.Frag) (mg : Str → Option Value) (base : Heap) (k : Nat) (c m : Str) (ps : List Str) (sp : DSp) : Prop where
  ex : ∃ C p g fd, mg c = some (.ref C) ∧ PySem.W.specialIn K (.ref C) "__getattribute__" = some (some (.builtin "type.__getattribute__")) ∧ PySem.W.typeIn K (.ref C) = some (.type "type") ∧ PySem.W.readsIn K C (.type "type") = true ∧
    PySem.W.findCls K (.ref C) (.type "type") m = some (.get (.builtin "staticmethod.__get__") (.ref p) .none (.ref C)) ∧ (∃ rest, PySem.W.recIn K p "staticmethod" = some (.ref g :: rest)) ∧ PySem.W.handedIn (.ref g) = true ∧ PySem.W.keepIn K (.ref g) = true ∧
    Binds K fd ps [] ∧ FnG P w K mg base k g fd ps (toSp ⟨K, mg, none⟩ sp)
def wStat (sp : DSp) : WE := fun _ μ Q Xd => sp [] μ Q Xd
section
variable {W : WX} {X : Cx} {o : Expr} {pos apos : Pos} {k j : Nat} {ps : List Str} {c m : Str} {sp : DSp}
end
/-! ### a list of the def's own -/
section
variable {ex : Option (Addr × Addr × Addr)} {W : WX} {X : Cx} {tg e : Expr} {es : List Expr} {wa : WE} {ws : WA} {pos p0 apos cpos : Pos} {i : Nat} {x : Str}
def appO (i : Nat) (wa : WA) (E : DEnds) (ρ : DS) (μ : Mu) (o : Option Sl) : Prop := match o with
  | some (.own p (.lst ds)) => wa ρ μ (fun xs μ1 => ds.length < 1000000 ∧ ∃ d, xs = [d] ∧ E.nx (ρ.set i (.own p (.lst (ds ++ [d])))) μ1) fun c ks es μ' => E.xc c ks es ρ μ'
  | _ => False
def sAppO (i : Nat) (wa : WA) : WS := fun E ρ μ => appO i wa E ρ μ (ρ[i]?)
/-- .. a list put behind it -/
def extO (i : Nat) (wa : WA) (E : DEnds) (ρ : DS) (μ : Mu) (o : Option Sl) : Prop := match o with
  | some (.own p (.lst ds)) => wa ρ μ (fun xs μ1 => ∃ zs, xs = [.lst zs] ∧ ds.length + zs.length ≤ 1000000 ∧ E.nx (ρ.set i (.own p (.lst (ds ++ zs)))) μ1) fun c ks es μ' => E.xc c ks es ρ μ'
  | _ => False
def sExtO (i : Nat) (wa : WA) : WS := fun E ρ μ => extO i wa E ρ μ (ρ[i]?)
theorem appO_of {wa : WA} {E : DEnds} {ρ : DS} {μ : Mu} {o : Option Sl} {i : Nat} (h : appO i wa E ρ μ o) : ∃ p ds, o = some (.own p (.lst ds)) ∧ wa ρ μ (fun xs μ1 => ds.length < 1000000 ∧ ∃ d, xs = [d] ∧ E.nx (ρ.set i (.own p (.lst (ds ++ [d])))) μ1) fun c ks es μ' => E.xc c ks es ρ μ' := by
  unfold appO at h
  split at h
  · exact ⟨_, _, rfl, h⟩
  · exact h.elim
theorem extO_of {wa : WA} {E : DEnds} {ρ : DS} {μ : Mu} {o : Option Sl} {i : Nat} (h : extO i wa E ρ μ o) : ∃ p ds, o = some (.own p (.lst ds)) ∧ wa ρ μ (fun xs μ1 => ∃ zs, xs = [.lst zs] ∧ ds.length + zs.length ≤ 1000000 ∧ E.nx (ρ.set i (.own p (.lst (ds ++ zs)))) μ1) fun c ks es μ' => E.xc c ks es ρ μ' := by
  unfold extO at h
  split at h
  · exact ⟨_, _, rfl, h⟩
  · exact h.elim
theorem lt_line {n : Nat} (h : n < 1000000) : n < sizeLine := Nat.lt_of_lt_of_le h (by decide)
theorem le_line {n : Nat} (h : n ≤ 1000000) : n ≤ sizeLine := Nat.le_trans h (by decide)
theorem ds_appO (hN : X.N[i]? = some x) (ha : DA ex W X [e] ws) (hv : Vis X.env.scope x := by first | exact Or.inl rfl | exact Or.inr (Or.inl rfl) | exact Or.inr (Or.inr rfl)) (hd : (x == ("__debug__" : Str)) = false := by decide) (hcd : (x == ("__classdict__" : Str)) = false := by decide)
    (hbase : attributeBase (.Name x p0) "append" X.env (eval (.Name x p0) X.env) = eval (.Name x p0) X.env := by rfl)
    (hfew : ((backTo cpos (starEach [e] X.env)).all (fun x => !x.1) && (backToKw cpos (keywordEach [] X.env)).all (fun x => x.1.isSome)
      && decide (([e] : List Expr).length + ([] : List Keyword).length + (if ([] : List Keyword).isEmpty then 0 else 1) < 30)) = true := by rfl)
    (hline : (apos.endLine == cpos.line) = true := by rfl) (hs : starEach [e] X.env = (false, eval e X.env) :: starEach [] X.env := by rfl) (hplain : (backTo cpos (starEach [] X.env)).any (·.1) = false := by rfl)
    (hsw : swapsWith (.Call (.Attribute (.Name x p0) "append" apos) [e] [] cpos) none pos.line X.env = pure false := by rfl) :
    DSt ex W X (.Expr (.Call (.Attribute (.Name x p0) "append" apos) [e] [] cpos) pos) (sAppO i ws) :=
  ps_weak (ps_expr (pe_bm PySem.F.plainAttrs_list PySem.F.slot_list_append PySem.F.type_list_append mt_append (pe_var hN hv hd hcd) ha hbase hfew hline hs hplain) hsw) fun De σ H q => by
  obtain ⟨Z, m, ρ, μ, E, S, q, kn, kr, kb, kc, kx⟩ := q
  obtain ⟨p, ds, hi, q⟩ := appO_of q
  obtain ⟨hs, nz, vs0, hp0, rs0⟩ := S.own i p _ hi
  refine ⟨_, hs, .inl ⟨rfl, _, .inl (.inl hp0)⟩, Z, m, ρ, μ, _, _, S, q, fun xs H1 P => ?_, fun cls d H' P => kx cls d σ H' (XSPost.of S P)⟩
  obtain ⟨m1, es, μ1, s1, r1, hl, d, rfl, q1⟩ := P
  obtain ⟨v, t, rfl, r3, r2⟩ := r1.uncons
  rw [Reps] at r2
  subst r2
  have S1 := S.step s1
  obtain ⟨_, _, vs, hp, rs⟩ := S1.own i p _ hi
  refine ⟨p, vs, v, rfl, rfl, hp, by rw [← rs.len]; exact lt_line hl, ?_⟩
  obtain ⟨S2, s2⟩ := S1.putOwn (o := .lst (vs ++ [v])) (c' := .lst (ds ++ [d])) hi ⟨vs ++ [v], upd_same, Reps.append rs (Reps.cons r3 Reps.nil)⟩
  exact kn _ _ ⟨m1, _, μ1, S2, (SStep.of s1).trans s2, q1⟩
theorem ds_extO (hN : X.N[i]? = some x) (ha : DA ex W X [e] ws) (hv : Vis X.env.scope x := by first | exact Or.inl rfl | exact Or.inr (Or.inl rfl) | exact Or.inr (Or.inr rfl)) (hd : (x == ("__debug__" : Str)) = false := by decide) (hcd : (x == ("__classdict__" : Str)) = false := by decide)
    (hbase : attributeBase (.Name x p0) "extend" X.env (eval (.Name x p0) X.env) = eval (.Name x p0) X.env := by rfl)
    (hfew : ((backTo cpos (starEach [e] X.env)).all (fun x => !x.1) && (backToKw cpos (keywordEach [] X.env)).all (fun x => x.1.isSome)
      && decide (([e] : List Expr).length + ([] : List Keyword).length + (if ([] : List Keyword).isEmpty then 0 else 1) < 30)) = true := by rfl)
    (hline : (apos.endLine == cpos.line) = true := by rfl) (hs : starEach [e] X.env = (false, eval e X.env) :: starEach [] X.env := by rfl) (hplain : (backTo cpos (starEach [] X.env)).any (·.1) = false := by rfl)
    (hsw : swapsWith (.Call (.Attribute (.Name x p0) "extend" apos) [e] [] cpos) none pos.line X.env = pure false := by rfl) :
    DSt ex W X (.Expr (.Call (.Attribute (.Name x p0) "extend" apos) [e] [] cpos) pos) (sExtO i ws) :=
  ps_weak (ps_expr (pe_bm PySem.F.plainAttrs_list PySem.F.slot_list_extend PySem.F.type_list_extend mt_extend (pe_var hN hv hd hcd) ha hbase hfew hline hs hplain) hsw) fun De σ H q => by
  obtain ⟨Z, m, ρ, μ, E, S, q, kn, kr, kb, kc, kx⟩ := q
  obtain ⟨p, ds, hi, q⟩ := extO_of q
  obtain ⟨hs, nz, vs0, hp0, rs0⟩ := S.own i p _ hi
  refine ⟨_, hs, .inl ⟨rfl, _, .inl (.inl hp0)⟩, Z, m, ρ, μ, _, _, S, q, fun xs H1 P => ?_, fun cls d H' P => kx cls d σ H' (XSPost.of S P)⟩
  obtain ⟨m1, es, μ1, s1, r1, zs, rfl, hl, q1⟩ := P
  obtain ⟨v, t, rfl, r3, r2⟩ := r1.uncons
  rw [Reps] at r2
  subst r2
  rw [Rep] at r3
  obtain ⟨b, us, rfl, hb, rz⟩ := r3
  have S1 := S.step s1
  obtain ⟨_, _, vs, hp, rs⟩ := S1.own i p _ hi
  refine ⟨p, b, vs, us, rfl, rfl, hp, vis_le _ _ hb, by rw [← rs.len, ← rz.len]; exact le_line hl, ?_⟩
  obtain ⟨S2, s2⟩ := S1.putOwn (o := .lst (vs ++ us)) (c' := .lst (ds ++ zs)) hi ⟨vs ++ us, upd_same, Reps.append rs rz⟩
  exact kn _ _ ⟨m1, _, μ1, S2, (SStep.of s1).trans s2, q1⟩
/-! read: len(x), x[j], e in x -/
def wOwnLen (i : Nat) : WE := fun ρ μ Q _ => ownL (ρ[i]?) fun ds => Q (.int ds.length) μ
def wOwnIx (i : Nat) (wb : WE) : WE := fun ρ μ Q Xd => ownL (ρ[i]?) fun ds => wb ρ μ (fun y μ1 => intOr y fun j => match atI ds j with
    | some d => Q d μ1
    | none => False) Xd
def ownIn (neg : Bool) (x : D) (ds : List D) (Q : Bool → Prop) : Prop := ∃ p qs, toP x = some p ∧ toPs ds = some qs ∧ SeqAt.shaped p = true ∧ SeqAt.shaped (.list qs) = true ∧ Q (neg ^^ qs.any fun z => PyData.eqv z p)
def wOwnIn (neg : Bool) (i : Nat) (wa : WE) : WE := fun ρ μ Q Xd => ownL (ρ[i]?) fun ds => wa ρ μ (fun x μ1 => ownIn neg x ds fun b => Q (.bl b) μ1) Xd
theorem lift_ownIn {G : Gx} {neg : Bool} {σ : L2.St} {H : Hp} {Q' : VK} (q : lift G W (wOwnIn neg i wa) σ H Q') : lift G W wa σ H fun u H1 => ∃ v, σ[i]? = some (some v) ∧ ∃ p qs, Dp G.K H1 u p ∧ Dp G.K H1 v (.list qs) ∧ SeqAt.shaped p = true ∧ SeqAt.shaped (.list qs) = true ∧ Q' (.bl (neg ^^ qs.any fun z => PyData.eqv z p)) H1 := by
  obtain ⟨Z, m, ρ, μ, Q, Xd, S, q, k, kx⟩ := q
  obtain ⟨a, ds, hi, q⟩ := ownL_of q
  obtain ⟨hs, nz, _⟩ := S.own i a _ hi
  refine ⟨Z, m, ρ, μ, _, Xd, S, q, fun v H1 P => ?_, kx⟩
  obtain ⟨m1, y, μ1, s1, r1, p, qs, e1, e2, h1, h2, q1⟩ := P
  obtain ⟨_, _, vs, hp, rs⟩ := (S.step s1).own i a _ hi
  exact ⟨_, hs, p, qs, dp_of vis_le _ _ _ r1 e1, .lst (.inl (.inl hp)) (dps_of vis_le _ _ _ rs e2), h1, h2, k _ _ (VPost.from s1 (.now s1.mu (by rw [Rep]) q1))⟩
end
end DL

set_option Elab.async false
set_option linter.all false
set_option maxRecDepth 100000
set_option maxHeartbeats 4000000
set_option autoImplicit false
namespace DL
open PySem PySem.Spec PyProof.Rows L2
/-! ### a dict of the module whose keys are tuples of ints -/
def kdGet (L : List (List Int × Int)) (ks : List Int) : Option Int := (L.find? fun x => decide (x.1 = ks)).map (·.2)
theorem vals_ints {prog : Program} {w : World} : ∀ {ks : List Int} {us : List Value}, Vals (ks.map V.int) us → ItemsAre (intKind prog w) ks us
  | [], us, h => by cases h; exact .nil
  | k :: ks, us, h => by
    cases h with
    | cons r1 r2 =>
      obtain ⟨t, rfl⟩ := r1
      exact .cons (intKind_is prog w k t) (vals_ints r2)
def fKd (L : List (List Int × Int)) : F1 := fun y μ Q => tupOr y fun ds => ∃ ks, intsD ds = some ks ∧ ∃ v, kdGet L ks = some v ∧ Q (.int v) μ
section
variable {ex : Option (Addr × Addr × Addr)} {W : WX} {X : Cx} {b : Expr} {wb : WE} {pos p0 : Pos} {x : Str} {L : List (List Int × Int)} {d : Addr}
end
/-! ### plain data of the module -/
end DL

set_option Elab.async false
set_option linter.all false
set_option maxRecDepth 100000
set_option maxHeartbeats 4000000
set_option autoImplicit false
namespace DL
open PySem PySem.Spec PyProof.Rows L2 RZ
/-! ### zip(a tuple, a list) -/
section
variable {prog : Program} {w : World} {A : Around} {E : Value → Shared → Prop} {s : Shared} {zz pT pO u v m n : Addr} {c1 c2 : Nat} {ps qs : Array Value} {p q a0 b0 : Value}
end
/-! made -/
abbrev mx1 (h : Heap) (m : Addr) : Heap := h.push { cls := .type "tuple_iterator", data := .fields #[.ref m, .int 0 0] }
abbrev mx2 (h : Heap) (m n : Addr) : Heap := (mx1 h m).push { cls := .type "list_iterator", data := .fields #[.ref n, .int 0 0] }
abbrev mx3 (h : Heap) (m n : Addr) : Heap := (mx2 h m n).push { cls := .type "tuple", data := .seq #[.ref h.objs.size, .ref (mx1 h m).objs.size] }
abbrev mx4 (h : Heap) (m n : Addr) : Heap := (mx3 h m n).push { cls := .type "tuple", data := .seq #[.none, .none] }
abbrev mx5 (h : Heap) (m n : Addr) : Heap := (mx4 h m n).push { cls := .type "zip", data := .fields #[.none, .bool false, .bool false, .ref (mx2 h m n).objs.size, .ref (mx3 h m n).objs.size] }
section
variable {prog : Program} {w : World} {A : Around} {E : Value → Shared → Prop} {s : Shared}
end
def zipX2 (ds : List D) (Q : List D → Prop) : Prop := match ds with
  | [a, b] => match a, b with
    | .tup xs, .tup ys => Q (zipD xs ys)
    | .lst xs, .lst ys => Q (zipD xs ys)
    | .frl xs, .lst ys => Q (zipD xs ys)
    | .lst xs, .frl ys => Q (zipD xs ys)
    | .tup xs, .lst ys => Q (zipD xs ys)
    | _, _ => False
  | _ => False
def wiZipX (wa : WA) : WI := fun ρ μ Q Xd => wa ρ μ (fun ds μ1 => zipX2 ds fun es => Q es μ1) Xd
end DL

set_option Elab.async false
set_option linter.all false
set_option maxRecDepth 100000
set_option maxHeartbeats 4000000
set_option autoImplicit false
namespace DL
open PySem PySem.Spec PyProof.Rows L2 RZ
/-! ### enumerate(a tuple) -/
section
variable {prog : Program} {w : World} {A : Around} {E : Value → Shared → Prop} {s : Shared} {en it m : Addr} {i : Nat} {ps : Array Value} {p old : Value}
abbrev en1 (h : Heap) (m : Addr) : Heap := h.push { cls := .type "tuple_iterator", data := .fields #[.ref m, .int 0 0] }
abbrev en2 (h : Heap) (m : Addr) : Heap := (en1 h m).push { cls := .type "enumerate", data := .fields #[.none, .bool false, .ref h.objs.size, rawInt 0, .none, .none] }
end
def enX (ds : List D) (Q : List D → Prop) : Prop := match ds with
  | [.lst es] => Q (enumD es)
  | [.frl es] => Q (enumD es)
  | [.tup es] => Q (enumD es)
  | _ => False
def wiEnumX (wa : WA) : WI := fun ρ μ Q Xd => wa ρ μ (fun ds μ1 => enX ds fun es => Q es μ1) Xd
end DL

set_option Elab.async false
set_option linter.all false
set_option maxRecDepth 100000
set_option maxHeartbeats 4000000
set_option autoImplicit false
namespace DL
open PySem PySem.Spec PyProof.Rows L2
/-! ### sum of a list or a tuple of ints -/
section
variable {prog : Program} {w : World} {A : Around} {E : Value → Shared → Prop} {s : Shared} {l : Addr}
end
def fSumX : FN := fun xs μ Q => match xs with
  | [.tup ds] => ∃ ns, intsD ds = some ns ∧ Q (.int ns.sum) μ
  | [x] => lstInts x fun ns => Q (.int ns.sum) μ
  | _ => False
end DL

set_option Elab.async false
set_option linter.all false
set_option maxRecDepth 100000
set_option maxHeartbeats 4000000
set_option autoImplicit false
namespace DL
open PySem PySem.Spec PyProof.Rows L2
/-! ### f(e) in an except suite: a def that gets the caught exception -/
abbrev XSp := Str → List Str → List D → Mu → (D → Mu → Prop) → Prop
def startX (N : List Str) (c : Str) (ks : List Str) (es : List D) : DS := (List.replicate N.length Sl.no).set 0 (.exn c ks es)
def toSpX (K : PySem.W.Frag) (mg : Str → Option Value) (a : Addr) (cls : Value) (d : Option Addr) (sp : XSp) (H : Hp) (Q : VK) : Prop :=
  ∃ (Z : Addr → Prop) (m : List Addr) (μ : Mu) (c : Str) (ks : List Str) (es : List D) (C dd : Addr) (vs : List V) (Qd : D → Mu → Prop), MuOk ⟨K, mg, none⟩ Z m μ H ∧ exOf a cls d = some (a, C, dd) ∧ mg c = some (.ref C) ∧ vis Z m H dd = some (.xd (ks.zip vs)) ∧ ks.length = es.length ∧
    Reps ⟨K, mg, none⟩ m (vis Z m H) es vs ∧ sp c ks es μ Qd ∧ ∀ v H', VPost ⟨K, mg, none⟩ Z m H Qd v H' → Q v H'
structure FnX (P : Program) (wd : World) (K : PySem.W.Frag) (mg : Str → Option Value) (bs : Heap) (k : Nat) (f : Addr) (fd : FuncData) (ps : List Str) (sp : XSp) : Prop where
  one : ps.length = 1
  run : ∀ (A : Around) (fr : List Env) (s : Shared) (H : Hp) (args : Args) (a : Addr) (oe : Obj) (cls : Value) (d : Option Addr) (Q : VK), L2H.RoomH k A → A.guards = some [] → A.handled = some (.ref a) → L2H.PinOk fr H s (a, oe) → Zc cls d oe → (∃ vs, oe.data = .fields vs) →
    Env0 P wd K mg bs A fr s H → BindsTo s fd args (ps.zip [.ref a]) → toSpX K mg a cls d sp H Q → codeAny (model P wd) A (.call (.ref f) args) (CR (L2.CX P wd) fr P wd H s Q (fun _ _ _ => False)) s
section
variable {P : Program} {w : World} {K : PySem.W.Frag} {mg : Str → Option Value} {base : Heap}
structure HotD (P : Program) (w : World) (K : PySem.W.Frag) (mg : Str → Option Value) (base : Heap) (k : Nat) (x : Str) (ps : List Str) (sp : XSp) : Prop where
  ex : ∃ f fd, mg x = some (.ref f) ∧ PySem.W.keepIn K (.ref f) = true ∧ Binds K fd ps [] ∧ FnX P w K mg base k f fd ps sp
end
def wHotX (sp : XSp) (i : Nat) : WE := fun ρ μ Q _ => KExn (ρ[i]?) fun c ks es => sp c ks es μ Q
section
variable {X : Cx} {a : Addr} {oe : Obj} {cls : Value} {d : Option Addr} {pn : List (Addr × Obj)} {pos p1 p2 : Pos} {x y : Str} {i j k : Nat} {ps : List Str} {sp : XSp}
end
end DL

set_option Elab.async false
set_option linter.all false
set_option maxRecDepth 100000
set_option maxHeartbeats 4000000
set_option autoImplicit false
namespace DL
open PySem PySem.Spec PyProof.Rows L2
/-! ### xs.index(x), xs.count(x) of data; xs[::-1] -/
def isL (x : D) (k : Prop) : Prop := match x with
  | .lst _ => k
  | .frl _ => k
  | _ => False
def wMb (f : F2) (wo wa : WE) : WE := fun ρ μ Q Xd => wo ρ μ (fun x μ1 => isL x (wa ρ μ1 (fun y μ2 => f x y μ2 Q) Xd)) Xd
section
variable {ex : Option (Addr × Addr × Addr)} {W : WX} {X : Cx} {e o : Expr} {wa wo : WE} {pos apos : Pos} {id : String} {name : Str} {r : V → List V → Hp → VK → Prop} {f : F2}
/-! xs[::-1] -/
def fRev : F1 := fun x μ Q => lstOr x fun ds => Q (.lst ds.reverse) μ
theorem Reps.rev {G : Gx} {m : List Addr} {E : Hp} : ∀ {ds : List D} {vs : List V}, Reps G m E ds vs → Reps G m E ds.reverse vs.reverse
  | [], vs, r => by
    rw [Reps] at r
    subst r
    exact Reps.nil
  | d :: ds, vs, r => by
    obtain ⟨v, t, rfl, r1, r2⟩ := r.uncons
    rw [List.reverse_cons, List.reverse_cons]
    exact Reps.append (Reps.rev r2) (Reps.cons r1 Reps.nil)
theorem de_rev {k : Nat} {p1 p2 p3 : Pos} (ha : DE ex W X e wa) : DE ex W X (.Subscript e (.Slice none none (some (.UnaryOp .USub (.Constant (.int 1) k p1) p2)) p3) pos) (w1 fRev wa) := pe_weak (pe_revL ha) fun σ H Q' q => by
  refine lift_bind (f := fun x ρ μ1 Q Xd => lstOr x fun ds => Q (.lst ds.reverse) μ1) q fun Z m ρ μ Q Xd x v H1 S r1 q1 k kx => ?_
  obtain ⟨ds, p, vs, e, sq, rs, q4⟩ := lstOr_rep q1 r1
  refine ⟨p, vs, e, SqL.same' vis_le sq, fun np hnp => k _ _ ?_⟩
  have s4 := Step.laid (o := .lst vs.reverse) S.mu hnp
  refine ⟨m, _, μ, s4, ?_, q4⟩
  rw [Rep]
  refine ⟨np, _, rfl, ?_, Reps.rev (Reps.mono s4.pre s4.same _ _ rs)⟩
  rw [vis_upd S.mu hnp, upd_same]
end
end DL

set_option Elab.async false
set_option linter.all false
set_option maxRecDepth 100000
set_option maxHeartbeats 4000000
set_option autoImplicit false
namespace DL
open PySem PySem.Spec PyProof.Rows L2
/-! ### ==, != of lists whose items have an own `__eq__`, all alike -/
section
variable {prog : Program} {w : World} {A : Around} {R : Result → Shared → Prop}
end
def prsO (c : Str) (sp : DSp) (μ : Mu) (ds es : List D) : Prop := ds.length = es.length ∧ ∀ (i : Nat) d e, ds[i]? = some d → es[i]? = some e → isCls c d μ (isCls c e μ (sp [d, e] μ (fun r μ' => r = .bl true ∧ μ' = μ) xF))
section
variable {X : Cx} {k j : Nat} {ps : List Str} {c : Str} {Ts : List String} {Cs : List Str} {sp : DSp} {r : Bool}
end
end DL

set_option Elab.async false
set_option linter.all false
set_option maxRecDepth 100000
set_option maxHeartbeats 4000000
set_option autoImplicit false
namespace DL
open PySem PySem.Spec PyProof.Rows L2
/-! ### o.m(..) where o is of one of two classes, each with its own m -/
def wMethU (c1 c2 m : Str) (sp1 sp2 : DSp) (wo : WE) (wa : WA) : WE := fun ρ μ Q Xd => wo ρ μ (fun x μ1 => hasCls c1 m x μ1 (wa ρ μ1 (fun ds μ2 => sp1 (x :: ds) μ2 Q Xd) Xd) ∨ hasCls c2 m x μ1 (wa ρ μ1 (fun ds μ2 => sp2 (x :: ds) μ2 Q Xd) Xd)) Xd
section
variable {W : WX} {X : Cx} {e o : Expr} {es : List Expr} {wo : WE} {ws : WA} {pos p apos : Pos} {k1 k2 j : Nat} {ps1 ps2 : List Str} {c1 c2 m : Str} {sp1 sp2 : DSp}
end
end DL

set_option Elab.async false
set_option linter.all false
set_option maxRecDepth 100000
set_option maxHeartbeats 4000000
set_option autoImplicit false
namespace DL
open PySem PySem.Spec PyProof.Rows L2
/-! ### own special methods, of one class or of several with one def: o[i], ~o, o(x), len(o) -/
structure SpcD (P : Program) (w : World) (K : PySem.W.Frag) (mg : Str → Option Value) (base : Heap) (k : Nat) (cs : List Str) (nm : Str) (ps : List Str) (sp : DSp) : Prop where
  ex : ∃ f fd, PySem.W.isFn K (.ref f) = true ∧ PySem.W.fnIn K f = true ∧ (∀ c ∈ cs, ∃ C, mg c = some (.ref C) ∧ PySem.W.findIn K (.ref C) nm = some (some (.ref f)) ∧ PySem.W.noSeq K C = true) ∧ Binds K fd ps [] ∧ FnG P w K mg base k f fd ps (toSp ⟨K, mg, none⟩ sp)
def isClsU (cs : List Str) (d : D) (μ : Mu) (Q : Prop) : Prop := match insD d μ with
  | some (c', _, _) => c' ∈ cs ∧ Q
  | none => False
section
variable {W : WX} {X : Cx} {k : Nat} {f : Addr} {fd : FuncData} {ps : List Str} {sp0 : Sp}
end
section
variable {W : WX} {X : Cx} {k : Nat} {f : Addr} {fd : FuncData} {ps : List Str} {sp0 : Sp}
end
section
variable {W : WX} {X : Cx} {a b : Expr} {wa wb : WE} {ws : WA} {pos p apos : Pos} {k j : Nat} {ps cs : List Str} {nm : Str} {sp : DSp}
/-- o[i] -/
def wIxO (cs : List Str) (sp : DSp) (wa wb : WE) : WE := fun ρ μ Q Xd => wa ρ μ (fun x μ1 => wb ρ μ1 (fun i μ2 => isClsU cs x μ2 (sp [x, i] μ2 Q Xd)) Xd) Xd
/-- ~o -/
def wInv (cs : List Str) (sp : DSp) (wa : WE) : WE := fun ρ μ Q Xd => wa ρ μ (fun x μ1 => isClsU cs x μ1 (sp [x] μ1 Q Xd)) Xd
/-- o(x, ..) -/
def wCallO (cs : List Str) (sp : DSp) (wo : WE) (wa : WA) : WE := fun ρ μ Q Xd => wo ρ μ (fun x μ1 => isClsU cs x μ1 (wa ρ μ1 (fun ds μ2 => isClsU cs x μ2 (sp (x :: ds) μ2 Q Xd)) Xd)) Xd
/-- len(o) -/
def fLenO (cs : List Str) (sp : DSp) : FN := fun xs μ Q => match xs with
  | [x] => isClsU cs x μ (sp [x] μ (fun d μ1 => match d with
    | .int n => 0 ≤ n ∧ n < 2 ^ 62 ∧ Q (.int n) μ1
    | _ => False) xF)
  | _ => False
end
/-! from the head's facts -/
end DL

set_option Elab.async false
set_option linter.all false
set_option maxRecDepth 100000
set_option maxHeartbeats 4000000
set_option autoImplicit false
namespace DL
open PySem PySem.Spec PyProof.Rows L2
/-! ### a comprehension's list, kept as the def's own -/
noncomputable def without (H : Hp) (D : Addr) : Hp := fun b => open Classical in if b = D then none else H b
def sSetLcO (i : Nat) (w : WE) : WS := fun E ρ μ => w ρ μ (fun d μ1 => ∃ acc, d = .lst acc ∧ i < ρ.length ∧ ∀ p, E.nx (ρ.set i (.own p (.lst acc))) μ1) fun c ks es μ' => E.xc c ks es ρ μ'
section
variable {W : WX} {X : Cx} {elt tg iter : Expr} {ifs : List Expr} {scope : Scope} {own : List (Str × Nat)} {pos : Pos} {wi : WI} {g : TG} {k : WG} {tt : WT} {te : WE}
end
end DL

set_option Elab.async false
set_option linter.all false
set_option maxRecDepth 100000
set_option maxHeartbeats 2000000
/-! The Hook over a written list of addresses (no search of the heap in the kernel's run). -/
namespace DL
open PySem PySem.Spec PyProof.Rows L2
def obsL (as : List Addr) (fa : List He.Fa) (fn : List He5.DefA) (ex : PySem.W.Frag → Bool) (g : Addr → Option Obj) : AlY := (He5.obsA fa fn (He.frG g as), ex (He.frG g as))
def hookL (as : List Addr) (fa : List He.Fa) (fn : List He5.DefA) (ex : PySem.W.Frag → Bool) : PySem.W.Hook where
  α := AlY
  obs := fun s => obsL as fa fn ex s.heap.get?
  val := fun _ => (He5.valA fn, true)
  says := fun _ h => ∃ K : PySem.W.Frag, K.In h ∧ SaysY fa fn ex K
  of := fun _ _ e => ⟨_, He.frG_in, congrArg (fun z : AlY => z.1) e, congrArg (fun z : AlY => z.2) e⟩
  keeps := fun _ _ _ hx k => let ⟨K, hK, c⟩ := hx; ⟨K, PySem.W.Frag.In.keeps hK k, c⟩
theorem obsL_eq {as : List Addr} {fa : List He.Fa} {fn : List He5.DefA} {ex : PySem.W.Frag → Bool} {g : Addr → Option Obj} {s : Shared} (h : ∀ a, g a = s.heap.get? a) : obsL as fa fn ex g = (hookL as fa fn ex).obs s := by
  have e : g = s.heap.get? := funext h
  rw [e] <;> rfl
end DL

set_option Elab.async false
set_option linter.all false
set_option maxRecDepth 100000
set_option maxHeartbeats 2000000
/-! A comprehension in a suite (an exception is held). -/
namespace DL
open PySem PySem.Spec PyProof.Rows L2
section
variable {ex : Option (Addr × Addr × Addr)} {W : WX} {X : Cx} {elt tg iter : Expr} {ifs : List Expr} {scope : Scope} {own : List (Str × Nat)} {pos : Pos} {wi : WI} {g : TG} {k : WG} {tt : WT} {te : WE}
abbrev DTsX (ex : Option (Addr × Addr × Addr)) (X : Cx) (ifs : List Expr) (w : WT) : Prop := PTs X ifs (liftT (gx X ex) WF w)
end
end DL

set_option Elab.async false
set_option linter.all false
set_option maxRecDepth 100000
set_option maxHeartbeats 2000000
/-! A store into a list of the def's own: x[i] = v. -/
namespace DL
open PySem PySem.Spec PyProof.Rows L2
section
variable {X : Cx} {ix : Expr} {wi : WE} {pos p0 : Pos} {i : Nat} {x : Str}
def stO (i : Nat) (p : Addr) (ds : List D) (y d : D) (ρ : DS) (k : DS → Prop) : Prop := match y with
  | .int j => match ixN ds.length j with
    | some z => k (ρ.set i (.own p (.lst (ds.set z d))))
    | none => False
  | _ => False
def subO (i : Nat) (wi : WE) (d : D) (ρ : DS) (μ : Mu) (Q : DS → Mu → Prop) (o : Option Sl) : Prop := match o with
  | some (.own p (.lst ds)) => wi ρ μ (fun y μ2 => stO i p ds y d ρ fun ρ' => Q ρ' μ2) xF
  | _ => False
def kSubO (i : Nat) (wi : WE) : WG := fun d ρ μ Q => subO i wi d ρ μ Q (ρ[i]?)
end
end DL

set_option Elab.async false
set_option linter.all false
set_option maxRecDepth 100000
set_option maxHeartbeats 4000000
set_option autoImplicit false
/-! xs.remove(x) of data, of a list of the def's own. -/
namespace DL
open PySem PySem.Spec PyProof.Rows L2
def rRemD (K : PySem.W.Frag) : V → List V → Hp → VK → Prop := fun x xs H Q => ∃ (a : Addr) (vs : List V) (y : V) (d : PyData) (ds : List PyData) (j : Nat) (z : PyData), x = V.ref a ∧ xs = [y] ∧ H a = some (.lst vs) ∧ Dp K H (V.ref a) (.list ds) ∧ Dp K H y d ∧
  SeqAt.shaped (.list ds) = true ∧ SeqAt.shaped d = true ∧ ds[j]? = some z ∧ PyData.eqv z d = true ∧ (∀ (m : Nat) (z' : PyData), m < j → ds[m]? = some z' → PyData.eqv z' d = false) ∧ Q .non (upd H a (.lst (vs.eraseIdx j)))
theorem mt_removeD {X : Cx} (hu : X.A.units + 65 < cLine) : MtM X "list.remove" (rRemD X.K) := by
  intro pins s σ H x xs v us Q I rx rxs h
  obtain ⟨a, vs, y, d, ds, j, zz, rfl, rfl, hH, hl, hy, sl, sd, hj, hz, hno, q⟩ := h
  cases rx
  cases rxs with
  | cons ry rt =>
    rename_i uy ut
    cases rt
    obtain ⟨bs, r1⟩ := Dp.reads I d y uy hy ry
    have hxs : PyData.canLayAll0 ds = true := SeqAt.canLay_of_shaped sl
    have hroom : X.A.units + 1 + min (PyData.depthAll ds) d.depth < cLine := room_in_shaped sd hu
    cases hl with
    | lst hs ha =>
      obtain ⟨z, its, n, r, hlen, e⟩ := I.lstM hH
      have same : ∀ {vs'}, SqL X.K H a vs' → Vals vs' its := fun {vs'} hs => by
        obtain ⟨its2, rv, ⟨⟨cls, dd, data, sls⟩, n2, ho, hc, hdn, hdt⟩, hlen2⟩ := I.list hs
        simp only at hc hdt
        subst hc hdt
        rw [e] at ho
        have := Option.some.inj ho
        injection this with _ _ h3 _
        injection h3 with h4 _
        have h5 : its = its2 := by
          have := congrArg Array.toList h4
          simpa using this
        rw [h5]
        exact rv
      obtain ⟨as, h4⟩ := Dp.readsAll I ds _ its ha (same hs)
      have hmap : its.map (SeqAt.readOf s.heap) = ds := SeqAt.readsAll_map ds its as hxs h4
      have hjl : j < its.length := by
        have := (List.getElem?_eq_some_iff.mp hj).1
        rw [← hmap, List.length_map] at this
        exact this
      refine call_meets PySem.F.slot_list_remove ⟨_, e, rfl⟩ PySem.F.entry_list_remove (PySem.F.args_list_remove_2 _ _)
        (PySem.SeqAt.list_removeAt a its.toArray n none #[] uy (fun u => PyData.eqv (SeqAt.readOf s.heap u) d) j (by simpa using hjl) ?_ ?_ ?_) ⟨e, SeqAt.items_eqAt (vs := its.toArray) (show ReadsAll s.heap its.toArray.toList ds as from h4) r1 hxs (SeqAt.canLay_of_shaped sd) hroom, ?_⟩
      · have h1 : its[j]? = some its[j] := List.getElem?_eq_getElem hjl
        rw [← hmap, List.getElem?_map, h1] at hj
        have h2 := Option.some.inj hj
        show PyData.eqv (SeqAt.readOf s.heap its.toArray[j]) d = true
        rw [show its.toArray[j] = its[j] from by simp, h2]
        exact hz
      · intro m hm hmj
        have hml : m < its.length := by simpa using hm
        show PyData.eqv (SeqAt.readOf s.heap its.toArray[m]) d = false
        rw [show its.toArray[m] = its[m] from by simp]
        exact hno m _ hmj (by rw [← hmap, List.getElem?_map, List.getElem?_eq_getElem hml]; rfl)
      · rw [List.size_toArray]
        omega
      · refine ⟨.non, _, I.lset (its' := its.eraseIdx j) (t' := s.toks) hH e ?_ (r.eraseIdx j) ?_, rfl, q⟩
        · show its.toArray.eraseIdxIfInBounds j = (its.eraseIdx j).toArray
          rw [List.eraseIdxIfInBounds_toArray]
        · have z2 := len_erase vs j
          omega
section
variable {ex : Option (Addr × Addr × Addr)} {W : WX} {X : Cx} {e : Expr} {wa : WE} {pos p0 apos cpos : Pos} {i : Nat} {x : Str}
/-- the item that is taken away -/
def remD (ds : List D) (y : D) (k : List D → Prop) : Prop := ∃ p qs, toP y = some p ∧ toPs ds = some qs ∧ SeqAt.shaped p = true ∧ SeqAt.shaped (.list qs) = true ∧ ∃ (j : Nat) (z : PyData), qs[j]? = some z ∧ PyData.eqv z p = true ∧ (∀ (m : Nat) (z' : PyData), m < j → qs[m]? = some z' → PyData.eqv z' p = false) ∧ k (ds.eraseIdx j)
def remO (i : Nat) (wa : WA) (E : DEnds) (ρ : DS) (μ : Mu) (o : Option Sl) : Prop := match o with
  | some (.own p (.lst ds)) => wa ρ μ (fun xs μ1 => ∃ d, xs = [d] ∧ remD ds d fun ds' => E.nx (ρ.set i (.own p (.lst ds'))) μ1) fun c ks es μ' => E.xc c ks es ρ μ'
  | _ => False
def sRemO (i : Nat) (wa : WA) : WS := fun E ρ μ => remO i wa E ρ μ (ρ[i]?)
theorem remO_of {wa : WA} {E : DEnds} {ρ : DS} {μ : Mu} {o : Option Sl} {i : Nat} (h : remO i wa E ρ μ o) : ∃ p ds, o = some (.own p (.lst ds)) ∧ wa ρ μ (fun xs μ1 => ∃ d, xs = [d] ∧ remD ds d fun ds' => E.nx (ρ.set i (.own p (.lst ds'))) μ1) fun c ks es μ' => E.xc c ks es ρ μ' := by
  unfold remO at h
  split at h
  · exact ⟨_, _, rfl, h⟩
  · exact h.elim
theorem Reps.erase {G : Gx} {m : List Addr} {E : Hp} : ∀ {ds : List D} {vs : List V} (j : Nat), Reps G m E ds vs → Reps G m E (ds.eraseIdx j) (vs.eraseIdx j)
  | [], vs, j, r => by
    rw [Reps] at r
    subst r
    exact Reps.nil
  | d :: ds, vs, j, r => by
    obtain ⟨v, t, rfl, r1, r2⟩ := r.uncons
    cases j with
    | zero => exact r2
    | succ j => exact Reps.cons r1 (Reps.erase j r2)
theorem ds_remO {ws : WA} (hu : X.A.units + 65 < cLine) (hN : X.N[i]? = some x) (ha : DA ex W X [e] ws) (hv : Vis X.env.scope x := by first | exact Or.inl rfl | exact Or.inr (Or.inl rfl) | exact Or.inr (Or.inr rfl)) (hd : (x == ("__debug__" : Str)) = false := by decide) (hcd : (x == ("__classdict__" : Str)) = false := by decide)
    (hbase : attributeBase (.Name x p0) "remove" X.env (eval (.Name x p0) X.env) = eval (.Name x p0) X.env := by rfl)
    (hfew : ((backTo cpos (starEach [e] X.env)).all (fun x => !x.1) && (backToKw cpos (keywordEach [] X.env)).all (fun x => x.1.isSome)
      && decide (([e] : List Expr).length + ([] : List Keyword).length + (if ([] : List Keyword).isEmpty then 0 else 1) < 30)) = true := by rfl)
    (hline : (apos.endLine == cpos.line) = true := by rfl) (hs : starEach [e] X.env = (false, eval e X.env) :: starEach [] X.env := by rfl) (hplain : (backTo cpos (starEach [] X.env)).any (·.1) = false := by rfl)
    (hsw : swapsWith (.Call (.Attribute (.Name x p0) "remove" apos) [e] [] cpos) none pos.line X.env = pure false := by rfl) :
    DSt ex W X (.Expr (.Call (.Attribute (.Name x p0) "remove" apos) [e] [] cpos) pos) (sRemO i ws) :=
  ps_weak (ps_expr (pe_bm PySem.F.plainAttrs_list PySem.F.slot_list_remove PySem.F.type_list_remove (mt_removeD hu) (pe_var hN hv hd hcd) ha hbase hfew hline hs hplain) hsw) fun De σ H q => by
  obtain ⟨Z, m, ρ, μ, E, S, q, kn, kr, kb, kc, kx⟩ := q
  obtain ⟨p, ds, hi, q⟩ := remO_of q
  obtain ⟨hs, nz, vs0, hp0, rs0⟩ := S.own i p _ hi
  refine ⟨_, hs, .inl ⟨rfl, _, .inl (.inl hp0)⟩, Z, m, ρ, μ, _, _, S, q, fun xs H1 P => ?_, fun cls d H' P => kx cls d σ H' (XSPost.of S P)⟩
  obtain ⟨m1, es, μ1, s1, r1, d, rfl, pd, qs, e1, e2, sh1, sh2, j, z, hj, hz, hno, q1⟩ := P
  obtain ⟨v, t, rfl, r3, r2⟩ := r1.uncons
  rw [Reps] at r2
  subst r2
  have S1 := S.step s1
  obtain ⟨_, _, vs, hp, rs⟩ := S1.own i p _ hi
  refine ⟨p, vs, v, pd, qs, j, z, rfl, rfl, hp, .lst (.inl (.inl hp)) (dps_of vis_le _ _ _ rs e2), dp_of vis_le _ _ _ r3 e1, sh2, sh1, hj, hz, hno, ?_⟩
  obtain ⟨S2, s2⟩ := S1.putOwn (o := .lst (vs.eraseIdx j)) (c' := .lst (ds.eraseIdx j)) hi ⟨vs.eraseIdx j, upd_same, Reps.erase j rs⟩
  exact kn _ _ ⟨m1, _, μ1, S2, (SStep.of s1).trans s2, q1⟩
end
end DL

set_option Elab.async false
set_option linter.all false
set_option maxRecDepth 100000
set_option maxHeartbeats 4000000
set_option autoImplicit false
/-! xs.pop(i) of a cell. -/
namespace DL
open PySem PySem.Spec PyProof.Rows L2
def isC (x : D) (μ : Mu) (k : Prop) : Prop := match x with
  | .loc n => match μ[n]? with
    | some (.lst _) => k
    | _ => False
  | _ => False
theorem isC_of {x : D} {μ : Mu} {k : Prop} (h : isC x μ k) : ∃ n ds, x = .loc n ∧ μ[n]? = some (.lst ds) ∧ k := by
  unfold isC at h
  split at h
  · split at h
    · exact ⟨_, _, rfl, by assumption, h⟩
    · exact h.elim
  · exact h.elim
def popL (x y : D) (μ : Mu) (Q : D → Mu → Prop) : Prop := match x, y with
  | .loc n, .int j => match μ[n]? with
    | some (.lst ds) => 0 ≤ j ∧ j < 2 ^ 62 ∧ (match ds[j.toNat]? with
      | some d => Q d (μ.set n (.lst (ds.eraseIdx j.toNat)))
      | none => False)
    | _ => False
  | _, _ => False
theorem popL_of {x y : D} {μ : Mu} {Q : D → Mu → Prop} (h : popL x y μ Q) : ∃ n j ds d, x = .loc n ∧ y = .int j ∧ μ[n]? = some (.lst ds) ∧ 0 ≤ j ∧ j < 2 ^ 62 ∧ ds[j.toNat]? = some d ∧ Q d (μ.set n (.lst (ds.eraseIdx j.toNat))) := by
  unfold popL at h
  split at h
  · split at h
    · obtain ⟨h1, h2, h⟩ := h
      split at h
      · exact ⟨_, _, _, _, rfl, rfl, by assumption, h1, h2, by assumption, h⟩
      · exact h.elim
    · exact h.elim
  · exact h.elim
def wPopL (wo wa : WE) : WE := fun ρ μ Q Xd => wo ρ μ (fun x μ1 => isC x μ1 (wa ρ μ1 (fun y μ2 => popL x y μ2 Q) Xd)) Xd
section
variable {W : WX} {X : Cx} {e o : Expr} {wa wo : WE} {pos apos : Pos}
theorem de_popL (ho : DE none W X o wo) (ha : DE none W X e wa)
    (hbase : attributeBase o "pop" X.env (eval o X.env) = eval o X.env := by rfl)
    (hfew : ((backTo pos (starEach [e] X.env)).all (fun x => !x.1) && (backToKw pos (keywordEach [] X.env)).all (fun x => x.1.isSome)
      && decide (([e] : List Expr).length + ([] : List Keyword).length + (if ([] : List Keyword).isEmpty then 0 else 1) < 30)) = true := by rfl)
    (hline : (apos.endLine == pos.line) = true := by rfl) (hs : starEach [e] X.env = (false, eval e X.env) :: starEach [] X.env := by rfl) (hplain : (backTo pos (starEach [] X.env)).any (·.1) = false := by rfl) :
    DE none W X (.Call (.Attribute o "pop" apos) [e] [] pos) (wPopL wo wa) :=
  pe_weak (pe_bm PySem.F.plainAttrs_list PySem.F.slot_list_pop PySem.F.type_list_pop mt_popAt ho (pa_cons ha pa_nil hs) hbase hfew hline hs hplain) fun σ H Q' q => by
  refine lift_bind (f := fun x ρ μ1 Q Xd => isC x μ1 (wa ρ μ1 (fun y μ2 => popL x y μ2 Q) Xd)) q fun Z m ρ μ Q Xd x v H1 S r1 q1 k kx => ?_
  obtain ⟨n, ds0, rfl, en0, q2⟩ := isC_of q1
  rw [Rep] at r1
  obtain ⟨a, rfl, ea⟩ := r1
  obtain ⟨vs0, hv0, rv0⟩ := S.mu.cell n _ a en0 ea
  refine ⟨.inl ⟨rfl, vs0, .inl (.inl hv0)⟩, Z, m, ρ, μ, _, Xd, S, q2, fun u H2 P => ?_, kx⟩
  obtain ⟨m2, y, μ2, s2, r2, q3⟩ := P
  obtain ⟨n', j, ds, d, en', rfl, en, j0, jl, ed, q4⟩ := popL_of q3
  cases en'
  rw [Rep] at r2
  subst r2
  show rPopAt (V.ref a) [V.int j] H2 Q'
  have ea2 : m2[n]? = some a := by
    obtain ⟨t, rfl⟩ := s2.pre
    rw [List.getElem?_append_left (List.getElem?_eq_some_iff.mp ea).1]
    exact ea
  obtain ⟨vs, hv, rv⟩ := s2.mu.cell n _ a en ea2
  obtain ⟨w, hw, rw'⟩ := Reps.get rv ed
  have lt : j.toNat < vs.length := (List.getElem?_eq_some_iff.mp hw).1
  have sx : seqIndex? j vs.length = some j.toNat := by
    have h0 : ¬ j < 0 := by omega
    have h1 : (decide (0 ≤ j) && decide (j < (vs.length : Int))) = true := by
      rw [decide_eq_true j0, decide_eq_true (by omega)]
      rfl
    unfold seqIndex?
    simp only [h0, if_false, h1, if_true]
  refine ⟨a, vs, j, j.toNat, w, rfl, rfl, hv, by omega, by omega, sx, hw, ?_⟩
  have s3 : Step (gx X none) (ownW Z σ ρ) m2 H2 m2 (μ2.set n (.lst (ds.eraseIdx j.toNat))) (upd H2 a (.lst (vs.eraseIdx j.toNat))) := Step.put s2.mu ea2 ⟨_, upd_same, Reps.erase _ rv⟩
  exact k _ _ (VPost.from s2 ⟨_, d, _, s3, Rep.mono s3.pre s3.same _ _ rw', q4⟩)
end
end DL

set_option Elab.async false
set_option linter.all false
set_option maxRecDepth 100000
set_option maxHeartbeats 4000000
set_option autoImplicit false
/-! A comprehension's list kept as a cell. -/
namespace DL
open PySem PySem.Spec PyProof.Rows L2
def cellQ (Q : D → Mu → Prop) : D → Mu → Prop := fun d μ => match d with
  | .lst acc => Q (.loc μ.length) (μ ++ [.lst acc])
  | _ => False
def wLcC (wi : WI) (k : WG) (tt : WT) (te : WE) (vs : List Nat) : WE := fun ρ μ Q Xd => wLc wi k tt te vs ρ μ (cellQ Q) Xd
theorem lift_lcC {G : Gx} {W : WX} {wi : WI} {g : TG} {k : WG} {tt : WT} {te : WE} {vs : List Nat} (hg : LcG G vs g k) {σ : L2.St} {H : Hp} {Q' : VK} (q : lift G W (wLcC wi k tt te vs) σ H Q') :
    tLc (liftIF G W wi) g (liftT G WF tt) (lift G WF te) vs σ H Q' := by
  obtain ⟨Z, m, ρ, μ, Q, Xd, S, q, kq, kx⟩ := q
  refine ⟨Z, m, ρ, μ, _, Xd, S, q, fun J H1 P => ?_, kx⟩
  obtain ⟨m1, ds, μ1, F, s1, hF, ok, no', q1⟩ := P
  have no : noOwn ρ vs := fun v hv a ds => notOwn_of (no' v hv) a ds
  intro D nD
  have S1 := S.step s1
  have E0 := own_wipe' (Z := Z) (σ := σ) (ρ := ρ) (vs := vs) no
  have Sw := S1.wiped (vs := vs) no
  obtain ⟨Mh, sh⟩ := MuOk.hide (o := .lst []) S1.mu nD
  -- the state of a turn
  have base : SR G (addZ Z D) m1 (wipe σ vs) (upd H1 D (.lst [])) (wipeD ρ vs) μ1 := by
    refine ⟨Sw.len, by rw [own_add, E0]; exact Mh, fun i d e => ?_, fun i a es e => ?_, Sw.dis, fun i c ks es e => ?_⟩
    · obtain ⟨v, h1, h2⟩ := Sw.val i d e
      rw [E0] at h2
      exact ⟨v, h1, by rw [own_add, E0]; exact Rep.mono (List.prefix_refl _) sh _ _ h2⟩
    · obtain ⟨h1, h2, h4⟩ := Sw.own i a es e
      rw [E0] at h4
      have na : a ≠ D := fun z => h4.there (by rw [z, nD])
      exact ⟨h1, fun z => z.elim h2 na, by rw [own_add, E0]; exact h4.keep (List.prefix_refl _) sh (upd_ne na)⟩
    · have z := Sw.exn i c ks es e
      rw [E0] at z
      rw [own_add, E0]
      exact z.mono (List.prefix_refl _) sh
  have nDW : ¬ ownW Z σ ρ D := fun z => S1.mu.hw D z nD
  let In : List DL.D → Hp → Prop := fun rest H' => ∃ m' μ' acc us, m1 <+: m' ∧ (∀ z, ownW Z σ ρ z → H' z = H1 z) ∧ SR G (addZ Z D) m' (wipe σ vs) H' (wipeD ρ vs) μ' ∧ Same (vis (ownW Z σ ρ) m1 H1) (vis (addZ (ownW Z σ ρ) D) m' H') ∧
    H' D = some (.lst us) ∧ Reps G m' (vis (addZ (ownW Z σ ρ) D) m' H') acc us ∧ lcL k tt te (wipeD ρ vs) rest acc μ' (cellQ Q)
  refine ⟨fun i n H' => n = ds.length - i ∧ i ≤ ds.length ∧ In (ds.drop i) H', ⟨_, rfl, Nat.zero_le _, m1, μ1, [], [], List.prefix_refl _, fun z hz => upd_ne fun e => nDW (e ▸ hz), base, sh, upd_same, Reps.nil, q1⟩, ?_⟩
  rintro i n H' ⟨rfl, hle, m', μ', acc, us, pm, hid, S', sm, hD, ra, q'⟩
  have vis' : Same (vis (ownW Z σ ρ) m1 H1) H' := sm.trans vis_le
  by_cases hlt : i < ds.length
  · refine .inr ⟨ok.go i H' hlt vis' (hF H' hid), In (ds.drop (i + 1)), fun H2 h2 => ⟨_, (by omega : ds.length - (i + 1) < ds.length - i), rfl, hlt, h2⟩, fun x H3 y => ?_⟩
    obtain ⟨d, ed, hy⟩ := ok.yld i H' x H3 hlt vis' (hF H' hid) y
    obtain ⟨hi', ee⟩ := List.getElem?_eq_some_iff.mp ed
    rw [List.drop_eq_getElem_cons hi', lcL, ee] at q'
    have ow : ownW (addZ Z D) (wipe σ vs) (wipeD ρ vs) = addZ (ownW Z σ ρ) D := by rw [own_add, E0]
    have : SR G (addZ Z D) m' (wipe σ vs) H3 (wipeD ρ vs) μ' ∧ Same (vis (addZ (ownW Z σ ρ) D) m' H') (vis (addZ (ownW Z σ ρ) D) m' H3) ∧ (∀ z, addZ (ownW Z σ ρ) D z → H3 z = H' z) ∧ Rep G m' (vis (addZ (ownW Z σ ρ) D) m' H3) d x := by
      rcases hy with ⟨rfl, rd⟩ | ⟨T, o, nT, rfl, rd⟩
      · exact ⟨S', Same.refl _, fun _ _ => rfl, Rep.mono pm sm _ _ rd⟩
      · have st := Step.laid (o := o) S'.mu nT
        rw [ow] at st
        exact ⟨S'.step (by rw [ow]; exact st), st.same, st.hid, rd _ _ pm (sm.trans st.same) (by rw [vis_upd (ow ▸ S'.mu) nT, upd_same])⟩
    obtain ⟨S3, sm3, hid3, rd⟩ := this
    refine hg (addZ Z D) m' μ' (wipe σ vs) H3 (wipeD ρ vs) d x _ _ S3 (by rw [ow]; exact rd) q' fun σ4 ρ4 S4 ow4 ew q4 => ⟨?_, ?_⟩
    · exact ew.trans (wipe_wipe σ vs)
    · refine ⟨addZ Z D, m', ρ4, μ', _, _, S4, q4, fun b H5 P => ?_, fun cls dd H5 P => (xpF P).elim⟩
      obtain ⟨m5, μ5, s5, q5⟩ := P
      rw [ow4, ow] at s5
      have back : ∀ {m6 μ6 H6}, Step G (addZ (ownW Z σ ρ) D) m' H3 m6 μ6 H6 → SR G (addZ Z D) m6 (wipe σ vs) H6 (wipeD ρ vs) μ6 := fun {m6 μ6 H6} s6 => S3.step (by rw [ow]; exact s6)
      cases b with
      | false =>
        rw [if_neg Bool.false_ne_true] at q5 ⊢
        exact ⟨m5, μ5, acc, us, pm.trans s5.pre, fun z hz => ((s5.hid z (.inl hz)).trans (hid3 z (.inl hz))).trans (hid z hz), back s5, (sm.trans sm3).trans s5.same, ((s5.hid D (.inr rfl)).trans (hid3 D (.inr rfl))).trans hD, Reps.mono s5.pre (sm3.trans s5.same) _ _ ra, q5⟩
      | true =>
        rw [if_pos rfl] at q5 ⊢
        refine ⟨addZ Z D, m5, ρ4, μ5, _, _, S4.step (by rw [ow4, ow]; exact s5), q5, fun u H6 P => ?_, fun cls dd H6 P => (xpF P).elim⟩
        obtain ⟨m6, yd, μ6, s6, r6, hlen, q6⟩ := P
        rw [ow4, ow] at s6 r6
        have s56 := s5.trans s6
        refine ⟨us, ((s56.hid D (.inr rfl)).trans (hid3 D (.inr rfl))).trans hD, by rw [← ra.len]; exact Nat.lt_of_lt_of_le hlen (by decide), ?_⟩
        refine ⟨m6, μ6, acc ++ [yd], us ++ [u], pm.trans s56.pre, fun z hz => ?_, (back s56).hid, ?_, upd_same, ?_, q6⟩
        · have hb : z ≠ D := fun e => nDW (e ▸ hz)
          rw [upd_ne hb]
          exact ((s56.hid z (.inl hz)).trans (hid3 z (.inl hz))).trans (hid z hz)
        · rw [vis_hidden]
          exact (sm.trans sm3).trans s56.same
        · rw [vis_hidden]
          exact Reps.append (Reps.mono s56.pre (sm3.trans s56.same) _ _ ra) (Reps.cons r6 Reps.nil)
  · have e : i = ds.length := by omega
    subst e
    rw [List.drop_length, lcL] at q'
    refine .inl ⟨ok.stop H' vis' (hF H' hid), kq _ _ (VPost.from s1 ?_)⟩
    have ow : ownW (addZ Z D) (wipe σ vs) (wipeD ρ vs) = addZ (ownW Z σ ρ) D := by rw [own_add, E0]
    have M' := S'.mu
    rw [ow] at M'
    have sub : ∀ b, ownW Z σ ρ b → addZ (ownW Z σ ρ) D b := fun b h => .inl h
    have q2 : Q (.loc μ'.length) (μ' ++ [.lst acc]) := q'
    have nDm : D ∉ m' := fun z => M'.out D z (.inr rfl)
    have ev : vis (addZ (ownW Z σ ρ) D) m' H' = vis (ownW Z σ ρ) (m' ++ [D]) H' := by
      funext b
      unfold vis addZ
      congr 1
      apply propext
      rw [List.mem_append, List.mem_singleton]
      constructor
      · rintro ((h | h) | h)
        · exact .inl h
        · exact .inr (.inr h)
        · exact .inr (.inl h)
      · rintro (h | h | h)
        · exact .inl (.inl h)
        · exact .inr h
        · exact .inl (.inr h)
    have pre : m' <+: m' ++ [D] := List.prefix_append _ _
    refine ⟨m' ++ [D], .loc μ'.length, μ' ++ [.lst acc], ⟨pm.trans pre, hid, ⟨by simp [M'.len], ?_, fun a ha => ?_, fun z hz => M'.hw z (.inl hz), fun n c a hd ha => ?_⟩, by rw [← ev]; exact sm⟩, ?_, q2⟩
    · rw [List.nodup_append]
      refine ⟨M'.nd, by simp, fun a ha b hb => ?_⟩
      rw [List.mem_singleton] at hb
      subst hb
      exact fun e => nDm (e ▸ ha)
    · rcases List.mem_append.mp ha with q | q
      · exact fun z => M'.out a q (.inl z)
      · rw [List.mem_singleton] at q
        subst q
        exact nDW
    · rw [← ev]
      by_cases hn : n < m'.length
      · rw [List.getElem?_append_left hn] at ha
        rw [List.getElem?_append_left (by rw [← M'.len]; exact hn)] at hd
        exact (M'.cell n c a hd ha).keep pre (Same.refl _) rfl
      · have hl := (List.getElem?_eq_some_iff.mp ha).1
        rw [List.length_append, List.length_singleton] at hl
        have en : n = m'.length := by omega
        subst en
        rw [List.getElem?_concat_length] at ha
        rw [M'.len, List.getElem?_concat_length] at hd
        cases ha
        cases hd
        exact ⟨us, hD, Reps.mono pre (Same.refl _) _ _ ra⟩
    · rw [Rep]
      exact ⟨D, rfl, by rw [← M'.len]; exact List.getElem?_concat_length⟩
section
variable {W : WX} {X : Cx} {elt tg iter : Expr} {ifs : List Expr} {scope : Scope} {own : List (Str × Nat)} {pos : Pos} {wi : WI} {g : TG} {k : WG} {tt : WT} {te : WE}
theorem de_lcC (hc : X.calm = true) (hN : X.N.Nodup) (hi : DI none W X tg iter wi) (ok : BlkOk X.N X.env.scope scope own) (hk : LcG (gx X none) (own.map (·.2)) g k)
    (hg : ∀ (s : Shared) (H : Hp) (C : Addr) (cl : List (Str × Addr)) (fp : List Addr), PG (X.blk s H scope (compEnvC scope cl C X.env) fp) tg g) (ht : ∀ (s : Shared) (H : Hp) (C : Addr) (cl : List (Str × Addr)) (fp : List Addr), DTs (X.blk s H scope (compEnvC scope cl C X.env) fp) ifs tt)
    (he : ∀ (s : Shared) (H : Hp) (C : Addr) (cl : List (Str × Addr)) (fp : List Addr), DE none WF (X.blk s H scope (compEnvC scope cl C X.env) fp) elt te) (hs : ∀ x, foldedSetIterable iter X.env x = pure x := by intro _; rfl) :
    DE none W X (.ListComp elt [⟨tg, iter, ifs, 0⟩] scope pos) (wLcC wi k tt te (own.map (·.2))) := pe_weak (pe_lc hc hN hi.toF ok hg ht he hs) fun _ _ _ q => lift_lcC hk q
end
end DL

set_option Elab.async false
set_option linter.all false
set_option maxRecDepth 100000
set_option maxHeartbeats 2000000
set_option autoImplicit false
/-! x in found, x not in found of an own list, as tests. -/
namespace DL
open PySem PySem.Spec PyProof.Rows L2
section
variable {ex : Option (Addr × Addr × Addr)} {W : WX} {X : Cx} {e : Expr} {wa : WE} {pos p0 : Pos} {i : Nat} {x : Str}
theorem dt_ownIn (hu : X.A.units + 65 < cLine) (hN : X.N[i]? = some x) (ha : DE ex W X e wa) (hm : behindInMarks .In (.Name x p0) = false) (hv : Vis X.env.scope x := by first | exact Or.inl rfl | exact Or.inr (Or.inl rfl) | exact Or.inr (Or.inr rfl)) (hd : (x == ("__debug__" : Str)) = false := by decide) (hcd : (x == ("__classdict__" : Str)) = false := by decide) :
    DT ex W X (.Compare e [.In] [.Name x p0] pos) (wB (wOwnIn false i wa)) := pt_weak (pt_cmpR (op_inD hu) ha (pe_var hN hv hd hcd) hm) fun σ H Q' q => by
  have h := lift_wB q
  obtain h : lift _ _ _ σ H _ := h
  obtain ⟨Z, m, ρ, μ, Q, Xd, S, q, k, kx⟩ := lift_ownIn h
  refine ⟨Z, m, ρ, μ, Q, Xd, S, q, fun v H1 P => ?_, kx⟩
  obtain ⟨v', e, p, qs, h1, h2, h3, h4, q1⟩ := k v H1 P
  refine ⟨v', e, p, qs, h1, h2, h3, h4, ?_⟩
  rw [Bool.false_xor] at q1
  exact q1
end
end DL

set_option Elab.async false
set_option linter.all false
set_option maxRecDepth 100000
set_option maxHeartbeats 4000000
set_option autoImplicit false
/-! Changeable instances: attributes stored, property setters; == of tuples of own things; a sum of lists as an own list. -/
namespace DL
open PySem PySem.Spec PyProof.Rows L2
/-! ### o.f = value, o a cell -/
def putL (c f : Str) (x d : D) (μ : Mu) (k : Mu → Prop) : Prop := match x with
  | .loc n => match μ[n]? with
    | some (.ins c' ks ds) => c' = c ∧ ks.length < 1000 ∧ k (μ.set n (.ins c (putK f ks) (putD f d ks ds)))
    | _ => False
  | _ => False
def sFldL (c f : Str) (wo wa : WE) : WS := fun E ρ μ => wa ρ μ (fun d μ1 => wo ρ μ1 (fun x μ2 => putL c f x d μ2 (E.nx ρ)) (fun c ks es μ' => E.xc c ks es ρ μ')) fun c ks es μ' => E.xc c ks es ρ μ'
section
variable {W : WX} {X : Cx} {o value : Expr} {wa wo : WE} {pos pos' : Pos}
/-! ### o.f = value, f a property with a setter -/
structure SetD (P : Program) (w : World) (K : PySem.W.Frag) (mg : Str → Option Value) (base : Heap) (k : Nat) (c f : Str) (ps : List Str) (sp : DSp) : Prop where
  ex : ∃ C p g fd, mg c = some (.ref C) ∧ Cls K C ∧ PySem.W.takerIn K C f = some (some (.ref p)) ∧ PySem.W.typeIn K (.ref p) = some (.type "property") ∧ (∃ a rest, PySem.W.recIn K p "property" = some (a :: .ref g :: rest)) ∧ Binds K fd ps [] ∧ FnG P w K mg base k g fd ps (toSp ⟨K, mg, none⟩ sp)
def sPropS (c : Str) (sp : DSp) (wo wa : WE) : WS := fun E ρ μ => wa ρ μ (fun d μ1 => wo ρ μ1 (fun x μ2 => isCls c x μ2 (sp [x, d] μ2 (fun _ μ3 => E.nx ρ μ3) (fun c ks es μ' => E.xc c ks es ρ μ'))) (fun c ks es μ' => E.xc c ks es ρ μ')) fun c ks es μ' => E.xc c ks es ρ μ'
end
/-! ### == of tuples whose items have an own `__eq__` -/
def tupE (x : D) (k : List D → Prop) : Prop := match x with
  | .tup ds => k ds
  | _ => False
def fEqT (c : Str) (sp : DSp) : F2 := fun x y μ Q => tupE x fun ds => tupE y fun es => prsO c sp μ ds es ∧ Q (.bl true) μ
section
variable {X : Cx} {k j : Nat} {ps : List Str} {c : Str} {Ts : List String} {Cs : List Str} {sp : DSp}
end
/-! ### x = a + b, lists, x the def's own -/
def catO (x y : D) (k : List D → Prop) : Prop := match x, y with
  | .lst a, .lst b => a.length + b.length ≤ 1000 ∧ k (a ++ b)
  | _, _ => False
def sSetCat (i : Nat) (wa wb : WE) : WS := fun E ρ μ => wa ρ μ (fun x μ1 => wb ρ μ1 (fun y μ2 => catO x y fun ds => i < ρ.length ∧ ∀ p, E.nx (ρ.set i (.own p (.lst ds))) μ2) (fun c ks es μ' => E.xc c ks es ρ μ')) fun c ks es μ' => E.xc c ks es ρ μ'
section
variable {W : WX} {X : Cx} {a b : Expr} {wa wb : WE} {pos : Pos}
end
end DL

set_option Elab.async false
set_option linter.all false
set_option maxRecDepth 100000
set_option maxHeartbeats 4000000
set_option autoImplicit false
/-! Loops over lists that may be cells: the cell must stand at each turn. list(x), x.append(v), o[i] = v with cells. -/
namespace DL
open PySem PySem.Spec PyProof.Rows L2
structure ItOkC (G : Gx) (J : It) (m0 : List Addr) (E0 : Hp) (C : Mu → Prop) (ds : List D) : Prop where
  go : ∀ (i : Nat) (Z : Addr → Prop) (m : List Addr) (μ : Mu) H, i < ds.length → m0 <+: m → Same E0 (vis Z m H) → MuOk G Z m μ H → C μ → J.go i H
  stop : ∀ (Z : Addr → Prop) (m : List Addr) (μ : Mu) H, m0 <+: m → Same E0 (vis Z m H) → MuOk G Z m μ H → C μ → J.stop ds.length H
  yld : ∀ (i : Nat) (Z : Addr → Prop) (m : List Addr) (μ : Mu) H x H3, i < ds.length → m0 <+: m → Same E0 (vis Z m H) → MuOk G Z m μ H → C μ → J.yld i H x H3 →
    ∃ d, ds[i]? = some d ∧ ((H3 = H ∧ Rep G m (vis Z m H) d x) ∨ ∃ T o, H T = none ∧ H3 = upd H T o ∧ ∀ E, Same (vis Z m H) E → E T = some o → Rep G m E d x)
theorem ItOk.toC {G : Gx} {J : It} {m0 : List Addr} {E0 : Hp} {ds : List D} (h : ItOk G J m0 E0 ds) : ItOkC G J m0 E0 (fun _ => True) ds :=
  ⟨fun i Z m μ H a _ s _ _ => h.go i H a (s.trans vis_le), fun Z m μ H _ s _ _ => h.stop H (s.trans vis_le), fun i Z m μ H x H3 a p s _ _ y => by
    obtain ⟨d, e, r⟩ := h.yld i H x H3 a (s.trans vis_le) y
    refine ⟨d, e, ?_⟩
    rcases r with ⟨rfl, r⟩ | ⟨T, o, nT, rfl, r⟩
    · exact .inl ⟨rfl, Rep.mono p s _ _ r⟩
    · exact .inr ⟨T, o, nT, rfl, fun E hE eT => r m E p (s.trans hE) eT⟩⟩
abbrev WIC := DS → Mu → (List D → (Mu → Prop) → Mu → Prop) → XD → Prop
def IPostC (G : Gx) (Z : Addr → Prop) (m : List Addr) (H : Hp) (Q : List D → (Mu → Prop) → Mu → Prop) (J : It) (H' : Hp) : Prop :=
  ∃ m' ds μ' C, Step G Z m H m' μ' H' ∧ ItOkC G J m' (vis Z m' H') C ds ∧ Q ds C μ'
def liftIC (G : Gx) (W : WX) (w : WIC) : TI := fun σ H R => ∃ Z m ρ μ Q Xd, SR G Z m σ H ρ μ ∧ w ρ μ Q Xd ∧ (∀ J H', IPostC G (ownW Z σ ρ) m H Q J H' → R J H') ∧ ∀ cls d H', XPost G (ownW Z σ ρ) m H Xd cls d H' → W cls d σ H'
abbrev DIC (ex : Option (Addr × Addr × Addr)) (W : WX) (X : Cx) (tg e : Expr) (w : WIC) : Prop := PI X tg e (liftIC (gx X ex) W w)
/-- a list, shown or a cell -/
def celOr (d : D) (μ : Mu) (k : List D → (Mu → Prop) → Prop) : Prop := match d with
  | .lst ds => k ds fun _ => True
  | .frl ds => k ds fun _ => True
  | .loc n => match μ[n]? with
    | some (.lst ds) => k ds fun μ' => μ'[n]? = some (.lst ds)
    | _ => False
  | _ => False
theorem celOr_of {d : D} {μ : Mu} {k : List D → (Mu → Prop) → Prop} (h : celOr d μ k) : ∃ ds, ((d = .lst ds ∨ d = .frl ds) ∧ k ds fun _ => True) ∨ ∃ n, d = .loc n ∧ μ[n]? = some (.lst ds) ∧ k ds fun μ' => μ'[n]? = some (.lst ds) := by
  unfold celOr at h
  split at h
  · exact ⟨_, .inl ⟨.inl rfl, h⟩⟩
  · exact ⟨_, .inl ⟨.inr rfl, h⟩⟩
  · split at h
    · exact ⟨_, .inr ⟨_, rfl, by assumption, h⟩⟩
    · exact h.elim
  · exact h.elim
theorem cell_at {G : Gx} {Z : Addr → Prop} {m0 m : List Addr} {μ : Mu} {H : Hp} {n : Nat} {a : Addr} {ds : List D} (ha : m0[n]? = some a) (p : m0 <+: m) (M : MuOk G Z m μ H) (c : μ[n]? = some (.lst ds)) : ∃ vs, H a = some (.lst vs) ∧ Reps G m (vis Z m H) ds vs := by
  obtain ⟨t, rfl⟩ := p
  exact M.cell n _ a c (by rw [List.getElem?_append_left (List.getElem?_eq_some_iff.mp ha).1]; exact ha)
theorem itokC_list {G : Gx} {m0 : List Addr} {E0 : Hp} {n : Nat} {a : Addr} {ds : List D} (ha : m0[n]? = some a) : ItOkC G (Itl G.K a) m0 E0 (fun μ => μ[n]? = some (.lst ds)) ds := by
  refine ⟨fun i Z m μ H hi p s M c => ?_, fun Z m μ H p s M c => ?_, fun i Z m μ H x H3 hi p s M c y => ?_⟩
  · obtain ⟨vs, hv, r⟩ := cell_at ha p M c
    obtain ⟨v, e, _⟩ := r.get (List.getElem?_eq_getElem hi)
    exact ⟨vs, v, .inl (.inl hv), e⟩
  · obtain ⟨vs, hv, r⟩ := cell_at ha p M c
    exact ⟨vs, .inl (.inl hv), by rw [r.len]; exact Nat.le_refl _⟩
  · obtain ⟨vs, hv, r⟩ := cell_at ha p M c
    obtain ⟨e, y⟩ := y
    obtain ⟨d, ed, rd⟩ := r.get' (y vs (.inl (.inl hv)))
    exact ⟨d, ed, .inl ⟨e, rd⟩⟩
theorem itokC_enum {G : Gx} {m0 : List Addr} {E0 : Hp} {n : Nat} {a : Addr} {ds : List D} (ha : m0[n]? = some a) : ItOkC G (Ite G.K a) m0 E0 (fun μ => μ[n]? = some (.lst ds)) (enumD ds) := by
  have hl : (enumD ds).length = ds.length := by simp [enumD]
  refine ⟨fun i Z m μ H hi p s M c => ?_, fun Z m μ H p s M c => ?_, fun i Z m μ H x H3 hi p s M c y => ?_⟩
  · rw [hl] at hi
    obtain ⟨vs, hv, r⟩ := cell_at ha p M c
    obtain ⟨v, e, _⟩ := r.get (List.getElem?_eq_getElem hi)
    exact ⟨vs, v, .inl (.inl hv), e⟩
  · obtain ⟨vs, hv, r⟩ := cell_at ha p M c
    exact ⟨vs, .inl (.inl hv), by rw [hl, r.len]; exact Nat.le_refl _⟩
  · obtain ⟨vs, hv, r⟩ := cell_at ha p M c
    obtain ⟨T, x', e, nT, eH, y⟩ := y
    obtain ⟨d, ed, rd⟩ := r.get' (y vs (.inl (.inl hv)))
    refine ⟨.tup [.int (i : Nat), d], ?_, .inr ⟨T, _, nT, eH, fun E hE eT => ?_⟩⟩
    · simp only [enumD, List.getElem?_mapIdx, ed, Option.map_some]
    · rw [Rep]
      exact ⟨T, _, e, .inl (.inl eT), Reps.cons (by rw [Rep]) (Reps.cons (Rep.mono (List.prefix_refl _) hE _ _ rd) Reps.nil)⟩
def wiCel (wa : WE) : WIC := fun ρ μ Q Xd => wa ρ μ (fun d μ1 => celOr d μ1 fun ds C => Q ds C μ1) Xd
def cel1 (ds : List D) (μ : Mu) (k : List D → (Mu → Prop) → Prop) : Prop := match ds with
  | [d] => celOr d μ fun es C => k (enumD es) C
  | _ => False
theorem cel1_of {ds : List D} {μ : Mu} {k : List D → (Mu → Prop) → Prop} (h : cel1 ds μ k) : ∃ d, ds = [d] ∧ celOr d μ fun es C => k (enumD es) C := by
  unfold cel1 at h
  split at h
  · exact ⟨_, rfl, h⟩
  · exact h.elim
def wiEnC (wa : WA) : WIC := fun ρ μ Q Xd => wa ρ μ (fun ds μ1 => cel1 ds μ1 fun es C => Q es C μ1) Xd
section
variable {ex : Option (Addr × Addr × Addr)} {W : WX} {X : Cx} {tg e : Expr} {wa : WE} {ws : WA} {p pos : Pos}
theorem di_cel (h : DE ex W X e wa) : DIC ex W X tg e (wiCel wa) := pi_weak (pi_list h) fun σ H R q => by
  obtain ⟨Z, m, ρ, μ, Q, Xd, S, q, k, kx⟩ := q
  refine ⟨Z, m, ρ, μ, _, Xd, S, q, fun v H1 P => ?_, kx⟩
  obtain ⟨m1, d, μ1, s1, r1, q1⟩ := P
  obtain ⟨ds, ⟨hd, q2⟩ | ⟨n, rfl, en, q2⟩⟩ := celOr_of q1
  · obtain ⟨a, vs, e, sq, rs⟩ := lst_rep' hd r1
    exact ⟨a, e, ⟨vs, Same.seq vis_le sq⟩, k _ _ ⟨m1, ds, μ1, _, s1, (itok_list (G := gx X ex) sq rs).toC, q2⟩⟩
  · rw [Rep] at r1
    obtain ⟨a, rfl, ea⟩ := r1
    obtain ⟨vs, hv, _⟩ := s1.mu.cell n _ a en ea
    exact ⟨a, rfl, ⟨vs, .inl (.inl hv)⟩, k _ _ ⟨m1, ds, μ1, _, s1, itokC_list (G := gx X ex) ea, q2⟩⟩
theorem di_enC {elts : List Expr} {kk : Nat} {tpos : Pos} (hg : Gl X "enumerate") (hm : X.mg "enumerate" = none) (ha : DA ex W X [e] ws) (hs : starEach [e] X.env = [(false, eval e X.env)] := by rfl) :
    DIC ex W X (.Tuple elts kk tpos) (.Call (.Name "enumerate" p) [e] [] pos) (wiEnC ws) := pi_weak (pi_enum hg hm ha hs) fun σ H R q => by
  obtain ⟨Z, m, ρ, μ, Q, Xd, S, q, k, kx⟩ := q
  refine ⟨Z, m, ρ, μ, _, Xd, S, q, fun vs H1 P => ?_, kx⟩
  obtain ⟨m1, ds, μ1, s1, r1, q1⟩ := P
  obtain ⟨d, rfl, q2⟩ := cel1_of q1
  obtain ⟨v, t, rfl, r2, r3⟩ := r1.uncons
  rw [Reps] at r3
  subst r3
  obtain ⟨es, ⟨hd, q2⟩ | ⟨n, rfl, en, q2⟩⟩ := celOr_of q2
  · obtain ⟨a, vs, rfl, sq, rs⟩ := lst_rep' hd r2
    exact ⟨a, vs, rfl, Same.seq vis_le sq, k _ _ ⟨m1, _, μ1, _, s1, (itok_enum (G := gx X ex) sq rs).toC, q2⟩⟩
  · rw [Rep] at r2
    obtain ⟨a, rfl, ea⟩ := r2
    obtain ⟨vs, hv, _⟩ := s1.mu.cell n _ a en ea
    exact ⟨a, vs, rfl, .inl (.inl hv), k _ _ ⟨m1, _, μ1, _, s1, itokC_enum (G := gx X ex) ea, q2⟩⟩
end
/-! ### for -/
def forLC (g : WG) (b : WS) (E : DEnds) (C : Mu → Prop) : List D → DS → Mu → Prop
  | [], ρ, μ => C μ ∧ E.nx ρ μ
  | d :: ds, ρ, μ => C μ ∧ g d ρ μ fun ρ1 μ1 => b { E with nx := forLC g b E C ds, ct := forLC g b E C ds, bk := E.nx } ρ1 μ1
def sForC (wi : WIC) (g : WG) (b : WS) : WS := fun E ρ μ => wi ρ μ (fun ds C μ1 => forLC g b E C ds ρ μ1) fun c ks es μ' => E.xc c ks es ρ μ'
theorem forLC_at {g : WG} {b : WS} {E : DEnds} {C : Mu → Prop} {ds : List D} {ρ : DS} {μ : Mu} (h : forLC g b E C ds ρ μ) : C μ := by
  cases ds with
  | nil => exact h.1
  | cons d ds => exact h.1
theorem forLC_cons {g : WG} {b : WS} {E : DEnds} {C : Mu → Prop} {ds : List D} {i : Nat} {d : D} {ρ : DS} {μ : Mu} (hd : ds[i]? = some d) (h : forLC g b E C (ds.drop i) ρ μ) :
    g d ρ μ fun ρ1 μ1 => b { E with nx := forLC g b E C (ds.drop (i + 1)), ct := forLC g b E C (ds.drop (i + 1)), bk := E.nx } ρ1 μ1 := by
  obtain ⟨hi, e⟩ := List.getElem?_eq_some_iff.mp hd
  rw [List.drop_eq_getElem_cons hi, forLC, e] at h
  exact h.2
section
variable {ex : Option (Addr × Addr × Addr)} {W : WX} {X : Cx} {tg iter : Expr} {body : List Stmt} {wi : WIC} {g : WG} {b : WS} {pos : Pos}
theorem ds_forC (hp : PassesOwn (model X.prog X.w) X.A X.env X.xe) (hc : X.calm = true) (hi : DIC ex W X tg iter wi) (hg : DG ex X tg g) (hb : DSs ex W X body b) (hs : ∀ x, foldedSetIterable iter X.env x = pure x := by intro _; rfl) :
    DSt ex W X (.For tg iter body [] pos) (sForC wi g b) := ps_weak (ps_for hp hc hi hg hb hs) fun De σ H q => by
  obtain ⟨Z, m, ρ, μ, E, S, q, kn, kr, kb, kc, kx⟩ := q
  refine ⟨Z, m, ρ, μ, _, _, S, q, fun J H1 P => ?_, fun cls d H' P => kx cls d σ H' (XSPost.of S P)⟩
  obtain ⟨m1, ds, μ1, C, s1, ok, q1⟩ := P
  have t1 : SStep (gx X ex) Z m σ ρ H m1 σ ρ H1 := SStep.of s1
  refine ⟨fun i n σ' H' => n = ds.length - i ∧ i ≤ ds.length ∧ ∃ m' ρ' μ', SR (gx X ex) Z m' σ' H' ρ' μ' ∧ SStep (gx X ex) Z m1 σ ρ H1 m' σ' ρ' H' ∧ forLC g b E C (ds.drop i) ρ' μ', ⟨_, rfl, Nat.zero_le _, m1, ρ, μ1, S.step s1, .refl, q1⟩, ?_⟩
  rintro i n σ' H' ⟨rfl, hle, m', ρ', μ', S', s', q'⟩
  have hC := forLC_at q'
  by_cases hlt : i < ds.length
  · refine .inr ⟨ok.go i _ m' μ' H' hlt s'.pre s'.same S'.mu hC, fun σ2 H2 => ∃ m2 ρ2 μ2, SR (gx X ex) Z m2 σ2 H2 ρ2 μ2 ∧ SStep (gx X ex) Z m1 σ ρ H1 m2 σ2 ρ2 H2 ∧ forLC g b E C (ds.drop (i + 1)) ρ2 μ2,
      fun σ2 H2 ⟨m2, ρ2, μ2, S2, s2, q2⟩ => ⟨_, (by omega : ds.length - (i + 1) < ds.length - i), rfl, hlt, m2, ρ2, μ2, S2, s2, q2⟩, fun x H3 y => ?_⟩
    obtain ⟨d, ed, hy⟩ := ok.yld i _ m' μ' H' x H3 hlt s'.pre s'.same S'.mu hC y
    have q2 := forLC_cons ed q'
    have : ∃ S3 : SR (gx X ex) Z m' σ' H3 ρ' μ', SStep (gx X ex) Z m1 σ ρ H1 m' σ' ρ' H3 ∧ Rep (gx X ex) m' (vis (ownW Z σ' ρ') m' H3) d x := by
      rcases hy with ⟨rfl, rd⟩ | ⟨T, o, nT, rfl, rd⟩
      · exact ⟨S', s', rd⟩
      · obtain ⟨S3, s3⟩ := S'.laid (o := o) nT
        exact ⟨S3, s'.trans s3, rd _ s3.same (by rw [vis_upd S'.mu nT, upd_same])⟩
    obtain ⟨S3, s3, rd⟩ := this
    refine ⟨Z, m', ρ', μ', d, _, S3, rd, q2, fun σ4 H4 P => ?_⟩
    obtain ⟨m4, ρ4, μ4, S4, s4, q4⟩ := P
    have t4 := s3.trans s4
    refine ⟨Z, m4, ρ4, μ4, _, S4, q4, fun σ5 H5 P => ?_, fun v H5 P => kr v H5 (RPost.from (t1.trans t4) P), fun σ5 H5 P => kn σ5 H5 (SPost.from (t1.trans t4) P), fun σ5 H5 P => ?_, fun cls d σ5 H5 P => kx cls d σ5 H5 (XSPost.from (t1.trans t4) P)⟩
    · obtain ⟨m5, ρ5, μ5, S5, s5, q5⟩ := P
      exact ⟨m5, ρ5, μ5, S5, t4.trans s5, q5⟩
    · obtain ⟨m5, ρ5, μ5, S5, s5, q5⟩ := P
      exact ⟨m5, ρ5, μ5, S5, t4.trans s5, q5⟩
  · have e : i = ds.length := by omega
    subst e
    refine .inl ⟨ok.stop _ m' μ' H' s'.pre s'.same S'.mu hC, kn σ' H' ⟨m', ρ', μ', S', t1.trans s', ?_⟩⟩
    rw [List.drop_length, forLC] at q'
    exact q'.2
end
/-! ### comprehensions -/
def lcLC (g : WG) (tt : WT) (te : WE) (ρw : DS) (C : Mu → Prop) : List D → List D → Mu → (D → Mu → Prop) → Prop
  | [], acc, μ, Q => C μ ∧ Q (.lst acc) μ
  | d :: ds, acc, μ, Q => C μ ∧ g d ρw μ fun ρ2 μ2 => tt ρ2 μ2 (fun b μ3 => if b = true then te ρ2 μ3 (fun y μ4 => acc.length < 1000000 ∧ lcLC g tt te ρw C ds (acc ++ [y]) μ4 Q) xF else lcLC g tt te ρw C ds acc μ3 Q) xF
theorem lcLC_at {g : WG} {tt : WT} {te : WE} {ρw : DS} {C : Mu → Prop} {ds acc : List D} {μ : Mu} {Q : D → Mu → Prop} (h : lcLC g tt te ρw C ds acc μ Q) : C μ := by
  cases ds with
  | nil => exact h.1
  | cons d ds => exact h.1
def wLcU (wi : WIC) (g : WG) (tt : WT) (te : WE) (vs : List Nat) : WE := fun ρ μ Q Xd => wi ρ μ (fun ds C μ1 => (∀ v ∈ vs, notOwn ρ v) ∧ lcLC g tt te (wipeD ρ vs) C ds [] μ1 Q) Xd
theorem lift_lcU {G : Gx} {W : WX} {wi : WIC} {g : TG} {k : WG} {tt : WT} {te : WE} {vs : List Nat} (hg : LcG G vs g k) {σ : L2.St} {H : Hp} {Q' : VK} (q : lift G W (wLcU wi k tt te vs) σ H Q') :
    tLc (liftIC G W wi) g (liftT G WF tt) (lift G WF te) vs σ H Q' := by
  obtain ⟨Z, m, ρ, μ, Q, Xd, S, q, kq, kx⟩ := q
  refine ⟨Z, m, ρ, μ, _, Xd, S, q, fun J H1 P => ?_, kx⟩
  obtain ⟨m1, ds, μ1, C, s1, ok, no', q1⟩ := P
  have no : noOwn ρ vs := fun v hv a ds => notOwn_of (no' v hv) a ds
  intro D nD
  have S1 := S.step s1
  have E0 := own_wipe' (Z := Z) (σ := σ) (ρ := ρ) (vs := vs) no
  have Sw := S1.wiped (vs := vs) no
  obtain ⟨Mh, sh⟩ := MuOk.hide (o := .lst []) S1.mu nD
  have base : SR G (addZ Z D) m1 (wipe σ vs) (upd H1 D (.lst [])) (wipeD ρ vs) μ1 := by
    refine ⟨Sw.len, by rw [own_add, E0]; exact Mh, fun i d e => ?_, fun i a es e => ?_, Sw.dis, fun i c ks es e => ?_⟩
    · obtain ⟨v, h1, h2⟩ := Sw.val i d e
      rw [E0] at h2
      exact ⟨v, h1, by rw [own_add, E0]; exact Rep.mono (List.prefix_refl _) sh _ _ h2⟩
    · obtain ⟨h1, h2, h4⟩ := Sw.own i a es e
      rw [E0] at h4
      have na : a ≠ D := fun z => h4.there (by rw [z, nD])
      exact ⟨h1, fun z => z.elim h2 na, by rw [own_add, E0]; exact h4.keep (List.prefix_refl _) sh (upd_ne na)⟩
    · have z := Sw.exn i c ks es e
      rw [E0] at z
      rw [own_add, E0]
      exact z.mono (List.prefix_refl _) sh
  have nDW : ¬ ownW Z σ ρ D := fun z => S1.mu.hw D z nD
  let In : List DL.D → Hp → Prop := fun rest H' => ∃ m' μ' acc us, m1 <+: m' ∧ (∀ z, ownW Z σ ρ z → H' z = H1 z) ∧ SR G (addZ Z D) m' (wipe σ vs) H' (wipeD ρ vs) μ' ∧ Same (vis (ownW Z σ ρ) m1 H1) (vis (addZ (ownW Z σ ρ) D) m' H') ∧
    H' D = some (.lst us) ∧ Reps G m' (vis (addZ (ownW Z σ ρ) D) m' H') acc us ∧ lcLC k tt te (wipeD ρ vs) C rest acc μ' Q
  refine ⟨fun i n H' => n = ds.length - i ∧ i ≤ ds.length ∧ In (ds.drop i) H', ⟨_, rfl, Nat.zero_le _, m1, μ1, [], [], List.prefix_refl _, fun z hz => upd_ne fun e => nDW (e ▸ hz), base, sh, upd_same, Reps.nil, q1⟩, ?_⟩
  rintro i n H' ⟨rfl, hle, m', μ', acc, us, pm, hid, S', sm, hD, ra, q'⟩
  have hC := lcLC_at q'
  have ow : ownW (addZ Z D) (wipe σ vs) (wipeD ρ vs) = addZ (ownW Z σ ρ) D := by rw [own_add, E0]
  have Mu' : MuOk G (addZ (ownW Z σ ρ) D) m' μ' H' := by rw [← ow]; exact S'.mu
  by_cases hlt : i < ds.length
  · refine .inr ⟨ok.go i _ m' μ' H' hlt pm sm Mu' hC, In (ds.drop (i + 1)), fun H2 h2 => ⟨_, (by omega : ds.length - (i + 1) < ds.length - i), rfl, hlt, h2⟩, fun x H3 y => ?_⟩
    obtain ⟨d, ed, hy⟩ := ok.yld i _ m' μ' H' x H3 hlt pm sm Mu' hC y
    obtain ⟨hi', ee⟩ := List.getElem?_eq_some_iff.mp ed
    rw [List.drop_eq_getElem_cons hi', lcLC, ee] at q'
    replace q' := q'.2
    have : SR G (addZ Z D) m' (wipe σ vs) H3 (wipeD ρ vs) μ' ∧ Same (vis (addZ (ownW Z σ ρ) D) m' H') (vis (addZ (ownW Z σ ρ) D) m' H3) ∧ (∀ z, addZ (ownW Z σ ρ) D z → H3 z = H' z) ∧ Rep G m' (vis (addZ (ownW Z σ ρ) D) m' H3) d x := by
      rcases hy with ⟨rfl, rd⟩ | ⟨T, o, nT, rfl, rd⟩
      · exact ⟨S', Same.refl _, fun _ _ => rfl, rd⟩
      · have st := Step.laid (o := o) S'.mu nT
        rw [ow] at st
        exact ⟨S'.step (by rw [ow]; exact st), st.same, st.hid, rd _ st.same (by rw [vis_upd (ow ▸ S'.mu) nT, upd_same])⟩
    obtain ⟨S3, sm3, hid3, rd⟩ := this
    refine hg (addZ Z D) m' μ' (wipe σ vs) H3 (wipeD ρ vs) d x _ _ S3 (by rw [ow]; exact rd) q' fun σ4 ρ4 S4 ow4 ew q4 => ⟨?_, ?_⟩
    · exact ew.trans (wipe_wipe σ vs)
    · refine ⟨addZ Z D, m', ρ4, μ', _, _, S4, q4, fun b H5 P => ?_, fun cls dd H5 P => (xpF P).elim⟩
      obtain ⟨m5, μ5, s5, q5⟩ := P
      rw [ow4, ow] at s5
      have back : ∀ {m6 μ6 H6}, Step G (addZ (ownW Z σ ρ) D) m' H3 m6 μ6 H6 → SR G (addZ Z D) m6 (wipe σ vs) H6 (wipeD ρ vs) μ6 := fun {m6 μ6 H6} s6 => S3.step (by rw [ow]; exact s6)
      cases b with
      | false =>
        rw [if_neg Bool.false_ne_true] at q5 ⊢
        exact ⟨m5, μ5, acc, us, pm.trans s5.pre, fun z hz => ((s5.hid z (.inl hz)).trans (hid3 z (.inl hz))).trans (hid z hz), back s5, (sm.trans sm3).trans s5.same, ((s5.hid D (.inr rfl)).trans (hid3 D (.inr rfl))).trans hD, Reps.mono s5.pre (sm3.trans s5.same) _ _ ra, q5⟩
      | true =>
        rw [if_pos rfl] at q5 ⊢
        refine ⟨addZ Z D, m5, ρ4, μ5, _, _, S4.step (by rw [ow4, ow]; exact s5), q5, fun u H6 P => ?_, fun cls dd H6 P => (xpF P).elim⟩
        obtain ⟨m6, yd, μ6, s6, r6, hlen, q6⟩ := P
        rw [ow4, ow] at s6 r6
        have s56 := s5.trans s6
        refine ⟨us, ((s56.hid D (.inr rfl)).trans (hid3 D (.inr rfl))).trans hD, by rw [← ra.len]; exact Nat.lt_of_lt_of_le hlen (by decide), ?_⟩
        refine ⟨m6, μ6, acc ++ [yd], us ++ [u], pm.trans s56.pre, fun z hz => ?_, (back s56).hid, ?_, upd_same, ?_, q6⟩
        · have hb : z ≠ D := fun e => nDW (e ▸ hz)
          rw [upd_ne hb]
          exact ((s56.hid z (.inl hz)).trans (hid3 z (.inl hz))).trans (hid z hz)
        · rw [vis_hidden]
          exact (sm.trans sm3).trans s56.same
        · rw [vis_hidden]
          exact Reps.append (Reps.mono s56.pre (sm3.trans s56.same) _ _ ra) (Reps.cons r6 Reps.nil)
  · have e : i = ds.length := by omega
    subst e
    rw [List.drop_length, lcLC] at q'
    refine .inl ⟨ok.stop _ m' μ' H' pm sm Mu' hC, kq _ _ (VPost.from s1 ?_)⟩
    have M' := S'.mu
    rw [ow] at M'
    have sub : ∀ b, ownW Z σ ρ b → addZ (ownW Z σ ρ) D b := fun b h => .inl h
    refine ⟨m', .lst acc, μ', ⟨pm, hid, M'.less sub, sm.trans (vis_mono sub)⟩, ?_, q'.2⟩
    rw [Rep]
    exact ⟨D, us, rfl, vis_some.mpr ⟨nDW, fun z => M'.out D z (.inr rfl), hD⟩, Reps.mono (List.prefix_refl _) (vis_mono sub) _ _ ra⟩
section
variable {W : WX} {X : Cx} {elt tg iter : Expr} {ifs : List Expr} {scope : Scope} {own : List (Str × Nat)} {pos : Pos} {wi : WIC} {g : TG} {k : WG} {tt : WT} {te : WE}
theorem de_lcU (hc : X.calm = true) (hN : X.N.Nodup) (hi : DIC none W X tg iter wi) (ok : BlkOk X.N X.env.scope scope own) (hk : LcG (gx X none) (own.map (·.2)) g k)
    (hg : ∀ (s : Shared) (H : Hp) (C : Addr) (cl : List (Str × Addr)) (fp : List Addr), PG (X.blk s H scope (compEnvC scope cl C X.env) fp) tg g) (ht : ∀ (s : Shared) (H : Hp) (C : Addr) (cl : List (Str × Addr)) (fp : List Addr), DTs (X.blk s H scope (compEnvC scope cl C X.env) fp) ifs tt)
    (he : ∀ (s : Shared) (H : Hp) (C : Addr) (cl : List (Str × Addr)) (fp : List Addr), DE none WF (X.blk s H scope (compEnvC scope cl C X.env) fp) elt te) (hs : ∀ x, foldedSetIterable iter X.env x = pure x := by intro _; rfl) :
    DE none W X (.ListComp elt [⟨tg, iter, ifs, 0⟩] scope pos) (wLcU wi k tt te (own.map (·.2))) := pe_weak (pe_lc hc hN hi ok hg ht he hs) fun _ _ _ q => lift_lcU hk q
end
/-! ### list(x) as a cell; x.append(v) of a cell -/
def fListOfC : FN := fun xs μ Q => match xs with
  | [x] => match itemsD x μ with
    | some ds => Q (.loc μ.length) (μ ++ [.lst ds])
    | none => False
  | _ => False
def appL (x y : D) (μ : Mu) (Q : D → Mu → Prop) : Prop := match x with
  | .loc n => match μ[n]? with
    | some (.lst ds) => ds.length < 1000000 ∧ Q .non (μ.set n (.lst (ds ++ [y])))
    | _ => False
  | _ => False
def wAppL (wo wa : WE) : WE := fun ρ μ Q Xd => wo ρ μ (fun x μ1 => isC x μ1 (wa ρ μ1 (fun y μ2 => appL x y μ2 Q) Xd)) Xd
section
variable {W : WX} {X : Cx} {e o : Expr} {wa wo : WE} {pos apos : Pos}
end
/-! ### o[i] = v by an own `__setitem__` -/
def sSetIx (cs : List Str) (sp : DSp) (wo wi wa : WE) : WS := fun E ρ μ => wa ρ μ (fun d μ1 => wo ρ μ1 (fun x μ2 => wi ρ μ2 (fun y μ3 => isClsU cs x μ3 (sp [x, y, d] μ3 (fun _ μ4 => E.nx ρ μ4) (fun c ks es μ' => E.xc c ks es ρ μ'))) (fun c ks es μ' => E.xc c ks es ρ μ')) (fun c ks es μ' => E.xc c ks es ρ μ')) fun c ks es μ' => E.xc c ks es ρ μ'
section
variable {W : WX} {X : Cx} {o ix value : Expr} {wa wo wi : WE} {pos p1 : Pos} {k j : Nat} {ps cs : List Str} {sp : DSp}
end
end DL

set_option Elab.async false
set_option linter.all false
set_option maxRecDepth 100000
set_option maxHeartbeats 4000000
set_option autoImplicit false
/-! ==, != of lists whose items have an own `__eq__`, either list shown or a cell. -/
namespace DL
open PySem PySem.Spec PyProof.Rows L2
section
variable {X : Cx} {k j : Nat} {ps : List Str} {c : Str} {Ts : List String} {Cs : List Str} {sp : DSp} {r : Bool}
end
end DL

set_option Elab.async false
set_option linter.all false
set_option maxRecDepth 100000
set_option maxHeartbeats 4000000
set_option autoImplicit false
/-! A list, shown or a cell, against the empty list. -/
namespace DL
open PySem PySem.Spec PyProof.Rows L2
section
variable {prog : Program} {w : World} {A : Around}
end
/-- a, b = e, []: the second a list of the def's own -/
def sPar2O (i j : Nat) (wa : WE) : WS := fun E ρ μ => wa ρ μ (fun d μ1 => j < ρ.length ∧ ∀ p, E.nx ((ρ.set j (.own p (.lst []))).set i (.v d)) μ1) fun c ks es μ' => E.xc c ks es ρ μ'
end DL

set_option Elab.async false
set_option linter.all false
set_option maxRecDepth 100000
set_option maxHeartbeats 4000000
set_option autoImplicit false
/-! ==, != of lists of tuples whose items are pairs or things with an own `__eq__`, all alike. -/
namespace DL
open PySem PySem.Spec PyProof.Rows L2
section
variable {X : Cx} {k j : Nat} {ps : List Str} {c : Str} {Ts : List String} {Cs : List Str} {sp : DSp}
end
section
variable {X : Cx} {k j : Nat} {ps : List Str} {c : Str} {Ts : List String} {Cs : List Str} {sp : DSp}
end
end DL

set_option Elab.async false
set_option linter.all false
set_option maxRecDepth 100000
set_option maxHeartbeats 4000000
set_option autoImplicit false
namespace DL
open PySem PySem.Spec PyProof.Rows L2
/-! sorted of ints, any number of them -/
end DL

set_option Elab.async false
set_option linter.all false
set_option maxRecDepth 100000
set_option maxHeartbeats 4000000
set_option autoImplicit false
/-! An __init__ that returns early. -/
namespace DL
open PySem PySem.Spec PyProof.Rows L2
/-- its end is a return -/
def liftR (G : Gx) (W : WX) (w : WS) : TS := fun D σ H => ∃ Z m ρ μ E, SR G Z m σ H ρ μ ∧ w E ρ μ ∧ (∀ σ' H', SPost G Z m σ ρ H E.nx σ' H' → D.rt .non H') ∧ (∀ v H', RPost G Z m σ ρ H E.rt v H' → D.rt v H') ∧
  (∀ σ' H', SPost G Z m σ ρ H E.bk σ' H' → D.bk σ' H') ∧ (∀ σ' H', SPost G Z m σ ρ H E.ct σ' H' → D.ct σ' H') ∧ ∀ cls d σ' H', XSPost G Z m σ ρ H E.xc cls d σ' H' → W cls d σ' H'
/-- its end is either -/
def liftIn (G : Gx) (W : WX) (w : WS) : TS := fun D σ H => ∃ Z m ρ μ E, SR G Z m σ H ρ μ ∧ w E ρ μ ∧ (∀ σ' H', SPost G Z m σ ρ H E.nx σ' H' → D.nx σ' H' ∧ D.rt .non H') ∧ (∀ v H', RPost G Z m σ ρ H E.rt v H' → D.rt v H') ∧
  (∀ σ' H', SPost G Z m σ ρ H E.bk σ' H' → D.bk σ' H') ∧ (∀ σ' H', SPost G Z m σ ρ H E.ct σ' H' → D.ct σ' H') ∧ ∀ cls d σ' H', XSPost G Z m σ ρ H E.xc cls d σ' H' → W cls d σ' H'
abbrev DSr (W : WX) (X : Cx) (st : List Stmt) (w : WS) : Prop := PSs X st (liftR (gx X none) W w)
abbrev DSi (W : WX) (X : Cx) (st : List Stmt) (w : WS) : Prop := PSs X st (liftIn (gx X none) W w)
section
variable {W : WX} {X : Cx} {st : Stmt} {rest x : List Stmt} {a b : WS} {t : WT} {pos : Pos} {c : Expr}
end
section
variable {P : Program} {w : World} {K : PySem.W.Frag} {mg : Str → Option Value} {base : Heap}
end
end DL

set_option Elab.async false
set_option linter.all false
set_option maxRecDepth 100000
set_option maxHeartbeats 4000000
set_option autoImplicit false
/-! [.. for a, b, c in lists] -/
namespace DL
open PySem PySem.Spec PyProof.Rows L2
end DL

set_option Elab.async false
set_option linter.all false
set_option maxRecDepth 100000
set_option maxHeartbeats 4000000
set_option autoImplicit false
/-! The head's run in four looks (hint split4). -/
namespace DL
open PySem PySem.Spec PyProof.Rows L2
end DL

set_option Elab.async false
set_option linter.all false
set_option maxRecDepth 100000
set_option maxHeartbeats 0
set_option autoImplicit false
namespace K47
open PySem PySem.Spec PyProof.Rows L2 DL
def top (i : Nat) : Stmt := PySem.Challenge.pw_filledonce_k47_whole_sums_of_nets.main.body.getD i (.Pass ⟨0, 0, 0, 0⟩)
def fn : List He5.DefA := [
  ⟨fun K => He.fAd K ("check_ahead", none), "check_ahead", "check_ahead", defArgs (top 47), defBody (top 47), defScope (top 47), [], []⟩,
  ⟨fun K => He.fAd K ("common_divisor", none), "common_divisor", "common_divisor", defArgs (top 40), defBody (top 40), defScope (top 40), [], []⟩,
  ⟨fun K => He.fAd K ("lowest_pair", none), "lowest_pair", "lowest_pair", defArgs (top 41), defBody (top 41), defScope (top 41), [], []⟩,
  ⟨fun K => He.fAd K ("is_integer", none), "is_integer", "is_integer", defArgs (top 9), defBody (top 9), defScope (top 9), [], []⟩,
  ⟨fun K => He.fAd K ("numbers_of", none), "numbers_of", "numbers_of", defArgs (top 14), defBody (top 14), defScope (top 14), [], []⟩,
  ⟨fun K => He.fAd K ("way_in", none), "way_in", "way_in", defArgs (top 46), defBody (top 46), defScope (top 46), [], []⟩,
  ⟨fun K => He.fAd K ("Half", some "__init__"), "__init__", "Half.__init__", defArgs (inClass (top 48) 0), defBody (inClass (top 48) 0), defScope (inClass (top 48) 0), [], []⟩,
  ⟨fun K => He.fAd K ("check_points", none), "check_points", "check_points", defArgs (top 27), defBody (top 27), defScope (top 27), [], []⟩,
  ⟨fun K => He.fAd K ("is_between", none), "is_between", "is_between", defArgs (top 10), defBody (top 10), defScope (top 10), [], []⟩,
  ⟨fun K => He.fAd K ("is_triple", none), "is_triple", "is_triple", defArgs (top 28), defBody (top 28), defScope (top 28), [], []⟩,
  ⟨fun K => He.fAd K ("check_triples", none), "check_triples", "check_triples", defArgs (top 29), defBody (top 29), defScope (top 29), [], []⟩,
  ⟨fun K => He.fAd K ("Net", some "__init__"), "__init__", "Net.__init__", defArgs (inClass (top 30) 0), defBody (inClass (top 30) 0), defScope (inClass (top 30) 0), [], []⟩,
  ⟨fun K => He.fAd K ("ascending", none), "ascending", "ascending", defArgs (top 31), defBody (top 31), defScope (top 31), [], []⟩,
  ⟨fun K => He.fAd K ("Net", some "rim"), "rim", "Net.rim", defArgs (inClass (top 30) 3), defBody (inClass (top 30) 3), defScope (inClass (top 30) 3), [], []⟩,
  ⟨fun K => He.fAd K ("Point", some "__init__"), "__init__", "Point.__init__", defArgs (inClass (top 13) 0), defBody (inClass (top 13) 0), defScope (inClass (top 13) 0), [], []⟩,
  ⟨fun K => He.fAd K ("_law_hand", none), "_law_hand", "_law_hand", defArgs (top 53), defBody (top 53), defScope (top 53), [], []⟩,
  ⟨fun K => He.fAd K ("_law_left", none), "_law_left", "_law_left", defArgs (top 58), defBody (top 58), defScope (top 58), [], []⟩,
  ⟨fun K => He.fAd K ("_law_draw", none), "_law_draw", "_law_draw", defArgs (top 54), defBody (top 54), defScope (top 54), [], []⟩,
  ⟨fun K => He.fAd K ("_law_pair", none), "_law_pair", "_law_pair", defArgs (top 55), defBody (top 55), defScope (top 55), [], []⟩,
  ⟨fun K => He.fAd K ("_law_net", none), "_law_net", "_law_net", defArgs (top 56), defBody (top 56), defScope (top 56), [], []⟩,
  ⟨fun K => He.fAd K ("_law_told_half", none), "_law_told_half", "_law_told_half", defArgs (top 57), defBody (top 57), defScope (top 57), [], []⟩,
  ⟨fun K => He.fAd K ("Net", some "corners_of"), "corners_of", "Net.corners_of", defArgs (inClass (top 30) 7), defBody (inClass (top 30) 7), defScope (inClass (top 30) 7), [], []⟩,
  ⟨fun K => He.fAd K ("cross_of", none), "cross_of", "cross_of", defArgs (top 18), defBody (top 18), defScope (top 18), [], []⟩,
  ⟨fun K => He.fAd K ("Half", some "has"), "has", "Half.has", defArgs (inClass (top 48) 5), defBody (inClass (top 48) 5), defScope (inClass (top 48) 5), [], []⟩,
  ⟨fun K => He.fAd K ("less", none), "less", "less", defArgs (top 17), defBody (top 17), defScope (top 17), [], []⟩,
  ⟨fun K => He.fAd K ("side_of", none), "side_of", "side_of", defArgs (top 19), defBody (top 19), defScope (top 19), [], []⟩,
  ⟨fun K => He.fAd K ("ways_of", none), "ways_of", "ways_of", defArgs (top 21), defBody (top 21), defScope (top 21), [], []⟩,
  ⟨fun K => He.fAd K ("is_owned", none), "is_owned", "is_owned", defArgs (top 22), defBody (top 22), defScope (top 22), [], []⟩,
  ⟨fun K => He.fAd K ("owner_counts", none), "owner_counts", "owner_counts", defArgs (top 32), defBody (top 32), defScope (top 32), [], []⟩,
  ⟨fun K => He.fAd K ("pair_of", none), "pair_of", "pair_of", defArgs (top 15), defBody (top 15), defScope (top 15), [], []⟩,
  ⟨fun K => He.fAd K ("counted_owners", none), "counted_owners", "counted_owners", defArgs (top 33), defBody (top 33), defScope (top 33), [], []⟩,
  ⟨fun K => He.fAd K ("Net", some "rim_ways"), "rim_ways", "Net.rim_ways", defArgs (inClass (top 30) 4), defBody (inClass (top 30) 4), defScope (inClass (top 30) 4), [], []⟩,
  ⟨fun K => He.fAd K ("shift_pairs", none), "shift_pairs", "shift_pairs", defArgs (top 24), defBody (top 24), defScope (top 24), [], []⟩,
  ⟨fun K => He.fAd K ("is_upward", none), "is_upward", "is_upward", defArgs (top 35), defBody (top 35), defScope (top 35), [], []⟩,
  ⟨fun K => He.fAd K ("turns_of", none), "turns_of", "turns_of", defArgs (top 36), defBody (top 36), defScope (top 36), [], []⟩,
  ⟨fun K => He.fAd K ("rim_turns", none), "rim_turns", "rim_turns", defArgs (top 37), defBody (top 37), defScope (top 37), [], []⟩,
  ⟨fun K => He.fAd K ("signed", none), "signed", "signed", defArgs (top 34), defBody (top 34), defScope (top 34), [], []⟩,
  ⟨fun K => He.fAd K ("law", none), "law", "law", defArgs (top 59), defBody (top 59), defScope (top 59), [], []⟩,
  ⟨fun K => He.fAd K ("InvalidHalf", some "__init__"), "__init__", "InvalidHalf.__init__", defArgs (inClass (top 6) 0), defBody (inClass (top 6) 0), defScope (inClass (top 6) 0), [], []⟩,
  ⟨fun K => He.fAd K ("InvalidNet", some "__init__"), "__init__", "InvalidNet.__init__", defArgs (inClass (top 7) 0), defBody (inClass (top 7) 0), defScope (inClass (top 7) 0), [], []⟩,
  ⟨fun K => He.fAd K ("InvalidPoint", some "__init__"), "__init__", "InvalidPoint.__init__", defArgs (inClass (top 3) 0), defBody (inClass (top 3) 0), defScope (inClass (top 3) 0), [], []⟩]
def fa : List He.Fa := [.glo "check_ahead", .glo "common_divisor", .glo "lowest_pair", .glo "is_integer", .glo "numbers_of", .glo "way_in", .glo "check_points", .glo "is_between", .glo "is_triple", .glo "check_triples", .glo "ascending", .glo "_law_hand", .glo "_law_left", .glo "_law_draw", .glo "_law_pair", .glo "_law_net", .glo "_law_told_half", .glo "cross_of", .glo "less", .glo "side_of", .glo "ways_of", .glo "is_owned", .glo "owner_counts", .glo "pair_of", .glo "counted_owners", .glo "shift_pairs", .glo "is_upward", .glo "turns_of", .glo "rim_turns", .glo "signed", .glo "law", .glo "Point", .free "abs", .free "all", .free "bool", .free "enumerate", .free "int", .free "isinstance", .free "len", .free "list", .free "max", .free "min", .free "range", .free "sorted", .free "tuple", .int "MOST_POINTS" (100), .glo "Half", .cls "Half", .noat "Half" "own_ahead", .noat "Half" "own_way", .glo "Net", .cls "Net", .noat "Net" "own_triples", .noat "Net" "pairs", .cls "Point", .noat "Point" "x", .noat "Point" "y", .mkr "Half", .mkr "Net", .mkr "Point", .meth "Net" "rim", .meth "Net" "corners_of", .meth "Half" "has", .meth "Net" "rim_ways"]
def isiL : IsiL := [((.b "int", .b "bool"), false), ((.b "bool", .b "bool"), true), ((.b "str", .b "bool"), false), ((.b "NoneType", .b "bool"), false), ((.b "tuple", .b "bool"), false), ((.b "list", .b "bool"), false), ((.c "Point", .b "bool"), false), ((.c "Net", .b "bool"), false), ((.c "Half", .b "bool"), false), ((.b "int", .b "int"), true), ((.b "bool", .b "int"), true), ((.b "str", .b "int"), false), ((.b "NoneType", .b "int"), false), ((.b "tuple", .b "int"), false), ((.b "list", .b "int"), false), ((.c "Point", .b "int"), false), ((.c "Net", .b "int"), false), ((.c "Half", .b "int"), false), ((.b "int", .c "Point"), false), ((.b "bool", .c "Point"), false), ((.b "str", .c "Point"), false), ((.b "NoneType", .c "Point"), false), ((.b "tuple", .c "Point"), false), ((.b "list", .c "Point"), false), ((.c "Point", .c "Point"), true), ((.c "Net", .c "Point"), false), ((.c "Half", .c "Point"), false), ((.b "int", .b "tuple"), false), ((.b "bool", .b "tuple"), false), ((.b "str", .b "tuple"), false), ((.b "NoneType", .b "tuple"), false), ((.b "tuple", .b "tuple"), true), ((.b "list", .b "tuple"), false), ((.c "Point", .b "tuple"), false), ((.c "Net", .b "tuple"), false), ((.c "Half", .b "tuple"), false), ((.b "int", .b "list"), false), ((.b "bool", .b "list"), false), ((.b "str", .b "list"), false), ((.b "NoneType", .b "list"), false), ((.b "tuple", .b "list"), false), ((.b "list", .b "list"), true), ((.c "Point", .b "list"), false), ((.c "Net", .b "list"), false), ((.c "Half", .b "list"), false)]
abbrev isiT : TyN → TyN → Option Bool := isiF isiL
def exB (K : PySem.W.Frag) : Bool := isiB isiL K && (rxB K "InvalidHalf" ["part"] && (rxB K "InvalidNet" ["part", "number"] && (rxB K "InvalidPoint" ["thing"])))
def loose0 : List PySem.Str := ["_wall", "FillError", "InvalidPoint", "InvalidNumber", "NoDirection", "InvalidHalf", "InvalidNet", "is_integer", "is_between", "check_between", "Point", "numbers_of", "pair_of", "point_of", "less", "cross_of", "side_of", "ways_of", "is_owned", "shift_pairs", "MOST_POINTS", "check_points", "is_triple", "check_triples", "Net", "ascending", "owner_counts", "counted_owners", "signed", "is_upward"]
def loose1 : List PySem.Str := ["turns_of", "rim_turns", "direction_of", "common_divisor", "lowest_pair", "AXES", "WAYS", "Rule", "way_in", "check_ahead", "Half", "corners_of_kind", "kinds_of_half", "is_within", "_law_hand", "_law_draw", "_law_pair", "_law_net", "_law_told_half", "_law_left"]
def loose : List PySem.Str := loose0 ++ loose1
abbrev R : PySem.W.OpenRow := PySem.W.OpenLaw.row PySem.Challenge.rw_filledonce_k47_whole_sums_of_nets
def asL : List Addr := [3, 31, 51, 108, 127, 136, 143, 240, 251, 258, 272, 279, 286, 291, 298, 305, 312, 317, 324, 417, 426, 433, 440, 447, 454, 461, 468, 482, 489, 527, 538, 545, 617, 645, 652, 659, 664, 671, 678, 683, 30, 50, 107, 126, 135, 142, 239, 250, 257, 271, 278, 285, 290, 297, 304, 311, 316, 323, 416, 425, 432, 439, 446, 453, 460, 467, 481, 488, 526, 537, 544, 616, 644, 651, 658, 663, 670, 677, 682, 48, 105, 124, 164, 336, 355, 360, 379, 559, 600, 47, 104, 123, 163, 335, 354, 359, 378, 558, 599]
abbrev hk : PySem.W.Hook := hookL asL fa fn exB
def ob (s : PySem.W.SharedT) : AlY := obsL asL fa fn exB (HandSHeadRun.getT s)
theorem ob_eq (s : PySem.W.SharedT) : ob s = hk.obs s.abs := obsL_eq (HandSHeadRun.getT_eq s)
abbrev loose_q : Program := PySem.W.view R.prog [59]
theorem run_l_false (w : World) (os : OsState) : (HandSHeadRun.endF (HandSHeadRun.stepQ (HandSHeadRun.denQ HandSHeadRun.tabQ) R.prog (w.withFollow "special-get-raises" false)) 6000 R.prog (w.withFollow "special-get-raises" false) os).map (fun s => HandSHeadRun.looksF R.prog (PySem.W.boot_heap (w.withFollow "special-get-raises" false).params) s.abs) = some (true) := by
  kernel_rfl
theorem run_s_false (w : World) (os : OsState) : (HandSHeadRun.endF (HandSHeadRun.stepQ (HandSHeadRun.denQ HandSHeadRun.tabQ) R.prog (w.withFollow "special-get-raises" false)) 6000 R.prog (w.withFollow "special-get-raises" false) os).map (fun s => HandSHeadRun.seenQ loose_q loose (importedModules R.prog.main.body) (fun s => PySem.W.xlAt loose_q [] s && PySem.W.recOk R.toRowW.records s) s.abs) = some (PySem.W.openGood loose_q loose) := by
  kernel_rfl
theorem run_o_false (w : World) (os : OsState) : (HandSHeadRun.endF (HandSHeadRun.stepQ (HandSHeadRun.denQ HandSHeadRun.tabQ) R.prog (w.withFollow "special-get-raises" false)) 6000 R.prog (w.withFollow "special-get-raises" false) os).map (fun s => ob s) = some (hk.val (w.withFollow "special-get-raises" false)) := by
  kernel_rfl
theorem run_l_true (w : World) (os : OsState) : (HandSHeadRun.endF (HandSHeadRun.stepQ (HandSHeadRun.denQ HandSHeadRun.tabQ) R.prog (w.withFollow "special-get-raises" true)) 6000 R.prog (w.withFollow "special-get-raises" true) os).map (fun s => HandSHeadRun.looksF R.prog (PySem.W.boot_heap (w.withFollow "special-get-raises" true).params) s.abs) = some (true) := by
  kernel_rfl
theorem run_s_true (w : World) (os : OsState) : (HandSHeadRun.endF (HandSHeadRun.stepQ (HandSHeadRun.denQ HandSHeadRun.tabQ) R.prog (w.withFollow "special-get-raises" true)) 6000 R.prog (w.withFollow "special-get-raises" true) os).map (fun s => HandSHeadRun.seenQ loose_q loose (importedModules R.prog.main.body) (fun s => PySem.W.xlAt loose_q [] s && PySem.W.recOk R.toRowW.records s) s.abs) = some (PySem.W.openGood loose_q loose) := by
  kernel_rfl
theorem run_o_true (w : World) (os : OsState) : (HandSHeadRun.endF (HandSHeadRun.stepQ (HandSHeadRun.denQ HandSHeadRun.tabQ) R.prog (w.withFollow "special-get-raises" true)) 6000 R.prog (w.withFollow "special-get-raises" true) os).map (fun s => ob s) = some (hk.val (w.withFollow "special-get-raises" true)) := by
  kernel_rfl
theorem runs_false (w : World) : HandSHeadRun.RunEq R loose_q hk ob 6000 loose (w.withFollow "special-get-raises" false) := DL.runEq3 (run_l_false w) (run_s_false w) (run_o_false w)
theorem runs_true (w : World) : HandSHeadRun.RunEq R loose_q hk ob 6000 loose (w.withFollow "special-get-raises" true) := DL.runEq3 (run_l_true w) (run_s_true w) (run_o_true w)
theorem run (w : World) : HandSHeadRun.RunEq R loose_q hk ob 6000 loose w := PySem.W.byRow2 "special-get-raises" (P := fun w => HandSHeadRun.RunEq R loose_q hk ob 6000 loose w) runs_false runs_true w
end K47

set_option Elab.async false
set_option linter.all false
set_option maxRecDepth 100000
set_option maxHeartbeats 4000000
set_option autoImplicit false
set_option exponentiation.threshold 3000
namespace DL
open PySem PySem.Spec PyProof.Rows L2
/-! ### plain data: comparisons, bounds, pools -/
theorem eqD_int {i j : Int} {k : Bool → Prop} : eqD (.int i) (.int j) k = k (decide (i = j)) := by
  apply propext
  constructor
  · rintro ⟨p, q, h1, h2, _, _, h⟩
    rw [toP] at h1 h2
    cases h1
    cases h2
    have e : PyData.eqv (.int i) (.int j) = decide (i = j) := by
      rw [Bool.eq_iff_iff]; simp [PyData.eqv]
    rw [← e]; exact h
  · intro h
    refine ⟨.int i, .int j, by rw [toP], by rw [toP], rfl, rfl, ?_⟩
    have e : PyData.eqv (.int i) (.int j) = decide (i = j) := by
      rw [Bool.eq_iff_iff]; simp [PyData.eqv]
    rw [e]; exact h
/-- numbers of at most 200 digits -/
def Bd (i : Int) : Prop := -(10 ^ 200) < i ∧ i < 10 ^ 200
theorem log2_bd {i : Int} (h : Bd i) : i.natAbs.log2 < 700 := by
  by_cases z : i.natAbs = 0
  · rw [z]; decide
  · rw [Nat.log2_lt z]
    have h1 : i.natAbs < 10 ^ 200 := by
      obtain ⟨a, b⟩ := h
      have e : (10 : Int) ^ 200 = ((10 ^ 200 : Nat) : Int) := by decide +kernel
      rw [e] at a b
      omega
    exact Nat.lt_of_lt_of_le h1 (by decide +kernel)
theorem cm_bd {i j : Int} (hi : Bd i) (hj : Bd j) : CM i j := by
  have h1 := log2_bd hi
  have h2 := log2_bd hj
  exact .inr (show i.natAbs.log2 + j.natAbs.log2 < 1000000 by omega)
theorem cd_bd {i j : Int} (h : 0 < j) (hj : Bd j) : CDivW i j := ⟨h, Nat.lt_of_lt_of_le (log2_bd hj) (by decide)⟩
/-- the cells with a pool behind them -/
def pl (μ : Mu) (p q : Int) : Mu := μ ++ [.lst [.int p, .int q]]
theorem pl_get {μ : Mu} {p q : Int} : (pl μ p q)[μ.length]? = some (.lst [.int p, .int q]) := List.getElem?_concat_length
theorem pl_set {μ : Mu} {p q : Int} {c : Cell} : (pl μ p q).set μ.length c = μ ++ [c] := by
  unfold pl
  rw [List.set_append_right _ _ (Nat.le_refl _), Nat.sub_self]
  rfl
theorem pl_fold {μ : Mu} {p q : Int} : μ ++ [Cell.lst [.int p, .int q]] = pl μ p q := rfl
theorem pl_items {μ : Mu} {p q : Int} : itemsD (.loc μ.length) (pl μ p q) = some [.int p, .int q] := by
  show (match (pl μ p q)[μ.length]? with
    | some (.lst ds) => some ds
    | _ => none) = _
  rw [pl_get]
theorem pl_st0 {μ : Mu} {p q : Int} {d : D} {k : Mu → Prop} : stL (.loc μ.length) (.int 0) d (pl μ p q) k = k (μ ++ [.lst [d, .int q]]) := by
  unfold stL
  simp only [pl_get, pl_set]
  rfl
theorem pl_st1 {μ : Mu} {p q : Int} {d : D} {k : Mu → Prop} : stL (.loc μ.length) (.int 1) d (pl μ p q) k = k (μ ++ [.lst [.int p, d]]) := by
  unfold stL
  simp only [pl_get, pl_set]
  rfl
theorem atI_nat {α : Type} {xs : List α} {n : Nat} : atI xs (n : Int) = xs[n]? := by
  unfold atI ixN
  rw [if_pos (Int.natCast_nonneg n)]
  by_cases h : (n : Int) < xs.length
  · rw [if_pos h]
    rfl
  · rw [if_neg h]
    have h2 : xs.length ≤ n := by omega
    rw [List.getElem?_eq_none h2]
    rfl
theorem atI_0 {α : Type} {a : α} {r : List α} : atI (a :: r) 0 = some a := atI_nat (n := 0)
theorem atI_1 {α : Type} {a b : α} {r : List α} : atI (a :: b :: r) 1 = some b := atI_nat (n := 1)
theorem atI_2 {α : Type} {a b c : α} {r : List α} : atI (a :: b :: c :: r) 2 = some c := atI_nat (n := 2)
theorem atI_3 {α : Type} {a b c d : α} {r : List α} : atI (a :: b :: c :: d :: r) 3 = some d := atI_nat (n := 3)
theorem items_tup {ds : List D} {μ : Mu} : itemsD (.tup ds) μ = some ds := rfl
theorem items_lst {ds : List D} {μ : Mu} : itemsD (.lst ds) μ = some ds := rfl
theorem items_frl {ds : List D} {μ : Mu} : itemsD (.frl ds) μ = some ds := rfl
/-! ### loops -/
theorem forL_inv {g : WG} {b : WS} {E : DEnds} (I : DS → Mu → Prop) (fin : ∀ ρ μ, I ρ μ → E.nx ρ μ) : ∀ {ds : List D}, (∀ d ∈ ds, ∀ ρ μ (K : DS → Mu → Prop), I ρ μ → (∀ ρ' μ', I ρ' μ' → K ρ' μ') → g d ρ μ fun ρ1 μ1 => b { E with nx := K, ct := K, bk := E.nx } ρ1 μ1) →
    ∀ {ρ μ}, I ρ μ → forL g b E ds ρ μ
  | [], _, ρ, μ, h => by rw [forL]; exact fin ρ μ h
  | d :: ds, step, ρ, μ, h => by
    rw [forL]
    exact step d (by simp) ρ μ _ h fun ρ' μ' h' => forL_inv I fin (fun d hd => step d (by simp [hd])) h'
theorem mem_range {lo : Int} {n : Nat} {d : D} (h : d ∈ rangeD lo n) : ∃ i : Nat, i < n ∧ d = .int (lo + i) := by
  unfold rangeD at h
  obtain ⟨i, hi, rfl⟩ := List.mem_map.mp h
  exact ⟨i, List.mem_range.mp hi, rfl⟩
/-- the script's k-th cell, or 0 -/
theorem cell_of {ns : List Int} {lo hi : Option Int} : ∃ c, atI (cutD (ns.map D.int) lo hi ++ [.int 0]) 0 = some (.int c) := by
  have h : ∀ l : List D, (∀ d ∈ l, ∃ c, d = .int c) → ∃ c, atI (l ++ [.int 0]) 0 = some (.int c) := by
    intro l hl
    cases l with
    | nil => exact ⟨0, atI_0⟩
    | cons d r =>
      obtain ⟨c, rfl⟩ := hl d (by simp)
      exact ⟨c, atI_0⟩
  refine h _ fun d hd => ?_
  unfold cutD at hd
  have h1 := List.mem_of_mem_take hd
  have h2 := List.mem_of_mem_drop h1
  obtain ⟨c, _, rfl⟩ := List.mem_map.mp h2
  exact ⟨c, rfl⟩
theorem cut_few {ns : List Int} {lo hi : Option Int} (h : ns.length ≤ 63) : (cutD (ns.map D.int) lo hi).length + 1 ≤ sizeLine := by
  unfold cutD
  rw [List.length_take, List.length_drop, List.length_map, sizeLine_eq]
  omega
theorem range_zero {lo : Int} : rangeD lo 0 = [] := rfl
theorem range_succ {lo : Int} {n : Nat} : rangeD lo (n + 1) = .int lo :: rangeD (lo + 1) n := by
  unfold rangeD
  rw [List.range_succ_eq_map, List.map_cons, List.map_map]
  congr 1
  · simp
  · refine List.map_congr_left fun i _ => ?_
    show D.int (lo + ((i + 1 : Nat) : Int)) = D.int (lo + 1 + (i : Int))
    congr 1
    omega
/-- how many turns: at least one, at most eight -/
def turns (n m : Nat) : Int := if (if (m : Int) < n then (m : Int) else n) > 1 then (if (m : Int) < n then (m : Int) else n) else 1
theorem turns_ok {n m : Nat} (hm : m ≤ 1000) : -2 ^ 62 ≤ turns n m ∧ turns n m < 2 ^ 62 ∧ (turns n m).toNat ≤ m + 1 := by
  unfold turns
  split <;> split <;> omega
end DL

set_option Elab.async false
set_option linter.all false
set_option maxRecDepth 100000
set_option maxHeartbeats 4000000
set_option autoImplicit false
set_option exponentiation.threshold 3000
namespace DL
open PySem PySem.Spec PyProof.Rows L2
/-! ### what is read is worked out from the head: frames and their equations -/
def KVar (o : Option Sl) (μ : Mu) (Q : D → Mu → Prop) : Prop := match o with
  | some (.v d) => Q d μ
  | _ => False
theorem r_var {i : Nat} {ρ : DS} {μ : Mu} {Q : D → Mu → Prop} {Xd : XD} : wVar i ρ μ Q Xd = KVar (ρ[i]?) μ Q := propext Iff.rfl
theorem r_var2 {d : D} {μ : Mu} {Q : D → Mu → Prop} : KVar (some (.v d)) μ Q = Q d μ := propext Iff.rfl
theorem r_c {d : D} {ρ : DS} {μ : Mu} {Q : D → Mu → Prop} {Xd : XD} : DL.wC d ρ μ Q Xd = Q d μ := propext Iff.rfl
def K2b (f : F2) (x : D) (Q : D → Mu → Prop) : D → Mu → Prop := fun y μ => f x y μ Q
def K2a (f : F2) (wb : WE) (ρ : DS) (Q : D → Mu → Prop) (Xd : XD) : D → Mu → Prop := fun x μ => wb ρ μ (K2b f x Q) Xd
theorem r_w2 {f : F2} {wa wb : WE} {ρ : DS} {μ : Mu} {Q : D → Mu → Prop} {Xd : XD} : DL.w2 f wa wb ρ μ Q Xd = wa ρ μ (K2a f wb ρ Q Xd) Xd := propext Iff.rfl
theorem r_w2a {f : F2} {wb : WE} {x : D} {ρ : DS} {μ : Mu} {Q : D → Mu → Prop} {Xd : XD} : K2a f wb ρ Q Xd x μ = wb ρ μ (K2b f x Q) Xd := propext Iff.rfl
theorem r_w2b {f : F2} {x y : D} {μ : Mu} {Q : D → Mu → Prop} : K2b f x Q y μ = f x y μ Q := propext Iff.rfl
def K1 (f : F1) (Q : D → Mu → Prop) : D → Mu → Prop := fun x μ => f x μ Q
theorem r_w1 {f : F1} {wa : WE} {ρ : DS} {μ : Mu} {Q : D → Mu → Prop} {Xd : XD} : DL.w1 f wa ρ μ Q Xd = wa ρ μ (K1 f Q) Xd := propext Iff.rfl
theorem r_w1a {f : F1} {x : D} {μ : Mu} {Q : D → Mu → Prop} : K1 f Q x μ = f x μ Q := propext Iff.rfl
def KB (Q : Bool → Mu → Prop) : D → Mu → Prop := fun d μ => fBool d fun b => Q b μ
theorem r_wB {w : WE} {ρ : DS} {μ : Mu} {Q : Bool → Mu → Prop} {Xd : XD} : wB w ρ μ Q Xd = w ρ μ (KB Q) Xd := propext Iff.rfl
theorem r_wBa {b : Bool} {μ : Mu} {Q : Bool → Mu → Prop} : KB Q (.bl b) μ = Q b μ := propext Iff.rfl
def KCh3 (f' : F2) (wc : WE) (y : D) (ρ : DS) (Q : D → Mu → Prop) (Xd : XD) : D → Mu → Prop := fun z μ3 => fBool z fun k => if k = true then wc ρ μ3 (fun w' μ4 => f' y w' μ4 Q) Xd else Q (.bl false) μ3
def KCh2 (f f' : F2) (wc : WE) (x : D) (ρ : DS) (Q : D → Mu → Prop) (Xd : XD) : D → Mu → Prop := fun y μ2 => f x y μ2 (KCh3 f' wc y ρ Q Xd)
def KCh1 (f f' : F2) (wb wc : WE) (ρ : DS) (Q : D → Mu → Prop) (Xd : XD) : D → Mu → Prop := fun x μ1 => wb ρ μ1 (KCh2 f f' wc x ρ Q Xd) Xd
theorem r_ch {f f' : F2} {wa wb wc : WE} {ρ : DS} {μ : Mu} {Q : D → Mu → Prop} {Xd : XD} : wChain f f' wa wb wc ρ μ Q Xd = wa ρ μ (KCh1 f f' wb wc ρ Q Xd) Xd := propext Iff.rfl
theorem r_ch1 {f f' : F2} {wb wc : WE} {x : D} {ρ : DS} {μ : Mu} {Q : D → Mu → Prop} {Xd : XD} : KCh1 f f' wb wc ρ Q Xd x μ = wb ρ μ (KCh2 f f' wc x ρ Q Xd) Xd := propext Iff.rfl
theorem r_ch2 {f f' : F2} {wc : WE} {x y : D} {ρ : DS} {μ : Mu} {Q : D → Mu → Prop} {Xd : XD} : KCh2 f f' wc x ρ Q Xd y μ = f x y μ (KCh3 f' wc y ρ Q Xd) := propext Iff.rfl
theorem r_ch3t {f' : F2} {wc : WE} {y : D} {ρ : DS} {μ : Mu} {Q : D → Mu → Prop} {Xd : XD} : KCh3 f' wc y ρ Q Xd (.bl true) μ = wc ρ μ (K2b f' y Q) Xd := propext Iff.rfl
theorem r_ch3f {f' : F2} {wc : WE} {y : D} {ρ : DS} {μ : Mu} {Q : D → Mu → Prop} {Xd : XD} : KCh3 f' wc y ρ Q Xd (.bl false) μ = Q (.bl false) μ := propext Iff.rfl
def KAnd (u : WT) (ρ : DS) (Q : Bool → Mu → Prop) (Xd : XD) : Bool → Mu → Prop := fun c μ1 => if c = true then u ρ μ1 Q Xd else Q false μ1
def KOr (u : WT) (ρ : DS) (Q : Bool → Mu → Prop) (Xd : XD) : Bool → Mu → Prop := fun c μ1 => if c = true then Q true μ1 else u ρ μ1 Q Xd
def KNot (Q : Bool → Mu → Prop) : Bool → Mu → Prop := fun c μ1 => Q (!c) μ1
theorem r_and {t u : WT} {ρ : DS} {μ : Mu} {Q : Bool → Mu → Prop} {Xd : XD} : wAnd t u ρ μ Q Xd = t ρ μ (KAnd u ρ Q Xd) Xd := propext Iff.rfl
theorem r_andt {u : WT} {ρ : DS} {μ : Mu} {Q : Bool → Mu → Prop} {Xd : XD} : KAnd u ρ Q Xd true μ = u ρ μ Q Xd := propext Iff.rfl
theorem r_andf {u : WT} {ρ : DS} {μ : Mu} {Q : Bool → Mu → Prop} {Xd : XD} : KAnd u ρ Q Xd false μ = Q false μ := propext Iff.rfl
theorem r_or {t u : WT} {ρ : DS} {μ : Mu} {Q : Bool → Mu → Prop} {Xd : XD} : wOr t u ρ μ Q Xd = t ρ μ (KOr u ρ Q Xd) Xd := propext Iff.rfl
theorem r_ort {u : WT} {ρ : DS} {μ : Mu} {Q : Bool → Mu → Prop} {Xd : XD} : KOr u ρ Q Xd true μ = Q true μ := propext Iff.rfl
theorem r_orf {u : WT} {ρ : DS} {μ : Mu} {Q : Bool → Mu → Prop} {Xd : XD} : KOr u ρ Q Xd false μ = u ρ μ Q Xd := propext Iff.rfl
theorem r_not {t : WT} {ρ : DS} {μ : Mu} {Q : Bool → Mu → Prop} {Xd : XD} : DL.wNot t ρ μ Q Xd = t ρ μ (KNot Q) Xd := propext Iff.rfl
theorem r_nota {c : Bool} {μ : Mu} {Q : Bool → Mu → Prop} : KNot Q c μ = Q (!c) μ := propext Iff.rfl
def KIfE (wa wb : WE) (ρ : DS) (Q : D → Mu → Prop) (Xd : XD) : Bool → Mu → Prop := fun k μ1 => if k = true then wa ρ μ1 Q Xd else wb ρ μ1 Q Xd
theorem r_ife {t : WT} {wa wb : WE} {ρ : DS} {μ : Mu} {Q : D → Mu → Prop} {Xd : XD} : wIf t wa wb ρ μ Q Xd = t ρ μ (KIfE wa wb ρ Q Xd) Xd := propext Iff.rfl
theorem r_ifet {wa wb : WE} {ρ : DS} {μ : Mu} {Q : D → Mu → Prop} {Xd : XD} : KIfE wa wb ρ Q Xd true μ = wa ρ μ Q Xd := propext Iff.rfl
theorem r_ifef {wa wb : WE} {ρ : DS} {μ : Mu} {Q : D → Mu → Prop} {Xd : XD} : KIfE wa wb ρ Q Xd false μ = wb ρ μ Q Xd := propext Iff.rfl
def KAndV (wb : WE) (ρ : DS) (Q : D → Mu → Prop) (Xd : XD) : D → Mu → Prop := fun x μ1 => fBool x fun k => if k = true then wb ρ μ1 Q Xd else Q (.bl false) μ1
def KOrV (wb : WE) (ρ : DS) (Q : D → Mu → Prop) (Xd : XD) : D → Mu → Prop := fun x μ1 => fBool x fun k => if k = true then Q (.bl true) μ1 else wb ρ μ1 Q Xd
theorem r_andv {wa wb : WE} {ρ : DS} {μ : Mu} {Q : D → Mu → Prop} {Xd : XD} : wAndV wa wb ρ μ Q Xd = wa ρ μ (KAndV wb ρ Q Xd) Xd := propext Iff.rfl
theorem r_andvt {wb : WE} {ρ : DS} {μ : Mu} {Q : D → Mu → Prop} {Xd : XD} : KAndV wb ρ Q Xd (.bl true) μ = wb ρ μ Q Xd := propext Iff.rfl
theorem r_andvf {wb : WE} {ρ : DS} {μ : Mu} {Q : D → Mu → Prop} {Xd : XD} : KAndV wb ρ Q Xd (.bl false) μ = Q (.bl false) μ := propext Iff.rfl
theorem r_orv {wa wb : WE} {ρ : DS} {μ : Mu} {Q : D → Mu → Prop} {Xd : XD} : wOrV wa wb ρ μ Q Xd = wa ρ μ (KOrV wb ρ Q Xd) Xd := propext Iff.rfl
theorem r_orvt {wb : WE} {ρ : DS} {μ : Mu} {Q : D → Mu → Prop} {Xd : XD} : KOrV wb ρ Q Xd (.bl true) μ = Q (.bl true) μ := propext Iff.rfl
theorem r_orvf {wb : WE} {ρ : DS} {μ : Mu} {Q : D → Mu → Prop} {Xd : XD} : KOrV wb ρ Q Xd (.bl false) μ = wb ρ μ Q Xd := propext Iff.rfl
def KNotV (Q : D → Mu → Prop) : D → Mu → Prop := fun x μ1 => fBool x fun k => Q (.bl (!k)) μ1
theorem r_notv {wa : WE} {ρ : DS} {μ : Mu} {Q : D → Mu → Prop} {Xd : XD} : wNotV wa ρ μ Q Xd = wa ρ μ (KNotV Q) Xd := propext Iff.rfl
theorem r_notva {b : Bool} {μ : Mu} {Q : D → Mu → Prop} : KNotV Q (.bl b) μ = Q (.bl (!b)) μ := propext Iff.rfl
theorem r_nil {ρ : DS} {μ : Mu} {Q : List D → Mu → Prop} {Xd : XD} : DL.wNil ρ μ Q Xd = Q [] μ := propext Iff.rfl
def KA2 (d : D) (Q : List D → Mu → Prop) : List D → Mu → Prop := fun ds μ2 => Q (d :: ds) μ2
def KA1 (wr : WA) (ρ : DS) (Q : List D → Mu → Prop) (Xd : XD) : D → Mu → Prop := fun d μ1 => wr ρ μ1 (KA2 d Q) Xd
theorem r_cons {wa : WE} {wr : WA} {ρ : DS} {μ : Mu} {Q : List D → Mu → Prop} {Xd : XD} : DL.wCons wa wr ρ μ Q Xd = wa ρ μ (KA1 wr ρ Q Xd) Xd := propext Iff.rfl
theorem r_cons1 {wr : WA} {d : D} {ρ : DS} {μ : Mu} {Q : List D → Mu → Prop} {Xd : XD} : KA1 wr ρ Q Xd d μ = wr ρ μ (KA2 d Q) Xd := propext Iff.rfl
theorem r_cons2 {d : D} {ds : List D} {μ : Mu} {Q : List D → Mu → Prop} : KA2 d Q ds μ = Q (d :: ds) μ := propext Iff.rfl
def KTup (Q : D → Mu → Prop) : List D → Mu → Prop := fun ds μ1 => ds.length ≤ 1000 ∧ Q (.tup ds) μ1
theorem r_tup {wa : WA} {ρ : DS} {μ : Mu} {Q : D → Mu → Prop} {Xd : XD} : wTup wa ρ μ Q Xd = wa ρ μ (KTup Q) Xd := propext Iff.rfl
theorem r_tupa {ds : List D} {μ : Mu} {Q : D → Mu → Prop} : KTup Q ds μ = (ds.length ≤ 1000 ∧ Q (.tup ds) μ) := propext Iff.rfl
def KLst (Q : D → Mu → Prop) : List D → Mu → Prop := fun ds μ1 => ds.length ≤ 1000 ∧ Q (.lst ds) μ1
theorem r_lst {wa : WA} {ρ : DS} {μ : Mu} {Q : D → Mu → Prop} {Xd : XD} : wLst wa ρ μ Q Xd = wa ρ μ (KLst Q) Xd := propext Iff.rfl
theorem r_lsta {ds : List D} {μ : Mu} {Q : D → Mu → Prop} : KLst Q ds μ = (ds.length ≤ 1000 ∧ Q (.lst ds) μ) := propext Iff.rfl
def KLstC (Q : D → Mu → Prop) : List D → Mu → Prop := fun ds μ1 => ds.length ≤ 1000 ∧ Q (.loc μ1.length) (μ1 ++ [.lst ds])
theorem r_lstc {wa : WA} {ρ : DS} {μ : Mu} {Q : D → Mu → Prop} {Xd : XD} : wLstC wa ρ μ Q Xd = wa ρ μ (KLstC Q) Xd := propext Iff.rfl
theorem r_lstca {ds : List D} {μ : Mu} {Q : D → Mu → Prop} : KLstC Q ds μ = (ds.length ≤ 1000 ∧ Q (.loc μ.length) (μ ++ [.lst ds])) := propext Iff.rfl
def KN (f : FN) (Q : D → Mu → Prop) : List D → Mu → Prop := fun ds μ1 => f ds μ1 Q
theorem r_wn {f : FN} {wa : WA} {ρ : DS} {μ : Mu} {Q : D → Mu → Prop} {Xd : XD} : DL.wN f wa ρ μ Q Xd = wa ρ μ (KN f Q) Xd := propext Iff.rfl
theorem r_wna {f : FN} {ds : List D} {μ : Mu} {Q : D → Mu → Prop} : KN f Q ds μ = f ds μ Q := propext Iff.rfl
def KCall (sp : DSp) (Q : D → Mu → Prop) (Xd : XD) : List D → Mu → Prop := fun ds μ1 => sp ds μ1 Q Xd
theorem r_call {sp : DSp} {wa : WA} {ρ : DS} {μ : Mu} {Q : D → Mu → Prop} {Xd : XD} : wCall sp wa ρ μ Q Xd = wa ρ μ (KCall sp Q Xd) Xd := propext Iff.rfl
theorem r_calla {sp : DSp} {ds : List D} {μ : Mu} {Q : D → Mu → Prop} {Xd : XD} : KCall sp Q Xd ds μ = sp ds μ Q Xd := propext Iff.rfl
def KMk2 (c : Str) (Q : D → Mu → Prop) : List Str → List D → Mu → Prop := fun ks es μ2 => Q (.obj c ks es) μ2
def KMk1 (c : Str) (sp : ISp) (Q : D → Mu → Prop) (Xd : XD) : List D → Mu → Prop := fun ds μ1 => sp ds μ1 (KMk2 c Q) Xd
theorem r_mk {c : Str} {sp : ISp} {wa : WA} {ρ : DS} {μ : Mu} {Q : D → Mu → Prop} {Xd : XD} : wMake c sp wa ρ μ Q Xd = wa ρ μ (KMk1 c sp Q Xd) Xd := propext Iff.rfl
theorem r_mk1 {c : Str} {sp : ISp} {ds : List D} {μ : Mu} {Q : D → Mu → Prop} {Xd : XD} : KMk1 c sp Q Xd ds μ = sp ds μ (KMk2 c Q) Xd := propext Iff.rfl
theorem r_mk2 {c : Str} {ks : List Str} {es : List D} {μ : Mu} {Q : D → Mu → Prop} : KMk2 c Q ks es μ = Q (.obj c ks es) μ := propext Iff.rfl
def KMkC2 (c : Str) (Q : D → Mu → Prop) : List Str → List D → Mu → Prop := fun ks es μ2 => Q (.loc μ2.length) (μ2 ++ [.ins c ks es])
def KMkC1 (c : Str) (sp : ISp) (Q : D → Mu → Prop) (Xd : XD) : List D → Mu → Prop := fun ds μ1 => sp ds μ1 (KMkC2 c Q) Xd
theorem r_mkc {c : Str} {sp : ISp} {wa : WA} {ρ : DS} {μ : Mu} {Q : D → Mu → Prop} {Xd : XD} : wMakeC c sp wa ρ μ Q Xd = wa ρ μ (KMkC1 c sp Q Xd) Xd := propext Iff.rfl
theorem r_mkc1 {c : Str} {sp : ISp} {ds : List D} {μ : Mu} {Q : D → Mu → Prop} {Xd : XD} : KMkC1 c sp Q Xd ds μ = sp ds μ (KMkC2 c Q) Xd := propext Iff.rfl
theorem r_mkc2 {c : Str} {ks : List Str} {es : List D} {μ : Mu} {Q : D → Mu → Prop} : KMkC2 c Q ks es μ = Q (.loc μ.length) (μ ++ [.ins c ks es]) := propext Iff.rfl
def KMe2 (sp : DSp) (x : D) (Q : D → Mu → Prop) (Xd : XD) : List D → Mu → Prop := fun ds μ2 => sp (x :: ds) μ2 Q Xd
def KMe1 (c m : Str) (sp : DSp) (wa : WA) (ρ : DS) (Q : D → Mu → Prop) (Xd : XD) : D → Mu → Prop := fun x μ1 => hasCls c m x μ1 (wa ρ μ1 (KMe2 sp x Q Xd) Xd)
theorem r_me {c m : Str} {sp : DSp} {wo : WE} {wa : WA} {ρ : DS} {μ : Mu} {Q : D → Mu → Prop} {Xd : XD} : wMeth c m sp wo wa ρ μ Q Xd = wo ρ μ (KMe1 c m sp wa ρ Q Xd) Xd := propext Iff.rfl
theorem r_me1 {c m : Str} {sp : DSp} {wa : WA} {x : D} {ρ : DS} {μ : Mu} {Q : D → Mu → Prop} {Xd : XD} : KMe1 c m sp wa ρ Q Xd x μ = hasCls c m x μ (wa ρ μ (KMe2 sp x Q Xd) Xd) := propext Iff.rfl
theorem r_me2 {sp : DSp} {x : D} {ds : List D} {μ : Mu} {Q : D → Mu → Prop} {Xd : XD} : KMe2 sp x Q Xd ds μ = sp (x :: ds) μ Q Xd := propext Iff.rfl
def KBo2 (c : Str) (Ts : List String) (sp : DSp) (x : D) (Q : D → Mu → Prop) (Xd : XD) : D → Mu → Prop := fun y μ2 => isCls c x μ2 (othTy c Ts y μ2 (sp [x, y] μ2 Q Xd))
def KBo1 (c : Str) (Ts : List String) (sp : DSp) (wb : WE) (ρ : DS) (Q : D → Mu → Prop) (Xd : XD) : D → Mu → Prop := fun x μ1 => wb ρ μ1 (KBo2 c Ts sp x Q Xd) Xd
theorem r_bo {c : Str} {Ts : List String} {sp : DSp} {wa wb : WE} {ρ : DS} {μ : Mu} {Q : D → Mu → Prop} {Xd : XD} : wBinO c Ts sp wa wb ρ μ Q Xd = wa ρ μ (KBo1 c Ts sp wb ρ Q Xd) Xd := propext Iff.rfl
theorem r_bo1 {c : Str} {Ts : List String} {sp : DSp} {wb : WE} {x : D} {ρ : DS} {μ : Mu} {Q : D → Mu → Prop} {Xd : XD} : KBo1 c Ts sp wb ρ Q Xd x μ = wb ρ μ (KBo2 c Ts sp x Q Xd) Xd := propext Iff.rfl
theorem r_bo2 {c : Str} {Ts : List String} {sp : DSp} {x y : D} {μ : Mu} {Q : D → Mu → Prop} {Xd : XD} : KBo2 c Ts sp x Q Xd y μ = isCls c x μ (othTy c Ts y μ (sp [x, y] μ Q Xd)) := propext Iff.rfl
theorem r_onone {ρ : DS} {μ : Mu} {Q : Option Int → Mu → Prop} {Xd : XD} : oNone ρ μ Q Xd = Q none μ := propext Iff.rfl
def KOs (Q : Option Int → Mu → Prop) : D → Mu → Prop := fun d μ1 => intOr d fun i => Q (some i) μ1
theorem r_osome {wa : WE} {ρ : DS} {μ : Mu} {Q : Option Int → Mu → Prop} {Xd : XD} : oSome wa ρ μ Q Xd = wa ρ μ (KOs Q) Xd := propext Iff.rfl
theorem r_osomea {i : Int} {μ : Mu} {Q : Option Int → Mu → Prop} : KOs Q (.int i) μ = Q (some i) μ := propext Iff.rfl
def KSl3 (x : D) (l : Option Int) (Q : D → Mu → Prop) : Option Int → Mu → Prop := fun u μ3 => lstOr x fun ds => Q (.lst (DL.cutD ds l u)) μ3
def KSl2 (hi : WO) (x : D) (ρ : DS) (Q : D → Mu → Prop) (Xd : XD) : Option Int → Mu → Prop := fun l μ2 => hi ρ μ2 (KSl3 x l Q) Xd
def KSl1 (lo hi : WO) (ρ : DS) (Q : D → Mu → Prop) (Xd : XD) : D → Mu → Prop := fun x μ1 => lo ρ μ1 (KSl2 hi x ρ Q Xd) Xd
theorem r_sl {wa : WE} {lo hi : WO} {ρ : DS} {μ : Mu} {Q : D → Mu → Prop} {Xd : XD} : wSl wa lo hi ρ μ Q Xd = wa ρ μ (KSl1 lo hi ρ Q Xd) Xd := propext Iff.rfl
theorem r_sl1 {lo hi : WO} {x : D} {ρ : DS} {μ : Mu} {Q : D → Mu → Prop} {Xd : XD} : KSl1 lo hi ρ Q Xd x μ = lo ρ μ (KSl2 hi x ρ Q Xd) Xd := propext Iff.rfl
theorem r_sl2 {hi : WO} {x : D} {l : Option Int} {ρ : DS} {μ : Mu} {Q : D → Mu → Prop} {Xd : XD} : KSl2 hi x ρ Q Xd l μ = hi ρ μ (KSl3 x l Q) Xd := propext Iff.rfl
theorem r_sl3 {ds : List D} {l u : Option Int} {μ : Mu} {Q : D → Mu → Prop} : KSl3 (.lst ds) l Q u μ = Q (.lst (DL.cutD ds l u)) μ := propext Iff.rfl
theorem r_sl3f {ds : List D} {l u : Option Int} {μ : Mu} {Q : D → Mu → Prop} : KSl3 (.frl ds) l Q u μ = Q (.lst (DL.cutD ds l u)) μ := propext Iff.rfl
theorem r_ii {C : Int → Int → Prop} {g : Int → Int → Int} {i j : Int} {μ : Mu} {Q : D → Mu → Prop} : fII C g (.int i) (.int j) μ Q = (C i j ∧ Q (.int (g i j)) μ) := propext Iff.rfl
theorem r_ii0 {g : Int → Int → Int} {i j : Int} {μ : Mu} {Q : D → Mu → Prop} : fII0 g (.int i) (.int j) μ Q = Q (.int (g i j)) μ := propext Iff.rfl
theorem r_ib {g : Int → Int → Bool} {i j : Int} {μ : Mu} {Q : D → Mu → Prop} : fIB g (.int i) (.int j) μ Q = Q (.bl (g i j)) μ := propext Iff.rfl
theorem r_i1 {g : Int → Int} {i : Int} {μ : Mu} {Q : D → Mu → Prop} : fI g (.int i) μ Q = Q (.int (g i)) μ := propext Iff.rfl
theorem r_plus {i j : Int} {μ : Mu} {Q : D → Mu → Prop} : fPlus (.int i) (.int j) μ Q = Q (.int (i + j)) μ := propext Iff.rfl
theorem r_plusl {a b : List D} {μ : Mu} {Q : D → Mu → Prop} : fPlus (.lst a) (.lst b) μ Q = (a.length + b.length ≤ sizeLine ∧ Q (.lst (a ++ b)) μ) := propext Iff.rfl
theorem r_times {i j : Int} {μ : Mu} {Q : D → Mu → Prop} : fTimes (.int i) (.int j) μ Q = (CM i j ∧ Q (.int (i * j)) μ) := propext Iff.rfl
theorem r_timesl {a : List D} {n : Int} {μ : Mu} {Q : D → Mu → Prop} : fTimes (.lst a) (.int n) μ Q = (-(2 ^ 63) ≤ n ∧ n < 2 ^ 63 ∧ a.length * n.toNat ≤ sizeLine ∧ Q (.lst (List.replicate n.toNat a).flatten) μ) := propext Iff.rfl
theorem r_isn {x : D} {μ : Mu} {Q : D → Mu → Prop} : fIsN x .non μ Q = Q (.bl (DL.isNon x)) μ := propext Iff.rfl
theorem r_notn {x : D} {μ : Mu} {Q : D → Mu → Prop} : fNotN x .non μ Q = Q (.bl (!DL.isNon x)) μ := propext Iff.rfl
theorem r_eqd {x y : D} {μ : Mu} {Q : D → Mu → Prop} : fEqD x y μ Q = eqD x y fun b => Q (.bl b) μ := propext Iff.rfl
theorem r_ned {x y : D} {μ : Mu} {Q : D → Mu → Prop} : fNeD x y μ Q = eqD x y fun b => Q (.bl (!b)) μ := propext Iff.rfl
theorem r_int1 {i : Int} {μ : Mu} {Q : D → Mu → Prop} : fInt1 [.int i] μ Q = Q (.int i) μ := propext Iff.rfl
theorem r_int1b {b : Bool} {μ : Mu} {Q : D → Mu → Prop} : fInt1 [.bl b] μ Q = Q (.int (if b then 1 else 0)) μ := propext Iff.rfl
theorem r_max2 {i j : Int} {μ : Mu} {Q : D → Mu → Prop} : fMax2 [.int i, .int j] μ Q = Q (.int (if j > i then j else i)) μ := propext Iff.rfl
theorem r_min2 {i j : Int} {μ : Mu} {Q : D → Mu → Prop} : fMin2 [.int i, .int j] μ Q = Q (.int (if j < i then j else i)) μ := propext Iff.rfl
theorem r_abs {i : Int} {μ : Mu} {Q : D → Mu → Prop} : fAbs [.int i] μ Q = Q (.int (if i < 0 then -i else i)) μ := propext Iff.rfl
def KIx (o : Option (List D)) (i : Int) (μ : Mu) (Q : D → Mu → Prop) : Prop := match o with
  | some ds => (match atI ds i with
    | some d => Q d μ
    | none => False)
  | none => False
theorem r_ix {x : D} {i : Int} {μ : Mu} {Q : D → Mu → Prop} : fIx x (.int i) μ Q = KIx (itemsD x μ) i μ Q := by
  unfold fIx KIx
  cases itemsD x μ <;> exact propext Iff.rfl
def KIx2 (o : Option D) (μ : Mu) (Q : D → Mu → Prop) : Prop := match o with
  | some d => Q d μ
  | none => False
theorem r_ix2 {ds : List D} {i : Int} {μ : Mu} {Q : D → Mu → Prop} : KIx (some ds) i μ Q = KIx2 (atI ds i) μ Q := propext Iff.rfl
theorem r_ix3 {d : D} {μ : Mu} {Q : D → Mu → Prop} : KIx2 (some d) μ Q = Q d μ := propext Iff.rfl
def KLen (o : Option (List D)) (μ : Mu) (Q : D → Mu → Prop) : Prop := match o with
  | some ds => Q (.int ds.length) μ
  | none => False
theorem r_len {x : D} {μ : Mu} {Q : D → Mu → Prop} : fLen [x] μ Q = KLen (itemsD x μ) μ Q := propext Iff.rfl
theorem r_len2 {ds : List D} {μ : Mu} {Q : D → Mu → Prop} : KLen (some ds) μ Q = Q (.int ds.length) μ := propext Iff.rfl
def KIsi (o : Option Bool) (μ : Mu) (Q : D → Mu → Prop) : Prop := match o with
  | some b => Q (.bl b) μ
  | none => False
theorem r_isi {f : TyN → TyN → Option Bool} {x c : D} {μ : Mu} {Q : D → Mu → Prop} : fIsi f [x, c] μ Q = KIsi (isiD f x c μ) μ Q := propext Iff.rfl
theorem r_isi2 {b : Bool} {μ : Mu} {Q : D → Mu → Prop} : KIsi (some b) μ Q = Q (.bl b) μ := propext Iff.rfl
def KFld2 (o : Option D) (μ : Mu) (Q : D → Mu → Prop) : Prop := match o with
  | some d => Q d μ
  | none => False
def KFld (c f : Str) (o : Option (Str × List Str × List D)) (μ : Mu) (Q : D → Mu → Prop) : Prop := match o with
  | some (c', ks, ds) => c' = c ∧ KFld2 (fldOf f ks ds) μ Q
  | none => False
theorem r_fld {c f : Str} {x : D} {μ : Mu} {Q : D → Mu → Prop} : fFld c f x μ Q = KFld c f (insD x μ) μ Q := by
  unfold fFld KFld KFld2
  exact propext Iff.rfl
theorem r_fld2 {c f c' : Str} {ks : List Str} {ds : List D} {μ : Mu} {Q : D → Mu → Prop} : KFld c f (some (c', ks, ds)) μ Q = (c' = c ∧ KFld2 (fldOf f ks ds) μ Q) := propext Iff.rfl
theorem r_fld3 {d : D} {μ : Mu} {Q : D → Mu → Prop} : KFld2 (some d) μ Q = Q d μ := propext Iff.rfl
theorem r_insobj {c : Str} {ks : List Str} {ds : List D} {μ : Mu} : insD (.obj c ks ds) μ = some (c, ks, ds) := rfl
def KX (E : DEnds) (ρ : DS) : XD := fun c ks es μ => E.xc c ks es ρ μ
theorem r_kx {c : Str} {ks : List Str} {es : List D} {E : DEnds} {ρ : DS} {μ : Mu} : KX E ρ c ks es μ = E.xc c ks es ρ μ := propext Iff.rfl
theorem r_next {E : DEnds} {ρ : DS} {μ : Mu} : sNext E ρ μ = E.nx ρ μ := propext Iff.rfl
theorem r_never {E : DEnds} {ρ : DS} {μ : Mu} : sNever E ρ μ = False := propext Iff.rfl
def KSeq (b : WS) (E : DEnds) : DS → Mu → Prop := fun ρ μ => b E ρ μ
theorem r_seq {a b : WS} {E : DEnds} {ρ : DS} {μ : Mu} : sSeq a b E ρ μ = a { E with nx := KSeq b E } ρ μ := propext Iff.rfl
theorem r_seqa {b : WS} {E : DEnds} {ρ : DS} {μ : Mu} : KSeq b E ρ μ = b E ρ μ := propext Iff.rfl
def KIf (a b : WS) (E : DEnds) (ρ : DS) : Bool → Mu → Prop := fun c μ1 => if c = true then a E ρ μ1 else b E ρ μ1
theorem r_if {t : WT} {a b : WS} {E : DEnds} {ρ : DS} {μ : Mu} : sIf t a b E ρ μ = t ρ μ (KIf a b E ρ) (KX E ρ) := propext Iff.rfl
theorem r_ift {a b : WS} {E : DEnds} {ρ : DS} {μ : Mu} : KIf a b E ρ true μ = a E ρ μ := propext Iff.rfl
theorem r_iff {a b : WS} {E : DEnds} {ρ : DS} {μ : Mu} : KIf a b E ρ false μ = b E ρ μ := propext Iff.rfl
theorem r_ret {wa : WE} {E : DEnds} {ρ : DS} {μ : Mu} : sRet wa E ρ μ = wa ρ μ E.rt (KX E ρ) := propext Iff.rfl
theorem r_retn {E : DEnds} {ρ : DS} {μ : Mu} : sRetN E ρ μ = E.rt .non μ := propext Iff.rfl
theorem r_brk {E : DEnds} {ρ : DS} {μ : Mu} : sBreak E ρ μ = E.bk ρ μ := propext Iff.rfl
theorem r_cnt {E : DEnds} {ρ : DS} {μ : Mu} : sCont E ρ μ = E.ct ρ μ := propext Iff.rfl
def KDrop (E : DEnds) (ρ : DS) : D → Mu → Prop := fun _ μ1 => E.nx ρ μ1
theorem r_drop {wa : WE} {E : DEnds} {ρ : DS} {μ : Mu} : sDrop wa E ρ μ = wa ρ μ (KDrop E ρ) (KX E ρ) := propext Iff.rfl
theorem r_dropa {d : D} {E : DEnds} {ρ : DS} {μ : Mu} : KDrop E ρ d μ = E.nx ρ μ := propext Iff.rfl
def KSet (i : Nat) (E : DEnds) (ρ : DS) : D → Mu → Prop := fun d μ1 => E.nx (ρ.set i (.v d)) μ1
theorem r_set {i : Nat} {wa : WE} {E : DEnds} {ρ : DS} {μ : Mu} : sSet i wa E ρ μ = wa ρ μ (KSet i E ρ) (KX E ρ) := propext Iff.rfl
theorem r_seta {i : Nat} {d : D} {E : DEnds} {ρ : DS} {μ : Mu} : KSet i E ρ d μ = E.nx (ρ.set i (.v d)) μ := propext Iff.rfl
def KAsg (g : WG) (E : DEnds) (ρ : DS) : D → Mu → Prop := fun d μ1 => g d ρ μ1 E.nx
theorem r_asg {g : WG} {wa : WE} {E : DEnds} {ρ : DS} {μ : Mu} : sAsg wa g E ρ μ = wa ρ μ (KAsg g E ρ) (KX E ρ) := propext Iff.rfl
theorem r_asga {g : WG} {d : D} {E : DEnds} {ρ : DS} {μ : Mu} : KAsg g E ρ d μ = g d ρ μ E.nx := propext Iff.rfl
theorem r_name {i : Nat} {d : D} {ρ : DS} {μ : Mu} {Q : DS → Mu → Prop} : kName i d ρ μ Q = Q (ρ.set i (.v d)) μ := propext Iff.rfl
theorem r_namec {i : Nat} {d : D} {ρ : DS} {μ : Mu} {Q : DS → Mu → Prop} : kNameC i d ρ μ Q = (notOwn ρ i ∧ Q (ρ.set i (.v d)) μ) := propext Iff.rfl
theorem r_ktup {n : Nat} {gs : WGs} {ds : List D} {ρ : DS} {μ : Mu} {Q : DS → Mu → Prop} : kTup n gs (.tup ds) ρ μ Q = (ds.length = n ∧ gs ds ρ μ Q) := propext Iff.rfl
theorem r_kunl {n : Nat} {gs : WGs} {ds : List D} {ρ : DS} {μ : Mu} {Q : DS → Mu → Prop} : kUnl n gs (.lst ds) ρ μ Q = (ds.length = n ∧ gs ds ρ μ Q) := propext Iff.rfl
def KCs (gs : WGs) (r : List D) (Q : DS → Mu → Prop) : DS → Mu → Prop := fun ρ1 μ1 => gs r ρ1 μ1 Q
theorem r_kcons {g : WG} {gs : WGs} {d : D} {r : List D} {ρ : DS} {μ : Mu} {Q : DS → Mu → Prop} : kCons g gs (d :: r) ρ μ Q = g d ρ μ (KCs gs r Q) := propext Iff.rfl
theorem r_kcs {gs : WGs} {r : List D} {ρ : DS} {μ : Mu} {Q : DS → Mu → Prop} : KCs gs r Q ρ μ = gs r ρ μ Q := propext Iff.rfl
theorem r_knil {ρ : DS} {μ : Mu} {Q : DS → Mu → Prop} : kNil [] ρ μ Q = Q ρ μ := propext Iff.rfl
theorem r_par2 {i j : Nat} {wa : WA} {E : DEnds} {ρ : DS} {μ : Mu} : sPar2 i j wa E ρ μ = wa ρ μ (kPar2 i j E ρ) (KX E ρ) := propext Iff.rfl
theorem r_par2a {i j : Nat} {a b : D} {E : DEnds} {ρ : DS} {μ : Mu} : kPar2 i j E ρ [a, b] μ = E.nx ((ρ.set i (.v a)).set j (.v b)) μ := propext Iff.rfl
theorem r_par3 {i j l : Nat} {wa : WA} {E : DEnds} {ρ : DS} {μ : Mu} : sPar3 i j l wa E ρ μ = wa ρ μ (kPar3 i j l E ρ) (KX E ρ) := propext Iff.rfl
theorem r_par3a {i j l : Nat} {a b c : D} {E : DEnds} {ρ : DS} {μ : Mu} : kPar3 i j l E ρ [a, b, c] μ = E.nx (((ρ.set i (.v a)).set j (.v b)).set l (.v c)) μ := propext Iff.rfl
def KAug2 (i : Nat) (E : DEnds) (ρ : DS) : D → Mu → Prop := fun z μ2 => E.nx (ρ.set i (.v z)) μ2
def KAug1 (i : Nat) (f : F2) (x : D) (E : DEnds) (ρ : DS) : D → Mu → Prop := fun y μ1 => f x y μ1 (KAug2 i E ρ)
def KAug (o : Option Sl) (i : Nat) (f : F2) (wa : WE) (E : DEnds) (ρ : DS) (μ : Mu) : Prop := match o with
  | some (.v x) => wa ρ μ (KAug1 i f x E ρ) (KX E ρ)
  | _ => False
theorem r_aug {i : Nat} {f : F2} {wa : WE} {E : DEnds} {ρ : DS} {μ : Mu} : sAug i f wa E ρ μ = KAug (ρ[i]?) i f wa E ρ μ := propext Iff.rfl
theorem r_auga {x : D} {i : Nat} {f : F2} {wa : WE} {E : DEnds} {ρ : DS} {μ : Mu} : KAug (some (.v x)) i f wa E ρ μ = wa ρ μ (KAug1 i f x E ρ) (KX E ρ) := propext Iff.rfl
theorem r_augb {x y : D} {i : Nat} {f : F2} {E : DEnds} {ρ : DS} {μ : Mu} : KAug1 i f x E ρ y μ = f x y μ (KAug2 i E ρ) := propext Iff.rfl
theorem r_augc {d : D} {i : Nat} {E : DEnds} {ρ : DS} {μ : Mu} : KAug2 i E ρ d μ = E.nx (ρ.set i (.v d)) μ := propext Iff.rfl
def KFor (g : WG) (b : WS) (E : DEnds) (ρ : DS) : List D → Mu → Prop := fun ds μ1 => forL g b E ds ρ μ1
theorem r_for {wi : WI} {g : WG} {b : WS} {E : DEnds} {ρ : DS} {μ : Mu} : sFor wi g b E ρ μ = wi ρ μ (KFor g b E ρ) (KX E ρ) := propext Iff.rfl
theorem r_fora {g : WG} {b : WS} {ds : List D} {E : DEnds} {ρ : DS} {μ : Mu} : KFor g b E ρ ds μ = forL g b E ds ρ μ := propext Iff.rfl
def KNx (E : DEnds) (μ : Mu) : DS → Prop := fun ρ => E.nx ρ μ
theorem r_knx {E : DEnds} {ρ : DS} {μ : Mu} : KNx E μ ρ = E.nx ρ μ := propext Iff.rfl
def KPut (c : Str) (i : Nat) (f : Str) (d : D) (ρ : DS) (k : DS → Prop) (o : Option Sl) : Prop := match o with
  | some (.own a (.ins c' ks ds)) => c' = c ∧ ks.length < 1000 ∧ k (ρ.set i (.own a (.ins c' (DL.putK f ks) (DL.putD f d ks ds))))
  | _ => False
def KFldO (c : Str) (i : Nat) (f : Str) (E : DEnds) (ρ : DS) : D → Mu → Prop := fun d μ1 => putOwnI c i f d ρ (KNx E μ1)
theorem r_fldo {c : Str} {i : Nat} {f : Str} {wa : WE} {E : DEnds} {ρ : DS} {μ : Mu} : sFldO c i f wa E ρ μ = wa ρ μ (KFldO c i f E ρ) (KX E ρ) := propext Iff.rfl
theorem r_fldoa {c : Str} {i : Nat} {f : Str} {d : D} {E : DEnds} {ρ : DS} {μ : Mu} : KFldO c i f E ρ d μ = KPut c i f d ρ (KNx E μ) (ρ[i]?) := by
  unfold KFldO putOwnI KPut
  exact propext Iff.rfl
theorem r_put {c c' : Str} {i : Nat} {f : Str} {d : D} {a : Addr} {ks : List Str} {ds : List D} {k : DS → Prop} {ρ : DS} : KPut c i f d ρ k (some (.own a (.ins c' ks ds))) = (c' = c ∧ ks.length < 1000 ∧ k (ρ.set i (.own a (.ins c' (DL.putK f ks) (DL.putD f d ks ds))))) := propext Iff.rfl
def KFrz2 (i : Nat) (ρ : DS) (k : DS → Prop) (o : Option D) : Prop := match o with
  | some d => k (ρ.set i (.v d))
  | none => False
def KFrz (i : Nat) (ρ : DS) (k : DS → Prop) (o : Option Sl) : Prop := match o with
  | some (.own _ c) => KFrz2 i ρ k (cellD c)
  | _ => False
def KFz (w : WS) (E : DEnds) (μ : Mu) : DS → Prop := fun ρ => w E ρ μ
theorem r_frz {i : Nat} {w : WS} {E : DEnds} {ρ : DS} {μ : Mu} : sFrz i w E ρ μ = KFrz i ρ (KFz w E μ) (ρ[i]?) := by
  unfold sFrz frz KFrz KFrz2
  exact propext Iff.rfl
theorem r_frz2 {i : Nat} {a : Addr} {c : Cell} {k : DS → Prop} {ρ : DS} : KFrz i ρ k (some (.own a c)) = KFrz2 i ρ k (cellD c) := propext Iff.rfl
theorem r_frz3 {i : Nat} {d : D} {k : DS → Prop} {ρ : DS} : KFrz2 i ρ k (some d) = k (ρ.set i (.v d)) := propext Iff.rfl
theorem r_frz4 {w : WS} {E : DEnds} {ρ : DS} {μ : Mu} : KFz w E μ ρ = w E ρ μ := propext Iff.rfl
theorem r_cl {ds : List D} : cellD (.lst ds) = some (.lst ds) := rfl
def KSetO (i : Nat) (E : DEnds) (ρ : DS) : List D → Mu → Prop := fun ds μ1 => ds.length ≤ 1000 ∧ i < ρ.length ∧ ∀ p, E.nx (ρ.set i (.own p (.lst ds))) μ1
theorem r_seto {i : Nat} {wa : WA} {E : DEnds} {ρ : DS} {μ : Mu} : sSetO i wa E ρ μ = wa ρ μ (KSetO i E ρ) (KX E ρ) := propext Iff.rfl
theorem r_setoa {i : Nat} {ds : List D} {E : DEnds} {ρ : DS} {μ : Mu} : KSetO i E ρ ds μ = (ds.length ≤ 1000 ∧ i < ρ.length ∧ ∀ p, E.nx (ρ.set i (.own p (.lst ds))) μ) := propext Iff.rfl
def KWil (Q : List D → Mu → Prop) : D → Mu → Prop := fun d μ1 => lstOr d fun ds => Q ds μ1
theorem r_wil {wa : WE} {ρ : DS} {μ : Mu} {Q : List D → Mu → Prop} {Xd : XD} : wiL wa ρ μ Q Xd = wa ρ μ (KWil Q) Xd := propext Iff.rfl
theorem r_wila {ds : List D} {μ : Mu} {Q : List D → Mu → Prop} : KWil Q (.lst ds) μ = Q ds μ := propext Iff.rfl
theorem r_wilf {ds : List D} {μ : Mu} {Q : List D → Mu → Prop} : KWil Q (.frl ds) μ = Q ds μ := propext Iff.rfl
def KWit (Q : List D → Mu → Prop) : D → Mu → Prop := fun d μ1 => tupOr d fun ds => Q ds μ1
theorem r_wit {wa : WE} {ρ : DS} {μ : Mu} {Q : List D → Mu → Prop} {Xd : XD} : wiT wa ρ μ Q Xd = wa ρ μ (KWit Q) Xd := propext Iff.rfl
theorem r_wita {ds : List D} {μ : Mu} {Q : List D → Mu → Prop} : KWit Q (.tup ds) μ = Q ds μ := propext Iff.rfl
def KWi1 (Q : List D → Mu → Prop) : List D → Mu → Prop := fun ds μ1 => rg1 ds fun es => Q es μ1
theorem r_wi1 {wa : WA} {ρ : DS} {μ : Mu} {Q : List D → Mu → Prop} {Xd : XD} : wiR1 wa ρ μ Q Xd = wa ρ μ (KWi1 Q) Xd := propext Iff.rfl
theorem r_wi1a {j : Int} {μ : Mu} {Q : List D → Mu → Prop} : KWi1 Q [.int j] μ = rg1 [.int j] fun es => Q es μ := propext Iff.rfl
def KWi2 (Q : List D → Mu → Prop) : List D → Mu → Prop := fun ds μ1 => rg2 ds fun es => Q es μ1
theorem r_wi2 {wa : WA} {ρ : DS} {μ : Mu} {Q : List D → Mu → Prop} {Xd : XD} : wiR2 wa ρ μ Q Xd = wa ρ μ (KWi2 Q) Xd := propext Iff.rfl
theorem r_wi2a {i j : Int} {μ : Mu} {Q : List D → Mu → Prop} : KWi2 Q [.int i, .int j] μ = rg2 [.int i, .int j] fun es => Q es μ := propext Iff.rfl
def KWie (Q : List D → Mu → Prop) : List D → Mu → Prop := fun ds μ1 => lst1 ds fun es => Q (enumD es) μ1
theorem r_wie {wa : WA} {ρ : DS} {μ : Mu} {Q : List D → Mu → Prop} {Xd : XD} : wiEnum wa ρ μ Q Xd = wa ρ μ (KWie Q) Xd := propext Iff.rfl
theorem r_wiea {ds : List D} {μ : Mu} {Q : List D → Mu → Prop} : KWie Q [.lst ds] μ = Q (enumD ds) μ := propext Iff.rfl
def KWiz (Q : List D → Mu → Prop) : List D → Mu → Prop := fun ds μ1 => zip2 ds fun es => Q es μ1
theorem r_wiz {wa : WA} {ρ : DS} {μ : Mu} {Q : List D → Mu → Prop} {Xd : XD} : wiZip wa ρ μ Q Xd = wa ρ μ (KWiz Q) Xd := propext Iff.rfl
theorem r_wiza {a b : List D} {μ : Mu} {Q : List D → Mu → Prop} : KWiz Q [.lst a, .lst b] μ = Q (zipD a b) μ := propext Iff.rfl
theorem r_wizt {a b : List D} {μ : Mu} {Q : List D → Mu → Prop} : KWiz Q [.tup a, .tup b] μ = Q (zipD a b) μ := propext Iff.rfl
def KLc3 (g : WG) (tt : WT) (te : WE) (ρw : DS) (ds acc : List D) (Q : D → Mu → Prop) : D → Mu → Prop := fun y μ4 => acc.length < 1000000 ∧ lcL g tt te ρw ds (acc ++ [y]) μ4 Q
def KLc2 (g : WG) (tt : WT) (te : WE) (ρw : DS) (ρ2 : DS) (ds acc : List D) (Q : D → Mu → Prop) : Bool → Mu → Prop := fun b μ3 => if b = true then te ρ2 μ3 (KLc3 g tt te ρw ds acc Q) xF else lcL g tt te ρw ds acc μ3 Q
def KLc1 (g : WG) (tt : WT) (te : WE) (ρw : DS) (ds acc : List D) (Q : D → Mu → Prop) : DS → Mu → Prop := fun ρ2 μ2 => tt ρ2 μ2 (KLc2 g tt te ρw ρ2 ds acc Q) xF
def KLc0 (g : WG) (tt : WT) (te : WE) (vs : List Nat) (ρ : DS) (Q : D → Mu → Prop) : List D → Mu → Prop := fun ds μ1 => (∀ v ∈ vs, notOwn ρ v) ∧ lcL g tt te (DL.wipeD ρ vs) ds [] μ1 Q
theorem r_lc {wi : WI} {g : WG} {tt : WT} {te : WE} {vs : List Nat} {ρ : DS} {μ : Mu} {Q : D → Mu → Prop} {Xd : XD} : wLc wi g tt te vs ρ μ Q Xd = wi ρ μ (KLc0 g tt te vs ρ Q) Xd := propext Iff.rfl
theorem r_lc0 {g : WG} {tt : WT} {te : WE} {vs : List Nat} {ds : List D} {ρ : DS} {μ : Mu} {Q : D → Mu → Prop} : KLc0 g tt te vs ρ Q ds μ = ((∀ v ∈ vs, notOwn ρ v) ∧ lcL g tt te (DL.wipeD ρ vs) ds [] μ Q) := propext Iff.rfl
theorem r_lcn {g : WG} {tt : WT} {te : WE} {ρw : DS} {acc : List D} {μ : Mu} {Q : D → Mu → Prop} : lcL g tt te ρw [] acc μ Q = Q (.lst acc) μ := propext Iff.rfl
theorem r_lcc {g : WG} {tt : WT} {te : WE} {ρw : DS} {d : D} {ds acc : List D} {μ : Mu} {Q : D → Mu → Prop} : lcL g tt te ρw (d :: ds) acc μ Q = g d ρw μ (KLc1 g tt te ρw ds acc Q) := by
  rw [lcL]
  exact propext Iff.rfl
theorem r_lc1 {g : WG} {tt : WT} {te : WE} {ρw : DS} {ds acc : List D} {ρ : DS} {μ : Mu} {Q : D → Mu → Prop} : KLc1 g tt te ρw ds acc Q ρ μ = tt ρ μ (KLc2 g tt te ρw ρ ds acc Q) xF := propext Iff.rfl
theorem r_lc2t {g : WG} {tt : WT} {te : WE} {ρw : DS} {ds acc : List D} {ρ : DS} {μ : Mu} {Q : D → Mu → Prop} : KLc2 g tt te ρw ρ ds acc Q true μ = te ρ μ (KLc3 g tt te ρw ds acc Q) xF := propext Iff.rfl
theorem r_lc2f {g : WG} {tt : WT} {te : WE} {ρw : DS} {ds acc : List D} {ρ : DS} {μ : Mu} {Q : D → Mu → Prop} : KLc2 g tt te ρw ρ ds acc Q false μ = lcL g tt te ρw ds acc μ Q := propext Iff.rfl
theorem r_lc3 {g : WG} {tt : WT} {te : WE} {ρw : DS} {ds acc : List D} {y : D} {μ : Mu} {Q : D → Mu → Prop} : KLc3 g tt te ρw ds acc Q y μ = (acc.length < 1000000 ∧ lcL g tt te ρw ds (acc ++ [y]) μ Q) := propext Iff.rfl
theorem r_yes {ρ : DS} {μ : Mu} {Q : Bool → Mu → Prop} {Xd : XD} : wYes ρ μ Q Xd = Q true μ := propext Iff.rfl
def KSub3 (ρ : DS) (Q : DS → Mu → Prop) : Mu → Prop := fun μ3 => Q ρ μ3
def KSub2 (x d : D) (ρ : DS) (Q : DS → Mu → Prop) : D → Mu → Prop := fun y μ2 => stL x y d μ2 (KSub3 ρ Q)
def KSub1 (wi : WE) (d : D) (ρ : DS) (Q : DS → Mu → Prop) : D → Mu → Prop := fun x μ1 => wi ρ μ1 (KSub2 x d ρ Q) xF
theorem r_sub {wo wi : WE} {d : D} {ρ : DS} {μ : Mu} {Q : DS → Mu → Prop} : kSub wo wi d ρ μ Q = wo ρ μ (KSub1 wi d ρ Q) xF := propext Iff.rfl
theorem r_sub1 {wi : WE} {x d : D} {ρ : DS} {μ : Mu} {Q : DS → Mu → Prop} : KSub1 wi d ρ Q x μ = wi ρ μ (KSub2 x d ρ Q) xF := propext Iff.rfl
theorem r_sub2 {x y d : D} {ρ : DS} {μ : Mu} {Q : DS → Mu → Prop} : KSub2 x d ρ Q y μ = stL x y d μ (KSub3 ρ Q) := propext Iff.rfl
theorem r_sub3 {ρ : DS} {μ : Mu} {Q : DS → Mu → Prop} : KSub3 ρ Q μ = Q ρ μ := propext Iff.rfl
theorem r_dnx {Q : D → Mu → Prop} {Xd : XD} {ρ : DS} {μ : Mu} : (defE Q Xd).nx ρ μ = Q .non μ := propext Iff.rfl
theorem r_drt {Q : D → Mu → Prop} {Xd : XD} : (defE Q Xd).rt = Q := rfl
theorem r_dxc {c : Str} {ks : List Str} {es : List D} {Q : D → Mu → Prop} {Xd : XD} {ρ : DS} {μ : Mu} : (defE Q Xd).xc c ks es ρ μ = Xd c ks es μ := propext Iff.rfl
def KInit (Q : List Str → List D → Mu → Prop) (μ : Mu) : List Str → List D → Prop := fun ks ds => Q ks ds μ
theorem r_inx {c : Str} {a : Addr} {Q : List Str → List D → Mu → Prop} {Xd : XD} {ρ : DS} {μ : Mu} : (defI c a Q Xd).nx ρ μ = initEnd c a (KInit Q μ) ρ := propext Iff.rfl
theorem r_init {ks : List Str} {ds : List D} {Q : List Str → List D → Mu → Prop} {μ : Mu} : KInit Q μ ks ds = Q ks ds μ := propext Iff.rfl
theorem r_ixc {n c : Str} {a : Addr} {ks : List Str} {es : List D} {Q : List Str → List D → Mu → Prop} {Xd : XD} {ρ : DS} {μ : Mu} : (defI n a Q Xd).xc c ks es ρ μ = Xd c ks es μ := propext Iff.rfl
end DL

set_option Elab.async false
set_option linter.all false
set_option maxRecDepth 100000
set_option maxHeartbeats 4000000
set_option autoImplicit false
set_option exponentiation.threshold 3000
namespace DL
open PySem PySem.Spec PyProof.Rows L2
/-! ### frames of exceptions, properties, while -/
section
variable {E : DEnds} {ρ : DS} {μ : Mu} {Q : D → Mu → Prop} {Xd : XD} {c : Str} {ks : List Str} {ds es : List D} {i : Nat}
def KRaise (c : Str) (ks : List Str) (E : DEnds) (ρ : DS) : List D → Mu → Prop := fun ds μ1 => ds.length ≤ 1000 ∧ ds.length = ks.length ∧ E.xc c ks.reverse ds.reverse ρ μ1
theorem t_raise {wa : WA} : sRaise c ks wa E ρ μ = wa ρ μ (KRaise c ks E ρ) (KX E ρ) := propext Iff.rfl
theorem t_raise2 : KRaise c ks E ρ ds μ = (ds.length ≤ 1000 ∧ ds.length = ks.length ∧ E.xc c ks.reverse ds.reverse ρ μ) := propext Iff.rfl
theorem t_try {mt : Str → Option Bool} {wb wsu : WS} : sTry mt i wb wsu E ρ μ = wb { E with xc := caught mt i wsu E } ρ μ := propext Iff.rfl
def KCat (o : Option Bool) (i : Nat) (wsu : WS) (E : DEnds) (c : Str) (ks : List Str) (es : List D) (ρ : DS) (μ : Mu) : Prop := match o with
  | some true => wsu (suiteE i E) (ρ.set i (.exn c ks es)) μ
  | some false => E.xc c ks es ρ μ
  | none => False
theorem t_cat {mt : Str → Option Bool} {wsu : WS} : caught mt i wsu E c ks es ρ μ = KCat (mt c) i wsu E c ks es ρ μ := propext Iff.rfl
theorem t_catt {wsu : WS} : KCat (some true) i wsu E c ks es ρ μ = wsu (suiteE i E) (ρ.set i (.exn c ks es)) μ := propext Iff.rfl
theorem t_catf {wsu : WS} : KCat (some false) i wsu E c ks es ρ μ = E.xc c ks es ρ μ := propext Iff.rfl
theorem t_sunx : (suiteE i E).nx ρ μ = (noExn (ρ.set i .no) = true ∧ E.nx (ρ.set i .no) μ) := propext Iff.rfl
theorem t_surt : (suiteE i E).rt = E.rt := rfl
theorem t_nx0 : noExn [] = true := rfl
theorem t_nx1 : noExn (.no :: ρ) = noExn ρ := rfl
theorem t_nx2 {d : D} : noExn (.v d :: ρ) = noExn ρ := rfl
theorem t_nx3 {a : Addr} {c : Cell} : noExn (.own a c :: ρ) = noExn ρ := rfl
def KProp (c : Str) (sp : DSp) (Q : D → Mu → Prop) : D → Mu → Prop := fun x μ1 => isCls c x μ1 (sp [x] μ1 Q xF)
theorem t_prop {sp : DSp} {wa : WE} : wProp c sp wa ρ μ Q Xd = wa ρ μ (KProp c sp Q) Xd := propext Iff.rfl
theorem t_prop2 {sp : DSp} {x : D} : KProp c sp Q x μ = isCls c x μ (sp [x] μ Q xF) := propext Iff.rfl
def KXf (o : Option Sl) (cs : List Str) (f : Str) (μ : Mu) (Q : D → Mu → Prop) : Prop := match o with
  | some (.exn c ks ds) => c ∈ cs ∧ KFld2 (fldOf f ks ds) μ Q
  | _ => False
theorem t_xf {cs : List Str} {f : Str} : wXf cs i f ρ μ Q Xd = KXf (ρ[i]?) cs f μ Q := by
  unfold wXf KXf KExn getX KFld2
  exact propext Iff.rfl
theorem t_xf2 {cs : List Str} {f : Str} : KXf (some (.exn c ks ds)) cs f μ Q = (c ∈ cs ∧ KFld2 (fldOf f ks ds) μ Q) := propext Iff.rfl
def KIsX (o : Option Sl) (f : TyN → TyN → Option Bool) (cn : Str) (μ : Mu) (Q : D → Mu → Prop) : Prop := match o with
  | some (.exn c _ _) => KIsi (f (.c c) (.c cn)) μ Q
  | _ => False
theorem t_isx {f : TyN → TyN → Option Bool} {cn : Str} : wIsE f i cn ρ μ Q Xd = KIsX (ρ[i]?) f cn μ Q := by
  unfold wIsE KIsX KExn KIsi
  exact propext Iff.rfl
theorem t_isx2 {f : TyN → TyN → Option Bool} {cn : Str} : KIsX (some (.exn c ks ds)) f cn μ Q = KIsi (f (.c c) (.c cn)) μ Q := propext Iff.rfl
def KWh (b : WS) (K : DS → Mu → Prop) (E : DEnds) (ρ : DS) : Bool → Mu → Prop := fun k μ1 => if k = true then b { E with nx := K, ct := K, bk := E.nx } ρ μ1 else E.nx ρ μ1
theorem t_wht {b : WS} {K : DS → Mu → Prop} : KWh b K E ρ true μ = b { E with nx := K, ct := K, bk := E.nx } ρ μ := propext Iff.rfl
theorem t_whf {b : WS} {K : DS → Mu → Prop} : KWh b K E ρ false μ = E.nx ρ μ := propext Iff.rfl
/-- a while loop: a measure falls -/
theorem while_ind {t : WT} {b : WS} (I : Nat → DS → Mu → Prop) (step : ∀ n ρ μ (K : DS → Mu → Prop), I n ρ μ → (∀ m ρ' μ', m < n → I m ρ' μ' → K ρ' μ') → t ρ μ (KWh b K E ρ) (KX E ρ)) {n : Nat} (h : I n ρ μ) : sWhile t b E ρ μ := by
  have all : ∀ n ρ μ, I n ρ μ → ∀ N, n < N → whileL t b E N ρ μ := by
    intro n
    induction n using Nat.strongRecOn with
    | _ n ih =>
      intro ρ μ h N hN
      cases N with
      | zero => exact absurd hN (Nat.not_lt_zero _)
      | succ N => exact step n ρ μ (whileL t b E N) h fun m ρ' μ' hm hi => ih m hm ρ' μ' hi N (by omega)
  exact ⟨n + 1, all n ρ μ h _ (Nat.lt_succ_self n)⟩
end
theorem t_equ {x y : D} {μ : Mu} {Q : D → Mu → Prop} : fEqU x y μ Q = eqU x y fun b => Q (.bl b) μ := propext Iff.rfl
theorem t_neu {x y : D} {μ : Mu} {Q : D → Mu → Prop} : fNeU x y μ Q = eqU x y fun b => Q (.bl (!b)) μ := propext Iff.rfl
/-! ### comparisons of texts and lists -/
theorem atoms_no {x y : D} {k : Bool → Prop} {u v : V} (h1 : atomV x = some u) (h2 : atomV y = some v) (hs : scal u v = true) (hd : ∀ k', eqD x y k' → k' (decide (u = v))) : eqU x y k = k (decide (u = v)) := by
  apply propext
  constructor
  · rintro (⟨u', v', e1, e2, _, h⟩ | h)
    · rw [h1] at e1
      rw [h2] at e2
      cases e1
      cases e2
      exact h
    · exact hd k h
  · intro h
    exact .inl ⟨u, v, h1, h2, hs, h⟩
theorem eqU_int {i j : Int} {k : Bool → Prop} : eqU (.int i) (.int j) k = k (decide (i = j)) := by
  have e : decide (V.int i = V.int j) = decide (i = j) := by rw [dec_int, Bool.beq_eq_decide_eq]
  rw [atoms_no (x := .int i) (y := .int j) rfl rfl rfl fun k' h => by rw [eqD_int] at h; rw [e]; exact h, e]
theorem eqU_str {a b : Str} {k : Bool → Prop} : eqU (.str a) (.str b) k = k (decide (a = b)) := by
  have e : decide (V.str a = V.str b) = decide (a = b) := by
    rw [Bool.eq_iff_iff]
    simp
  rw [atoms_no (x := .str a) (y := .str b) rfl rfl rfl fun k' h => by
    obtain ⟨p, q, h1, h2, _, _, h⟩ := h
    rw [toP] at h1 h2
    cases h1
    cases h2
    have e' : PyData.eqv (.str a) (.str b) = decide (a = b) := by
      rw [Bool.eq_iff_iff]; simp [PyData.eqv]
    rw [e, ← e']; exact h, e]
theorem eqU_bl {a b : Bool} {k : Bool → Prop} : eqU (.bl a) (.bl b) k = k (a == b) := by
  have e : decide (V.bl a = V.bl b) = (a == b) := by cases a <;> cases b <;> decide
  rw [atoms_no (x := .bl a) (y := .bl b) rfl rfl rfl fun k' h => by
    obtain ⟨p, q, h1, h2, _, _, h⟩ := h
    rw [toP] at h1 h2
    cases h1
    cases h2
    have e' : PyData.eqv (.bool a) (.bool b) = (a == b) := by cases a <;> cases b <;> rfl
    rw [e, ← e']; exact h, e]
/-! ### a comprehension that tells of each item -/
def KEl (te : WE) (K : D → Mu → Prop) : DS → Mu → Prop := fun ρ2 μ2 => te ρ2 μ2 K xF
theorem t_el {te : WE} {K : D → Mu → Prop} {ρ : DS} {μ : Mu} : KEl te K ρ μ = te ρ μ K xF := propext Iff.rfl
end DL

set_option Elab.async false
set_option linter.all false
set_option maxRecDepth 100000
set_option maxHeartbeats 4000000
set_option autoImplicit false
set_option exponentiation.threshold 3000
namespace DL
open PySem PySem.Spec PyProof.Rows L2
/-! frames of DX8 to DX11 -/
section
variable {Q : D → Mu → Prop} {Xd : XD} {ρ : DS} {μ : Mu} {E : DEnds}
def KLof (o : Option (List D)) (μ : Mu) (Q : D → Mu → Prop) : Prop := match o with
  | some ds => Q (.lst ds) μ
  | none => False
def KTof (o : Option (List D)) (μ : Mu) (Q : D → Mu → Prop) : Prop := match o with
  | some ds => Q (.tup ds) μ
  | none => False
theorem u_lof {x : D} : fListOf [x] μ Q = KLof (itemsD x μ) μ Q := propext Iff.rfl
theorem u_lof2 {ds : List D} : KLof (some ds) μ Q = Q (.lst ds) μ := propext Iff.rfl
theorem u_tof {x : D} : fTupOf [x] μ Q = KTof (itemsD x μ) μ Q := propext Iff.rfl
theorem u_tof2 {ds : List D} : KTof (some ds) μ Q = Q (.tup ds) μ := propext Iff.rfl
theorem u_isiT {f : TyN → TyN → Option Bool} {x : D} {cs : List D} : fIsiT f [x, .tup cs] μ Q = KIsi (isiDT f x cs μ) μ Q := propext Iff.rfl
theorem u_dict {i j : Int} : wDictII i j ρ μ Q Xd = Q (.opq (.dK [(.inl i, .int j)])) μ := propext Iff.rfl
/-! own comparisons -/
def KBl (neg : Bool) (Q : D → Mu → Prop) : D → Mu → Prop := fun d μ1 => fBool d fun b => Q (.bl (neg ^^ b)) μ1
theorem u_bl {neg b : Bool} : KBl neg Q (.bl b) μ = Q (.bl (neg ^^ b)) μ := propext Iff.rfl
theorem u_own {c : Str} {Ts : List String} {Cs : List Str} {sp : DSp} {x y : D} : fOwn c Ts Cs sp x y μ Q = isCls c x μ (othC Ts Cs y μ (sp [x, y] μ Q xF)) := propext Iff.rfl
theorem u_ownN {c : Str} {Ts : List String} {Cs : List Str} {sp : DSp} {x y : D} : fOwnN c Ts Cs sp x y μ Q = isCls c x μ (othC Ts Cs y μ (sp [x, y] μ (KBl true Q) xF)) := by
  unfold fOwnN KBl
  simp only [Bool.true_xor]
theorem u_has {c : Str} {sp : DSp} {x y : D} : fHas c sp y x μ Q = isCls c x μ (sp [x, y] μ (KBl false Q) xF) := by
  unfold fHas KBl
  simp only [Bool.false_xor]
theorem u_hasN {c : Str} {sp : DSp} {x y : D} : fHasN c sp y x μ Q = isCls c x μ (sp [x, y] μ (KBl true Q) xF) := by
  unfold fHasN KBl
  simp only [Bool.true_xor]
/-! reflected, static -/
def KBk2 (c T : Str) (T' : String) (sp : DSp) (y : D) (Q : D → Mu → Prop) (Xd : XD) : D → Mu → Prop := fun x μ2 => isTy T' y μ2 (isCls c x μ2 (sp [x, y] μ2 Q Xd))
def KBk1 (c : Str) (T : String) (sp : DSp) (wb : WE) (ρ : DS) (Q : D → Mu → Prop) (Xd : XD) : D → Mu → Prop := fun y μ1 => wb ρ μ1 (KBk2 c c T sp y Q Xd) Xd
theorem u_bk {c : Str} {T : String} {sp : DSp} {wa wb : WE} : wBack c T sp wa wb ρ μ Q Xd = wa ρ μ (KBk1 c T sp wb ρ Q Xd) Xd := propext Iff.rfl
theorem u_bk1 {c : Str} {T : String} {sp : DSp} {wb : WE} {y : D} : KBk1 c T sp wb ρ Q Xd y μ = wb ρ μ (KBk2 c c T sp y Q Xd) Xd := propext Iff.rfl
theorem u_bk2 {c c' : Str} {T : String} {sp : DSp} {x y : D} : KBk2 c c' T sp y Q Xd x μ = isTy T y μ (isCls c x μ (sp [x, y] μ Q Xd)) := propext Iff.rfl
theorem u_stat {sp : DSp} : wStat sp ρ μ Q Xd = sp [] μ Q Xd := propext Iff.rfl
/-! own lists -/
def KAp (i : Nat) (p : Addr) (ds : List D) (E : DEnds) (ρ : DS) : List D → Mu → Prop := fun xs μ1 => ds.length < 1000000 ∧ ∃ d, xs = [d] ∧ E.nx (ρ.set i (.own p (.lst (ds ++ [d])))) μ1
theorem u_ap {i : Nat} {wa : WA} : sAppO i wa E ρ μ = appO i wa E ρ μ (ρ[i]?) := propext Iff.rfl
theorem u_ap1 {i : Nat} {wa : WA} {p : Addr} {ds : List D} : appO i wa E ρ μ (some (.own p (.lst ds))) = wa ρ μ (KAp i p ds E ρ) (KX E ρ) := propext Iff.rfl
theorem u_ap2 {i : Nat} {p : Addr} {ds : List D} {d : D} : KAp i p ds E ρ [d] μ = (ds.length < 1000000 ∧ E.nx (ρ.set i (.own p (.lst (ds ++ [d])))) μ) := by
  apply propext
  constructor
  · rintro ⟨h, d', e, q⟩
    cases e
    exact ⟨h, q⟩
  · rintro ⟨h, q⟩
    exact ⟨h, d, rfl, q⟩
def KEx (i : Nat) (p : Addr) (ds : List D) (E : DEnds) (ρ : DS) : List D → Mu → Prop := fun xs μ1 => ∃ zs, xs = [.lst zs] ∧ ds.length + zs.length ≤ 1000000 ∧ E.nx (ρ.set i (.own p (.lst (ds ++ zs)))) μ1
theorem u_ex {i : Nat} {wa : WA} : sExtO i wa E ρ μ = extO i wa E ρ μ (ρ[i]?) := propext Iff.rfl
theorem u_ex1 {i : Nat} {wa : WA} {p : Addr} {ds : List D} : extO i wa E ρ μ (some (.own p (.lst ds))) = wa ρ μ (KEx i p ds E ρ) (KX E ρ) := propext Iff.rfl
theorem u_ex2 {i : Nat} {p : Addr} {ds zs : List D} : KEx i p ds E ρ [.lst zs] μ = (ds.length + zs.length ≤ 1000000 ∧ E.nx (ρ.set i (.own p (.lst (ds ++ zs)))) μ) := by
  apply propext
  constructor
  · rintro ⟨zs', e, h, q⟩
    cases e
    exact ⟨h, q⟩
  · rintro ⟨h, q⟩
    exact ⟨zs, rfl, h, q⟩
theorem u_kd {L : List (List Int × Int)} {ds : List D} : fKd L (.tup ds) μ Q = ∃ ks, intsD ds = some ks ∧ ∃ v, kdGet L ks = some v ∧ Q (.int v) μ := propext Iff.rfl
def KWizX (Q : List D → Mu → Prop) : List D → Mu → Prop := fun ds μ1 => zipX2 ds fun es => Q es μ1
theorem u_wzx {wa : WA} {Q : List D → Mu → Prop} : wiZipX wa ρ μ Q Xd = wa ρ μ (KWizX Q) Xd := propext Iff.rfl
theorem u_wzl {a b : List D} {Q : List D → Mu → Prop} : KWizX Q [.lst a, .lst b] μ = Q (zipD a b) μ := propext Iff.rfl
theorem u_wzt {a b : List D} {Q : List D → Mu → Prop} : KWizX Q [.tup a, .tup b] μ = Q (zipD a b) μ := propext Iff.rfl
theorem u_wzm {a b : List D} {Q : List D → Mu → Prop} : KWizX Q [.tup a, .lst b] μ = Q (zipD a b) μ := propext Iff.rfl
theorem u_zd {a b : List D} {x y : D} : zipD (x :: a) (y :: b) = .tup [x, y] :: zipD a b := rfl
theorem u_zd0 {b : List D} : zipD [] b = [] := rfl
def KWeX (Q : List D → Mu → Prop) : List D → Mu → Prop := fun ds μ1 => enX ds fun es => Q es μ1
theorem u_wex {wa : WA} {Q : List D → Mu → Prop} : wiEnumX wa ρ μ Q Xd = wa ρ μ (KWeX Q) Xd := propext Iff.rfl
theorem u_wel {a : List D} {Q : List D → Mu → Prop} : KWeX Q [.lst a] μ = Q (enumD a) μ := propext Iff.rfl
theorem u_wef {a : List D} {Q : List D → Mu → Prop} : KWeX Q [.frl a] μ = Q (enumD a) μ := propext Iff.rfl
theorem u_wet {a : List D} {Q : List D → Mu → Prop} : KWeX Q [.tup a] μ = Q (enumD a) μ := propext Iff.rfl
def enN : Nat → List D → List D
  | _, [] => []
  | n, d :: ds => .tup [.int n, d] :: enN (n + 1) ds
theorem enN_eq : ∀ (ds : List D) (n : Nat), ds.mapIdx (fun i d => D.tup [.int ((n + i : Nat) : Int), d]) = enN n ds
  | [], n => rfl
  | d :: ds, n => by
    rw [List.mapIdx_cons, enN, ← enN_eq ds (n + 1)]
    congr 1
    refine List.ext_getElem? fun i => ?_
    rw [List.getElem?_mapIdx, List.getElem?_mapIdx]
    have e : n + (i + 1) = n + 1 + i := by omega
    rw [e]
theorem u_en {d : D} {ds : List D} : enumD (d :: ds) = enN 0 (d :: ds) := by
  rw [← enN_eq]
  unfold enumD
  refine List.ext_getElem? fun i => ?_
  rw [List.getElem?_mapIdx, List.getElem?_mapIdx, Nat.zero_add]
theorem u_en0 : enumD [] = [] := rfl
theorem u_enc {n : Nat} {d : D} {ds : List D} : enN n (d :: ds) = .tup [.int n, d] :: enN (n + 1) ds := rfl
theorem u_enn {n : Nat} : enN n [] = [] := rfl
theorem u_ownL {p : Addr} {ds : List D} {k : List D → Prop} : ownL (some (.own p (.lst ds))) k = k ds := propext Iff.rfl
theorem u_olen {i : Nat} : wOwnLen i ρ μ Q Xd = ownL (ρ[i]?) fun ds => Q (.int ds.length) μ := propext Iff.rfl
def KOx (ds : List D) (Q : D → Mu → Prop) : D → Mu → Prop := fun y μ1 => intOr y fun j => KIx2 (atI ds j) μ1 Q
theorem u_oix {i : Nat} {wb : WE} : wOwnIx i wb ρ μ Q Xd = ownL (ρ[i]?) fun ds => wb ρ μ (KOx ds Q) Xd := propext Iff.rfl
theorem u_oix1 {ds : List D} {j : Int} : KOx ds Q (.int j) μ = KIx2 (atI ds j) μ Q := propext Iff.rfl
def KOi (neg : Bool) (ds : List D) (Q : D → Mu → Prop) : D → Mu → Prop := fun x μ1 => ownIn neg x ds fun b => Q (.bl b) μ1
theorem u_oin {neg : Bool} {i : Nat} {wa : WE} : wOwnIn neg i wa ρ μ Q Xd = ownL (ρ[i]?) fun ds => wa ρ μ (KOi neg ds Q) Xd := propext Iff.rfl
def KHotX (sp : XSp) (o : Option Sl) (μ : Mu) (Q : D → Mu → Prop) : Prop := KExn o fun c ks es => sp c ks es μ Q
theorem u_hot {sp : XSp} {i : Nat} : wHotX sp i ρ μ Q Xd = KHotX sp (ρ[i]?) μ Q := propext Iff.rfl
theorem u_hot1 {sp : XSp} {c : Str} {ks : List Str} {es : List D} : KHotX sp (some (.exn c ks es)) μ Q = sp c ks es μ Q := propext Iff.rfl
def KMb2 (f : F2) (x : D) (Q : D → Mu → Prop) : D → Mu → Prop := fun y μ2 => f x y μ2 Q
def KMb (f : F2) (wa : WE) (ρ : DS) (Q : D → Mu → Prop) (Xd : XD) : D → Mu → Prop := fun x μ1 => isL x (wa ρ μ1 (KMb2 f x Q) Xd)
theorem u_mb {f : F2} {wo wa : WE} : wMb f wo wa ρ μ Q Xd = wo ρ μ (KMb f wa ρ Q Xd) Xd := propext Iff.rfl
theorem u_mb1 {f : F2} {wa : WE} {ds : List D} : KMb f wa ρ Q Xd (.lst ds) μ = wa ρ μ (KMb2 f (.lst ds) Q) Xd := propext Iff.rfl
theorem u_mb1f {f : F2} {wa : WE} {ds : List D} : KMb f wa ρ Q Xd (.frl ds) μ = wa ρ μ (KMb2 f (.frl ds) Q) Xd := propext Iff.rfl
theorem u_mb2 {f : F2} {x y : D} : KMb2 f x Q y μ = f x y μ Q := propext Iff.rfl
theorem u_rev {ds : List D} : fRev (.lst ds) μ Q = Q (.lst ds.reverse) μ := propext Iff.rfl
theorem u_revf {ds : List D} : fRev (.frl ds) μ Q = Q (.lst ds.reverse) μ := propext Iff.rfl
def KMu (c1 c2 m : Str) (sp1 sp2 : DSp) (wa : WA) (ρ : DS) (Q : D → Mu → Prop) (Xd : XD) : D → Mu → Prop := fun x μ1 => hasCls c1 m x μ1 (wa ρ μ1 (KMe2 sp1 x Q Xd) Xd) ∨ hasCls c2 m x μ1 (wa ρ μ1 (KMe2 sp2 x Q Xd) Xd)
theorem u_mu {c1 c2 m : Str} {sp1 sp2 : DSp} {wo : WE} {wa : WA} : wMethU c1 c2 m sp1 sp2 wo wa ρ μ Q Xd = wo ρ μ (KMu c1 c2 m sp1 sp2 wa ρ Q Xd) Xd := propext Iff.rfl
theorem u_mu1 {c1 c2 m : Str} {sp1 sp2 : DSp} {wa : WA} {x : D} : KMu c1 c2 m sp1 sp2 wa ρ Q Xd x μ = (hasCls c1 m x μ (wa ρ μ (KMe2 sp1 x Q Xd) Xd) ∨ hasCls c2 m x μ (wa ρ μ (KMe2 sp2 x Q Xd) Xd)) := propext Iff.rfl
theorem u_sumT {ds : List D} : fSumX [.tup ds] μ Q = ∃ ns, intsD ds = some ns ∧ Q (.int ns.sum) μ := propext Iff.rfl
theorem u_sumL {ds : List D} : fSumX [.lst ds] μ Q = ∃ ns, intsD ds = some ns ∧ Q (.int ns.sum) μ := propext Iff.rfl
theorem u_wio {i : Nat} {Q : List D → Mu → Prop} : wiOwn i ρ μ Q Xd = ownL (ρ[i]?) fun ds => Q ds μ := propext Iff.rfl
end
end DL

set_option Elab.async false
set_option linter.all false
set_option maxRecDepth 100000
set_option maxHeartbeats 4000000
set_option autoImplicit false
set_option exponentiation.threshold 3000
namespace DL
open PySem PySem.Spec PyProof.Rows L2
/-! ### == of plain data, by recursion -/
def P0 : D → Bool
  | .non => true
  | .bl _ => true
  | .int _ => true
  | .str s => PyData.strOk s
  | _ => false
def Pn (p : D → Bool) : D → Bool
  | .tup ds => ds.all p
  | .lst ds => ds.all p
  | .frl ds => ds.all p
  | d => P0 d
abbrev P5 : D → Bool := Pn (Pn (Pn (Pn (Pn P0))))
mutual
def deq : D → D → Bool
  | .non, .non => true
  | .bl a, .bl b => a == b
  | .bl a, .int j => decide ((if a then 1 else 0) = j)
  | .int i, .bl b => decide (i = (if b then 1 else 0))
  | .int i, .int j => decide (i = j)
  | .str a, .str b => decide (a = b)
  | .tup a, .tup b => deqs a b
  | .lst a, .lst b => deqs a b
  | .lst a, .frl b => deqs a b
  | .frl a, .lst b => deqs a b
  | .frl a, .frl b => deqs a b
  | _, _ => false
def deqs : List D → List D → Bool
  | [], [] => true
  | x :: xs, y :: ys => deq x y && deqs xs ys
  | _, _ => false
end
/-- data of depth n -/
structure Lay (n : Nat) (d : D) (p : PyData) : Prop where
  to : toP d = some p
  lay : p.canLay0 = true
  dep : p.depth ≤ n
theorem P0_lay {d : D} (h : P0 d = true) : ∃ p, Lay 0 d p := by
  cases d <;> first | (cases h; done) | skip
  · exact ⟨.none, ⟨by rw [toP], rfl, Nat.le_refl _⟩⟩
  · exact ⟨.bool _, ⟨by rw [toP], rfl, Nat.le_refl _⟩⟩
  · exact ⟨.int _, ⟨by rw [toP], rfl, Nat.le_refl _⟩⟩
  · exact ⟨.str _, ⟨by rw [toP], h, Nat.le_refl _⟩⟩
theorem lays {p : D → Bool} {n : Nat} (hp : ∀ d, p d = true → ∃ q, Lay n d q) : ∀ ds : List D, ds.all p = true → ∃ qs, toPs ds = some qs ∧ PyData.canLayAll0 qs = true ∧ PyData.depthAll qs ≤ n
  | [], _ => ⟨[], by rw [toPs], rfl, Nat.zero_le _⟩
  | d :: ds, h => by
    rw [List.all_cons, Bool.and_eq_true_iff] at h
    obtain ⟨q, h1⟩ := hp d h.1
    obtain ⟨qs, h2, h3, h4⟩ := lays hp ds h.2
    refine ⟨q :: qs, by rw [toPs, h1.to, h2], ?_, ?_⟩
    · rw [PyData.canLayAll0, h1.lay, h3]
      rfl
    · rw [PyData.depthAll]
      exact Nat.max_le.mpr ⟨h1.dep, h4⟩
theorem Pn_lay {p : D → Bool} {n : Nat} (hp : ∀ d, p d = true → ∃ q, Lay n d q) {d : D} (h : Pn p d = true) : ∃ q, Lay (n + 1) d q := by
  have low : P0 d = true → ∃ q, Lay (n + 1) d q := fun h => by
    obtain ⟨q, h1⟩ := P0_lay h
    exact ⟨q, h1.to, h1.lay, by have := h1.dep; omega⟩
  cases d with
  | tup ds =>
    obtain ⟨qs, h2, h3, h4⟩ := lays hp ds h
    exact ⟨.tuple qs, by rw [toP, h2]; rfl, h3, Nat.succ_le_succ h4⟩
  | lst ds =>
    obtain ⟨qs, h2, h3, h4⟩ := lays hp ds h
    exact ⟨.list qs, by rw [toP, h2]; rfl, h3, Nat.succ_le_succ h4⟩
  | frl ds =>
    obtain ⟨qs, h2, h3, h4⟩ := lays hp ds h
    exact ⟨.list qs, by rw [toP, h2]; rfl, h3, Nat.succ_le_succ h4⟩
  | non => exact low h
  | bl b => exact low h
  | int i => exact low h
  | str z => exact low h
  | obj c ks ds => exact low h
  | loc n => exact low h
  | ty n => exact low h
  | cls c => exact low h
  | opq o => exact low h
theorem P5_lay {d : D} (h : P5 d = true) : ∃ q, Lay 5 d q := Pn_lay (fun _ h => Pn_lay (fun _ h => Pn_lay (fun _ h => Pn_lay (fun _ h => Pn_lay (fun _ h => P0_lay h) h) h) h) h) h
mutual
theorem deq_eqv : ∀ (x y : D) (p q : PyData), toP x = some p → toP y = some q → PyData.eqv p q = deq x y := by
  intro x y p q hx hy
  cases x <;> simp only [toP, Option.map_eq_some_iff, Option.some.injEq, reduceCtorEq] at hx <;> cases y <;> simp only [toP, Option.map_eq_some_iff, Option.some.injEq, reduceCtorEq] at hy
  all_goals first
    | (subst hx hy; simp [PyData.eqv, deq]; done)
    | (subst hx hy; rw [PyData.eqv, deq, Bool.beq_eq_decide_eq]; done)
    | (obtain ⟨ps, hx, rfl⟩ := hx; obtain ⟨qs, hy, rfl⟩ := hy; rw [PyData.eqv, deq]; exact deqs_eqv _ _ _ _ hx hy)
    | (obtain ⟨ps, hx, rfl⟩ := hx; subst hy; simp [PyData.eqv, deq]; done)
    | (obtain ⟨qs, hy, rfl⟩ := hy; subst hx; simp [PyData.eqv, deq]; done)
    | (obtain ⟨ps, hx, rfl⟩ := hx; obtain ⟨qs, hy, rfl⟩ := hy; simp [PyData.eqv, deq]; done)
theorem deqs_eqv : ∀ (xs ys : List D) (ps qs : List PyData), toPs xs = some ps → toPs ys = some qs → PyData.eqvAll ps qs = deqs xs ys := by
  intro xs ys ps qs hx hy
  cases xs with
  | nil =>
    rw [toPs] at hx
    cases hx
    cases ys with
    | nil => rw [toPs] at hy; cases hy; rfl
    | cons y ys =>
      rw [toPs] at hy
      split at hy
      · cases hy; simp [PyData.eqvAll, deqs]
      · cases hy
  | cons x xs =>
    rw [toPs] at hx
    split at hx
    · rename_i p ps' h1 h2
      cases hx
      cases ys with
      | nil => rw [toPs] at hy; cases hy; simp [PyData.eqvAll, deqs]
      | cons y ys =>
        rw [toPs] at hy
        split at hy
        · rename_i q qs' h3 h4
          cases hy
          rw [PyData.eqvAll, deqs, deq_eqv x y _ _ h1 h3, deqs_eqv xs ys _ _ h2 h4]
        · cases hy
    · cases hx
end
theorem eqU_pl {x y : D} (hx : P5 x = true) (hy : P5 y = true) {k : Bool → Prop} : eqU x y k = k (deq x y) := by
  apply propext
  constructor
  · rintro (⟨u, v, h1, h2, hs, h⟩ | ⟨p, q, h1, h2, _, _, h⟩)
    · have e : decide (u = v) = deq x y := by
        cases x <;> cases h1 <;> cases y <;> cases h2 <;> first
          | (cases hs; done)
          | (simp [deq]; done)
          | (simp only [deq]; rw [Bool.eq_iff_iff]; simp)
      rw [← e]
      exact h
    · rw [← deq_eqv x y p q h1 h2]
      exact h
  · intro h
    obtain ⟨p, a1, a2, a3⟩ := P5_lay hx
    obtain ⟨q, b1, b2, b3⟩ := P5_lay hy
    refine .inr ⟨p, q, a1, b1, ?_, ?_, ?_⟩
    · unfold SeqAt.shaped
      rw [a2]
      exact decide_eq_true (by omega)
    · unfold SeqAt.shaped
      rw [b2]
      exact decide_eq_true (by omega)
    · rw [deq_eqv x y p q a1 b1]
      exact h
/-! count, index of plain data -/
theorem P5_shaped {d : D} (h : P5 d = true) : ∃ p, toP d = some p ∧ SeqAt.shaped p = true := by
  obtain ⟨p, a1, a2, a3⟩ := P5_lay h
  refine ⟨p, a1, ?_⟩
  unfold SeqAt.shaped
  rw [a2]
  exact decide_eq_true (by omega)
theorem lst_toP {ds : List D} {q : PyData} (h : toP (.lst ds) = some q) : ∃ qs, q = .list qs ∧ toPs ds = some qs := by
  rw [toP, Option.map_eq_some_iff] at h
  obtain ⟨qs, h1, h2⟩ := h
  exact ⟨qs, h2.symm, h1⟩
/-! simp lemmas -/
section
variable {p : D → Bool}
theorem p_int {i : Int} : Pn p (.int i) = true := rfl
theorem p_bl {i : Bool} : Pn p (.bl i) = true := rfl
theorem p_non : Pn p .non = true := rfl
theorem p_tup {ds : List D} : Pn p (.tup ds) = ds.all p := rfl
theorem p_lst {ds : List D} : Pn p (.lst ds) = ds.all p := rfl
theorem p_frl {ds : List D} : Pn p (.frl ds) = ds.all p := rfl
theorem p0_int {i : Int} : P0 (.int i) = true := rfl
theorem p0_bl {i : Bool} : P0 (.bl i) = true := rfl
theorem p0_non : P0 .non = true := rfl
theorem all_map {α : Type} {f : α → D} {l : List α} (h : ∀ x, p (f x) = true) : (l.map f).all p = true := by
  rw [List.all_eq_true]
  intro d hd
  obtain ⟨x, _, rfl⟩ := List.mem_map.mp hd
  exact h x
end
theorem deqs_ref : ∀ {xs : List D}, (∀ x ∈ xs, deq x x = true) → deqs xs xs = true
  | [], _ => rfl
  | x :: xs, h => by rw [deqs, h x (by simp), deqs_ref fun y hy => h y (by simp [hy])]; rfl
theorem b_go {b v : Bool} {F : Bool → Mu → Prop} {μ : Mu} (e : b = v) (h : F v μ) : F b μ := e ▸ h
end DL

set_option Elab.async false
set_option linter.all false
set_option maxRecDepth 100000
set_option maxHeartbeats 4000000
set_option autoImplicit false
set_option exponentiation.threshold 3000
namespace DL
open PySem PySem.Spec PyProof.Rows L2
/-! loops and comprehensions over lists that are told by values -/
section
variable {α : Type} {g : WG} {tt : WT} {te : WE} {ρw : DS} {b : WS} {E : DEnds} {ρ : DS} {μ : Mu} {Q : D → Mu → Prop}
theorem lc_ind {f : α → D} (h : α → Option D) : ∀ {l : List α} {acc : List D}, (∀ a ∈ l, ∀ ds acc, acc.length < 1000000 → lcL g tt te ρw ds (acc ++ (h a).toList) μ Q → g (f a) ρw μ (KLc1 g tt te ρw ds acc Q)) → acc.length + l.length ≤ 1000000 →
    Q (.lst (acc ++ l.filterMap h)) μ → lcL g tt te ρw (l.map f) acc μ Q
  | [], acc, step, hl, fin => by
    rw [List.map_nil, lcL]
    simpa using fin
  | a :: l, acc, step, hl, fin => by
    rw [List.map_cons, r_lcc]
    rw [List.length_cons] at hl
    refine step a List.mem_cons_self (l.map f) acc (by omega) (lc_ind h (fun a' ha => step a' (List.mem_cons_of_mem _ ha)) ?_ ?_)
    · rw [List.length_append]
      cases h a
      · simp; omega
      · simp; omega
    · have e : acc ++ (h a).toList ++ l.filterMap h = acc ++ (a :: l).filterMap h := by
        rw [List.filterMap_cons]
        cases h a <;> simp
      rw [e]
      exact fin
theorem lc_mp {f : α → D} (h : α → D) {l : List α} (step : ∀ a ∈ l, ∀ ds acc, acc.length < 1000000 → lcL g tt te ρw ds (acc ++ [h a]) μ Q → g (f a) ρw μ (KLc1 g tt te ρw ds acc Q)) (hl : l.length ≤ 1000000) (fin : Q (.lst (l.map h)) μ) :
    lcL g tt te ρw (l.map f) [] μ Q := lc_ind (fun a => some (h a)) step (by simpa using hl) (by simpa [List.filterMap_eq_map] using fin)
theorem fm_filter {c : α → Bool} {h : α → D} : ∀ {l : List α}, l.filterMap (fun a => if c a then some (h a) else none) = (l.filter c).map h
  | [] => rfl
  | a :: l => by
    rw [List.filterMap_cons, List.filter_cons, fm_filter]
    cases c a <;> rfl
theorem lc_filter {f : α → D} (c : α → Bool) (h : α → D) {l : List α} (step : ∀ a ∈ l, ∀ ds acc, acc.length < 1000000 → (c a = true → lcL g tt te ρw ds (acc ++ [h a]) μ Q) → (c a = false → lcL g tt te ρw ds acc μ Q) → g (f a) ρw μ (KLc1 g tt te ρw ds acc Q)) (hl : l.length ≤ 1000000)
    (fin : Q (.lst ((l.filter c).map h)) μ) : lcL g tt te ρw (l.map f) [] μ Q := by
  refine lc_ind (fun a => if c a then some (h a) else none) (fun a ha ds acc hacc hK => step a ha ds acc hacc (fun e => ?_) fun e => ?_) (by simpa using hl) ?_
  · rw [e] at hK
    simpa using hK
  · rw [e] at hK
    simpa using hK
  · rw [fm_filter]
    simpa using fin
/-- over range(lo, lo + n) -/
theorem forL_rng {lo : Int} {n : Nat} (I : Nat → DS → Mu → Prop) (step : ∀ i, i < n → ∀ ρ μ (K : DS → Mu → Prop), I i ρ μ → (∀ ρ' μ', I (i + 1) ρ' μ' → K ρ' μ') → g (.int (lo + (i : Nat))) ρ μ fun ρ1 μ1 => b { E with nx := K, ct := K, bk := E.nx } ρ1 μ1)
    (fin : ∀ ρ μ, I n ρ μ → E.nx ρ μ) (h : I 0 ρ μ) : forL g b E (rangeD lo n) ρ μ := by
  have all : ∀ k i, i + k = n → ∀ ρ μ, I i ρ μ → forL g b E ((List.range' i k).map fun j => D.int (lo + (j : Nat))) ρ μ := by
    intro k
    induction k with
    | zero =>
      intro i hi ρ μ h
      have e : i = n := by omega
      subst e
      rw [List.range'_zero, List.map_nil, forL]
      exact fin _ _ h
    | succ k ih =>
      intro i hi ρ μ h
      rw [List.range'_succ, List.map_cons, forL]
      exact step i (by omega) ρ μ _ h fun ρ' μ' h' => ih (i + 1) (by omega) ρ' μ' h'
  have e : rangeD lo n = (List.range' 0 n).map fun j => D.int (lo + (j : Nat)) := by
    unfold rangeD
    rw [List.range_eq_range']
  rw [e]
  exact all n 0 (by omega) ρ μ h
/-- over data told by values, with what has been gone through -/
theorem forL_pre {f : α → D} {l : List α} (I : List α → DS → Mu → Prop) (step : ∀ pre a post, l = pre ++ a :: post → ∀ ρ μ (K : DS → Mu → Prop), I pre ρ μ → (∀ ρ' μ', I (pre ++ [a]) ρ' μ' → K ρ' μ') → g (f a) ρ μ fun ρ1 μ1 => b { E with nx := K, ct := K, bk := E.nx } ρ1 μ1)
    (fin : ∀ ρ μ, I l ρ μ → E.nx ρ μ) (h : I [] ρ μ) : forL g b E (l.map f) ρ μ := by
  have all : ∀ post pre, l = pre ++ post → ∀ ρ μ, I pre ρ μ → forL g b E (post.map f) ρ μ := by
    intro post
    induction post with
    | nil =>
      intro pre e ρ μ h
      rw [List.append_nil] at e
      subst e
      rw [List.map_nil, forL]
      exact fin _ _ h
    | cons a post ih =>
      intro pre e ρ μ h
      rw [List.map_cons, forL]
      exact step pre a post e ρ μ _ h fun ρ' μ' h' => ih (pre ++ [a]) (by rw [e]; simp) ρ' μ' h'
  exact all l [] rfl ρ μ h
end
end DL

set_option Elab.async false
set_option linter.all false
set_option maxRecDepth 100000
set_option maxHeartbeats 4000000
set_option autoImplicit false
set_option exponentiation.threshold 3000
namespace DL
open PySem PySem.Spec PyProof.Rows L2
/-! frames of DX20 -/
section
variable {Q : D → Mu → Prop} {Xd : XD} {ρ : DS} {μ : Mu} {E : DEnds} {cs : List Str} {sp : DSp} {wa wb wo : WE} {ws : WA} {x y : D}
def KIxO2 (cs : List Str) (sp : DSp) (x : D) (Q : D → Mu → Prop) (Xd : XD) : D → Mu → Prop := fun i μ2 => isClsU cs x μ2 (sp [x, i] μ2 Q Xd)
def KIxO1 (cs : List Str) (sp : DSp) (wb : WE) (ρ : DS) (Q : D → Mu → Prop) (Xd : XD) : D → Mu → Prop := fun x μ1 => wb ρ μ1 (KIxO2 cs sp x Q Xd) Xd
theorem v_ix : wIxO cs sp wa wb ρ μ Q Xd = wa ρ μ (KIxO1 cs sp wb ρ Q Xd) Xd := propext Iff.rfl
theorem v_ix1 : KIxO1 cs sp wb ρ Q Xd x μ = wb ρ μ (KIxO2 cs sp x Q Xd) Xd := propext Iff.rfl
theorem v_ix2 : KIxO2 cs sp x Q Xd y μ = isClsU cs x μ (sp [x, y] μ Q Xd) := propext Iff.rfl
def KInv (cs : List Str) (sp : DSp) (Q : D → Mu → Prop) (Xd : XD) : D → Mu → Prop := fun x μ1 => isClsU cs x μ1 (sp [x] μ1 Q Xd)
theorem v_inv : wInv cs sp wa ρ μ Q Xd = wa ρ μ (KInv cs sp Q Xd) Xd := propext Iff.rfl
theorem v_inv1 : KInv cs sp Q Xd x μ = isClsU cs x μ (sp [x] μ Q Xd) := propext Iff.rfl
def KCo2 (cs : List Str) (sp : DSp) (x : D) (Q : D → Mu → Prop) (Xd : XD) : List D → Mu → Prop := fun ds μ2 => isClsU cs x μ2 (sp (x :: ds) μ2 Q Xd)
def KCo1 (cs : List Str) (sp : DSp) (ws : WA) (ρ : DS) (Q : D → Mu → Prop) (Xd : XD) : D → Mu → Prop := fun x μ1 => isClsU cs x μ1 (ws ρ μ1 (KCo2 cs sp x Q Xd) Xd)
theorem v_co : wCallO cs sp wo ws ρ μ Q Xd = wo ρ μ (KCo1 cs sp ws ρ Q Xd) Xd := propext Iff.rfl
theorem v_co1 : KCo1 cs sp ws ρ Q Xd x μ = isClsU cs x μ (ws ρ μ (KCo2 cs sp x Q Xd) Xd) := propext Iff.rfl
theorem v_co2 {ds : List D} : KCo2 cs sp x Q Xd ds μ = isClsU cs x μ (sp (x :: ds) μ Q Xd) := propext Iff.rfl
def KLnO (Q : D → Mu → Prop) : D → Mu → Prop := fun d μ1 => match d with
    | .int n => 0 ≤ n ∧ n < 2 ^ 62 ∧ Q (.int n) μ1
    | _ => False
theorem v_len : fLenO cs sp [x] μ Q = isClsU cs x μ (sp [x] μ (KLnO Q) xF) := propext Iff.rfl
theorem v_len1 {n : Int} : KLnO Q (.int n) μ = (0 ≤ n ∧ n < 2 ^ 62 ∧ Q (.int n) μ) := propext Iff.rfl
def KSlo (i : Nat) (E : DEnds) (ρ : DS) : D → Mu → Prop := fun d μ1 => ∃ acc, d = .lst acc ∧ i < ρ.length ∧ ∀ p, E.nx (ρ.set i (.own p (.lst acc))) μ1
theorem v_slo {i : Nat} {w : WE} : sSetLcO i w E ρ μ = w ρ μ (KSlo i E ρ) (KX E ρ) := propext Iff.rfl
theorem v_slo1 {i : Nat} {acc : List D} : KSlo i E ρ (.lst acc) μ = (i < ρ.length ∧ ∀ p, E.nx (ρ.set i (.own p (.lst acc))) μ) := by
  apply propext
  constructor
  · rintro ⟨acc', e, h⟩
    cases e
    exact h
  · intro h
    exact ⟨acc, rfl, h⟩
theorem v_f2or {f g : F2} : F2.or f g x y μ Q = (f x y μ Q ∨ g x y μ Q) := propext Iff.rfl
end
theorem w_ff : (false == false) = true := rfl
theorem w_ft : (false == true) = false := rfl
theorem w_tf : (true == false) = false := rfl
theorem w_tt : (true == true) = true := rfl
/-! in, by data -/
theorem toPs_any {y : D} {p : PyData} (hy : toP y = some p) : ∀ {ds : List D} {qs : List PyData}, toPs ds = some qs → (qs.any fun z => PyData.eqv z p) = ds.any fun d => deq d y
  | [], qs, h => by
    rw [toPs] at h
    cases h
    rfl
  | d :: ds, qs, h => by
    rw [toPs] at h
    cases e1 : toP d with
    | none => rw [e1] at h; cases h
    | some q =>
      cases e2 : toPs ds with
      | none => rw [e1, e2] at h; cases h
      | some r =>
        rw [e1, e2] at h
        cases h
        rw [List.any_cons, List.any_cons, toPs_any hy e2, deq_eqv d y q p e1 hy]
theorem oin_pl {neg : Bool} {x : D} {ds : List D} {Q : Bool → Prop} (hx : P5 x = true) (hy : P5 (.lst ds) = true) (h : Q (neg ^^ ds.any fun d => deq d x)) : ownIn neg x ds Q := by
  obtain ⟨p, e1, s1⟩ := P5_shaped hx
  obtain ⟨q, e2, s2⟩ := P5_shaped hy
  obtain ⟨qs, rfl, e3⟩ := lst_toP e2
  exact ⟨p, qs, e1, e3, s1, s2, by rw [toPs_any e1 e3]; exact h⟩
end DL

set_option Elab.async false
set_option linter.all false
set_option maxRecDepth 100000
set_option maxHeartbeats 2000000
/-! Frames: stores into own lists. -/
namespace DL
open PySem PySem.Spec PyProof.Rows L2
section
variable {i : Nat} {wi : WE} {d : D} {ρ : DS} {μ : Mu} {Q : DS → Mu → Prop} {p : Addr} {ds : List D} {j : Int}
def KSubO (i : Nat) (p : Addr) (ds : List D) (d : D) (ρ : DS) (Q : DS → Mu → Prop) : D → Mu → Prop := fun y μ2 => stO i p ds y d ρ fun ρ' => Q ρ' μ2
theorem x_subO : kSubO i wi d ρ μ Q = subO i wi d ρ μ Q (ρ[i]?) := propext Iff.rfl
theorem x_subO1 : subO i wi d ρ μ Q (some (.own p (.lst ds))) = wi ρ μ (KSubO i p ds d ρ Q) xF := propext Iff.rfl
theorem x_subO2 : KSubO i p ds d ρ Q (.int j) μ = (match ixN ds.length j with
    | some z => Q (ρ.set i (.own p (.lst (ds.set z d)))) μ
    | none => False) := propext Iff.rfl
end
end DL

set_option Elab.async false
set_option linter.all false
set_option maxRecDepth 100000
set_option maxHeartbeats 2000000
/-! Frames: remove, pop, comprehensions kept as cells. -/
namespace DL
open PySem PySem.Spec PyProof.Rows L2
section
variable {i n : Nat} {wa wo : WE} {ws : WA} {wi : WI} {k : WG} {tt : WT} {te : WE} {vs : List Nat} {d x : D} {ρ : DS} {μ : Mu} {E : DEnds} {Q : D → Mu → Prop} {Xd : XD} {p : Addr} {ds acc : List D} {j : Int}
def KPop2 (x : D) (Q : D → Mu → Prop) : D → Mu → Prop := fun y μ2 => popL x y μ2 Q
def KPop1 (wa : WE) (ρ : DS) (Q : D → Mu → Prop) (Xd : XD) : D → Mu → Prop := fun x μ1 => isC x μ1 (wa ρ μ1 (KPop2 x Q) Xd)
theorem y_pop : wPopL wo wa ρ μ Q Xd = wo ρ μ (KPop1 wa ρ Q Xd) Xd := propext Iff.rfl
theorem y_pop1 : KPop1 wa ρ Q Xd x μ = isC x μ (wa ρ μ (KPop2 x Q) Xd) := propext Iff.rfl
theorem y_pop2 : KPop2 x Q d μ = popL x d μ Q := propext Iff.rfl
theorem y_lcC : wLcC wi k tt te vs ρ μ Q Xd = wLc wi k tt te vs ρ μ (cellQ Q) Xd := propext Iff.rfl
theorem y_cell : cellQ Q (.lst acc) μ = Q (.loc μ.length) (μ ++ [.lst acc]) := propext Iff.rfl
def KRem (i : Nat) (p : Addr) (ds : List D) (E : DEnds) (ρ : DS) : List D → Mu → Prop := fun xs μ1 => ∃ d, xs = [d] ∧ remD ds d fun ds' => E.nx (ρ.set i (.own p (.lst ds'))) μ1
theorem y_rem : sRemO i ws E ρ μ = remO i ws E ρ μ (ρ[i]?) := propext Iff.rfl
theorem y_rem1 : remO i ws E ρ μ (some (.own p (.lst ds))) = ws ρ μ (KRem i p ds E ρ) (KX E ρ) := propext Iff.rfl
theorem y_rem2 : KRem i p ds E ρ [d] μ = remD ds d fun ds' => E.nx (ρ.set i (.own p (.lst ds'))) μ := by
  apply propext
  constructor
  · rintro ⟨d', e, h⟩
    cases e
    exact h
  · exact fun h => ⟨d, rfl, h⟩
end
end DL

set_option Elab.async false
set_option linter.all false
set_option maxRecDepth 100000
set_option maxHeartbeats 2000000
/-! Frames: changeable instances, setters, own sums of lists, == of tuples. -/
namespace DL
open PySem PySem.Spec PyProof.Rows L2
section
variable {i n : Nat} {c f : Str} {sp : DSp} {wa wb wo : WE} {d x y : D} {ρ : DS} {μ : Mu} {E : DEnds} {Q : D → Mu → Prop} {ds es : List D}
def KFl2 (c f : Str) (d : D) (E : DEnds) (ρ : DS) : D → Mu → Prop := fun x μ2 => putL c f x d μ2 (E.nx ρ)
def KFl1 (c f : Str) (wo : WE) (E : DEnds) (ρ : DS) : D → Mu → Prop := fun d μ1 => wo ρ μ1 (KFl2 c f d E ρ) (KX E ρ)
theorem z_fl : sFldL c f wo wa E ρ μ = wa ρ μ (KFl1 c f wo E ρ) (KX E ρ) := propext Iff.rfl
theorem z_fl1 : KFl1 c f wo E ρ d μ = wo ρ μ (KFl2 c f d E ρ) (KX E ρ) := propext Iff.rfl
theorem z_fl2 : KFl2 c f d E ρ x μ = putL c f x d μ (E.nx ρ) := propext Iff.rfl
def KPs3 (E : DEnds) (ρ : DS) : D → Mu → Prop := fun _ μ3 => E.nx ρ μ3
def KPs2 (c : Str) (sp : DSp) (d : D) (E : DEnds) (ρ : DS) : D → Mu → Prop := fun x μ2 => isCls c x μ2 (sp [x, d] μ2 (KPs3 E ρ) (KX E ρ))
def KPs1 (c : Str) (sp : DSp) (wo : WE) (E : DEnds) (ρ : DS) : D → Mu → Prop := fun d μ1 => wo ρ μ1 (KPs2 c sp d E ρ) (KX E ρ)
theorem z_ps : sPropS c sp wo wa E ρ μ = wa ρ μ (KPs1 c sp wo E ρ) (KX E ρ) := propext Iff.rfl
theorem z_ps1 : KPs1 c sp wo E ρ d μ = wo ρ μ (KPs2 c sp d E ρ) (KX E ρ) := propext Iff.rfl
theorem z_ps2 : KPs2 c sp d E ρ x μ = isCls c x μ (sp [x, d] μ (KPs3 E ρ) (KX E ρ)) := propext Iff.rfl
theorem z_ps3 : KPs3 E ρ d μ = E.nx ρ μ := propext Iff.rfl
theorem z_eqT : fEqT c sp (.tup ds) (.tup es) μ Q = (prsO c sp μ ds es ∧ Q (.bl true) μ) := propext Iff.rfl
def KCat2 (i : Nat) (x : D) (E : DEnds) (ρ : DS) : D → Mu → Prop := fun y μ2 => catO x y fun ds => i < ρ.length ∧ ∀ p, E.nx (ρ.set i (.own p (.lst ds))) μ2
def KCat1 (i : Nat) (wb : WE) (E : DEnds) (ρ : DS) : D → Mu → Prop := fun x μ1 => wb ρ μ1 (KCat2 i x E ρ) (KX E ρ)
theorem z_cat : sSetCat i wa wb E ρ μ = wa ρ μ (KCat1 i wb E ρ) (KX E ρ) := propext Iff.rfl
theorem z_cat1 : KCat1 i wb E ρ x μ = wb ρ μ (KCat2 i x E ρ) (KX E ρ) := propext Iff.rfl
theorem z_cat2 {a b : List D} : KCat2 i (.lst a) E ρ (.lst b) μ = (a.length + b.length ≤ 1000 ∧ i < ρ.length ∧ ∀ p, E.nx (ρ.set i (.own p (.lst (a ++ b)))) μ) := propext Iff.rfl
end
end DL

set_option Elab.async false
set_option linter.all false
set_option maxRecDepth 100000
set_option maxHeartbeats 2000000
set_option autoImplicit false
/-! Frames: loops over cells, list(x) as a cell, append, o[i] = v. -/
namespace DL
open PySem PySem.Spec PyProof.Rows L2
section
variable {i n : Nat} {c f : Str} {cs : List Str} {sp : DSp} {wa wb wo wi : WE} {ws : WA} {wc : WIC} {g : WG} {b : WS} {tt : WT} {te : WE} {vs : List Nat} {d x y : D} {ρ ρw : DS} {μ : Mu} {E : DEnds} {Q : D → Mu → Prop} {Qc : List D → (Mu → Prop) → Mu → Prop} {Xd : XD} {ds es acc : List D} {C : Mu → Prop}
def KWic (Q : List D → (Mu → Prop) → Mu → Prop) : D → Mu → Prop := fun d μ1 => celOr d μ1 fun ds C => Q ds C μ1
theorem c_wi : wiCel wa ρ μ Qc Xd = wa ρ μ (KWic Qc) Xd := propext Iff.rfl
def KEnC (Q : List D → (Mu → Prop) → Mu → Prop) : List D → Mu → Prop := fun ds μ1 => cel1 ds μ1 fun es C => Q es C μ1
theorem c_en : wiEnC ws ρ μ Qc Xd = ws ρ μ (KEnC Qc) Xd := propext Iff.rfl
theorem c_en1 : KEnC Qc [d] μ = KWic (fun es C μ => Qc (enumD es) C μ) d μ := propext Iff.rfl
def KForC (g : WG) (b : WS) (E : DEnds) (ρ : DS) : List D → (Mu → Prop) → Mu → Prop := fun ds C μ1 => forLC g b E C ds ρ μ1
theorem c_for : sForC wc g b E ρ μ = wc ρ μ (KForC g b E ρ) (KX E ρ) := propext Iff.rfl
theorem c_for1 : KForC g b E ρ ds C μ = forLC g b E C ds ρ μ := propext Iff.rfl
def KLcU (g : WG) (tt : WT) (te : WE) (vs : List Nat) (ρ : DS) (Q : D → Mu → Prop) : List D → (Mu → Prop) → Mu → Prop := fun ds C μ1 => (∀ v ∈ vs, notOwn ρ v) ∧ lcLC g tt te (wipeD ρ vs) C ds [] μ1 Q
theorem c_lc : wLcU wc g tt te vs ρ μ Q Xd = wc ρ μ (KLcU g tt te vs ρ Q) Xd := propext Iff.rfl
theorem c_lc1 : KLcU g tt te vs ρ Q ds C μ = ((∀ v ∈ vs, notOwn ρ v) ∧ lcLC g tt te (wipeD ρ vs) C ds [] μ Q) := propext Iff.rfl
def KLofC (o : Option (List D)) (μ : Mu) (Q : D → Mu → Prop) : Prop := match o with
  | some ds => Q (.loc μ.length) (μ ++ [.lst ds])
  | none => False
theorem c_lof : fListOfC [x] μ Q = KLofC (itemsD x μ) μ Q := propext Iff.rfl
theorem c_lof1 : KLofC (some ds) μ Q = Q (.loc μ.length) (μ ++ [.lst ds]) := propext Iff.rfl
def KAL2 (x : D) (Q : D → Mu → Prop) : D → Mu → Prop := fun y μ2 => appL x y μ2 Q
def KAL1 (wa : WE) (ρ : DS) (Q : D → Mu → Prop) (Xd : XD) : D → Mu → Prop := fun x μ1 => isC x μ1 (wa ρ μ1 (KAL2 x Q) Xd)
theorem c_ap : wAppL wo wa ρ μ Q Xd = wo ρ μ (KAL1 wa ρ Q Xd) Xd := propext Iff.rfl
theorem c_ap1 : KAL1 wa ρ Q Xd x μ = isC x μ (wa ρ μ (KAL2 x Q) Xd) := propext Iff.rfl
theorem c_ap2 : KAL2 x Q y μ = appL x y μ Q := propext Iff.rfl
def KSi3 (cs : List Str) (sp : DSp) (d x : D) (E : DEnds) (ρ : DS) : D → Mu → Prop := fun y μ3 => isClsU cs x μ3 (sp [x, y, d] μ3 (KPs3 E ρ) (KX E ρ))
def KSi2 (cs : List Str) (sp : DSp) (wi : WE) (d : D) (E : DEnds) (ρ : DS) : D → Mu → Prop := fun x μ2 => wi ρ μ2 (KSi3 cs sp d x E ρ) (KX E ρ)
def KSi1 (cs : List Str) (sp : DSp) (wo wi : WE) (E : DEnds) (ρ : DS) : D → Mu → Prop := fun d μ1 => wo ρ μ1 (KSi2 cs sp wi d E ρ) (KX E ρ)
theorem c_si : sSetIx cs sp wo wi wa E ρ μ = wa ρ μ (KSi1 cs sp wo wi E ρ) (KX E ρ) := propext Iff.rfl
theorem c_si1 : KSi1 cs sp wo wi E ρ d μ = wo ρ μ (KSi2 cs sp wi d E ρ) (KX E ρ) := propext Iff.rfl
theorem c_si2 : KSi2 cs sp wi d E ρ x μ = wi ρ μ (KSi3 cs sp d x E ρ) (KX E ρ) := propext Iff.rfl
theorem c_si3 : KSi3 cs sp d x E ρ y μ = isClsU cs x μ (sp [x, y, d] μ (KPs3 E ρ) (KX E ρ)) := propext Iff.rfl
/-- a list, shown or a cell -/
def IsL (μ : Mu) (d : D) (ds : List D) : Prop := d = .lst ds ∨ ∃ n, d = .loc n ∧ μ[n]? = some (.lst ds)
theorem isL_l {μ : Mu} {ds : List D} : IsL μ (.lst ds) ds := .inl rfl
theorem KWic_go (hd : IsL μ d ds) (h : ∀ C : Mu → Prop, C μ → Qc ds C μ) : KWic Qc d μ := by
  rcases hd with rfl | ⟨n, rfl, e⟩
  · exact h _ trivial
  · unfold KWic celOr
    simp only [e]
    exact h _ e
theorem isL_items (hd : IsL μ d ds) : itemsD d μ = some ds := by
  rcases hd with rfl | ⟨n, rfl, e⟩
  · rfl
  · unfold itemsD
    simp only [e]
theorem forLC_inv {g : WG} {b : WS} {E : DEnds} {C : Mu → Prop} (I : DS → Mu → Prop) (hC : ∀ ρ μ, I ρ μ → C μ) (fin : ∀ ρ μ, I ρ μ → E.nx ρ μ) : ∀ {ds : List D}, (∀ d ∈ ds, ∀ ρ μ (K : DS → Mu → Prop), I ρ μ → (∀ ρ' μ', I ρ' μ' → K ρ' μ') → g d ρ μ fun ρ1 μ1 => b { E with nx := K, ct := K, bk := E.nx } ρ1 μ1) →
    ∀ {ρ μ}, I ρ μ → forLC g b E C ds ρ μ
  | [], _, ρ, μ, h => by rw [forLC]; exact ⟨hC ρ μ h, fin ρ μ h⟩
  | d :: ds, step, ρ, μ, h => by
    rw [forLC]
    exact ⟨hC ρ μ h, step d (by simp) ρ μ _ h fun ρ' μ' h' => forLC_inv I hC fin (fun d hd => step d (by simp [hd])) h'⟩
/-- a comprehension that leaves the cells as they are -/
def KLu3 (g : WG) (tt : WT) (te : WE) (ρw : DS) (C : Mu → Prop) (ds acc : List D) (Q : D → Mu → Prop) : D → Mu → Prop := fun y μ4 => acc.length < 1000000 ∧ lcLC g tt te ρw C ds (acc ++ [y]) μ4 Q
def KLu2 (g : WG) (tt : WT) (te : WE) (ρw : DS) (C : Mu → Prop) (ds acc : List D) (Q : D → Mu → Prop) (ρ2 : DS) : Bool → Mu → Prop := fun b μ3 => if b = true then te ρ2 μ3 (KLu3 g tt te ρw C ds acc Q) xF else lcLC g tt te ρw C ds acc μ3 Q
def KLu1 (g : WG) (tt : WT) (te : WE) (ρw : DS) (C : Mu → Prop) (ds acc : List D) (Q : D → Mu → Prop) : DS → Mu → Prop := fun ρ2 μ2 => tt ρ2 μ2 (KLu2 g tt te ρw C ds acc Q ρ2) xF
theorem c_lu1 : KLu1 g tt te ρw C ds acc Q ρ μ = tt ρ μ (KLu2 g tt te ρw C ds acc Q ρ) xF := propext Iff.rfl
theorem c_lu2 : KLu2 g tt te ρw C ds acc Q ρ true μ = te ρ μ (KLu3 g tt te ρw C ds acc Q) xF := propext (by unfold KLu2; rw [if_pos rfl])
theorem c_lu3 : KLu3 g tt te ρw C ds acc Q d μ = (acc.length < 1000000 ∧ lcLC g tt te ρw C ds (acc ++ [d]) μ Q) := propext Iff.rfl
theorem lcLC_mp {α : Type} {f : α → D} (h : α → D) {l : List α} (hC : C μ) (step : ∀ a ∈ l, ∀ K : D → Mu → Prop, K (h a) μ → g (f a) ρw μ fun ρ2 μ2 => te ρ2 μ2 K xF) (hl : l.length ≤ 1000000) (fin : Q (.lst (l.map h)) μ) :
    lcLC g wYes te ρw C (l.map f) [] μ Q := by
  have all : ∀ (l' : List α) (acc : List D), (∀ a ∈ l', a ∈ l) → acc.length + l'.length ≤ 1000000 → Q (.lst (acc ++ l'.map h)) μ → lcLC g wYes te ρw C (l'.map f) acc μ Q := by
    intro l'
    induction l' with
    | nil =>
      intro acc _ _ q
      rw [List.map_nil, lcLC]
      rw [List.map_nil, List.append_nil] at q
      exact ⟨hC, q⟩
    | cons a l' ih =>
      intro acc hm hlen q
      rw [List.length_cons] at hlen
      rw [List.map_cons, lcLC]
      refine ⟨hC, ?_⟩
      have e : (fun (ρ2 : DS) (μ2 : Mu) => wYes ρ2 μ2 (fun b μ3 => if b = true then te ρ2 μ3 (fun y μ4 => acc.length < 1000000 ∧ lcLC g wYes te ρw C (l'.map f) (acc ++ [y]) μ4 Q) xF else lcLC g wYes te ρw C (l'.map f) acc μ3 Q) xF) = fun ρ2 μ2 => te ρ2 μ2 (fun y μ4 => acc.length < 1000000 ∧ lcLC g wYes te ρw C (l'.map f) (acc ++ [y]) μ4 Q) xF := by
        funext ρ2 μ2
        unfold wYes
        simp only [if_true]
      rw [e]
      refine step a (hm a List.mem_cons_self) _ ⟨by omega, ih (acc ++ [h a]) (fun b hb => hm b (List.mem_cons_of_mem _ hb)) (by rw [List.length_append, List.length_singleton]; omega) ?_⟩
      rw [List.append_assoc]
      exact q
  exact all l [] (fun _ h => h) (by simpa using hl) (by simpa using fin)
end
end DL

set_option Elab.async false
set_option linter.all false
set_option maxRecDepth 100000
set_option maxHeartbeats 2000000
set_option autoImplicit false
/-! Frames: == of lists with own items, shown or cells. -/
namespace DL
open PySem PySem.Spec PyProof.Rows L2
end DL

set_option Elab.async false
set_option linter.all false
set_option maxRecDepth 100000
set_option maxHeartbeats 2000000
set_option autoImplicit false
/-! Frames: a list against the empty list, a, b = e, []. -/
namespace DL
open PySem PySem.Spec PyProof.Rows L2
def KP2O (i j : Nat) (E : DEnds) (ρ : DS) : D → Mu → Prop := fun d μ1 => j < ρ.length ∧ ∀ p, E.nx ((ρ.set j (.own p (.lst []))).set i (.v d)) μ1
theorem y_p2 {i j : Nat} {wa : WE} {E : DEnds} {ρ : DS} {μ : Mu} : sPar2O i j wa E ρ μ = wa ρ μ (KP2O i j E ρ) (KX E ρ) := propext Iff.rfl
theorem y_p21 {i j : Nat} {d : D} {E : DEnds} {ρ : DS} {μ : Mu} : KP2O i j E ρ d μ = (j < ρ.length ∧ ∀ p, E.nx ((ρ.set j (.own p (.lst []))).set i (.v d)) μ) := propext Iff.rfl
end DL

set_option Elab.async false
set_option linter.all false
set_option maxRecDepth 100000
set_option maxHeartbeats 4000000
set_option autoImplicit false
/-! A sleeping generator stays as it is while other code runs: what a run reads of it is but where it stands. -/
namespace DL
open PySem

def badK : Resume → Sem Fin := fun _ => .unsupported "asleep"
/-- the same generator as others see it, which none can wake -/
def mute : GenState → GenState
  | .suspended _ l c p fs cl => .suspended badK l c p fs cl
  | x => x
def asleep : GenState → Bool
  | .suspended .. => true
  | _ => false
def NG : GenState → Prop
  | .suspended _ _ _ _ fs _ => splitAtGen fs = none
  | _ => True
theorem mute_seen (x : GenState) : (mute x).seen = x.seen := by cases x <;> rfl
theorem mute_bare (x : GenState) : (mute x).bare = x.bare := by cases x <;> rfl
/-- which of them are held asleep -/
abbrev Sleepers := Nat → Option GenState
/-- g: the generators as they are; g2: those held asleep muted -/
structure Rl (B : Sleepers) (g2 g : Array GenState) : Prop where
  size : g2.size = g.size
  free : ∀ i, B i = none → g[i]? = g2[i]? ∧ ∀ x, g[i]? = some x → NG x
  held : ∀ i x, B i = some x → g[i]? = some x ∧ g2[i]? = some (mute x) ∧ asleep x = true
theorem Rl.seen {B : Sleepers} {g2 g : Array GenState} (r : Rl B g2 g) {i : Nat} {y : GenState} (q : g2[i]? = some y) : ∃ x, g[i]? = some x ∧ x.seen = y.seen := by
  cases hB : B i with
  | none => exact ⟨y, (r.free i hB).1.trans q, rfl⟩
  | some x =>
    obtain ⟨h1, h2, _⟩ := r.held i x hB
    rw [q] at h2
    obtain rfl := Option.some.inj h2
    exact ⟨x, h1, (mute_seen x).symm⟩
theorem Rl.set {B : Sleepers} {g2 g : Array GenState} (r : Rl B g2 g) {i : Nat} {x : GenState} (hi : B i = none) (hx : NG x) : Rl B (g2.setIfInBounds i x) (g.setIfInBounds i x) where
  size := by simp [r.size]
  free := fun j hj => by
    obtain ⟨e, n⟩ := r.free j hj
    by_cases h : i = j
    · subst h
      simp only [Array.getElem?_setIfInBounds_self, r.size]
      refine ⟨trivial, fun y hy => ?_⟩
      split at hy
      · cases hy; exact hx
      · cases hy
    · rw [Array.getElem?_setIfInBounds_ne h, Array.getElem?_setIfInBounds_ne h]
      exact ⟨e, n⟩
  held := fun j y hj => by
    have h : i ≠ j := fun z => by rw [z, hj] at hi; cases hi
    rw [Array.getElem?_setIfInBounds_ne h, Array.getElem?_setIfInBounds_ne h]
    exact r.held j y hj
theorem Rl.push {B : Sleepers} {g2 g : Array GenState} (r : Rl B g2 g) {c : Code} : Rl B (g2.push (.fresh c)) (g.push (.fresh c)) where
  size := by simp [r.size]
  free := fun j hj => by
    obtain ⟨e, n⟩ := r.free j hj
    simp only [Array.getElem?_push, r.size]
    split
    · exact ⟨rfl, fun x hx => by cases hx; trivial⟩
    · exact ⟨e, n⟩
  held := fun j y hj => by
    obtain ⟨h1, h2, h3⟩ := r.held j y hj
    have l1 : j < g.size := (Array.getElem?_eq_some_iff.mp h1).1
    have l2 : j < g2.size := by rw [r.size]; exact l1
    simp only [Array.getElem?_push]
    rw [if_neg (Nat.ne_of_lt l1), if_neg (Nat.ne_of_lt l2)]
    exact ⟨h1, h2, h3⟩
/-- an end that keeps no generator's frame -/
def NGE : End → Prop
  | .susp _ _ _ _ _ _ fs => splitAtGen fs = none
  | _ => True
theorem NGE.gen {e : End} (h : NGE e) : NG e.genState := by
  cases e with
  | ret _ => trivial
  | susp v g l k c p fs => exact h
abbrev withG (s : Shared) (g : Array GenState) : Shared := { s with gens := g }
end DL

set_option Elab.async false
set_option linter.all false
set_option maxRecDepth 100000
set_option maxHeartbeats 4000000
set_option autoImplicit false
namespace DL
open PySem PySem.Spec PyProof.Rows
open Sem (wp)

theorem Rl.bare {B : Sleepers} {g2 g : Array GenState} (r : Rl B g2 g) (h : AllBare g2) : AllBare g := fun y hy => by
  obtain ⟨i, hi, e⟩ := Array.mem_iff_getElem.mp hy
  have q : g[i]? = some y := by rw [Array.getElem?_eq_getElem hi, e]
  cases hB : B i with
  | none =>
    have q2 := (r.free i hB).1.symm.trans q
    exact h y (Array.mem_of_getElem? q2)
  | some x =>
    obtain ⟨h1, h2, _⟩ := r.held i x hB
    rw [q] at h1
    cases h1
    have z := h _ (Array.mem_of_getElem? h2)
    rw [mute_bare] at z
    exact z
section
open L2
variable {X : Cx} {pins : List (Addr × Obj)} {σ : List (Option V)} {H : Hp} {s : Shared}
theorem Inv.gens {g : Array GenState} (I : Inv X pins σ H s) (hg : AllBare g) : Inv X pins σ H (withG s g) :=
  ⟨I.ok, I.os, hg, I.base, I.loc, I.cell, I.free, I.freeC, I.pin, I.hok, I.len⟩
end
end DL

set_option Elab.async false
set_option linter.all false
set_option maxRecDepth 100000
set_option maxHeartbeats 4000000
set_option autoImplicit false
namespace DL
open PySem PySem.Spec PyProof.Rows L2

/-! ### a heap's first L things -/
def cutH (h : Heap) (L : Addr) : Heap := ⟨h.objs.extract 0 L, h.life⟩
/-! ### a generator's frame -/
structure GE where
  prog : Program
  w : World
  K : PySem.W.Frag
  mg : Str → Option Value
  base : Heap
  /-- around the one who wakes it -/
  A : Around
  N : List Str
  env : Env
  outer : List Env
abbrev GE.L (g : GE) : Addr := g.env.locals
abbrev GE.gx (g : GE) : Gx := ⟨g.K, g.mg, none⟩
/-- its context from one waking to the next sleep -/
abbrev GE.cx (g : GE) (s0 : Shared) (H0 : Hp) (pn : List (Addr × Obj)) : Cx where
  prog := g.prog
  w := g.w
  K := g.K
  mg := g.mg
  base := g.base
  A := g.A.deeper g.env
  N := g.N
  s_0 := s0
  H_0 := H0
  env := g.env
  outer := g.outer
  stack := g.env :: g.outer
  ex := []
  fn := fun _ => true
  calm := true
  pn := pn
  xe := fun _ _ => False
structure GE.Ok (g : GE) : Prop where
  mod : Mod g.K g.mg g.base
  kind : g.env.scope.kind = .function
  glob : g.env.globals = mainGlobals
  blt : g.env.builtins = builtinsNs
  cells : ∀ x, g.env.cells.lookup x = none
  has : ∀ x, ¬ (g.env.kindOf x = some .cell ∨ g.env.kindOf x = some .free)
  hd : g.A.handled = none
  frames : g.A.frames = some g.outer
  frame : g.env.frame = some g.env.locals
  bsz : g.base.objs.size ≤ g.L
  old : ∀ b ∈ frs g.outer, b < g.L
/-- who wakes it -/
structure Cons (g : GE) (a : Addr) (go : Obj) (X : Cx) (pins : List (Addr × Obj)) (σ : L2.St) (H : Hp) (Z : Addr → Prop) (m : List Addr) (μ : Mu) (s : Shared) (lo : Obj) : Prop where
  inv : Inv X pins σ H s
  prog : X.prog = g.prog
  w : X.w = g.w
  K : X.K = g.K
  mg : X.mg = g.mg
  base : X.base = g.base
  stack : X.stack = g.outer
  elo : s.heap.get? g.L = some lo
  ego : s.heap.get? a = some go
  goc : ∀ v, go.data ≠ .cell v
  fL : FpOk X pins H g.L
  fa : FpOk X pins H a
  ne : a ≠ g.L
  mu : MuOk g.gx Z m μ H
  sz : X.s_0.heap.objs.size ≤ g.L
  cl : ∀ x c, X.env.cells.lookup x = some c → c < g.L
def cutA (H : Hp) (L : Addr) : Hp := fun b => if b < L then H b else none
/-- the waker's own block, if it is younger -/
def blkPin (g : GE) (X : Cx) (h : Heap) : List (Addr × Obj) := if X.env.locals < g.L then [] else pinsAt [X.env.locals] h
def wakePins (g : GE) (a : Addr) (go : Obj) (X : Cx) (pins : List (Addr × Obj)) (h : Heap) : List (Addr × Obj) := (a, go) :: blkPin g X h ++ (X.pn ++ pins)
section
variable {g : GE} {a : Addr} {go lo : Obj} {X : Cx} {pins : List (Addr × Obj)} {σ σg : L2.St} {H : Hp} {Z : Addr → Prop} {m : List Addr} {μ : Mu} {s : Shared}
open Classical in
/-- what may have changed, for the waker: the young that are not pinned -/
noncomputable def young (g : GE) (P : List (Addr × Obj)) (h : Heap) : List Addr := (List.range h.objs.size).filter fun b => decide (g.L ≤ b ∧ ∀ p ∈ P, p.1 ≠ b)
end
end DL

set_option Elab.async false
set_option linter.all false
set_option maxRecDepth 100000
set_option maxHeartbeats 4000000
set_option autoImplicit false
/-! A generator's code from one waking to the next sleep. -/
namespace DL
open PySem PySem.Spec PyProof.Rows L2 GenW
open Sem (wp)

def Sg (M : Model) (A : Around) (Φ : End → Shared → Prop) (c : Code) (t : Sem PySem.Fin) (fs : List Frame) (s : Shared) : Prop :=
  ∀ (Γ : PySem.Ctx) (p : Pos), Γ.code = c → Γ.Woken A → ∃ e s', Runs M Γ p t fs s e s' ∧ Φ e s'
section
variable {M : Model} {A : Around} {Φ : End → Shared → Prop} {c : Code} {fs : List Frame} {s : Shared}
end
/-- a sleeping generator, woken: what comes of it -/
def GoesS (M : Model) (A : Around) (gs : GenState) (Φ : End → Shared → Prop) (s : Shared) : Prop := match gs with
  | .fresh c => Sg M A Φ c (M.den c) [] s
  | .suspended k _ c _ fs _ => Sg M A Φ c (k (.send .none)) fs s
  | _ => False
section
variable {prog : Program} {w : World} {A : Around} {Φ : End → Shared → Prop} {s : Shared} {E : Value → Shared → Prop}
end
end DL

set_option Elab.async false
set_option linter.all false
set_option maxRecDepth 100000
set_option maxHeartbeats 4000000
set_option autoImplicit false
/-! A generator's body, told by data: the data it hands out. -/
namespace DL
open PySem PySem.Spec PyProof.Rows L2 GenW
open Sem (wp)

/-- the waker: all that is fixed from one waking to the next sleep -/
structure Wk where
  X : Cx
  pins : List (Addr × Obj)
  σ : L2.St
  H : Hp
  Z : Addr → Prop
  m : List Addr
  μ : Mu
  s : Shared
def AftE (g : GE) (a : Addr) (go : Obj) (k : Wk) (e : End) (s1 : Shared) : Prop :=
  (∃ r, e = .ret r ∧ (r = .ok (.ret .none) ∨ r = .ok .next)) ∧ ∃ m' H', Inv k.X k.pins k.σ H' s1 ∧ Step g.gx k.Z k.m k.H m' k.μ H' ∧ H' g.L = none ∧ H' a = none
def AftY (g : GE) (a : Addr) (go : Obj) (k : Wk) (d : D) (P : List Addr → Hp → Obj → GenState → Prop) (e : End) (s1 : Shared) : Prop :=
  ∃ v gd l kk c p fs x m' H' lo', e = .susp v gd l kk c p fs ∧ e.quiet = true ∧ RelV x v ∧ Inv k.X k.pins k.σ H' s1 ∧ Step g.gx k.Z k.m k.H m' k.μ H' ∧ Rep g.gx m' (vis k.Z m' H') d x ∧ s1.heap.get? g.L = some lo' ∧ (∀ v, lo'.data ≠ .cell v) ∧ s1.heap.get? a = some go ∧
    H' g.L = none ∧ H' a = none ∧ P m' (vis k.Z m' H') lo' e.genState
/-- a generator that hands out just these -/
def GenP (g : GE) (a : Addr) (go : Obj) : List D → List Addr → Hp → Obj → GenState → Prop
  | [], m0, E0, lo, gs => ∀ k : Wk, Cons g a go k.X k.pins k.σ k.H k.Z k.m k.μ k.s lo → m0 <+: k.m → Same E0 (vis k.Z k.m k.H) → GoesS (model g.prog g.w) g.A gs (AftE g a go k) k.s
  | d :: ds, m0, E0, lo, gs => ∀ k : Wk, Cons g a go k.X k.pins k.σ k.H k.Z k.m k.μ k.s lo → m0 <+: k.m → Same E0 (vis k.Z k.m k.H) → GoesS (model g.prog g.w) g.A gs (AftY g a go k d (GenP g a go ds)) k.s
def FinP (g : GE) (a : Addr) (go : Obj) (k : Wk) : List D → End → Shared → Prop
  | [] => AftE g a go k
  | d :: ds => AftY g a go k d (GenP g a go ds)
def NoOwn (ρ : DS) : Prop := ∀ (i : Nat) (b : Addr) (c : Cell), ρ[i]? ≠ some (.own b c)
/-- it runs, its slots are ρ -/
def RunG (g : GE) (a : Addr) (go : Obj) (k : Wk) (ρ : DS) (s : Shared) : Prop :=
  ∃ lo0 σg H m, Cons g a go k.X k.pins k.σ k.H k.Z k.m k.μ k.s lo0 ∧ Inv (g.cx { k.s with heap := cutH k.s.heap g.L } (cutA k.H g.L) (wakePins g a go k.X k.pins k.s.heap)) [] σg H s ∧ Step g.gx k.Z k.m k.H m k.μ H ∧
    SR g.gx k.Z m σg H ρ k.μ ∧ NoOwn ρ ∧ ∀ (i : Nat) c ks ds, ρ[i]? ≠ some (.exn c ks ds)
structure GD where
  nx : List D → DS → Prop
abbrev TGen := GD → List D → DS → Prop
/-- where its code stands -/
structure At (g : GE) (c : Code) (fs : List Frame) (gd : Bool → Bool) : Prop where
  over : g.A.over c fs = g.A.deeper g.env
  split : splitAtGen fs = none
  guard : fs.any Frame.guarded = false
  gd : gd false = false
/-- what follows -/
def Goes (g : GE) (a : Addr) (go : Obj) (D0 : GD) (c : Code) (fs : List Frame) (K : Flow → Sem PySem.Fin) : Prop :=
  ∀ (k : Wk) (ds : List D) (ρ : DS) (s : Shared), RunG g a go k ρ s → D0.nx ds ρ → Sg (model g.prog g.w) g.A (FinP g a go k ds) c (K .next) fs s
structure GSt (g : GE) (st : Stmt) (t : TGen) : Prop where
  run : ∀ (a : Addr) (go : Obj) (c : Code) (fs : List Frame) (K : Flow → Sem PySem.Fin) (J : Value → Sem PySem.Fin) (gd : Bool → Bool) (lv : List Value → List Value) (D0 : GD), At g c fs gd → Goes g a go D0 c fs K →
    ∀ (k : Wk) (ds : List D) (ρ : DS) (s : Shared), RunG g a go k ρ s → t D0 ds ρ → Sg (model g.prog g.w) g.A (FinP g a go k ds) c ((exec st g.env).wrap K J gd lv) fs s
structure GSts (g : GE) (sts : List Stmt) (t : TGen) : Prop where
  run : ∀ (a : Addr) (go : Obj) (c : Code) (fs : List Frame) (K : Flow → Sem PySem.Fin) (J : Value → Sem PySem.Fin) (gd : Bool → Bool) (lv : List Value → List Value) (D0 : GD), At g c fs gd → Goes g a go D0 c fs K →
    ∀ (k : Wk) (ds : List D) (ρ : DS) (s : Shared), RunG g a go k ρ s → t D0 ds ρ → Sg (model g.prog g.w) g.A (FinP g a go k ds) c ((execs sts g.env).wrap K J gd lv) fs s
section
variable {g : GE} {st : Stmt} {rest body : List Stmt} {t u : TGen} {pos : Pos}
end
end DL

set_option Elab.async false
set_option linter.all false
set_option maxRecDepth 100000
set_option maxHeartbeats 4000000
set_option autoImplicit false
namespace DL
open PySem PySem.Spec PyProof.Rows L2 GenW
open Sem (wp)
section
variable {g : GE} {st : Stmt} {rest body : List Stmt} {t u : TGen} {pos : Pos}
/-! ### while -/
/-! ### the whole body -/
end
end DL

set_option Elab.async false
set_option linter.all false
set_option maxRecDepth 100000
set_option maxHeartbeats 4000000
set_option autoImplicit false
/-! A generator def: what a call of it makes. -/
namespace DL
open PySem PySem.Spec PyProof.Rows L2 GenW
/-- what the waker has of a generator that was just made -/
structure Born (P : Program) (w : World) (K : PySem.W.Frag) (mg : Str → Option Value) (base : Heap) (kk : Nat) (fr : List Env) (g : GE) (a gn : Nat) (go lo : Obj) (gs : GenState) (H : Hp) (s s' : Shared) : Prop where
  keep : ∀ b o, s.heap.get? b = some o → s'.heap.get? b = some o
  os : s'.os = s.os
  bare : AllBare s'.gens
  prog : g.prog = P
  w : g.w = w
  K : g.K = K
  mg : g.mg = mg
  base : g.base = base
  fr : g.outer = fr
  la : s.heap.objs.size ≤ a
  lL : s.heap.objs.size ≤ g.L
  ne : a ≠ g.L
  isg : ∀ h : Heap, h.get? a = some go → h.IsGen a gn
  goc : ∀ v, go.data ≠ .cell v
  loc : ∀ v, lo.data ≠ .cell v
  ego : s'.heap.get? a = some go
  elo : s'.heap.get? g.L = some lo
  egs : s'.gens[gn]? = some gs
  gnew : s.gens.size ≤ gn
abbrev GE.wake (g : GE) (A : Around) : GE := { g with A := A }
/-- for whoever wakes it: the data -/
def Gives (kk : Nat) (fr : List Env) (g : GE) (a : Nat) (go lo : Obj) (gs : GenState) (ys : List D) (m : List Addr) (E0 : Hp) : Prop :=
  ∀ A : Around, Room kk A → A.guards = some [] → A.frames = some fr → (g.wake A).Ok ∧ GenP (g.wake A) a go ys m E0 lo gs
abbrev GSp := List D → List D → Prop
structure GenD (P : Program) (w : World) (K : PySem.W.Frag) (mg : Str → Option Value) (base : Heap) (k : Nat) (f : Addr) (fd : FuncData) (ps : List Str) (sp : GSp) : Prop where
  len : ∀ ds ys, sp ds ys → ds.length = ps.length
  run : ∀ (A : Around) (fr : List Env) (s : Shared) (H : Hp) (args : Args) (us : List Value) (vs : List V) (Z : Addr → Prop) (m : List Addr) (μ : Mu) (ds ys : List D), Room k A → A.guards = some [] → Env0 P w K mg base A fr s H → BindsTo s fd args (ps.zip us) → Vals vs us →
    MuOk ⟨K, mg, none⟩ Z m μ H → Reps ⟨K, mg, none⟩ m (vis Z m H) ds vs → sp ds ys →
    codeAny (model P w) A (.call (.ref f) args) (fun r s' => ∃ g a gn go lo gs, r = .ok (.ret (.ref a)) ∧ Born P w K mg base k fr g a gn go lo gs H s s' ∧ Gives k fr g a go lo gs ys m (vis Z m H)) s
end DL

set_option Elab.async false
set_option linter.all false
set_option maxRecDepth 100000
set_option maxHeartbeats 4000000
set_option autoImplicit false
/-! Who walks a generator. -/
namespace DL
open PySem PySem.Spec PyProof.Rows L2 GenW
/-- a generator that X walks -/
abbrev gw (X : Cx) (N : List Str) (env : Env) : GE := ⟨X.prog, X.w, X.K, X.mg, X.base, X.A.in1, N, env, X.stack⟩
abbrev gx0 (X : Cx) : Gx := ⟨X.K, X.mg, none⟩
structure Walk (X : Cx) (env : Env) (a gn : Nat) (go : Obj) : Prop where
  ne : a ≠ env.locals
  isg : ∀ h : Heap, h.get? a = some go → h.IsGen a gn
  goc : ∀ v, go.data ≠ .cell v
  sz : X.s_0.heap.objs.size ≤ env.locals
  cl : ∀ x c, X.env.cells.lookup x = some c → c < env.locals
/-- the generator sleeps (or has not begun), ys are left -/
structure Rest (X : Cx) (N : List Str) (env : Env) (a gn : Nat) (go : Obj) (ys : List D) (Z : Addr → Prop) (m : List Addr) (H : Hp) (s : Shared) : Prop where
  ex : ∃ lo gs m0 E0, s.heap.get? env.locals = some lo ∧ (∀ v, lo.data ≠ .cell v) ∧ s.heap.get? a = some go ∧ H env.locals = none ∧ H a = none ∧ s.gens[gn]? = some gs ∧ m0 <+: m ∧ Same E0 (vis Z m H) ∧ GenP (gw X N env) a go ys m0 E0 lo gs
/-! ### over other code -/
theorem Rest.after {X : Cx} {N : List Str} {env : Env} {a gn : Nat} {go : Obj} {pins : List (Addr × Obj)} {σ' : L2.St} {Z Z' : Addr → Prop} {m m' : List Addr} {H H' : Hp} {s s' : Shared} {ys : List D} (R : Rest X N env a gn go ys Z m H s) (I : Inv X (pins ++ pinsAt [a, env.locals] s.heap) σ' H' s')
    (hg : s'.gens[gn]? = s.gens[gn]?) (pre : m <+: m') (same : Same (vis Z m H) (vis Z' m' H')) : Rest X N env a gn go ys Z' m' H' s' := by
  obtain ⟨lo, gs, m0, E0, elo, lc, ego, hL, ha, egs, pre0, same0, gp⟩ := R.ex
  have p1 := I.pin (env.locals, lo) (List.mem_append_right _ (List.mem_append_right _ (mem_pinsAt (by simp) elo)))
  have p2 := I.pin (a, go) (List.mem_append_right _ (List.mem_append_right _ (mem_pinsAt (by simp) ego)))
  exact ⟨lo, gs, m0, E0, p1.1, lc, p2.1, p1.2.1, p2.2.1, hg.trans egs, pre0.trans pre, same0.trans same, gp⟩
theorem Rest.pin {X : Cx} {N : List Str} {env : Env} {a gn : Nat} {go : Obj} {pins : List (Addr × Obj)} {σ : L2.St} {Z : Addr → Prop} {m : List Addr} {H : Hp} {s : Shared} {ys : List D} (R : Rest X N env a gn go ys Z m H s) (gc : ∀ v, go.data ≠ .cell v) (I : Inv X pins σ H s) (fL : FpOk X pins H env.locals) (fa : FpOk X pins H a) :
    Inv X (pins ++ pinsAt [a, env.locals] s.heap) σ H s := by
  obtain ⟨lo, gs, m0, E0, elo, lc, ego, hL, ha, egs, pre0, same0, gp⟩ := R.ex
  refine I.pinned (fun b hb => ?_) fun b hb => ?_
  · rcases List.mem_cons.mp hb with rfl | hb
    · exact fa
    · rw [List.mem_singleton.mp hb]; exact fL
  · rcases List.mem_cons.mp hb with rfl | hb
    · exact ⟨go, ego, gc⟩
    · rw [List.mem_singleton.mp hb]; exact ⟨lo, elo, lc⟩
end DL

set_option Elab.async false
set_option linter.all false
set_option maxRecDepth 100000
set_option maxHeartbeats 4000000
set_option autoImplicit false
namespace DL
open PySem PySem.Spec PyProof.Rows L2 GenW
/-- an expression that makes a generator -/
structure DGn (W : WX) (X : Cx) (kk : Nat) (e : Expr) (wi : WI) : Prop where
  run : ∀ (pins : List (Addr × Obj)) (s : Shared) (σ : L2.St) (H : Hp) (Z : Addr → Prop) (m : List Addr) (ρ : DS) (μ : Mu) (Q : List D → Mu → Prop) (Xd : XD), Inv X pins σ H s → SR (gx0 X) Z m σ H ρ μ → wi ρ μ Q Xd →
    (∀ cls d H', XPost (gx0 X) (ownW Z σ ρ) m H Xd cls d H' → W cls d σ H') →
    wpAny (model X.prog X.w) X.A (eval e X.env) (fun v s2 => ∃ g a gn go lo gs ys s1 H1 m1 μ1, v = .ref a ∧ Inv X pins σ H1 s1 ∧ Born X.prog X.w X.K X.mg X.base kk X.stack g a gn go lo gs H1 s1 s2 ∧ Step (gx0 X) (ownW Z σ ρ) m H m1 μ1 H1 ∧
      Gives kk X.stack g a go lo gs ys m1 (vis (ownW Z σ ρ) m1 H1) ∧ s.gens.size ≤ gn ∧ Q ys μ1) X.xe s
def wGen (sp : GSp) (wa : WA) : WI := fun ρ μ Q Xd => wa ρ μ (fun ds μ1 => ∃ ys, sp ds ys ∧ Q ys μ1) Xd
section
variable {W : WX} {X : Cx} {e : Expr} {es : List Expr} {wa : WE} {ws : WA} {pos : Pos} {k : Nat} {f : Addr} {fd : FuncData} {ps : List Str} {sp : GSp}
end
section
variable {W : WX} {X : Cx} {tg iter : Expr} {body : List Stmt} {wi : WI} {g : WG} {b : WS} {pos : Pos} {kk : Nat}
end
end DL

set_option Elab.async false
set_option linter.all false
set_option maxRecDepth 100000
set_option maxHeartbeats 4000000
set_option autoImplicit false
/-! A comprehension over a generator. -/
namespace DL
open PySem PySem.Spec PyProof.Rows L2 GenW
section
variable {W : WX} {X : Cx} {elt tg iter : Expr} {ifs : List Expr} {scope : Scope} {own : List (Str × Nat)} {pos pos' : Pos} {wi : WI} {g : L2.TG} {k : WG} {tt : WT} {te : WE} {kk : Nat}
end
end DL

set_option Elab.async false
set_option linter.all false
set_option maxRecDepth 100000
set_option maxHeartbeats 4000000
set_option autoImplicit false
/-! Generator defs by name; frames. -/
namespace DL
open PySem PySem.Spec PyProof.Rows L2 GenW
structure GenC (P : Program) (w : World) (K : PySem.W.Frag) (mg : Str → Option Value) (base : Heap) (k : Nat) (x : Str) (ps : List Str) (sp : GSp) : Prop where
  ex : ∃ f fd, mg x = some (.ref f) ∧ PySem.W.keepIn K (.ref f) = true ∧ Binds K fd ps [] ∧ GenD P w K mg base k f fd ps sp
section
variable {W : WX} {X : Cx} {e : Expr} {es : List Expr} {ws : WA} {pos p : Pos} {k j : Nat} {ps : List Str} {sp : GSp} {x : Str}
end
section
variable {W : WX} {X : Cx} {tg iter : Expr} {body : List Stmt} {wi : WI} {g : WG} {b : WS} {pos : Pos} {k j : Nat}
end
section
variable {W : WX} {X : Cx} {elt tg iter : Expr} {ifs : List Expr} {scope : Scope} {own : List (Str × Nat)} {pos : Pos} {wi : WI} {g : L2.TG} {k : WG} {tt : WT} {te : WE} {kk j : Nat}
end
/-! ### frames -/
def KGen (sp : GSp) (Q : List D → Mu → Prop) : List D → Mu → Prop := fun ds μ => ∃ ys, sp ds ys ∧ Q ys μ
theorem g_gen {sp : GSp} {wa : WA} {ρ : DS} {μ : Mu} {Q : List D → Mu → Prop} {Xd : XD} : wGen sp wa ρ μ Q Xd = wa ρ μ (KGen sp Q) Xd := propext Iff.rfl
end DL

set_option Elab.async false
set_option linter.all false
set_option maxRecDepth 100000
set_option maxHeartbeats 4000000
set_option autoImplicit false
/-! list(g(..)): a generator drained into a new list. -/
namespace DL
open PySem PySem.Spec PyProof.Rows L2 GenW
/-- the same def, under other surroundings -/
abbrev Cx.under (X : Cx) (A : Around) : Cx := { X with A := A }
def wLoG (wi : WI) : WE := fun ρ μ Q Xd => wi ρ μ (fun ds μ1 => ds.length ≤ 1000000 ∧ Q (.lst ds) μ1) Xd
def KLoG (Q : D → Mu → Prop) : List D → Mu → Prop := fun ds μ1 => ds.length ≤ 1000000 ∧ Q (.lst ds) μ1
theorem g_log {wi : WI} {ρ : DS} {μ : Mu} {Q : D → Mu → Prop} {Xd : XD} : wLoG wi ρ μ Q Xd = wi ρ μ (KLoG Q) Xd := propext Iff.rfl
section
variable {W : WX} {X : Cx} {e : Expr} {wi : WI} {pos p : Pos} {kk : Nat} {nm : Str}
end
end DL

set_option Elab.async false
set_option linter.all false
set_option maxRecDepth 100000
set_option maxHeartbeats 4000000
set_option autoImplicit false
/-! A generator that walks another generator. -/
namespace DL
open PySem PySem.Spec PyProof.Rows L2 GenW
open Sem (wp)
/-- what sleeps along with a generator: records that stay, and the generators that it walks; the data that it was told of -/
structure Ext where
  px : List (Addr × Obj)
  sx : List (Nat × GenState)
  m0 : List Addr
  E0 : Hp
structure ExtAt (g : GE) (a gn : Nat) (X : Cx) (pins : List (Addr × Obj)) (Z : Addr → Prop) (m : List Addr) (H : Hp) (s : Shared) (E : Ext) : Prop where
  px : ∀ p ∈ E.px, s.heap.get? p.1 = some p.2 ∧ FpOk X pins H p.1 ∧ (∀ v, p.2.data ≠ .cell v) ∧ g.L < p.1 ∧ p.1 ≠ a
  sx : ∀ q ∈ E.sx, s.gens[q.1]? = some q.2 ∧ asleep q.2 = true ∧ q.1 ≠ gn
  gn : gn < s.gens.size
  pre : E.m0 <+: m
  same : Same E.E0 (vis Z m H)
def AftY1 (g : GE) (a gn : Nat) (go : Obj) (k : Wk) (d : D) (P : Ext → Obj → GenState → Prop) (e : End) (s1 : Shared) : Prop :=
  ∃ v gd l kk c p fs x m' H' lo' E', e = .susp v gd l kk c p fs ∧ e.quiet = true ∧ RelV x v ∧ Inv k.X k.pins k.σ H' s1 ∧ Step g.gx k.Z k.m k.H m' k.μ H' ∧ Rep g.gx m' (vis k.Z m' H') d x ∧ s1.heap.get? g.L = some lo' ∧ (∀ v, lo'.data ≠ .cell v) ∧ s1.heap.get? a = some go ∧
    H' g.L = none ∧ H' a = none ∧ ExtAt g a gn k.X k.pins k.Z m' H' s1 E' ∧ P E' lo' e.genState
def GenP1 (g : GE) (a gn : Nat) (go : Obj) : List D → Ext → Obj → GenState → Prop
  | [], E, lo, gs => ∀ k : Wk, Cons g a go k.X k.pins k.σ k.H k.Z k.m k.μ k.s lo → ExtAt g a gn k.X k.pins k.Z k.m k.H k.s E → GoesS (model g.prog g.w) g.A gs (AftE g a go k) k.s
  | d :: ds, E, lo, gs => ∀ k : Wk, Cons g a go k.X k.pins k.σ k.H k.Z k.m k.μ k.s lo → ExtAt g a gn k.X k.pins k.Z k.m k.H k.s E → GoesS (model g.prog g.w) g.A gs (AftY1 g a gn go k d (GenP1 g a gn go ds)) k.s
def FinP1 (g : GE) (a gn : Nat) (go : Obj) (k : Wk) : List D → End → Shared → Prop
  | [] => AftE g a go k
  | d :: ds => AftY1 g a gn go k d (GenP1 g a gn go ds)
def NoExn (ρ : DS) : Prop := ∀ (i : Nat) c ks ds, ρ[i]? ≠ some (.exn c ks ds)
/-- it runs, its slots are ρ -/
def RunG1 (g : GE) (a gn : Nat) (go : Obj) (E : Ext) (k : Wk) (ρ : DS) (s : Shared) : Prop :=
  ∃ lo0 σg H m, Cons g a go k.X k.pins k.σ k.H k.Z k.m k.μ k.s lo0 ∧ Inv (g.cx { k.s with heap := cutH k.s.heap g.L } (cutA k.H g.L) (wakePins g a go k.X k.pins k.s.heap)) E.px σg H s ∧ Step g.gx k.Z k.m k.H m k.μ H ∧
    SR g.gx k.Z m σg H ρ k.μ ∧ NoOwn ρ ∧ NoExn ρ ∧ ExtAt g a gn k.X k.pins k.Z m H s E
def Goes1 (g : GE) (a gn : Nat) (go : Obj) (E : Ext) (D0 : GD) (c : Code) (fs : List Frame) (K : Flow → Sem PySem.Fin) : Prop :=
  ∀ (k : Wk) (ds : List D) (ρ : DS) (s : Shared), RunG1 g a gn go E k ρ s → D0.nx ds ρ → Sg (model g.prog g.w) g.A (FinP1 g a gn go k ds) c (K .next) fs s
structure GSt1 (g : GE) (P : Ext → Prop) (st : Stmt) (t : TGen) : Prop where
  run : ∀ (E : Ext), P E → ∀ (a gn : Nat) (go : Obj) (c : Code) (fs : List Frame) (K : Flow → Sem PySem.Fin) (J : Value → Sem PySem.Fin) (gd : Bool → Bool) (lv : List Value → List Value) (D0 : GD), At g c fs gd → Goes1 g a gn go E D0 c fs K →
    ∀ (k : Wk) (ds : List D) (ρ : DS) (s : Shared), RunG1 g a gn go E k ρ s → t D0 ds ρ → Sg (model g.prog g.w) g.A (FinP1 g a gn go k ds) c ((exec st g.env).wrap K J gd lv) fs s
structure GSts1 (g : GE) (P : Ext → Prop) (sts : List Stmt) (t : TGen) : Prop where
  run : ∀ (E : Ext), P E → ∀ (a gn : Nat) (go : Obj) (c : Code) (fs : List Frame) (K : Flow → Sem PySem.Fin) (J : Value → Sem PySem.Fin) (gd : Bool → Bool) (lv : List Value → List Value) (D0 : GD), At g c fs gd → Goes1 g a gn go E D0 c fs K →
    ∀ (k : Wk) (ds : List D) (ρ : DS) (s : Shared), RunG1 g a gn go E k ρ s → t D0 ds ρ → Sg (model g.prog g.w) g.A (FinP1 g a gn go k ds) c ((execs sts g.env).wrap K J gd lv) fs s
theorem ExtAt.next {g : GE} {a gn : Nat} {X Y : Cx} {pins : List (Addr × Obj)} {Z : Addr → Prop} {m m' : List Addr} {H H' : Hp} {s s' : Shared} {E : Ext} {σ : L2.St} {G : Gx} {μ : Mu} (x : ExtAt g a gn X pins Z m H s E) (J : Inv Y E.px σ H' s') (hg : ∀ q ∈ E.sx, s'.gens[q.1]? = some q.2) (hn : gn < s'.gens.size) (st : Step G Z m H m' μ H') :
    ExtAt g a gn X pins Z m' H' s' E where
  px := fun p hp => let z := J.pin p (List.mem_append_right _ hp); ⟨z.1, ⟨z.2.1, (x.px p hp).2.1.2⟩, (x.px p hp).2.2⟩
  sx := fun q hq => ⟨hg q hq, (x.sx q hq).2⟩
  gn := hn
  pre := x.pre.trans st.pre
  same := x.same.trans st.same
section
variable {g : GE} {P : Ext → Prop} {st : Stmt} {rest body : List Stmt} {t u : TGen} {pos : Pos}
end
end DL

set_option Elab.async false
set_option linter.all false
set_option maxRecDepth 100000
set_option maxHeartbeats 4000000
set_option autoImplicit false
/-! `for x in h(..): ..` within a generator. -/
namespace DL
open PySem PySem.Spec PyProof.Rows L2 GenW
open Sem (wp)
section
variable {prog : Program} {w : World} {A : Around} {Φ : End → Shared → Prop} {c : Code} {fs : List Frame} {s : Shared} {env : Env} {K : Flow → Sem PySem.Fin} {J : Value → Sem PySem.Fin} {gd : Bool → Bool} {lv : List Value → List Value} {tg iter : Expr} {body : List Stmt} {pos : Pos} {it : Value}
end
end DL

set_option Elab.async false
set_option linter.all false
set_option maxRecDepth 100000
set_option maxHeartbeats 4000000
set_option autoImplicit false
namespace DL
open PySem PySem.Spec PyProof.Rows L2 GenW
open Sem (wp)
section
variable {g : GE} {body : List Stmt} {tb : TGen} {pos : Pos} {tg iter : Expr} {wi : WI} {gW : WG} {kk : Nat}
end
end DL

set_option Elab.async false
set_option linter.all false
set_option maxRecDepth 100000
set_option maxHeartbeats 4000000
set_option autoImplicit false
/-! A def whose generators walk other generators; a method of this kind, called. -/
namespace DL
open PySem PySem.Spec PyProof.Rows L2 GenW
open Sem (wp)
/-- for whoever wakes it: the data -/
def Gives1 (kk : Nat) (fr : List Env) (g : GE) (a gn : Nat) (go lo : Obj) (gs : GenState) (ys : List D) (m : List Addr) (E0 : Hp) : Prop :=
  ∀ A : Around, Room kk A → A.guards = some [] → A.frames = some fr → (g.wake A).Ok ∧ GenP1 (g.wake A) a gn go ys ⟨[], [], m, E0⟩ lo gs
structure GenD1 (P : Program) (w : World) (K : PySem.W.Frag) (mg : Str → Option Value) (base : Heap) (k : Nat) (f : Addr) (fd : FuncData) (ps : List Str) (sp : GSp) : Prop where
  len : ∀ ds ys, sp ds ys → ds.length = ps.length
  run : ∀ (A : Around) (fr : List Env) (s : Shared) (H : Hp) (args : Args) (us : List Value) (vs : List V) (Z : Addr → Prop) (m : List Addr) (μ : Mu) (ds ys : List D), Room k A → A.guards = some [] → Env0 P w K mg base A fr s H → BindsTo s fd args (ps.zip us) → Vals vs us →
    MuOk ⟨K, mg, none⟩ Z m μ H → Reps ⟨K, mg, none⟩ m (vis Z m H) ds vs → sp ds ys →
    codeAny (model P w) A (.call (.ref f) args) (fun r s' => ∃ g a gn go lo gs, r = .ok (.ret (.ref a)) ∧ Born P w K mg base k fr g a gn go lo gs H s s' ∧ Gives1 k fr g a gn go lo gs ys m (vis Z m H)) s
structure DGn1 (W : WX) (X : Cx) (kk : Nat) (e : Expr) (wi : WI) : Prop where
  run : ∀ (pins : List (Addr × Obj)) (s : Shared) (σ : L2.St) (H : Hp) (Z : Addr → Prop) (m : List Addr) (ρ : DS) (μ : Mu) (Q : List D → Mu → Prop) (Xd : XD), Inv X pins σ H s → SR (gx0 X) Z m σ H ρ μ → wi ρ μ Q Xd →
    (∀ cls d H', XPost (gx0 X) (ownW Z σ ρ) m H Xd cls d H' → W cls d σ H') →
    wpAny (model X.prog X.w) X.A (eval e X.env) (fun v s2 => ∃ g a gn go lo gs ys s1 H1 m1 μ1, v = .ref a ∧ Inv X pins σ H1 s1 ∧ Born X.prog X.w X.K X.mg X.base kk X.stack g a gn go lo gs H1 s1 s2 ∧ Step (gx0 X) (ownW Z σ ρ) m H m1 μ1 H1 ∧
      Gives1 kk X.stack g a gn go lo gs ys m1 (vis (ownW Z σ ρ) m1 H1) ∧ Q ys μ1) X.xe s
section
variable {W : WX} {X : Cx} {e o : Expr} {es : List Expr} {wo : WE} {ws : WA} {pos apos : Pos} {k : Nat} {f C : Addr} {fd : FuncData} {ps : List Str} {sp : GSp} {c mn : Str}
/-- o.m(..) that makes a generator -/
def wGenM (c m : Str) (sp : GSp) (wo : WE) (wa : WA) : WI := fun ρ μ Q Xd => wo ρ μ (fun x μ1 => hasCls c m x μ1 (wa ρ μ1 (fun ds μ2 => ∃ ys, sp (x :: ds) ys ∧ Q ys μ2) Xd)) Xd
end
end DL

set_option Elab.async false
set_option linter.all false
set_option maxRecDepth 100000
set_option maxHeartbeats 4000000
set_option autoImplicit false
/-! Who walks a generator that walks another one. -/
namespace DL
open PySem PySem.Spec PyProof.Rows L2 GenW
structure Rest1 (X : Cx) (N : List Str) (env : Env) (a gn : Nat) (go : Obj) (pins : List (Addr × Obj)) (ys : List D) (Z : Addr → Prop) (m : List Addr) (H : Hp) (s : Shared) : Prop where
  ex : ∃ lo gs E, s.heap.get? env.locals = some lo ∧ (∀ v, lo.data ≠ .cell v) ∧ s.heap.get? a = some go ∧ H env.locals = none ∧ H a = none ∧ s.gens[gn]? = some gs ∧ ExtAt (gw X N env) a gn X pins Z m H s E ∧ GenP1 (gw X N env) a gn go ys E lo gs
/-- pins at the same places -/
theorem Rest1.pins {X : Cx} {N : List Str} {env : Env} {a gn : Nat} {go : Obj} {pins pins' : List (Addr × Obj)} {ys : List D} {Z : Addr → Prop} {m : List Addr} {H : Hp} {s : Shared} (R : Rest1 X N env a gn go pins ys Z m H s) (h : ∀ p ∈ pins', ∃ p0 ∈ pins, p0.1 = p.1) : Rest1 X N env a gn go pins' ys Z m H s := by
  obtain ⟨lo, gs, E, q1, q2, q3, q4, q5, q6, q7, q8⟩ := R.ex
  refine ⟨lo, gs, E, q1, q2, q3, q4, q5, q6, ⟨fun p hp => ?_, q7.sx, q7.gn, q7.pre, q7.same⟩, q8⟩
  obtain ⟨h1, h2, h3⟩ := q7.px p hp
  refine ⟨h1, ⟨h2.1, h2.2.1, h2.2.2.1, h2.2.2.2.1, h2.2.2.2.2.1, fun p0 hp0 => ?_⟩, h3⟩
  rcases List.mem_append.mp hp0 with hp0 | hp0
  · exact h2.2.2.2.2.2 p0 (List.mem_append_left _ hp0)
  · obtain ⟨p1, hp1, e⟩ := h p0 hp0
    rw [← e]
    exact h2.2.2.2.2.2 p1 (List.mem_append_right _ hp1)
section
variable {W : WX} {X : Cx} {e : Expr} {wi : WI} {pos p : Pos} {kk : Nat} {nm : Str}
end
end DL

set_option Elab.async false
set_option linter.all false
set_option maxRecDepth 100000
set_option maxHeartbeats 4000000
set_option autoImplicit false
/-! A comprehension over a generator that walks another one. -/
namespace DL
open PySem PySem.Spec PyProof.Rows L2 GenW
structure RestE (X : Cx) (N : List Str) (env : Env) (a gn : Nat) (go : Obj) (pins : List (Addr × Obj)) (E : Ext) (ys : List D) (Z : Addr → Prop) (m : List Addr) (H : Hp) (s : Shared) : Prop where
  ex : ∃ lo gs, s.heap.get? env.locals = some lo ∧ (∀ v, lo.data ≠ .cell v) ∧ s.heap.get? a = some go ∧ H env.locals = none ∧ H a = none ∧ s.gens[gn]? = some gs ∧ ExtAt (gw X N env) a gn X pins Z m H s E ∧ GenP1 (gw X N env) a gn go ys E lo gs
section
variable {X : Cx} {N : List Str} {env : Env} {a gn : Nat} {go : Obj} {pins : List (Addr × Obj)} {E : Ext} {ys : List D} {Z Z' : Addr → Prop} {m m' : List Addr} {H H' : Hp} {s s' : Shared} {σ σ' : L2.St}
theorem RestE.pin (R : RestE X N env a gn go pins E ys Z m H s) (gc : ∀ v, go.data ≠ .cell v) (I : Inv X pins σ H s) (fL : FpOk X pins H env.locals) (fa : FpOk X pins H a) : Inv X (pins ++ (pinsAt [a, env.locals] s.heap ++ E.px)) σ H s := by
  obtain ⟨lo, gs, elo, lc, ego, hL, ha, egs, xt, gp⟩ := R.ex
  refine I.pins_of fun p hp => ?_
  rcases List.mem_append.mp hp with hp | hp
  · exact I.pin p (List.mem_append_right _ hp)
  rcases List.mem_append.mp hp with hp | hp
  · obtain ⟨hm, e⟩ := of_pinsAt hp
    rcases List.mem_cons.mp hm with z | hm
    · rw [z] at e ⊢
      rw [ego] at e
      exact ⟨by rw [ego]; exact e, fa.1, fa.2.1, fa.2.2.1, fun v => by rw [← Option.some.inj e]; exact gc v⟩
    · have z := List.mem_singleton.mp hm
      rw [z] at e ⊢
      rw [elo] at e
      exact ⟨by rw [elo]; exact e, fL.1, fL.2.1, fL.2.2.1, fun v => by rw [← Option.some.inj e]; exact lc v⟩
  · obtain ⟨h1, h2, h3, _⟩ := xt.px p hp
    exact ⟨h1, h2.1, h2.2.1, h2.2.2.1, h3⟩
theorem RestE.after (R : RestE X N env a gn go pins E ys Z m H s) (I : Inv X (pins ++ (pinsAt [a, env.locals] s.heap ++ E.px)) σ' H' s') (hg : s'.gens[gn]? = s.gens[gn]?) (hx : ∀ q ∈ E.sx, s'.gens[q.1]? = some q.2) (pre : m <+: m') (same : Same (vis Z m H) (vis Z' m' H')) :
    Rest1 X N env a gn go pins ys Z' m' H' s' := by
  obtain ⟨lo, gs, elo, lc, ego, hL, ha, egs, xt, gp⟩ := R.ex
  have at_ : ∀ p ∈ pinsAt [a, env.locals] s.heap ++ E.px, s'.heap.get? p.1 = some p.2 ∧ H' p.1 = none := fun p hp => let z := I.pin p (List.mem_append_right _ (List.mem_append_right _ hp)); ⟨z.1, z.2.1⟩
  have p1 := at_ (env.locals, lo) (List.mem_append_left _ (mem_pinsAt (by simp) elo))
  have p2 := at_ (a, go) (List.mem_append_left _ (mem_pinsAt (by simp) ego))
  have eg := hg.trans egs
  exact ⟨lo, gs, E, p1.1, lc, p2.1, p1.2, p2.2, eg, ⟨fun p hp => ⟨(at_ p (List.mem_append_right _ hp)).1, ⟨(at_ p (List.mem_append_right _ hp)).2, (xt.px p hp).2.1.2⟩, (xt.px p hp).2.2⟩, fun q hq => ⟨hx q hq, (xt.sx q hq).2⟩, (Array.getElem?_eq_some_iff.mp eg).1, xt.pre.trans pre, xt.same.trans same⟩, gp⟩
end
section
variable {W : WX} {X : Cx} {elt tg iter : Expr} {ifs : List Expr} {scope : Scope} {own : List (Str × Nat)} {pos pos' : Pos} {wi : WI} {g : L2.TG} {k : WG} {tt : WT} {te : WE} {kk : Nat}
end
end DL

set_option Elab.async false
set_option linter.all false
set_option maxRecDepth 100000
set_option maxHeartbeats 4000000
set_option autoImplicit false
/-! Generator methods by name; frames. -/
namespace DL
open PySem PySem.Spec PyProof.Rows L2 GenW
structure GenM (P : Program) (w : World) (K : PySem.W.Frag) (mg : Str → Option Value) (base : Heap) (k : Nat) (c m : Str) (ps : List Str) (sp : GSp) : Prop where
  ex : ∃ C f fd, mg c = some (.ref C) ∧ Cls K C ∧ Meth K C m f ∧ Binds K fd ps [] ∧ GenD1 P w K mg base k f fd ps sp
section
variable {W : WX} {X : Cx} {e o : Expr} {es : List Expr} {wo : WE} {ws : WA} {pos apos : Pos} {k j : Nat} {ps : List Str} {sp : GSp} {c m : Str}
end
section
variable {W : WX} {X : Cx} {e : Expr} {wi : WI} {pos p : Pos} {kk j : Nat} {nm : Str}
end
section
variable {W : WX} {X : Cx} {elt tg iter : Expr} {ifs : List Expr} {scope : Scope} {own : List (Str × Nat)} {pos : Pos} {wi : WI} {g : L2.TG} {k : WG} {tt : WT} {te : WE} {kk j : Nat}
end
section
variable {g : GE} {body : List Stmt} {tb : TGen} {pos : Pos} {tg iter : Expr} {wi : WI} {gW : WG} {kk j : Nat}
end
/-! ### frames -/
def KGM2 (sp : GSp) (x : D) (Q : List D → Mu → Prop) : List D → Mu → Prop := fun ds μ => ∃ ys, sp (x :: ds) ys ∧ Q ys μ
def KGM1 (c m : Str) (sp : GSp) (wa : WA) (ρ : DS) (Q : List D → Mu → Prop) (Xd : XD) : D → Mu → Prop := fun x μ1 => hasCls c m x μ1 (wa ρ μ1 (KGM2 sp x Q) Xd)
theorem g_genm {c m : Str} {sp : GSp} {wo : WE} {wa : WA} {ρ : DS} {μ : Mu} {Q : List D → Mu → Prop} {Xd : XD} : wGenM c m sp wo wa ρ μ Q Xd = wo ρ μ (KGM1 c m sp wa ρ Q Xd) Xd := propext Iff.rfl
theorem g_genm1 {c m : Str} {sp : GSp} {wa : WA} {x : D} {ρ : DS} {μ : Mu} {Q : List D → Mu → Prop} {Xd : XD} : KGM1 c m sp wa ρ Q Xd x μ = hasCls c m x μ (wa ρ μ (KGM2 sp x Q) Xd) := propext Iff.rfl
end DL

set_option Elab.async false
set_option linter.all false
set_option maxRecDepth 100000
set_option maxHeartbeats 4000000
set_option autoImplicit false
/-! Ordinary loops and tests that hold a yield. -/
namespace DL
open PySem PySem.Spec PyProof.Rows L2 GenW
open Sem (wp)
/-! ### a test may leave cells behind: they are forgotten -/
section
variable {g : GE} {body : List Stmt} {tb : TGen} {pos : Pos} {tg iter : Expr} {wi : WI} {gW : WG}
end
end DL

set_option Elab.async false
set_option linter.all false
set_option maxRecDepth 100000
set_option maxHeartbeats 4000000
set_option autoImplicit false
/-! Generators that hand out things which can be changed (cells). -/
namespace DL
open PySem PySem.Spec PyProof.Rows L2 GenW
open Sem (wp)
/-- what is handed out: where so many cells stand, a datum and the cells that come with it -/
structure GI where
  dat : Nat → D
  cel : Nat → Mu
structure GDC where
  nx : List GI → DS → Prop
abbrev TGC := GDC → List GI → DS → Prop
abbrev GSpC := List D → List GI → Prop
def AftYC (g : GE) (a gn : Nat) (go : Obj) (k : Wk) (y : GI) (P : Ext → Obj → GenState → Prop) (e : End) (s1 : Shared) : Prop :=
  ∃ v gd l kk c p fs x m' H' lo' E', e = .susp v gd l kk c p fs ∧ e.quiet = true ∧ RelV x v ∧ Inv k.X k.pins k.σ H' s1 ∧ Step g.gx k.Z k.m k.H m' (k.μ ++ y.cel k.μ.length) H' ∧ Rep g.gx m' (vis k.Z m' H') (y.dat k.μ.length) x ∧ s1.heap.get? g.L = some lo' ∧ (∀ v, lo'.data ≠ .cell v) ∧ s1.heap.get? a = some go ∧
    H' g.L = none ∧ H' a = none ∧ ExtAt g a gn k.X k.pins k.Z m' H' s1 E' ∧ P E' lo' e.genState
def GenPC (g : GE) (a gn : Nat) (go : Obj) : List GI → Ext → Obj → GenState → Prop
  | [], E, lo, gs => ∀ k : Wk, Cons g a go k.X k.pins k.σ k.H k.Z k.m k.μ k.s lo → ExtAt g a gn k.X k.pins k.Z k.m k.H k.s E → GoesS (model g.prog g.w) g.A gs (AftE g a go k) k.s
  | d :: ds, E, lo, gs => ∀ k : Wk, Cons g a go k.X k.pins k.σ k.H k.Z k.m k.μ k.s lo → ExtAt g a gn k.X k.pins k.Z k.m k.H k.s E → GoesS (model g.prog g.w) g.A gs (AftYC g a gn go k d (GenPC g a gn go ds)) k.s
def FinPC (g : GE) (a gn : Nat) (go : Obj) (k : Wk) : List GI → End → Shared → Prop
  | [] => AftE g a go k
  | d :: ds => AftYC g a gn go k d (GenPC g a gn go ds)
def GoesC (g : GE) (a gn : Nat) (go : Obj) (E : Ext) (D0 : GDC) (c : Code) (fs : List Frame) (K : Flow → Sem PySem.Fin) : Prop :=
  ∀ (k : Wk) (ds : List GI) (ρ : DS) (s : Shared), RunG1 g a gn go E k ρ s → D0.nx ds ρ → Sg (model g.prog g.w) g.A (FinPC g a gn go k ds) c (K .next) fs s
structure GStC (g : GE) (P : Ext → Prop) (st : Stmt) (t : TGC) : Prop where
  run : ∀ (E : Ext), P E → ∀ (a gn : Nat) (go : Obj) (c : Code) (fs : List Frame) (K : Flow → Sem PySem.Fin) (J : Value → Sem PySem.Fin) (gd : Bool → Bool) (lv : List Value → List Value) (D0 : GDC), At g c fs gd → GoesC g a gn go E D0 c fs K →
    ∀ (k : Wk) (ds : List GI) (ρ : DS) (s : Shared), RunG1 g a gn go E k ρ s → t D0 ds ρ → Sg (model g.prog g.w) g.A (FinPC g a gn go k ds) c ((exec st g.env).wrap K J gd lv) fs s
structure GStsC (g : GE) (P : Ext → Prop) (sts : List Stmt) (t : TGC) : Prop where
  run : ∀ (E : Ext), P E → ∀ (a gn : Nat) (go : Obj) (c : Code) (fs : List Frame) (K : Flow → Sem PySem.Fin) (J : Value → Sem PySem.Fin) (gd : Bool → Bool) (lv : List Value → List Value) (D0 : GDC), At g c fs gd → GoesC g a gn go E D0 c fs K →
    ∀ (k : Wk) (ds : List GI) (ρ : DS) (s : Shared), RunG1 g a gn go E k ρ s → t D0 ds ρ → Sg (model g.prog g.w) g.A (FinPC g a gn go k ds) c ((execs sts g.env).wrap K J gd lv) fs s
section
variable {g : GE} {P : Ext → Prop} {st : Stmt} {rest body : List Stmt} {t u : TGC} {pos : Pos}
end
section
variable {g : GE} {body : List Stmt} {tb : TGC} {pos : Pos} {tg iter : Expr} {wi : WI} {gW : WG}
end
end DL

set_option Elab.async false
set_option linter.all false
set_option maxRecDepth 100000
set_option maxHeartbeats 4000000
set_option autoImplicit false
namespace DL
open PySem PySem.Spec PyProof.Rows L2 GenW

open Sem (wp)
/-- for whoever wakes it: the data -/
def GivesC (kk : Nat) (fr : List Env) (g : GE) (a gn : Nat) (go lo : Obj) (gs : GenState) (ys : List GI) (m : List Addr) (E0 : Hp) : Prop :=
  ∀ A : Around, Room kk A → A.guards = some [] → A.frames = some fr → (g.wake A).Ok ∧ GenPC (g.wake A) a gn go ys ⟨[], [], m, E0⟩ lo gs
structure GenDC (P : Program) (w : World) (K : PySem.W.Frag) (mg : Str → Option Value) (base : Heap) (k : Nat) (f : Addr) (fd : FuncData) (ps : List Str) (sp : GSpC) : Prop where
  len : ∀ ds ys, sp ds ys → ds.length = ps.length
  run : ∀ (A : Around) (fr : List Env) (s : Shared) (H : Hp) (args : Args) (us : List Value) (vs : List V) (Z : Addr → Prop) (m : List Addr) (μ : Mu) (ds : List D) (ys : List GI), Room k A → A.guards = some [] → Env0 P w K mg base A fr s H → BindsTo s fd args (ps.zip us) → Vals vs us →
    MuOk ⟨K, mg, none⟩ Z m μ H → Reps ⟨K, mg, none⟩ m (vis Z m H) ds vs → sp ds ys →
    codeAny (model P w) A (.call (.ref f) args) (fun r s' => ∃ g a gn go lo gs, r = .ok (.ret (.ref a)) ∧ Born P w K mg base k fr g a gn go lo gs H s s' ∧ GivesC k fr g a gn go lo gs ys m (vis Z m H)) s
abbrev WIG := DS → Mu → (List GI → Mu → Prop) → XD → Prop
structure DGnC (W : WX) (X : Cx) (kk : Nat) (e : Expr) (wi : WIG) : Prop where
  run : ∀ (pins : List (Addr × Obj)) (s : Shared) (σ : L2.St) (H : Hp) (Z : Addr → Prop) (m : List Addr) (ρ : DS) (μ : Mu) (Q : List GI → Mu → Prop) (Xd : XD), Inv X pins σ H s → SR (gx0 X) Z m σ H ρ μ → wi ρ μ Q Xd →
    (∀ cls d H', XPost (gx0 X) (ownW Z σ ρ) m H Xd cls d H' → W cls d σ H') →
    wpAny (model X.prog X.w) X.A (eval e X.env) (fun v s2 => ∃ g a gn go lo gs ys s1 H1 m1 μ1, v = .ref a ∧ Inv X pins σ H1 s1 ∧ Born X.prog X.w X.K X.mg X.base kk X.stack g a gn go lo gs H1 s1 s2 ∧ Step (gx0 X) (ownW Z σ ρ) m H m1 μ1 H1 ∧
      GivesC kk X.stack g a gn go lo gs ys m1 (vis (ownW Z σ ρ) m1 H1) ∧ Q ys μ1) X.xe s
section
variable {W : WX} {X : Cx} {e o : Expr} {es : List Expr} {wo : WE} {ws : WA} {pos apos : Pos} {k : Nat} {f C : Addr} {fd : FuncData} {ps : List Str} {sp : GSpC} {c mn x : Str} {p : Pos}
/-- g() by name -/
def wGenC0 (sp : GSpC) : WIG := fun _ μ Q _ => ∃ ys, sp [] ys ∧ Q ys μ
end
end DL

set_option Elab.async false
set_option linter.all false
set_option maxRecDepth 100000
set_option maxHeartbeats 4000000
set_option autoImplicit false
/-! list(g()) of a generator that hands out cells. -/
namespace DL
open PySem PySem.Spec PyProof.Rows L2 GenW
def dats : List GI → Nat → List D
  | [], _ => []
  | y :: ys, n => y.dat n :: dats ys (n + (y.cel n).length)
def cels : List GI → Nat → Mu
  | [], _ => []
  | y :: ys, n => y.cel n ++ cels ys (n + (y.cel n).length)
def wLoGC (wi : WIG) : WE := fun ρ μ Q Xd => wi ρ μ (fun ys μ1 => ys.length ≤ 1000000 ∧ Q (.lst (dats ys μ1.length)) (μ1 ++ cels ys μ1.length)) Xd
structure RestC (X : Cx) (N : List Str) (env : Env) (a gn : Nat) (go : Obj) (pins : List (Addr × Obj)) (ys : List GI) (Z : Addr → Prop) (m : List Addr) (H : Hp) (s : Shared) : Prop where
  ex : ∃ lo gs E, s.heap.get? env.locals = some lo ∧ (∀ v, lo.data ≠ .cell v) ∧ s.heap.get? a = some go ∧ H env.locals = none ∧ H a = none ∧ s.gens[gn]? = some gs ∧ ExtAt (gw X N env) a gn X pins Z m H s E ∧ GenPC (gw X N env) a gn go ys E lo gs
/-- pins at the same places -/
theorem RestC.pins {X : Cx} {N : List Str} {env : Env} {a gn : Nat} {go : Obj} {pins pins' : List (Addr × Obj)} {ys : List GI} {Z : Addr → Prop} {m : List Addr} {H : Hp} {s : Shared} (R : RestC X N env a gn go pins ys Z m H s) (h : ∀ p ∈ pins', ∃ p0 ∈ pins, p0.1 = p.1) : RestC X N env a gn go pins' ys Z m H s := by
  obtain ⟨lo, gs, E, q1, q2, q3, q4, q5, q6, q7, q8⟩ := R.ex
  refine ⟨lo, gs, E, q1, q2, q3, q4, q5, q6, ⟨fun p hp => ?_, q7.sx, q7.gn, q7.pre, q7.same⟩, q8⟩
  obtain ⟨h1, h2, h3⟩ := q7.px p hp
  refine ⟨h1, ⟨h2.1, h2.2.1, h2.2.2.1, h2.2.2.2.1, h2.2.2.2.2.1, fun p0 hp0 => ?_⟩, h3⟩
  rcases List.mem_append.mp hp0 with hp0 | hp0
  · exact h2.2.2.2.2.2 p0 (List.mem_append_left _ hp0)
  · obtain ⟨p1, hp1, e⟩ := h p0 hp0
    rw [← e]
    exact h2.2.2.2.2.2 p1 (List.mem_append_right _ hp1)
section
variable {W : WX} {X : Cx} {e : Expr} {wi : WIG} {pos p : Pos} {kk : Nat} {nm : Str}
end
end DL

set_option Elab.async false
set_option linter.all false
set_option maxRecDepth 100000
set_option maxHeartbeats 4000000
set_option autoImplicit false
/-! A generator of cells by its name, called without arguments; list() of it; frames. -/
namespace DL
open PySem PySem.Spec PyProof.Rows L2 GenW
structure GenCC (P : Program) (w : World) (K : PySem.W.Frag) (mg : Str → Option Value) (base : Heap) (k : Nat) (x : Str) (ps : List Str) (sp : GSpC) : Prop where
  ex : ∃ f fd, mg x = some (.ref f) ∧ PySem.W.keepIn K (.ref f) = true ∧ Binds K fd ps [] ∧ GenDC P w K mg base k f fd ps sp
section
variable {W : WX} {X : Cx} {pos p : Pos} {k j kk : Nat} {ps : List Str} {sp : GSpC} {x nm : Str} {e : Expr} {wi : WIG}
end
/-! ### frames -/
theorem g_logC {sp : GSpC} {ρ : DS} {μ : Mu} {Q : D → Mu → Prop} {Xd : XD} : wLoGC (wGenC0 sp) ρ μ Q Xd = ∃ ys, sp [] ys ∧ ys.length ≤ 1000000 ∧ Q (.lst (dats ys μ.length)) (μ ++ cels ys μ.length) := propext Iff.rfl
end DL

set_option Elab.async false
set_option linter.all false
set_option maxRecDepth 100000
set_option maxHeartbeats 4000000
set_option autoImplicit false
/-! f(a, .., k = v, ..) -/
namespace DL
open PySem PySem.Spec PyProof.Rows L2
/-- how the values lie: written ones, keywords' ones -/
def GOk (gD : List D → List D → List D) (gV : List V → List V → List V) : Prop := ∀ {G : Gx} {m : List Addr} {E : Hp} {ds zs : List D} {vs ws : List V}, Reps G m E ds vs → Reps G m E zs ws → Reps G m E (gD ds zs) (gV vs ws)
/-- a def called with n written values and keywords ks -/
structure KwC (P : Program) (w : World) (K : PySem.W.Frag) (mg : Str → Option Value) (base : Heap) (k : Nat) (x : Str) (ps : List Str) (n : Nat) (ks : List Str) (gD : List D → List D → List D) (sp : DSp) : Prop where
  ex : ∃ f fd g gV, mg x = some (.ref f) ∧ PySem.W.keepIn K (.ref f) = true ∧ KBn K fd ps n ks g gV ∧ GOk gD gV ∧ FnG P w K mg base k f fd ps (toSp ⟨K, mg, none⟩ sp)
def wKw (n m : Nat) (gD : List D → List D → List D) (sp : DSp) (wa wz : WA) : WE := fun ρ μ Q Xd => wa ρ μ (fun ds μ1 => wz ρ μ1 (fun zs μ2 => ds.length = n ∧ zs.length = m ∧ sp (gD ds zs) μ2 Q Xd) Xd) Xd
abbrev DK (ex : Option (Addr × Addr × Addr)) (W : WX) (X : Cx) (kws : List Keyword) (w : WA) : Prop := PK X kws (liftA (gx X ex) W w)
section
variable {ex : Option (Addr × Addr × Addr)} {W : WX} {X : Cx} {e : Expr} {es : List Expr} {kws : List Keyword} {wa : WE} {ws wz : WA} {pos p : Pos} {nm : Option Str} {kpos : Pos} {k n : Nat} {x : Str} {ps ks : List Str} {sp : DSp} {gD : List D → List D → List D}
def wKw0 (n : Nat) (gD : List D → List D → List D) (sp : DSp) (wa : WA) : WE := fun ρ μ Q Xd => wa ρ μ (fun ds μ1 => ds.length = n ∧ sp (gD ds []) μ1 Q Xd) Xd
end
section
variable {gD : List D → List D → List D} {sp : DSp} {wa wz : WA} {n k : Nat} {ρ : DS} {μ : Mu} {Q : D → Mu → Prop} {Xd : XD}
def KKw1 (n m : Nat) (gD : List D → List D → List D) (sp : DSp) (wz : WA) (ρ : DS) (Q : D → Mu → Prop) (Xd : XD) : List D → Mu → Prop := fun ds μ1 => wz ρ μ1 (fun zs μ2 => ds.length = n ∧ zs.length = m ∧ sp (gD ds zs) μ2 Q Xd) Xd
def KKw2 (n m : Nat) (gD : List D → List D → List D) (sp : DSp) (ds : List D) (Q : D → Mu → Prop) (Xd : XD) : List D → Mu → Prop := fun zs μ2 => ds.length = n ∧ zs.length = m ∧ sp (gD ds zs) μ2 Q Xd
def KKw0 (n : Nat) (gD : List D → List D → List D) (sp : DSp) (Q : D → Mu → Prop) (Xd : XD) : List D → Mu → Prop := fun ds μ1 => ds.length = n ∧ sp (gD ds []) μ1 Q Xd
theorem r_kw {m : Nat} : wKw n m gD sp wa wz ρ μ Q Xd = wa ρ μ (KKw1 n m gD sp wz ρ Q Xd) Xd := propext Iff.rfl
theorem r_kw1 {m : Nat} {ds : List D} : KKw1 n m gD sp wz ρ Q Xd ds μ = wz ρ μ (KKw2 n m gD sp ds Q Xd) Xd := propext Iff.rfl
theorem r_kw2 {m : Nat} {ds zs : List D} : KKw2 n m gD sp ds Q Xd zs μ = (ds.length = n ∧ zs.length = m ∧ sp (gD ds zs) μ Q Xd) := propext Iff.rfl
theorem r_kw0 : wKw0 n gD sp wa ρ μ Q Xd = wa ρ μ (KKw0 n gD sp Q Xd) Xd := propext Iff.rfl
theorem r_kw00 {ds : List D} : KKw0 n gD sp Q Xd ds μ = (ds.length = n ∧ sp (gD ds []) μ Q Xd) := propext Iff.rfl
end
end DL

set_option Elab.async false
set_option linter.all false
set_option maxRecDepth 100000
set_option maxHeartbeats 4000000
set_option autoImplicit false
/-! a, b = [], []: both lists of the def's own. -/
namespace DL
open PySem PySem.Spec PyProof.Rows L2
def sPar2OO (i j : Nat) : WS := fun E ρ μ => (i < ρ.length ∧ j < ρ.length) ∧ ∀ p1 p2, E.nx ((ρ.set i (.own p1 (.lst []))).set j (.own p2 (.lst []))) μ
theorem y_oo {i j : Nat} {E : DEnds} {ρ : DS} {μ : Mu} : sPar2OO i j E ρ μ = ((i < ρ.length ∧ j < ρ.length) ∧ ∀ p1 p2, E.nx ((ρ.set i (.own p1 (.lst []))).set j (.own p2 (.lst []))) μ) := propext Iff.rfl
/-! ### a target self.f, self the thing that is being made -/
section
variable {X : Cx} {o : Expr} {to : TE} {f : Str} {pos p0 : Pos}
def kFldO (c : Str) (i : Nat) (f : Str) : WG := fun d ρ μ Q => putOwnI c i f d ρ fun ρ1 => Q ρ1 μ
/-- self.f, self the thing that is being made -/
def ofld (c f : Str) (o : Option Sl) (k : D → Prop) : Prop := match o with
  | some (.own _ (.ins c' ks ds)) => c' = c ∧ match fldOf f ks ds with
    | some d => k d
    | none => False
  | _ => False
def wOwnFld (c : Str) (i : Nat) (f : Str) : WE := fun ρ μ Q _ => ofld c f (ρ[i]?) fun d => Q d μ
end
end DL

set_option Elab.async false
set_option linter.all false
set_option maxRecDepth 100000
set_option maxHeartbeats 2000000
set_option autoImplicit false
/-! Frames: a target self.f. -/
namespace DL
open PySem PySem.Spec PyProof.Rows L2
def KOQ (Q : DS → Mu → Prop) (μ : Mu) : DS → Prop := fun ρ => Q ρ μ
theorem y_foq {ρ : DS} {μ : Mu} {Q : DS → Mu → Prop} : KOQ Q μ ρ = Q ρ μ := propext Iff.rfl
theorem y_fo {c : Str} {i : Nat} {f : Str} {d : D} {ρ : DS} {μ : Mu} {Q : DS → Mu → Prop} : kFldO c i f d ρ μ Q = KPut c i f d ρ (KOQ Q μ) (ρ[i]?) := by
  unfold kFldO putOwnI KPut
  exact propext Iff.rfl
def KOF (c f : Str) (o : Option Sl) (Q : D → Mu → Prop) (μ : Mu) : Prop := match o with
  | some (.own _ (.ins c' ks ds)) => c' = c ∧ KFld2 (fldOf f ks ds) μ Q
  | _ => False
theorem y_of {c : Str} {i : Nat} {f : Str} {ρ : DS} {μ : Mu} {Q : D → Mu → Prop} {Xd : XD} : wOwnFld c i f ρ μ Q Xd = KOF c f (ρ[i]?) Q μ := by
  unfold wOwnFld ofld KOF KFld2
  exact propext Iff.rfl
theorem y_of2 {c c' f : Str} {a : Addr} {ks : List Str} {ds : List D} {μ : Mu} {Q : D → Mu → Prop} : KOF c f (some (.own a (.ins c' ks ds))) Q μ = (c' = c ∧ KFld2 (fldOf f ks ds) μ Q) := propext Iff.rfl
end DL

set_option Elab.async false
set_option linter.all false
set_option maxRecDepth 100000
set_option maxHeartbeats 4000000
set_option autoImplicit false
namespace DL
open PySem PySem.Spec PyProof.Rows L2
/-! ### x.m() in an except suite: a method that gets data only and raises nothing -/
abbrev YSp := List D → Mu → (D → Mu → Prop) → Prop
def toSpY (K : PySem.W.Frag) (mg : Str → Option Value) (sp : YSp) (vs : List V) (H : Hp) (Q : VK) : Prop :=
  ∃ (Z : Addr → Prop) (m : List Addr) (μ : Mu) (ds : List D) (Qd : D → Mu → Prop), MuOk ⟨K, mg, none⟩ Z m μ H ∧ Reps ⟨K, mg, none⟩ m (vis Z m H) ds vs ∧ sp ds μ Qd ∧ ∀ v H', VPost ⟨K, mg, none⟩ Z m H Qd v H' → Q v H'
structure FnY (P : Program) (wd : World) (K : PySem.W.Frag) (mg : Str → Option Value) (bs : Heap) (k : Nat) (f : Addr) (fd : FuncData) (ps : List Str) (sp : YSp) : Prop where
  len : ∀ ds μ Q, sp ds μ Q → ds.length = ps.length
  run : ∀ (A : Around) (fr : List Env) (s : Shared) (H : Hp) (args : Args) (us : List Value) (vs : List V) (a : Addr) (oe : Obj) (Q : VK), L2H.RoomH k A → A.guards = some [] → A.handled = some (.ref a) → L2H.PinOk fr H s (a, oe) →
    Env0 P wd K mg bs A fr s H → BindsTo s fd args (ps.zip us) → Vals vs us → toSpY K mg sp vs H Q → codeAny (model P wd) A (.call (.ref f) args) (CR (L2.CX P wd) fr P wd H s Q (fun _ _ _ => False)) s
section
variable {P : Program} {w : World} {K : PySem.W.Frag} {mg : Str → Option Value} {base : Heap}
structure MethY (P : Program) (w : World) (K : PySem.W.Frag) (mg : Str → Option Value) (base : Heap) (k : Nat) (c m : Str) (ps : List Str) (sp : YSp) : Prop where
  ex : ∃ C f fd, mg c = some (.ref C) ∧ Cls K C ∧ Meth K C m f ∧ Binds K fd ps [] ∧ FnY P w K mg base k f fd ps sp
end
section
variable {X : Cx} {a : Addr} {oe : Obj} {cls : Value} {d : Option Addr} {pn : List (Addr × Obj)} {pos apos : Pos} {o : Expr} {wo : WE} {c m : Str} {j k : Nat} {ps : List Str} {sp : YSp}
end
end DL

set_option Elab.async false
set_option linter.all false
set_option maxRecDepth 100000
set_option maxHeartbeats 4000000
set_option autoImplicit false
namespace DL
open PySem PySem.Spec PyProof.Rows L2
/-! ### a dict of the def's own, from ints to ints -/
def putI (kvs : List (Int × Int)) (k v : Int) : List (Int × Int) := if (kvs.any fun p => decide (p.1 = k)) = true then kvs.map (fun p => if p.1 = k then (p.1, v) else p) else kvs ++ [(k, v)]
def sNewD (i : Nat) : WS := fun E ρ μ => i < ρ.length ∧ ∀ p, E.nx (ρ.set i (.own p (.dct []))) μ
def KPutD (i : Nat) (p : Addr) (kvs : List (Int × Int)) (E : DEnds) (ρ : DS) (d : D) : D → Mu → Prop := fun y μ2 => ∃ k v, y = .int k ∧ d = .int v ∧ kvs.length < 1000 ∧ E.nx (ρ.set i (.own p (.dct (putI kvs k v)))) μ2
section
variable {ex : Option (Addr × Addr × Addr)} {W : WX} {X : Cx} {e ix value tg : Expr} {wi wv w : WE} {pos pos' p0 lp : Pos} {i : Nat} {x : Str}
end
section
variable {ex : Option (Addr × Addr × Addr)} {W : WX} {X : Cx} {e : Expr} {w : WE} {i : Nat}
end
end DL

set_option Elab.async false
set_option linter.all false
set_option maxRecDepth 100000
set_option maxHeartbeats 4000000
set_option autoImplicit false
namespace DL
open PySem PySem.Spec PyProof.Rows L2
/-! frames -/
section
variable {ρ : DS} {μ : Mu} {Q : D → Mu → Prop} {Xd : XD} {E : DEnds} {i : Nat} {wi wv w : WE}
theorem r_newD : sNewD i E ρ μ = (i < ρ.length ∧ ∀ p, E.nx (ρ.set i (.own p (.dct []))) μ) := propext Iff.rfl
def KPutD0 (i : Nat) (wi : WE) (p : Addr) (kvs : List (Int × Int)) (E : DEnds) (ρ : DS) : D → Mu → Prop := fun d μ1 => wi ρ μ1 (KPutD i p kvs E ρ d) (KX E ρ)
theorem r_put0 {p : Addr} {kvs : List (Int × Int)} {d : D} : KPutD0 i wi p kvs E ρ d μ = wi ρ μ (KPutD i p kvs E ρ d) (KX E ρ) := propext Iff.rfl
end
end DL

set_option Elab.async false
set_option linter.all false
set_option maxRecDepth 100000
set_option maxHeartbeats 4000000
set_option autoImplicit false
namespace DL
open PySem PySem.Spec PyProof.Rows L2
/-! an empty dict, as a datum; x.m() in a def that gets the caught exception -/
section
variable {ex : Option (Addr × Addr × Addr)} {W : WX} {X : Cx} {pos : Pos}
end
section
variable {X : Cx} {a : Addr} {oe : Obj} {cls : Value} {d : Option Addr} {pn : List (Addr × Obj)} {pos apos : Pos} {o : Expr} {wo : WE} {c m : Str} {j k : Nat} {ps : List Str} {sp : YSp}
end
end DL

set_option Elab.async false
set_option linter.all false
set_option maxRecDepth 100000
set_option maxHeartbeats 4000000
set_option autoImplicit false
/-! list == data, where the list may be a cell of plain data. -/
namespace DL
open PySem PySem.Spec PyProof.Rows L2
section
variable {ex : Option (Addr × Addr × Addr)} {W : WX} {X : Cx} {a b : Expr} {wa wb : WE} {pos : Pos}
end
/-! is True, is not False -/
def fIsB : F2 := fun x y μ Q => ∃ a b, x = .bl a ∧ y = .bl b ∧ Q (.bl (decide (a = b))) μ
def fNotB : F2 := fun x y μ Q => ∃ a b, x = .bl a ∧ y = .bl b ∧ Q (.bl (!decide (a = b))) μ
theorem r_isb {a b : Bool} {μ : Mu} {Q : D → Mu → Prop} : fIsB (.bl a) (.bl b) μ Q = Q (.bl (decide (a = b))) μ :=
  propext ⟨fun ⟨x, y, e1, e2, q⟩ => by cases e1; cases e2; exact q, fun q => ⟨a, b, rfl, rfl, q⟩⟩
theorem r_notb {a b : Bool} {μ : Mu} {Q : D → Mu → Prop} : fNotB (.bl a) (.bl b) μ Q = Q (.bl (!decide (a = b))) μ :=
  propext ⟨fun ⟨x, y, e1, e2, q⟩ => by cases e1; cases e2; exact q, fun q => ⟨a, b, rfl, rfl, q⟩⟩
end DL

set_option Elab.async false
set_option linter.all false
set_option maxRecDepth 100000
set_option maxHeartbeats 4000000
set_option autoImplicit false
/-! Calls with all arguments by names: f(a = .., b = ..), C(a = ..), o.m(a = ..), o(a = ..). -/
namespace DL
open PySem PySem.Spec PyProof.Rows L2
/-- in the order of the parameters -/
def perm {α : Type} : List Nat → List α → List α
  | [], _ => []
  | i :: is, ws => match ws[i]? with
    | some x => x :: perm is ws
    | none => perm is ws
/-- a def whose n first values are written by position (the instance), the others by names -/
structure KwB (K : PySem.W.Frag) (fd : FuncData) (ps : List Str) (n : Nat) (ks : List Str) (pi : List Nat) : Prop where
  to : ∀ (s : Shared) (us ws : List Value), us.length = n → ws.length = ks.length → BindsTo s fd ⟨us, ks.zip ws⟩ (ps.zip (us ++ perm pi ws))
structure KwCallD (P : Program) (w : World) (K : PySem.W.Frag) (mg : Str → Option Value) (base : Heap) (k : Nat) (x : Str) (ps ks : List Str) (pi : List Nat) (sp : DSp) : Prop where
  ex : ∃ f fd, mg x = some (.ref f) ∧ PySem.W.keepIn K (.ref f) = true ∧ KwB K fd ps 0 ks pi ∧ FnG P w K mg base k f fd ps (toSp ⟨K, mg, none⟩ sp)
structure KwMakeD (P : Program) (w : World) (K : PySem.W.Frag) (mg : Str → Option Value) (base : Heap) (k : Nat) (c : Str) (ps ks : List Str) (pi : List Nat) (sp : ISp) : Prop where
  ex : ∃ C f fd, mg c = some (.ref C) ∧ Mk K C f ∧ KwB K fd ps 1 ks pi ∧ FnG P w K mg base k f fd ps (toSpI ⟨K, mg, none⟩ c sp)
structure KwMethD (P : Program) (w : World) (K : PySem.W.Frag) (mg : Str → Option Value) (base : Heap) (k : Nat) (c m : Str) (ps ks : List Str) (pi : List Nat) (sp : DSp) : Prop where
  ex : ∃ C f fd, mg c = some (.ref C) ∧ Cls K C ∧ Meth K C m f ∧ KwB K fd ps 1 ks pi ∧ FnG P w K mg base k f fd ps (toSp ⟨K, mg, none⟩ sp)
structure KwSpcD (P : Program) (w : World) (K : PySem.W.Frag) (mg : Str → Option Value) (base : Heap) (k : Nat) (cs : List Str) (nm : Str) (ps ks : List Str) (pi : List Nat) (sp : DSp) : Prop where
  ex : ∃ f fd, PySem.W.isFn K (.ref f) = true ∧ PySem.W.fnIn K f = true ∧ (∀ c ∈ cs, ∃ C, mg c = some (.ref C) ∧ PySem.W.findIn K (.ref C) nm = some (some (.ref f)) ∧ PySem.W.noSeq K C = true) ∧ KwB K fd ps 1 ks pi ∧ FnG P w K mg base k f fd ps (toSp ⟨K, mg, none⟩ sp)
def wPm (pi : List Nat) (wz : WA) : WA := fun ρ μ Q Xd => wz ρ μ (fun zs μ1 => zs.length = pi.length ∧ Q (perm pi zs) μ1) Xd
section
variable {W : WX} {X : Cx} {o : Expr} {wo : WE} {kws : List Keyword} {wz : WA} {pos p apos : Pos} {k j : Nat} {x c m : Str} {ps ks cs : List Str} {pi : List Nat} {sp : DSp}
abbrev KwOk (pos : Pos) (kws : List Keyword) (X : Cx) (ks : List Str) : Prop := (backToKw pos (keywordEach kws X.env)).all (·.1.isSome) = true ∧ (backToKw pos (keywordEach kws X.env)).filterMap (·.1) = ks ∧ ((backTo pos (starEach [] X.env)).any (·.1) || (backToKw pos (keywordEach kws X.env)).any (·.1.isNone)) = false
end
section
variable {pi : List Nat} {wz : WA} {ρ : DS} {μ : Mu} {Q : List D → Mu → Prop} {Xd : XD}
def KPm (pi : List Nat) (Q : List D → Mu → Prop) : List D → Mu → Prop := fun zs μ1 => zs.length = pi.length ∧ Q (perm pi zs) μ1
theorem r_pm : wPm pi wz ρ μ Q Xd = wz ρ μ (KPm pi Q) Xd := propext Iff.rfl
theorem r_pm1 {zs : List D} : KPm pi Q zs μ = (zs.length = pi.length ∧ Q (perm pi zs) μ) := propext Iff.rfl
end
end DL

set_option Elab.async false
set_option linter.all false
set_option maxRecDepth 100000
set_option maxHeartbeats 4000000
set_option autoImplicit false
/-! != of tuples whose items have an own `__eq__` and are all alike. -/
namespace DL
open PySem PySem.Spec PyProof.Rows L2
section
variable {prog : Program} {w : World} {A : Around}
open PySem.SeqAt AutoSeq1 MeetsSeq MeetsSeq2 MeetsSeq3 SeqRoads2 in
end
def fNeT (c : Str) (sp : DSp) : F2 := fun x y μ Q => tupE x fun ds => tupE y fun es => prsO c sp μ ds es ∧ Q (.bl false) μ
section
variable {X : Cx} {k j : Nat} {ps : List Str} {c : Str} {Ts : List String} {Cs : List Str} {sp : DSp}
end
theorem z_neT {c : Str} {sp : DSp} {ds es : List D} {μ : Mu} {Q : D → Mu → Prop} : fNeT c sp (.tup ds) (.tup es) μ Q = (prsO c sp μ ds es ∧ Q (.bl false) μ) := propext Iff.rfl
end DL

set_option Elab.async false
set_option linter.all false
set_option maxRecDepth 100000
set_option maxHeartbeats 4000000
set_option autoImplicit false
/-! + of tuples. -/
namespace DL
open PySem PySem.Spec PyProof.Rows L2
def fCatT : F2
  | .tup a, .tup b, μ, Q => a.length + b.length ≤ sizeLine ∧ Q (.tup (a ++ b)) μ
  | _, _, _, _ => False
section
variable {ex : Option (Addr × Addr × Addr)} {W : WX} {X : Cx} {a b : Expr} {wa wb : WE} {pos : Pos}
end
theorem z_catT {a b : List D} {μ : Mu} {Q : D → Mu → Prop} : fCatT (.tup a) (.tup b) μ Q = (a.length + b.length ≤ sizeLine ∧ Q (.tup (a ++ b)) μ) := propext Iff.rfl
end DL

set_option Elab.async false
set_option linter.all false
set_option maxRecDepth 100000
set_option maxHeartbeats 4000000
set_option autoImplicit false
/-! An exception out of a comprehension: the element is a call that lets one out. -/
namespace DL
open PySem PySem.Spec PyProof.Rows L2
section
variable {X : Cx} {W : WX} {E : XK}
end

section
variable {M : Model} {A : Around} {E : Value → Shared → Prop} {s : Shared} {env : Env}
end
def wCallR (sp : DSp) (wa : WA) : WE := fun ρ μ Q Xd => wa ρ μ (fun ds μ1 => sp ds μ1 Q Xd) xF
/-- an element that may let an exception out -/
abbrev TER := L2.St → Hp → VK → XK → Prop
structure PER (B : Cx) (elt : Expr) (te : TER) : Prop where
  run : ∀ (pins : List (Addr × Obj)) (s : Shared) (σ : L2.St) (H : Hp) (Q : VK) (E : XK), Inv B pins σ H s → te σ H Q E →
    wpAny (model B.prog B.w) B.A (eval elt B.env) (EP B pins σ Q) (fun u s2 => ∃ H1 s1, Inv B pins σ H1 s1 ∧ L2.CX B.prog B.w B.stack H1 s1 E u s2) s
section
variable {B : Cx} {e : Expr} {es : List Expr} {ws : WA} {pos p : Pos} {k j : Nat} {ps : List Str} {x : Str} {sp : DSp}
end
section
variable {X : Cx} {W : WX}
end
def wLcR (wi : WI) (g : WG) (tt : WT) (te : WE) (vs : List Nat) : WE := fun ρ μ Q Xd => wLc wi g tt (fun ρ μ Q _ => te ρ μ Q Xd) vs ρ μ Q Xd
theorem y_lcR {wi : WI} {g : WG} {tt : WT} {te : WE} {vs : List Nat} {ρ : DS} {μ : Mu} {Q : D → Mu → Prop} {Xd : XD} : wLcR wi g tt te vs ρ μ Q Xd = wLc wi g tt (fun ρ μ Q _ => te ρ μ Q Xd) vs ρ μ Q Xd := rfl
theorem y_callR {sp : DSp} {wa : WA} {ρ : DS} {μ : Mu} {Q : D → Mu → Prop} {Xd : XD} : wCallR sp wa ρ μ Q Xd = wa ρ μ (fun ds μ1 => sp ds μ1 Q Xd) xF := rfl
theorem XPost.out {G : Gx} {W W' : Addr → Prop} {m1 m5 : List Addr} {H1 H5 H6 : Hp} {Xd : XD} {cls : Value} {d : Option Addr} (sub : ∀ b, W b → W' b) (pm : m1 <+: m5) (hid : ∀ z, W z → H5 z = H1 z) (sm : Same (vis W m1 H1) (vis W' m5 H5)) (P : XPost G W' m5 H5 Xd cls d H6) : XPost G W m1 H1 Xd cls d H6 := by
  obtain ⟨m', c, ks, es, μ', C, dd, vs, s', e1, e2, e3, e4, e5, e6, q⟩ := P
  exact ⟨m', c, ks, es, μ', C, dd, vs, ⟨pm.trans s'.pre, fun z hz => (s'.hid z (sub z hz)).trans (hid z hz), s'.mu.less sub, (sm.trans s'.same).trans (vis_mono sub)⟩, e1, e2, e3, vis_mono sub _ _ e4, e5, Reps.mono (List.prefix_refl _) (vis_mono sub) _ _ e6, q⟩
section
variable {W : WX} {X : Cx} {elt tg iter : Expr} {ifs : List Expr} {scope : Scope} {own : List (Str × Nat)} {pos : Pos} {wi : WI} {g : TG} {k : WG} {tt : WT} {te : WE}
end
end DL

set_option Elab.async false
set_option linter.all false
set_option maxRecDepth 100000
set_option maxHeartbeats 4000000
set_option autoImplicit false
/-! A dict of texts, kept as a cell. -/
namespace DL
open PySem PySem.Spec PyProof.Rows L2
def putTk (k : Str) (ks : List Str) : List Str := if k ∈ ks then ks else ks ++ [k]
def setTd {α : Type} (k : Str) (d : α) (ks : List Str) (ds : List α) : List α := List.zipWith (fun g x => if g = k then d else x) ks ds
def putTd {α : Type} (k : Str) (d : α) (ks : List Str) (ds : List α) : List α := if k ∈ ks then setTd k d ks ds else ds ++ [d]
/-! ### the rules -/
def wDicC : WE := fun _ μ Q _ => Q (.loc μ.length) (μ ++ [.dic [] []])
def putN (x : D) (k : Str) (d : D) (μ : Mu) (K : Mu → Prop) : Prop := match x with
  | .loc n => match μ[n]? with
    | some (.dic ks ds) => ks.length < 1000 ∧ K (μ.set n (.dic (putTk k ks) (putTd k d ks ds)))
    | _ => False
  | _ => False
def KPutT3 (E : DEnds) (ρ : DS) (d x : D) : D → Mu → Prop := fun y μ3 => ∃ k, y = .str k ∧ putN x k d μ3 (E.nx ρ)
def KPutT2 (wi : WE) (E : DEnds) (ρ : DS) (d : D) : D → Mu → Prop := fun x μ2 => wi ρ μ2 (KPutT3 E ρ d x) fun c ks es μ' => E.xc c ks es ρ μ'
def sPutT (wo wi wv : WE) : WS := fun E ρ μ => wv ρ μ (fun d μ1 => wo ρ μ1 (KPutT2 wi E ρ d) fun c ks es μ' => E.xc c ks es ρ μ') fun c ks es μ' => E.xc c ks es ρ μ'
section
variable {ex : Option (Addr × Addr × Addr)} {W : WX} {X : Cx} {o ix value : Expr} {wo wi wv : WE} {pos pos' : Pos}
end
/-! list(d), dict(d) -/
end DL

set_option Elab.async false
set_option linter.all false
set_option maxRecDepth 100000
set_option maxHeartbeats 4000000
set_option autoImplicit false
/-! Base.__init__(self) in a class's own __init__. -/
namespace DL
open PySem PySem.Spec PyProof.Rows L2
/-- b's __init__, as it runs for things of the class c -/
structure BIniD (P : Program) (w : World) (K : PySem.W.Frag) (mg : Str → Option Value) (base : Heap) (k : Nat) (b c : Str) (ps : List Str) (sp : ISp) : Prop where
  ex : ∃ B f fd, mg b = some (.ref B) ∧ PySem.W.specialIn K (.ref B) "__getattribute__" = some (some (.builtin "type.__getattribute__")) ∧ PySem.W.typeIn K (.ref B) = some (.type "type") ∧ PySem.W.readsIn K B (.type "type") = true ∧
    PySem.W.findCls K (.ref B) (.type "type") "__init__" = some (.val (.ref f)) ∧ PySem.W.handedIn (.ref f) = true ∧ PySem.W.keepIn K (.ref f) = true ∧ Binds K fd ps [] ∧ FnG P w K mg base k f fd ps (toSpI ⟨K, mg, none⟩ c sp)
/-- the slot i is a bare thing of the class c -/
def baseI (c : Str) (i : Nat) (sp : ISp) (E : DEnds) (ρ : DS) (μ : Mu) : Prop := match ρ[i]? with
  | some (.own a (.ins c' [] [])) => c' = c ∧ sp [] μ (fun ks ds μ' => E.nx (ρ.set i (.own a (.ins c ks ds))) μ') xF
  | _ => False
def sBaseI (c : Str) (i : Nat) (sp : ISp) : WS := fun E ρ μ => baseI c i sp E ρ μ
section
variable {W : WX} {X : Cx} {pos apos pos' p0 p1 : Pos} {i k j : Nat} {b c x : Str} {ps : List Str} {sp : ISp}
end
end DL

set_option Elab.async false
set_option linter.all false
set_option maxRecDepth 100000
set_option maxHeartbeats 4000000
set_option autoImplicit false
/-! [each for each in d], d a dict of texts kept as a cell: its keys. -/
namespace DL
open PySem PySem.Spec PyProof.Rows L2
section
variable {W : WX} {X : Cx} {i j : Nat} {x y : Str} {scope : Scope} {pos p0 p1 p2 : Pos}
end
end DL

set_option Elab.async false
set_option linter.all false
set_option maxRecDepth 100000
set_option maxHeartbeats 4000000
set_option autoImplicit false
/-! d != {}, d a dict of texts kept as a cell. -/
namespace DL
open PySem PySem.Spec PyProof.Rows L2
end DL

set_option Elab.async false
set_option linter.all false
set_option maxRecDepth 100000
set_option maxHeartbeats 4000000
set_option autoImplicit false
/-! The letters of a text, one by one. -/
namespace DL
open PySem PySem.Spec PyProof.Rows L2
def lettersD (x : Str) : List D := x.cps.toList.map fun c => D.str ⟨#[c]⟩
def KWiS (Q : List D → Mu → Prop) : D → Mu → Prop := fun d μ1 => ∃ x, d = .str x ∧ Q (lettersD x) μ1
def wiS (wa : WE) : WI := fun ρ μ Q Xd => wa ρ μ (KWiS Q) Xd
theorem t_wis {wa : WE} {ρ : DS} {μ : Mu} {Q : List D → Mu → Prop} {Xd : XD} : wiS wa ρ μ Q Xd = wa ρ μ (KWiS Q) Xd := rfl
theorem t_wisa {x : Str} {μ : Mu} {Q : List D → Mu → Prop} : KWiS Q (.str x) μ = Q (lettersD x) μ := propext ⟨fun ⟨y, e, h⟩ => by cases e; exact h, fun h => ⟨x, rfl, h⟩⟩
section
variable {ex : Option (Addr × Addr × Addr)} {W : WX} {X : Cx} {tg e : Expr} {wa : WE}
end
end DL

set_option Elab.async false
set_option linter.all false
set_option maxRecDepth 100000
set_option maxHeartbeats 4000000
set_option autoImplicit false
/-! len of a text, of a dict of texts. -/
namespace DL
open PySem PySem.Spec PyProof.Rows L2
section
variable {μ : Mu} {Q : D → Mu → Prop} {z : Str} {n : Nat}
end
end DL

set_option Elab.async false
set_option linter.all false
set_option maxRecDepth 100000
set_option maxHeartbeats 4000000
set_option autoImplicit false
/-! None in a dict of texts; a display of texts; d[k] = v in an unpacking; the keys of a dict within a dict. -/
namespace DL
open PySem PySem.Spec PyProof.Rows L2
/-! ### None as a key -/
section
variable {X : Cx} {pins : List (Addr × Obj)} {σ : L2.St} {H : Hp} {s : Shared} {A : Around} {E : Value → Shared → Prop} {a : Addr} {kvs : List (Key × V)}
end
section
variable {ex : Option (Addr × Addr × Addr)} {W : WX} {X : Cx} {o ix value : Expr} {wo wi wv : WE} {pos pos' : Pos}
end
/-! ### a display of texts -/
def wDicL (ks : List Str) (wa : WA) : WE := fun ρ μ Q Xd => wa ρ (μ ++ [.dic [] []]) (fun ds μ1 => ks.Nodup ∧ ks.length ≤ 15 ∧ μ1[μ.length]? = some (.dic [] []) ∧ Q (.loc μ.length) (μ1.set μ.length (.dic ks ds))) Xd
inductive PW (G : Gx) (W : WX) : List Str → List (TE × TE) → WA → Prop
  | nil : PW G W [] [] wNil
  | cons {k : Str} {ks : List Str} {we : WE} {trs : List (TE × TE)} {wa : WA} : PW G W ks trs wa → PW G W (k :: ks) ((tC (.str k), lift G W we) :: trs) (wCons we wa)
structure DPs (ex : Option (Addr × Addr × Addr)) (W : WX) (X : Cx) (pos : Pos) (keys : List (Option Expr)) (values : List Expr) (ks : List Str) (wa : WA) : Prop where
  ex : ∃ trs, PPs X pos keys values trs ∧ PW (gx X ex) W ks trs wa
section
variable {ex : Option (Addr × Addr × Addr)} {W : WX} {X : Cx} {v : Expr} {keys : List (Option Expr)} {values : List Expr} {ks : List Str} {k : Str} {we wo wi : WE} {wa : WA} {pos p1 : Pos} {j : Nat}
/-- d[k] = .. as a part of an unpacking -/
def kPutT (wo wi : WE) : WG := fun d ρ μ Q => wo ρ μ (fun x μ1 => wi ρ μ1 (fun y μ2 => ∃ k, y = .str k ∧ putN x k d μ2 fun μ3 => Q ρ μ3) xF) xF
end
section
variable {W : WX} {X : Cx} {i j : Nat} {x y key : Str} {scope : Scope} {jj : Nat} {pos p0 p1 p2 p3 p4 : Pos}
end
end DL

set_option Elab.async false
set_option linter.all false
set_option maxRecDepth 100000
set_option maxHeartbeats 4000000
set_option autoImplicit false
/-! isinstance of a caught exception by two classes. -/
namespace DL
open PySem PySem.Spec PyProof.Rows L2
section
variable {X : Cx} {kt : Nat} {a : Addr} {oe : Obj} {cls : Value} {d : Option Addr} {pn : List (Addr × Obj)} {pos p1 p2 p3 p4 pt : Pos} {x c1 c2 : Str} {i : Nat}
end
end DL

set_option Elab.async false
set_option linter.all false
set_option maxRecDepth 100000
set_option maxHeartbeats 4000000
set_option autoImplicit false
/-! x = list(e) as an own list. -/
namespace DL
open PySem PySem.Spec PyProof.Rows L2
def sSetLst (i : Nat) (wa : WE) : WS := fun E ρ μ => wa ρ μ (fun x μ1 => ∃ ds, itemsD x μ1 = some ds ∧ i < ρ.length ∧ ∀ p, E.nx (ρ.set i (.own p (.lst ds))) μ1) fun c ks es μ' => E.xc c ks es ρ μ'
def KSLst (i : Nat) (E : DEnds) (ρ : DS) : D → Mu → Prop := fun x μ1 => ∃ ds, itemsD x μ1 = some ds ∧ i < ρ.length ∧ ∀ p, E.nx (ρ.set i (.own p (.lst ds))) μ1
section
variable {W : WX} {X : Cx} {e : Expr} {wa : WE} {pos : Pos}
end
theorem t_slst {i : Nat} {wa : WE} {E : DEnds} {ρ : DS} {μ : Mu} : sSetLst i wa E ρ μ = wa ρ μ (KSLst i E ρ) (KX E ρ) := propext Iff.rfl
/-! a text in a tuple of texts -/
end DL

set_option Elab.async false
set_option linter.all false
set_option maxRecDepth 100000
set_option maxHeartbeats 4000000
set_option autoImplicit false
/-! Texts: split, join, +, an item, a cut, str(i), int(s), f'..'. -/
namespace DL
open PySem PySem.Spec PyProof.Rows L2
def isS (x : D) (k : Prop) : Prop := match x with
  | .str _ => k
  | _ => False
def wM1S (f : F2) (wo wa : WE) : WE := fun ρ μ Q Xd => wo ρ μ (fun x μ1 => isS x (wa ρ μ1 (fun y μ2 => f x y μ2 Q) Xd)) Xd
def fStrI : FN := fun xs μ Q => match xs with
  | [.int i] => i.natAbs.log2 < 1920 ∧ Q (.str (toString i)) μ
  | _ => False
def fCatS : F2 := fun x y μ Q => ∃ a b, x = .str a ∧ y = .str b ∧ a.length + b.length ≤ sizeLine ∧ Q (.str (a ++ b)) μ
def wSlS (wa : WE) (wl wh : WO) : WE := fun ρ μ Q Xd => wa ρ μ (fun x μ1 => wl ρ μ1 (fun l μ2 => wh ρ μ2 (fun u μ3 => ∃ z, x = .str z ∧ z.length ≤ sizeLine ∧ Q (.str (Txt.slice z l u)) μ3) Xd) Xd) Xd
def wJs : List WE → Str → DS → Mu → (Str → Mu → Prop) → XD → Prop
  | [], acc, _, μ, Q, _ => Q acc μ
  | w :: ws, acc, ρ, μ, Q, Xd => w ρ μ (fun x μ1 => ∃ y, x = .str y ∧ (acc ++ y).length ≤ sizeLine ∧ wJs ws (acc ++ y) ρ μ1 Q Xd) Xd
def wFS (ws : List WE) : WE := fun ρ μ Q Xd => wJs ws Str.empty ρ μ (fun out μ1 => Q (.str out) μ1) Xd
def fFmt : F1 := fun x μ Q => match x with
  | .int i => i.natAbs.log2 < 1920 ∧ Q (.str (toString i)) μ
  | .str y => y.length ≤ sizeLine ∧ Q (.str y) μ
  | _ => False
section
variable {ex : Option (Addr × Addr × Addr)} {W : WX} {X : Cx} {a b e o : Expr} {lo hi : Option Expr} {wa wb wo : WE} {wl wh : WO} {ws : WA} {pos apos p2 : Pos}
/-! f'..' -/
structure DJ (ex : Option (Addr × Addr × Addr)) (W : WX) (X : Cx) (es : List Expr) (ws : List WE) : Prop where
  pj : PJ X es (ws.map (lift (gx X ex) W))
end
end DL

set_option Elab.async false
set_option linter.all false
set_option maxRecDepth 100000
set_option maxHeartbeats 4000000
set_option autoImplicit false
/-! A text's words as a cell, insert, a text many times. -/
namespace DL
open PySem PySem.Spec PyProof.Rows L2
/-- xs.insert(i, e) of a cell -/
def insL (x y d : D) (μ : Mu) (Q : D → Mu → Prop) : Prop := match x, y with
  | .loc n, .int j => match μ[n]? with
    | some (.lst ds) => 0 ≤ j ∧ j < 2 ^ 62 ∧ ds.length < 1000000 ∧ Q .non (μ.set n (.lst (ds.take j.toNat ++ [d] ++ ds.drop j.toNat)))
    | _ => False
  | _, _ => False
def wInsL (wo wa wb : WE) : WE := fun ρ μ Q Xd => wo ρ μ (fun x μ1 => isC x μ1 (wa ρ μ1 (fun y μ2 => wb ρ μ2 (fun d μ3 => insL x y d μ3 Q) Xd) Xd)) Xd
section
variable {X : Cx}
end
section
variable {ex : Option (Addr × Addr × Addr)} {W : WX} {X : Cx} {a b e e2 o : Expr} {wa wb wo : WE} {pos apos : Pos}
end
end DL

set_option Elab.async false
set_option linter.all false
set_option maxRecDepth 100000
set_option maxHeartbeats 4000000
set_option autoImplicit false
/-! a or b, a a text. -/
namespace DL
open PySem PySem.Spec PyProof.Rows L2
def wOrS (wa wb : WE) : WE := fun ρ μ Q Xd => wa ρ μ (fun x μ1 => ∃ z, x = .str z ∧ z.length ≤ sizeLine ∧ if z.length = 0 then wb ρ μ1 Q Xd else Q (.str z) μ1) Xd
section
variable {ex : Option (Addr × Addr × Addr)} {W : WX} {X : Cx} {a b : Expr} {rest : List Expr} {wa wb : WE} {pos : Pos}
def KOrS (wb : WE) (ρ : DS) (Q : D → Mu → Prop) (Xd : XD) : D → Mu → Prop := fun x μ1 => ∃ z, x = .str z ∧ z.length ≤ sizeLine ∧ if z.length = 0 then wb ρ μ1 Q Xd else Q (.str z) μ1
theorem t_ors {ρ : DS} {μ : Mu} {Q : D → Mu → Prop} {Xd : XD} : wOrS wa wb ρ μ Q Xd = wa ρ μ (KOrS wb ρ Q Xd) Xd := propext Iff.rfl
end
end DL

set_option Elab.async false
set_option linter.all false
set_option maxRecDepth 100000
set_option maxHeartbeats 4000000
set_option autoImplicit false
/-! a number in a tuple of numbers -/
namespace DL
open PySem PySem.Spec PyProof.Rows L2

end DL

set_option Elab.async false
set_option linter.all false
set_option maxRecDepth 100000
set_option maxHeartbeats 4000000
set_option autoImplicit false
/-! A list, shown or a cell, == the empty list; slices of tuples. -/
namespace DL
open PySem PySem.Spec PyProof.Rows L2
section
variable {prog : Program} {w : World} {A : Around}
end
def wSlT (wa : WE) (lo hi : WO) : WE := fun ρ μ Q Xd => wa ρ μ (fun x μ1 => lo ρ μ1 (fun l μ2 => hi ρ μ2 (fun u μ3 => tupOr x fun ds => Q (.tup (cutD ds l u)) μ3) Xd) Xd) Xd
section
variable {ex : Option (Addr × Addr × Addr)} {W : WX} {X : Cx} {a : Expr} {wa : WE} {wl wh : WO} {lo hi : Option Expr} {pos p2 : Pos}
end
/-! frames -/
def KSlT3 (x : D) (l : Option Int) (Q : D → Mu → Prop) : Option Int → Mu → Prop := fun u μ3 => tupOr x fun ds => Q (.tup (cutD ds l u)) μ3
def KSlT2 (hi : WO) (x : D) (ρ : DS) (Q : D → Mu → Prop) (Xd : XD) : Option Int → Mu → Prop := fun l μ2 => hi ρ μ2 (KSlT3 x l Q) Xd
def KSlT1 (lo hi : WO) (ρ : DS) (Q : D → Mu → Prop) (Xd : XD) : D → Mu → Prop := fun x μ1 => lo ρ μ1 (KSlT2 hi x ρ Q Xd) Xd
theorem z_slt {wa : WE} {lo hi : WO} {ρ : DS} {μ : Mu} {Q : D → Mu → Prop} {Xd : XD} : wSlT wa lo hi ρ μ Q Xd = wa ρ μ (KSlT1 lo hi ρ Q Xd) Xd := propext Iff.rfl
theorem z_slt1 {lo hi : WO} {x : D} {ρ : DS} {μ : Mu} {Q : D → Mu → Prop} {Xd : XD} : KSlT1 lo hi ρ Q Xd x μ = lo ρ μ (KSlT2 hi x ρ Q Xd) Xd := propext Iff.rfl
theorem z_slt2 {hi : WO} {x : D} {l : Option Int} {ρ : DS} {μ : Mu} {Q : D → Mu → Prop} {Xd : XD} : KSlT2 hi x ρ Q Xd l μ = hi ρ μ (KSlT3 x l Q) Xd := propext Iff.rfl
theorem z_slt3 {ds : List D} {l u : Option Int} {μ : Mu} {Q : D → Mu → Prop} : KSlT3 (.tup ds) l Q u μ = Q (.tup (cutD ds l u)) μ := propext Iff.rfl
end DL

set_option Elab.async false
set_option linter.all false
set_option maxRecDepth 100000
set_option maxHeartbeats 4000000
set_option autoImplicit false
/-! Frames: dicts of texts, Base.__init__(self). -/
namespace DL
open PySem PySem.Spec PyProof.Rows L2
section
variable {ρ : DS} {μ : Mu} {Q : D → Mu → Prop} {Xd : XD} {E : DEnds} {wo wi wv : WE} {i j n : Nat} {c : Str} {sp : ISp} {x d : D} {k : Str}
theorem t_dic : wDicC ρ μ Q Xd = Q (.loc μ.length) (μ ++ [.dic [] []]) := rfl
def KPutT1 (wo wi : WE) (E : DEnds) (ρ : DS) : D → Mu → Prop := fun d μ1 => wo ρ μ1 (KPutT2 wi E ρ d) (KX E ρ)
theorem t_put : sPutT wo wi wv E ρ μ = wv ρ μ (KPutT1 wo wi E ρ) (KX E ρ) := propext Iff.rfl
theorem t_put1 : KPutT1 wo wi E ρ d μ = wo ρ μ (KPutT2 wi E ρ d) (KX E ρ) := rfl
theorem t_put2 : KPutT2 wi E ρ d x μ = wi ρ μ (KPutT3 E ρ d x) (KX E ρ) := propext Iff.rfl
theorem t_put3 : KPutT3 E ρ d x (.str k) μ = putN x k d μ (E.nx ρ) := propext ⟨fun ⟨k', e, h⟩ => by cases e; exact h, fun h => ⟨k, rfl, h⟩⟩
theorem t_base : sBaseI c i sp E ρ μ = baseI c i sp E ρ μ := rfl
end
end DL

set_option Elab.async false
set_option linter.all false
set_option maxRecDepth 100000
set_option maxHeartbeats 4000000
set_option autoImplicit false
/-! Frames of DX54 and DX55. -/
namespace DL
open PySem PySem.Spec PyProof.Rows L2
section
variable {ρ : DS} {μ : Mu} {Q : D → Mu → Prop} {Qs : DS → Mu → Prop} {Xd : XD} {wo wi : WE} {wa : WA} {i j n : Nat} {x d : D} {k : Str} {ks : List Str} {ds : List D}
def KDicL (ks : List Str) (n : Nat) (Q : D → Mu → Prop) : List D → Mu → Prop := fun ds μ1 => ks.Nodup ∧ ks.length ≤ 15 ∧ μ1[n]? = some (.dic [] []) ∧ Q (.loc n) (μ1.set n (.dic ks ds))
theorem t_dicL : wDicL ks wa ρ μ Q Xd = wa ρ (μ ++ [.dic [] []]) (KDicL ks μ.length Q) Xd := propext Iff.rfl
def KkPT2 (x d : D) (ρ : DS) (Q : DS → Mu → Prop) : D → Mu → Prop := fun y μ2 => ∃ k, y = .str k ∧ putN x k d μ2 fun μ3 => Q ρ μ3
def KkPT1 (wi : WE) (d : D) (ρ : DS) (Q : DS → Mu → Prop) : D → Mu → Prop := fun x μ1 => wi ρ μ1 (KkPT2 x d ρ Q) xF
theorem t_kpt : kPutT wo wi d ρ μ Qs = wo ρ μ (KkPT1 wi d ρ Qs) xF := propext Iff.rfl
theorem t_kpt1 : KkPT1 wi d ρ Qs x μ = wi ρ μ (KkPT2 x d ρ Qs) xF := rfl
theorem t_kpt2 : KkPT2 x d ρ Qs (.str k) μ = putN x k d μ fun μ3 => Qs ρ μ3 := propext ⟨fun ⟨k', e, h⟩ => by cases e; exact h, fun h => ⟨k, rfl, h⟩⟩
end
end DL

set_option Elab.async false
set_option linter.all false
set_option maxRecDepth 100000
set_option maxHeartbeats 4000000
set_option autoImplicit false
/-! Frames of DX57, DX58. -/
namespace DL
open PySem PySem.Spec PyProof.Rows L2
section
variable {ρ : DS} {μ : Mu} {Q : D → Mu → Prop} {Xd : XD} {wo wi wa wb : WE} {wl wh : WO} {f : F2} {i j n : Nat} {x y d : D} {a b z : Str} {l u : Option Int} {ds : List D}
def KM1S2 (f : F2) (x : D) (Q : D → Mu → Prop) : D → Mu → Prop := fun y μ2 => f x y μ2 Q
def KM1S (f : F2) (wa : WE) (ρ : DS) (Q : D → Mu → Prop) (Xd : XD) : D → Mu → Prop := fun x μ1 => isS x (wa ρ μ1 (KM1S2 f x Q) Xd)
theorem t_m1s : wM1S f wo wa ρ μ Q Xd = wo ρ μ (KM1S f wa ρ Q Xd) Xd := propext Iff.rfl
theorem t_m1s1 : KM1S f wa ρ Q Xd (.str a) μ = wa ρ μ (KM1S2 f (.str a) Q) Xd := rfl
theorem t_m1s2 : KM1S2 f x Q y μ = f x y μ Q := rfl
theorem t_catS : fCatS (.str a) (.str b) μ Q = (a.length + b.length ≤ sizeLine ∧ Q (.str (a ++ b)) μ) := propext ⟨fun ⟨a', b', e1, e2, h⟩ => by cases e1; cases e2; exact h, fun h => ⟨a, b, rfl, rfl, h⟩⟩
def KSlS3 (x : D) (l : Option Int) (Q : D → Mu → Prop) : Option Int → Mu → Prop := fun u μ3 => ∃ z, x = .str z ∧ z.length ≤ sizeLine ∧ Q (.str (Txt.slice z l u)) μ3
def KSlS2 (wh : WO) (x : D) (ρ : DS) (Q : D → Mu → Prop) (Xd : XD) : Option Int → Mu → Prop := fun l μ2 => wh ρ μ2 (KSlS3 x l Q) Xd
def KSlS1 (wl wh : WO) (ρ : DS) (Q : D → Mu → Prop) (Xd : XD) : D → Mu → Prop := fun x μ1 => wl ρ μ1 (KSlS2 wh x ρ Q Xd) Xd
theorem t_sls : wSlS wa wl wh ρ μ Q Xd = wa ρ μ (KSlS1 wl wh ρ Q Xd) Xd := propext Iff.rfl
theorem t_sls1 : KSlS1 wl wh ρ Q Xd x μ = wl ρ μ (KSlS2 wh x ρ Q Xd) Xd := rfl
theorem t_sls2 : KSlS2 wh x ρ Q Xd l μ = wh ρ μ (KSlS3 x l Q) Xd := rfl
theorem t_sls3 : KSlS3 (.str z) l Q u μ = (z.length ≤ sizeLine ∧ Q (.str (Txt.slice z l u)) μ) := propext ⟨fun ⟨z', e, h⟩ => by cases e; exact h, fun h => ⟨z, rfl, h⟩⟩
def KFS (Q : D → Mu → Prop) : Str → Mu → Prop := fun out μ1 => Q (.str out) μ1
def KJs (ws : List WE) (acc : Str) (ρ : DS) (Q : Str → Mu → Prop) (Xd : XD) : D → Mu → Prop := fun x μ1 => ∃ y, x = .str y ∧ (acc ++ y).length ≤ sizeLine ∧ wJs ws (acc ++ y) ρ μ1 Q Xd
theorem t_fs {ws : List WE} : wFS ws ρ μ Q Xd = wJs ws Str.empty ρ μ (KFS Q) Xd := propext Iff.rfl
theorem t_js0 {acc : Str} {Qs : Str → Mu → Prop} : wJs [] acc ρ μ Qs Xd = Qs acc μ := by rw [wJs]
theorem t_js1 {w : WE} {ws : List WE} {acc : Str} {Qs : Str → Mu → Prop} : wJs (w :: ws) acc ρ μ Qs Xd = w ρ μ (KJs ws acc ρ Qs Xd) Xd := by rw [wJs]; rfl
theorem t_js2 {ws : List WE} {acc : Str} {Qs : Str → Mu → Prop} : KJs ws acc ρ Qs Xd (.str z) μ = ((acc ++ z).length ≤ sizeLine ∧ wJs ws (acc ++ z) ρ μ Qs Xd) := propext ⟨fun ⟨z', e, h⟩ => by cases e; exact h, fun h => ⟨z, rfl, h⟩⟩
theorem t_js3 : KFS Q z μ = Q (.str z) μ := rfl
theorem t_fmtI {k : Int} : fFmt (.int k) μ Q = (k.natAbs.log2 < 1920 ∧ Q (.str (toString k)) μ) := propext Iff.rfl
theorem t_fmtS : fFmt (.str z) μ Q = (z.length ≤ sizeLine ∧ Q (.str z) μ) := propext Iff.rfl
theorem t_strI {k : Int} : fStrI [.int k] μ Q = (k.natAbs.log2 < 1920 ∧ Q (.str (toString k)) μ) := propext Iff.rfl
def KIn3 (x y : D) (Q : D → Mu → Prop) : D → Mu → Prop := fun d μ3 => insL x y d μ3 Q
def KIn2 (wb : WE) (x : D) (ρ : DS) (Q : D → Mu → Prop) (Xd : XD) : D → Mu → Prop := fun y μ2 => wb ρ μ2 (KIn3 x y Q) Xd
def KIn1 (wa wb : WE) (ρ : DS) (Q : D → Mu → Prop) (Xd : XD) : D → Mu → Prop := fun x μ1 => isC x μ1 (wa ρ μ1 (KIn2 wb x ρ Q Xd) Xd)
theorem t_insl : wInsL wo wa wb ρ μ Q Xd = wo ρ μ (KIn1 wa wb ρ Q Xd) Xd := propext Iff.rfl
theorem t_insl1 : KIn1 wa wb ρ Q Xd x μ = isC x μ (wa ρ μ (KIn2 wb x ρ Q Xd) Xd) := rfl
theorem t_insl2 : KIn2 wb x ρ Q Xd y μ = wb ρ μ (KIn3 x y Q) Xd := rfl
theorem t_insl3 : KIn3 x y Q d μ = insL x y d μ Q := rfl
end
end DL

set_option Elab.async false
set_option linter.all false
set_option maxRecDepth 100000
set_option maxHeartbeats 4000000
set_option autoImplicit false
namespace SA
/-! two triangles that a line parts are parted by an edge of one of them -/
abbrev P := Int × Int
def sd (a b p : P) : Int := (b.1 - a.1) * (p.2 - a.2) - (b.2 - a.2) * (p.1 - a.1)
theorem nonneg_of {a b : Int} (hb : 0 < b) (h : 0 ≤ a * b) : 0 ≤ a := by
  apply Int.not_lt.mp
  intro ha
  have := Int.mul_neg_of_neg_of_pos ha hb
  omega
theorem mem {U1 U2 V1 V2 x y z D1 D2 : Int} (hU1 : 0 ≤ U1) (hU2 : 0 ≤ U2) (hV1 : 0 ≤ V1) (hV2 : 0 ≤ V2) (d1 : 0 < D1) (d2 : 0 < D2) (hx : 0 ≤ x) (i1 : y * U1 = U2 * x + D2 * V1) (i2 : D1 * U2 = V2 * y + V1 * z) (hU : U1 = 0 → 0 < U2) : 0 ≤ y := by
  by_cases c : U1 = 0
  · have u2 := hU c
    rw [c, Int.mul_zero] at i1
    have s1 := Int.mul_nonneg hU2 hx
    have s2 := Int.mul_nonneg (Int.le_of_lt d2) hV1
    have v0 : D2 * V1 = 0 := by omega
    have v1 : V1 = 0 := by
      rcases Int.mul_eq_zero.mp v0 with e | e
      · omega
      · exact e
    rw [v1, Int.zero_mul, Int.add_zero] at i2
    have p := Int.mul_pos d1 u2
    apply Int.not_lt.mp
    intro hy
    have := Int.mul_nonpos_of_nonneg_of_nonpos hV2 (Int.le_of_lt hy)
    omega
  · have s1 := Int.mul_nonneg hU2 hx
    have s2 := Int.mul_nonneg (Int.le_of_lt d2) hV1
    exact nonneg_of (show 0 < U1 by omega) (by omega)
/-- z is not left of the way from x to y -/
def Rt (x y : P) (z : P) : Prop := sd x y z ≤ 0
/-- parted by an edge of the first -/
def Ed (a b c p q r : P) : Prop := (Rt a b p ∧ Rt a b q ∧ Rt a b r) ∨ (Rt b c p ∧ Rt b c q ∧ Rt b c r) ∨ (Rt c a p ∧ Rt c a q ∧ Rt c a r)
def lin (u : P) (z : P) : Int := u.1 * z.1 + u.2 * z.2
end SA

set_option Elab.async false
set_option linter.all false
set_option maxRecDepth 100000
set_option maxHeartbeats 4000000
set_option autoImplicit false
namespace SA
/-! meshes of split cells -/
structure T3 where
  a : P
  b : P
  c : P
def Good (t : T3) : Prop := 0 < sd t.a t.b t.c
/-- parted by a line, the first below -/
def Sep (s t : T3) : Prop := ∃ (u : P) (w : Int), ¬ (u.1 = 0 ∧ u.2 = 0) ∧ (lin u s.a ≤ w ∧ lin u s.b ≤ w ∧ lin u s.c ≤ w) ∧ w ≤ lin u t.a ∧ w ≤ lin u t.b ∧ w ≤ lin u t.c
def neg (u : P) : P := (-u.1, -u.2)
theorem lin_neg (u z : P) : lin (neg u) z = - lin u z := by unfold lin neg; grind
theorem Sep.symm {s t : T3} (h : Sep s t) : Sep t s := by
  obtain ⟨u, w, u0, ⟨h1, h2, h3⟩, h4, h5, h6⟩ := h
  refine ⟨neg u, -w, fun z => u0 ⟨?_, ?_⟩, ⟨?_, ?_, ?_⟩, ?_, ?_, ?_⟩
  · have := z.1
    unfold neg at this
    simp only at this
    omega
  · have := z.2
    unfold neg at this
    simp only at this
    omega
  all_goals
    rw [lin_neg]
    omega
/-- within the hull of four corners -/
structure Q4 where
  a : P
  b : P
  c : P
  d : P
def In4 (q : Q4) (t : T3) : Prop := ∀ (u : P) (w : Int), lin u q.a ≤ w → lin u q.b ≤ w → lin u q.c ≤ w → lin u q.d ≤ w → lin u t.a ≤ w ∧ lin u t.b ≤ w ∧ lin u t.c ≤ w
/-- within a triangle -/
def In3 (s t : T3) : Prop := ∀ (u : P) (w : Int), lin u s.a ≤ w → lin u s.b ≤ w → lin u s.c ≤ w → lin u t.a ≤ w ∧ lin u t.b ≤ w ∧ lin u t.c ≤ w
theorem In3.refl (s : T3) : In3 s s := fun _ _ h1 h2 h3 => ⟨h1, h2, h3⟩
theorem In4.sub {q : Q4} {s t : T3} (h : In4 q s) (k : In3 s t) : In4 q t := fun u w h1 h2 h3 h4 => by
  obtain ⟨z1, z2, z3⟩ := h u w h1 h2 h3 h4
  exact k u w z1 z2 z3
theorem Sep.sub {s t s' t' : T3} (h : Sep s t) (hs : In3 s s') (ht : In3 t t') : Sep s' t' := by
  obtain ⟨u, w, u0, ⟨h1, h2, h3⟩, h4, h5, h6⟩ := h
  have z := ht (neg u) (-w) (by rw [lin_neg]; omega) (by rw [lin_neg]; omega) (by rw [lin_neg]; omega)
  rw [lin_neg, lin_neg, lin_neg] at z
  exact ⟨u, w, u0, hs u w h1 h2 h3, by omega, by omega, by omega⟩
theorem In3.rot (a b c : P) : In3 ⟨a, b, c⟩ ⟨b, c, a⟩ := fun u w h1 h2 h3 => ⟨h2, h3, h1⟩
theorem In3.trans {s t r : T3} (h : In3 s t) (k : In3 t r) : In3 s r := fun u w h1 h2 h3 => by
  obtain ⟨z1, z2, z3⟩ := h u w h1 h2 h3
  exact k u w z1 z2 z3
/-! a triangle cut in two -/
theorem half {a b c m : P} (g : 0 < sd a b c) (m1 : 2 * m.1 = a.1 + b.1) (m2 : 2 * m.2 = a.2 + b.2) : Good ⟨a, m, c⟩ ∧ Good ⟨m, b, c⟩ ∧ In3 ⟨a, b, c⟩ ⟨a, m, c⟩ ∧ In3 ⟨a, b, c⟩ ⟨m, b, c⟩ ∧ Sep ⟨a, m, c⟩ ⟨m, b, c⟩ := by
  have e1 : 2 * sd a m c = sd a b c := by
    unfold sd
    grind
  have e2 : 2 * sd m b c = sd a b c := by
    unfold sd
    grind
  have lm : ∀ u : P, 2 * lin u m = lin u a + lin u b := fun u => by
    unfold lin
    grind
  refine ⟨?_, ?_, fun u w h1 h2 h3 => ⟨h1, ?_, h3⟩, fun u w h1 h2 h3 => ⟨?_, h2, h3⟩, ?_⟩
  · show 0 < sd a m c
    omega
  · show 0 < sd m b c
    omega
  · have := lm u
    simp only at h1 h2 ⊢
    omega
  · have := lm u
    simp only at h1 h2 ⊢
    omega
  · -- the line from m to c; a left of it, b right
    refine ⟨(c.2 - m.2, -(c.1 - m.1)), lin (c.2 - m.2, -(c.1 - m.1)) m, ?_, ⟨?_, Int.le_refl _, ?_⟩, Int.le_refl _, ?_, ?_⟩
    · intro z
      simp only at z
      have c1 : c.1 = m.1 := by omega
      have c2 : c.2 = m.2 := by omega
      have : sd a m c = 0 := by unfold sd; rw [c1, c2]; grind
      omega
    · have : lin (c.2 - m.2, -(c.1 - m.1)) m - lin (c.2 - m.2, -(c.1 - m.1)) a = sd a m c := by unfold lin sd; grind
      simp only
      omega
    · have : lin (c.2 - m.2, -(c.1 - m.1)) c = lin (c.2 - m.2, -(c.1 - m.1)) m := by unfold lin; grind
      simp only
      omega
    · have : lin (c.2 - m.2, -(c.1 - m.1)) b - lin (c.2 - m.2, -(c.1 - m.1)) m = sd m b c := by unfold lin sd; grind
      simp only
      omega
    · have : lin (c.2 - m.2, -(c.1 - m.1)) c = lin (c.2 - m.2, -(c.1 - m.1)) m := by unfold lin; grind
      simp only
      omega
/-! the corners of the cells -/
def Near (p : P) (k r : Int) : Prop := 8 * k - 1 ≤ p.1 ∧ p.1 ≤ 8 * k + 1 ∧ 8 * r - 1 ≤ p.2 ∧ p.2 ≤ 8 * r + 1
/-- the cell at k, r -/
def Cell (q : Q4) (k r : Int) : Prop := Near q.a k r ∧ Near q.b (k + 1) r ∧ Near q.c (k + 1) (r + 1) ∧ Near q.d k (r + 1)
end SA

set_option Elab.async false
set_option linter.all false
set_option maxRecDepth 100000
set_option maxHeartbeats 4000000
set_option autoImplicit false
/-! Meshes: each point inside is owned once by a half circle of directions. -/
namespace SA
def cr (u v : P) : Int := u.1 * v.2 - u.2 * v.1
def sb (a b : P) : P := (a.1 - b.1, a.2 - b.2)
def O : P := (0, 0)
/-- a half circle of directions -/
structure HP (R : P → Bool) : Prop where
  opp : ∀ d : P, d ≠ O → R (neg d) = !R d
  cone : ∀ (u v d : P) (m α β : Int), 0 < m → 0 ≤ α → 0 ≤ β → R u = true → R v = true → d ≠ O → m * d.1 = α * u.1 + β * v.1 → m * d.2 = α * u.2 + β * v.2 → R d = true
theorem HP.par {R : P → Bool} (h : HP R) {u d : P} {m α : Int} (hm : 0 < m) (ha : 0 < α) (hd : d ≠ O) (e1 : m * d.1 = α * u.1) (e2 : m * d.2 = α * u.2) (hu : R u = true) : R d = true :=
  h.cone u u d m α 0 hm (by omega) (by decide) hu hu hd (by omega) (by omega)
theorem P.ext {u v : P} (h1 : u.1 = v.1) (h2 : u.2 = v.2) : u = v := Prod.ext h1 h2
theorem nz {u : P} : u ≠ O ↔ ¬ (u.1 = 0 ∧ u.2 = 0) := by
  constructor
  · intro h z
    exact h (P.ext z.1 z.2)
  · intro h z
    subst z
    exact h ⟨rfl, rfl⟩
theorem neg_nz {u : P} (h : u ≠ O) : neg u ≠ O := by
  rw [nz] at h ⊢
  unfold neg
  simp only
  omega
theorem cr_nz {u v : P} (h : 0 < cr u v) : u ≠ O ∧ v ≠ O := by
  constructor <;> (rw [nz]; rintro ⟨h1, h2⟩; unfold cr at h; rw [h1, h2] at h; simp at h)
theorem HP.opp' {R : P → Bool} (h : HP R) {d : P} (hd : d ≠ O) (h1 : R d = true) (h2 : R (neg d) = true) : False := by
  rw [h.opp d hd, h1] at h2
  cases h2
theorem HP.neg {R : P → Bool} (h : HP R) : HP (fun d => !(R d) && decide (d ≠ O)) := by
  have key : ∀ d : P, d ≠ O → ((!(R d) && decide (d ≠ O)) = true ↔ R (SA.neg d) = true) := fun d hd => by
    rw [h.opp d hd]
    simp [hd]
  refine ⟨fun d hd => ?_, fun u v d m α β hm ha hb hu hv hd e1 e2 => ?_⟩
  · have e := h.opp d hd
    have n := neg_nz hd
    simp [e, hd, n]
  · have hu0 : u ≠ O := by simp at hu; exact hu.2
    have hv0 : v ≠ O := by simp at hv; exact hv.2
    rw [key d hd]
    refine h.cone (SA.neg u) (SA.neg v) (SA.neg d) m α β hm ha hb ((key u hu0).mp hu) ((key v hv0).mp hv) (neg_nz hd) ?_ ?_
    · show m * (-d.1) = α * (-u.1) + β * (-v.1)
      grind
    · show m * (-d.2) = α * (-u.2) + β * (-v.2)
      grind
/-- the half of the program -/
def hf (w : P) (ah : Bool) (d : P) : Bool := if cr w d ≠ 0 then decide (0 < cr w d) else (decide (0 < d.1 * w.1 + d.2 * w.2) == ah)
theorem sq0 {a b : Int} (h : a * a + b * b = 0) : a = 0 ∧ b = 0 := by
  have h1 : 0 ≤ a * a := by rcases Int.le_total 0 a with z | z; exact Int.mul_nonneg z z; have := Int.mul_nonneg (show 0 ≤ -a by omega) (show 0 ≤ -a by omega); grind
  have h2 : 0 ≤ b * b := by rcases Int.le_total 0 b with z | z; exact Int.mul_nonneg z z; have := Int.mul_nonneg (show 0 ≤ -b by omega) (show 0 ≤ -b by omega); grind
  have e1 : a * a = 0 := by omega
  have e2 : b * b = 0 := by omega
  exact ⟨by rcases Int.mul_eq_zero.mp e1 with z | z <;> exact z, by rcases Int.mul_eq_zero.mp e2 with z | z <;> exact z⟩
theorem dot_nz {w d : P} (hw : w ≠ O) (hd : d ≠ O) (h : cr w d = 0) : d.1 * w.1 + d.2 * w.2 ≠ 0 := by
  intro e
  have h1 : (w.1 * w.1 + w.2 * w.2) * (d.1 * d.1 + d.2 * d.2) = cr w d * cr w d + (d.1 * w.1 + d.2 * w.2) * (d.1 * w.1 + d.2 * w.2) := by unfold cr; grind
  rw [h, e] at h1
  rcases Int.mul_eq_zero.mp (h1.trans (by decide)) with z | z
  · exact hw (P.ext (sq0 z).1 (sq0 z).2)
  · exact hd (P.ext (sq0 z).1 (sq0 z).2)
theorem pos_of_mul {m x : Int} (hm : 0 < m) (h : 0 < m * x) : 0 < x := by
  rcases Int.lt_or_le 0 x with z | z
  · exact z
  · have := Int.mul_nonneg (Int.le_of_lt hm) (show 0 ≤ -x by omega)
    have e : m * -x = -(m * x) := by grind
    omega
theorem nonneg_of_mul {m x : Int} (hm : 0 < m) (h : 0 ≤ m * x) : 0 ≤ x := by
  rcases Int.lt_or_le x 0 with z | z
  · have := Int.mul_pos hm (show 0 < -x by omega)
    have e : m * -x = -(m * x) := by grind
    omega
  · exact z
theorem hf_hp {w : P} {ah : Bool} (hw : w ≠ O) : HP (hf w ah) := by
  refine ⟨fun d hd => ?_, fun u v d m α β hm ha hb hu hv hd e1 e2 => ?_⟩
  · have c1 : cr w (neg d) = - cr w d := by unfold cr neg; simp only; grind
    have c2 : (neg d).1 * w.1 + (neg d).2 * w.2 = -(d.1 * w.1 + d.2 * w.2) := by unfold neg; simp only; grind
    unfold hf
    rw [c1, c2]
    by_cases c : cr w d = 0
    · have := dot_nz hw hd c
      rw [if_neg (by omega), if_neg (by omega)]
      by_cases g : 0 < d.1 * w.1 + d.2 * w.2
      · rw [decide_eq_true g, decide_eq_false (by omega)]
        cases ah <;> rfl
      · rw [decide_eq_false g, decide_eq_true (by omega)]
        cases ah <;> rfl
    · rw [if_pos (by omega), if_pos c]
      by_cases g : 0 < cr w d
      · rw [decide_eq_true g, decide_eq_false (by omega)]
        rfl
      · rw [decide_eq_false g, decide_eq_true (by omega)]
        rfl
  · have c1 : m * cr w d = α * cr w u + β * cr w v := by unfold cr; grind
    have c2 : m * (d.1 * w.1 + d.2 * w.2) = α * (u.1 * w.1 + u.2 * w.2) + β * (v.1 * w.1 + v.2 * w.2) := by grind
    have pu : 0 ≤ cr w u := by
      unfold hf at hu
      by_cases c : cr w u = 0
      · omega
      · rw [if_pos c, decide_eq_true_eq] at hu; omega
    have pv : 0 ≤ cr w v := by
      unfold hf at hv
      by_cases c : cr w v = 0
      · omega
      · rw [if_pos c, decide_eq_true_eq] at hv; omega
    have q1 := Int.mul_nonneg ha pu
    have q2 := Int.mul_nonneg hb pv
    have pd : 0 ≤ cr w d := nonneg_of_mul hm (by omega)
    unfold hf
    by_cases c : cr w d = 0
    · rw [if_neg (by omega)]
      have z : α * cr w u = 0 ∧ β * cr w v = 0 := by rw [c] at c1; omega
      have dz := dot_nz hw hd c
      have su : ah = true → 0 ≤ α * (u.1 * w.1 + u.2 * w.2) := fun t => by
        rcases Int.mul_eq_zero.mp z.1 with z1 | z1
        · rw [z1]; omega
        · unfold hf at hu
          rw [if_neg (by omega), t] at hu
          simp only [beq_iff_eq, decide_eq_true_eq] at hu
          exact Int.mul_nonneg ha (by omega)
      have sv : ah = true → 0 ≤ β * (v.1 * w.1 + v.2 * w.2) := fun t => by
        rcases Int.mul_eq_zero.mp z.2 with z1 | z1
        · rw [z1]; omega
        · unfold hf at hv
          rw [if_neg (by omega), t] at hv
          simp only [beq_iff_eq, decide_eq_true_eq] at hv
          exact Int.mul_nonneg hb (by omega)
      have tu : ah = false → 0 ≤ α * -(u.1 * w.1 + u.2 * w.2) := fun t => by
        rcases Int.mul_eq_zero.mp z.1 with z1 | z1
        · rw [z1]; omega
        · unfold hf at hu
          rw [if_neg (by omega), t] at hu
          simp only [beq_iff_eq, decide_eq_false_iff_not] at hu
          exact Int.mul_nonneg ha (by omega)
      have tv : ah = false → 0 ≤ β * -(v.1 * w.1 + v.2 * w.2) := fun t => by
        rcases Int.mul_eq_zero.mp z.2 with z1 | z1
        · rw [z1]; omega
        · unfold hf at hv
          rw [if_neg (by omega), t] at hv
          simp only [beq_iff_eq, decide_eq_false_iff_not] at hv
          exact Int.mul_nonneg hb (by omega)
      cases ah
      · have h1 := tu rfl
        have h2 := tv rfl
        have h3 : 0 ≤ -(d.1 * w.1 + d.2 * w.2) := nonneg_of_mul hm (by grind)
        rw [decide_eq_false (by omega)]
        rfl
      · have h1 := su rfl
        have h2 := sv rfl
        have h3 : 0 ≤ d.1 * w.1 + d.2 * w.2 := nonneg_of_mul hm (by omega)
        rw [decide_eq_true (by omega)]
        rfl
    · rw [if_pos c]
      exact decide_eq_true (by omega)
/-! ### order within a half circle -/
/-- a corner's wedge, or an edge's -/
def Wd (w : P × P) : Prop := 0 < cr w.1 w.2 ∨ (w.1 ≠ O ∧ w.2 = neg w.1)
theorem Wd.nz {w : P × P} (h : Wd w) : w.1 ≠ O ∧ w.2 ≠ O := by
  rcases h with h | ⟨h1, h2⟩
  · exact cr_nz h
  · exact ⟨h1, by rw [h2]; exact neg_nz h1⟩
/-- the same way -/
def SW (u v : P) : Prop := ∃ m n : Int, 0 < m ∧ 0 < n ∧ m * u.1 = n * v.1 ∧ m * u.2 = n * v.2
theorem SW.R {R : P → Bool} (h : HP R) {u v : P} (hv : v ≠ O) (s : SW u v) (hu : R u = true) : R v = true := by
  obtain ⟨m, n, hm, hn, e1, e2⟩ := s
  exact h.par hn hm hv e1.symm e2.symm hu
/-! ### owners and wedges -/
def wOwn (R : P → Bool) (a b p : P) : Bool := decide (0 < sd a b p) || (decide (sd a b p = 0) && R (sb b a))
def own (R : P → Bool) (t : T3) (p : P) : Bool := wOwn R t.a t.b p && (wOwn R t.b t.c p && wOwn R t.c t.a p)
def wedge (t : T3) (p : P) : Option (Option (P × P)) :=
  if 0 ≤ sd t.a t.b p ∧ 0 ≤ sd t.b t.c p ∧ 0 ≤ sd t.c t.a p then
    if p = t.a then some (some (sb t.b p, sb t.c p)) else if p = t.b then some (some (sb t.c p, sb t.a p)) else if p = t.c then some (some (sb t.a p, sb t.b p))
    else if sd t.a t.b p = 0 then some (some (sb t.b t.a, sb t.a t.b)) else if sd t.b t.c p = 0 then some (some (sb t.c t.b, sb t.b t.c)) else if sd t.c t.a p = 0 then some (some (sb t.a t.c, sb t.c t.a))
    else some none
  else none
theorem wOwn_le {R : P → Bool} {a b p : P} (h : wOwn R a b p = true) : 0 ≤ sd a b p := by
  unfold wOwn at h
  simp only [Bool.or_eq_true, Bool.and_eq_true, decide_eq_true_eq] at h
  omega
theorem wOwn_pos {R : P → Bool} {a b p : P} (h : 0 < sd a b p) : wOwn R a b p = true := by
  unfold wOwn
  rw [decide_eq_true h]
  rfl
theorem wOwn_zero {R : P → Bool} {a b p : P} (h : sd a b p = 0) : wOwn R a b p = R (sb b a) := by
  unfold wOwn
  rw [h]
  simp
theorem sub_neg (a b : P) : sb a b = neg (sb b a) := by unfold sb neg; exact P.ext (by simp only; omega) (by simp only; omega)
theorem sd_cyc (a b c : P) : sd b c a = sd a b c ∧ sd c a b = sd a b c := by unfold sd; constructor <;> grind
theorem sd_aa (a b : P) : sd a b a = 0 ∧ sd a b b = 0 := by unfold sd; constructor <;> grind
theorem sd_ne {a b c : P} (h : 0 < sd a b c) : sb b a ≠ O ∧ sb c b ≠ O ∧ sb a c ≠ O := by
  refine ⟨?_, ?_, ?_⟩ <;>
  · rw [nz]
    rintro ⟨h1, h2⟩
    unfold sb at h1 h2
    simp only at h1 h2
    have e : sd a b c = 0 := by unfold sd; grind
    omega
theorem corner_own {R : P → Bool} (h : HP R) {a b c : P} (g : 0 < sd a b c) : (wOwn R a b a && (wOwn R b c a && wOwn R c a a)) = (R (sb b a) && !R (sb c a)) ∧ Wd (sb b a, sb c a) := by
  have e1 := (sd_aa a b).1
  have e2 := (sd_aa c a).2
  have e3 : 0 < sd b c a := by rw [(sd_cyc a b c).1]; exact g
  have n := (sd_ne g).2.2
  refine ⟨?_, .inl ?_⟩
  · rw [wOwn_zero e1, wOwn_zero e2, wOwn_pos e3, sub_neg a c, h.opp _ (by rw [sub_neg]; exact neg_nz n)]
    simp
  · unfold cr sb
    unfold sd at g
    exact g
theorem edge_own {R : P → Bool} (h : HP R) {a b c p : P} (g : 0 < sd a b c) (h1 : sd a b p = 0) (h2 : 0 < sd b c p) (h3 : 0 < sd c a p) : (wOwn R a b p && (wOwn R b c p && wOwn R c a p)) = (R (sb b a) && !R (sb a b)) ∧ Wd (sb b a, sb a b) := by
  have n := (sd_ne g).1
  refine ⟨?_, .inr ⟨n, sub_neg _ _⟩⟩
  rw [wOwn_zero h1, wOwn_pos h2, wOwn_pos h3, sub_neg a b, h.opp _ n]
  simp
/-- on a line of two edges: the corner -/
theorem at_two {a b c p : P} (g : 0 < sd a b c) (h1 : sd a b p = 0) (h2 : sd c a p = 0) : p = a := by
  have s : sd a b p + sd b c p + sd c a p = sd a b c := by unfold sd; grind
  have k1 : sd a b c * p.1 = sd b c p * a.1 + sd c a p * b.1 + sd a b p * c.1 := by unfold sd; grind
  have k2 : sd a b c * p.2 = sd b c p * a.2 + sd c a p * b.2 + sd a b p * c.2 := by unfold sd; grind
  rw [h1, h2] at s k1 k2
  have e : sd b c p = sd a b c := by omega
  rw [e] at k1 k2
  exact P.ext (Int.eq_of_mul_eq_mul_left (show sd a b c ≠ 0 by omega) (by omega)) (Int.eq_of_mul_eq_mul_left (show sd a b c ≠ 0 by omega) (by omega))
theorem wedge_own {R : P → Bool} (h : HP R) {t : T3} (g : Good t) {p : P} : match wedge t p with
    | none => own R t p = false
    | some none => own R t p = true ∧ 0 < sd t.a t.b p ∧ 0 < sd t.b t.c p ∧ 0 < sd t.c t.a p
    | some (some w) => own R t p = (R w.1 && !R w.2) ∧ Wd w := by
  obtain ⟨a, b, c⟩ := t
  have g1 : 0 < sd a b c := g
  have g2 : 0 < sd b c a := by rw [(sd_cyc a b c).1]; exact g1
  have g3 : 0 < sd c a b := by rw [(sd_cyc a b c).2]; exact g1
  unfold wedge own
  simp only
  by_cases c0 : 0 ≤ sd a b p ∧ 0 ≤ sd b c p ∧ 0 ≤ sd c a p
  · rw [if_pos c0]
    by_cases ca : p = a
    · subst ca
      rw [if_pos rfl]
      exact corner_own h g1
    rw [if_neg ca]
    by_cases cb : p = b
    · subst cb
      rw [if_pos rfl]
      have := corner_own h g2
      refine ⟨?_, this.2⟩
      rw [← this.1]
      cases wOwn R a p p <;> cases wOwn R p c p <;> cases wOwn R c a p <;> rfl
    rw [if_neg cb]
    by_cases cc : p = c
    · subst cc
      rw [if_pos rfl]
      have := corner_own h g3
      refine ⟨?_, this.2⟩
      rw [← this.1]
      cases wOwn R a b p <;> cases wOwn R b p p <;> cases wOwn R p a p <;> rfl
    rw [if_neg cc]
    have nab : ¬ (sd a b p = 0 ∧ sd c a p = 0) := fun z => ca (at_two g1 z.1 z.2)
    have nbc : ¬ (sd b c p = 0 ∧ sd a b p = 0) := fun z => cb (at_two g2 z.1 z.2)
    have nca : ¬ (sd c a p = 0 ∧ sd b c p = 0) := fun z => cc (at_two g3 z.1 z.2)
    by_cases z1 : sd a b p = 0
    · rw [if_pos z1]
      exact edge_own h g1 z1 (by omega) (by omega)
    rw [if_neg z1]
    by_cases z2 : sd b c p = 0
    · rw [if_pos z2]
      have := edge_own h g2 z2 (by omega) (by omega)
      refine ⟨?_, this.2⟩
      rw [← this.1]
      cases wOwn R a b p <;> cases wOwn R b c p <;> cases wOwn R c a p <;> rfl
    rw [if_neg z2]
    by_cases z3 : sd c a p = 0
    · rw [if_pos z3]
      have := edge_own h g3 z3 (by omega) (by omega)
      refine ⟨?_, this.2⟩
      rw [← this.1]
      cases wOwn R a b p <;> cases wOwn R b c p <;> cases wOwn R c a p <;> rfl
    rw [if_neg z3]
    refine ⟨?_, by omega, by omega, by omega⟩
    rw [wOwn_pos (by omega), wOwn_pos (by omega), wOwn_pos (by omega)]
    rfl
  · rw [if_neg c0]
    show _ = false
    cases h1 : wOwn R a b p with
    | false => rfl
    | true =>
      cases h2 : wOwn R b c p with
      | false => rfl
      | true =>
        cases h3 : wOwn R c a p with
        | false => rfl
        | true => exact absurd ⟨wOwn_le h1, wOwn_le h2, wOwn_le h3⟩ c0
/-- shortest -/
def lw (u : P) : P := (u.1 / (Int.gcd u.1 u.2 : Int), u.2 / (Int.gcd u.1 u.2 : Int))
theorem gcd_pos {u : P} (h : u ≠ O) : 0 < (Int.gcd u.1 u.2 : Int) := by
  rw [nz] at h
  have : Int.gcd u.1 u.2 ≠ 0 := fun e => h (Int.gcd_eq_zero_iff.mp e)
  omega
theorem lw_mul (u : P) : (Int.gcd u.1 u.2 : Int) * (lw u).1 = u.1 ∧ (Int.gcd u.1 u.2 : Int) * (lw u).2 = u.2 := ⟨Int.mul_ediv_cancel' (Int.gcd_dvd_left u.1 u.2), Int.mul_ediv_cancel' (Int.gcd_dvd_right u.1 u.2)⟩
/-- inside, as the program tells it -/
def wds (ts : List T3) (p : P) : List (P × P) := ts.filterMap fun t => (wedge t p).bind id
def insB (ts : List T3) (p : P) : Bool := (ts.any fun t => decide (wedge t p = some none)) || (!(wds ts p).isEmpty && (wds ts p).all fun w => (wds ts p).any fun w' => decide (lw w'.1 = lw w.2))
theorem mem_wds {ts : List T3} {p : P} {w : P × P} : w ∈ wds ts p ↔ ∃ t ∈ ts, wedge t p = some (some w) := by
  unfold wds
  rw [List.mem_filterMap]
  constructor
  · rintro ⟨t, ht, e⟩
    refine ⟨t, ht, ?_⟩
    cases z : wedge t p with
    | none => rw [z] at e; cases e
    | some x => rw [z] at e; cases x with
      | none => cases e
      | some y => cases e; rfl
  · rintro ⟨t, ht, e⟩
    exact ⟨t, ht, by rw [e]; rfl⟩
/-! ### at most one -/
theorem own_le {R : P → Bool} {t : T3} {p : P} (h : own R t p = true) : 0 ≤ sd t.a t.b p ∧ 0 ≤ sd t.b t.c p ∧ 0 ≤ sd t.c t.a p := by
  unfold own at h
  simp only [Bool.and_eq_true] at h
  exact ⟨wOwn_le h.1, wOwn_le h.2.1, wOwn_le h.2.2⟩
/-- the edge a → b with R, a triangle on its other side that owns a point on its line -/
theorem one_corner {R : P → Bool} (h : HP R) {d e1 e2 : P} (d0 : d ≠ O) (hd : R d = true) (h1 : R e1 = true) (h2 : R e2 = true) (g : 0 < cr e1 e2) (s1 : 0 ≤ cr d e1) (s2 : cr d e2 ≤ 0) : False := by
  refine h.opp' d0 hd (h.cone e1 e2 (neg d) (cr e1 e2) (-cr d e2) (cr d e1) g (by omega) s1 h1 h2 (neg_nz d0) ?_ ?_)
  · unfold cr neg; grind
  · unfold cr neg; grind
theorem one_edge {R : P → Bool} (h : HP R) {d e q : P} (d0 : d ≠ O) (hd : R d = true) (h1 : R e = true) (par : cr d e = 0) (g : 0 < cr e q) (s : cr d q < 0) : False := by
  refine h.opp' d0 hd (h.par (m := cr e q) (α := -cr d q) g (by omega) (neg_nz d0) ?_ ?_ h1)
  · have : cr d q * e.1 = cr e q * d.1 + cr d e * q.1 := by unfold cr; grind
    rw [par] at this
    unfold neg
    simp only
    grind
  · have : cr d q * e.2 = cr e q * d.2 + cr d e * q.2 := by unfold cr; grind
    rw [par] at this
    unfold neg
    simp only
    grind
theorem not_both {R : P → Bool} (h : HP R) {a b : P} {t : T3} {p : P} (ab : sb b a ≠ O) (g : Good t) (r1 : Rt a b t.a) (r2 : Rt a b t.b) (r3 : Rt a b t.c) (ow : wOwn R a b p = true) (ot : own R t p = true) : False := by
  obtain ⟨q1, q2, q3⟩ := t
  unfold Rt at r1 r2 r3
  simp only at r1 r2 r3
  have g1 : 0 < sd q1 q2 q3 := g
  have le := own_le ot
  simp only at le
  have ow0 := wOwn_le ow
  have id : sd q1 q2 q3 * sd a b p = sd q2 q3 p * sd a b q1 + sd q3 q1 p * sd a b q2 + sd q1 q2 p * sd a b q3 := by unfold sd; grind
  have m1 : 0 ≤ sd q2 q3 p * -sd a b q1 := Int.mul_nonneg le.2.1 (by omega)
  have m2 : 0 ≤ sd q3 q1 p * -sd a b q2 := Int.mul_nonneg le.2.2 (by omega)
  have m3 : 0 ≤ sd q1 q2 p * -sd a b q3 := Int.mul_nonneg le.1 (by omega)
  have m0 := Int.mul_nonneg (Int.le_of_lt g1) ow0
  rw [Int.mul_neg] at m1 m2 m3
  have z1 : sd q2 q3 p * sd a b q1 = 0 := by omega
  have z2 : sd q3 q1 p * sd a b q2 = 0 := by omega
  have z3 : sd q1 q2 p * sd a b q3 = 0 := by omega
  have z0 : sd a b p = 0 := by
    rw [z1, z2, z3] at id
    rcases Int.mul_eq_zero.mp (id.trans (by decide)) with z | z
    · omega
    · exact z
  rw [wOwn_zero z0] at ow
  -- the second triangle is not flat
  have flat : ¬ (sd a b q1 = 0 ∧ sd a b q2 = 0 ∧ sd a b q3 = 0) := by
    rintro ⟨f1, f2, f3⟩
    have k1 : sd q1 q2 q3 * (sb b a).1 = 0 := by
      have : sd q1 q2 q3 * (sb b a).1 = (q3.1 - q1.1) * (sd a b q1 - sd a b q2) - (q2.1 - q1.1) * (sd a b q1 - sd a b q3) := by unfold sd sb; grind
      rw [f1, f2, f3] at this
      omega
    have k2 : sd q1 q2 q3 * (sb b a).2 = 0 := by
      have : sd q1 q2 q3 * (sb b a).2 = (q3.2 - q1.2) * (sd a b q1 - sd a b q2) - (q2.2 - q1.2) * (sd a b q1 - sd a b q3) := by unfold sd sb; grind
      rw [f1, f2, f3] at this
      omega
    refine ab (P.ext ?_ ?_)
    · rcases Int.mul_eq_zero.mp k1 with z | z
      · omega
      · exact z
    · rcases Int.mul_eq_zero.mp k2 with z | z
      · omega
      · exact z
  unfold own at ot
  simp only [Bool.and_eq_true] at ot
  obtain ⟨o1, o2, o3⟩ := ot
  have f1 : sd q2 q3 p ≠ 0 → sd a b q1 = 0 := fun z => by rcases Int.mul_eq_zero.mp z1 with y | y; exact absurd y z; exact y
  have f2 : sd q3 q1 p ≠ 0 → sd a b q2 = 0 := fun z => by rcases Int.mul_eq_zero.mp z2 with y | y; exact absurd y z; exact y
  have f3 : sd q1 q2 p ≠ 0 → sd a b q3 = 0 := fun z => by rcases Int.mul_eq_zero.mp z3 with y | y; exact absurd y z; exact y
  have tot : sd q1 q2 p + sd q2 q3 p + sd q3 q1 p = sd q1 q2 q3 := by unfold sd; grind
  have cd : ∀ x y : P, cr (sb b a) (sb x y) = sd a b x - sd a b y := fun x y => by unfold cr sb sd; grind
  have ce : ∀ x y z : P, cr (sb y x) (sb z y) = sd x y z := fun x y z => by unfold cr sb sd; grind
  have g2 : 0 < sd q2 q3 q1 := by rw [(sd_cyc q1 q2 q3).1]; exact g1
  have g3 : 0 < sd q3 q1 q2 := by rw [(sd_cyc q1 q2 q3).2]; exact g1
  by_cases x1 : sd q2 q3 p = 0
  · have R1 : R (sb q3 q2) = true := by rw [wOwn_zero x1] at o2; exact o2
    by_cases x2 : sd q3 q1 p = 0
    · have R2 : R (sb q1 q3) = true := by rw [wOwn_zero x2] at o3; exact o3
      have s3 := f3 (by omega)
      exact one_corner h ab ow R1 R2 (by rw [ce]; exact g2) (by rw [cd]; omega) (by rw [cd]; omega)
    · have s2 := f2 x2
      by_cases x3 : sd q1 q2 p = 0
      · have R3 : R (sb q2 q1) = true := by rw [wOwn_zero x3] at o1; exact o1
        exact one_corner h ab ow R3 R1 (by rw [ce]; exact g1) (by rw [cd]; omega) (by rw [cd]; omega)
      · have s3 := f3 x3
        exact one_edge h (q := sb q1 q3) ab ow R1 (by rw [cd]; omega) (by rw [ce]; exact g2) (by rw [cd]; omega)
  · have s1 := f1 x1
    by_cases x2 : sd q3 q1 p = 0
    · have R2 : R (sb q1 q3) = true := by rw [wOwn_zero x2] at o3; exact o3
      by_cases x3 : sd q1 q2 p = 0
      · have R3 : R (sb q2 q1) = true := by rw [wOwn_zero x3] at o1; exact o1
        exact one_corner h ab ow R2 R3 (by rw [ce]; exact g3) (by rw [cd]; omega) (by rw [cd]; omega)
      · have s3 := f3 x3
        exact one_edge h (q := sb q2 q1) ab ow R2 (by rw [cd]; omega) (by rw [ce]; exact g3) (by rw [cd]; omega)
    · have s2 := f2 x2
      by_cases x3 : sd q1 q2 p = 0
      · have R3 : R (sb q2 q1) = true := by rw [wOwn_zero x3] at o1; exact o1
        exact one_edge h (q := sb q3 q2) ab ow R3 (by rw [cd]; omega) (by rw [ce]; exact g1) (by rw [cd]; omega)
      · exact flat ⟨s1, s2, f3 x3⟩
theorem one_owner {R : P → Bool} (h : HP R) {s t : T3} (gs : Good s) (gt : Good t) (e : Ed s.a s.b s.c t.a t.b t.c) {p : P} (os : own R s p = true) (ot : own R t p = true) : False := by
  have n := sd_ne gs
  unfold own at os
  simp only [Bool.and_eq_true] at os
  rcases e with ⟨a, b, c⟩ | ⟨a, b, c⟩ | ⟨a, b, c⟩
  · exact not_both h n.1 gt a b c os.1 ot
  · exact not_both h n.2.1 gt a b c os.2.1 ot
  · exact not_both h n.2.2 gt a b c os.2.2 ot
/-- apart, by an edge of either -/
def Ap (s t : T3) : Prop := Ed s.a s.b s.c t.a t.b t.c ∨ Ed t.a t.b t.c s.a s.b s.c
theorem Ap.one {R : P → Bool} (h : HP R) {s t : T3} (gs : Good s) (gt : Good t) (e : Ap s t) {p : P} (os : own R s p = true) (ot : own R t p = true) : False := by
  rcases e with e | e
  · exact one_owner h gs gt e os ot
  · exact one_owner h gt gs e ot os
theorem few {l : List Nat} (nd : l.Nodup) (h : ∀ i ∈ l, ∀ j ∈ l, i = j) : l.length ≤ 1 := by
  match l with
  | [] => simp
  | [a] => simp
  | a :: b :: l =>
    exfalso
    have := h a (by simp) b (by simp)
    subst this
    simp at nd
end SA

set_option Elab.async false
set_option linter.all false
set_option maxRecDepth 100000
set_option maxHeartbeats 4000000
set_option autoImplicit false
/-! Rules and opposites: a point at no corner lies in none, strictly within, or on one edge of a triangle. -/
namespace SA
/-- opposite half circles -/
structure Opp (R R' : P → Bool) : Prop where
  a : HP R
  b : HP R'
  ne : ∀ d, d ≠ O → R' d = !R d
section
variable {R R' : P → Bool} {ts : List T3} {p : P}
end
theorem lw_nz {u : P} (h : u ≠ O) : lw u ≠ O := fun e => by
  obtain ⟨e1, e2⟩ := lw_mul u
  rw [e] at e1 e2
  exact nz.mp h ⟨by rw [← e1]; exact Int.mul_zero _, by rw [← e2]; exact Int.mul_zero _⟩
end SA

set_option Elab.async false
set_option linter.all false
set_option maxRecDepth 100000
set_option maxHeartbeats 4000000
set_option autoImplicit false
/-! Closed sets of directions: half circles. -/
namespace SA
def tot (d e : P) : P := (3 * d.1 + 2 * e.1, 3 * d.2 + 2 * e.2)
def c2 (R : P → Bool) (d e : P) : Bool := !(R d && (R e && (decide (tot d e ≠ O) && !R (tot d e))))
def c1 (R : P → Bool) (W : List P) (d : P) : Bool := !(R d == R (neg d)) && W.all (c2 R d)
end SA

set_option Elab.async false
set_option linter.all false
set_option maxRecDepth 100000
set_option maxHeartbeats 4000000
set_option autoImplicit false
/-! Formulas of spans: what they take is what a table owns, but at corners. -/
namespace SA
def eW (l r : Bool) (a b p : P) : Bool := if a.2 = b.2 then true else (decide (0 < sd a b p) || (decide (sd a b p = 0) && (if b.2 < a.2 then l else r)))
def lo3 (x y z : Int) : Int := if x ≤ y then (if x ≤ z then x else z) else (if y ≤ z then y else z)
def hi3 (x y z : Int) : Int := if x ≤ y then (if y ≤ z then z else y) else (if x ≤ z then z else x)
def yOk (bo to : Bool) (lo hi y : Int) : Bool := (decide (lo < y) || (decide (y = lo) && bo)) && (decide (y < hi) || (decide (hi = y) && to))
def tk (l r bo to : Bool) (t : T3) (p : P) : Bool := yOk bo to (lo3 t.a.2 t.b.2 t.c.2) (hi3 t.a.2 t.b.2 t.c.2) p.2 && (eW l r t.a t.b p && (eW l r t.b t.c p && eW l r t.c t.a p))
theorem bary (a b c p : P) : sd a b c * (p.2 - a.2) = sd c a p * (b.2 - a.2) + sd a b p * (c.2 - a.2) := by unfold sd; grind
end SA

set_option Elab.async false
set_option linter.all false
set_option maxRecDepth 100000
set_option maxHeartbeats 4000000
set_option autoImplicit false
namespace SO
/-! directions, their order against the clock: plain lists of pairs -/
abbrev P := Int × Int
def cr (p q : P) : Int := p.1 * q.2 - p.2 * q.1
/-- the kind -/
def kd (p : P) : Int := if p.2 = 0 then (if 0 < p.1 then 0 else 4) else if 0 < p.2 then (if 0 < p.1 then 1 else if p.1 = 0 then 2 else 3) else (if p.1 < 0 then 5 else if p.1 = 0 then 6 else 7)
def nz (p : P) : Prop := ¬ (p.1 = 0 ∧ p.2 = 0)
/-- a way that all of a kind go with -/
def up (k : Int) : P := if k = 0 then (1, 0) else if k = 1 then (1, 1) else if k = 2 then (0, 1) else if k = 3 then (-1, 1) else if k = 4 then (-1, 0) else if k = 5 then (-1, -1) else if k = 6 then (0, -1) else (1, -1)
def dt (p q : P) : Int := p.1 * q.1 + p.2 * q.2
theorem dt_up {p : P} (h : nz p) : 0 < dt (up (kd p)) p := by
  obtain ⟨x, y⟩ := p
  unfold nz at h
  simp only at h
  unfold kd
  simp only
  repeat' split
  all_goals simp [up, dt]
  all_goals omega
theorem cr_dt (u p q r : P) : cr p r * dt u q = cr p q * dt u r + cr q r * dt u p := by
  unfold cr dt
  grind
theorem pos_of_mul {a b : Int} (hb : 0 < b) (h : 0 ≤ a * b) : 0 ≤ a := by
  apply Int.not_lt.mp
  intro ha
  have := Int.mul_neg_of_neg_of_pos ha hb
  omega
/-- p is not behind q -/
def Ord (p q : P) : Prop := kd p < kd q ∨ (kd p = kd q ∧ 0 ≤ cr p q)
theorem le_trans' {p q r : P} (hp : nz p) (hq : nz q) (hr : nz r) (h1 : kd p = kd q) (h2 : kd q = kd r) (a : 0 ≤ cr p q) (b : 0 ≤ cr q r) : 0 ≤ cr p r := by
  have u1 := dt_up hp
  have u2 := dt_up hq
  have u3 := dt_up hr
  rw [h1] at u1
  rw [← h2] at u3
  have e := cr_dt (up (kd q)) p q r
  have z1 := Int.mul_nonneg a (Int.le_of_lt u3)
  have z2 := Int.mul_nonneg b (Int.le_of_lt u1)
  exact pos_of_mul u2 (by omega)
theorem Ord.trans {p q r : P} (hp : nz p) (hq : nz q) (hr : nz r) (a : Ord p q) (b : Ord q r) : Ord p r := by
  rcases a with a | ⟨a, a'⟩
  · rcases b with b | ⟨b, b'⟩
    · exact .inl (by omega)
    · exact .inl (by omega)
  · rcases b with b | ⟨b, b'⟩
    · exact .inl (by omega)
    · exact .inr ⟨by omega, le_trans' hp hq hr a b a' b'⟩
/-! put_in -/
def insR (p : P) : List P → List P
  | [] => [p]
  | q :: t => if 0 < cr p q then q :: insR p t else p :: q :: t
def insP (p : P) (l : List P) : List P := (insR p l.reverse).reverse
def sortK (l : List P) : List P := l.foldl (fun acc p => insP p acc) []
/-! those that go the same way keep their order -/
def same (p q : P) : Prop := p.1 * q.2 = p.2 * q.1 ∧ 0 < p.1 * q.1 + p.2 * q.2
instance (p q : P) : Decidable (same p q) := by unfold same; infer_instance
end SO

set_option Elab.async false
set_option linter.all false
set_option maxRecDepth 100000
set_option maxHeartbeats 4000000
set_option autoImplicit false
namespace SO
/-- sorted_around -/
def S (l : List P) : List P := (List.range 8).flatMap fun k => sortK (l.filter fun p => decide (kd p = (k : Nat)))
/-! only one order -/
/-! a quarter -/
def qt (p : P) : P := (-p.2, p.1)
end SO

set_option Elab.async false
set_option linter.all false
set_option maxRecDepth 100000
set_option maxHeartbeats 4000000
set_option autoImplicit false
/-! Rules within rules: kinds of a half, some and all of them. -/
namespace SA
def qk (isW : Bool) (c1 c2 : Int) : Bool := if isW then decide (0 ≤ c1) && decide (0 ≤ c2) else decide (0 < c1) || decide (0 < c2)
/-- kinds of a half: some (all) of their directions are in -/
def hK (isW : Bool) (w : P) (ah : Bool) : List Bool := [hf w ah (1, 0), qk isW (cr w (1, 0)) (cr w (0, 1)), hf w ah (0, 1), qk isW (cr w (0, 1)) (cr w (-1, 0)), hf w ah (-1, 0), qk isW (cr w (-1, 0)) (cr w (0, -1)), hf w ah (0, -1), qk isW (cr w (0, -1)) (cr w (1, 0))]
section
variable {w : P} {ah : Bool}
end
end SA

set_option Elab.async false
set_option linter.all false
set_option maxRecDepth 100000
set_option maxHeartbeats 4000000
set_option autoImplicit false
/-! Rules within rules told by few directions. -/
namespace SA
def units : List P := [(1, 0), (-1, 0), (0, 1), (0, -1)]
def s4 (w : P) : Prop := -4 ≤ w.1 ∧ w.1 ≤ 4 ∧ -4 ≤ w.2 ∧ w.2 ≤ 4
end SA

set_option Elab.async false
set_option linter.all false
set_option maxRecDepth 100000
set_option maxHeartbeats 4000000
set_option autoImplicit false
/-! Stretched and moved. -/
namespace SA
def mu (m : Int) (d : P) : P := (m * d.1, m * d.2)
section
variable {m : Int} {b : P}
end
end SA

set_option linter.all false
set_option maxRecDepth 100000
set_option autoImplicit false
/-! Sets of points, each once, by rows. -/
namespace SP
abbrev P := Int × Int
def lt2 (a b : P) : Prop := a.2 < b.2 ∨ (a.2 = b.2 ∧ a.1 < b.1)
abbrev Canon (l : List P) : Prop := l.Pairwise lt2
theorem lt2_irrefl {a : P} (h : lt2 a a) : False := by unfold lt2 at h; omega
theorem canon_nodup {l : List P} (h : Canon l) : l.Nodup := List.Pairwise.imp (fun {a b} (r : lt2 a b) => fun (e : a = b) => lt2_irrefl (e ▸ r)) h
theorem rows_mem {xs : Int → List Int} {ys : List Int} {p : P} : p ∈ (ys.flatMap fun y => (xs y).map fun x => (x, y)) ↔ p.2 ∈ ys ∧ p.1 ∈ xs p.2 := by
  rw [List.mem_flatMap]
  constructor
  · rintro ⟨y, hy, hp⟩
    obtain ⟨x, hx, rfl⟩ := List.mem_map.mp hp
    exact ⟨hy, hx⟩
  · rintro ⟨h1, h2⟩
    exact ⟨p.2, h1, List.mem_map.mpr ⟨p.1, h2, rfl⟩⟩
/-! ### steps -/
/-- a, a + st, .. up to h -/
def ups (a st h : Int) : List Int := (List.range ((h - a) / st + 1).toNat).map fun (i : Nat) => a + (i : Int) * st
theorem ups_mem {a st h z : Int} (hs : 1 ≤ st) : z ∈ ups a st h ↔ a ≤ z ∧ z ≤ h ∧ (z - a) % st = 0 := by
  unfold ups
  rw [List.mem_map]
  constructor
  · rintro ⟨i, hi, rfl⟩
    have hi := List.mem_range.mp hi
    have h1 : (i : Int) ≤ (h - a) / st := by omega
    have h2 := Int.mul_le_mul_of_nonneg_right h1 (show 0 ≤ st by omega)
    have h3 := Int.ediv_mul_le (h - a) (show st ≠ 0 by omega)
    refine ⟨?_, by omega, ?_⟩
    · have : 0 ≤ (i : Int) * st := Int.mul_nonneg (by omega) (by omega)
      omega
    · rw [show a + (i : Int) * st - a = i * st by omega]
      exact Int.mul_emod_left _ _
  · rintro ⟨h1, h2, h3⟩
    obtain ⟨k, hk⟩ := Int.dvd_of_emod_eq_zero h3
    have hk0 : 0 ≤ k := by
      by_cases c : 0 ≤ k
      · exact c
      · have := Int.mul_le_mul_of_nonneg_left (show k ≤ -1 by omega) (show 0 ≤ st by omega)
        omega
    have hk1 : k ≤ (h - a) / st := by
      rw [Int.le_ediv_iff_mul_le (by omega)]
      rw [Int.mul_comm]
      omega
    refine ⟨k.toNat, List.mem_range.mpr (by omega), ?_⟩
    rw [Int.toNat_of_nonneg hk0, Int.mul_comm]
    omega
/-- the first number from a on with rest r -/
def fst (a r st : Int) : Int := a + (r - a) % st
theorem fst_mem {a r st h z : Int} (hs : 1 ≤ st) : z ∈ ups (fst a r st) st h ↔ a ≤ z ∧ z ≤ h ∧ (z - r) % st = 0 := by
  rw [ups_mem hs]
  unfold fst
  have h0 := Int.emod_nonneg (r - a) (show st ≠ 0 by omega)
  have h1 := Int.emod_lt_of_pos (r - a) (show 0 < st by omega)
  have e : (z - (a + (r - a) % st)) % st = (z - r) % st := by
    rw [show z - (a + (r - a) % st) = (z - a) - (r - a) % st by omega, Int.sub_emod, Int.emod_emod, ← Int.sub_emod]
    congr 1
    omega
  rw [e]
  refine ⟨fun ⟨a1, a2, a3⟩ => ⟨by omega, a2, a3⟩, fun ⟨a1, a2, a3⟩ => ⟨?_, a2, a3⟩⟩
  -- z - r and a + .. have the same rest
  obtain ⟨k, hk⟩ := Int.dvd_of_emod_eq_zero a3
  have hd := Int.emod_add_mul_ediv (r - a) st
  by_cases c : a + (r - a) % st ≤ z
  · exact c
  · -- z < a + rest, z ≥ a: then st divides a number strictly between
    have e2 : z - a = st * (k + (r - a) / st) + (r - a) % st := by
      rw [Int.mul_add]
      omega
    have : k + (r - a) / st ≤ -1 ∨ 0 ≤ k + (r - a) / st := by omega
    rcases this with t | t
    · have := Int.mul_le_mul_of_nonneg_left t (show 0 ≤ st by omega)
      omega
    · have := Int.mul_le_mul_of_nonneg_left t (show 0 ≤ st by omega)
      omega
/-- the samples of a box -/
def box (st rx ry : Int) (lo hi : P) : List P := (ups (fst lo.2 ry st) st hi.2).flatMap fun y => (ups (fst lo.1 rx st) st hi.1).map fun x => (x, y)
theorem box_mem {st rx ry : Int} {lo hi p : P} (hs : 1 ≤ st) : p ∈ box st rx ry lo hi ↔ (lo.1 ≤ p.1 ∧ p.1 ≤ hi.1 ∧ (p.1 - rx) % st = 0) ∧ (lo.2 ≤ p.2 ∧ p.2 ≤ hi.2 ∧ (p.2 - ry) % st = 0) := by
  unfold box
  rw [rows_mem (xs := fun _ => ups (fst lo.1 rx st) st hi.1), fst_mem hs, fst_mem hs]
  exact ⟨fun ⟨a, b⟩ => ⟨b, a⟩, fun ⟨a, b⟩ => ⟨b, a⟩⟩
theorem nodup_len {α : Type} [DecidableEq α] : ∀ {l l' : List α}, l.Nodup → (∀ x ∈ l, x ∈ l') → l.length ≤ l'.length
  | [], _, _, _ => Nat.zero_le _
  | a :: l, l', h, k => by
    obtain ⟨h1, h2⟩ := List.nodup_cons.mp h
    have ha := k a List.mem_cons_self
    have ih := nodup_len (l := l) (l' := l'.erase a) h2 fun x hx => by
      have hne : x ≠ a := fun e => h1 (e ▸ hx)
      exact (List.mem_erase_of_ne hne).mpr (k x (List.mem_cons_of_mem _ hx))
    rw [List.length_erase_of_mem ha] at ih
    have := List.length_pos_of_mem ha
    rw [List.length_cons]
    omega
theorem rows_len {xs : List Int} : ∀ {ys : List Int}, (ys.flatMap fun y => xs.map fun x => ((x, y) : P)).length = ys.length * xs.length
  | [] => by simp
  | y :: ys => by
    rw [List.flatMap_cons, List.length_append, rows_len, List.length_map, List.length_cons, Nat.add_mul, Nat.one_mul, Nat.add_comm]
theorem ups_len {a st h : Int} (hs : 1 ≤ st) {n : Nat} (hn : h - a < n) : (ups a st h).length ≤ n := by
  unfold ups
  rw [List.length_map, List.length_range]
  by_cases c : 0 ≤ h - a
  · have h1 := Int.ediv_le_self st c
    omega
  · have : (h - a) / st < 0 := by
      rw [Int.ediv_lt_iff_lt_mul (by omega)]
      omega
    omega
theorem box_len {st rx ry : Int} {lo hi : P} (hs : 1 ≤ st) {n m : Nat} (hn : hi.1 - lo.1 < n) (hm : hi.2 - lo.2 < m) : (box st rx ry lo hi).length ≤ m * n := by
  unfold box
  rw [rows_len]
  have f1 : ∀ a r, a ≤ fst a r st := fun a r => by
    unfold fst
    have := Int.emod_nonneg (r - a) (show st ≠ 0 by omega)
    omega
  exact Nat.mul_le_mul (ups_len hs (by have := f1 lo.2 ry; omega)) (ups_len hs (by have := f1 lo.1 rx; omega))
end SP

set_option linter.all false
set_option maxRecDepth 100000
set_option autoImplicit false
namespace SA
end SA

set_option Elab.async false
set_option linter.all false
set_option maxRecDepth 100000
set_option maxHeartbeats 4000000
set_option autoImplicit false
/-! Samples moved, stretched and put together. -/
namespace SA
section
variable {m : Int}
end
end SA
namespace SP
open SA
/-- what lies in a box is few -/
theorem few {l : List P} {lo hi : P} {n m : Nat} (h : Canon l) (hb : ∀ p ∈ l, lo.1 ≤ p.1 ∧ p.1 ≤ hi.1 ∧ lo.2 ≤ p.2 ∧ p.2 ≤ hi.2) (hn : hi.1 - lo.1 < n) (hm : hi.2 - lo.2 < m) : l.length ≤ m * n := by
  refine Nat.le_trans (nodup_len (canon_nodup h) (l' := box 1 0 0 lo hi) fun x hx => ?_) (box_len (by decide) hn hm)
  have := hb x hx
  exact (box_mem (by decide)).mpr ⟨⟨this.1, this.2.1, by omega⟩, this.2.2.1, this.2.2.2, by omega⟩
end SP

set_option Elab.async false
set_option linter.all false
set_option maxRecDepth 100000
set_option maxHeartbeats 4000000
set_option autoImplicit false
/-! Turns: what a way adds; the ways of a triangle add what it owns. -/
namespace SA
theorem lex_ge {S F G N : Int} (hN : F.natAbs + G.natAbs + 1 ≤ N) (hS : 1 ≤ S) : 0 < N * N * S + N * F + G := by
  have n0 : 0 ≤ N := by omega
  have h1 : N * N * 1 ≤ N * N * S := Int.mul_le_mul_of_nonneg_left hS (Int.mul_nonneg n0 n0)
  have h2 : N * (F.natAbs + G.natAbs + 1) ≤ N * N := Int.mul_le_mul_of_nonneg_left hN n0
  have h3 : N * (-(F.natAbs : Int)) ≤ N * F := Int.mul_le_mul_of_nonneg_left (by omega) n0
  have h4 : 1 * (G.natAbs : Int) ≤ N * G.natAbs := Int.mul_le_mul_of_nonneg_right (by omega) (by omega)
  rw [Int.mul_add, Int.mul_add, Int.mul_one] at h2
  rw [Int.mul_neg] at h3
  omega
theorem lex_f {F G N : Int} (hN : F.natAbs + G.natAbs + 1 ≤ N) (hF : 1 ≤ F) : 0 < N * F + G := by
  have h1 : N * 1 ≤ N * F := Int.mul_le_mul_of_nonneg_left hF (by omega)
  omega
def lexP (S F G : Int) : Bool := decide (0 < S) || (decide (S = 0) && (decide (0 < F) || (decide (F = 0) && decide (0 < G))))
theorem lex_pos {S F G N : Int} (hN : F.natAbs + G.natAbs + 1 ≤ N) (h : lexP S F G = true) : 0 < N * N * S + N * F + G := by
  unfold lexP at h
  simp only [Bool.or_eq_true, Bool.and_eq_true, decide_eq_true_iff] at h
  rcases h with h | ⟨h, h2⟩
  · exact lex_ge hN h
  · subst h
    rw [Int.mul_zero, Int.zero_add]
    rcases h2 with h2 | ⟨h2, h3⟩
    · exact lex_f hN h2
    · subst h2
      rw [Int.mul_zero]
      omega
theorem lex_neg {S F G N : Int} (hN : F.natAbs + G.natAbs + 1 ≤ N) (nz : ¬ (S = 0 ∧ F = 0 ∧ G = 0)) (h : lexP S F G = false) : N * N * S + N * F + G < 0 := by
  have e : lexP (-S) (-F) (-G) = true := by
    unfold lexP at h ⊢
    simp only [Bool.or_eq_true, Bool.and_eq_true, decide_eq_true_iff, Bool.or_eq_false_iff, Bool.and_eq_false_iff, decide_eq_false_iff_not] at h ⊢
    omega
  have := lex_pos (N := N) (by omega) e
  rw [Int.mul_neg, Int.mul_neg] at this
  omega
/-- the two shifts of a half, as told by an edge's direction d -/
def gF (w d : P) : Int := cr w d
def gG (w : P) (ah : Bool) (d : P) : Int := if ah then d.1 * w.1 + d.2 * w.2 else -(d.1 * w.1 + d.2 * w.2)
def left (w : P) (ah : Bool) (a b p : P) : Bool := decide (0 < sd a b p) || (decide (sd a b p = 0) && hf w ah (sb b a))
theorem hf_lex {w d : P} {ah : Bool} (hw : w ≠ O) (hd : d ≠ O) : hf w ah d = (decide (0 < gF w d) || (decide (gF w d = 0) && decide (0 < gG w ah d))) := by
  unfold hf gF gG
  by_cases c : cr w d = 0
  · have := dot_nz hw hd c
    rw [if_neg (by omega), c]
    generalize d.1 * w.1 + d.2 * w.2 = x at this
    cases ah
    · by_cases x0 : 0 < x
      · simp [x0]; omega
      · simp [x0]; omega
    · by_cases x0 : 0 < x
      · simp [x0]
      · simp [x0]
  · rw [if_pos c]
    simp [c]
theorem left_lex {w a b p : P} {ah : Bool} (hw : w ≠ O) (hd : sb b a ≠ O) : left w ah a b p = lexP (sd a b p) (gF w (sb b a)) (gG w ah (sb b a)) := by
  unfold left lexP
  rw [hf_lex hw hd]
/-- the moved point, all seen greater -/
def up1 (w : P) : P := (-w.1, -w.2)
def up2 (w : P) (ah : Bool) : P := if ah then (-w.2, w.1) else (w.2, -w.1)
def big (N : Int) (a : P) : P := (N * N * a.1, N * N * a.2)
def bigP (w : P) (ah : Bool) (N : Int) (p : P) : P := (N * N * p.1 + N * (up1 w).1 + (up2 w ah).1, N * N * p.2 + N * (up1 w).2 + (up2 w ah).2)
theorem sd_big {w a b p : P} {ah : Bool} {N : Int} : sd (big N a) (big N b) (bigP w ah N p) = (N * N) * (N * N * sd a b p + N * gF w (sb b a) + gG w ah (sb b a)) := by
  unfold sd big bigP gF gG cr sb up1 up2
  cases ah <;> simp only [if_true, if_false, Bool.false_eq_true] <;> grind
def below (w : P) (ah : Bool) (a p : P) : Bool := decide (a.2 < p.2) || (decide (a.2 = p.2) && (decide (0 < (up1 w).2) || (decide ((up1 w).2 = 0) && decide (0 < (up2 w ah).2))))
theorem below_lex {w a p : P} {ah : Bool} : below w ah a p = lexP (p.2 - a.2) (up1 w).2 (up2 w ah).2 := by
  unfold below lexP
  congr 1
  · congr 1
    apply propext
    omega
  · congr 1
    congr 1
    apply propext
    omega
theorem y_big {w a p : P} {ah : Bool} {N : Int} : (bigP w ah N p).2 - (big N a).2 = N * N * (p.2 - a.2) + N * (up1 w).2 + (up2 w ah).2 := by
  unfold big bigP
  simp only
  grind
theorem gG_nz {w d : P} {ah : Bool} (hw : w ≠ O) (hd : d ≠ O) : ¬ (gF w d = 0 ∧ gG w ah d = 0) := by
  rintro ⟨h1, h2⟩
  have := dot_nz hw hd h1
  unfold gG at h2
  cases ah <;> simp at h2 <;> omega
theorem up_nz {w : P} {ah : Bool} (hw : w ≠ O) : ¬ ((up1 w).2 = 0 ∧ (up2 w ah).2 = 0) := by
  rw [nz] at hw
  unfold up1 up2
  cases ah <;> simp <;> omega
/-- signs at a great N -/
theorem sd_pos {w a b p : P} {ah : Bool} {N : Int} (hw : w ≠ O) (hd : sb b a ≠ O) (hN : (gF w (sb b a)).natAbs + (gG w ah (sb b a)).natAbs + 1 ≤ N) : (left w ah a b p = true → 0 < sd (big N a) (big N b) (bigP w ah N p)) ∧ (left w ah a b p = false → sd (big N a) (big N b) (bigP w ah N p) < 0) := by
  have n0 : 0 < N * N := Int.mul_pos (by omega) (by omega)
  rw [sd_big, left_lex hw hd]
  constructor
  · intro h
    exact Int.mul_pos n0 (lex_pos hN h)
  · intro h
    exact Int.mul_neg_of_pos_of_neg n0 (lex_neg hN (fun z => gG_nz hw hd ⟨z.2.1, z.2.2⟩) h)
theorem y_pos {w a p : P} {ah : Bool} {N : Int} (hw : w ≠ O) (hN : ((up1 w).2).natAbs + ((up2 w ah).2).natAbs + 1 ≤ N) : (below w ah a p = true → 0 < (bigP w ah N p).2 - (big N a).2) ∧ (below w ah a p = false → (bigP w ah N p).2 - (big N a).2 < 0) := by
  rw [y_big, below_lex]
  exact ⟨fun h => lex_pos hN h, fun h => lex_neg hN (fun z => up_nz hw ⟨z.2.1, z.2.2⟩) h⟩
/-- what a way adds to the turns around a point -/
def way (w : P) (ah : Bool) (p a b : P) : Int := if below w ah a p == below w ah b p then 0 else (if below w ah a p && left w ah a b p then 1 else 0) - (if below w ah b p && !left w ah a b p then 1 else 0)
def wayB (ba bb l : Bool) : Int := if ba == bb then 0 else (if ba && l then 1 else 0) - (if bb && !l then 1 else 0)
theorem way_eq {w p a b : P} {ah : Bool} : way w ah p a b = wayB (below w ah a p) (below w ah b p) (left w ah a b p) := rfl
def sgn (b : Bool) (x : Int) : Prop := (b = true → 0 < x) ∧ (b = false → x < 0)
theorem sgn_mul {b c : Bool} {x y : Int} (h1 : sgn b x) (h2 : sgn c y) : (b = c → 0 < x * y) ∧ (b ≠ c → x * y < 0) := by
  cases b <;> cases c
  · exact ⟨fun _ => Int.mul_pos_of_neg_of_neg (h1.2 rfl) (h2.2 rfl), fun h => absurd rfl h⟩
  · exact ⟨fun h => (nomatch h), fun _ => Int.mul_neg_of_neg_of_pos (h1.2 rfl) (h2.1 rfl)⟩
  · exact ⟨fun h => (nomatch h), fun _ => Int.mul_neg_of_pos_of_neg (h1.1 rfl) (h2.2 rfl)⟩
  · exact ⟨fun _ => Int.mul_pos (h1.1 rfl) (h2.1 rfl), fun h => absurd rfl h⟩
theorem signs {l1 l2 l3 b1 b2 b3 : Bool} {s1 s2 s3 y1 y2 y3 : Int} (h1 : sgn l1 s1) (h2 : sgn l2 s2) (h3 : sgn l3 s3) (k1 : sgn b1 y1) (k2 : sgn b2 y2) (k3 : sgn b3 y3) (sum : 0 < s1 + s2 + s3) (bary : s2 * y1 + s3 * y2 + s1 * y3 = 0) :
    wayB b1 b2 l1 + wayB b2 b3 l2 + wayB b3 b1 l3 = if l1 && (l2 && l3) then 1 else 0 := by
  have p1 := sgn_mul h2 k1
  have p2 := sgn_mul h3 k2
  have p3 := sgn_mul h1 k3
  unfold sgn at h1 h2 h3
  generalize s2 * y1 = q1 at *
  generalize s3 * y2 = q2 at *
  generalize s1 * y3 = q3 at *
  clear k1 k2 k3
  cases l1 <;> cases l2 <;> cases l3 <;> cases b1 <;> cases b2 <;> cases b3 <;> first | decide | (exfalso; simp at p1 p2 p3 h1 h2 h3; omega)
theorem sum_sd (a b c p : P) : sd a b p + sd b c p + sd c a p = sd a b c := by unfold sd; grind
theorem bary_y (a b c p : P) : sd b c p * (p.2 - a.2) + sd c a p * (p.2 - b.2) + sd a b p * (p.2 - c.2) = 0 := by unfold sd; grind
theorem big_sd {N : Int} {a b c : P} : sd (big N a) (big N b) (big N c) = (N * N) * (N * N) * sd a b c := by unfold sd big; simp only; grind
/-- the ways of a triangle against the clock add up to what it owns -/
theorem tri_ways {w p : P} {ah : Bool} (hw : w ≠ O) {t : T3} (g : Good t) : way w ah p t.a t.b + way w ah p t.b t.c + way w ah p t.c t.a = if own (hf w ah) t p then 1 else 0 := by
  obtain ⟨a, b, c⟩ := t
  unfold Good at g
  simp only at g
  obtain ⟨n1, n2, n3⟩ := sd_ne g
  obtain ⟨N, hN⟩ : ∃ N : Int, N = (gF w (sb b a)).natAbs + (gG w ah (sb b a)).natAbs + (gF w (sb c b)).natAbs + (gG w ah (sb c b)).natAbs + (gF w (sb a c)).natAbs + (gG w ah (sb a c)).natAbs + ((up1 w).2).natAbs + ((up2 w ah).2).natAbs + 1 := ⟨_, rfl⟩
  have h1 : sgn (left w ah a b p) (sd (big N a) (big N b) (bigP w ah N p)) := sd_pos hw n1 (by omega)
  have h2 : sgn (left w ah b c p) (sd (big N b) (big N c) (bigP w ah N p)) := sd_pos hw n2 (by omega)
  have h3 : sgn (left w ah c a p) (sd (big N c) (big N a) (bigP w ah N p)) := sd_pos hw n3 (by omega)
  have k1 : sgn (below w ah a p) ((bigP w ah N p).2 - (big N a).2) := y_pos hw (by omega)
  have k2 : sgn (below w ah b p) ((bigP w ah N p).2 - (big N b).2) := y_pos hw (by omega)
  have k3 : sgn (below w ah c p) ((bigP w ah N p).2 - (big N c).2) := y_pos hw (by omega)
  have n0 : 0 < N * N := Int.mul_pos (by omega) (by omega)
  have sum : 0 < sd (big N a) (big N b) (bigP w ah N p) + sd (big N b) (big N c) (bigP w ah N p) + sd (big N c) (big N a) (bigP w ah N p) := by
    rw [sum_sd, big_sd]
    exact Int.mul_pos (Int.mul_pos n0 n0) g
  have := signs h1 h2 h3 k1 k2 k3 sum (bary_y _ _ _ _)
  simp only [way_eq]
  exact this
theorem left_swap {w a b p : P} {ah : Bool} (hw : w ≠ O) (hab : sb b a ≠ O) : left w ah b a p = !left w ah a b p := by
  have e : sd b a p = - sd a b p := by unfold sd; grind
  have e2 : sb a b = neg (sb b a) := sub_neg a b
  unfold left
  rw [e, e2, (hf_hp hw).opp _ hab]
  generalize hf w ah (sb b a) = r
  by_cases c : sd a b p = 0
  · simp [c]
  · by_cases c2 : 0 < sd a b p
    · have h1 : ¬ (0 < - sd a b p) := by omega
      simp [c2, c, h1]
      omega
    · have h1 : 0 < - sd a b p := by omega
      simp [c2, c, h1]
      omega
theorem way_swap {w p a b : P} {ah : Bool} (hw : w ≠ O) : way w ah p b a = - way w ah p a b := by
  rw [way_eq, way_eq]
  by_cases c : sb b a = O
  · have e : a = b := by
      unfold sb O at c
      have c1 := congrArg (fun z : P => z.1) c
      have c2 := congrArg (fun z : P => z.2) c
      simp only at c1 c2
      exact Prod.ext (by omega) (by omega)
    subst e
    unfold wayB
    cases below w ah a p <;> rfl
  · rw [left_swap hw c]
    generalize below w ah a p = x
    generalize below w ah b p = y
    generalize left w ah a b p = l
    cases x <;> cases y <;> cases l <;> decide
theorem signs0 {l1 l2 l3 b1 b2 b3 : Bool} {s1 s2 s3 y1 y2 y3 : Int} (h1 : sgn l1 s1) (h2 : sgn l2 s2) (h3 : sgn l3 s3) (k1 : sgn b1 y1) (k2 : sgn b2 y2) (k3 : sgn b3 y3) (sum : s1 + s2 + s3 = 0) (bary : s2 * y1 + s3 * y2 + s1 * y3 = 0) :
    wayB b1 b2 l1 + wayB b2 b3 l2 + wayB b3 b1 l3 = 0 := by
  have p1 := sgn_mul h2 k1
  have p2 := sgn_mul h3 k2
  have p3 := sgn_mul h1 k3
  unfold sgn at h1 h2 h3
  generalize s2 * y1 = q1 at *
  generalize s3 * y2 = q2 at *
  generalize s1 * y3 = q3 at *
  clear k1 k2 k3
  cases l1 <;> cases l2 <;> cases l3 <;> cases b1 <;> cases b2 <;> cases b3 <;> first | decide | (exfalso; simp at p1 p2 p3 h1 h2 h3; omega)
theorem sb_zero {a b : P} (h : sb b a = O) : a = b := by
  unfold sb O at h
  have c1 := congrArg (fun z : P => z.1) h
  have c2 := congrArg (fun z : P => z.2) h
  simp only at c1 c2
  exact Prod.ext (by omega) (by omega)
theorem way_self {w p a : P} {ah : Bool} : way w ah p a a = 0 := by
  rw [way_eq]
  unfold wayB
  cases below w ah a p <;> rfl
/-- a flat triple adds nothing -/
theorem flat_ways {w p a b c : P} {ah : Bool} (hw : w ≠ O) (g : sd a b c = 0) : way w ah p a b + way w ah p b c + way w ah p c a = 0 := by
  by_cases n1 : sb b a = O
  · rw [sb_zero n1, way_self, way_swap hw (a := b) (b := c)]
    omega
  by_cases n2 : sb c b = O
  · rw [sb_zero n2, way_self, way_swap hw (a := a) (b := c)]
    omega
  by_cases n3 : sb a c = O
  · rw [sb_zero n3, way_self, way_swap hw (a := a) (b := b)]
    omega
  obtain ⟨N, hN⟩ : ∃ N : Int, N = (gF w (sb b a)).natAbs + (gG w ah (sb b a)).natAbs + (gF w (sb c b)).natAbs + (gG w ah (sb c b)).natAbs + (gF w (sb a c)).natAbs + (gG w ah (sb a c)).natAbs + ((up1 w).2).natAbs + ((up2 w ah).2).natAbs + 1 := ⟨_, rfl⟩
  have h1 : sgn (left w ah a b p) (sd (big N a) (big N b) (bigP w ah N p)) := sd_pos hw n1 (by omega)
  have h2 : sgn (left w ah b c p) (sd (big N b) (big N c) (bigP w ah N p)) := sd_pos hw n2 (by omega)
  have h3 : sgn (left w ah c a p) (sd (big N c) (big N a) (bigP w ah N p)) := sd_pos hw n3 (by omega)
  have k1 : sgn (below w ah a p) ((bigP w ah N p).2 - (big N a).2) := y_pos hw (by omega)
  have k2 : sgn (below w ah b p) ((bigP w ah N p).2 - (big N b).2) := y_pos hw (by omega)
  have k3 : sgn (below w ah c p) ((bigP w ah N p).2 - (big N c).2) := y_pos hw (by omega)
  have sum : sd (big N a) (big N b) (bigP w ah N p) + sd (big N b) (big N c) (bigP w ah N p) + sd (big N c) (big N a) (bigP w ah N p) = 0 := by
    rw [sum_sd, big_sd, g, Int.mul_zero]
  have := signs0 h1 h2 h3 k1 k2 k3 sum (bary_y _ _ _ _)
  simp only [way_eq]
  exact this
/-- any triple: against the clock what it owns, with it what it owns turned over, taken away -/
def ahead (w : P) (ah : Bool) (a b c p : P) : Bool := decide (0 < sd a b c) && own (hf w ah) ⟨a, b, c⟩ p
def back (w : P) (ah : Bool) (a b c p : P) : Bool := decide (sd a b c < 0) && own (hf w ah) ⟨a, c, b⟩ p
theorem any_ways {w p a b c : P} {ah : Bool} (hw : w ≠ O) : way w ah p a b + way w ah p b c + way w ah p c a = (if ahead w ah a b c p then 1 else 0) - (if back w ah a b c p then 1 else 0) := by
  unfold ahead back
  rcases Int.lt_trichotomy (sd a b c) 0 with h | h | h
  · have g : Good ⟨a, c, b⟩ := by
      unfold Good
      simp only
      have : sd a c b = - sd a b c := by unfold sd; grind
      omega
    have e := tri_ways (p := p) (ah := ah) hw g
    simp only at e
    rw [way_swap hw (a := b) (b := a), way_swap hw (a := c) (b := b), way_swap hw (a := a) (b := c)]
    rw [decide_eq_false (by omega), decide_eq_true h, Bool.false_and, Bool.true_and]
    rw [← e]
    simp only [Bool.false_eq_true, if_false]
    omega
  · rw [flat_ways hw h, decide_eq_false (by omega), decide_eq_false (by omega), Bool.false_and, Bool.false_and]
    rfl
  · have e := tri_ways (p := p) (ah := ah) hw (t := ⟨a, b, c⟩) h
    simp only at e
    rw [e, decide_eq_true h, decide_eq_false (by omega), Bool.true_and, Bool.false_and]
    simp only [Bool.false_eq_true, if_false]
    omega
end SA

set_option Elab.async false
set_option linter.all false
set_option maxRecDepth 100000
set_option maxHeartbeats 4000000
set_option autoImplicit false
/-! Turned and moved planes; sums of ways of rims and rings. -/
namespace SA
/-- a map of the plane that keeps sides; L: what it does to directions -/
structure Iso (φ L : P → P) : Prop where
  sd : ∀ a b p, sd (φ a) (φ b) (φ p) = sd a b p
  sb : ∀ a b, sb (φ a) (φ b) = L (sb a b)
  inj : ∀ a b, φ a = φ b ↔ a = b
  lw : ∀ d e, d ≠ O → e ≠ O → (lw (L d) = lw (L e) ↔ lw d = lw e)
def mT (φ : P → P) (t : T3) : T3 := ⟨φ t.a, φ t.b, φ t.c⟩
section
variable {φ L : P → P} {R R' : P → Bool}
theorem Iso.own (I : Iso φ L) (h : ∀ d, R' (L d) = R d) (t : T3) (p : P) : own R' (mT φ t) (φ p) = own R t p := by
  unfold SA.own wOwn mT
  simp only [I.sd, I.sb, h]
theorem Iso.rt (I : Iso φ L) {x y z : P} (h : Rt x y z) : Rt (φ x) (φ y) (φ z) := by
  unfold Rt at *
  rw [I.sd]
  exact h
theorem Iso.ed (I : Iso φ L) {a c e p q r : P} (h : Ed a c e p q r) : Ed (φ a) (φ c) (φ e) (φ p) (φ q) (φ r) := by
  rcases h with ⟨h1, h2, h3⟩ | ⟨h1, h2, h3⟩ | ⟨h1, h2, h3⟩
  · exact .inl ⟨I.rt h1, I.rt h2, I.rt h3⟩
  · exact .inr (.inl ⟨I.rt h1, I.rt h2, I.rt h3⟩)
  · exact .inr (.inr ⟨I.rt h1, I.rt h2, I.rt h3⟩)
def L2w (L : P → P) (w : P × P) : P × P := (L w.1, L w.2)
theorem Iso.wedge (I : Iso φ L) (t : T3) (p : P) : wedge (mT φ t) (φ p) = (wedge t p).map fun o => o.map (L2w L) := by
  unfold SA.wedge mT
  simp only [I.sd, I.sb, I.inj]
  repeat' split
  all_goals rfl
theorem Iso.wds (I : Iso φ L) (ts : List T3) (p : P) : wds (ts.map (mT φ)) (φ p) = (wds ts p).map (L2w L) := by
  unfold SA.wds
  rw [List.filterMap_map, List.map_filterMap]
  congr 1
  funext t
  simp only [Function.comp]
  rw [I.wedge]
  cases SA.wedge t p with
  | none => rfl
  | some o => cases o <;> rfl
theorem wds_nz {ts : List T3} (hg : ∀ t ∈ ts, Good t) {p : P} : ∀ w ∈ wds ts p, w.1 ≠ O ∧ w.2 ≠ O := fun w hw => by
  obtain ⟨t, ht, e⟩ := mem_wds.mp hw
  have := wedge_own (hf_hp (w := (1, 0)) (ah := true) (by decide)) (hg t ht) (p := p)
  rw [e] at this
  exact this.2.nz
theorem Iso.insB (I : Iso φ L) {ts : List T3} (hg : ∀ t ∈ ts, Good t) (p : P) : insB (ts.map (mT φ)) (φ p) = insB ts p := by
  have e1 : ∀ t : T3, decide (SA.wedge (mT φ t) (φ p) = some none) = decide (SA.wedge t p = some none) := fun t => by
    rw [I.wedge]
    cases SA.wedge t p with
    | none => rfl
    | some o => cases o <;> simp
  unfold SA.insB
  rw [I.wds, List.any_map]
  congr 1
  · congr 1
    funext t
    exact e1 t
  · congr 1
    · cases SA.wds ts p <;> rfl
    · rw [List.all_map]
      have nz := wds_nz hg (p := p)
      generalize SA.wds ts p = ws at nz
      rw [Bool.eq_iff_iff, List.all_eq_true, List.all_eq_true]
      constructor
      · intro h w hw
        obtain ⟨w', hw', e⟩ := List.any_eq_true.mp (h w hw)
        obtain ⟨w0, h0, rfl⟩ := List.mem_map.mp hw'
        exact List.any_eq_true.mpr ⟨w0, h0, decide_eq_true ((I.lw _ _ (nz w0 h0).1 (nz w hw).2).mp (of_decide_eq_true e))⟩
      · intro h w hw
        obtain ⟨w', hw', e⟩ := List.any_eq_true.mp (h w hw)
        exact List.any_eq_true.mpr ⟨L2w L w', List.mem_map.mpr ⟨w', hw', rfl⟩, decide_eq_true ((I.lw _ _ (nz w' hw').1 (nz w hw).2).mpr (of_decide_eq_true e))⟩
theorem Iso.ahead (I : Iso φ L) {w w' : P} {ah : Bool} (h : ∀ d, hf w' ah (L d) = hf w ah d) (a b c p : P) : ahead w' ah (φ a) (φ b) (φ c) (φ p) = ahead w ah a b c p := by
  unfold SA.ahead
  rw [I.sd]
  have := I.own h ⟨a, b, c⟩ p
  unfold mT at this
  rw [this]
theorem Iso.back (I : Iso φ L) {w w' : P} {ah : Bool} (h : ∀ d, hf w' ah (L d) = hf w ah d) (a b c p : P) : back w' ah (φ a) (φ b) (φ c) (φ p) = back w ah a b c p := by
  unfold SA.back
  rw [I.sd]
  have := I.own h ⟨a, c, b⟩ p
  unfold mT at this
  rw [this]
end
/-! ### a quarter turn, a move, a half turn -/
def qt (p : P) : P := (-p.2, p.1)
/-! ### sums of ways -/
/-- the sum of a function over ways -/
def sumW (c : P → P → Int) (ws : List (P × P)) : Int := (ws.map fun x => c x.1 x.2).sum
theorem sumW_app (c : P → P → Int) (a b : List (P × P)) : sumW c (a ++ b) = sumW c a + sumW c b := by
  unfold sumW
  rw [List.map_append, List.sum_append]
theorem sumW_cons (c : P → P → Int) (x : P × P) (l : List (P × P)) : sumW c (x :: l) = c x.1 x.2 + sumW c l := by
  unfold sumW
  rw [List.map_cons, List.sum_cons]
/-- by indexes -/
def sumI (c : Nat → Nat → Int) (ws : List (Nat × Nat)) : Int := (ws.map fun x => c x.1 x.2).sum
theorem sumI_app (c : Nat → Nat → Int) (a b : List (Nat × Nat)) : sumI c (a ++ b) = sumI c a + sumI c b := by
  unfold sumI
  rw [List.map_append, List.sum_append]
theorem sumI_cons (c : Nat → Nat → Int) (x : Nat × Nat) (l : List (Nat × Nat)) : sumI c (x :: l) = c x.1 x.2 + sumI c l := by
  unfold sumI
  rw [List.map_cons, List.sum_cons]
theorem sumI_perm {c : Nat → Nat → Int} {a b : List (Nat × Nat)} (h : a.Perm b) : sumI c a = sumI c b := by
  induction h with
  | nil => rfl
  | cons x _ ih => rw [sumI_cons, sumI_cons, ih]
  | swap x y l =>
    rw [sumI_cons, sumI_cons, sumI_cons, sumI_cons]
    omega
  | trans _ _ h1 h2 => exact h1.trans h2
theorem sumI_erase (c : Nat → Nat → Int) {x : Nat × Nat} : ∀ {l : List (Nat × Nat)}, x ∈ l → sumI c (l.erase x) = sumI c l - c x.1 x.2
  | y :: l, h => by
    by_cases e : y = x
    · subst e
      rw [List.erase_cons_head, sumI_cons]
      omega
    · rw [List.erase_cons_tail (by simpa using e), sumI_cons, sumI_cons]
      have hx : x ∈ l := by
        rcases List.mem_cons.mp h with h | h
        · exact absurd h.symm e
        · exact h
      rw [sumI_erase c hx]
      omega
/-- one way of a rim: its back is taken away, or it is put behind -/
def rimStep (found : List (Nat × Nat)) (x : Nat × Nat) : List (Nat × Nat) := if (x.2, x.1) ∈ found then found.erase (x.2, x.1) else found ++ [x]
theorem sum_rimStep {c : Nat → Nat → Int} (anti : ∀ i j, c j i = - c i j) (found : List (Nat × Nat)) (x : Nat × Nat) : sumI c (rimStep found x) = sumI c found + c x.1 x.2 := by
  unfold rimStep
  by_cases h : (x.2, x.1) ∈ found
  · rw [if_pos h, sumI_erase c h]
    have := anti x.1 x.2
    simp only
    omega
  · rw [if_neg h, sumI_app, sumI_cons]
    show _ + (_ + 0) = _
    omega
theorem sum_rim {c : Nat → Nat → Int} (anti : ∀ i j, c j i = - c i j) : ∀ (ws found : List (Nat × Nat)), sumI c (ws.foldl rimStep found) = sumI c found + sumI c ws
  | [], found => by
    show _ = _ + 0
    rw [Int.add_zero]
    rfl
  | x :: ws, found => by
    rw [List.foldl_cons, sum_rim anti ws, sum_rimStep anti, sumI_cons]
    omega
end SA

set_option Elab.async false
set_option linter.all false
set_option maxRecDepth 100000
set_option maxHeartbeats 4000000
set_option autoImplicit false
/-! Rims and rings of turned planes; tables turned by a quarter. -/
namespace SA
def triW (t : Nat × Nat × Nat) : List (Nat × Nat) := [(t.1, t.2.1), (t.2.1, t.2.2), (t.2.2, t.1)]
def rimL (tr : List (Nat × Nat × Nat)) : List (Nat × Nat) := (tr.flatMap triW).foldl rimStep []
theorem rimStep_len (found : List (Nat × Nat)) (x : Nat × Nat) : (rimStep found x).length ≤ found.length + 1 := by
  unfold rimStep
  split
  · have := List.length_erase_le (a := (x.2, x.1)) (l := found)
    omega
  · rw [List.length_append, List.length_singleton]
    omega
theorem rim_len : ∀ (ws found : List (Nat × Nat)), (ws.foldl rimStep found).length ≤ found.length + ws.length
  | [], found => by simp
  | x :: ws, found => by
    rw [List.foldl_cons, List.length_cons]
    have h1 := rim_len ws (rimStep found x)
    have h2 := rimStep_len found x
    omega
theorem rimStep_mem {found : List (Nat × Nat)} {x y : Nat × Nat} (h : y ∈ rimStep found x) : y ∈ found ∨ y = x := by
  unfold rimStep at h
  split at h
  · exact .inl (List.mem_of_mem_erase h)
  · rcases List.mem_append.mp h with h | h
    · exact .inl h
    · exact .inr (List.mem_singleton.mp h)
theorem rim_mem {y : Nat × Nat} : ∀ {ws found : List (Nat × Nat)}, y ∈ ws.foldl rimStep found → y ∈ found ∨ y ∈ ws
  | [], found, h => .inl h
  | x :: ws, found, h => by
    rw [List.foldl_cons] at h
    rcases rim_mem h with h | h
    · rcases rimStep_mem h with h | h
      · exact .inl h
      · exact .inr (by rw [h]; exact List.mem_cons_self)
    · exact .inr (List.mem_cons_of_mem _ h)
theorem triW_len (tr : List (Nat × Nat × Nat)) : (tr.flatMap triW).length = 3 * tr.length := by
  induction tr with
  | nil => rfl
  | cons t tr ih =>
    rw [List.flatMap_cons, List.length_append, ih, List.length_cons]
    show 3 + _ = _
    omega
theorem rimL_len (tr : List (Nat × Nat × Nat)) : (rimL tr).length ≤ 3 * tr.length := by
  have := rim_len (tr.flatMap triW) []
  rw [triW_len] at this
  unfold rimL
  simpa using this
theorem rimL_mem {tr : List (Nat × Nat × Nat)} {n : Nat} (h : ∀ t ∈ tr, t.1 < n ∧ t.2.1 < n ∧ t.2.2 < n) : ∀ y ∈ rimL tr, y.1 < n ∧ y.2 < n := fun y hy => by
  rcases rim_mem hy with hy | hy
  · cases hy
  · obtain ⟨t, ht, q⟩ := List.mem_flatMap.mp hy
    have := h t ht
    unfold triW at q
    simp only [List.mem_cons, List.not_mem_nil, or_false] at q
    rcases q with rfl | rfl | rfl
    · exact ⟨this.1, this.2.1⟩
    · exact ⟨this.2.1, this.2.2⟩
    · exact ⟨this.2.2, this.1⟩
def aheadN (w : P) (ah : Bool) (f : Nat → P) (tr : List (Nat × Nat × Nat)) (p : P) : Nat := tr.countP fun t => ahead w ah (f t.1) (f t.2.1) (f t.2.2) p
def backN (w : P) (ah : Bool) (f : Nat → P) (tr : List (Nat × Nat × Nat)) (p : P) : Nat := tr.countP fun t => back w ah (f t.1) (f t.2.1) (f t.2.2) p
theorem rim_sum {w p : P} {ah : Bool} (hw : w ≠ O) (f : Nat → P) (tr : List (Nat × Nat × Nat)) : sumI (fun i j => way w ah p (f i) (f j)) (rimL tr) = (aheadN w ah f tr p : Int) - (backN w ah f tr p : Int) := by
  unfold rimL
  rw [sum_rim fun i j => way_swap hw]
  have z : sumI (fun i j => way w ah p (f i) (f j)) [] = 0 := rfl
  rw [z, Int.zero_add]
  unfold aheadN backN
  induction tr with
  | nil => rfl
  | cons t tr ih =>
    rw [List.flatMap_cons, sumI_app, ih, List.countP_cons, List.countP_cons]
    have e : sumI (fun i j => way w ah p (f i) (f j)) (triW t) = way w ah p (f t.1) (f t.2.1) + (way w ah p (f t.2.1) (f t.2.2) + (way w ah p (f t.2.2) (f t.1) + 0)) := rfl
    have a := any_ways hw (a := f t.1) (b := f t.2.1) (c := f t.2.2) (p := p) (ah := ah)
    rw [e]
    split at a <;> split at a <;> simp_all <;> omega
section
variable {φ L : P → P} {w w' p : P} {ah : Bool}
end
def tq (d : P) : P := (d.2, -d.1)
end SA

set_option Elab.async false
set_option linter.all false
set_option maxRecDepth 100000
set_option maxHeartbeats 4000000
set_option autoImplicit false
/-! Triangles cut; right rules. -/
namespace SA
end SA

set_option Elab.async false
set_option linter.all false
set_option maxRecDepth 100000
set_option maxHeartbeats 4000000
set_option autoImplicit false
/-! Sums along closed paths: rings turned round, joined, there and back; triangles and fields as rings; no turns beyond the box. -/
namespace SA
section
variable {c : P → P → Int}
end

section
variable {w p a b c d : P} {ah : Bool}
end
section
variable {w p : P} {ah : Bool}
end
section
variable {w p : P} {ah : Bool}
end
end SA

set_option autoImplicit false
namespace FS
/-- the sum of floors -/
def S (a b m : Int) : Nat → Int
  | 0 => 0
  | n + 1 => S a b m n + (a * n + b) / m
end FS

set_option Elab.async false
set_option linter.all false
set_option maxRecDepth 100000
set_option maxHeartbeats 4000000
set_option autoImplicit false
/-! Amounts: samples of a triangle by rows; rows by floors. -/
namespace SA
section
variable {R : P → Bool} {a b c p : P} {st rx ry y j : Int} {T : T3}
def dn (st : Int) (a b : P) : Int := (((b.2 - a.2) * st).natAbs : Int)
/-- an edge spans a row -/
def spn (a b : P) (y : Int) : Prop := (a.2 < y ∧ y < b.2) ∨ (b.2 < y ∧ y < a.2)
instance {a b : P} {y : Int} : Decidable (spn a b y) := by unfold spn; infer_instance
end
section
variable {f : Int → Int} {st ry l h m p q lo hi : Int}
abbrev rows (st ry l h : Int) : List Int := SP.ups (SP.fst l ry st) st h
theorem rows_mem (hst : 1 ≤ st) {z : Int} : z ∈ rows st ry l h ↔ l ≤ z ∧ z ≤ h ∧ (z - ry) % st = 0 := SP.fst_mem hst
end
section
variable {R : P → Bool} {a b c : P} {st rx ry y l h : Int} {T : T3}
def many (st y0 h : Int) : Int := (h - y0) / st + 1
end
end SA

set_option Elab.async false
set_option linter.all false
set_option maxRecDepth 100000
set_option maxHeartbeats 4000000
set_option autoImplicit false
/-! A triangle and its twin: rows by half-open edges; together the double area. -/
namespace SA
section
variable {w : P} {ah : Bool} {a b c p : P} {st rx ry y j : Int}
end
section
variable {w : P} {ah : Bool} {a b c d p : P} {st rx ry y l h : Int}
end
section
variable {R : P → Bool} {T : T3} {w : P} {ah : Bool} {a b c m p : P} {st rx ry y l h : Int}
end
end SA

set_option Elab.async false
set_option linter.all false
set_option maxRecDepth 100000
set_option maxHeartbeats 4000000
set_option autoImplicit false
/-! The rim, told by counts, in order. -/
namespace SA
def repl (n : Nat) (c : Nat → Nat) : List Nat := (List.range n).flatMap fun j => List.replicate (c j) j
theorem repl_succ (n : Nat) (c : Nat → Nat) : repl (n + 1) c = repl n c ++ List.replicate (c n) n := by
  unfold repl
  rw [List.range_succ, List.flatMap_append]
  simp
theorem repl_mem {n : Nat} {c : Nat → Nat} {x : Nat} (h : x ∈ repl n c) : x < n := by
  unfold repl at h
  obtain ⟨j, hj, hx⟩ := List.mem_flatMap.mp h
  rw [List.eq_of_mem_replicate hx]
  exact List.mem_range.mp hj
theorem repl_sorted (c : Nat → Nat) : ∀ n, (repl n c).Pairwise (· ≤ ·)
  | 0 => List.Pairwise.nil
  | n + 1 => by
    rw [repl_succ, List.pairwise_append]
    refine ⟨repl_sorted c n, ?_, fun a ha b hb => ?_⟩
    · rw [List.pairwise_replicate]
      exact .inr (Nat.le_refl _)
    · have := repl_mem ha
      rw [List.eq_of_mem_replicate hb]
      omega
theorem repl_count (c : Nat → Nat) (x : Nat) : ∀ n, (repl n c).count x = if x < n then c x else 0
  | 0 => by simp [repl]
  | n + 1 => by
    rw [repl_succ, List.count_append, repl_count c x n, List.count_replicate]
    by_cases h : x < n
    · have h2 : ¬ n = x := by omega
      have h3 : x < n + 1 := by omega
      simp [h, h2, h3]
    · by_cases h3 : n = x
      · subst h3
        simp
      · have h4 : ¬ x < n + 1 := by omega
        simp [h, h3, h4]
theorem sorted_repl {S : List Nat} {n : Nat} (hs : S.Pairwise (· ≤ ·)) (hb : ∀ x ∈ S, x < n) : S = repl n fun j => S.count j := by
  refine List.Perm.eq_of_pairwise (le := fun a b => a ≤ b) (fun a b _ _ h1 h2 => Nat.le_antisymm h1 h2) hs (repl_sorted _ n) ?_
  rw [List.perm_iff_count]
  intro x
  rw [repl_count]
  by_cases h : x < n
  · rw [if_pos h]
  · rw [if_neg h]
    exact List.count_eq_zero.mpr fun hx => h (hb x hx)
/-- ways, ascending, by counts -/
def canon (m n : Nat) (c : Nat → Nat → Nat) : List (Nat × Nat) := (List.range m).flatMap fun i => (repl n (c i)).map fun j => (i, j)
theorem canon_succ (m n : Nat) (c : Nat → Nat → Nat) : canon (m + 1) n c = canon m n c ++ (repl n (c m)).map fun j => (m, j) := by
  unfold canon
  rw [List.range_succ, List.flatMap_append]
  simp
theorem repl_zero (c : Nat → Nat) (h : ∀ j, c j = 0) : ∀ n, repl n c = []
  | 0 => rfl
  | n + 1 => by
    rw [repl_succ, repl_zero c h n, h]
    rfl
theorem canon_more {m n : Nat} {c : Nat → Nat → Nat} (h : ∀ i j, m ≤ i → c i j = 0) : ∀ k, canon (m + k) n c = canon m n c
  | 0 => rfl
  | k + 1 => by
    rw [show m + (k + 1) = (m + k) + 1 from by omega, canon_succ, canon_more h k, repl_zero _ (fun j => h (m + k) j (by omega))]
    simp
theorem canon_congr {m n : Nat} {c c' : Nat → Nat → Nat} (h : ∀ i j, c i j = c' i j) : canon m n c = canon m n c' := by
  have : c = c' := funext fun i => funext fun j => h i j
  rw [this]
theorem repl_len {c : Nat → Nat} {B : Nat} (h : ∀ j, c j ≤ B) : ∀ n, (repl n c).length ≤ n * B
  | 0 => by simp [repl]
  | n + 1 => by
    rw [repl_succ, List.length_append, List.length_replicate, Nat.succ_mul]
    have := repl_len h n
    have := h n
    omega
theorem canon_len {c : Nat → Nat → Nat} {n B : Nat} (h : ∀ i j, c i j ≤ B) : ∀ m, (canon m n c).length ≤ m * (n * B)
  | 0 => by simp [canon]
  | m + 1 => by
    rw [canon_succ, List.length_append, List.length_map, Nat.succ_mul]
    have := canon_len (n := n) h m
    have := repl_len (h m) n
    omega
/-- the rim's counts -/
theorem rim_step_cnt {R : List (Nat × Nat)} {x : Nat × Nat} (hx : x.1 ≠ x.2) (h : ∀ i j, i ≠ j → R.count (i, j) = 0 ∨ R.count (j, i) = 0) {i j : Nat} (ij : i ≠ j) :
    ((rimStep R x).count (i, j) : Int) - (rimStep R x).count (j, i) = (R.count (i, j) : Int) - R.count (j, i) + (if x = (i, j) then 1 else 0) - (if x = (j, i) then 1 else 0) ∧ ((rimStep R x).count (i, j) = 0 ∨ (rimStep R x).count (j, i) = 0) := by
  obtain ⟨a, b⟩ := x
  simp only at hx
  have h0 := h i j ij
  unfold rimStep
  simp only
  by_cases m : (b, a) ∈ R
  · rw [if_pos m, List.count_erase, List.count_erase]
    have hp : 0 < R.count (b, a) := List.count_pos_iff.mpr m
    by_cases e1 : (a, b) = (i, j)
    · cases e1
      have n1 : ¬ ((j, i) == (i, j)) = true := by simp; omega
      have n2 : ¬ (i, j) = (j, i) := by simp; omega
      rw [if_neg n1, if_pos (by simp), if_pos rfl, if_neg n2]
      omega
    · by_cases e2 : (a, b) = (j, i)
      · cases e2
        have n1 : ¬ ((i, j) == (j, i)) = true := by simp; omega
        rw [if_pos (by simp), if_neg n1, if_neg e1, if_pos rfl]
        omega
      · have n1 : ¬ ((b, a) == (i, j)) = true := by
          simp only [beq_iff_eq, Prod.mk.injEq] at e2 ⊢
          omega
        have n2 : ¬ ((b, a) == (j, i)) = true := by
          simp only [beq_iff_eq, Prod.mk.injEq] at e1 ⊢
          omega
        rw [if_neg n1, if_neg n2, if_neg e1, if_neg e2]
        omega
  · rw [if_neg m, List.count_append, List.count_append, List.count_singleton, List.count_singleton]
    have hz : R.count (b, a) = 0 := List.count_eq_zero.mpr m
    by_cases e1 : (a, b) = (i, j)
    · cases e1
      have n1 : ¬ ((i, j) == (j, i)) = true := by simp; omega
      have n2 : ¬ (i, j) = (j, i) := by simp; omega
      rw [if_pos (by simp), if_neg n1, if_pos rfl, if_neg n2]
      omega
    · by_cases e2 : (a, b) = (j, i)
      · cases e2
        have n1 : ¬ ((j, i) == (i, j)) = true := by simp; omega
        rw [if_neg n1, if_pos (by simp), if_neg e1, if_pos rfl]
        omega
      · have n1 : ¬ ((a, b) == (i, j)) = true := by simpa using e1
        have n2 : ¬ ((a, b) == (j, i)) = true := by simpa using e2
        rw [if_neg n1, if_neg n2, if_neg e1, if_neg e2]
        omega
theorem rim_cnt : ∀ (ws R : List (Nat × Nat)), (∀ x ∈ ws, x.1 ≠ x.2) → (∀ i j, i ≠ j → R.count (i, j) = 0 ∨ R.count (j, i) = 0) → ∀ i j, i ≠ j →
    ((ws.foldl rimStep R).count (i, j) : Int) - (ws.foldl rimStep R).count (j, i) = (R.count (i, j) : Int) - R.count (j, i) + ws.count (i, j) - ws.count (j, i) ∧ ((ws.foldl rimStep R).count (i, j) = 0 ∨ (ws.foldl rimStep R).count (j, i) = 0)
  | [], R, _, h, i, j, ij => ⟨by simp, h i j ij⟩
  | x :: ws, R, hw, h, i, j, ij => by
    rw [List.foldl_cons]
    have s := fun i j ij => rim_step_cnt (R := R) (x := x) (hw x List.mem_cons_self) h (i := i) (j := j) ij
    have k := rim_cnt ws (rimStep R x) (fun y hy => hw y (List.mem_cons_of_mem _ hy)) (fun i j ij => (s i j ij).2) i j ij
    refine ⟨?_, k.2⟩
    rw [k.1, (s i j ij).1, List.count_cons, List.count_cons]
    have b1 : (if (x == (i, j)) = true then 1 else 0 : Nat) = if x = (i, j) then 1 else 0 := by simp
    have b2 : (if (x == (j, i)) = true then 1 else 0 : Nat) = if x = (j, i) then 1 else 0 := by simp
    rw [b1, b2]
    split <;> split <;> omega
def cw (ws : List (Nat × Nat)) (i j : Nat) : Nat := ws.count (i, j) - ws.count (j, i)
theorem cnt_snd (R : List (Nat × Nat)) (i j : Nat) : ((R.filter fun y => decide (y.1 = i)).map Prod.snd).count j = R.count (i, j) := by
  induction R with
  | nil => rfl
  | cons a R ih =>
    obtain ⟨x, y⟩ := a
    rw [List.filter_cons, List.count_cons]
    by_cases c : x = i
    · subst c
      rw [if_pos (by simp), List.map_cons, List.count_cons, ih]
      simp
    · rw [if_neg (by simpa using c), ih]
      simp [c]
theorem rimL_count {tr : List (Nat × Nat × Nat)} (h : ∀ t ∈ tr, t.1 ≠ t.2.1 ∧ t.2.1 ≠ t.2.2 ∧ t.2.2 ≠ t.1) (i j : Nat) : (rimL tr).count (i, j) = cw (tr.flatMap triW) i j := by
  have hw : ∀ x ∈ tr.flatMap triW, x.1 ≠ x.2 := fun x hx => by
    obtain ⟨t, ht, q⟩ := List.mem_flatMap.mp hx
    have := h t ht
    unfold triW at q
    simp only [List.mem_cons, List.not_mem_nil, or_false] at q
    rcases q with rfl | rfl | rfl
    · exact this.1
    · exact this.2.1
    · exact this.2.2
  unfold rimL cw
  by_cases ij : i = j
  · subst ij
    rw [Nat.sub_self]
    refine List.count_eq_zero.mpr fun hx => ?_
    rcases rim_mem hx with q | q
    · cases q
    · exact hw _ q rfl
  · have k := rim_cnt (tr.flatMap triW) [] hw (fun i j _ => .inl rfl) i j ij
    simp only [List.count_nil] at k
    omega
end SA

set_option Elab.async false
set_option linter.all false
set_option maxRecDepth 100000
set_option maxHeartbeats 4000000
set_option autoImplicit false
namespace K47
open PySem PySem.Spec PyProof.Rows L2 DL
structure Hd (K : PySem.W.Frag) (mg : Str → Option Value) : Prop where
  c : He5.SaysA fa fn K
  more : exB K = true
  ex : ∃ h : Heap, K.In h ∧ h.Ns mainGlobals mg
section
variable {K : PySem.W.Frag} {mg : Str → Option Value}
theorem Hd.g_check_ahead (A : Hd K mg) : mg "check_ahead" = some (.ref (He.ga K "check_ahead")) := by
  obtain ⟨h, X, G⟩ := A.ex
  exact He.glo_ok X G (A.c.fact 0)
theorem Hd.g_common_divisor (A : Hd K mg) : mg "common_divisor" = some (.ref (He.ga K "common_divisor")) := by
  obtain ⟨h, X, G⟩ := A.ex
  exact He.glo_ok X G (A.c.fact 1)
theorem Hd.g_lowest_pair (A : Hd K mg) : mg "lowest_pair" = some (.ref (He.ga K "lowest_pair")) := by
  obtain ⟨h, X, G⟩ := A.ex
  exact He.glo_ok X G (A.c.fact 2)
theorem Hd.g_is_integer (A : Hd K mg) : mg "is_integer" = some (.ref (He.ga K "is_integer")) := by
  obtain ⟨h, X, G⟩ := A.ex
  exact He.glo_ok X G (A.c.fact 3)
theorem Hd.g_numbers_of (A : Hd K mg) : mg "numbers_of" = some (.ref (He.ga K "numbers_of")) := by
  obtain ⟨h, X, G⟩ := A.ex
  exact He.glo_ok X G (A.c.fact 4)
theorem Hd.g_way_in (A : Hd K mg) : mg "way_in" = some (.ref (He.ga K "way_in")) := by
  obtain ⟨h, X, G⟩ := A.ex
  exact He.glo_ok X G (A.c.fact 5)
theorem Hd.g_check_points (A : Hd K mg) : mg "check_points" = some (.ref (He.ga K "check_points")) := by
  obtain ⟨h, X, G⟩ := A.ex
  exact He.glo_ok X G (A.c.fact 6)
theorem Hd.g_is_between (A : Hd K mg) : mg "is_between" = some (.ref (He.ga K "is_between")) := by
  obtain ⟨h, X, G⟩ := A.ex
  exact He.glo_ok X G (A.c.fact 7)
theorem Hd.g_is_triple (A : Hd K mg) : mg "is_triple" = some (.ref (He.ga K "is_triple")) := by
  obtain ⟨h, X, G⟩ := A.ex
  exact He.glo_ok X G (A.c.fact 8)
theorem Hd.g_check_triples (A : Hd K mg) : mg "check_triples" = some (.ref (He.ga K "check_triples")) := by
  obtain ⟨h, X, G⟩ := A.ex
  exact He.glo_ok X G (A.c.fact 9)
theorem Hd.g_ascending (A : Hd K mg) : mg "ascending" = some (.ref (He.ga K "ascending")) := by
  obtain ⟨h, X, G⟩ := A.ex
  exact He.glo_ok X G (A.c.fact 10)
theorem Hd.g__law_hand (A : Hd K mg) : mg "_law_hand" = some (.ref (He.ga K "_law_hand")) := by
  obtain ⟨h, X, G⟩ := A.ex
  exact He.glo_ok X G (A.c.fact 11)
theorem Hd.g__law_left (A : Hd K mg) : mg "_law_left" = some (.ref (He.ga K "_law_left")) := by
  obtain ⟨h, X, G⟩ := A.ex
  exact He.glo_ok X G (A.c.fact 12)
theorem Hd.g__law_draw (A : Hd K mg) : mg "_law_draw" = some (.ref (He.ga K "_law_draw")) := by
  obtain ⟨h, X, G⟩ := A.ex
  exact He.glo_ok X G (A.c.fact 13)
theorem Hd.g__law_pair (A : Hd K mg) : mg "_law_pair" = some (.ref (He.ga K "_law_pair")) := by
  obtain ⟨h, X, G⟩ := A.ex
  exact He.glo_ok X G (A.c.fact 14)
theorem Hd.g__law_net (A : Hd K mg) : mg "_law_net" = some (.ref (He.ga K "_law_net")) := by
  obtain ⟨h, X, G⟩ := A.ex
  exact He.glo_ok X G (A.c.fact 15)
theorem Hd.g__law_told_half (A : Hd K mg) : mg "_law_told_half" = some (.ref (He.ga K "_law_told_half")) := by
  obtain ⟨h, X, G⟩ := A.ex
  exact He.glo_ok X G (A.c.fact 16)
theorem Hd.g_cross_of (A : Hd K mg) : mg "cross_of" = some (.ref (He.ga K "cross_of")) := by
  obtain ⟨h, X, G⟩ := A.ex
  exact He.glo_ok X G (A.c.fact 17)
theorem Hd.g_less (A : Hd K mg) : mg "less" = some (.ref (He.ga K "less")) := by
  obtain ⟨h, X, G⟩ := A.ex
  exact He.glo_ok X G (A.c.fact 18)
theorem Hd.g_side_of (A : Hd K mg) : mg "side_of" = some (.ref (He.ga K "side_of")) := by
  obtain ⟨h, X, G⟩ := A.ex
  exact He.glo_ok X G (A.c.fact 19)
theorem Hd.g_ways_of (A : Hd K mg) : mg "ways_of" = some (.ref (He.ga K "ways_of")) := by
  obtain ⟨h, X, G⟩ := A.ex
  exact He.glo_ok X G (A.c.fact 20)
theorem Hd.g_is_owned (A : Hd K mg) : mg "is_owned" = some (.ref (He.ga K "is_owned")) := by
  obtain ⟨h, X, G⟩ := A.ex
  exact He.glo_ok X G (A.c.fact 21)
theorem Hd.g_owner_counts (A : Hd K mg) : mg "owner_counts" = some (.ref (He.ga K "owner_counts")) := by
  obtain ⟨h, X, G⟩ := A.ex
  exact He.glo_ok X G (A.c.fact 22)
theorem Hd.g_pair_of (A : Hd K mg) : mg "pair_of" = some (.ref (He.ga K "pair_of")) := by
  obtain ⟨h, X, G⟩ := A.ex
  exact He.glo_ok X G (A.c.fact 23)
theorem Hd.g_counted_owners (A : Hd K mg) : mg "counted_owners" = some (.ref (He.ga K "counted_owners")) := by
  obtain ⟨h, X, G⟩ := A.ex
  exact He.glo_ok X G (A.c.fact 24)
theorem Hd.g_shift_pairs (A : Hd K mg) : mg "shift_pairs" = some (.ref (He.ga K "shift_pairs")) := by
  obtain ⟨h, X, G⟩ := A.ex
  exact He.glo_ok X G (A.c.fact 25)
theorem Hd.g_is_upward (A : Hd K mg) : mg "is_upward" = some (.ref (He.ga K "is_upward")) := by
  obtain ⟨h, X, G⟩ := A.ex
  exact He.glo_ok X G (A.c.fact 26)
theorem Hd.g_turns_of (A : Hd K mg) : mg "turns_of" = some (.ref (He.ga K "turns_of")) := by
  obtain ⟨h, X, G⟩ := A.ex
  exact He.glo_ok X G (A.c.fact 27)
theorem Hd.g_rim_turns (A : Hd K mg) : mg "rim_turns" = some (.ref (He.ga K "rim_turns")) := by
  obtain ⟨h, X, G⟩ := A.ex
  exact He.glo_ok X G (A.c.fact 28)
theorem Hd.g_signed (A : Hd K mg) : mg "signed" = some (.ref (He.ga K "signed")) := by
  obtain ⟨h, X, G⟩ := A.ex
  exact He.glo_ok X G (A.c.fact 29)
theorem Hd.g_law (A : Hd K mg) : mg "law" = some (.ref (He.ga K "law")) := by
  obtain ⟨h, X, G⟩ := A.ex
  exact He.glo_ok X G (A.c.fact 30)
theorem Hd.g_Point (A : Hd K mg) : mg "Point" = some (.ref (He.ga K "Point")) := by
  obtain ⟨h, X, G⟩ := A.ex
  exact He.glo_ok X G (A.c.fact 31)
theorem Hd.f_abs (A : Hd K mg) : mg "abs" = none := by
  obtain ⟨h, X, G⟩ := A.ex
  exact He.free_ok X G (A.c.fact 32)
theorem Hd.f_all (A : Hd K mg) : mg "all" = none := by
  obtain ⟨h, X, G⟩ := A.ex
  exact He.free_ok X G (A.c.fact 33)
theorem Hd.f_bool (A : Hd K mg) : mg "bool" = none := by
  obtain ⟨h, X, G⟩ := A.ex
  exact He.free_ok X G (A.c.fact 34)
theorem Hd.f_enumerate (A : Hd K mg) : mg "enumerate" = none := by
  obtain ⟨h, X, G⟩ := A.ex
  exact He.free_ok X G (A.c.fact 35)
theorem Hd.f_int (A : Hd K mg) : mg "int" = none := by
  obtain ⟨h, X, G⟩ := A.ex
  exact He.free_ok X G (A.c.fact 36)
theorem Hd.f_isinstance (A : Hd K mg) : mg "isinstance" = none := by
  obtain ⟨h, X, G⟩ := A.ex
  exact He.free_ok X G (A.c.fact 37)
theorem Hd.f_len (A : Hd K mg) : mg "len" = none := by
  obtain ⟨h, X, G⟩ := A.ex
  exact He.free_ok X G (A.c.fact 38)
theorem Hd.f_list (A : Hd K mg) : mg "list" = none := by
  obtain ⟨h, X, G⟩ := A.ex
  exact He.free_ok X G (A.c.fact 39)
theorem Hd.f_max (A : Hd K mg) : mg "max" = none := by
  obtain ⟨h, X, G⟩ := A.ex
  exact He.free_ok X G (A.c.fact 40)
theorem Hd.f_min (A : Hd K mg) : mg "min" = none := by
  obtain ⟨h, X, G⟩ := A.ex
  exact He.free_ok X G (A.c.fact 41)
theorem Hd.f_range (A : Hd K mg) : mg "range" = none := by
  obtain ⟨h, X, G⟩ := A.ex
  exact He.free_ok X G (A.c.fact 42)
theorem Hd.f_sorted (A : Hd K mg) : mg "sorted" = none := by
  obtain ⟨h, X, G⟩ := A.ex
  exact He.free_ok X G (A.c.fact 43)
theorem Hd.f_tuple (A : Hd K mg) : mg "tuple" = none := by
  obtain ⟨h, X, G⟩ := A.ex
  exact He.free_ok X G (A.c.fact 44)
theorem Hd.c_MOST_POINTS (A : Hd K mg) : ∃ t, mg "MOST_POINTS" = some (.int (100) t) := by
  obtain ⟨h, X, G⟩ := A.ex
  exact He.int_ok X G (A.c.fact 45)
theorem Hd.g_Half (A : Hd K mg) : mg "Half" = some (.ref (He.ga K "Half")) := by
  obtain ⟨h, X, G⟩ := A.ex
  exact He.glo_ok X G (A.c.fact 46)
theorem Hd.g_Net (A : Hd K mg) : mg "Net" = some (.ref (He.ga K "Net")) := by
  obtain ⟨h, X, G⟩ := A.ex
  exact He.glo_ok X G (A.c.fact 50)
theorem Hd.fl_Half_own_ahead (A : Hd K mg) : FldD K mg "Half" "own_ahead" := ⟨_, A.g_Half, He.cls_ok (A.c.fact 47), He.noat_ok (A.c.fact 48)⟩
theorem Hd.fl_Half_own_way (A : Hd K mg) : FldD K mg "Half" "own_way" := ⟨_, A.g_Half, He.cls_ok (A.c.fact 47), He.noat_ok (A.c.fact 49)⟩
theorem Hd.fl_Net_own_triples (A : Hd K mg) : FldD K mg "Net" "own_triples" := ⟨_, A.g_Net, He.cls_ok (A.c.fact 51), He.noat_ok (A.c.fact 52)⟩
theorem Hd.fl_Net_pairs (A : Hd K mg) : FldD K mg "Net" "pairs" := ⟨_, A.g_Net, He.cls_ok (A.c.fact 51), He.noat_ok (A.c.fact 53)⟩
theorem Hd.fl_Point_x (A : Hd K mg) : FldD K mg "Point" "x" := ⟨_, A.g_Point, He.cls_ok (A.c.fact 54), He.noat_ok (A.c.fact 55)⟩
theorem Hd.fl_Point_y (A : Hd K mg) : FldD K mg "Point" "y" := ⟨_, A.g_Point, He.cls_ok (A.c.fact 54), He.noat_ok (A.c.fact 56)⟩
theorem Hd.isi (A : Hd K mg) : IsiTab ⟨K, mg, none⟩ isiT := by
  obtain ⟨h, X, G⟩ := A.ex
  exact isiTab_of X G (He.ba A.more).1
variable {P : Program} {w : World} {base : Heap}
theorem scx_InvalidHalf : FnScope ["self", "part"] ["self", "part"] (defScope (inClass (top 6) 0)) := ⟨rfl, rfl, rfl, by decide +kernel, rfl, by decide +kernel, by decide +kernel⟩
theorem Hd.rx_InvalidHalf (A : Hd K mg) : RaiseD P w K mg base 1 "InvalidHalf" ["part"] := by
  obtain ⟨fd, F⟩ := A.c.def_ 38
  obtain ⟨h, X, G⟩ := A.ex
  obtain ⟨h1, h2, h3, h4⟩ := rxB_ok (He.ba (He.ba A.more).2).1
  exact raise1 (rx_glo X G (He.ba (He.ba A.more).2).1) h1 (h4 _ (by simp)) h2 h3 F scx_InvalidHalf (F.bindsN fun _ _ _ _ _ _ us hl => match us, hl with | [_, _], _ => rfl) fun _ _ _ _ _ _ => pss_one (ps_ost (pe_var (i := 0) rfl (Or.inl rfl)) (pe_var (i := 1) rfl (Or.inl rfl)))
theorem scx_InvalidNet : FnScope ["self", "part", "number"] ["self", "part", "number"] (defScope (inClass (top 7) 0)) := ⟨rfl, rfl, rfl, by decide +kernel, rfl, by decide +kernel, by decide +kernel⟩
theorem Hd.rx_InvalidNet (A : Hd K mg) : RaiseD P w K mg base 1 "InvalidNet" ["part", "number"] := by
  obtain ⟨fd, F⟩ := A.c.def_ 39
  obtain ⟨h, X, G⟩ := A.ex
  obtain ⟨h1, h2, h3, h4⟩ := rxB_ok (He.ba (He.ba (He.ba A.more).2).2).1
  exact raise2 (rx_glo X G (He.ba (He.ba (He.ba A.more).2).2).1) h1 (h4 _ (by simp)) (h4 _ (by simp)) h2 h3 F scx_InvalidNet (F.bindsN fun _ _ _ _ _ _ us hl => match us, hl with | [_, _, _], _ => rfl) fun _ _ _ _ _ _ => pss_cons (ps_ost (pe_var (i := 0) rfl (Or.inl rfl)) (pe_var (i := 1) rfl (Or.inl rfl))) (pss_one (ps_ost (pe_var (i := 0) rfl (Or.inl rfl)) (pe_var (i := 2) rfl (Or.inl rfl))))
theorem scx_InvalidPoint : FnScope ["self", "thing"] ["self", "thing"] (defScope (inClass (top 3) 0)) := ⟨rfl, rfl, rfl, by decide +kernel, rfl, by decide +kernel, by decide +kernel⟩
theorem Hd.rx_InvalidPoint (A : Hd K mg) : RaiseD P w K mg base 1 "InvalidPoint" ["thing"] := by
  obtain ⟨fd, F⟩ := A.c.def_ 40
  obtain ⟨h, X, G⟩ := A.ex
  obtain ⟨h1, h2, h3, h4⟩ := rxB_ok (He.ba (He.ba (He.ba A.more).2).2).2
  exact raise1 (rx_glo X G (He.ba (He.ba (He.ba A.more).2).2).2) h1 (h4 _ (by simp)) h2 h3 F scx_InvalidPoint (F.bindsN fun _ _ _ _ _ _ us hl => match us, hl with | [_, _], _ => rfl) fun _ _ _ _ _ _ => pss_one (ps_ost (pe_var (i := 0) rfl (Or.inl rfl)) (pe_var (i := 1) rfl (Or.inl rfl)))
/-! check_ahead -/
abbrev N_check_ahead : List Str := ["thing"]
theorem sc_check_ahead : FnScope N_check_ahead ["thing"] (defScope (top 47)) := ⟨rfl, rfl, rfl, by decide +kernel, rfl, by decide +kernel, by decide +kernel⟩
def w_check_ahead : WS := (sIf (wNot (wB (wN (fIsi isiT) (wCons (wVar 0) (wCons (wC (.ty "bool")) wNil)))))
  (sRaise "InvalidHalf" ["part"] (wCons (wC (.str "ahead")) wNil))
  sNext)
def sp_check_ahead : DSp := fun ds μ Q Xd => ds.length = 1 ∧ w_check_ahead (defE Q Xd) (startD N_check_ahead ds) μ
theorem d_check_ahead (A : Hd K mg) {cdv : Value} {A2 : Around} {fr : List Env} {s : Shared} {H : Hp} {E : XK} {f : Addr} (hr : Room 2 (A2.deeper (envOfC "check_ahead" (defScope (top 47)) s.heap.objs.size f cdv))) (hgd : (A2.deeper (envOfC "check_ahead" (defScope (top 47)) s.heap.objs.size f cdv)).guards = some []) :
    DSs none (fun cls d _ H2 => E cls d H2) (cxOf (L2.CX P w) P w K mg base N_check_ahead "check_ahead" (defScope (top 47)) f cdv A2 fr s H E) (defBody (top 47)) w_check_ahead := by
  have hN := (sc_check_ahead).nd
  exact (dss_one (ds_if (dt_not (dt_val (de_callB call_isi (sn_isi A.isi) rfl A.f_isinstance bt_isinstance (da_cons (dv 0) (da_cons (de_ty rfl A.f_bool bt_bool) da_nil))))) (dss_one (ds_raiseD A.rx_InvalidHalf rfl hr (by decide) rfl (takes_of rfl rfl rfl rfl) (da_cons de_str da_nil))) dss_nil))
theorem Hd.ok_check_ahead (A : Hd K mg) : CallD P w K mg base 3 "check_ahead" ["thing"] sp_check_ahead := by
  obtain ⟨fd, F⟩ := A.c.def_ 0
  exact ⟨_, fd, A.g_check_ahead, F.kp, F.bindsN fun _ _ _ _ _ _ us hl => match us, hl with | [_], _ => rfl, def_ok F sc_check_ahead (fun ds μ Q Xd h => h.1) (fun cdv A2 fr s H E hr hgd => d_check_ahead A hr hgd) fun ds μ Q Xd h => h.2⟩
/-! common_divisor -/
abbrev N_common_divisor : List Str := ["one", "other"]
theorem sc_common_divisor : FnScope N_common_divisor ["one", "other"] (defScope (top 40)) := ⟨rfl, rfl, rfl, by decide +kernel, rfl, by decide +kernel, by decide +kernel⟩
def w_common_divisor : WS := (sSeq (sPar2 0 1 (wCons (wN fAbs (wCons (wVar 0) wNil)) (wCons (wN fAbs (wCons (wVar 1) wNil)) wNil)))
 (sSeq (sWhile (wB (w2 fGt (wVar 1) (wC (.int (0)))))
  (sPar2 0 1 (wCons (wVar 1) (wCons (w2 fMod (wVar 0) (wVar 1)) wNil))))
 (sRet (wVar 0))))
def sp_common_divisor : DSp := fun ds μ Q Xd => ds.length = 2 ∧ w_common_divisor (defE Q Xd) (startD N_common_divisor ds) μ
theorem d_common_divisor (A : Hd K mg) {cdv : Value} {A2 : Around} {fr : List Env} {s : Shared} {H : Hp} {E : XK} {f : Addr} (hr : Room 0 (A2.deeper (envOfC "common_divisor" (defScope (top 40)) s.heap.objs.size f cdv))) (hgd : (A2.deeper (envOfC "common_divisor" (defScope (top 40)) s.heap.objs.size f cdv)).guards = some []) :
    DSs none (fun cls d _ H2 => E cls d H2) (cxOf (L2.CX P w) P w K mg base N_common_divisor "common_divisor" (defScope (top 40)) f cdv A2 fr s H E) (defBody (top 40)) w_common_divisor := by
  have hN := (sc_common_divisor).nd
  exact (dss_cons (ds_par2 (i := 0) (j := 1) rfl hN rfl rfl (by decide) (da_cons (de_callB call_abs sn_abs rfl A.f_abs bt_abs (da_cons (dv 0) da_nil)) (da_cons (de_callB call_abs sn_abs rfl A.f_abs bt_abs (da_cons (dv 1) da_nil)) da_nil)))
 (dss_cons (ds_while (passes_of rfl) (dt_cmp op_gt s2_IB (dv 1) de_int (nomark _)) (dss_one (ds_par2 (i := 0) (j := 1) rfl hN rfl rfl (by decide) (da_cons (dv 1) (da_cons (de_mod (dv 0) (dv 1)) da_nil)))))
 (dss_one (ds_ret (dv 0)))))
theorem Hd.ok_common_divisor (A : Hd K mg) : CallD P w K mg base 1 "common_divisor" ["one", "other"] sp_common_divisor := by
  obtain ⟨fd, F⟩ := A.c.def_ 1
  exact ⟨_, fd, A.g_common_divisor, F.kp, F.bindsN fun _ _ _ _ _ _ us hl => match us, hl with | [_, _], _ => rfl, def_ok F sc_common_divisor (fun ds μ Q Xd h => h.1) (fun cdv A2 fr s H E hr hgd => d_common_divisor A hr hgd) fun ds μ Q Xd h => h.2⟩
/-! lowest_pair -/
abbrev N_lowest_pair : List Str := ["pair", "divisor"]
theorem sc_lowest_pair : FnScope N_lowest_pair ["pair"] (defScope (top 41)) := ⟨rfl, rfl, rfl, by decide +kernel, rfl, by decide +kernel, by decide +kernel⟩
def w_lowest_pair : WS := (sSeq (sSet 1 (wCall sp_common_divisor (wCons (w2 fIx (wVar 0) (wC (.int (0)))) (wCons (w2 fIx (wVar 0) (wC (.int (1)))) wNil))))
 (sRet (wTup (wCons (w2 fDiv (w2 fIx (wVar 0) (wC (.int (0)))) (wVar 1)) (wCons (w2 fDiv (w2 fIx (wVar 0) (wC (.int (1)))) (wVar 1)) wNil)))))
def sp_lowest_pair : DSp := fun ds μ Q Xd => ds.length = 1 ∧ w_lowest_pair (defE Q Xd) (startD N_lowest_pair ds) μ
theorem d_lowest_pair (A : Hd K mg) {cdv : Value} {A2 : Around} {fr : List Env} {s : Shared} {H : Hp} {E : XK} {f : Addr} (hr : Room 1 (A2.deeper (envOfC "lowest_pair" (defScope (top 41)) s.heap.objs.size f cdv))) (hgd : (A2.deeper (envOfC "lowest_pair" (defScope (top 41)) s.heap.objs.size f cdv)).guards = some []) :
    DSs none (fun cls d _ H2 => E cls d H2) (cxOf (L2.CX P w) P w K mg base N_lowest_pair "lowest_pair" (defScope (top 41)) f cdv A2 fr s H E) (defBody (top 41)) w_lowest_pair := by
  have hN := (sc_lowest_pair).nd
  exact (dss_cons (ds_set (i := 1) hN rfl (de_callD A.ok_common_divisor hr (by decide) hgd rfl (takes_of rfl rfl rfl rfl) (da_cons (de_item (dv 0) de_int) (da_cons (de_item (dv 0) de_int) da_nil))))
 (dss_one (ds_ret (de_tup (da_cons (de_div (de_item (dv 0) de_int) (dv 1)) (da_cons (de_div (de_item (dv 0) de_int) (dv 1)) da_nil))))))
theorem Hd.ok_lowest_pair (A : Hd K mg) : CallD P w K mg base 2 "lowest_pair" ["pair"] sp_lowest_pair := by
  obtain ⟨fd, F⟩ := A.c.def_ 2
  exact ⟨_, fd, A.g_lowest_pair, F.kp, F.bindsN fun _ _ _ _ _ _ us hl => match us, hl with | [_], _ => rfl, def_ok F sc_lowest_pair (fun ds μ Q Xd h => h.1) (fun cdv A2 fr s H E hr hgd => d_lowest_pair A hr hgd) fun ds μ Q Xd h => h.2⟩
/-! is_integer -/
abbrev N_is_integer : List Str := ["thing"]
theorem sc_is_integer : FnScope N_is_integer ["thing"] (defScope (top 9)) := ⟨rfl, rfl, rfl, by decide +kernel, rfl, by decide +kernel, by decide +kernel⟩
def w_is_integer : WS := (sRet (wAndV (wN (fIsi isiT) (wCons (wVar 0) (wCons (wC (.ty "int")) wNil))) (wNotV (wN (fIsi isiT) (wCons (wVar 0) (wCons (wC (.ty "bool")) wNil))))))
def sp_is_integer : DSp := fun ds μ Q Xd => ds.length = 1 ∧ w_is_integer (defE Q Xd) (startD N_is_integer ds) μ
theorem d_is_integer (A : Hd K mg) {cdv : Value} {A2 : Around} {fr : List Env} {s : Shared} {H : Hp} {E : XK} {f : Addr} (hr : Room 0 (A2.deeper (envOfC "is_integer" (defScope (top 9)) s.heap.objs.size f cdv))) (hgd : (A2.deeper (envOfC "is_integer" (defScope (top 9)) s.heap.objs.size f cdv)).guards = some []) :
    DSs none (fun cls d _ H2 => E cls d H2) (cxOf (L2.CX P w) P w K mg base N_is_integer "is_integer" (defScope (top 9)) f cdv A2 fr s H E) (defBody (top 9)) w_is_integer := by
  have hN := (sc_is_integer).nd
  exact (dss_one (ds_ret (de_and (de_callB call_isi (sn_isi A.isi) rfl A.f_isinstance bt_isinstance (da_cons (dv 0) (da_cons (de_ty rfl A.f_int bt_int) da_nil))) (de_one (de_not (de_callB call_isi (sn_isi A.isi) rfl A.f_isinstance bt_isinstance (da_cons (dv 0) (da_cons (de_ty rfl A.f_bool bt_bool) da_nil))))))))
theorem Hd.ok_is_integer (A : Hd K mg) : CallD P w K mg base 1 "is_integer" ["thing"] sp_is_integer := by
  obtain ⟨fd, F⟩ := A.c.def_ 3
  exact ⟨_, fd, A.g_is_integer, F.kp, F.bindsN fun _ _ _ _ _ _ us hl => match us, hl with | [_], _ => rfl, def_ok F sc_is_integer (fun ds μ Q Xd h => h.1) (fun cdv A2 fr s H E hr hgd => d_is_integer A hr hgd) fun ds μ Q Xd h => h.2⟩
/-! numbers_of -/
abbrev N_numbers_of : List Str := ["thing"]
theorem sc_numbers_of : FnScope N_numbers_of ["thing"] (defScope (top 14)) := ⟨rfl, rfl, rfl, by decide +kernel, rfl, by decide +kernel, by decide +kernel⟩
def w_numbers_of : WS := (sSeq (sIf (wB (wN (fIsi isiT) (wCons (wVar 0) (wCons (wC (.cls "Point")) wNil))))
  (sRet (wTup (wCons (w1 (fFld "Point" "x") (wVar 0)) (wCons (w1 (fFld "Point" "y") (wVar 0)) wNil))))
  sNext)
 (sSeq (sIf (wAnd (wB (wN (fIsi isiT) (wCons (wVar 0) (wCons (wC (.ty "tuple")) wNil)))) (wAnd (wB (w2 fEqU (wN fLen (wCons (wVar 0) wNil)) (wC (.int (2))))) (wAnd (wB (wCall sp_is_integer (wCons (w2 fIx (wVar 0) (wC (.int (0)))) wNil))) (wB (wCall sp_is_integer (wCons (w2 fIx (wVar 0) (wC (.int (1)))) wNil))))))
  (sRet (wTup (wCons (wN fInt1 (wCons (w2 fIx (wVar 0) (wC (.int (0)))) wNil)) (wCons (wN fInt1 (wCons (w2 fIx (wVar 0) (wC (.int (1)))) wNil)) wNil))))
  sNext)
 (sRet (wC .non))))
def sp_numbers_of : DSp := fun ds μ Q Xd => ds.length = 1 ∧ w_numbers_of (defE Q Xd) (startD N_numbers_of ds) μ
theorem d_numbers_of (A : Hd K mg) {cdv : Value} {A2 : Around} {fr : List Env} {s : Shared} {H : Hp} {E : XK} {f : Addr} (hr : Room 1 (A2.deeper (envOfC "numbers_of" (defScope (top 14)) s.heap.objs.size f cdv))) (hgd : (A2.deeper (envOfC "numbers_of" (defScope (top 14)) s.heap.objs.size f cdv)).guards = some []) :
    DSs none (fun cls d _ H2 => E cls d H2) (cxOf (L2.CX P w) P w K mg base N_numbers_of "numbers_of" (defScope (top 14)) f cdv A2 fr s H E) (defBody (top 14)) w_numbers_of := by
  have hN := (sc_numbers_of).nd
  exact (dss_cons (ds_if (dt_val (de_callB call_isi (sn_isi A.isi) rfl A.f_isinstance bt_isinstance (da_cons (dv 0) (da_cons (de_cls rfl A.g_Point) da_nil)))) (dss_one (ds_ret (de_tup (da_cons (de_fldD A.fl_Point_x (dv 0)) (da_cons (de_fldD A.fl_Point_y (dv 0)) da_nil))))) dss_nil)
 (dss_cons (ds_if (dt_w (dw_and (dt_val (de_callB call_isi (sn_isi A.isi) rfl A.f_isinstance bt_isinstance (da_cons (dv 0) (da_cons (de_ty rfl A.f_tuple bt_tuple) da_nil)))) (dw_and (dt_cmp (op_eqU (have z := room64 hr; z)) s2_eqU (de_callB call_len_seq sn_len rfl A.f_len bt_len (da_cons (dv 0) da_nil)) de_int (nomark _)) (dw_and (dt_val (de_callD A.ok_is_integer hr (by decide) hgd rfl (takes_of rfl rfl rfl rfl) (da_cons (de_item (dv 0) de_int) da_nil))) (dw_and1 (dt_val (de_callD A.ok_is_integer hr (by decide) hgd rfl (takes_of rfl rfl rfl rfl) (da_cons (de_item (dv 0) de_int) da_nil)))))))) (dss_one (ds_ret (de_tup (da_cons (de_callTy call_int1 sn_int1 rfl A.f_int bt_int (da_cons (de_item (dv 0) de_int) da_nil)) (da_cons (de_callTy call_int1 sn_int1 rfl A.f_int bt_int (da_cons (de_item (dv 0) de_int) da_nil)) da_nil))))) dss_nil)
 (dss_one (ds_ret de_non))))
theorem Hd.ok_numbers_of (A : Hd K mg) : CallD P w K mg base 2 "numbers_of" ["thing"] sp_numbers_of := by
  obtain ⟨fd, F⟩ := A.c.def_ 4
  exact ⟨_, fd, A.g_numbers_of, F.kp, F.bindsN fun _ _ _ _ _ _ us hl => match us, hl with | [_], _ => rfl, def_ok F sc_numbers_of (fun ds μ Q Xd h => h.1) (fun cdv A2 fr s H E hr hgd => d_numbers_of A hr hgd) fun ds μ Q Xd h => h.2⟩
/-! way_in -/
abbrev N_way_in : List Str := ["thing", "pair"]
theorem sc_way_in : FnScope N_way_in ["thing"] (defScope (top 46)) := ⟨rfl, rfl, rfl, by decide +kernel, rfl, by decide +kernel, by decide +kernel⟩
def w_way_in : WS := (sSeq (sSet 1 (wCall sp_numbers_of (wCons (wVar 0) wNil)))
 (sSeq (sIf (wOr (wB (w2 fIsN (wVar 1) (wC .non))) (wB (w2 fEqU (wVar 1) (wTup (wCons (wC (.int (0))) (wCons (wC (.int (0))) wNil))))))
  (sRaise "InvalidHalf" ["part"] (wCons (wC (.str "way")) wNil))
  sNext)
 (sRet (wCall sp_lowest_pair (wCons (wVar 1) wNil)))))
def sp_way_in : DSp := fun ds μ Q Xd => ds.length = 1 ∧ w_way_in (defE Q Xd) (startD N_way_in ds) μ
theorem d_way_in (A : Hd K mg) {cdv : Value} {A2 : Around} {fr : List Env} {s : Shared} {H : Hp} {E : XK} {f : Addr} (hr : Room 2 (A2.deeper (envOfC "way_in" (defScope (top 46)) s.heap.objs.size f cdv))) (hgd : (A2.deeper (envOfC "way_in" (defScope (top 46)) s.heap.objs.size f cdv)).guards = some []) :
    DSs none (fun cls d _ H2 => E cls d H2) (cxOf (L2.CX P w) P w K mg base N_way_in "way_in" (defScope (top 46)) f cdv A2 fr s H E) (defBody (top 46)) w_way_in := by
  have hN := (sc_way_in).nd
  exact (dss_cons (ds_set (i := 1) hN rfl (de_callD A.ok_numbers_of hr (by decide) hgd rfl (takes_of rfl rfl rfl rfl) (da_cons (dv 0) da_nil)))
 (dss_cons (ds_if (dt_w (dw_or (dt_cmp op_isN s2_isN (dv 1) de_non (nomark _)) (dw_or1 (dt_cmp (op_eqU (have z := room64 hr; z)) s2_eqU (dv 1) (de_tup (da_cons de_int (da_cons de_int da_nil))) (nomark _))))) (dss_one (ds_raiseD A.rx_InvalidHalf rfl hr (by decide) rfl (takes_of rfl rfl rfl rfl) (da_cons de_str da_nil))) dss_nil)
 (dss_one (ds_ret (de_callD A.ok_lowest_pair hr (by decide) hgd rfl (takes_of rfl rfl rfl rfl) (da_cons (dv 1) da_nil))))))
theorem Hd.ok_way_in (A : Hd K mg) : CallD P w K mg base 3 "way_in" ["thing"] sp_way_in := by
  obtain ⟨fd, F⟩ := A.c.def_ 5
  exact ⟨_, fd, A.g_way_in, F.kp, F.bindsN fun _ _ _ _ _ _ us hl => match us, hl with | [_], _ => rfl, def_ok F sc_way_in (fun ds μ Q Xd h => h.1) (fun cdv A2 fr s H E hr hgd => d_way_in A hr hgd) fun ds μ Q Xd h => h.2⟩
/-! Half_init -/
abbrev N_Half_init : List Str := ["self", "way", "ahead", "pair"]
theorem sc_Half_init : FnScope N_Half_init ["self", "way", "ahead"] (defScope (inClass (top 48) 0)) := ⟨rfl, rfl, rfl, by decide +kernel, rfl, by decide +kernel, by decide +kernel⟩
def w_Half_init : WS := (sSeq (sSet 3 (wCall sp_way_in (wCons (wVar 1) wNil)))
 (sSeq (sDrop (wCall sp_check_ahead (wCons (wVar 2) wNil)))
 (sSeq (sFldO "Half" 0 "own_way" (wVar 3))
 (sFldO "Half" 0 "own_ahead" (wVar 2)))))
def sp_Half_init : ISp := fun ds μ Q Xd => ds.length = 2 ∧ ∀ a, w_Half_init (defI "Half" a Q Xd) (startI N_Half_init "Half" a ds) μ
theorem d_Half_init (A : Hd K mg) {cdv : Value} {A2 : Around} {fr : List Env} {s : Shared} {H : Hp} {E : XK} {f : Addr} (hr : Room 3 (A2.deeper (envOfC "Half.__init__" (defScope (inClass (top 48) 0)) s.heap.objs.size f cdv))) (hgd : (A2.deeper (envOfC "Half.__init__" (defScope (inClass (top 48) 0)) s.heap.objs.size f cdv)).guards = some []) :
    DSs none (fun cls d _ H2 => E cls d H2) (cxOf (L2.CX P w) P w K mg base N_Half_init "Half.__init__" (defScope (inClass (top 48) 0)) f cdv A2 fr s H E) (defBody (inClass (top 48) 0)) w_Half_init := by
  have hN := (sc_Half_init).nd
  exact (dss_cons (ds_set (i := 3) hN rfl (de_callD A.ok_way_in hr (by decide) hgd rfl (takes_of rfl rfl rfl rfl) (da_cons (dv 1) da_nil)))
 (dss_cons (ds_expr (de_callD A.ok_check_ahead hr (by decide) hgd rfl (takes_of rfl rfl rfl rfl) (da_cons (dv 2) da_nil)))
 (dss_cons (ds_fldOD A.fl_Half_own_way rfl (dv 3))
 (dss_one (ds_fldOD A.fl_Half_own_ahead rfl (dv 2))))))
theorem Hd.ok_Half_init (A : Hd K mg) : MakeD P w K mg base 4 "Half" ["self", "way", "ahead"] sp_Half_init := by
  obtain ⟨fd, F⟩ := A.c.def_ 6
  refine ⟨_, _, fd, A.g_Half, He.mkr_ok (A.c.fact 57), F.bindsN fun _ _ _ _ _ _ us hl => match us, hl with | [_, _, _], _ => rfl, def_okI F sc_Half_init (fun ds μ Q Xd h => by rw [h.1]; rfl) (fun cdv A2 fr s H E hr hgd => d_Half_init A hr hgd) fun ds μ Q Xd a h => h.2 a⟩
/-! check_points -/
abbrev N_check_points : List Str := ["points", "number", "thing"]
theorem sc_check_points : FnScope N_check_points ["points"] (defScope (top 27)) := ⟨rfl, rfl, rfl, by decide +kernel, rfl, by decide +kernel, by decide +kernel⟩
def w_check_points : WS := (sSeq (sIf (wOr (wNot (wB (wN (fIsi isiT) (wCons (wVar 0) (wCons (wC (.ty "list")) wNil))))) (wB (w2 fGt (wN fLen (wCons (wVar 0) wNil)) (wC (.int (100))))))
  (sRaise "InvalidNet" ["part", "number"] (wCons (wC (.str "points")) (wCons (wC .non) wNil)))
  sNext)
 (sForC (wiEnC (wCons (wVar 0) wNil)) (kTup 2 (kCons (kName 1) (kCons (kName 2) kNil)))
  (sIf (wB (w2 fIsN (wCall sp_numbers_of (wCons (wVar 2) wNil)) (wC .non)))
  (sRaise "InvalidNet" ["part", "number"] (wCons (wC (.str "points")) (wCons (wVar 1) wNil)))
  sNext)))
def sp_check_points : DSp := fun ds μ Q Xd => ds.length = 1 ∧ w_check_points (defE Q Xd) (startD N_check_points ds) μ
theorem d_check_points (A : Hd K mg) {cdv : Value} {A2 : Around} {fr : List Env} {s : Shared} {H : Hp} {E : XK} {f : Addr} (hr : Room 2 (A2.deeper (envOfC "check_points" (defScope (top 27)) s.heap.objs.size f cdv))) (hgd : (A2.deeper (envOfC "check_points" (defScope (top 27)) s.heap.objs.size f cdv)).guards = some []) :
    DSs none (fun cls d _ H2 => E cls d H2) (cxOf (L2.CX P w) P w K mg base N_check_points "check_points" (defScope (top 27)) f cdv A2 fr s H E) (defBody (top 27)) w_check_points := by
  have hN := (sc_check_points).nd
  exact (dss_cons (ds_if (dt_w (dw_or (dt_not (dt_val (de_callB call_isi (sn_isi A.isi) rfl A.f_isinstance bt_isinstance (da_cons (dv 0) (da_cons (de_ty rfl A.f_list bt_list) da_nil))))) (dw_or1 (dt_cmp op_gt s2_IB (de_callB call_len_seq sn_len rfl A.f_len bt_len (da_cons (dv 0) da_nil)) (de_gintE rfl A.c_MOST_POINTS) (nomark _))))) (dss_one (ds_raiseD A.rx_InvalidNet rfl hr (by decide) rfl (takes_of rfl rfl rfl rfl) (da_cons de_str (da_cons de_non da_nil)))) dss_nil)
 (dss_one (ds_forC (passes_of rfl) rfl (di_enC (by rfl) A.f_enumerate (da_cons (dv 0) da_nil)) (dg_tup rfl (dgs_cons (dg_name hN rfl) (dgs_cons (dg_name hN rfl) dgs_nil))) (dss_one (ds_if (dt_cmp op_isN s2_isN (de_callD A.ok_numbers_of hr (by decide) hgd rfl (takes_of rfl rfl rfl rfl) (da_cons (dv 2) da_nil)) de_non (nomark _)) (dss_one (ds_raiseD A.rx_InvalidNet rfl hr (by decide) rfl (takes_of rfl rfl rfl rfl) (da_cons de_str (da_cons (dv 1) da_nil)))) dss_nil)))))
theorem Hd.ok_check_points (A : Hd K mg) : CallD P w K mg base 3 "check_points" ["points"] sp_check_points := by
  obtain ⟨fd, F⟩ := A.c.def_ 7
  exact ⟨_, fd, A.g_check_points, F.kp, F.bindsN fun _ _ _ _ _ _ us hl => match us, hl with | [_], _ => rfl, def_ok F sc_check_points (fun ds μ Q Xd h => h.1) (fun cdv A2 fr s H E hr hgd => d_check_points A hr hgd) fun ds μ Q Xd h => h.2⟩
/-! is_between -/
abbrev N_is_between : List Str := ["thing", "least", "most"]
theorem sc_is_between : FnScope N_is_between ["thing", "least", "most"] (defScope (top 10)) := ⟨rfl, rfl, rfl, by decide +kernel, rfl, by decide +kernel, by decide +kernel⟩
def w_is_between : WS := (sRet (wAndV (wCall sp_is_integer (wCons (wVar 0) wNil)) (wChain fLe fLe (wVar 1) (wN fInt1 (wCons (wVar 0) wNil)) (wVar 2))))
def sp_is_between : DSp := fun ds μ Q Xd => ds.length = 3 ∧ w_is_between (defE Q Xd) (startD N_is_between ds) μ
theorem d_is_between (A : Hd K mg) {cdv : Value} {A2 : Around} {fr : List Env} {s : Shared} {H : Hp} {E : XK} {f : Addr} (hr : Room 1 (A2.deeper (envOfC "is_between" (defScope (top 10)) s.heap.objs.size f cdv))) (hgd : (A2.deeper (envOfC "is_between" (defScope (top 10)) s.heap.objs.size f cdv)).guards = some []) :
    DSs none (fun cls d _ H2 => E cls d H2) (cxOf (L2.CX P w) P w K mg base N_is_between "is_between" (defScope (top 10)) f cdv A2 fr s H E) (defBody (top 10)) w_is_between := by
  have hN := (sc_is_between).nd
  exact (dss_one (ds_ret (de_and (de_callD A.ok_is_integer hr (by decide) hgd rfl (takes_of rfl rfl rfl rfl) (da_cons (dv 0) da_nil)) (de_one (de_chain op_le s2_IB op_le s2_IB (dv 1) (de_callTy call_int1 sn_int1 rfl A.f_int bt_int (da_cons (dv 0) da_nil)) (dv 2))))))
theorem Hd.ok_is_between (A : Hd K mg) : CallD P w K mg base 2 "is_between" ["thing", "least", "most"] sp_is_between := by
  obtain ⟨fd, F⟩ := A.c.def_ 8
  exact ⟨_, fd, A.g_is_between, F.kp, F.bindsN fun _ _ _ _ _ _ us hl => match us, hl with | [_, _, _], _ => rfl, def_ok F sc_is_between (fun ds μ Q Xd h => h.1) (fun cdv A2 fr s H E hr hgd => d_is_between A hr hgd) fun ds μ Q Xd h => h.2⟩
/-! is_triple -/
abbrev N_is_triple : List Str := ["thing", "many", "index"]
theorem sc_is_triple : FnScope N_is_triple ["thing", "many"] (defScope (top 28)) := ⟨rfl, rfl, rfl, by decide +kernel, rfl, by decide +kernel, by decide +kernel⟩
def w_is_triple : WS := (sSeq (sIf (wOr (wNot (wB (wN (fIsi isiT) (wCons (wVar 0) (wCons (wC (.ty "tuple")) wNil))))) (wB (w2 fNeU (wN fLen (wCons (wVar 0) wNil)) (wC (.int (3))))))
  (sRet (wC (.bl false)))
  sNext)
 (sSeq (sIf (wNot (wB (wN fAll (wCons (wLc (wiT (wVar 0)) (kNameC 2) wYes (wCall sp_is_between (wCons (wVar 2) (wCons (wC (.int (0))) (wCons (w2 fSub (wVar 1) (wC (.int (1)))) wNil)))) [2]) wNil))))
  (sRet (wC (.bl false)))
  sNext)
 (sRet (wAndV (w2 fNeU (w2 fIx (wVar 0) (wC (.int (0)))) (w2 fIx (wVar 0) (wC (.int (1))))) (wAndV (w2 fNeU (w2 fIx (wVar 0) (wC (.int (1)))) (w2 fIx (wVar 0) (wC (.int (2))))) (w2 fNeU (w2 fIx (wVar 0) (wC (.int (2)))) (w2 fIx (wVar 0) (wC (.int (0))))))))))
def sp_is_triple : DSp := fun ds μ Q Xd => ds.length = 2 ∧ w_is_triple (defE Q Xd) (startD N_is_triple ds) μ
theorem d_is_triple (A : Hd K mg) {cdv : Value} {A2 : Around} {fr : List Env} {s : Shared} {H : Hp} {E : XK} {f : Addr} (hr : Room 2 (A2.deeper (envOfC "is_triple" (defScope (top 28)) s.heap.objs.size f cdv))) (hgd : (A2.deeper (envOfC "is_triple" (defScope (top 28)) s.heap.objs.size f cdv)).guards = some []) :
    DSs none (fun cls d _ H2 => E cls d H2) (cxOf (L2.CX P w) P w K mg base N_is_triple "is_triple" (defScope (top 28)) f cdv A2 fr s H E) (defBody (top 28)) w_is_triple := by
  have hN := (sc_is_triple).nd
  exact (dss_cons (ds_if (dt_w (dw_or (dt_not (dt_val (de_callB call_isi (sn_isi A.isi) rfl A.f_isinstance bt_isinstance (da_cons (dv 0) (da_cons (de_ty rfl A.f_tuple bt_tuple) da_nil))))) (dw_or1 (dt_cmp (op_neU (have z := room64 hr; z)) s2_neU (de_callB call_len_seq sn_len rfl A.f_len bt_len (da_cons (dv 0) da_nil)) de_int (nomark _))))) (dss_one (ds_ret de_bl)) dss_nil)
 (dss_cons (ds_if (dt_not (dt_val (de_callB (cr_all rfl) sn_all rfl A.f_all bt_all (da_cons (de_lc rfl hN (di_tup (dv 0)) (blkOk_by (own := [("index", 2)]) (by show blkC N_is_triple (defScope (top 28)) _ _ = true; decide +kernel)) (lcg_name (by decide)) (fun _ _ _ _ _ => (pg_name hN rfl (by first | exact Or.inl rfl | exact Or.inr rfl) (by first | exact .inl rfl | exact .inr rfl))) (fun _ _ _ _ _ => dts_nil) (fun _ _ _ _ _ => (de_callD A.ok_is_between hr (by decide) hgd rfl takes0 (da_cons (dv 2) (da_cons de_int (da_cons (de_sub (dv 1) de_int) da_nil)))))) da_nil)))) (dss_one (ds_ret de_bl)) dss_nil)
 (dss_one (ds_ret (de_and (de_cmp (op_neU (have z := room64 hr; z)) s2_neU (de_item (dv 0) de_int) (de_item (dv 0) de_int) (nomark _)) (de_and (de_cmp (op_neU (have z := room64 hr; z)) s2_neU (de_item (dv 0) de_int) (de_item (dv 0) de_int) (nomark _)) (de_one (de_cmp (op_neU (have z := room64 hr; z)) s2_neU (de_item (dv 0) de_int) (de_item (dv 0) de_int) (nomark _)))))))))
theorem Hd.ok_is_triple (A : Hd K mg) : CallD P w K mg base 3 "is_triple" ["thing", "many"] sp_is_triple := by
  obtain ⟨fd, F⟩ := A.c.def_ 9
  exact ⟨_, fd, A.g_is_triple, F.kp, F.bindsN fun _ _ _ _ _ _ us hl => match us, hl with | [_, _], _ => rfl, def_ok F sc_is_triple (fun ds μ Q Xd h => h.1) (fun cdv A2 fr s H E hr hgd => d_is_triple A hr hgd) fun ds μ Q Xd h => h.2⟩
/-! check_triples -/
abbrev N_check_triples : List Str := ["triples", "many", "number", "thing"]
theorem sc_check_triples : FnScope N_check_triples ["triples", "many"] (defScope (top 29)) := ⟨rfl, rfl, rfl, by decide +kernel, rfl, by decide +kernel, by decide +kernel⟩
def w_check_triples : WS := (sSeq (sIf (wOr (wNot (wB (wN (fIsi isiT) (wCons (wVar 0) (wCons (wC (.ty "list")) wNil))))) (wB (w2 fGt (wN fLen (wCons (wVar 0) wNil)) (wC (.int (100))))))
  (sRaise "InvalidNet" ["part", "number"] (wCons (wC (.str "triples")) (wCons (wC .non) wNil)))
  sNext)
 (sForC (wiEnC (wCons (wVar 0) wNil)) (kTup 2 (kCons (kName 2) (kCons (kName 3) kNil)))
  (sIf (wNot (wB (wCall sp_is_triple (wCons (wVar 3) (wCons (wVar 1) wNil)))))
  (sRaise "InvalidNet" ["part", "number"] (wCons (wC (.str "triples")) (wCons (wVar 2) wNil)))
  sNext)))
def sp_check_triples : DSp := fun ds μ Q Xd => ds.length = 2 ∧ w_check_triples (defE Q Xd) (startD N_check_triples ds) μ
theorem d_check_triples (A : Hd K mg) {cdv : Value} {A2 : Around} {fr : List Env} {s : Shared} {H : Hp} {E : XK} {f : Addr} (hr : Room 3 (A2.deeper (envOfC "check_triples" (defScope (top 29)) s.heap.objs.size f cdv))) (hgd : (A2.deeper (envOfC "check_triples" (defScope (top 29)) s.heap.objs.size f cdv)).guards = some []) :
    DSs none (fun cls d _ H2 => E cls d H2) (cxOf (L2.CX P w) P w K mg base N_check_triples "check_triples" (defScope (top 29)) f cdv A2 fr s H E) (defBody (top 29)) w_check_triples := by
  have hN := (sc_check_triples).nd
  exact (dss_cons (ds_if (dt_w (dw_or (dt_not (dt_val (de_callB call_isi (sn_isi A.isi) rfl A.f_isinstance bt_isinstance (da_cons (dv 0) (da_cons (de_ty rfl A.f_list bt_list) da_nil))))) (dw_or1 (dt_cmp op_gt s2_IB (de_callB call_len_seq sn_len rfl A.f_len bt_len (da_cons (dv 0) da_nil)) (de_gintE rfl A.c_MOST_POINTS) (nomark _))))) (dss_one (ds_raiseD A.rx_InvalidNet rfl hr (by decide) rfl (takes_of rfl rfl rfl rfl) (da_cons de_str (da_cons de_non da_nil)))) dss_nil)
 (dss_one (ds_forC (passes_of rfl) rfl (di_enC (by rfl) A.f_enumerate (da_cons (dv 0) da_nil)) (dg_tup rfl (dgs_cons (dg_name hN rfl) (dgs_cons (dg_name hN rfl) dgs_nil))) (dss_one (ds_if (dt_not (dt_val (de_callD A.ok_is_triple hr (by decide) hgd rfl (takes_of rfl rfl rfl rfl) (da_cons (dv 3) (da_cons (dv 1) da_nil))))) (dss_one (ds_raiseD A.rx_InvalidNet rfl hr (by decide) rfl (takes_of rfl rfl rfl rfl) (da_cons de_str (da_cons (dv 2) da_nil)))) dss_nil)))))
theorem Hd.ok_check_triples (A : Hd K mg) : CallD P w K mg base 4 "check_triples" ["triples", "many"] sp_check_triples := by
  obtain ⟨fd, F⟩ := A.c.def_ 10
  exact ⟨_, fd, A.g_check_triples, F.kp, F.bindsN fun _ _ _ _ _ _ us hl => match us, hl with | [_, _], _ => rfl, def_ok F sc_check_triples (fun ds μ Q Xd h => h.1) (fun cdv A2 fr s H E hr hgd => d_check_triples A hr hgd) fun ds μ Q Xd h => h.2⟩
/-! Net_init -/
abbrev N_Net_init : List Str := ["self", "points", "triples", "thing"]
theorem sc_Net_init : FnScope N_Net_init ["self", "points", "triples"] (defScope (inClass (top 30) 0)) := ⟨rfl, rfl, rfl, by decide +kernel, rfl, by decide +kernel, by decide +kernel⟩
def w_Net_init : WS := (sSeq (sDrop (wCall sp_check_points (wCons (wVar 1) wNil)))
 (sSeq (sDrop (wCall sp_check_triples (wCons (wVar 2) (wCons (wN fLen (wCons (wVar 1) wNil)) wNil))))
 (sSeq (sFldO "Net" 0 "pairs" (wLcU (wiCel (wVar 1)) (kNameC 3) wYes (wCall sp_numbers_of (wCons (wVar 3) wNil)) [3]))
 (sFldO "Net" 0 "own_triples" (wN fListOf (wCons (wVar 2) wNil))))))
def sp_Net_init : ISp := fun ds μ Q Xd => ds.length = 2 ∧ ∀ a, w_Net_init (defI "Net" a Q Xd) (startI N_Net_init "Net" a ds) μ
theorem d_Net_init (A : Hd K mg) {cdv : Value} {A2 : Around} {fr : List Env} {s : Shared} {H : Hp} {E : XK} {f : Addr} (hr : Room 4 (A2.deeper (envOfC "Net.__init__" (defScope (inClass (top 30) 0)) s.heap.objs.size f cdv))) (hgd : (A2.deeper (envOfC "Net.__init__" (defScope (inClass (top 30) 0)) s.heap.objs.size f cdv)).guards = some []) :
    DSs none (fun cls d _ H2 => E cls d H2) (cxOf (L2.CX P w) P w K mg base N_Net_init "Net.__init__" (defScope (inClass (top 30) 0)) f cdv A2 fr s H E) (defBody (inClass (top 30) 0)) w_Net_init := by
  have hN := (sc_Net_init).nd
  exact (dss_cons (ds_expr (de_callD A.ok_check_points hr (by decide) hgd rfl (takes_of rfl rfl rfl rfl) (da_cons (dv 1) da_nil)))
 (dss_cons (ds_expr (de_callD A.ok_check_triples hr (by decide) hgd rfl (takes_of rfl rfl rfl rfl) (da_cons (dv 2) (da_cons (de_callB call_len_seq sn_len rfl A.f_len bt_len (da_cons (dv 1) da_nil)) da_nil))))
 (dss_cons (ds_fldOD A.fl_Net_pairs rfl (de_lcU rfl hN (di_cel (dv 1)) (blkOk_by (own := [("thing", 3)]) (by show blkC N_Net_init (defScope (inClass (top 30) 0)) _ _ = true; decide +kernel)) (lcg_name (by decide)) (fun _ _ _ _ _ => (pg_name hN rfl (by first | exact Or.inl rfl | exact Or.inr rfl) (by first | exact .inl rfl | exact .inr rfl))) (fun _ _ _ _ _ => dts_nil) (fun _ _ _ _ _ => (de_callD A.ok_numbers_of hr (by decide) hgd rfl takes0 (da_cons (dv 3) da_nil)))))
 (dss_one (ds_fldOD A.fl_Net_own_triples rfl (de_callTy call_list_of sn_listOf rfl A.f_list bt_list (da_cons (dv 2) da_nil)))))))
theorem Hd.ok_Net_init (A : Hd K mg) : MakeD P w K mg base 5 "Net" ["self", "points", "triples"] sp_Net_init := by
  obtain ⟨fd, F⟩ := A.c.def_ 11
  refine ⟨_, _, fd, A.g_Net, He.mkr_ok (A.c.fact 58), F.bindsN fun _ _ _ _ _ _ us hl => match us, hl with | [_, _, _], _ => rfl, def_okI F sc_Net_init (fun ds μ Q Xd h => by rw [h.1]; rfl) (fun cdv A2 fr s H E hr hgd => d_Net_init A hr hgd) fun ds μ Q Xd a h => h.2 a⟩
/-! ascending -/
abbrev N_ascending : List Str := ["ways", "found", "first", "last", "i", "j"]
theorem sc_ascending : FnScope N_ascending ["ways"] (defScope (top 31)) := ⟨rfl, rfl, rfl, by decide +kernel, rfl, by decide +kernel, by decide +kernel⟩
def w_ascending : WS := (sSeq (sSetO 1 wNil)
 (sSeq (sFor (wiR1 (wCons (wC (.int (100))) wNil)) (kName 2)
  (sExtO 1 (wCons (wLc (wiL (wN fSorted (wCons (wLc (wiL (wVar 0)) (kTup 2 (kCons (kNameC 4) (kCons (kNameC 5) kNil))) (wB (w2 fEqU (wVar 4) (wVar 2))) (wN fInt1 (wCons (wVar 5) wNil)) [4, 5]) wNil))) (kNameC 3) wYes (wTup (wCons (wVar 2) (wCons (wVar 3) wNil))) [3]) wNil)))
 (sFrz 1 (sRet (wVar 1)))))
def sp_ascending : DSp := fun ds μ Q Xd => ds.length = 1 ∧ w_ascending (defE Q Xd) (startD N_ascending ds) μ
theorem d_ascending (A : Hd K mg) {cdv : Value} {A2 : Around} {fr : List Env} {s : Shared} {H : Hp} {E : XK} {f : Addr} (hr : Room 0 (A2.deeper (envOfC "ascending" (defScope (top 31)) s.heap.objs.size f cdv))) (hgd : (A2.deeper (envOfC "ascending" (defScope (top 31)) s.heap.objs.size f cdv)).guards = some []) :
    DSs none (fun cls d _ H2 => E cls d H2) (cxOf (L2.CX P w) P w K mg base N_ascending "ascending" (defScope (top 31)) f cdv A2 fr s H E) (defBody (top 31)) w_ascending := by
  have hN := (sc_ascending).nd
  exact (dss_cons (ds_setO (i := 1) hN rfl da_nil)
 (dss_cons (ds_for (passes_of rfl) rfl (di_range1 (by rfl) A.f_range (da_cons (de_gintE rfl A.c_MOST_POINTS) da_nil)) (dg_name hN rfl) (dss_one (ds_extO (i := 1) rfl (da_cons (de_lc rfl hN (di_list (de_callB cr_sorted sn_sorted (by rfl) A.f_sorted bt_sorted (da_cons (de_lc (by rfl) hN (di_list (dv 0)) (blkOk_by (own := [("i", 4), ("j", 5)]) (by show blkC N_ascending (defScope (top 31)) _ _ = true; decide +kernel)) (lcg_tup (lcgs_cons (lcg_name (by decide)) (lcgs_cons (lcg_name (by decide)) lcgs_nil))) (fun _ _ _ _ _ => (pg_tup (by rfl) (pgs_cons (pg_name hN (by rfl) (by first | exact Or.inl (by rfl) | exact Or.inr (by rfl)) (by first | exact .inl (by rfl) | exact .inr (by rfl))) (pgs_cons (pg_name hN (by rfl) (by first | exact Or.inl (by rfl) | exact Or.inr (by rfl)) (by first | exact .inl (by rfl) | exact .inr (by rfl))) pgs_nil)))) (fun _ _ _ _ _ => (dts_one (dt_cmp (op_eqU (have z := room64 hr; z)) s2_eqU (dv 4) (dv 2) (nomark _)))) (fun _ _ _ _ _ => (de_callTy call_int1 sn_int1 (by rfl) A.f_int bt_int (da_cons (dv 5) da_nil)))) da_nil))) (blkOk_by (own := [("last", 3)]) (by show blkC N_ascending (defScope (top 31)) _ _ = true; decide +kernel)) (lcg_name (by decide)) (fun _ _ _ _ _ => (pg_name hN rfl (by first | exact Or.inl rfl | exact Or.inr rfl) (by first | exact .inl rfl | exact .inr rfl))) (fun _ _ _ _ _ => dts_nil) (fun _ _ _ _ _ => (de_tup (da_cons (dv 2) (da_cons (dv 3) da_nil))))) da_nil))))
 (dss_one (ds_frz 1 (ds_ret (dv 1))))))
theorem Hd.ok_ascending (A : Hd K mg) : CallD P w K mg base 1 "ascending" ["ways"] sp_ascending := by
  obtain ⟨fd, F⟩ := A.c.def_ 12
  exact ⟨_, fd, A.g_ascending, F.kp, F.bindsN fun _ _ _ _ _ _ us hl => match us, hl with | [_], _ => rfl, def_ok F sc_ascending (fun ds μ Q Xd h => h.1) (fun cdv A2 fr s H E hr hgd => d_ascending A hr hgd) fun ds μ Q Xd h => h.2⟩
/-! Net_rim -/
abbrev N_Net_rim : List Str := ["self", "found", "i", "j", "k", "way", "back"]
theorem sc_Net_rim : FnScope N_Net_rim ["self"] (defScope (inClass (top 30) 3)) := ⟨rfl, rfl, rfl, by decide +kernel, rfl, by decide +kernel, by decide +kernel⟩
def w_Net_rim : WS := (sSeq (sSetO 1 wNil)
 (sSeq (sFor (wiL (w1 (fFld "Net" "own_triples") (wVar 0))) (kTup 3 (kCons (kName 2) (kCons (kName 3) (kCons (kName 4) kNil))))
  (sFor (wiT (wTup (wCons (wTup (wCons (wVar 2) (wCons (wVar 3) wNil))) (wCons (wTup (wCons (wVar 3) (wCons (wVar 4) wNil))) (wCons (wTup (wCons (wVar 4) (wCons (wVar 2) wNil))) wNil))))) (kName 5)
  (sSeq (sSet 6 (wTup (wCons (w2 fIx (wVar 5) (wC (.int (1)))) (wCons (w2 fIx (wVar 5) (wC (.int (0)))) wNil))))
 (sIf (wB (wOwnIn false 1 (wVar 6)))
  (sRemO 1 (wCons (wVar 6) wNil))
  (sAppO 1 (wCons (wVar 5) wNil))))))
 (sFrz 1 (sRet (wCall sp_ascending (wCons (wVar 1) wNil))))))
def sp_Net_rim : DSp := fun ds μ Q Xd => ds.length = 1 ∧ w_Net_rim (defE Q Xd) (startD N_Net_rim ds) μ
theorem d_Net_rim (A : Hd K mg) {cdv : Value} {A2 : Around} {fr : List Env} {s : Shared} {H : Hp} {E : XK} {f : Addr} (hr : Room 1 (A2.deeper (envOfC "Net.rim" (defScope (inClass (top 30) 3)) s.heap.objs.size f cdv))) (hgd : (A2.deeper (envOfC "Net.rim" (defScope (inClass (top 30) 3)) s.heap.objs.size f cdv)).guards = some []) :
    DSs none (fun cls d _ H2 => E cls d H2) (cxOf (L2.CX P w) P w K mg base N_Net_rim "Net.rim" (defScope (inClass (top 30) 3)) f cdv A2 fr s H E) (defBody (inClass (top 30) 3)) w_Net_rim := by
  have hN := (sc_Net_rim).nd
  exact (dss_cons (ds_setO (i := 1) hN rfl da_nil)
 (dss_cons (ds_for (passes_of rfl) rfl (di_list (de_fldD A.fl_Net_own_triples (dv 0))) (dg_tup rfl (dgs_cons (dg_name hN rfl) (dgs_cons (dg_name hN rfl) (dgs_cons (dg_name hN rfl) dgs_nil)))) (dss_one (ds_for (passes_of rfl) rfl (di_tup (de_tup (da_cons (de_tup (da_cons (dv 2) (da_cons (dv 3) da_nil))) (da_cons (de_tup (da_cons (dv 3) (da_cons (dv 4) da_nil))) (da_cons (de_tup (da_cons (dv 4) (da_cons (dv 2) da_nil))) da_nil))))) (dg_name hN rfl) (dss_cons (ds_set (i := 6) hN rfl (de_tup (da_cons (de_item (dv 5) de_int) (da_cons (de_item (dv 5) de_int) da_nil))))
 (dss_one (ds_if (dt_ownIn (have z := room65 hr; z) rfl (dv 6) (by with_unfolding_all rfl)) (dss_one (ds_remO (i := 1) (have z := room65 hr; z) rfl (da_cons (dv 6) da_nil))) (dss_one (ds_appO (i := 1) rfl (da_cons (dv 5) da_nil)))))))))
 (dss_one (ds_frz 1 (ds_ret (de_callD A.ok_ascending hr (by decide) hgd rfl (takes_of rfl rfl rfl rfl) (da_cons (dv 1) da_nil)))))))
theorem Hd.ok_Net_rim (A : Hd K mg) : MethD P w K mg base 2 "Net" "rim" ["self"] sp_Net_rim := by
  obtain ⟨fd, F⟩ := A.c.def_ 13
  exact ⟨_, _, fd, A.g_Net, He.cls_ok (A.c.fact 51), He.meth_ok (A.c.fact 60), F.bindsN fun _ _ _ _ _ _ us hl => match us, hl with | [_], _ => rfl, def_ok F sc_Net_rim (fun ds μ Q Xd h => h.1) (fun cdv A2 fr s H E hr hgd => d_Net_rim A hr hgd) fun ds μ Q Xd h => h.2⟩
/-! Point_init -/
abbrev N_Point_init : List Str := ["self", "x", "y"]
theorem sc_Point_init : FnScope N_Point_init ["self", "x", "y"] (defScope (inClass (top 13) 0)) := ⟨rfl, rfl, rfl, by decide +kernel, rfl, by decide +kernel, by decide +kernel⟩
def w_Point_init : WS := (sSeq (sIf (wOr (wNot (wB (wCall sp_is_integer (wCons (wVar 1) wNil)))) (wNot (wB (wCall sp_is_integer (wCons (wVar 2) wNil)))))
  (sRaise "InvalidPoint" ["thing"] (wCons (wTup (wCons (wVar 1) (wCons (wVar 2) wNil))) wNil))
  sNext)
 (sSeq (sFldO "Point" 0 "x" (wVar 1))
 (sFldO "Point" 0 "y" (wVar 2))))
def sp_Point_init : ISp := fun ds μ Q Xd => ds.length = 2 ∧ ∀ a, w_Point_init (defI "Point" a Q Xd) (startI N_Point_init "Point" a ds) μ
theorem d_Point_init (A : Hd K mg) {cdv : Value} {A2 : Around} {fr : List Env} {s : Shared} {H : Hp} {E : XK} {f : Addr} (hr : Room 2 (A2.deeper (envOfC "Point.__init__" (defScope (inClass (top 13) 0)) s.heap.objs.size f cdv))) (hgd : (A2.deeper (envOfC "Point.__init__" (defScope (inClass (top 13) 0)) s.heap.objs.size f cdv)).guards = some []) :
    DSs none (fun cls d _ H2 => E cls d H2) (cxOf (L2.CX P w) P w K mg base N_Point_init "Point.__init__" (defScope (inClass (top 13) 0)) f cdv A2 fr s H E) (defBody (inClass (top 13) 0)) w_Point_init := by
  have hN := (sc_Point_init).nd
  exact (dss_cons (ds_if (dt_w (dw_or (dt_not (dt_val (de_callD A.ok_is_integer hr (by decide) hgd rfl (takes_of rfl rfl rfl rfl) (da_cons (dv 1) da_nil)))) (dw_or1 (dt_not (dt_val (de_callD A.ok_is_integer hr (by decide) hgd rfl (takes_of rfl rfl rfl rfl) (da_cons (dv 2) da_nil))))))) (dss_one (ds_raiseD A.rx_InvalidPoint rfl hr (by decide) rfl (takes_of rfl rfl rfl rfl) (da_cons (de_tup (da_cons (dv 1) (da_cons (dv 2) da_nil))) da_nil))) dss_nil)
 (dss_cons (ds_fldOD A.fl_Point_x rfl (dv 1))
 (dss_one (ds_fldOD A.fl_Point_y rfl (dv 2)))))
theorem Hd.ok_Point_init (A : Hd K mg) : MakeD P w K mg base 3 "Point" ["self", "x", "y"] sp_Point_init := by
  obtain ⟨fd, F⟩ := A.c.def_ 14
  refine ⟨_, _, fd, A.g_Point, He.mkr_ok (A.c.fact 59), F.bindsN fun _ _ _ _ _ _ us hl => match us, hl with | [_, _, _], _ => rfl, def_okI F sc_Point_init (fun ds μ Q Xd h => by rw [h.1]; rfl) (fun cdv A2 fr s H E hr hgd => d_Point_init A hr hgd) fun ds μ Q Xd a h => h.2 a⟩
/-! _law_hand -/
abbrev N__law_hand : List Str := ["script", "k", "cell", "seed"]
theorem sc__law_hand : FnScope N__law_hand ["script", "k"] (defScope (top 53)) := ⟨rfl, rfl, rfl, by decide +kernel, rfl, by decide +kernel, by decide +kernel⟩
def w__law_hand : WS := (sSeq (sSet 2 (w2 fIx (w2 fPlus (wSl (wVar 0) (oSome (wVar 1)) (oSome (w2 fPlus (wVar 1) (wC (.int (1)))))) (wLst (wCons (wC (.int (0))) wNil))) (wC (.int (0)))))
 (sSeq (sSet 3 (w2 fMod (w2 fTimes (w2 fPlus (w2 fPlus (w2 fMod (wN fInt1 (wCons (wVar 2) wNil)) (wC (.int (2147483647)))) (w2 fTimes (wC (.int (7919))) (wVar 1))) (wC (.int (1)))) (wC (.int (48271)))) (wC (.int (2147483629)))))
 (sRet (wLstC (wCons (w2 fTimes (wN fInt1 (wCons (w2 fGe (wVar 2) (w2 fPow (wC (.int (10))) (wC (.int (18))))) wNil)) (wVar 2)) (wCons (wVar 3) wNil))))))
def sp__law_hand : DSp := fun ds μ Q Xd => ds.length = 2 ∧ w__law_hand (defE Q Xd) (startD N__law_hand ds) μ
theorem d__law_hand (A : Hd K mg) {cdv : Value} {A2 : Around} {fr : List Env} {s : Shared} {H : Hp} {E : XK} {f : Addr} (hr : Room 0 (A2.deeper (envOfC "_law_hand" (defScope (top 53)) s.heap.objs.size f cdv))) (hgd : (A2.deeper (envOfC "_law_hand" (defScope (top 53)) s.heap.objs.size f cdv)).guards = some []) :
    DSs none (fun cls d _ H2 => E cls d H2) (cxOf (L2.CX P w) P w K mg base N__law_hand "_law_hand" (defScope (top 53)) f cdv A2 fr s H E) (defBody (top 53)) w__law_hand := by
  have hN := (sc__law_hand).nd
  exact (dss_cons (ds_set (i := 2) hN rfl (de_item (de_plus (de_slice (dv 0) (do_some (dv 1)) (do_some (de_plus (dv 1) de_int))) (de_lst (da_cons de_int da_nil))) de_int))
 (dss_cons (ds_set (i := 3) hN rfl (de_mod (de_times (de_plus (de_plus (de_mod (de_callTy call_int1 sn_int1 rfl A.f_int bt_int (da_cons (dv 2) da_nil)) de_int) (de_times de_int (dv 1))) de_int) de_int) de_int))
 (dss_one (ds_ret (de_lstC (da_cons (de_times (de_callTy call_int1 sn_int1 rfl A.f_int bt_int (da_cons (de_cmp op_ge s2_IB (dv 2) (de_pow de_int de_int) (nomark _)) da_nil)) (dv 2)) (da_cons (dv 3) da_nil)))))))
theorem Hd.ok__law_hand (A : Hd K mg) : CallD P w K mg base 1 "_law_hand" ["script", "k"] sp__law_hand := by
  obtain ⟨fd, F⟩ := A.c.def_ 15
  exact ⟨_, fd, A.g__law_hand, F.kp, F.bindsN fun _ _ _ _ _ _ us hl => match us, hl with | [_, _], _ => rfl, def_ok F sc__law_hand (fun ds μ Q Xd h => h.1) (fun cdv A2 fr s H E hr hgd => d__law_hand A hr hgd) fun ds μ Q Xd h => h.2⟩
/-! _law_left -/
abbrev N__law_left : List Str := ["ways", "found", "way"]
theorem sc__law_left : FnScope N__law_left ["ways"] (defScope (top 58)) := ⟨rfl, rfl, rfl, by decide +kernel, rfl, by decide +kernel, by decide +kernel⟩
def w__law_left : WS := (sSeq (sSetO 1 wNil)
 (sSeq (sFor (wiL (wVar 0)) (kName 2)
  (sIf (wB (wOwnIn false 1 (wTup (wCons (w2 fIx (wVar 2) (wC (.int (1)))) (wCons (w2 fIx (wVar 2) (wC (.int (0)))) wNil)))))
  (sRemO 1 (wCons (wTup (wCons (w2 fIx (wVar 2) (wC (.int (1)))) (wCons (w2 fIx (wVar 2) (wC (.int (0)))) wNil))) wNil))
  (sAppO 1 (wCons (wVar 2) wNil))))
 (sFrz 1 (sRet (wVar 1)))))
def sp__law_left : DSp := fun ds μ Q Xd => ds.length = 1 ∧ w__law_left (defE Q Xd) (startD N__law_left ds) μ
theorem d__law_left (A : Hd K mg) {cdv : Value} {A2 : Around} {fr : List Env} {s : Shared} {H : Hp} {E : XK} {f : Addr} (hr : Room 0 (A2.deeper (envOfC "_law_left" (defScope (top 58)) s.heap.objs.size f cdv))) (hgd : (A2.deeper (envOfC "_law_left" (defScope (top 58)) s.heap.objs.size f cdv)).guards = some []) :
    DSs none (fun cls d _ H2 => E cls d H2) (cxOf (L2.CX P w) P w K mg base N__law_left "_law_left" (defScope (top 58)) f cdv A2 fr s H E) (defBody (top 58)) w__law_left := by
  have hN := (sc__law_left).nd
  exact (dss_cons (ds_setO (i := 1) hN rfl da_nil)
 (dss_cons (ds_for (passes_of rfl) rfl (di_list (dv 0)) (dg_name hN rfl) (dss_one (ds_if (dt_ownIn (have z := room65 hr; z) rfl (de_tup (da_cons (de_item (dv 2) de_int) (da_cons (de_item (dv 2) de_int) da_nil))) (by with_unfolding_all rfl)) (dss_one (ds_remO (i := 1) (have z := room65 hr; z) rfl (da_cons (de_tup (da_cons (de_item (dv 2) de_int) (da_cons (de_item (dv 2) de_int) da_nil))) da_nil))) (dss_one (ds_appO (i := 1) rfl (da_cons (dv 2) da_nil))))))
 (dss_one (ds_frz 1 (ds_ret (dv 1))))))
theorem Hd.ok__law_left (A : Hd K mg) : CallD P w K mg base 1 "_law_left" ["ways"] sp__law_left := by
  obtain ⟨fd, F⟩ := A.c.def_ 16
  exact ⟨_, fd, A.g__law_left, F.kp, F.bindsN fun _ _ _ _ _ _ us hl => match us, hl with | [_], _ => rfl, def_ok F sc__law_left (fun ds μ Q Xd h => h.1) (fun cdv A2 fr s H E hr hgd => d__law_left A hr hgd) fun ds μ Q Xd h => h.2⟩
/-! _law_draw -/
abbrev N__law_draw : List Str := ["pool", "many", "found"]
theorem sc__law_draw : FnScope N__law_draw ["pool", "many"] (defScope (top 54)) := ⟨rfl, rfl, rfl, by decide +kernel, rfl, by decide +kernel, by decide +kernel⟩
def w__law_draw : WS := (sSeq (sIf (wB (w2 fGt (w2 fIx (wVar 0) (wC (.int (0)))) (wC (.int (0)))))
  (sSeq (sSet 2 (w2 fMod (wN fInt1 (wCons (w2 fIx (wVar 0) (wC (.int (0)))) wNil)) (wVar 1)))
 (sSeq (sAsg (w2 fDiv (w2 fIx (wVar 0) (wC (.int (0)))) (wVar 1)) (kSub (wVar 0) (wC (.int (0)))))
 (sRet (wVar 2))))
  sNext)
 (sSeq (sAsg (w2 fMod (wN fInt1 (wCons (w2 fPlus (w2 fTimes (w2 fIx (wVar 0) (wC (.int (1)))) (wC (.int (48271)))) (wC (.int (11)))) wNil)) (wC (.int (2147483647)))) (kSub (wVar 0) (wC (.int (1)))))
 (sRet (w2 fMod (w2 fDiv (w2 fMod (wN fInt1 (wCons (w2 fTimes (w2 fIx (wVar 0) (wC (.int (1)))) (w2 fIx (wVar 0) (wC (.int (1))))) wNil)) (wC (.int (2147483629)))) (wC (.int (64)))) (wVar 1)))))
def sp__law_draw : DSp := fun ds μ Q Xd => ds.length = 2 ∧ w__law_draw (defE Q Xd) (startD N__law_draw ds) μ
theorem d__law_draw (A : Hd K mg) {cdv : Value} {A2 : Around} {fr : List Env} {s : Shared} {H : Hp} {E : XK} {f : Addr} (hr : Room 0 (A2.deeper (envOfC "_law_draw" (defScope (top 54)) s.heap.objs.size f cdv))) (hgd : (A2.deeper (envOfC "_law_draw" (defScope (top 54)) s.heap.objs.size f cdv)).guards = some []) :
    DSs none (fun cls d _ H2 => E cls d H2) (cxOf (L2.CX P w) P w K mg base N__law_draw "_law_draw" (defScope (top 54)) f cdv A2 fr s H E) (defBody (top 54)) w__law_draw := by
  have hN := (sc__law_draw).nd
  exact (dss_cons (ds_if (dt_cmp op_gt s2_IB (de_item (dv 0) de_int) de_int (nomark _)) (dss_cons (ds_set (i := 2) hN rfl (de_mod (de_callTy call_int1 sn_int1 rfl A.f_int bt_int (da_cons (de_item (dv 0) de_int) da_nil)) (dv 1)))
 (dss_cons (ds_asg (de_div (de_item (dv 0) de_int) (dv 1)) (dg_sub (dv 0) de_int))
 (dss_one (ds_ret (dv 2))))) dss_nil)
 (dss_cons (ds_asg (de_mod (de_callTy call_int1 sn_int1 rfl A.f_int bt_int (da_cons (de_plus (de_times (de_item (dv 0) de_int) de_int) de_int) da_nil)) de_int) (dg_sub (dv 0) de_int))
 (dss_one (ds_ret (de_mod (de_div (de_mod (de_callTy call_int1 sn_int1 rfl A.f_int bt_int (da_cons (de_times (de_item (dv 0) de_int) (de_item (dv 0) de_int)) da_nil)) de_int) de_int) (dv 1))))))
theorem Hd.ok__law_draw (A : Hd K mg) : CallD P w K mg base 1 "_law_draw" ["pool", "many"] sp__law_draw := by
  obtain ⟨fd, F⟩ := A.c.def_ 17
  exact ⟨_, fd, A.g__law_draw, F.kp, F.bindsN fun _ _ _ _ _ _ us hl => match us, hl with | [_, _], _ => rfl, def_ok F sc__law_draw (fun ds μ Q Xd h => h.1) (fun cdv A2 fr s H E hr hgd => d__law_draw A hr hgd) fun ds μ Q Xd h => h.2⟩
/-! _law_pair -/
abbrev N__law_pair : List Str := ["pool", "size_here"]
theorem sc__law_pair : FnScope N__law_pair ["pool", "size_here"] (defScope (top 55)) := ⟨rfl, rfl, rfl, by decide +kernel, rfl, by decide +kernel, by decide +kernel⟩
def w__law_pair : WS := (sRet (wTup (wCons (w2 fSub (wCall sp__law_draw (wCons (wVar 0) (wCons (w2 fPlus (w2 fTimes (wC (.int (2))) (wVar 1)) (wC (.int (1)))) wNil))) (wVar 1)) (wCons (w2 fSub (wCall sp__law_draw (wCons (wVar 0) (wCons (w2 fPlus (w2 fTimes (wC (.int (2))) (wVar 1)) (wC (.int (1)))) wNil))) (wVar 1)) wNil))))
def sp__law_pair : DSp := fun ds μ Q Xd => ds.length = 2 ∧ w__law_pair (defE Q Xd) (startD N__law_pair ds) μ
theorem d__law_pair (A : Hd K mg) {cdv : Value} {A2 : Around} {fr : List Env} {s : Shared} {H : Hp} {E : XK} {f : Addr} (hr : Room 1 (A2.deeper (envOfC "_law_pair" (defScope (top 55)) s.heap.objs.size f cdv))) (hgd : (A2.deeper (envOfC "_law_pair" (defScope (top 55)) s.heap.objs.size f cdv)).guards = some []) :
    DSs none (fun cls d _ H2 => E cls d H2) (cxOf (L2.CX P w) P w K mg base N__law_pair "_law_pair" (defScope (top 55)) f cdv A2 fr s H E) (defBody (top 55)) w__law_pair := by
  have hN := (sc__law_pair).nd
  exact (dss_one (ds_ret (de_tup (da_cons (de_sub (de_callD A.ok__law_draw hr (by decide) hgd rfl (takes_of rfl rfl rfl rfl) (da_cons (dv 0) (da_cons (de_plus (de_times de_int (dv 1)) de_int) da_nil))) (dv 1)) (da_cons (de_sub (de_callD A.ok__law_draw hr (by decide) hgd rfl (takes_of rfl rfl rfl rfl) (da_cons (dv 0) (da_cons (de_plus (de_times de_int (dv 1)) de_int) da_nil))) (dv 1)) da_nil)))))
theorem Hd.ok__law_pair (A : Hd K mg) : CallD P w K mg base 2 "_law_pair" ["pool", "size_here"] sp__law_pair := by
  obtain ⟨fd, F⟩ := A.c.def_ 18
  exact ⟨_, fd, A.g__law_pair, F.kp, F.bindsN fun _ _ _ _ _ _ us hl => match us, hl with | [_, _], _ => rfl, def_ok F sc__law_pair (fun ds μ Q Xd h => h.1) (fun cdv A2 fr s H E hr hgd => d__law_pair A hr hgd) fun ds μ Q Xd h => h.2⟩
/-! _law_net -/
abbrev N__law_net : List Str := ["pool", "pairs", "found", "turn", "left", "k", "one"]
theorem sc__law_net : FnScope N__law_net ["pool"] (defScope (top 56)) := ⟨rfl, rfl, rfl, by decide +kernel, rfl, by decide +kernel, by decide +kernel⟩
def w__law_net : WS := (sSeq (sSet 1 (wLc (wiR1 (wCons (w2 fPlus (wC (.int (3))) (wCall sp__law_draw (wCons (wVar 0) (wCons (wC (.int (5))) wNil)))) wNil)) (kNameC 3) wYes (wCall sp__law_pair (wCons (wVar 0) (wCons (wC (.int (5))) wNil))) [3]))
 (sSeq (sSetO 2 wNil)
 (sSeq (sFor (wiR1 (wCons (wCall sp__law_draw (wCons (wVar 0) (wCons (wC (.int (8))) wNil))) wNil)) (kName 3)
  (sSeq (sSet 4 (wLcC (wiR1 (wCons (wN fLen (wCons (wVar 1) wNil)) wNil)) (kNameC 5) wYes (wVar 5) [5]))
 (sAppO 2 (wCons (wN fTupOf (wCons (wLc (wiR1 (wCons (wC (.int (3))) wNil)) (kNameC 6) wYes (wPopL (wVar 4) (wCall sp__law_draw (wCons (wVar 0) (wCons (wN fLen (wCons (wVar 4) wNil)) wNil)))) [6]) wNil)) wNil))))
 (sFrz 2 (sRet (wTup (wCons (wVar 1) (wCons (wVar 2) wNil))))))))
def sp__law_net : DSp := fun ds μ Q Xd => ds.length = 1 ∧ w__law_net (defE Q Xd) (startD N__law_net ds) μ
theorem d__law_net (A : Hd K mg) {cdv : Value} {A2 : Around} {fr : List Env} {s : Shared} {H : Hp} {E : XK} {f : Addr} (hr : Room 2 (A2.deeper (envOfC "_law_net" (defScope (top 56)) s.heap.objs.size f cdv))) (hgd : (A2.deeper (envOfC "_law_net" (defScope (top 56)) s.heap.objs.size f cdv)).guards = some []) :
    DSs none (fun cls d _ H2 => E cls d H2) (cxOf (L2.CX P w) P w K mg base N__law_net "_law_net" (defScope (top 56)) f cdv A2 fr s H E) (defBody (top 56)) w__law_net := by
  have hN := (sc__law_net).nd
  exact (dss_cons (ds_setLc (i := 1) rfl hN rfl rfl (di_range1 (by rfl) A.f_range (da_cons (de_plus de_int (de_callD A.ok__law_draw hr (by decide) hgd (by rfl) (takes_of (by rfl) (by rfl) (by rfl) (by rfl)) (da_cons (dv 0) (da_cons de_int da_nil)))) da_nil)) (blkOk_by (own := [("turn", 3)]) (by show blkC N__law_net (defScope (top 56)) _ _ = true; decide +kernel)) (lcg_name (by decide)) (fun _ _ _ _ _ => (pg_name hN rfl (by first | exact Or.inl rfl | exact Or.inr rfl) (by first | exact .inl rfl | exact .inr rfl))) (fun _ _ _ _ _ => dts_nil) (fun _ _ _ _ _ => (de_callD A.ok__law_pair hr (by decide) hgd rfl takes0 (da_cons (dv 0) (da_cons de_int da_nil)))))
 (dss_cons (ds_setO (i := 2) hN rfl da_nil)
 (dss_cons (ds_for (passes_of rfl) rfl (di_range1 (by rfl) A.f_range (da_cons (de_callD A.ok__law_draw hr (by decide) hgd (by rfl) (takes_of (by rfl) (by rfl) (by rfl) (by rfl)) (da_cons (dv 0) (da_cons de_int da_nil))) da_nil)) (dg_name hN rfl) (dss_cons (ds_set (i := 4) hN rfl (de_lcC rfl hN (di_range1 (by rfl) A.f_range (da_cons (de_callB call_len_seq sn_len (by rfl) A.f_len bt_len (da_cons (dv 1) da_nil)) da_nil)) (blkOk_by (own := [("k", 5)]) (by show blkC N__law_net (defScope (top 56)) _ _ = true; decide +kernel)) (lcg_name (by decide)) (fun _ _ _ _ _ => (pg_name hN rfl (by first | exact Or.inl rfl | exact Or.inr rfl) (by first | exact .inl rfl | exact .inr rfl))) (fun _ _ _ _ _ => dts_nil) (fun _ _ _ _ _ => (dv 5))))
 (dss_one (ds_appO (i := 2) rfl (da_cons (de_callTy call_tuple_of sn_tupOf rfl A.f_tuple bt_tuple (da_cons (de_lc rfl hN (di_range1 (by rfl) A.f_range (da_cons de_int da_nil)) (blkOk_by (own := [("one", 6)]) (by show blkC N__law_net (defScope (top 56)) _ _ = true; decide +kernel)) (lcg_name (by decide)) (fun _ _ _ _ _ => (pg_name hN rfl (by first | exact Or.inl rfl | exact Or.inr rfl) (by first | exact .inl rfl | exact .inr rfl))) (fun _ _ _ _ _ => dts_nil) (fun _ _ _ _ _ => (de_popL (dv 4) (de_callD A.ok__law_draw hr (by decide) hgd rfl takes0 (da_cons (dv 0) (da_cons (de_callB call_len_seq sn_len rfl A.f_len bt_len (da_cons (dv 4) da_nil)) da_nil)))))) da_nil)) da_nil)))))
 (dss_one (ds_frz 2 (ds_ret (de_tup (da_cons (dv 1) (da_cons (dv 2) da_nil)))))))))
theorem Hd.ok__law_net (A : Hd K mg) : CallD P w K mg base 3 "_law_net" ["pool"] sp__law_net := by
  obtain ⟨fd, F⟩ := A.c.def_ 19
  exact ⟨_, fd, A.g__law_net, F.kp, F.bindsN fun _ _ _ _ _ _ us hl => match us, hl with | [_], _ => rfl, def_ok F sc__law_net (fun ds μ Q Xd h => h.1) (fun cdv A2 fr s H E hr hgd => d__law_net A hr hgd) fun ds μ Q Xd h => h.2⟩
/-! _law_told_half -/
abbrev N__law_told_half : List Str := ["pool", "n"]
theorem sc__law_told_half : FnScope N__law_told_half ["pool"] (defScope (top 57)) := ⟨rfl, rfl, rfl, by decide +kernel, rfl, by decide +kernel, by decide +kernel⟩
def w__law_told_half : WS := (sSeq (sSet 1 (wCall sp__law_pair (wCons (wVar 0) (wCons (wC (.int (4))) wNil))))
 (sRet (wTup (wCons (wC (.str "half")) (wCons (wIf (wB (w2 fEqU (wVar 1) (wTup (wCons (wC (.int (0))) (wCons (wC (.int (0))) wNil))))) (wTup (wCons (wC (.int (3))) (wCons (w1 fNeg (wC (.int (1)))) wNil))) (wVar 1)) (wCons (w2 fEqU (wCall sp__law_draw (wCons (wVar 0) (wCons (wC (.int (2))) wNil))) (wC (.int (0)))) wNil))))))
def sp__law_told_half : DSp := fun ds μ Q Xd => ds.length = 1 ∧ w__law_told_half (defE Q Xd) (startD N__law_told_half ds) μ
theorem d__law_told_half (A : Hd K mg) {cdv : Value} {A2 : Around} {fr : List Env} {s : Shared} {H : Hp} {E : XK} {f : Addr} (hr : Room 2 (A2.deeper (envOfC "_law_told_half" (defScope (top 57)) s.heap.objs.size f cdv))) (hgd : (A2.deeper (envOfC "_law_told_half" (defScope (top 57)) s.heap.objs.size f cdv)).guards = some []) :
    DSs none (fun cls d _ H2 => E cls d H2) (cxOf (L2.CX P w) P w K mg base N__law_told_half "_law_told_half" (defScope (top 57)) f cdv A2 fr s H E) (defBody (top 57)) w__law_told_half := by
  have hN := (sc__law_told_half).nd
  exact (dss_cons (ds_set (i := 1) hN rfl (de_callD A.ok__law_pair hr (by decide) hgd rfl (takes_of rfl rfl rfl rfl) (da_cons (dv 0) (da_cons de_int da_nil))))
 (dss_one (ds_ret (de_tup (da_cons de_str (da_cons (de_if (dt_cmp (op_eqU (have z := room64 hr; z)) s2_eqU (dv 1) (de_tup (da_cons de_int (da_cons de_int da_nil))) (nomark _)) (de_tup (da_cons de_int (da_cons (de_neg de_int) da_nil))) (dv 1)) (da_cons (de_cmp (op_eqU (have z := room64 hr; z)) s2_eqU (de_callD A.ok__law_draw hr (by decide) hgd rfl (takes_of rfl rfl rfl rfl) (da_cons (dv 0) (da_cons de_int da_nil))) de_int (nomark _)) da_nil)))))))
theorem Hd.ok__law_told_half (A : Hd K mg) : CallD P w K mg base 3 "_law_told_half" ["pool"] sp__law_told_half := by
  obtain ⟨fd, F⟩ := A.c.def_ 20
  exact ⟨_, fd, A.g__law_told_half, F.kp, F.bindsN fun _ _ _ _ _ _ us hl => match us, hl with | [_], _ => rfl, def_ok F sc__law_told_half (fun ds μ Q Xd h => h.1) (fun cdv A2 fr s H E hr hgd => d__law_told_half A hr hgd) fun ds μ Q Xd h => h.2⟩
/-! Net_corners_of -/
abbrev N_Net_corners_of : List Str := ["self", "triple", "index"]
theorem sc_Net_corners_of : FnScope N_Net_corners_of ["self", "triple"] (defScope (inClass (top 30) 7)) := ⟨rfl, rfl, rfl, by decide +kernel, rfl, by decide +kernel, by decide +kernel⟩
def w_Net_corners_of : WS := (sRet (wLc (wiT (wVar 1)) (kNameC 2) wYes (w2 fIx (w1 (fFld "Net" "pairs") (wVar 0)) (wVar 2)) [2]))
def sp_Net_corners_of : DSp := fun ds μ Q Xd => ds.length = 2 ∧ w_Net_corners_of (defE Q Xd) (startD N_Net_corners_of ds) μ
theorem d_Net_corners_of (A : Hd K mg) {cdv : Value} {A2 : Around} {fr : List Env} {s : Shared} {H : Hp} {E : XK} {f : Addr} (hr : Room 0 (A2.deeper (envOfC "Net.corners_of" (defScope (inClass (top 30) 7)) s.heap.objs.size f cdv))) (hgd : (A2.deeper (envOfC "Net.corners_of" (defScope (inClass (top 30) 7)) s.heap.objs.size f cdv)).guards = some []) :
    DSs none (fun cls d _ H2 => E cls d H2) (cxOf (L2.CX P w) P w K mg base N_Net_corners_of "Net.corners_of" (defScope (inClass (top 30) 7)) f cdv A2 fr s H E) (defBody (inClass (top 30) 7)) w_Net_corners_of := by
  have hN := (sc_Net_corners_of).nd
  exact (dss_one (ds_ret (de_lc rfl hN (di_tup (dv 1)) (blkOk_by (own := [("index", 2)]) (by show blkC N_Net_corners_of (defScope (inClass (top 30) 7)) _ _ = true; decide +kernel)) (lcg_name (by decide)) (fun _ _ _ _ _ => (pg_name hN rfl (by first | exact Or.inl rfl | exact Or.inr rfl) (by first | exact .inl rfl | exact .inr rfl))) (fun _ _ _ _ _ => dts_nil) (fun _ _ _ _ _ => (de_item (de_fldD A.fl_Net_pairs (dv 0)) (dv 2))))))
theorem Hd.ok_Net_corners_of (A : Hd K mg) : MethD P w K mg base 1 "Net" "corners_of" ["self", "triple"] sp_Net_corners_of := by
  obtain ⟨fd, F⟩ := A.c.def_ 21
  exact ⟨_, _, fd, A.g_Net, He.cls_ok (A.c.fact 51), He.meth_ok (A.c.fact 61), F.bindsN fun _ _ _ _ _ _ us hl => match us, hl with | [_, _], _ => rfl, def_ok F sc_Net_corners_of (fun ds μ Q Xd h => h.1) (fun cdv A2 fr s H E hr hgd => d_Net_corners_of A hr hgd) fun ds μ Q Xd h => h.2⟩
/-! cross_of -/
abbrev N_cross_of : List Str := ["one", "other"]
theorem sc_cross_of : FnScope N_cross_of ["one", "other"] (defScope (top 18)) := ⟨rfl, rfl, rfl, by decide +kernel, rfl, by decide +kernel, by decide +kernel⟩
def w_cross_of : WS := (sRet (w2 fSub (w2 fTimes (w2 fIx (wVar 0) (wC (.int (0)))) (w2 fIx (wVar 1) (wC (.int (1))))) (w2 fTimes (w2 fIx (wVar 0) (wC (.int (1)))) (w2 fIx (wVar 1) (wC (.int (0)))))))
def sp_cross_of : DSp := fun ds μ Q Xd => ds.length = 2 ∧ w_cross_of (defE Q Xd) (startD N_cross_of ds) μ
theorem d_cross_of (A : Hd K mg) {cdv : Value} {A2 : Around} {fr : List Env} {s : Shared} {H : Hp} {E : XK} {f : Addr} (hr : Room 0 (A2.deeper (envOfC "cross_of" (defScope (top 18)) s.heap.objs.size f cdv))) (hgd : (A2.deeper (envOfC "cross_of" (defScope (top 18)) s.heap.objs.size f cdv)).guards = some []) :
    DSs none (fun cls d _ H2 => E cls d H2) (cxOf (L2.CX P w) P w K mg base N_cross_of "cross_of" (defScope (top 18)) f cdv A2 fr s H E) (defBody (top 18)) w_cross_of := by
  have hN := (sc_cross_of).nd
  exact (dss_one (ds_ret (de_sub (de_times (de_item (dv 0) de_int) (de_item (dv 1) de_int)) (de_times (de_item (dv 0) de_int) (de_item (dv 1) de_int)))))
theorem Hd.ok_cross_of (A : Hd K mg) : CallD P w K mg base 1 "cross_of" ["one", "other"] sp_cross_of := by
  obtain ⟨fd, F⟩ := A.c.def_ 22
  exact ⟨_, fd, A.g_cross_of, F.kp, F.bindsN fun _ _ _ _ _ _ us hl => match us, hl with | [_, _], _ => rfl, def_ok F sc_cross_of (fun ds μ Q Xd h => h.1) (fun cdv A2 fr s H E hr hgd => d_cross_of A hr hgd) fun ds μ Q Xd h => h.2⟩
/-! Half_has -/
abbrev N_Half_has : List Str := ["self", "pair", "at", "goes_along"]
theorem sc_Half_has : FnScope N_Half_has ["self", "pair"] (defScope (inClass (top 48) 5)) := ⟨rfl, rfl, rfl, by decide +kernel, rfl, by decide +kernel, by decide +kernel⟩
def w_Half_has : WS := (sSeq (sSet 2 (wCall sp_cross_of (wCons (w1 (fFld "Half" "own_way") (wVar 0)) (wCons (wVar 1) wNil))))
 (sSeq (sIf (wB (w2 fNeU (wVar 2) (wC (.int (0)))))
  (sRet (w2 fGt (wVar 2) (wC (.int (0)))))
  sNext)
 (sSeq (sSet 3 (w2 fGt (w2 fPlus (w2 fTimes (w2 fIx (wVar 1) (wC (.int (0)))) (w2 fIx (w1 (fFld "Half" "own_way") (wVar 0)) (wC (.int (0))))) (w2 fTimes (w2 fIx (wVar 1) (wC (.int (1)))) (w2 fIx (w1 (fFld "Half" "own_way") (wVar 0)) (wC (.int (1)))))) (wC (.int (0)))))
 (sRet (w2 fEqU (wVar 3) (w1 (fFld "Half" "own_ahead") (wVar 0)))))))
def sp_Half_has : DSp := fun ds μ Q Xd => ds.length = 2 ∧ w_Half_has (defE Q Xd) (startD N_Half_has ds) μ
theorem d_Half_has (A : Hd K mg) {cdv : Value} {A2 : Around} {fr : List Env} {s : Shared} {H : Hp} {E : XK} {f : Addr} (hr : Room 1 (A2.deeper (envOfC "Half.has" (defScope (inClass (top 48) 5)) s.heap.objs.size f cdv))) (hgd : (A2.deeper (envOfC "Half.has" (defScope (inClass (top 48) 5)) s.heap.objs.size f cdv)).guards = some []) :
    DSs none (fun cls d _ H2 => E cls d H2) (cxOf (L2.CX P w) P w K mg base N_Half_has "Half.has" (defScope (inClass (top 48) 5)) f cdv A2 fr s H E) (defBody (inClass (top 48) 5)) w_Half_has := by
  have hN := (sc_Half_has).nd
  exact (dss_cons (ds_set (i := 2) hN rfl (de_callD A.ok_cross_of hr (by decide) hgd rfl (takes_of rfl rfl rfl rfl) (da_cons (de_fldD A.fl_Half_own_way (dv 0)) (da_cons (dv 1) da_nil))))
 (dss_cons (ds_if (dt_cmp (op_neU (have z := room64 hr; z)) s2_neU (dv 2) de_int (nomark _)) (dss_one (ds_ret (de_cmp op_gt s2_IB (dv 2) de_int (nomark _)))) dss_nil)
 (dss_cons (ds_set (i := 3) hN rfl (de_cmp op_gt s2_IB (de_plus (de_times (de_item (dv 1) de_int) (de_item (de_fldD A.fl_Half_own_way (dv 0)) de_int)) (de_times (de_item (dv 1) de_int) (de_item (de_fldD A.fl_Half_own_way (dv 0)) de_int))) de_int (nomark _)))
 (dss_one (ds_ret (de_cmp (op_eqU (have z := room64 hr; z)) s2_eqU (dv 3) (de_fldD A.fl_Half_own_ahead (dv 0)) (nomark _)))))))
theorem Hd.ok_Half_has (A : Hd K mg) : MethD P w K mg base 2 "Half" "has" ["self", "pair"] sp_Half_has := by
  obtain ⟨fd, F⟩ := A.c.def_ 23
  exact ⟨_, _, fd, A.g_Half, He.cls_ok (A.c.fact 47), He.meth_ok (A.c.fact 62), F.bindsN fun _ _ _ _ _ _ us hl => match us, hl with | [_, _], _ => rfl, def_ok F sc_Half_has (fun ds μ Q Xd h => h.1) (fun cdv A2 fr s H E hr hgd => d_Half_has A hr hgd) fun ds μ Q Xd h => h.2⟩
/-! less -/
abbrev N_less : List Str := ["one", "other"]
theorem sc_less : FnScope N_less ["one", "other"] (defScope (top 17)) := ⟨rfl, rfl, rfl, by decide +kernel, rfl, by decide +kernel, by decide +kernel⟩
def w_less : WS := (sRet (wTup (wCons (w2 fSub (w2 fIx (wVar 0) (wC (.int (0)))) (w2 fIx (wVar 1) (wC (.int (0))))) (wCons (w2 fSub (w2 fIx (wVar 0) (wC (.int (1)))) (w2 fIx (wVar 1) (wC (.int (1))))) wNil))))
def sp_less : DSp := fun ds μ Q Xd => ds.length = 2 ∧ w_less (defE Q Xd) (startD N_less ds) μ
theorem d_less (A : Hd K mg) {cdv : Value} {A2 : Around} {fr : List Env} {s : Shared} {H : Hp} {E : XK} {f : Addr} (hr : Room 0 (A2.deeper (envOfC "less" (defScope (top 17)) s.heap.objs.size f cdv))) (hgd : (A2.deeper (envOfC "less" (defScope (top 17)) s.heap.objs.size f cdv)).guards = some []) :
    DSs none (fun cls d _ H2 => E cls d H2) (cxOf (L2.CX P w) P w K mg base N_less "less" (defScope (top 17)) f cdv A2 fr s H E) (defBody (top 17)) w_less := by
  have hN := (sc_less).nd
  exact (dss_one (ds_ret (de_tup (da_cons (de_sub (de_item (dv 0) de_int) (de_item (dv 1) de_int)) (da_cons (de_sub (de_item (dv 0) de_int) (de_item (dv 1) de_int)) da_nil)))))
theorem Hd.ok_less (A : Hd K mg) : CallD P w K mg base 1 "less" ["one", "other"] sp_less := by
  obtain ⟨fd, F⟩ := A.c.def_ 24
  exact ⟨_, fd, A.g_less, F.kp, F.bindsN fun _ _ _ _ _ _ us hl => match us, hl with | [_, _], _ => rfl, def_ok F sc_less (fun ds μ Q Xd h => h.1) (fun cdv A2 fr s H E hr hgd => d_less A hr hgd) fun ds μ Q Xd h => h.2⟩
/-! side_of -/
abbrev N_side_of : List Str := ["a", "b", "point"]
theorem sc_side_of : FnScope N_side_of ["a", "b", "point"] (defScope (top 19)) := ⟨rfl, rfl, rfl, by decide +kernel, rfl, by decide +kernel, by decide +kernel⟩
def w_side_of : WS := (sRet (wCall sp_cross_of (wCons (wCall sp_less (wCons (wVar 1) (wCons (wVar 0) wNil))) (wCons (wCall sp_less (wCons (wVar 2) (wCons (wVar 0) wNil))) wNil))))
def sp_side_of : DSp := fun ds μ Q Xd => ds.length = 3 ∧ w_side_of (defE Q Xd) (startD N_side_of ds) μ
theorem d_side_of (A : Hd K mg) {cdv : Value} {A2 : Around} {fr : List Env} {s : Shared} {H : Hp} {E : XK} {f : Addr} (hr : Room 1 (A2.deeper (envOfC "side_of" (defScope (top 19)) s.heap.objs.size f cdv))) (hgd : (A2.deeper (envOfC "side_of" (defScope (top 19)) s.heap.objs.size f cdv)).guards = some []) :
    DSs none (fun cls d _ H2 => E cls d H2) (cxOf (L2.CX P w) P w K mg base N_side_of "side_of" (defScope (top 19)) f cdv A2 fr s H E) (defBody (top 19)) w_side_of := by
  have hN := (sc_side_of).nd
  exact (dss_one (ds_ret (de_callD A.ok_cross_of hr (by decide) hgd rfl (takes_of rfl rfl rfl rfl) (da_cons (de_callD A.ok_less hr (by decide) hgd rfl (takes_of rfl rfl rfl rfl) (da_cons (dv 1) (da_cons (dv 0) da_nil))) (da_cons (de_callD A.ok_less hr (by decide) hgd rfl (takes_of rfl rfl rfl rfl) (da_cons (dv 2) (da_cons (dv 0) da_nil))) da_nil)))))
theorem Hd.ok_side_of (A : Hd K mg) : CallD P w K mg base 2 "side_of" ["a", "b", "point"] sp_side_of := by
  obtain ⟨fd, F⟩ := A.c.def_ 25
  exact ⟨_, fd, A.g_side_of, F.kp, F.bindsN fun _ _ _ _ _ _ us hl => match us, hl with | [_, _, _], _ => rfl, def_ok F sc_side_of (fun ds μ Q Xd h => h.1) (fun cdv A2 fr s H E hr hgd => d_side_of A hr hgd) fun ds μ Q Xd h => h.2⟩
/-! ways_of -/
abbrev N_ways_of : List Str := ["pairs", "at"]
theorem sc_ways_of : FnScope N_ways_of ["pairs"] (defScope (top 21)) := ⟨rfl, rfl, rfl, by decide +kernel, rfl, by decide +kernel, by decide +kernel⟩
def w_ways_of : WS := (sRet (wLc (wiR1 (wCons (wN fLen (wCons (wVar 0) wNil)) wNil)) (kNameC 1) wYes (wTup (wCons (w2 fIx (wVar 0) (wVar 1)) (wCons (w2 fIx (wVar 0) (w2 fMod (w2 fPlus (wVar 1) (wC (.int (1)))) (wN fLen (wCons (wVar 0) wNil)))) wNil))) [1]))
def sp_ways_of : DSp := fun ds μ Q Xd => ds.length = 1 ∧ w_ways_of (defE Q Xd) (startD N_ways_of ds) μ
theorem d_ways_of (A : Hd K mg) {cdv : Value} {A2 : Around} {fr : List Env} {s : Shared} {H : Hp} {E : XK} {f : Addr} (hr : Room 0 (A2.deeper (envOfC "ways_of" (defScope (top 21)) s.heap.objs.size f cdv))) (hgd : (A2.deeper (envOfC "ways_of" (defScope (top 21)) s.heap.objs.size f cdv)).guards = some []) :
    DSs none (fun cls d _ H2 => E cls d H2) (cxOf (L2.CX P w) P w K mg base N_ways_of "ways_of" (defScope (top 21)) f cdv A2 fr s H E) (defBody (top 21)) w_ways_of := by
  have hN := (sc_ways_of).nd
  exact (dss_one (ds_ret (de_lc rfl hN (di_range1 (by rfl) A.f_range (da_cons (de_callB call_len_seq sn_len (by rfl) A.f_len bt_len (da_cons (dv 0) da_nil)) da_nil)) (blkOk_by (own := [("at", 1)]) (by show blkC N_ways_of (defScope (top 21)) _ _ = true; decide +kernel)) (lcg_name (by decide)) (fun _ _ _ _ _ => (pg_name hN rfl (by first | exact Or.inl rfl | exact Or.inr rfl) (by first | exact .inl rfl | exact .inr rfl))) (fun _ _ _ _ _ => dts_nil) (fun _ _ _ _ _ => (de_tup (da_cons (de_item (dv 0) (dv 1)) (da_cons (de_item (dv 0) (de_mod (de_plus (dv 1) de_int) (de_callB call_len_seq sn_len rfl A.f_len bt_len (da_cons (dv 0) da_nil)))) da_nil)))))))
theorem Hd.ok_ways_of (A : Hd K mg) : CallD P w K mg base 1 "ways_of" ["pairs"] sp_ways_of := by
  obtain ⟨fd, F⟩ := A.c.def_ 26
  exact ⟨_, fd, A.g_ways_of, F.kp, F.bindsN fun _ _ _ _ _ _ us hl => match us, hl with | [_], _ => rfl, def_ok F sc_ways_of (fun ds μ Q Xd h => h.1) (fun cdv A2 fr s H E hr hgd => d_ways_of A hr hgd) fun ds μ Q Xd h => h.2⟩
/-! is_owned -/
abbrev N_is_owned : List Str := ["rule", "pairs", "pair", "a", "b", "turn"]
theorem sc_is_owned : FnScope N_is_owned ["rule", "pairs", "pair"] (defScope (top 22)) := ⟨rfl, rfl, rfl, by decide +kernel, rfl, by decide +kernel, by decide +kernel⟩
def w_is_owned : WS := (sSeq (sFor (wiL (wCall sp_ways_of (wCons (wVar 1) wNil))) (kTup 2 (kCons (kName 3) (kCons (kName 4) kNil)))
  (sSeq (sSet 5 (wCall sp_side_of (wCons (wVar 3) (wCons (wVar 4) (wCons (wVar 2) wNil)))))
 (sIf (wOr (wB (w2 fLt (wVar 5) (wC (.int (0))))) (wAnd (wB (w2 fEqU (wVar 5) (wC (.int (0))))) (wNot (wB (wMeth "Half" "has" sp_Half_has (wVar 0) (wCons (wCall sp_less (wCons (wVar 4) (wCons (wVar 3) wNil))) wNil))))))
  (sRet (wC (.bl false)))
  sNext)))
 (sRet (wC (.bl true))))
def sp_is_owned : DSp := fun ds μ Q Xd => ds.length = 3 ∧ w_is_owned (defE Q Xd) (startD N_is_owned ds) μ
theorem d_is_owned (A : Hd K mg) {cdv : Value} {A2 : Around} {fr : List Env} {s : Shared} {H : Hp} {E : XK} {f : Addr} (hr : Room 2 (A2.deeper (envOfC "is_owned" (defScope (top 22)) s.heap.objs.size f cdv))) (hgd : (A2.deeper (envOfC "is_owned" (defScope (top 22)) s.heap.objs.size f cdv)).guards = some []) :
    DSs none (fun cls d _ H2 => E cls d H2) (cxOf (L2.CX P w) P w K mg base N_is_owned "is_owned" (defScope (top 22)) f cdv A2 fr s H E) (defBody (top 22)) w_is_owned := by
  have hN := (sc_is_owned).nd
  exact (dss_cons (ds_for (passes_of rfl) rfl (di_list (de_callD A.ok_ways_of hr (by decide) hgd (by rfl) (takes_of (by rfl) (by rfl) (by rfl) (by rfl)) (da_cons (dv 1) da_nil))) (dg_tup rfl (dgs_cons (dg_name hN rfl) (dgs_cons (dg_name hN rfl) dgs_nil))) (dss_cons (ds_set (i := 5) hN rfl (de_callD A.ok_side_of hr (by decide) hgd rfl (takes_of rfl rfl rfl rfl) (da_cons (dv 3) (da_cons (dv 4) (da_cons (dv 2) da_nil)))))
 (dss_one (ds_if (dt_w (dw_or (dt_cmp op_lt s2_IB (dv 5) de_int (nomark _)) (dw_or1 (dt_w (dw_and (dt_cmp (op_eqU (have z := room64 hr; z)) s2_eqU (dv 5) de_int (nomark _)) (dw_and1 (dt_not (dt_val (de_methD A.ok_Half_has hr (by decide) hgd (takes_of rfl rfl rfl rfl) (dv 0) (da_cons (de_callD A.ok_less hr (by decide) hgd rfl (takes_of rfl rfl rfl rfl) (da_cons (dv 4) (da_cons (dv 3) da_nil))) da_nil)))))))))) (dss_one (ds_ret de_bl)) dss_nil))))
 (dss_one (ds_ret de_bl)))
theorem Hd.ok_is_owned (A : Hd K mg) : CallD P w K mg base 3 "is_owned" ["rule", "pairs", "pair"] sp_is_owned := by
  obtain ⟨fd, F⟩ := A.c.def_ 27
  exact ⟨_, fd, A.g_is_owned, F.kp, F.bindsN fun _ _ _ _ _ _ us hl => match us, hl with | [_, _, _], _ => rfl, def_ok F sc_is_owned (fun ds μ Q Xd h => h.1) (fun cdv A2 fr s H E hr hgd => d_is_owned A hr hgd) fun ds μ Q Xd h => h.2⟩
/-! owner_counts -/
abbrev N_owner_counts : List Str := ["half", "net", "pair", "ahead", "back", "triple", "a", "b", "c", "turn"]
theorem sc_owner_counts : FnScope N_owner_counts ["half", "net", "pair"] (defScope (top 32)) := ⟨rfl, rfl, rfl, by decide +kernel, rfl, by decide +kernel, by decide +kernel⟩
def w_owner_counts : WS := (sSeq (sSet 3 (wC (.int (0))))
 (sSeq (sSet 4 (wC (.int (0))))
 (sSeq (sFor (wiL (w1 (fFld "Net" "own_triples") (wVar 1))) (kName 5)
  (sSeq (sAsg (wMeth "Net" "corners_of" sp_Net_corners_of (wVar 1) (wCons (wVar 5) wNil)) (kUnl 3 (kCons (kName 6) (kCons (kName 7) (kCons (kName 8) kNil)))))
 (sSeq (sSet 9 (wCall sp_side_of (wCons (wVar 6) (wCons (wVar 7) (wCons (wVar 8) wNil)))))
 (sSeq (sIf (wAnd (wB (w2 fGt (wVar 9) (wC (.int (0))))) (wB (wCall sp_is_owned (wCons (wVar 0) (wCons (wLst (wCons (wVar 6) (wCons (wVar 7) (wCons (wVar 8) wNil)))) (wCons (wVar 2) wNil))))))
  (sAug 3 fAdd (wC (.int (1))))
  sNext)
 (sIf (wAnd (wB (w2 fLt (wVar 9) (wC (.int (0))))) (wB (wCall sp_is_owned (wCons (wVar 0) (wCons (wLst (wCons (wVar 6) (wCons (wVar 8) (wCons (wVar 7) wNil)))) (wCons (wVar 2) wNil))))))
  (sAug 4 fAdd (wC (.int (1))))
  sNext)))))
 (sRet (wTup (wCons (wVar 3) (wCons (wVar 4) wNil)))))))
def sp_owner_counts : DSp := fun ds μ Q Xd => ds.length = 3 ∧ w_owner_counts (defE Q Xd) (startD N_owner_counts ds) μ
theorem d_owner_counts (A : Hd K mg) {cdv : Value} {A2 : Around} {fr : List Env} {s : Shared} {H : Hp} {E : XK} {f : Addr} (hr : Room 3 (A2.deeper (envOfC "owner_counts" (defScope (top 32)) s.heap.objs.size f cdv))) (hgd : (A2.deeper (envOfC "owner_counts" (defScope (top 32)) s.heap.objs.size f cdv)).guards = some []) :
    DSs none (fun cls d _ H2 => E cls d H2) (cxOf (L2.CX P w) P w K mg base N_owner_counts "owner_counts" (defScope (top 32)) f cdv A2 fr s H E) (defBody (top 32)) w_owner_counts := by
  have hN := (sc_owner_counts).nd
  exact (dss_cons (ds_set (i := 3) hN rfl de_int)
 (dss_cons (ds_set (i := 4) hN rfl de_int)
 (dss_cons (ds_for (passes_of rfl) rfl (di_list (de_fldD A.fl_Net_own_triples (dv 1))) (dg_name hN rfl) (dss_cons (ds_asg (de_methD A.ok_Net_corners_of hr (by decide) hgd (takes_of rfl rfl rfl rfl) (dv 1) (da_cons (dv 5) da_nil)) (dg_unl rfl (dgs_cons (dg_name hN rfl) (dgs_cons (dg_name hN rfl) (dgs_cons (dg_name hN rfl) dgs_nil)))))
 (dss_cons (ds_set (i := 9) hN rfl (de_callD A.ok_side_of hr (by decide) hgd rfl (takes_of rfl rfl rfl rfl) (da_cons (dv 6) (da_cons (dv 7) (da_cons (dv 8) da_nil)))))
 (dss_cons (ds_if (dt_w (dw_and (dt_cmp op_gt s2_IB (dv 9) de_int (nomark _)) (dw_and1 (dt_val (de_callD A.ok_is_owned hr (by decide) hgd rfl (takes_of rfl rfl rfl rfl) (da_cons (dv 0) (da_cons (de_lst (da_cons (dv 6) (da_cons (dv 7) (da_cons (dv 8) da_nil)))) (da_cons (dv 2) da_nil)))))))) (dss_one (ds_aug (i := 3) iop_add s2_II0 hN rfl de_int)) dss_nil)
 (dss_one (ds_if (dt_w (dw_and (dt_cmp op_lt s2_IB (dv 9) de_int (nomark _)) (dw_and1 (dt_val (de_callD A.ok_is_owned hr (by decide) hgd rfl (takes_of rfl rfl rfl rfl) (da_cons (dv 0) (da_cons (de_lst (da_cons (dv 6) (da_cons (dv 8) (da_cons (dv 7) da_nil)))) (da_cons (dv 2) da_nil)))))))) (dss_one (ds_aug (i := 4) iop_add s2_II0 hN rfl de_int)) dss_nil))))))
 (dss_one (ds_ret (de_tup (da_cons (dv 3) (da_cons (dv 4) da_nil))))))))
theorem Hd.ok_owner_counts (A : Hd K mg) : CallD P w K mg base 4 "owner_counts" ["half", "net", "pair"] sp_owner_counts := by
  obtain ⟨fd, F⟩ := A.c.def_ 28
  exact ⟨_, fd, A.g_owner_counts, F.kp, F.bindsN fun _ _ _ _ _ _ us hl => match us, hl with | [_, _, _], _ => rfl, def_ok F sc_owner_counts (fun ds μ Q Xd h => h.1) (fun cdv A2 fr s H E hr hgd => d_owner_counts A hr hgd) fun ds μ Q Xd h => h.2⟩
/-! pair_of -/
abbrev N_pair_of : List Str := ["thing", "numbers"]
theorem sc_pair_of : FnScope N_pair_of ["thing"] (defScope (top 15)) := ⟨rfl, rfl, rfl, by decide +kernel, rfl, by decide +kernel, by decide +kernel⟩
def w_pair_of : WS := (sSeq (sSet 1 (wCall sp_numbers_of (wCons (wVar 0) wNil)))
 (sSeq (sIf (wB (w2 fIsN (wVar 1) (wC .non)))
  (sRaise "InvalidPoint" ["thing"] (wCons (wVar 0) wNil))
  sNext)
 (sRet (wVar 1))))
def sp_pair_of : DSp := fun ds μ Q Xd => ds.length = 1 ∧ w_pair_of (defE Q Xd) (startD N_pair_of ds) μ
theorem d_pair_of (A : Hd K mg) {cdv : Value} {A2 : Around} {fr : List Env} {s : Shared} {H : Hp} {E : XK} {f : Addr} (hr : Room 2 (A2.deeper (envOfC "pair_of" (defScope (top 15)) s.heap.objs.size f cdv))) (hgd : (A2.deeper (envOfC "pair_of" (defScope (top 15)) s.heap.objs.size f cdv)).guards = some []) :
    DSs none (fun cls d _ H2 => E cls d H2) (cxOf (L2.CX P w) P w K mg base N_pair_of "pair_of" (defScope (top 15)) f cdv A2 fr s H E) (defBody (top 15)) w_pair_of := by
  have hN := (sc_pair_of).nd
  exact (dss_cons (ds_set (i := 1) hN rfl (de_callD A.ok_numbers_of hr (by decide) hgd rfl (takes_of rfl rfl rfl rfl) (da_cons (dv 0) da_nil)))
 (dss_cons (ds_if (dt_cmp op_isN s2_isN (dv 1) de_non (nomark _)) (dss_one (ds_raiseD A.rx_InvalidPoint rfl hr (by decide) rfl (takes_of rfl rfl rfl rfl) (da_cons (dv 0) da_nil))) dss_nil)
 (dss_one (ds_ret (dv 1)))))
theorem Hd.ok_pair_of (A : Hd K mg) : CallD P w K mg base 3 "pair_of" ["thing"] sp_pair_of := by
  obtain ⟨fd, F⟩ := A.c.def_ 29
  exact ⟨_, fd, A.g_pair_of, F.kp, F.bindsN fun _ _ _ _ _ _ us hl => match us, hl with | [_], _ => rfl, def_ok F sc_pair_of (fun ds μ Q Xd h => h.1) (fun cdv A2 fr s H E hr hgd => d_pair_of A hr hgd) fun ds μ Q Xd h => h.2⟩
/-! counted_owners -/
abbrev N_counted_owners : List Str := ["half", "net", "point"]
theorem sc_counted_owners : FnScope N_counted_owners ["half", "net", "point"] (defScope (top 33)) := ⟨rfl, rfl, rfl, by decide +kernel, rfl, by decide +kernel, by decide +kernel⟩
def w_counted_owners : WS := (sRet (wCall sp_owner_counts (wCons (wVar 0) (wCons (wVar 1) (wCons (wCall sp_pair_of (wCons (wVar 2) wNil)) wNil)))))
def sp_counted_owners : DSp := fun ds μ Q Xd => ds.length = 3 ∧ w_counted_owners (defE Q Xd) (startD N_counted_owners ds) μ
theorem d_counted_owners (A : Hd K mg) {cdv : Value} {A2 : Around} {fr : List Env} {s : Shared} {H : Hp} {E : XK} {f : Addr} (hr : Room 4 (A2.deeper (envOfC "counted_owners" (defScope (top 33)) s.heap.objs.size f cdv))) (hgd : (A2.deeper (envOfC "counted_owners" (defScope (top 33)) s.heap.objs.size f cdv)).guards = some []) :
    DSs none (fun cls d _ H2 => E cls d H2) (cxOf (L2.CX P w) P w K mg base N_counted_owners "counted_owners" (defScope (top 33)) f cdv A2 fr s H E) (defBody (top 33)) w_counted_owners := by
  have hN := (sc_counted_owners).nd
  exact (dss_one (ds_ret (de_callD A.ok_owner_counts hr (by decide) hgd rfl (takes_of rfl rfl rfl rfl) (da_cons (dv 0) (da_cons (dv 1) (da_cons (de_callD A.ok_pair_of hr (by decide) hgd rfl (takes_of rfl rfl rfl rfl) (da_cons (dv 2) da_nil)) da_nil))))))
theorem Hd.ok_counted_owners (A : Hd K mg) : CallD P w K mg base 5 "counted_owners" ["half", "net", "point"] sp_counted_owners := by
  obtain ⟨fd, F⟩ := A.c.def_ 30
  exact ⟨_, fd, A.g_counted_owners, F.kp, F.bindsN fun _ _ _ _ _ _ us hl => match us, hl with | [_, _, _], _ => rfl, def_ok F sc_counted_owners (fun ds μ Q Xd h => h.1) (fun cdv A2 fr s H E hr hgd => d_counted_owners A hr hgd) fun ds μ Q Xd h => h.2⟩
/-! Net_rim_ways -/
abbrev N_Net_rim_ways : List Str := ["self", "i", "j"]
theorem sc_Net_rim_ways : FnScope N_Net_rim_ways ["self"] (defScope (inClass (top 30) 4)) := ⟨rfl, rfl, rfl, by decide +kernel, rfl, by decide +kernel, by decide +kernel⟩
def w_Net_rim_ways : WS := (sRet (wLc (wiL (wMeth "Net" "rim" sp_Net_rim (wVar 0) wNil)) (kTup 2 (kCons (kNameC 1) (kCons (kNameC 2) kNil))) wYes (wTup (wCons (w2 fIx (w1 (fFld "Net" "pairs") (wVar 0)) (wVar 1)) (wCons (w2 fIx (w1 (fFld "Net" "pairs") (wVar 0)) (wVar 2)) wNil))) [1, 2]))
def sp_Net_rim_ways : DSp := fun ds μ Q Xd => ds.length = 1 ∧ w_Net_rim_ways (defE Q Xd) (startD N_Net_rim_ways ds) μ
theorem d_Net_rim_ways (A : Hd K mg) {cdv : Value} {A2 : Around} {fr : List Env} {s : Shared} {H : Hp} {E : XK} {f : Addr} (hr : Room 2 (A2.deeper (envOfC "Net.rim_ways" (defScope (inClass (top 30) 4)) s.heap.objs.size f cdv))) (hgd : (A2.deeper (envOfC "Net.rim_ways" (defScope (inClass (top 30) 4)) s.heap.objs.size f cdv)).guards = some []) :
    DSs none (fun cls d _ H2 => E cls d H2) (cxOf (L2.CX P w) P w K mg base N_Net_rim_ways "Net.rim_ways" (defScope (inClass (top 30) 4)) f cdv A2 fr s H E) (defBody (inClass (top 30) 4)) w_Net_rim_ways := by
  have hN := (sc_Net_rim_ways).nd
  exact (dss_one (ds_ret (de_lc rfl hN (di_list (de_methD0 A.ok_Net_rim hr (by decide) hgd (takes_of rfl rfl rfl rfl) (dv 0))) (blkOk_by (own := [("i", 1), ("j", 2)]) (by show blkC N_Net_rim_ways (defScope (inClass (top 30) 4)) _ _ = true; decide +kernel)) (lcg_tup (lcgs_cons (lcg_name (by decide)) (lcgs_cons (lcg_name (by decide)) lcgs_nil))) (fun _ _ _ _ _ => (pg_tup rfl (pgs_cons (pg_name hN rfl (by first | exact Or.inl rfl | exact Or.inr rfl) (by first | exact .inl rfl | exact .inr rfl)) (pgs_cons (pg_name hN rfl (by first | exact Or.inl rfl | exact Or.inr rfl) (by first | exact .inl rfl | exact .inr rfl)) pgs_nil)))) (fun _ _ _ _ _ => dts_nil) (fun _ _ _ _ _ => (de_tup (da_cons (de_item (de_fldD A.fl_Net_pairs (dv 0)) (dv 1)) (da_cons (de_item (de_fldD A.fl_Net_pairs (dv 0)) (dv 2)) da_nil)))))))
theorem Hd.ok_Net_rim_ways (A : Hd K mg) : MethD P w K mg base 3 "Net" "rim_ways" ["self"] sp_Net_rim_ways := by
  obtain ⟨fd, F⟩ := A.c.def_ 31
  exact ⟨_, _, fd, A.g_Net, He.cls_ok (A.c.fact 51), He.meth_ok (A.c.fact 63), F.bindsN fun _ _ _ _ _ _ us hl => match us, hl with | [_], _ => rfl, def_ok F sc_Net_rim_ways (fun ds μ Q Xd h => h.1) (fun cdv A2 fr s H E hr hgd => d_Net_rim_ways A hr hgd) fun ds μ Q Xd h => h.2⟩
/-! shift_pairs -/
abbrev N_shift_pairs : List Str := ["half", "x", "y"]
theorem sc_shift_pairs : FnScope N_shift_pairs ["half"] (defScope (top 24)) := ⟨rfl, rfl, rfl, by decide +kernel, rfl, by decide +kernel, by decide +kernel⟩
def w_shift_pairs : WS := (sSeq (sAsg (w1 (fFld "Half" "own_way") (wVar 0)) (kTup 2 (kCons (kName 1) (kCons (kName 2) kNil))))
 (sSeq (sIf (wB (w1 (fFld "Half" "own_ahead") (wVar 0)))
  (sRet (wTup (wCons (wTup (wCons (w1 fNeg (wVar 1)) (wCons (w1 fNeg (wVar 2)) wNil))) (wCons (wTup (wCons (w1 fNeg (wVar 2)) (wCons (wVar 1) wNil))) wNil))))
  sNext)
 (sRet (wTup (wCons (wTup (wCons (w1 fNeg (wVar 1)) (wCons (w1 fNeg (wVar 2)) wNil))) (wCons (wTup (wCons (wVar 2) (wCons (w1 fNeg (wVar 1)) wNil))) wNil))))))
def sp_shift_pairs : DSp := fun ds μ Q Xd => ds.length = 1 ∧ w_shift_pairs (defE Q Xd) (startD N_shift_pairs ds) μ
theorem d_shift_pairs (A : Hd K mg) {cdv : Value} {A2 : Around} {fr : List Env} {s : Shared} {H : Hp} {E : XK} {f : Addr} (hr : Room 0 (A2.deeper (envOfC "shift_pairs" (defScope (top 24)) s.heap.objs.size f cdv))) (hgd : (A2.deeper (envOfC "shift_pairs" (defScope (top 24)) s.heap.objs.size f cdv)).guards = some []) :
    DSs none (fun cls d _ H2 => E cls d H2) (cxOf (L2.CX P w) P w K mg base N_shift_pairs "shift_pairs" (defScope (top 24)) f cdv A2 fr s H E) (defBody (top 24)) w_shift_pairs := by
  have hN := (sc_shift_pairs).nd
  exact (dss_cons (ds_asg (de_fldD A.fl_Half_own_way (dv 0)) (dg_tup rfl (dgs_cons (dg_name hN rfl) (dgs_cons (dg_name hN rfl) dgs_nil))))
 (dss_cons (ds_if (dt_val (de_fldD A.fl_Half_own_ahead (dv 0))) (dss_one (ds_ret (de_tup (da_cons (de_tup (da_cons (de_neg (dv 1)) (da_cons (de_neg (dv 2)) da_nil))) (da_cons (de_tup (da_cons (de_neg (dv 2)) (da_cons (dv 1) da_nil))) da_nil))))) dss_nil)
 (dss_one (ds_ret (de_tup (da_cons (de_tup (da_cons (de_neg (dv 1)) (da_cons (de_neg (dv 2)) da_nil))) (da_cons (de_tup (da_cons (dv 2) (da_cons (de_neg (dv 1)) da_nil))) da_nil)))))))
theorem Hd.ok_shift_pairs (A : Hd K mg) : CallD P w K mg base 1 "shift_pairs" ["half"] sp_shift_pairs := by
  obtain ⟨fd, F⟩ := A.c.def_ 32
  exact ⟨_, fd, A.g_shift_pairs, F.kp, F.bindsN fun _ _ _ _ _ _ us hl => match us, hl with | [_], _ => rfl, def_ok F sc_shift_pairs (fun ds μ Q Xd h => h.1) (fun cdv A2 fr s H E hr hgd => d_shift_pairs A hr hgd) fun ds μ Q Xd h => h.2⟩
/-! is_upward -/
abbrev N_is_upward : List Str := ["half", "first", "second"]
theorem sc_is_upward : FnScope N_is_upward ["half"] (defScope (top 35)) := ⟨rfl, rfl, rfl, by decide +kernel, rfl, by decide +kernel, by decide +kernel⟩
def w_is_upward : WS := (sSeq (sAsg (wCall sp_shift_pairs (wCons (wVar 0) wNil)) (kTup 2 (kCons (kName 1) (kCons (kName 2) kNil))))
 (sRet (wOrV (w2 fGt (w2 fIx (wVar 1) (wC (.int (1)))) (wC (.int (0)))) (wAndV (w2 fEqU (w2 fIx (wVar 1) (wC (.int (1)))) (wC (.int (0)))) (w2 fGt (w2 fIx (wVar 2) (wC (.int (1)))) (wC (.int (0))))))))
def sp_is_upward : DSp := fun ds μ Q Xd => ds.length = 1 ∧ w_is_upward (defE Q Xd) (startD N_is_upward ds) μ
theorem d_is_upward (A : Hd K mg) {cdv : Value} {A2 : Around} {fr : List Env} {s : Shared} {H : Hp} {E : XK} {f : Addr} (hr : Room 1 (A2.deeper (envOfC "is_upward" (defScope (top 35)) s.heap.objs.size f cdv))) (hgd : (A2.deeper (envOfC "is_upward" (defScope (top 35)) s.heap.objs.size f cdv)).guards = some []) :
    DSs none (fun cls d _ H2 => E cls d H2) (cxOf (L2.CX P w) P w K mg base N_is_upward "is_upward" (defScope (top 35)) f cdv A2 fr s H E) (defBody (top 35)) w_is_upward := by
  have hN := (sc_is_upward).nd
  exact (dss_cons (ds_asg (de_callD A.ok_shift_pairs hr (by decide) hgd rfl (takes_of rfl rfl rfl rfl) (da_cons (dv 0) da_nil)) (dg_tup rfl (dgs_cons (dg_name hN rfl) (dgs_cons (dg_name hN rfl) dgs_nil))))
 (dss_one (ds_ret (de_or (de_cmp op_gt s2_IB (de_item (dv 1) de_int) de_int (nomark _)) (de_one (de_and (de_cmp (op_eqU (have z := room64 hr; z)) s2_eqU (de_item (dv 1) de_int) de_int (nomark _)) (de_one (de_cmp op_gt s2_IB (de_item (dv 2) de_int) de_int (nomark _)))))))))
theorem Hd.ok_is_upward (A : Hd K mg) : CallD P w K mg base 2 "is_upward" ["half"] sp_is_upward := by
  obtain ⟨fd, F⟩ := A.c.def_ 33
  exact ⟨_, fd, A.g_is_upward, F.kp, F.bindsN fun _ _ _ _ _ _ us hl => match us, hl with | [_], _ => rfl, def_ok F sc_is_upward (fun ds μ Q Xd h => h.1) (fun cdv A2 fr s H E hr hgd => d_is_upward A hr hgd) fun ds μ Q Xd h => h.2⟩
/-! turns_of -/
abbrev N_turns_of : List Str := ["half", "ways", "pair", "found", "goes_up", "a", "b", "is_below", "is_next_below", "at", "is_left"]
theorem sc_turns_of : FnScope N_turns_of ["half", "ways", "pair"] (defScope (top 36)) := ⟨rfl, rfl, rfl, by decide +kernel, rfl, by decide +kernel, by decide +kernel⟩
def w_turns_of : WS := (sSeq (sSet 3 (wC (.int (0))))
 (sSeq (sSet 4 (wCall sp_is_upward (wCons (wVar 0) wNil)))
 (sSeq (sFor (wiL (wVar 1)) (kTup 2 (kCons (kName 5) (kCons (kName 6) kNil)))
  (sSeq (sSet 7 (wOrV (w2 fLt (w2 fIx (wVar 5) (wC (.int (1)))) (w2 fIx (wVar 2) (wC (.int (1))))) (wAndV (w2 fEqU (w2 fIx (wVar 5) (wC (.int (1)))) (w2 fIx (wVar 2) (wC (.int (1))))) (wVar 4))))
 (sSeq (sSet 8 (wOrV (w2 fLt (w2 fIx (wVar 6) (wC (.int (1)))) (w2 fIx (wVar 2) (wC (.int (1))))) (wAndV (w2 fEqU (w2 fIx (wVar 6) (wC (.int (1)))) (w2 fIx (wVar 2) (wC (.int (1))))) (wVar 4))))
 (sSeq (sIf (wB (w2 fEqU (wVar 7) (wVar 8)))
  sCont
  sNext)
 (sSeq (sSet 9 (wCall sp_side_of (wCons (wVar 5) (wCons (wVar 6) (wCons (wVar 2) wNil)))))
 (sSeq (sSet 10 (wOrV (w2 fGt (wVar 9) (wC (.int (0)))) (wAndV (w2 fEqU (wVar 9) (wC (.int (0)))) (wMeth "Half" "has" sp_Half_has (wVar 0) (wCons (wCall sp_less (wCons (wVar 6) (wCons (wVar 5) wNil))) wNil)))))
 (sSeq (sIf (wAnd (wB (wVar 7)) (wB (wVar 10)))
  (sAug 3 fAdd (wC (.int (1))))
  sNext)
 (sIf (wAnd (wB (wVar 8)) (wNot (wB (wVar 10))))
  (sAug 3 fSub (wC (.int (1))))
  sNext))))))))
 (sRet (wVar 3)))))
def sp_turns_of : DSp := fun ds μ Q Xd => ds.length = 3 ∧ w_turns_of (defE Q Xd) (startD N_turns_of ds) μ
theorem d_turns_of (A : Hd K mg) {cdv : Value} {A2 : Around} {fr : List Env} {s : Shared} {H : Hp} {E : XK} {f : Addr} (hr : Room 2 (A2.deeper (envOfC "turns_of" (defScope (top 36)) s.heap.objs.size f cdv))) (hgd : (A2.deeper (envOfC "turns_of" (defScope (top 36)) s.heap.objs.size f cdv)).guards = some []) :
    DSs none (fun cls d _ H2 => E cls d H2) (cxOf (L2.CX P w) P w K mg base N_turns_of "turns_of" (defScope (top 36)) f cdv A2 fr s H E) (defBody (top 36)) w_turns_of := by
  have hN := (sc_turns_of).nd
  exact (dss_cons (ds_set (i := 3) hN rfl de_int)
 (dss_cons (ds_set (i := 4) hN rfl (de_callD A.ok_is_upward hr (by decide) hgd rfl (takes_of rfl rfl rfl rfl) (da_cons (dv 0) da_nil)))
 (dss_cons (ds_for (passes_of rfl) rfl (di_list (dv 1)) (dg_tup rfl (dgs_cons (dg_name hN rfl) (dgs_cons (dg_name hN rfl) dgs_nil))) (dss_cons (ds_set (i := 7) hN rfl (de_or (de_cmp op_lt s2_IB (de_item (dv 5) de_int) (de_item (dv 2) de_int) (nomark _)) (de_one (de_and (de_cmp (op_eqU (have z := room64 hr; z)) s2_eqU (de_item (dv 5) de_int) (de_item (dv 2) de_int) (nomark _)) (de_one (dv 4))))))
 (dss_cons (ds_set (i := 8) hN rfl (de_or (de_cmp op_lt s2_IB (de_item (dv 6) de_int) (de_item (dv 2) de_int) (nomark _)) (de_one (de_and (de_cmp (op_eqU (have z := room64 hr; z)) s2_eqU (de_item (dv 6) de_int) (de_item (dv 2) de_int) (nomark _)) (de_one (dv 4))))))
 (dss_cons (ds_if (dt_cmp (op_eqU (have z := room64 hr; z)) s2_eqU (dv 7) (dv 8) (nomark _)) (dss_one ds_continue) dss_nil)
 (dss_cons (ds_set (i := 9) hN rfl (de_callD A.ok_side_of hr (by decide) hgd rfl (takes_of rfl rfl rfl rfl) (da_cons (dv 5) (da_cons (dv 6) (da_cons (dv 2) da_nil)))))
 (dss_cons (ds_set (i := 10) hN rfl (de_or (de_cmp op_gt s2_IB (dv 9) de_int (nomark _)) (de_one (de_and (de_cmp (op_eqU (have z := room64 hr; z)) s2_eqU (dv 9) de_int (nomark _)) (de_one (de_methD A.ok_Half_has hr (by decide) hgd (takes_of rfl rfl rfl rfl) (dv 0) (da_cons (de_callD A.ok_less hr (by decide) hgd rfl (takes_of rfl rfl rfl rfl) (da_cons (dv 6) (da_cons (dv 5) da_nil))) da_nil)))))))
 (dss_cons (ds_if (dt_w (dw_and (dt_val (dv 7)) (dw_and1 (dt_val (dv 10))))) (dss_one (ds_aug (i := 3) iop_add s2_II0 hN rfl de_int)) dss_nil)
 (dss_one (ds_if (dt_w (dw_and (dt_val (dv 8)) (dw_and1 (dt_not (dt_val (dv 10)))))) (dss_one (ds_aug (i := 3) iop_sub s2_II0 hN rfl de_int)) dss_nil)))))))))
 (dss_one (ds_ret (dv 3))))))
theorem Hd.ok_turns_of (A : Hd K mg) : CallD P w K mg base 3 "turns_of" ["half", "ways", "pair"] sp_turns_of := by
  obtain ⟨fd, F⟩ := A.c.def_ 34
  exact ⟨_, fd, A.g_turns_of, F.kp, F.bindsN fun _ _ _ _ _ _ us hl => match us, hl with | [_, _, _], _ => rfl, def_ok F sc_turns_of (fun ds μ Q Xd h => h.1) (fun cdv A2 fr s H E hr hgd => d_turns_of A hr hgd) fun ds μ Q Xd h => h.2⟩
/-! rim_turns -/
abbrev N_rim_turns : List Str := ["half", "net", "point"]
theorem sc_rim_turns : FnScope N_rim_turns ["half", "net", "point"] (defScope (top 37)) := ⟨rfl, rfl, rfl, by decide +kernel, rfl, by decide +kernel, by decide +kernel⟩
def w_rim_turns : WS := (sRet (wCall sp_turns_of (wCons (wVar 0) (wCons (wMeth "Net" "rim_ways" sp_Net_rim_ways (wVar 1) wNil) (wCons (wCall sp_pair_of (wCons (wVar 2) wNil)) wNil)))))
def sp_rim_turns : DSp := fun ds μ Q Xd => ds.length = 3 ∧ w_rim_turns (defE Q Xd) (startD N_rim_turns ds) μ
theorem d_rim_turns (A : Hd K mg) {cdv : Value} {A2 : Around} {fr : List Env} {s : Shared} {H : Hp} {E : XK} {f : Addr} (hr : Room 3 (A2.deeper (envOfC "rim_turns" (defScope (top 37)) s.heap.objs.size f cdv))) (hgd : (A2.deeper (envOfC "rim_turns" (defScope (top 37)) s.heap.objs.size f cdv)).guards = some []) :
    DSs none (fun cls d _ H2 => E cls d H2) (cxOf (L2.CX P w) P w K mg base N_rim_turns "rim_turns" (defScope (top 37)) f cdv A2 fr s H E) (defBody (top 37)) w_rim_turns := by
  have hN := (sc_rim_turns).nd
  exact (dss_one (ds_ret (de_callD A.ok_turns_of hr (by decide) hgd rfl (takes_of rfl rfl rfl rfl) (da_cons (dv 0) (da_cons (de_methD0 A.ok_Net_rim_ways hr (by decide) hgd (takes_of rfl rfl rfl rfl) (dv 1)) (da_cons (de_callD A.ok_pair_of hr (by decide) hgd rfl (takes_of rfl rfl rfl rfl) (da_cons (dv 2) da_nil)) da_nil))))))
theorem Hd.ok_rim_turns (A : Hd K mg) : CallD P w K mg base 4 "rim_turns" ["half", "net", "point"] sp_rim_turns := by
  obtain ⟨fd, F⟩ := A.c.def_ 35
  exact ⟨_, fd, A.g_rim_turns, F.kp, F.bindsN fun _ _ _ _ _ _ us hl => match us, hl with | [_, _, _], _ => rfl, def_ok F sc_rim_turns (fun ds μ Q Xd h => h.1) (fun cdv A2 fr s H E hr hgd => d_rim_turns A hr hgd) fun ds μ Q Xd h => h.2⟩
/-! signed -/
abbrev N_signed : List Str := ["half", "net", "point", "ahead", "back"]
theorem sc_signed : FnScope N_signed ["half", "net", "point"] (defScope (top 34)) := ⟨rfl, rfl, rfl, by decide +kernel, rfl, by decide +kernel, by decide +kernel⟩
def w_signed : WS := (sSeq (sAsg (wCall sp_owner_counts (wCons (wVar 0) (wCons (wVar 1) (wCons (wCall sp_pair_of (wCons (wVar 2) wNil)) wNil)))) (kTup 2 (kCons (kName 3) (kCons (kName 4) kNil))))
 (sRet (w2 fSub (wVar 3) (wVar 4))))
def sp_signed : DSp := fun ds μ Q Xd => ds.length = 3 ∧ w_signed (defE Q Xd) (startD N_signed ds) μ
theorem d_signed (A : Hd K mg) {cdv : Value} {A2 : Around} {fr : List Env} {s : Shared} {H : Hp} {E : XK} {f : Addr} (hr : Room 4 (A2.deeper (envOfC "signed" (defScope (top 34)) s.heap.objs.size f cdv))) (hgd : (A2.deeper (envOfC "signed" (defScope (top 34)) s.heap.objs.size f cdv)).guards = some []) :
    DSs none (fun cls d _ H2 => E cls d H2) (cxOf (L2.CX P w) P w K mg base N_signed "signed" (defScope (top 34)) f cdv A2 fr s H E) (defBody (top 34)) w_signed := by
  have hN := (sc_signed).nd
  exact (dss_cons (ds_asg (de_callD A.ok_owner_counts hr (by decide) hgd rfl (takes_of rfl rfl rfl rfl) (da_cons (dv 0) (da_cons (dv 1) (da_cons (de_callD A.ok_pair_of hr (by decide) hgd rfl (takes_of rfl rfl rfl rfl) (da_cons (dv 2) da_nil)) da_nil)))) (dg_tup rfl (dgs_cons (dg_name hN rfl) (dgs_cons (dg_name hN rfl) dgs_nil))))
 (dss_one (ds_ret (de_sub (dv 3) (dv 4)))))
theorem Hd.ok_signed (A : Hd K mg) : CallD P w K mg base 5 "signed" ["half", "net", "point"] sp_signed := by
  obtain ⟨fd, F⟩ := A.c.def_ 36
  exact ⟨_, fd, A.g_signed, F.kp, F.bindsN fun _ _ _ _ _ _ us hl => match us, hl with | [_, _, _], _ => rfl, def_ok F sc_signed (fun ds μ Q Xd h => h.1) (fun cdv A2 fr s H E hr hgd => d_signed A hr hgd) fun ds μ Q Xd h => h.2⟩
/-! law -/
abbrev N_law : List Str := ["script", "k", "pool", "pairs", "first", "second", "told_half", "half", "one", "other", "both", "over", "begun", "flat", "turn", "left", "p", "ours", "theirs", "three", "i", "j", "k2", "index"]
theorem sc_law : FnScope N_law ["script"] (defScope (top 59)) := ⟨rfl, rfl, rfl, by decide +kernel, rfl, by decide +kernel, by decide +kernel⟩
def w_law : WS := (sSeq (sFor (wiR1 (wCons (wN fMax2 (wCons (wC (.int (1))) (wCons (wN fMin2 (wCons (wN fLen (wCons (wVar 0) wNil)) (wCons (wC (.int (6))) wNil))) wNil))) wNil)) (kName 1)
  (sSeq (sSet 2 (wCall sp__law_hand (wCons (wVar 0) (wCons (wVar 1) wNil))))
 (sSeq (sAsg (wCall sp__law_net (wCons (wVar 2) wNil)) (kTup 2 (kCons (kName 3) (kCons (kName 4) kNil))))
 (sSeq (sSet 5 (wLc (wiL (w2 fIx (wCall sp__law_net (wCons (wVar 2) wNil)) (wC (.int (1))))) (kNameC 19) (wB (w2 fLt (wN fMaxL (wCons (wLc (wiT (wVar 19)) (kNameC 23) wYes (wN fInt1 (wCons (wVar 23) wNil)) [23]) wNil)) (wN fLen (wCons (wVar 3) wNil)))) (wVar 19) [19]))
 (sSeq (sSet 6 (wCall sp__law_told_half (wCons (wVar 2) wNil)))
 (sSeq (sSet 7 (wMake "Half" sp_Half_init (wCons (w2 fIx (wVar 6) (wC (.int (1)))) (wCons (w2 fIx (wVar 6) (wC (.int (2)))) wNil))))
 (sSeq (sPar3 8 9 10 (wCons (wMake "Net" sp_Net_init (wCons (wVar 3) (wCons (wVar 4) wNil))) (wCons (wMake "Net" sp_Net_init (wCons (wVar 3) (wCons (wVar 5) wNil))) (wCons (wMake "Net" sp_Net_init (wCons (wVar 3) (wCons (w2 fPlus (wVar 4) (wVar 5)) wNil))) wNil))))
 (sSeq (sSet 11 (wMake "Net" sp_Net_init (wCons (wVar 3) (wCons (wLc (wiL (wVar 4)) (kTup 3 (kCons (kNameC 20) (kCons (kNameC 21) (kCons (kNameC 22) kNil)))) wYes (wTup (wCons (wVar 20) (wCons (wVar 22) (wCons (wVar 21) wNil)))) [20, 21, 22]) wNil))))
 (sSeq (sSet 12 (wMake "Net" sp_Net_init (wCons (wVar 3) (wCons (w1 fRev (wLc (wiL (wVar 4)) (kTup 3 (kCons (kNameC 20) (kCons (kNameC 21) (kCons (kNameC 22) kNil)))) wYes (wTup (wCons (wVar 21) (wCons (wVar 22) (wCons (wVar 20) wNil)))) [20, 21, 22])) wNil))))
 (sSeq (sSet 13 (wMake "Net" sp_Net_init (wCons (w2 fPlus (wVar 3) (wLst (wCons (w2 fIx (wVar 3) (wC (.int (0)))) wNil))) (wCons (w2 fPlus (wVar 4) (wLst (wCons (wTup (wCons (wC (.int (0))) (wCons (wC (.int (1))) (wCons (wN fLen (wCons (wVar 3) wNil)) wNil)))) (wCons (wTup (wCons (wN fLen (wCons (wVar 3) wNil)) (wCons (wC (.int (1))) (wCons (wC (.int (0))) wNil)))) (wCons (wTup (wCons (wC (.int (1))) (wCons (wC (.int (0))) (wCons (wN fLen (wCons (wVar 3) wNil)) wNil)))) wNil))))) wNil))))
 (sSeq (sFor (wiR1 (wCons (wC (.int (30))) wNil)) (kName 14)
  (sSeq (sSet 16 (wCall sp__law_pair (wCons (wVar 2) (wCons (wC (.int (6))) wNil))))
 (sSeq (sPar2 17 18 (wCons (wCall sp_counted_owners (wCons (wVar 7) (wCons (wVar 8) (wCons (wVar 16) wNil)))) (wCons (wCall sp_counted_owners (wCons (wVar 7) (wCons (wVar 9) (wCons (wMake "Point" sp_Point_init (wCons (w2 fIx (wVar 16) (wC (.int (0)))) (wCons (w2 fIx (wVar 16) (wC (.int (1)))) wNil))) wNil)))) wNil)))
 (sSeq (sIf (wB (w2 fNeU (wCall sp_counted_owners (wCons (wVar 7) (wCons (wVar 10) (wCons (wVar 16) wNil)))) (wTup (wCons (w2 fPlus (w2 fIx (wVar 17) (wC (.int (0)))) (w2 fIx (wVar 18) (wC (.int (0))))) (wCons (w2 fPlus (w2 fIx (wVar 17) (wC (.int (1)))) (w2 fIx (wVar 18) (wC (.int (1))))) wNil)))))
  (sRet (wC (.bl false)))
  sNext)
 (sSeq (sIf (wOr (wB (w2 fNeU (wCall sp_counted_owners (wCons (wVar 7) (wCons (wVar 11) (wCons (wVar 16) wNil)))) (wTup (wCons (w2 fIx (wVar 17) (wC (.int (1)))) (wCons (w2 fIx (wVar 17) (wC (.int (0)))) wNil))))) (wB (w2 fNeU (wCall sp_counted_owners (wCons (wVar 7) (wCons (wVar 12) (wCons (wVar 16) wNil)))) (wVar 17))))
  (sRet (wC (.bl false)))
  sNext)
 (sSeq (sIf (wOr (wB (w2 fNeU (wCall sp_counted_owners (wCons (wVar 7) (wCons (wVar 13) (wCons (wVar 16) wNil)))) (wVar 17))) (wB (w2 fNeU (wCall sp_rim_turns (wCons (wVar 7) (wCons (wVar 11) (wCons (wVar 16) wNil)))) (w1 fNeg (wCall sp_rim_turns (wCons (wVar 7) (wCons (wVar 8) (wCons (wVar 16) wNil))))))))
  (sRet (wC (.bl false)))
  sNext)
 (sIf (wB (w2 fNeU (wCall sp_signed (wCons (wVar 7) (wCons (wVar 10) (wCons (wVar 16) wNil)))) (w2 fPlus (wCall sp_signed (wCons (wVar 7) (wCons (wVar 8) (wCons (wVar 16) wNil)))) (wCall sp_rim_turns (wCons (wVar 7) (wCons (wVar 9) (wCons (wVar 16) wNil)))))))
  (sRet (wC (.bl false)))
  sNext)))))))
 (sSeq (sSet 15 (wCall sp__law_left (wCons (w2 fPlus (wMeth "Net" "rim" sp_Net_rim (wVar 8) wNil) (wMeth "Net" "rim" sp_Net_rim (wVar 9) wNil)) wNil)))
 (sSeq (sIf (wB (w2 fNeU (wN fSorted (wCons (wLc (wiL (wVar 15)) (kTup 2 (kCons (kNameC 20) (kCons (kNameC 21) kNil))) wYes (wN fInt1 (wCons (w2 fPlus (w2 fTimes (wN fLen (wCons (wVar 3) wNil)) (wVar 20)) (wVar 21)) wNil)) [20, 21]) wNil)) (wLc (wiL (wMeth "Net" "rim" sp_Net_rim (wVar 10) wNil)) (kTup 2 (kCons (kNameC 20) (kCons (kNameC 21) kNil))) wYes (w2 fPlus (w2 fTimes (wN fLen (wCons (wVar 3) wNil)) (wVar 20)) (wVar 21)) [20, 21])))
  (sRet (wC (.bl false)))
  sNext)
 (sIf (wB (w2 fNeU (wN fSorted (wCons (wLc (wiL (wMeth "Net" "rim" sp_Net_rim (wVar 8) wNil)) (kTup 2 (kCons (kNameC 20) (kCons (kNameC 21) kNil))) wYes (wN fInt1 (wCons (w2 fPlus (w2 fTimes (wN fLen (wCons (wVar 3) wNil)) (wVar 21)) (wVar 20)) wNil)) [20, 21]) wNil)) (wLc (wiL (wMeth "Net" "rim" sp_Net_rim (wVar 11) wNil)) (kTup 2 (kCons (kNameC 20) (kCons (kNameC 21) kNil))) wYes (w2 fPlus (w2 fTimes (wN fLen (wCons (wVar 3) wNil)) (wVar 20)) (wVar 21)) [20, 21])))
  (sRet (wC (.bl false)))
  sNext))))))))))))))
 (sRet (wC (.bl true))))
def sp_law : DSp := fun ds μ Q Xd => ds.length = 1 ∧ w_law (defE Q Xd) (startD N_law ds) μ
theorem d_law (A : Hd K mg) {cdv : Value} {A2 : Around} {fr : List Env} {s : Shared} {H : Hp} {E : XK} {f : Addr} (hr : Room 6 (A2.deeper (envOfC "law" (defScope (top 59)) s.heap.objs.size f cdv))) (hgd : (A2.deeper (envOfC "law" (defScope (top 59)) s.heap.objs.size f cdv)).guards = some []) :
    DSs none (fun cls d _ H2 => E cls d H2) (cxOf (L2.CX P w) P w K mg base N_law "law" (defScope (top 59)) f cdv A2 fr s H E) (defBody (top 59)) w_law := by
  have hN := (sc_law).nd
  exact (dss_cons (ds_for (passes_of rfl) rfl (di_range1 (by rfl) A.f_range (da_cons (de_callB (call_max2 (by rfl)) sn_max2 (by rfl) A.f_max bt_max (da_cons de_int (da_cons (de_callB (call_min2 (by rfl)) sn_min2 (by rfl) A.f_min bt_min (da_cons (de_callB call_len_seq sn_len (by rfl) A.f_len bt_len (da_cons (dv 0) da_nil)) (da_cons de_int da_nil))) da_nil))) da_nil)) (dg_name hN rfl) (dss_cons (ds_set (i := 2) hN rfl (de_callD A.ok__law_hand hr (by decide) hgd rfl (takes_of rfl rfl rfl rfl) (da_cons (dv 0) (da_cons (dv 1) da_nil))))
 (dss_cons (ds_asg (de_callD A.ok__law_net hr (by decide) hgd rfl (takes_of rfl rfl rfl rfl) (da_cons (dv 2) da_nil)) (dg_tup rfl (dgs_cons (dg_name hN rfl) (dgs_cons (dg_name hN rfl) dgs_nil))))
 (dss_cons (ds_setLc (i := 5) rfl hN rfl rfl (di_list (de_item (de_callD A.ok__law_net hr (by decide) hgd (by rfl) (takes_of (by rfl) (by rfl) (by rfl) (by rfl)) (da_cons (dv 2) da_nil)) de_int)) (blkOk_by (own := [("three", 19)]) (by show blkC N_law (defScope (top 59)) _ _ = true; decide +kernel)) (lcg_name (by decide)) (fun _ _ _ _ _ => (pg_name hN rfl (by first | exact Or.inl rfl | exact Or.inr rfl) (by first | exact .inl rfl | exact .inr rfl))) (fun _ _ _ _ _ => (dts_one (dt_cmp op_lt s2_IB (de_callB (cr_max rfl) sn_maxL rfl A.f_max bt_max (da_cons (de_lc rfl hN (di_tup (dv 19)) (blkOk_by (own := [("index", 23)]) (by kernel_rfl)) (lcg_name (by decide)) (fun _ _ _ _ _ => (pg_name hN rfl (by first | exact Or.inl rfl | exact Or.inr rfl) (by first | exact .inl rfl | exact .inr rfl))) (fun _ _ _ _ _ => dts_nil) (fun _ _ _ _ _ => (de_callTy call_int1 sn_int1 rfl A.f_int bt_int (da_cons (dv 23) da_nil)))) da_nil)) (de_callB call_len_seq sn_len rfl A.f_len bt_len (da_cons (dv 3) da_nil)) (nomark _)))) (fun _ _ _ _ _ => (dv 19)))
 (dss_cons (ds_set (i := 6) hN rfl (de_callD A.ok__law_told_half hr (by decide) hgd rfl (takes_of rfl rfl rfl rfl) (da_cons (dv 2) da_nil)))
 (dss_cons (ds_set (i := 7) hN rfl (de_makeD A.ok_Half_init hr (by decide) hgd rfl (takes_of rfl rfl rfl rfl) (da_cons (de_item (dv 6) de_int) (da_cons (de_item (dv 6) de_int) da_nil))))
 (dss_cons (ds_par3 (i := 8) (j := 9) (l := 10) rfl hN rfl rfl rfl (by decide) (by decide) (by decide) (da_cons (de_makeD A.ok_Net_init hr (by decide) hgd rfl (takes_of rfl rfl rfl rfl) (da_cons (dv 3) (da_cons (dv 4) da_nil))) (da_cons (de_makeD A.ok_Net_init hr (by decide) hgd rfl (takes_of rfl rfl rfl rfl) (da_cons (dv 3) (da_cons (dv 5) da_nil))) (da_cons (de_makeD A.ok_Net_init hr (by decide) hgd rfl (takes_of rfl rfl rfl rfl) (da_cons (dv 3) (da_cons (de_plus (dv 4) (dv 5)) da_nil))) da_nil))))
 (dss_cons (ds_set (i := 11) hN rfl (de_makeD A.ok_Net_init hr (by decide) hgd rfl (takes_of rfl rfl rfl rfl) (da_cons (dv 3) (da_cons (de_lc rfl hN (di_list (dv 4)) (blkOk_by (own := [("i", 20), ("j", 21), ("k2", 22)]) (by show blkC N_law (defScope (top 59)) _ _ = true; decide +kernel)) (lcg_tup (lcgs_cons (lcg_name (by decide)) (lcgs_cons (lcg_name (by decide)) (lcgs_cons (lcg_name (by decide)) lcgs_nil)))) (fun _ _ _ _ _ => (pg_tup rfl (pgs_cons (pg_name hN rfl (by first | exact Or.inl rfl | exact Or.inr rfl) (by first | exact .inl rfl | exact .inr rfl)) (pgs_cons (pg_name hN rfl (by first | exact Or.inl rfl | exact Or.inr rfl) (by first | exact .inl rfl | exact .inr rfl)) (pgs_cons (pg_name hN rfl (by first | exact Or.inl rfl | exact Or.inr rfl) (by first | exact .inl rfl | exact .inr rfl)) pgs_nil))))) (fun _ _ _ _ _ => dts_nil) (fun _ _ _ _ _ => (de_tup (da_cons (dv 20) (da_cons (dv 22) (da_cons (dv 21) da_nil)))))) da_nil))))
 (dss_cons (ds_set (i := 12) hN rfl (de_makeD A.ok_Net_init hr (by decide) hgd rfl (takes_of rfl rfl rfl rfl) (da_cons (dv 3) (da_cons (de_rev (de_lc rfl hN (di_list (dv 4)) (blkOk_by (own := [("i", 20), ("j", 21), ("k2", 22)]) (by show blkC N_law (defScope (top 59)) _ _ = true; decide +kernel)) (lcg_tup (lcgs_cons (lcg_name (by decide)) (lcgs_cons (lcg_name (by decide)) (lcgs_cons (lcg_name (by decide)) lcgs_nil)))) (fun _ _ _ _ _ => (pg_tup rfl (pgs_cons (pg_name hN rfl (by first | exact Or.inl rfl | exact Or.inr rfl) (by first | exact .inl rfl | exact .inr rfl)) (pgs_cons (pg_name hN rfl (by first | exact Or.inl rfl | exact Or.inr rfl) (by first | exact .inl rfl | exact .inr rfl)) (pgs_cons (pg_name hN rfl (by first | exact Or.inl rfl | exact Or.inr rfl) (by first | exact .inl rfl | exact .inr rfl)) pgs_nil))))) (fun _ _ _ _ _ => dts_nil) (fun _ _ _ _ _ => (de_tup (da_cons (dv 21) (da_cons (dv 22) (da_cons (dv 20) da_nil))))))) da_nil))))
 (dss_cons (ds_set (i := 13) hN rfl (de_makeD A.ok_Net_init hr (by decide) hgd rfl (takes_of rfl rfl rfl rfl) (da_cons (de_plus (dv 3) (de_lst (da_cons (de_item (dv 3) de_int) da_nil))) (da_cons (de_plus (dv 4) (de_lst (da_cons (de_tup (da_cons de_int (da_cons de_int (da_cons (de_callB call_len_seq sn_len rfl A.f_len bt_len (da_cons (dv 3) da_nil)) da_nil)))) (da_cons (de_tup (da_cons (de_callB call_len_seq sn_len rfl A.f_len bt_len (da_cons (dv 3) da_nil)) (da_cons de_int (da_cons de_int da_nil)))) (da_cons (de_tup (da_cons de_int (da_cons de_int (da_cons (de_callB call_len_seq sn_len rfl A.f_len bt_len (da_cons (dv 3) da_nil)) da_nil)))) da_nil))))) da_nil))))
 (dss_cons (ds_for (passes_of rfl) rfl (di_range1 (by rfl) A.f_range (da_cons de_int da_nil)) (dg_name hN rfl) (dss_cons (ds_set (i := 16) hN rfl (de_callD A.ok__law_pair hr (by decide) hgd rfl (takes_of rfl rfl rfl rfl) (da_cons (dv 2) (da_cons de_int da_nil))))
 (dss_cons (ds_par2 (i := 17) (j := 18) rfl hN rfl rfl (by decide) (da_cons (de_callD A.ok_counted_owners hr (by decide) hgd rfl (takes_of rfl rfl rfl rfl) (da_cons (dv 7) (da_cons (dv 8) (da_cons (dv 16) da_nil)))) (da_cons (de_callD A.ok_counted_owners hr (by decide) hgd rfl (takes_of rfl rfl rfl rfl) (da_cons (dv 7) (da_cons (dv 9) (da_cons (de_makeD A.ok_Point_init hr (by decide) hgd rfl (takes_of rfl rfl rfl rfl) (da_cons (de_item (dv 16) de_int) (da_cons (de_item (dv 16) de_int) da_nil))) da_nil)))) da_nil)))
 (dss_cons (ds_if (dt_cmp (op_neU (have z := room64 hr; z)) s2_neU (de_callD A.ok_counted_owners hr (by decide) hgd rfl (takes_of rfl rfl rfl rfl) (da_cons (dv 7) (da_cons (dv 10) (da_cons (dv 16) da_nil)))) (de_tup (da_cons (de_plus (de_item (dv 17) de_int) (de_item (dv 18) de_int)) (da_cons (de_plus (de_item (dv 17) de_int) (de_item (dv 18) de_int)) da_nil))) (nomark _)) (dss_one (ds_ret de_bl)) dss_nil)
 (dss_cons (ds_if (dt_w (dw_or (dt_cmp (op_neU (have z := room64 hr; z)) s2_neU (de_callD A.ok_counted_owners hr (by decide) hgd rfl (takes_of rfl rfl rfl rfl) (da_cons (dv 7) (da_cons (dv 11) (da_cons (dv 16) da_nil)))) (de_tup (da_cons (de_item (dv 17) de_int) (da_cons (de_item (dv 17) de_int) da_nil))) (nomark _)) (dw_or1 (dt_cmp (op_neU (have z := room64 hr; z)) s2_neU (de_callD A.ok_counted_owners hr (by decide) hgd rfl (takes_of rfl rfl rfl rfl) (da_cons (dv 7) (da_cons (dv 12) (da_cons (dv 16) da_nil)))) (dv 17) (nomark _))))) (dss_one (ds_ret de_bl)) dss_nil)
 (dss_cons (ds_if (dt_w (dw_or (dt_cmp (op_neU (have z := room64 hr; z)) s2_neU (de_callD A.ok_counted_owners hr (by decide) hgd rfl (takes_of rfl rfl rfl rfl) (da_cons (dv 7) (da_cons (dv 13) (da_cons (dv 16) da_nil)))) (dv 17) (nomark _)) (dw_or1 (dt_cmp (op_neU (have z := room64 hr; z)) s2_neU (de_callD A.ok_rim_turns hr (by decide) hgd rfl (takes_of rfl rfl rfl rfl) (da_cons (dv 7) (da_cons (dv 11) (da_cons (dv 16) da_nil)))) (de_neg (de_callD A.ok_rim_turns hr (by decide) hgd rfl (takes_of rfl rfl rfl rfl) (da_cons (dv 7) (da_cons (dv 8) (da_cons (dv 16) da_nil))))) (nomark _))))) (dss_one (ds_ret de_bl)) dss_nil)
 (dss_one (ds_if (dt_cmp (op_neU (have z := room64 hr; z)) s2_neU (de_callD A.ok_signed hr (by decide) hgd rfl (takes_of rfl rfl rfl rfl) (da_cons (dv 7) (da_cons (dv 10) (da_cons (dv 16) da_nil)))) (de_plus (de_callD A.ok_signed hr (by decide) hgd rfl (takes_of rfl rfl rfl rfl) (da_cons (dv 7) (da_cons (dv 8) (da_cons (dv 16) da_nil)))) (de_callD A.ok_rim_turns hr (by decide) hgd rfl (takes_of rfl rfl rfl rfl) (da_cons (dv 7) (da_cons (dv 9) (da_cons (dv 16) da_nil))))) (nomark _)) (dss_one (ds_ret de_bl)) dss_nil))))))))
 (dss_cons (ds_set (i := 15) hN rfl (de_callD A.ok__law_left hr (by decide) hgd rfl (takes_of rfl rfl rfl rfl) (da_cons (de_plus (de_methD0 A.ok_Net_rim hr (by decide) hgd (takes_of rfl rfl rfl rfl) (dv 8)) (de_methD0 A.ok_Net_rim hr (by decide) hgd (takes_of rfl rfl rfl rfl) (dv 9))) da_nil)))
 (dss_cons (ds_if (dt_cmp (op_neU (have z := room64 hr; z)) s2_neU (de_callB cr_sorted sn_sorted rfl A.f_sorted bt_sorted (da_cons (de_lc rfl hN (di_list (dv 15)) (blkOk_by (own := [("i", 20), ("j", 21)]) (by show blkC N_law (defScope (top 59)) _ _ = true; decide +kernel)) (lcg_tup (lcgs_cons (lcg_name (by decide)) (lcgs_cons (lcg_name (by decide)) lcgs_nil))) (fun _ _ _ _ _ => (pg_tup rfl (pgs_cons (pg_name hN rfl (by first | exact Or.inl rfl | exact Or.inr rfl) (by first | exact .inl rfl | exact .inr rfl)) (pgs_cons (pg_name hN rfl (by first | exact Or.inl rfl | exact Or.inr rfl) (by first | exact .inl rfl | exact .inr rfl)) pgs_nil)))) (fun _ _ _ _ _ => dts_nil) (fun _ _ _ _ _ => (de_callTy call_int1 sn_int1 rfl A.f_int bt_int (da_cons (de_plus (de_times (de_callB call_len_seq sn_len rfl A.f_len bt_len (da_cons (dv 3) da_nil)) (dv 20)) (dv 21)) da_nil)))) da_nil)) (de_lc rfl hN (di_list (de_methD0 A.ok_Net_rim hr (by decide) hgd (takes_of rfl rfl rfl rfl) (dv 10))) (blkOk_by (own := [("i", 20), ("j", 21)]) (by show blkC N_law (defScope (top 59)) _ _ = true; decide +kernel)) (lcg_tup (lcgs_cons (lcg_name (by decide)) (lcgs_cons (lcg_name (by decide)) lcgs_nil))) (fun _ _ _ _ _ => (pg_tup rfl (pgs_cons (pg_name hN rfl (by first | exact Or.inl rfl | exact Or.inr rfl) (by first | exact .inl rfl | exact .inr rfl)) (pgs_cons (pg_name hN rfl (by first | exact Or.inl rfl | exact Or.inr rfl) (by first | exact .inl rfl | exact .inr rfl)) pgs_nil)))) (fun _ _ _ _ _ => dts_nil) (fun _ _ _ _ _ => (de_plus (de_times (de_callB call_len_seq sn_len rfl A.f_len bt_len (da_cons (dv 3) da_nil)) (dv 20)) (dv 21)))) (nomark _)) (dss_one (ds_ret de_bl)) dss_nil)
 (dss_one (ds_if (dt_cmp (op_neU (have z := room64 hr; z)) s2_neU (de_callB cr_sorted sn_sorted rfl A.f_sorted bt_sorted (da_cons (de_lc rfl hN (di_list (de_methD0 A.ok_Net_rim hr (by decide) hgd (takes_of rfl rfl rfl rfl) (dv 8))) (blkOk_by (own := [("i", 20), ("j", 21)]) (by show blkC N_law (defScope (top 59)) _ _ = true; decide +kernel)) (lcg_tup (lcgs_cons (lcg_name (by decide)) (lcgs_cons (lcg_name (by decide)) lcgs_nil))) (fun _ _ _ _ _ => (pg_tup rfl (pgs_cons (pg_name hN rfl (by first | exact Or.inl rfl | exact Or.inr rfl) (by first | exact .inl rfl | exact .inr rfl)) (pgs_cons (pg_name hN rfl (by first | exact Or.inl rfl | exact Or.inr rfl) (by first | exact .inl rfl | exact .inr rfl)) pgs_nil)))) (fun _ _ _ _ _ => dts_nil) (fun _ _ _ _ _ => (de_callTy call_int1 sn_int1 rfl A.f_int bt_int (da_cons (de_plus (de_times (de_callB call_len_seq sn_len rfl A.f_len bt_len (da_cons (dv 3) da_nil)) (dv 21)) (dv 20)) da_nil)))) da_nil)) (de_lc rfl hN (di_list (de_methD0 A.ok_Net_rim hr (by decide) hgd (takes_of rfl rfl rfl rfl) (dv 11))) (blkOk_by (own := [("i", 20), ("j", 21)]) (by show blkC N_law (defScope (top 59)) _ _ = true; decide +kernel)) (lcg_tup (lcgs_cons (lcg_name (by decide)) (lcgs_cons (lcg_name (by decide)) lcgs_nil))) (fun _ _ _ _ _ => (pg_tup rfl (pgs_cons (pg_name hN rfl (by first | exact Or.inl rfl | exact Or.inr rfl) (by first | exact .inl rfl | exact .inr rfl)) (pgs_cons (pg_name hN rfl (by first | exact Or.inl rfl | exact Or.inr rfl) (by first | exact .inl rfl | exact .inr rfl)) pgs_nil)))) (fun _ _ _ _ _ => dts_nil) (fun _ _ _ _ _ => (de_plus (de_times (de_callB call_len_seq sn_len rfl A.f_len bt_len (da_cons (dv 3) da_nil)) (dv 20)) (dv 21)))) (nomark _)) (dss_one (ds_ret de_bl)) dss_nil)))))))))))))))
 (dss_one (ds_ret de_bl)))
end
theorem isi_0 : isiF isiL (.b "int") (.b "bool") = some false := by decide +kernel
theorem isi_1 : isiF isiL (.b "bool") (.b "bool") = some true := by decide +kernel
theorem isi_2 : isiF isiL (.b "str") (.b "bool") = some false := by decide +kernel
theorem isi_3 : isiF isiL (.b "NoneType") (.b "bool") = some false := by decide +kernel
theorem isi_4 : isiF isiL (.b "tuple") (.b "bool") = some false := by decide +kernel
theorem isi_5 : isiF isiL (.b "list") (.b "bool") = some false := by decide +kernel
theorem isi_6 : isiF isiL (.c "Point") (.b "bool") = some false := by decide +kernel
theorem isi_7 : isiF isiL (.c "Net") (.b "bool") = some false := by decide +kernel
theorem isi_8 : isiF isiL (.c "Half") (.b "bool") = some false := by decide +kernel
theorem isi_9 : isiF isiL (.b "int") (.b "int") = some true := by decide +kernel
theorem isi_10 : isiF isiL (.b "bool") (.b "int") = some true := by decide +kernel
theorem isi_11 : isiF isiL (.b "str") (.b "int") = some false := by decide +kernel
theorem isi_12 : isiF isiL (.b "NoneType") (.b "int") = some false := by decide +kernel
theorem isi_13 : isiF isiL (.b "tuple") (.b "int") = some false := by decide +kernel
theorem isi_14 : isiF isiL (.b "list") (.b "int") = some false := by decide +kernel
theorem isi_15 : isiF isiL (.c "Point") (.b "int") = some false := by decide +kernel
theorem isi_16 : isiF isiL (.c "Net") (.b "int") = some false := by decide +kernel
theorem isi_17 : isiF isiL (.c "Half") (.b "int") = some false := by decide +kernel
theorem isi_18 : isiF isiL (.b "int") (.c "Point") = some false := by decide +kernel
theorem isi_19 : isiF isiL (.b "bool") (.c "Point") = some false := by decide +kernel
theorem isi_20 : isiF isiL (.b "str") (.c "Point") = some false := by decide +kernel
theorem isi_21 : isiF isiL (.b "NoneType") (.c "Point") = some false := by decide +kernel
theorem isi_22 : isiF isiL (.b "tuple") (.c "Point") = some false := by decide +kernel
theorem isi_23 : isiF isiL (.b "list") (.c "Point") = some false := by decide +kernel
theorem isi_24 : isiF isiL (.c "Point") (.c "Point") = some true := by decide +kernel
theorem isi_25 : isiF isiL (.c "Net") (.c "Point") = some false := by decide +kernel
theorem isi_26 : isiF isiL (.c "Half") (.c "Point") = some false := by decide +kernel
theorem isi_27 : isiF isiL (.b "int") (.b "tuple") = some false := by decide +kernel
theorem isi_28 : isiF isiL (.b "bool") (.b "tuple") = some false := by decide +kernel
theorem isi_29 : isiF isiL (.b "str") (.b "tuple") = some false := by decide +kernel
theorem isi_30 : isiF isiL (.b "NoneType") (.b "tuple") = some false := by decide +kernel
theorem isi_31 : isiF isiL (.b "tuple") (.b "tuple") = some true := by decide +kernel
theorem isi_32 : isiF isiL (.b "list") (.b "tuple") = some false := by decide +kernel
theorem isi_33 : isiF isiL (.c "Point") (.b "tuple") = some false := by decide +kernel
theorem isi_34 : isiF isiL (.c "Net") (.b "tuple") = some false := by decide +kernel
theorem isi_35 : isiF isiL (.c "Half") (.b "tuple") = some false := by decide +kernel
theorem isi_36 : isiF isiL (.b "int") (.b "list") = some false := by decide +kernel
theorem isi_37 : isiF isiL (.b "bool") (.b "list") = some false := by decide +kernel
theorem isi_38 : isiF isiL (.b "str") (.b "list") = some false := by decide +kernel
theorem isi_39 : isiF isiL (.b "NoneType") (.b "list") = some false := by decide +kernel
theorem isi_40 : isiF isiL (.b "tuple") (.b "list") = some false := by decide +kernel
theorem isi_41 : isiF isiL (.b "list") (.b "list") = some true := by decide +kernel
theorem isi_42 : isiF isiL (.c "Point") (.b "list") = some false := by decide +kernel
theorem isi_43 : isiF isiL (.c "Net") (.b "list") = some false := by decide +kernel
theorem isi_44 : isiF isiL (.c "Half") (.b "list") = some false := by decide +kernel
end K47

set_option Elab.async false
set_option linter.all false
set_option maxRecDepth 100000
set_option maxHeartbeats 4000000
set_option autoImplicit false
set_option exponentiation.threshold 3000
namespace K47
open PySem PySem.Spec PyProof.Rows L2 DL
local macro_rules
  | `(tactic| walk_at "dk") => `(tactic| try simp only [z_slt, z_slt1, z_slt2, z_slt3, g_gen, g_genm, g_genm1, g_log, g_logC, r_newD, r_put0, r_kw, r_kw1, r_kw2, r_kw0, r_kw00, c_wi, c_en, c_en1, c_for, c_for1, c_lc, c_lc1, c_lof, c_lof1, c_ap, c_ap1, c_ap2, y_p2, y_p21, y_oo, y_fo, y_foq, y_of, y_of2, c_si, c_si1, c_si2, c_si3, c_lu1, c_lu2, c_lu3, z_fl, z_fl1, z_fl2, z_ps, z_ps1, z_ps2, z_ps3, z_eqT, z_cat, z_cat1, z_cat2, y_pop, y_pop1, y_pop2, y_lcC, y_lcR, y_callR, t_wis, t_wisa, t_dicL, t_kpt, t_kpt1, t_kpt2, t_slst, t_m1s, t_m1s1, t_m1s2, t_catS, t_sls, t_sls1, t_sls2, t_sls3, t_fs, t_js0, t_js1, t_js2, t_js3, t_fmtI, t_fmtS, t_strI, t_insl, t_insl1, t_insl2, t_insl3, t_ors, t_dic, t_put, t_put1, t_put2, t_put3, t_base, y_cell, y_rem, y_rem1, y_rem2, x_subO, x_subO1, x_subO2, v_slo, v_slo1, w_ff, w_ft, w_tf, w_tt, false_and, and_false, v_ix, v_ix1, v_ix2, v_inv, v_inv1, v_co, v_co1, v_co2, v_len, v_len1, isiD, tyD, clD, r_insobj, fldOf, DL.isNon, items_tup, items_lst, items_frl, hasCls, othTy, insD, DL.putK, DL.putD, initEnd, startI, startD, DL.wipeD, List.map_cons, List.map_nil, List.length_cons, List.length_nil, List.getElem?_cons_zero, List.getElem?_cons_succ, List.getElem?_nil, List.set_cons_zero, List.set_cons_succ, List.cons_append, List.nil_append, List.append_nil, List.replicate, Nat.sub_self, Nat.reduceSub, Nat.reduceAdd, Nat.reduceLeDiff, Nat.reduceEqDiff, Nat.reduceLT, Int.reduceLT, Int.reduceLE, if_true, if_false, Bool.not_true, Bool.not_false, reduceIte, reduceCtorEq, true_and, and_true, Nat.zero_add, Bool.true_eq_false, Bool.false_eq_true, eqU_int, eqU_str, eqU_bl, str_eq, str_beq, String.reduceEq, decide_true, decide_false, decide_eq_true_eq, pl_items, pl_st0, pl_st1, pl_fold, notOwn, List.mem_singleton, List.mem_cons, List.not_mem_nil, or_false, false_or, or_true, true_or, forall_eq, forall_eq_or_imp, implies_true, Int.reduceToNat, Int.reduceEq, Int.reduceNe, Int.reduceAdd, Int.reduceSub, Int.reduceMul, Int.reducePow, Int.reduceMod, Int.reduceDiv, atI_0, atI_1, atI_2, atI_3, rg1, rg2, startI, r_var, r_var2, r_c, r_w2, r_w2a, r_w2b, r_w1, r_w1a, r_wB, r_wBa, r_ch, r_ch1, r_ch2, r_ch3t, r_ch3f, r_and, r_andt, r_andf, r_or, r_ort, r_orf, r_not, r_nota, r_ife, r_ifet, r_ifef, r_andv, r_andvt, r_andvf, r_orv, r_orvt, r_orvf, r_notv, r_notva, r_nil, r_cons, r_cons1, r_cons2, r_tup, r_tupa, r_lst, r_lsta, r_lstc, r_lstca, r_wn, r_wna, r_call, r_calla, r_mk, r_mk1, r_mk2, r_mkc, r_mkc1, r_mkc2, r_me, r_me1, r_me2, r_bo, r_bo1, r_bo2, r_onone, r_osome, r_osomea, r_sl, r_sl1, r_sl2, r_sl3, r_sl3f, r_ii, r_ii0, r_ib, r_i1, r_plus, r_plusl, r_times, r_timesl, r_isn, r_notn, r_isb, r_notb, r_pm, r_pm1, DL.perm, z_neT, z_catT, r_eqd, r_ned, r_int1, r_int1b, r_max2, r_min2, r_abs, r_ix, r_ix2, r_ix3, r_len, r_len2, r_isi, r_isi2, r_fld, r_fld2, r_fld3, r_insobj, r_kx, r_next, r_never, r_seq, r_seqa, r_if, r_ift, r_iff, r_ret, r_retn, r_brk, r_cnt, r_drop, r_dropa, r_set, r_seta, r_asg, r_asga, r_name, r_namec, r_ktup, r_kunl, r_kcons, r_kcs, r_knil, r_par2, r_par2a, r_par3, r_par3a, r_aug, r_auga, r_augb, r_augc, r_for, r_fora, r_knx, r_fldo, r_fldoa, r_put, r_frz, r_frz2, r_frz3, r_frz4, r_cl, r_seto, r_setoa, r_wil, r_wila, r_wilf, r_wit, r_wita, r_wi1, r_wi1a, r_wi2, r_wi2a, r_wie, r_wiea, r_wiz, r_wiza, r_wizt, r_lc, r_lc0, r_lcn, r_lcc, r_lc1, r_lc2t, r_lc2f, r_lc3, r_yes, r_sub, r_sub1, r_sub2, r_sub3, r_dnx, r_drt, r_dxc, r_inx, r_init, r_ixc, t_raise, t_raise2, t_try, t_cat, t_catt, t_catf, t_sunx, t_surt, t_nx0, t_nx1, t_nx2, t_nx3, t_prop, t_prop2, t_xf, t_xf2, t_isx, t_isx2, t_wht, t_whf, t_equ, t_neu, t_el, List.reverse_cons, List.reverse_nil, isiDT, anyT, List.all_cons, List.all_nil, Option.isSome_some, Bool.and_true, Bool.true_and, u_lof, u_lof2, u_tof, u_tof2, u_isiT, u_dict, u_bl, u_ownN, u_has, u_hasN, u_bk, u_bk1, u_bk2, u_stat, u_ap, u_ap1, u_ap2, u_ex, u_ex1, u_ex2, u_ownL, u_olen, u_oix, u_oix1, u_oin, u_sumT, u_sumL, u_mu, u_mu1, u_hot, u_hot1, startX, u_mb, u_mb1, u_mb1f, u_mb2, u_rev, u_revf, u_wio, u_wex, u_wel, u_wef, u_wet, u_en, u_en0, u_enc, u_enn, Int.cast_ofNat_Int, u_wzx, u_wzl, u_wzt, u_wzm, u_zd, u_zd0, intsD, DL.intD, u_kd, isTy, Bool.true_xor, Bool.false_xor, eqU_pl, p_int, p_bl, p_non, p_tup, p_lst, p_frl, p0_int, p0_bl, p0_non, deq, deqs, Bool.and_true, Bool.and_false, Bool.false_and, List.contains_cons, List.contains_nil, Bool.or_false, Bool.false_or, Bool.or_self, eq_self, beq_self_eq_true, Bool.not_true, Bool.not_false, List.flatten_cons, List.flatten_nil, isi_0, isi_1, isi_2, isi_3, isi_4, isi_5, isi_6, isi_7, isi_8, isi_9, isi_10, isi_11, isi_12, isi_13, isi_14, isi_15, isi_16, isi_17, isi_18, isi_19, isi_20, isi_21, isi_22, isi_23, isi_24, isi_25, isi_26, isi_27, isi_28, isi_29, isi_30, isi_31, isi_32, isi_33, isi_34, isi_35, isi_36, isi_37, isi_38, isi_39, isi_40, isi_41, isi_42, isi_43, isi_44])
local macro_rules
  | `(tactic| walk_at "ds") => `(tactic| try simp only [z_slt, z_slt1, z_slt2, z_slt3, g_gen, g_genm, g_genm1, g_log, g_logC, r_newD, r_put0, r_kw, r_kw1, r_kw2, r_kw0, r_kw00, c_wi, c_en, c_en1, c_for, c_for1, c_lc, c_lc1, c_lof, c_lof1, c_ap, c_ap1, c_ap2, y_p2, y_p21, y_oo, y_fo, y_foq, y_of, y_of2, c_si, c_si1, c_si2, c_si3, c_lu1, c_lu2, c_lu3, z_fl, z_fl1, z_fl2, z_ps, z_ps1, z_ps2, z_ps3, z_eqT, z_cat, z_cat1, z_cat2, y_pop, y_pop1, y_pop2, y_lcC, y_lcR, y_callR, t_wis, t_wisa, t_dicL, t_kpt, t_kpt1, t_kpt2, t_slst, t_m1s, t_m1s1, t_m1s2, t_catS, t_sls, t_sls1, t_sls2, t_sls3, t_fs, t_js0, t_js1, t_js2, t_js3, t_fmtI, t_fmtS, t_strI, t_insl, t_insl1, t_insl2, t_insl3, t_ors, t_dic, t_put, t_put1, t_put2, t_put3, t_base, y_cell, y_rem, y_rem1, y_rem2, x_subO, x_subO1, x_subO2, v_slo, v_slo1, w_ff, w_ft, w_tf, w_tt, false_and, and_false, isClsU, v_ix, v_ix1, v_ix2, v_inv, v_inv1, v_co, v_co1, v_co2, v_len, v_len1, v_f2or, isiD, tyD, clD, r_insobj, fldOf, DL.isNon, items_tup, items_lst, items_frl, hasCls, isCls, othTy, insD, DL.putK, DL.putD, initEnd, startI, startD, DL.wipeD, List.map_cons, List.map_nil, List.length_cons, List.length_nil, List.getElem?_cons_zero, List.getElem?_cons_succ, List.getElem?_nil, List.set_cons_zero, List.set_cons_succ, List.cons_append, List.nil_append, List.append_nil, List.replicate, Nat.sub_self, Nat.reduceSub, Nat.reduceAdd, Nat.reduceLeDiff, Nat.reduceEqDiff, Nat.reduceLT, Int.reduceLT, Int.reduceLE, if_true, if_false, Bool.not_true, Bool.not_false, reduceIte, reduceCtorEq, true_and, and_true, Nat.zero_add, Bool.true_eq_false, Bool.false_eq_true, eqU_int, eqU_str, eqU_bl, str_eq, str_beq, String.reduceEq, decide_true, decide_false, decide_eq_true_eq, pl_items, pl_st0, pl_st1, pl_fold, notOwn, List.mem_singleton, List.mem_cons, List.not_mem_nil, or_false, false_or, or_true, true_or, forall_eq, forall_eq_or_imp, implies_true, Int.reduceToNat, Int.reduceEq, Int.reduceNe, Int.reduceAdd, Int.reduceSub, Int.reduceMul, Int.reducePow, Int.reduceMod, Int.reduceDiv, atI_0, atI_1, atI_2, atI_3, rg1, rg2, startI, r_var, r_var2, r_c, r_w2, r_w2a, r_w2b, r_w1, r_w1a, r_wB, r_wBa, r_ch, r_ch1, r_ch2, r_ch3t, r_ch3f, r_and, r_andt, r_andf, r_or, r_ort, r_orf, r_not, r_nota, r_ife, r_ifet, r_ifef, r_andv, r_andvt, r_andvf, r_orv, r_orvt, r_orvf, r_notv, r_notva, r_nil, r_cons, r_cons1, r_cons2, r_tup, r_tupa, r_lst, r_lsta, r_lstc, r_lstca, r_wn, r_wna, r_call, r_calla, r_mk, r_mk1, r_mk2, r_mkc, r_mkc1, r_mkc2, r_me, r_me1, r_me2, r_bo, r_bo1, r_bo2, r_onone, r_osome, r_osomea, r_sl, r_sl1, r_sl2, r_sl3, r_sl3f, r_ii, r_ii0, r_ib, r_i1, r_plus, r_plusl, r_times, r_timesl, r_isn, r_notn, r_isb, r_notb, r_pm, r_pm1, DL.perm, z_neT, z_catT, r_eqd, r_ned, r_int1, r_int1b, r_max2, r_min2, r_abs, r_ix, r_ix2, r_ix3, r_len, r_len2, r_isi, r_isi2, r_fld, r_fld2, r_fld3, r_insobj, r_kx, r_next, r_never, r_seqa, r_if, r_ift, r_iff, r_ret, r_retn, r_brk, r_cnt, r_drop, r_dropa, r_set, r_seta, r_asg, r_asga, r_name, r_namec, r_ktup, r_kunl, r_kcons, r_kcs, r_knil, r_par2, r_par2a, r_par3, r_par3a, r_aug, r_auga, r_augb, r_augc, r_for, r_fora, r_knx, r_fldo, r_fldoa, r_put, r_frz, r_frz2, r_frz3, r_frz4, r_cl, r_seto, r_setoa, r_wil, r_wila, r_wilf, r_wit, r_wita, r_wi1, r_wi1a, r_wi2, r_wi2a, r_wie, r_wiea, r_wiz, r_wiza, r_wizt, r_lc, r_lc0, r_lcn, r_lcc, r_lc1, r_lc2t, r_lc2f, r_lc3, r_yes, r_sub, r_sub1, r_sub2, r_sub3, r_dnx, r_drt, r_dxc, r_inx, r_init, r_ixc, t_raise, t_raise2, t_try, t_cat, t_catt, t_catf, t_sunx, t_surt, t_nx0, t_nx1, t_nx2, t_nx3, t_prop, t_prop2, t_xf, t_xf2, t_isx, t_isx2, t_wht, t_whf, t_equ, t_neu, t_el, List.reverse_cons, List.reverse_nil, isiDT, anyT, List.all_cons, List.all_nil, Option.isSome_some, Bool.and_true, Bool.true_and, u_lof, u_lof2, u_tof, u_tof2, u_isiT, u_dict, u_bl, u_own, u_ownN, u_has, u_hasN, u_bk, u_bk1, u_bk2, u_stat, u_ap, u_ap1, u_ap2, u_ex, u_ex1, u_ex2, u_ownL, u_olen, u_oix, u_oix1, u_oin, u_sumT, u_sumL, u_mu, u_mu1, u_hot, u_hot1, startX, u_mb, u_mb1, u_mb1f, u_mb2, u_rev, u_revf, u_wio, u_wex, u_wel, u_wef, u_wet, u_en, u_en0, u_enc, u_enn, Int.cast_ofNat_Int, u_wzx, u_wzl, u_wzt, u_wzm, u_zd, u_zd0, intsD, DL.intD, u_kd, othC, isTy, Bool.true_xor, Bool.false_xor, eqU_pl, p_int, p_bl, p_non, p_tup, p_lst, p_frl, p0_int, p0_bl, p0_non, deq, deqs, Bool.and_true, Bool.and_false, Bool.false_and, List.contains_cons, List.contains_nil, Bool.or_false, Bool.false_or, Bool.or_self, eq_self, beq_self_eq_true, Bool.not_true, Bool.not_false, List.flatten_cons, List.flatten_nil, isi_0, isi_1, isi_2, isi_3, isi_4, isi_5, isi_6, isi_7, isi_8, isi_9, isi_10, isi_11, isi_12, isi_13, isi_14, isi_15, isi_16, isi_17, isi_18, isi_19, isi_20, isi_21, isi_22, isi_23, isi_24, isi_25, isi_26, isi_27, isi_28, isi_29, isi_30, isi_31, isi_32, isi_33, isi_34, isi_35, isi_36, isi_37, isi_38, isi_39, isi_40, isi_41, isi_42, isi_43, isi_44])
local macro_rules
  | `(tactic| walk_at "dn") => `(tactic| try simp only [z_slt, z_slt1, z_slt2, z_slt3, g_gen, g_genm, g_genm1, g_log, g_logC, r_newD, r_put0, r_kw, r_kw1, r_kw2, r_kw0, r_kw00, c_wi, c_en, c_en1, c_for, c_for1, c_lc, c_lc1, c_lof, c_lof1, c_ap, c_ap1, c_ap2, y_p2, y_p21, y_oo, y_fo, y_foq, y_of, y_of2, c_si, c_si1, c_si2, c_si3, c_lu1, c_lu2, c_lu3, z_fl, z_fl1, z_fl2, z_ps, z_ps1, z_ps2, z_ps3, z_eqT, z_cat, z_cat1, z_cat2, y_pop, y_pop1, y_pop2, y_lcC, y_lcR, y_callR, t_wis, t_wisa, t_dicL, t_kpt, t_kpt1, t_kpt2, t_slst, t_m1s, t_m1s1, t_m1s2, t_catS, t_sls, t_sls1, t_sls2, t_sls3, t_fs, t_js0, t_js1, t_js2, t_js3, t_fmtI, t_fmtS, t_strI, t_insl, t_insl1, t_insl2, t_insl3, t_ors, t_dic, t_put, t_put1, t_put2, t_put3, t_base, y_cell, y_rem, y_rem1, y_rem2, x_subO, x_subO1, x_subO2, v_slo, v_slo1, w_ff, w_ft, w_tf, w_tt, false_and, and_false, isClsU, v_ix, v_ix1, v_ix2, v_inv, v_inv1, v_co, v_co1, v_co2, v_len, v_len1, v_f2or, isiD, tyD, clD, r_insobj, fldOf, DL.isNon, items_tup, items_lst, items_frl, hasCls, isCls, othTy, insD, DL.putK, DL.putD, initEnd, startI, startD, DL.wipeD, List.map_cons, List.map_nil, List.length_cons, List.length_nil, List.getElem?_cons_zero, List.getElem?_cons_succ, List.getElem?_nil, List.set_cons_zero, List.set_cons_succ, List.cons_append, List.nil_append, List.append_nil, List.replicate, Nat.sub_self, Nat.reduceSub, Nat.reduceAdd, Nat.reduceLeDiff, Nat.reduceEqDiff, Nat.reduceLT, Int.reduceLT, Int.reduceLE, if_true, if_false, Bool.not_true, Bool.not_false, reduceIte, reduceCtorEq, true_and, and_true, Nat.zero_add, Bool.true_eq_false, Bool.false_eq_true, eqU_int, eqU_str, eqU_bl, str_eq, str_beq, String.reduceEq, decide_true, decide_false, decide_eq_true_eq, pl_items, pl_st0, pl_st1, pl_fold, notOwn, List.mem_singleton, List.mem_cons, List.not_mem_nil, or_false, false_or, or_true, true_or, forall_eq, forall_eq_or_imp, implies_true, Int.reduceToNat, Int.reduceEq, Int.reduceNe, Int.reduceAdd, Int.reduceSub, Int.reduceMul, Int.reducePow, Int.reduceMod, Int.reduceDiv, atI_0, atI_1, atI_2, atI_3, rg1, rg2, startI, r_var, r_var2, r_c, r_w2, r_w2a, r_w2b, r_w1, r_w1a, r_wB, r_wBa, r_ch, r_ch1, r_ch2, r_ch3t, r_ch3f, r_and, r_andt, r_andf, r_or, r_ort, r_orf, r_not, r_nota, r_ife, r_ifet, r_ifef, r_andv, r_andvt, r_andvf, r_orv, r_orvt, r_orvf, r_notv, r_notva, r_nil, r_cons, r_cons1, r_cons2, r_tup, r_tupa, r_lst, r_lsta, r_lstc, r_lstca, r_wn, r_wna, r_call, r_calla, r_mk, r_mk1, r_mk2, r_mkc, r_mkc1, r_mkc2, r_me, r_me1, r_me2, r_bo, r_bo1, r_bo2, r_onone, r_osome, r_osomea, r_sl, r_sl1, r_sl2, r_sl3, r_sl3f, r_ii, r_ii0, r_ib, r_i1, r_plus, r_plusl, r_times, r_timesl, r_isn, r_notn, r_isb, r_notb, r_pm, r_pm1, DL.perm, z_neT, z_catT, r_eqd, r_ned, r_int1, r_int1b, r_max2, r_min2, r_abs, r_ix, r_ix2, r_ix3, r_len, r_len2, r_isi, r_isi2, r_fld, r_fld2, r_fld3, r_insobj, r_kx, r_next, r_never, r_seq, r_seqa, r_if, r_ift, r_iff, r_ret, r_retn, r_brk, r_cnt, r_drop, r_dropa, r_set, r_seta, r_asg, r_asga, r_name, r_namec, r_ktup, r_kunl, r_kcons, r_kcs, r_knil, r_par2, r_par2a, r_par3, r_par3a, r_aug, r_auga, r_augb, r_augc, r_for, r_fora, r_knx, r_fldo, r_fldoa, r_put, r_frz, r_frz2, r_frz3, r_frz4, r_cl, r_seto, r_setoa, r_wil, r_wila, r_wilf, r_wit, r_wita, r_wi1, r_wi1a, r_wi2, r_wi2a, r_wie, r_wiea, r_wiz, r_wiza, r_wizt, r_lc, r_lc0, r_lcn, r_lcc, r_lc1, r_lc2t, r_lc2f, r_lc3, r_yes, r_sub, r_sub1, r_sub2, r_sub3, r_dnx, r_drt, r_dxc, r_inx, r_init, r_ixc, t_raise, t_raise2, t_try, t_cat, t_catt, t_catf, t_sunx, t_surt, t_nx0, t_nx1, t_nx2, t_nx3, t_prop, t_prop2, t_xf, t_xf2, t_isx, t_isx2, t_wht, t_whf, t_equ, t_neu, t_el, List.reverse_cons, List.reverse_nil, isiDT, anyT, List.all_cons, List.all_nil, Option.isSome_some, Bool.and_true, Bool.true_and, u_lof, u_lof2, u_tof, u_tof2, u_isiT, u_dict, u_bl, u_own, u_ownN, u_has, u_hasN, u_bk, u_bk1, u_bk2, u_stat, u_ap, u_ap1, u_ap2, u_ex, u_ex1, u_ex2, u_ownL, u_olen, u_oix, u_oix1, u_oin, u_sumT, u_sumL, u_mu, u_mu1, u_hot, u_hot1, startX, u_mb, u_mb1, u_mb1f, u_mb2, u_rev, u_revf, u_wio, u_wex, u_wel, u_wef, u_wet, u_en, u_en0, u_enc, u_enn, Int.cast_ofNat_Int, u_wzx, u_wzl, u_wzt, u_wzm, u_zd, u_zd0, intsD, DL.intD, u_kd, othC, isTy, Bool.true_xor, Bool.false_xor, eqU_pl, p_int, p_bl, p_non, p_tup, p_lst, p_frl, p0_int, p0_bl, p0_non, deq, deqs, Bool.and_true, Bool.and_false, Bool.false_and, List.contains_cons, List.contains_nil, Bool.or_false, Bool.false_or, Bool.or_self, eq_self, beq_self_eq_true, Bool.not_true, Bool.not_false, List.flatten_cons, List.flatten_nil, isi_0, isi_1, isi_2, isi_3, isi_4, isi_5, isi_6, isi_7, isi_8, isi_9, isi_10, isi_11, isi_12, isi_13, isi_14, isi_15, isi_16, isi_17, isi_18, isi_19, isi_20, isi_21, isi_22, isi_23, isi_24, isi_25, isi_26, isi_27, isi_28, isi_29, isi_30, isi_31, isi_32, isi_33, isi_34, isi_35, isi_36, isi_37, isi_38, isi_39, isi_40, isi_41, isi_42, isi_43, isi_44])
local macro_rules
  | `(tactic| walk_at "dl1") => `(tactic| simp only [z_slt, z_slt1, z_slt2, z_slt3, g_gen, g_genm, g_genm1, g_log, g_logC, r_newD, r_put0, r_kw, r_kw1, r_kw2, r_kw0, r_kw00, c_wi, c_en, c_en1, c_for, c_for1, c_lc, c_lc1, c_lof, c_lof1, c_ap, c_ap1, c_ap2, y_p2, y_p21, y_oo, y_fo, y_foq, y_of, y_of2, c_si, c_si1, c_si2, c_si3, c_lu1, c_lu2, c_lu3, z_fl, z_fl1, z_fl2, z_ps, z_ps1, z_ps2, z_ps3, z_eqT, z_cat, z_cat1, z_cat2, y_pop, y_pop1, y_pop2, y_lcC, y_lcR, y_callR, t_wis, t_wisa, t_dicL, t_kpt, t_kpt1, t_kpt2, t_slst, t_m1s, t_m1s1, t_m1s2, t_catS, t_sls, t_sls1, t_sls2, t_sls3, t_fs, t_js0, t_js1, t_js2, t_js3, t_fmtI, t_fmtS, t_strI, t_insl, t_insl1, t_insl2, t_insl3, t_ors, t_dic, t_put, t_put1, t_put2, t_put3, t_base, y_cell, y_rem, y_rem1, y_rem2, x_subO, x_subO1, x_subO2, v_slo, v_slo1, w_ff, w_ft, w_tf, w_tt, false_and, and_false, isClsU, v_ix, v_ix1, v_ix2, v_inv, v_inv1, v_co, v_co1, v_co2, v_len, v_len1, v_f2or, isiD, tyD, clD, r_insobj, fldOf, DL.isNon, items_tup, items_lst, items_frl, hasCls, isCls, othTy, insD, DL.putK, DL.putD, initEnd, startI, startD, DL.wipeD, List.map_cons, List.map_nil, List.length_cons, List.length_nil, List.getElem?_cons_zero, List.getElem?_cons_succ, List.getElem?_nil, List.set_cons_zero, List.set_cons_succ, List.cons_append, List.nil_append, List.append_nil, List.replicate, Nat.sub_self, Nat.reduceSub, Nat.reduceAdd, Nat.reduceLeDiff, Nat.reduceEqDiff, Nat.reduceLT, Int.reduceLT, Int.reduceLE, if_true, if_false, Bool.not_true, Bool.not_false, reduceIte, reduceCtorEq, true_and, and_true, Nat.zero_add, Bool.true_eq_false, Bool.false_eq_true, eqU_int, eqU_str, eqU_bl, str_eq, str_beq, String.reduceEq, decide_true, decide_false, decide_eq_true_eq, pl_items, pl_st0, pl_st1, pl_fold, notOwn, List.mem_singleton, List.mem_cons, List.not_mem_nil, or_false, false_or, or_true, true_or, forall_eq, forall_eq_or_imp, implies_true, range_succ, range_zero, Int.reduceToNat, Int.reduceEq, Int.reduceNe, Int.reduceAdd, Int.reduceSub, Int.reduceMul, Int.reducePow, Int.reduceMod, Int.reduceDiv, atI_0, atI_1, atI_2, atI_3, rg1, rg2, startI, r_var, r_var2, r_c, r_w2, r_w2a, r_w2b, r_w1, r_w1a, r_wB, r_wBa, r_ch, r_ch1, r_ch2, r_ch3t, r_ch3f, r_and, r_andt, r_andf, r_or, r_ort, r_orf, r_not, r_nota, r_ife, r_ifet, r_ifef, r_andv, r_andvt, r_andvf, r_orv, r_orvt, r_orvf, r_notv, r_notva, r_nil, r_cons, r_cons1, r_cons2, r_tup, r_tupa, r_lst, r_lsta, r_lstc, r_lstca, r_wn, r_wna, r_call, r_calla, r_mk, r_mk1, r_mk2, r_mkc, r_mkc1, r_mkc2, r_me, r_me1, r_me2, r_bo, r_bo1, r_bo2, r_onone, r_osome, r_osomea, r_sl, r_sl1, r_sl2, r_sl3, r_sl3f, r_ii, r_ii0, r_ib, r_i1, r_plus, r_plusl, r_times, r_timesl, r_isn, r_notn, r_isb, r_notb, r_pm, r_pm1, DL.perm, z_neT, z_catT, r_eqd, r_ned, r_int1, r_int1b, r_max2, r_min2, r_abs, r_ix, r_ix2, r_ix3, r_len, r_len2, r_isi, r_isi2, r_fld, r_fld2, r_fld3, r_insobj, r_kx, r_next, r_never, r_seq, r_seqa, r_if, r_ift, r_iff, r_ret, r_retn, r_brk, r_cnt, r_drop, r_dropa, r_set, r_seta, r_asg, r_asga, r_name, r_namec, r_ktup, r_kunl, r_kcons, r_kcs, r_knil, r_par2, r_par2a, r_par3, r_par3a, r_aug, r_auga, r_augb, r_augc, r_for, r_fora, r_knx, r_fldo, r_fldoa, r_put, r_frz, r_frz2, r_frz3, r_frz4, r_cl, r_seto, r_setoa, r_wil, r_wila, r_wilf, r_wit, r_wita, r_wi1, r_wi1a, r_wi2, r_wi2a, r_wie, r_wiea, r_wiz, r_wiza, r_wizt, r_lc, r_lc0, r_lcn, r_lcc, r_lc1, r_lc2t, r_lc2f, r_lc3, r_yes, r_sub, r_sub1, r_sub2, r_sub3, r_dnx, r_drt, r_dxc, r_inx, r_init, r_ixc, t_raise, t_raise2, t_try, t_cat, t_catt, t_catf, t_sunx, t_surt, t_nx0, t_nx1, t_nx2, t_nx3, t_prop, t_prop2, t_xf, t_xf2, t_isx, t_isx2, t_wht, t_whf, t_equ, t_neu, t_el, List.reverse_cons, List.reverse_nil, isiDT, anyT, List.all_cons, List.all_nil, Option.isSome_some, Bool.and_true, Bool.true_and, u_lof, u_lof2, u_tof, u_tof2, u_isiT, u_dict, u_bl, u_own, u_ownN, u_has, u_hasN, u_bk, u_bk1, u_bk2, u_stat, u_ap, u_ap1, u_ap2, u_ex, u_ex1, u_ex2, u_ownL, u_olen, u_oix, u_oix1, u_oin, u_sumT, u_sumL, u_mu, u_mu1, u_hot, u_hot1, startX, u_mb, u_mb1, u_mb1f, u_mb2, u_rev, u_revf, u_wio, u_wex, u_wel, u_wef, u_wet, u_en, u_en0, u_enc, u_enn, Int.cast_ofNat_Int, u_wzx, u_wzl, u_wzt, u_wzm, u_zd, u_zd0, intsD, DL.intD, u_kd, othC, isTy, Bool.true_xor, Bool.false_xor, eqU_pl, p_int, p_bl, p_non, p_tup, p_lst, p_frl, p0_int, p0_bl, p0_non, deq, deqs, Bool.and_true, Bool.and_false, Bool.false_and, List.contains_cons, List.contains_nil, Bool.or_false, Bool.false_or, Bool.or_self, eq_self, beq_self_eq_true, Bool.not_true, Bool.not_false, List.flatten_cons, List.flatten_nil, isi_0, isi_1, isi_2, isi_3, isi_4, isi_5, isi_6, isi_7, isi_8, isi_9, isi_10, isi_11, isi_12, isi_13, isi_14, isi_15, isi_16, isi_17, isi_18, isi_19, isi_20, isi_21, isi_22, isi_23, isi_24, isi_25, isi_26, isi_27, isi_28, isi_29, isi_30, isi_31, isi_32, isi_33, isi_34, isi_35, isi_36, isi_37, isi_38, isi_39, isi_40, isi_41, isi_42, isi_43, isi_44])
local macro_rules
  | `(tactic| walk_at "dl") => `(tactic| try simp only [z_slt, z_slt1, z_slt2, z_slt3, g_gen, g_genm, g_genm1, g_log, g_logC, r_newD, r_put0, r_kw, r_kw1, r_kw2, r_kw0, r_kw00, c_wi, c_en, c_en1, c_for, c_for1, c_lc, c_lc1, c_lof, c_lof1, c_ap, c_ap1, c_ap2, y_p2, y_p21, y_oo, y_fo, y_foq, y_of, y_of2, c_si, c_si1, c_si2, c_si3, c_lu1, c_lu2, c_lu3, z_fl, z_fl1, z_fl2, z_ps, z_ps1, z_ps2, z_ps3, z_eqT, z_cat, z_cat1, z_cat2, y_pop, y_pop1, y_pop2, y_lcC, y_lcR, y_callR, t_wis, t_wisa, t_dicL, t_kpt, t_kpt1, t_kpt2, t_slst, t_m1s, t_m1s1, t_m1s2, t_catS, t_sls, t_sls1, t_sls2, t_sls3, t_fs, t_js0, t_js1, t_js2, t_js3, t_fmtI, t_fmtS, t_strI, t_insl, t_insl1, t_insl2, t_insl3, t_ors, t_dic, t_put, t_put1, t_put2, t_put3, t_base, y_cell, y_rem, y_rem1, y_rem2, x_subO, x_subO1, x_subO2, v_slo, v_slo1, w_ff, w_ft, w_tf, w_tt, false_and, and_false, isClsU, v_ix, v_ix1, v_ix2, v_inv, v_inv1, v_co, v_co1, v_co2, v_len, v_len1, v_f2or, isiD, tyD, clD, r_insobj, fldOf, DL.isNon, items_tup, items_lst, items_frl, hasCls, isCls, othTy, insD, DL.putK, DL.putD, initEnd, startI, startD, DL.wipeD, List.map_cons, List.map_nil, List.length_cons, List.length_nil, List.getElem?_cons_zero, List.getElem?_cons_succ, List.getElem?_nil, List.set_cons_zero, List.set_cons_succ, List.cons_append, List.nil_append, List.append_nil, List.replicate, Nat.sub_self, Nat.reduceSub, Nat.reduceAdd, Nat.reduceLeDiff, Nat.reduceEqDiff, Nat.reduceLT, Int.reduceLT, Int.reduceLE, if_true, if_false, Bool.not_true, Bool.not_false, reduceIte, reduceCtorEq, true_and, and_true, Nat.zero_add, Bool.true_eq_false, Bool.false_eq_true, eqU_int, eqU_str, eqU_bl, str_eq, str_beq, String.reduceEq, decide_true, decide_false, decide_eq_true_eq, pl_items, pl_st0, pl_st1, pl_fold, notOwn, List.mem_singleton, List.mem_cons, List.not_mem_nil, or_false, false_or, or_true, true_or, forall_eq, forall_eq_or_imp, implies_true, range_succ, range_zero, Int.reduceToNat, Int.reduceEq, Int.reduceNe, Int.reduceAdd, Int.reduceSub, Int.reduceMul, Int.reducePow, Int.reduceMod, Int.reduceDiv, atI_0, atI_1, atI_2, atI_3, rg1, rg2, startI, r_var, r_var2, r_c, r_w2, r_w2a, r_w2b, r_w1, r_w1a, r_wB, r_wBa, r_ch, r_ch1, r_ch2, r_ch3t, r_ch3f, r_and, r_andt, r_andf, r_or, r_ort, r_orf, r_not, r_nota, r_ife, r_ifet, r_ifef, r_andv, r_andvt, r_andvf, r_orv, r_orvt, r_orvf, r_notv, r_notva, r_nil, r_cons, r_cons1, r_cons2, r_tup, r_tupa, r_lst, r_lsta, r_lstc, r_lstca, r_wn, r_wna, r_call, r_calla, r_mk, r_mk1, r_mk2, r_mkc, r_mkc1, r_mkc2, r_me, r_me1, r_me2, r_bo, r_bo1, r_bo2, r_onone, r_osome, r_osomea, r_sl, r_sl1, r_sl2, r_sl3, r_sl3f, r_ii, r_ii0, r_ib, r_i1, r_plus, r_plusl, r_times, r_timesl, r_isn, r_notn, r_isb, r_notb, r_pm, r_pm1, DL.perm, z_neT, z_catT, r_eqd, r_ned, r_int1, r_int1b, r_max2, r_min2, r_abs, r_ix, r_ix2, r_ix3, r_len, r_len2, r_isi, r_isi2, r_fld, r_fld2, r_fld3, r_insobj, r_kx, r_next, r_never, r_seq, r_seqa, r_if, r_ift, r_iff, r_ret, r_retn, r_brk, r_cnt, r_drop, r_dropa, r_set, r_seta, r_asg, r_asga, r_name, r_namec, r_ktup, r_kunl, r_kcons, r_kcs, r_knil, r_par2, r_par2a, r_par3, r_par3a, r_aug, r_auga, r_augb, r_augc, r_for, r_fora, r_knx, r_fldo, r_fldoa, r_put, r_frz, r_frz2, r_frz3, r_frz4, r_cl, r_seto, r_setoa, r_wil, r_wila, r_wilf, r_wit, r_wita, r_wi1, r_wi1a, r_wi2, r_wi2a, r_wie, r_wiea, r_wiz, r_wiza, r_wizt, r_lc, r_lc0, r_lcn, r_lcc, r_lc1, r_lc2t, r_lc2f, r_lc3, r_yes, r_sub, r_sub1, r_sub2, r_sub3, r_dnx, r_drt, r_dxc, r_inx, r_init, r_ixc, t_raise, t_raise2, t_try, t_cat, t_catt, t_catf, t_sunx, t_surt, t_nx0, t_nx1, t_nx2, t_nx3, t_prop, t_prop2, t_xf, t_xf2, t_isx, t_isx2, t_wht, t_whf, t_equ, t_neu, t_el, List.reverse_cons, List.reverse_nil, isiDT, anyT, List.all_cons, List.all_nil, Option.isSome_some, Bool.and_true, Bool.true_and, u_lof, u_lof2, u_tof, u_tof2, u_isiT, u_dict, u_bl, u_own, u_ownN, u_has, u_hasN, u_bk, u_bk1, u_bk2, u_stat, u_ap, u_ap1, u_ap2, u_ex, u_ex1, u_ex2, u_ownL, u_olen, u_oix, u_oix1, u_oin, u_sumT, u_sumL, u_mu, u_mu1, u_hot, u_hot1, startX, u_mb, u_mb1, u_mb1f, u_mb2, u_rev, u_revf, u_wio, u_wex, u_wel, u_wef, u_wet, u_en, u_en0, u_enc, u_enn, Int.cast_ofNat_Int, u_wzx, u_wzl, u_wzt, u_wzm, u_zd, u_zd0, intsD, DL.intD, u_kd, othC, isTy, Bool.true_xor, Bool.false_xor, eqU_pl, p_int, p_bl, p_non, p_tup, p_lst, p_frl, p0_int, p0_bl, p0_non, deq, deqs, Bool.and_true, Bool.and_false, Bool.false_and, List.contains_cons, List.contains_nil, Bool.or_false, Bool.false_or, Bool.or_self, eq_self, beq_self_eq_true, Bool.not_true, Bool.not_false, List.flatten_cons, List.flatten_nil, isi_0, isi_1, isi_2, isi_3, isi_4, isi_5, isi_6, isi_7, isi_8, isi_9, isi_10, isi_11, isi_12, isi_13, isi_14, isi_15, isi_16, isi_17, isi_18, isi_19, isi_20, isi_21, isi_22, isi_23, isi_24, isi_25, isi_26, isi_27, isi_28, isi_29, isi_30, isi_31, isi_32, isi_33, isi_34, isi_35, isi_36, isi_37, isi_38, isi_39, isi_40, isi_41, isi_42, isi_43, isi_44])
local macro_rules
  | `(tactic| walk_at "cm") => `(tactic| first | exact .inl (.inr ⟨by omega, by omega⟩) | exact .inl (.inl ⟨by omega, by omega⟩) | exact cm_bd (by unfold Bd; omega) (by unfold Bd; omega))
local macro_rules
  | `(tactic| walk_at "cs") => `(tactic| repeat ((with_reducible refine And.intro ?_ ?_); (· first | decide | (walk_at "cm") | exact ⟨by decide, by decide, by decide⟩ | omega)))
local macro_rules
  | `(tactic| walk_at "go") => `(tactic| (walk_at "dl"; walk_at "cs"))
local macro_rules
  | `(tactic| walk_at "gn") => `(tactic| (walk_at "dn"; walk_at "cs"))
section
variable {Q : D → Mu → Prop} {Xd : XD} {μ : Mu}
theorem ii_int {i : Int} (h : Q (.bl true) μ) : sp_is_integer [.int i] μ Q Xd := by
  unfold sp_is_integer w_is_integer
  walk_at "dl"
  exact h
abbrev pr (x y : Int) : D := .tup [.int x, .int y]
abbrev pt (x y : Int) : D := .obj "Point" ["x", "y"] [.int x, .int y]
theorem point_init {Q : List Str → List D → Mu → Prop} {x y : Int} (h : Q ["x", "y"] [.int x, .int y] μ) : sp_Point_init [.int x, .int y] μ Q Xd := by
  unfold sp_Point_init w_Point_init
  refine ⟨rfl, fun a => ?_⟩
  walk_at "dl"
  refine ii_int ?_
  walk_at "dl"
  refine ii_int ?_
  walk_at "dl"
  exact h
/-- a point or a pair -/
def IsP (d : D) (x y : Int) : Prop := d = pr x y ∨ d = pt x y
theorem nums {d : D} {x y : Int} (hd : IsP d x y) (h : Q (pr x y) μ) : sp_numbers_of [d] μ Q Xd := by
  unfold sp_numbers_of w_numbers_of
  rcases hd with rfl | rfl
  · walk_at "dl"
    refine ii_int ?_
    walk_at "dl"
    refine ii_int ?_
    walk_at "dl"
    exact h
  · walk_at "dl"
    exact h
theorem pair_ev {d : D} {x y : Int} (hd : IsP d x y) (h : Q (pr x y) μ) : sp_pair_of [d] μ Q Xd := by
  unfold sp_pair_of w_pair_of
  walk_at "dl"
  refine nums hd ?_
  walk_at "dl"
  exact h
theorem less_ev {x y z w : Int} (h : Q (pr (x - z) (y - w)) μ) : sp_less [pr x y, pr z w] μ Q Xd := by
  unfold sp_less w_less
  walk_at "dl"
  exact h
theorem cross_ev {x y z w : Int} (h1 : CM x w) (h2 : CM y z) (h : Q (.int (x * w - y * z)) μ) : sp_cross_of [pr x y, pr z w] μ Q Xd := by
  unfold sp_cross_of w_cross_of
  walk_at "dl"
  exact ⟨h1, h2, h⟩
def sd (ax ay bx by_ px py : Int) : Int := (bx - ax) * (py - ay) - (by_ - ay) * (px - ax)
theorem sideof_ev {ax ay bx by_ px py : Int} (h1 : CM (bx - ax) (py - ay)) (h2 : CM (by_ - ay) (px - ax)) (h : Q (.int (sd ax ay bx by_ px py)) μ) : sp_side_of [pr ax ay, pr bx by_, pr px py] μ Q Xd := by
  unfold sp_side_of w_side_of
  walk_at "dl"
  refine less_ev ?_
  walk_at "dl"
  refine less_ev ?_
  walk_at "dl"
  exact cross_ev h1 h2 h
theorem hand_ev {ns : List Int} {k : Int} (hl : ns.length ≤ 63) (k0 : 0 ≤ k) (k1 : k ≤ 63) (h : ∀ p q, PoolOk p q → Q (.loc μ.length) (pl μ p q)) : sp__law_hand [.frl (ns.map D.int), .int k] μ Q Xd := by
  unfold sp__law_hand w__law_hand
  walk_at "dl"
  refine ⟨cut_few hl, ?_⟩
  obtain ⟨c, hc⟩ := cell_of (ns := ns) (lo := some k) (hi := some (k + 1))
  rw [hc]
  walk_at "dl"
  have m1 := Int.emod_nonneg c (show (2147483647 : Int) ≠ 0 by decide)
  have m2 := Int.emod_lt_of_pos c (show (0 : Int) < 2147483647 by decide)
  refine ⟨cm_bd (by unfold Bd; omega) (by unfold Bd; omega), cm_bd (by unfold Bd; omega) (by unfold Bd; omega), ⟨by decide, by decide, by decide⟩, .inl (.inl ?_), h _ _ ⟨?_, Int.emod_nonneg _ (by decide), ?_⟩⟩
  · split <;> decide
  · have e : (10 : Int) ^ Int.toNat 18 = 1000000000000000000 := by decide
    try rw [e]
    split <;> omega
  · have := Int.emod_lt_of_pos ((c % 2147483647 + 7919 * k + 1) * 48271) (show (0 : Int) < 2147483629 by decide)
    omega

abbrev pd (p : SA.P) : D := pr p.1 p.2
instance : Inhabited SA.T3 := ⟨⟨(0, 0), (0, 0), (0, 0)⟩⟩
theorem un {g : WG} {b : WS} {E : DEnds} {d : D} {ds : List D} {ρ : DS} {μ : Mu} (h : g d ρ μ fun ρ1 μ1 => b { E with nx := forL g b E ds, ct := forL g b E ds, bk := E.nx } ρ1 μ1) : forL g b E (d :: ds) ρ μ := by
  rw [forL]
  exact h
theorem ways_ev {a b c : SA.P} (h : Q (.lst [.tup [pd a, pd b], .tup [pd b, pd c], .tup [pd c, pd a]]) μ) : sp_ways_of [.lst [pd a, pd b, pd c]] μ Q Xd := by
  unfold sp_ways_of w_ways_of
  walk_at "go"
  exact h
def B6 (x : Int) : Prop := -1000000000000000000000000000000000000000000000000000000000000 ≤ x ∧ x ≤ 1000000000000000000000000000000000000000000000000000000000000
def BP (p : SA.P) : Prop := B6 p.1 ∧ B6 p.2
def BT (t : SA.T3) : Prop := BP t.a ∧ BP t.b ∧ BP t.c
theorem cm6 {a b c d : Int} (ha : B6 a) (hb : B6 b) (hc : B6 c) (hd : B6 d) : CM (a - b) (c - d) := by
  unfold B6 at *
  exact cm_bd (by unfold Bd; omega) (by unfold Bd; omega)
theorem sdp_ev {a b p : SA.P} (ha : BP a) (hb : BP b) (hp : BP p) (h : Q (.int (SA.sd a b p)) μ) : sp_side_of [pd a, pd b, pd p] μ Q Xd :=
  sideof_ev (cm6 hb.1 ha.1 hp.2 ha.2) (cm6 hb.2 ha.2 hp.1 ha.1) h
theorem lessp_ev {a b : SA.P} (h : Q (pd (SA.sb a b)) μ) : sp_less [pd a, pd b] μ Q Xd := less_ev h
theorem bd6 {a b : Int} (ha : B6 a) (hb : B6 b) : Bd (a - b) := by
  unfold B6 Bd at *
  omega
theorem b6bd {x : Int} (h : B6 x) : Bd x := by
  unfold B6 Bd at *
  omega
def wyD (w : SA.P × SA.P) : D := .tup [pd w.1, pd w.2]

theorem gstep {x y : Int} (hx : 0 ≤ x) (hy : 0 < y) : Int.gcd y (x % y) = Int.gcd x y := by
  obtain ⟨n, rfl⟩ := Int.eq_ofNat_of_zero_le hx
  obtain ⟨m, rfl⟩ := Int.eq_ofNat_of_zero_le (Int.le_of_lt hy)
  show Nat.gcd m (n % m) = Nat.gcd n m
  rw [Nat.gcd_comm m, ← Nat.gcd_rec, Nat.gcd_comm]
theorem cdiv_ev {x y : Int} (hy : Bd y) (h : Q (.int (Int.gcd x y)) μ) : sp_common_divisor [.int x, .int y] μ Q Xd := by
  unfold sp_common_divisor w_common_divisor
  walk_at "dl"
  refine while_ind (fun n ρ μ' => μ' = μ ∧ ∃ a b : Int, ρ = [.v (.int a), .v (.int b)] ∧ 0 ≤ a ∧ 0 ≤ b ∧ Bd b ∧ Int.gcd a b = Int.gcd x y ∧ n = b.toNat) (fun n ρ μ' K hI hK => ?_) ⟨rfl, _, _, rfl, by split <;> omega, by split <;> omega, by unfold Bd at *; split <;> omega, ?_, rfl⟩
  · obtain ⟨rfl, a, b, rfl, a0, b0, bb, hg, rfl⟩ := hI
    walk_at "dl"
    by_cases c : 0 < b
    · rw [decide_eq_true c]
      walk_at "dl"
      refine ⟨c, ?_⟩
      have m1 := Int.emod_nonneg a (show b ≠ 0 by omega)
      have m2 := Int.emod_lt_of_pos a c
      exact hK _ _ _ (by omega) ⟨rfl, _, _, rfl, b0, m1, by unfold Bd at *; omega, by rw [gstep a0 c]; exact hg, rfl⟩
    · rw [decide_eq_false c]
      walk_at "dl"
      have e : b = 0 := by omega
      subst e
      rw [Int.gcd_zero_right] at hg
      rw [← hg] at h
      have e2 : ((a.natAbs : Nat) : Int) = a := by omega
      rw [e2] at h
      exact h
  · split <;> split <;> simp
theorem lowp_ev {u : SA.P} (hu : u ≠ SA.O) (b1 : Bd u.1) (b2 : Bd u.2) (h : Q (pd (SA.lw u)) μ) : sp_lowest_pair [pd u] μ Q Xd := by
  have g0 := SA.gcd_pos hu
  have gb : Bd (Int.gcd u.1 u.2 : Int) := by
    rw [SA.nz] at hu
    unfold Bd at *
    by_cases c : u.1 = 0
    · have : Int.gcd u.1 u.2 ≤ u.2.natAbs := Nat.le_of_dvd (by omega) (Int.gcd_dvd_natAbs_right u.1 u.2)
      omega
    · have : Int.gcd u.1 u.2 ≤ u.1.natAbs := Nat.le_of_dvd (by omega) (Int.gcd_dvd_natAbs_left u.1 u.2)
      omega
  unfold sp_lowest_pair w_lowest_pair
  walk_at "dl"
  refine cdiv_ev b2 ?_
  walk_at "dl"
  exact ⟨cd_bd g0 gb, cd_bd g0 gb, h⟩

/-! rules -/
inductive Rl where
  | tab (bs : List Bool)
  | half (w : SA.P) (ah : Bool)
def rlD : Rl → D
  | .tab bs => .obj "Table" ["truths"] [.lst (bs.map D.bl)]
  | .half w ah => .obj "Half" ["own_way", "own_ahead"] [pd w, .bl ah]
def tR (bs : List Bool) (d : SA.P) : Bool := (bs[(SO.kd d).toNat]?).getD false
def rlR : Rl → SA.P → Bool
  | .tab bs => tR bs
  | .half w ah => SA.hf w ah
def RlOk : Rl → Prop
  | .tab _ => False
  | .half w _ => w ≠ SA.O ∧ BP w
theorem half_has {w d : SA.P} {ah : Bool} (b1 : Bd w.1) (b2 : Bd w.2) (b3 : Bd d.1) (b4 : Bd d.2) (h : Q (.bl (SA.hf w ah d)) μ) : sp_Half_has [rlD (.half w ah), pd d] μ Q Xd := by
  unfold sp_Half_has w_Half_has rlD
  unfold SA.hf SA.cr at h
  walk_at "dl"
  refine cross_ev (cm_bd b1 b4) (cm_bd b2 b3) ?_
  walk_at "dl"
  by_cases c : w.1 * d.2 - w.2 * d.1 = 0
  · rw [if_neg (by omega)] at h
    rw [decide_eq_true c]
    walk_at "dl"
    refine ⟨cm_bd b3 b1, cm_bd b4 b2, ?_⟩
    walk_at "dl"
    cases ah <;> by_cases g : 0 < d.1 * w.1 + d.2 * w.2 <;> simp only [g, decide_true, decide_false] at h ⊢ <;> exact h
  · rw [if_pos c] at h
    rw [decide_eq_false c]
    walk_at "dl"
    exact h
theorem isow_ev {r : Rl} {t : SA.T3} {p : SA.P} (ok : RlOk r) (g : SA.Good t) (bt : BT t) (bp : BP p) (h : Q (.bl (SA.own (rlR r) t p)) μ) : sp_is_owned [rlD r, .lst [pd t.a, pd t.b, pd t.c], pd p] μ Q Xd := by
  obtain ⟨a, b, c⟩ := t
  obtain ⟨ba, bb, bc⟩ := bt
  simp only at ba bb bc
  have nz3 := SA.sd_ne g
  have hall : SA.own (rlR r) ⟨a, b, c⟩ p = [(a, b), (b, c), (c, a)].all fun w => SA.wOwn (rlR r) w.1 w.2 p := by
    unfold SA.own
    simp
  rw [hall] at h
  unfold sp_is_owned w_is_owned
  walk_at "go"
  refine ways_ev ?_
  walk_at "go"
  refine forL_pre (α := SA.P × SA.P) (f := wyD) (l := [(a, b), (b, c), (c, a)]) (fun pre ρ μ' => μ' = μ ∧ (∀ w ∈ pre, SA.wOwn (rlR r) w.1 w.2 p = true) ∧ ∃ s3 s4 s5 : Sl, ρ = [.v (rlD r), .v (.lst [pd a, pd b, pd c]), .v (pd p), s3, s4, s5])
    (fun pre w post e ρ μ' K hI hK => ?_) (fun ρ μ' hI => ?_) ⟨rfl, fun t ht => (nomatch ht), _, _, _, rfl⟩
  · obtain ⟨rfl, yes, s3, s4, s5, rfl⟩ := hI
    have hw : w ∈ [(a, b), (b, c), (c, a)] := by rw [e]; simp
    have bw : BP w.1 ∧ BP w.2 ∧ SA.sb w.2 w.1 ≠ SA.O := by
      simp only [List.mem_cons, List.not_mem_nil, or_false] at hw
      rcases hw with rfl | rfl | rfl
      · exact ⟨ba, bb, nz3.1⟩
      · exact ⟨bb, bc, nz3.2.1⟩
      · exact ⟨bc, ba, nz3.2.2⟩
    have no : SA.wOwn (rlR r) w.1 w.2 p = false → Q (.bl false) μ' := fun z => by
      have q : ([(a, b), (b, c), (c, a)].all fun w => SA.wOwn (rlR r) w.1 w.2 p) = false := by
        rw [List.all_eq_false]
        exact ⟨w, hw, by simp [z]⟩
      rw [q] at h
      exact h
    have go : SA.wOwn (rlR r) w.1 w.2 p = true → ∀ ρ', (∃ s3 s4 s5 : Sl, ρ' = [.v (rlD r), .v (.lst [pd a, pd b, pd c]), .v (pd p), s3, s4, s5]) → K ρ' μ' := fun z ρ' hρ => hK _ _ ⟨rfl, fun w' hw' => by
      rcases List.mem_append.mp hw' with q | q
      · exact yes w' q
      · rw [List.mem_singleton] at q
        rw [q, z], hρ⟩
    clear hK e yes h
    unfold wyD
    walk_at "go"
    refine sdp_ev bw.1 bw.2.1 bp ?_
    walk_at "go"
    by_cases l : SA.sd w.1 w.2 p < 0
    · rw [decide_eq_true l]
      walk_at "go"
      refine no ?_
      unfold SA.wOwn
      rw [decide_eq_false (by omega), decide_eq_false (by omega)]
      rfl
    rw [decide_eq_false l]
    walk_at "go"
    by_cases z : SA.sd w.1 w.2 p = 0
    · rw [SA.wOwn_zero z] at no go
      rw [decide_eq_true z]
      walk_at "go"
      cases r with
      | tab bs => exact ok.elim
      | half hw ah =>
        unfold rlD
        walk_at "go"
        refine lessp_ev ?_
        walk_at "go"
        refine half_has (b6bd ok.2.1) (b6bd ok.2.2) (bd6 bw.2.1.1 bw.1.1) (bd6 bw.2.1.2 bw.1.2) ?_
        cases v : SA.hf hw ah (SA.sb w.2 w.1)
        · walk_at "go"
          exact no v
        · walk_at "go"
          exact go v _ ⟨_, _, _, rfl⟩
    · rw [decide_eq_false z]
      walk_at "go"
      exact go (SA.wOwn_pos (by omega)) _ ⟨_, _, _, rfl⟩
  · obtain ⟨rfl, yes, s3, s4, s5, rfl⟩ := hI
    walk_at "go"
    refine b_go (F := fun b μ => Q (.bl b) μ) ?_ h
    exact (List.all_eq_true.mpr yes).symm

theorem half_init {Q : List Str → List D → Mu → Prop} {w : SA.P} {ah : Bool} {d : D} (hd : IsP d w.1 w.2) (hw : w ≠ SA.O) (b1 : Bd w.1) (b2 : Bd w.2) (h : Q ["own_way", "own_ahead"] [pd (SA.lw w), .bl ah] μ) : sp_Half_init [d, .bl ah] μ Q Xd := by
  have e0 : (decide (w.1 = 0) && decide (w.2 = 0)) = false := by
    rw [SA.nz] at hw
    rw [Bool.and_eq_false_iff, decide_eq_false_iff_not, decide_eq_false_iff_not]
    omega
  unfold sp_Half_init w_Half_init
  refine ⟨rfl, fun x => ?_⟩
  walk_at "dl"
  unfold sp_way_in w_way_in
  walk_at "dl"
  refine nums hd ?_
  walk_at "dl"
  try simp only [Bool.and_true]
  rw [e0]
  walk_at "dl"
  refine lowp_ev hw b1 b2 ?_
  walk_at "dl"
  unfold sp_check_ahead w_check_ahead
  walk_at "dl"
  exact h

/-- the pool's cell, with other cells behind it -/
def pc (μ : Mu) (d e : D) (ν : Mu) : Mu := μ ++ .lst [d, e] :: ν
theorem pc_get {μ ν : Mu} {d e : D} : (pc μ d e ν)[μ.length]? = some (.lst [d, e]) := by
  unfold pc
  rw [List.getElem?_append_right (Nat.le_refl _), Nat.sub_self]
  rfl
theorem pc_set {μ ν : Mu} {d e : D} {c : Cell} : (pc μ d e ν).set μ.length c = μ ++ c :: ν := by
  unfold pc
  rw [List.set_append_right _ _ (Nat.le_refl _), Nat.sub_self]
  rfl
theorem pc_items {μ ν : Mu} {d e : D} : itemsD (.loc μ.length) (pc μ d e ν) = some [d, e] := by
  show (match (pc μ d e ν)[μ.length]? with
    | some (.lst ds) => some ds
    | _ => none) = _
  rw [pc_get]
theorem pc_st0 {μ ν : Mu} {d e x : D} {k : Mu → Prop} : stL (.loc μ.length) (.int 0) x (pc μ d e ν) k = k (pc μ x e ν) := by
  unfold stL
  simp only
  rw [pc_get]
  simp only
  rw [show ixN [d, e].length 0 = some 0 from rfl]
  simp only
  rw [pc_set]
  rfl
theorem pc_st1 {μ ν : Mu} {d e x : D} {k : Mu → Prop} : stL (.loc μ.length) (.int 1) x (pc μ d e ν) k = k (pc μ d x ν) := by
  unfold stL
  simp only
  rw [pc_get]
  simp only
  rw [show ixN [d, e].length 1 = some 1 from rfl]
  simp only
  rw [pc_set]
  rfl
theorem pc_app {μ ν xs : Mu} {d e : D} : pc μ d e ν ++ xs = pc μ d e (ν ++ xs) := by
  unfold pc
  rw [List.append_assoc, List.cons_append]
def pcn (μ ν : Mu) : Nat := μ.length + 1 + ν.length
theorem pc_len {μ ν : Mu} {d e : D} : (pc μ d e ν).length = pcn μ ν := by
  unfold pc pcn
  rw [List.length_append, List.length_cons]
  omega
theorem pcl_get {μ ν : Mu} {d e : D} {c : Cell} : (pc μ d e (ν ++ [c]))[pcn μ ν]? = some c := by
  rw [← pc_app, ← pc_len (d := d) (e := e)]
  exact List.getElem?_concat_length
theorem pcl_set {μ ν : Mu} {d e : D} {c c' : Cell} : (pc μ d e (ν ++ [c])).set (pcn μ ν) c' = pc μ d e (ν ++ [c']) := by
  rw [← pc_app, ← pc_app, ← pc_len (d := d) (e := e), List.set_append_right _ _ (Nat.le_refl _), Nat.sub_self]
  rfl
theorem pcl_items {μ ν : Mu} {d e : D} {ds : List D} : itemsD (.loc (pcn μ ν)) (pc μ d e (ν ++ [.lst ds])) = some ds := by
  show (match (pc μ d e (ν ++ [.lst ds]))[pcn μ ν]? with
    | some (.lst ds) => some ds
    | _ => none) = _
  rw [pcl_get]
theorem pcl_isC {μ ν : Mu} {d e : D} {ds : List D} {k : Prop} : isC (.loc (pcn μ ν)) (pc μ d e (ν ++ [.lst ds])) k = k := by
  unfold isC
  simp only
  rw [pcl_get]
theorem pcl_pop {μ ν : Mu} {d e x : D} {ds : List D} {j : Int} {Q : D → Mu → Prop} (h0 : 0 ≤ j) (h1 : j < 2 ^ 62) (hx : ds[j.toNat]? = some x) (h : Q x (pc μ d e (ν ++ [.lst (ds.eraseIdx j.toNat)]))) : popL (.loc (pcn μ ν)) (.int j) (pc μ d e (ν ++ [.lst ds])) Q := by
  unfold popL
  simp only
  rw [pcl_get]
  simp only
  refine ⟨h0, h1, ?_⟩
  rw [hx, pcl_set]
  exact h
theorem drawN_ev {ν : Mu} {p q many : Int} (ok : PoolOk p q) (h1 : 1 ≤ many) (h2 : Bd many) (h : ∀ r p' q', PoolOk p' q' → 0 ≤ r → r < many → Q (.int r) (pc μ (.int p') (.int q') ν)) : sp__law_draw [.loc μ.length, .int many] (pc μ (.int p) (.int q) ν) Q Xd := by
  obtain ⟨p0, q0, q1⟩ := ok
  unfold sp__law_draw w__law_draw
  walk_at "dl"
  simp only [pc_items]
  walk_at "dl"
  by_cases c : 0 < p
  · rw [decide_eq_true c]
    walk_at "dl"
    simp only [pc_items]
    walk_at "dl"
    simp only [pc_st0, pc_items]
    walk_at "dl"
    refine ⟨by omega, cd_bd (by omega) h2, ?_⟩
    simp only [pc_st0, pc_items]
    walk_at "dl"
    exact h _ _ _ ⟨Int.ediv_nonneg p0 (by omega), q0, q1⟩ (Int.emod_nonneg _ (by omega)) (Int.emod_lt_of_pos _ (by omega))
  · rw [decide_eq_false c]
    walk_at "dl"
    have m1 := Int.emod_nonneg (q * 48271 + 11) (show (2147483647 : Int) ≠ 0 by decide)
    have m2 := Int.emod_lt_of_pos (q * 48271 + 11) (show (0 : Int) < 2147483647 by decide)
    simp only [pc_items]
    walk_at "dl"
    refine ⟨cm_bd (by unfold Bd; omega) (by unfold Bd; omega), ?_⟩
    generalize (q * 48271 + 11) % 2147483647 = q' at m1 m2 ⊢
    simp only [pc_st1, pc_items]
    walk_at "dl"
    simp only [pc_items]
    walk_at "dl"
    try simp only [pc_items]
    walk_at "dl"
    exact ⟨cm_bd (by unfold Bd; omega) (by unfold Bd; omega), cd_bd (by omega) (by unfold Bd; omega), by omega, h _ _ _ ⟨p0, m1, m2⟩ (Int.emod_nonneg _ (by omega)) (Int.emod_lt_of_pos _ (by omega))⟩

theorem lpairN_ev {ν : Mu} {p q : Int} {n : Nat} (ok : PoolOk p q) (hn : n ≤ 1000) (h : ∀ x y p' q', PoolOk p' q' → -(n : Int) ≤ x → x ≤ n → -(n : Int) ≤ y → y ≤ n → Q (pr x y) (pc μ (.int p') (.int q') ν)) : sp__law_pair [.loc μ.length, .int n] (pc μ (.int p) (.int q) ν) Q Xd := by
  unfold sp__law_pair w__law_pair
  walk_at "dl"
  refine ⟨cm_bd (by unfold Bd; omega) (by unfold Bd; omega), drawN_ev ok (by omega) (by unfold Bd; omega) fun r p1 q1 ok1 r0 r1 => ?_⟩
  walk_at "dl"
  refine ⟨cm_bd (by unfold Bd; omega) (by unfold Bd; omega), drawN_ev ok1 (by omega) (by unfold Bd; omega) fun r2 p2 q2 ok2 r3 r4 => ?_⟩
  walk_at "dl"
  exact h _ _ _ _ ok2 (by omega) (by omega) (by omega) (by omega)
theorem lc_poolN {α : Type} {g : WG} {te : WE} {ρw : DS} {ν : Mu} {f : α → D} (P : Nat → α → Prop) {lo : Int} {n : Nat} (hn : n ≤ 1000000)
    (step : ∀ i, i < n → ∀ p q, PoolOk p q → ∀ K : D → Mu → Prop, (∀ a p' q', PoolOk p' q' → P i a → K (f a) (pc μ (.int p') (.int q') ν)) → g (.int (lo + (i : Nat))) ρw (pc μ (.int p) (.int q) ν) (KEl te K))
    (fin : ∀ l : List α, l.length = n → (∀ i a, l[i]? = some a → P i a) → ∀ p q, PoolOk p q → Q (.lst (l.map f)) (pc μ (.int p) (.int q) ν)) {p q : Int} (ok : PoolOk p q) : lcL g wYes te ρw (rangeD lo n) [] (pc μ (.int p) (.int q) ν) Q := by
  have all : ∀ k i, i + k = n → ∀ (l : List α), l.length = i → (∀ j a, l[j]? = some a → P j a) → ∀ p q, PoolOk p q → lcL g wYes te ρw ((List.range' i k).map fun j => D.int (lo + (j : Nat))) (l.map f) (pc μ (.int p) (.int q) ν) Q := by
    intro k
    induction k with
    | zero =>
      intro i hi l hl hP p q ok
      rw [List.range'_zero, List.map_nil, r_lcn]
      exact fin l (by omega) hP p q ok
    | succ k ih =>
      intro i hi l hl hP p q ok
      rw [List.range'_succ, List.map_cons, r_lcc]
      have e : KLc1 g wYes te ρw ((List.range' (i + 1) k).map fun j => D.int (lo + (j : Nat))) (l.map f) Q = KEl te (KLc3 g wYes te ρw ((List.range' (i + 1) k).map fun j => D.int (lo + (j : Nat))) (l.map f) Q) := by
        funext ρ2 μ2
        rw [r_lc1, r_yes, r_lc2t, t_el]
      rw [e]
      refine step i (by omega) p q ok _ fun a p' q' ok' ha => ?_
      rw [r_lc3]
      refine ⟨by rw [List.length_map]; omega, ?_⟩
      have e2 : l.map f ++ [f a] = (l ++ [a]).map f := by simp
      rw [e2]
      refine ih (i + 1) (by omega) (l ++ [a]) (by rw [List.length_append, List.length_singleton, hl]) (fun j b hb => ?_) p' q' ok'
      by_cases hj : j < l.length
      · rw [List.getElem?_append_left hj] at hb
        exact hP j b hb
      · rw [List.getElem?_append_right (by omega)] at hb
        have hj0 : j - l.length = 0 := by
          by_cases c : j - l.length = 0
          · exact c
          · rw [List.getElem?_eq_none (by rw [List.length_singleton]; omega)] at hb
            cases hb
        rw [hj0] at hb
        cases hb
        have : j = i := by omega
        subst this
        exact ha
  have e : rangeD lo n = (List.range' 0 n).map fun j => D.int (lo + (j : Nat)) := by
    unfold rangeD
    rw [List.range_eq_range']
  rw [e]
  exact all n 0 (by omega) [] rfl (fun j a h => by simp at h) p q ok

theorem btw_ev {i lo hi : Int} (h : Q (.bl (decide (lo ≤ i) && decide (i ≤ hi))) μ) : sp_is_between [.int i, .int lo, .int hi] μ Q Xd := by
  unfold sp_is_between w_is_between
  walk_at "go"
  refine ii_int ?_
  walk_at "go"
  by_cases c : lo ≤ i
  · rw [decide_eq_true c] at h ⊢
    walk_at "go"
    exact h
  · rw [decide_eq_false c] at h ⊢
    walk_at "go"
    exact h
abbrev T3i : Type := Nat × Nat × Nat
def triD (t : T3i) : D := .tup [.int (t.1 : Nat), .int (t.2.1 : Nat), .int (t.2.2 : Nat)]
def netD (ps : List SA.P) (tr : List T3i) : D := .obj "Net" ["pairs", "own_triples"] [.lst (ps.map pd), .lst (tr.map triD)]
def netC (ps : List SA.P) (tr : List T3i) : Cell := .ins "Net" ["pairs", "own_triples"] [.lst (ps.map pd), .lst (tr.map triD)]
theorem enumf_mem {α : Type} {f : α → D} {l : List α} {d : D} (h : d ∈ enumD (l.map f)) : ∃ (i : Nat) (a : α), a ∈ l ∧ d = .tup [.int i, f a] := by
  unfold enumD at h
  obtain ⟨i, hi⟩ := List.getElem?_of_mem h
  rw [List.getElem?_mapIdx, List.getElem?_map] at hi
  cases e : l[i]? with
  | none => rw [e] at hi; cases hi
  | some t =>
    rw [e] at hi
    cases hi
    exact ⟨i, t, List.mem_of_getElem? e, rfl⟩
theorem chkp_ev {f : SA.P → D} {ps : List SA.P} {d : D} (hd : IsL μ d (ps.map f)) (hf : ∀ p, IsP (f p) p.1 p.2) (hl : ps.length ≤ 100) (h : Q .non μ) : sp_check_points [d] μ Q Xd := by
  have hd' := hd
  unfold sp_check_points w_check_points
  rcases hd with rfl | ⟨n, rfl, en⟩
  all_goals
    walk_at "gn"
    try simp only [en]
    walk_at "gn"
    try simp only [isL_items hd']
    walk_at "gn"
    rw [List.length_map, decide_eq_false (show ¬ ((100 : Int) < (ps.length : Nat)) by omega)]
    walk_at "gn"
    refine KWic_go hd' fun C hC => ?_
    show forLC _ _ _ C _ _ _
  · refine forLC_inv (fun ρ μ' => μ' = μ ∧ ∃ s1 s2, ρ = [.v (.lst (ps.map f)), s1, s2]) (fun ρ μ' hI => hI.1 ▸ hC) (fun ρ μ' hI => ?_) (fun d hd ρ μ' K hI hK => ?_) ⟨rfl, _, _, rfl⟩
    · obtain ⟨rfl, s1, s2, rfl⟩ := hI
      walk_at "gn"
      exact h
    · obtain ⟨rfl, s1, s2, rfl⟩ := hI
      obtain ⟨i, t, _, rfl⟩ := enumf_mem hd
      walk_at "gn"
      refine nums (hf t) ?_
      walk_at "gn"
      exact hK _ _ ⟨rfl, _, _, rfl⟩
  · refine forLC_inv (fun ρ μ' => μ' = μ ∧ ∃ s1 s2, ρ = [.v (.loc n), s1, s2]) (fun ρ μ' hI => hI.1 ▸ hC) (fun ρ μ' hI => ?_) (fun d hd ρ μ' K hI hK => ?_) ⟨rfl, _, _, rfl⟩
    · obtain ⟨rfl, s1, s2, rfl⟩ := hI
      walk_at "gn"
      exact h
    · obtain ⟨rfl, s1, s2, rfl⟩ := hI
      obtain ⟨i, t, _, rfl⟩ := enumf_mem hd
      walk_at "gn"
      refine nums (hf t) ?_
      walk_at "gn"
      exact hK _ _ ⟨rfl, _, _, rfl⟩
def TrOk3 (n : Nat) (t : T3i) : Prop := (t.1 < n ∧ t.2.1 < n ∧ t.2.2 < n) ∧ t.1 ≠ t.2.1 ∧ t.2.1 ≠ t.2.2 ∧ t.2.2 ≠ t.1
theorem istr_ev {t : T3i} {n : Nat} (ok : TrOk3 n t) (h : Q (.bl true) μ) : sp_is_triple [triD t, .int (n : Nat)] μ Q Xd := by
  obtain ⟨a, b, c⟩ := t
  obtain ⟨⟨h1, h2, h3⟩, n1, n2, n3⟩ := ok
  simp only at h1 h2 h3 n1 n2 n3
  unfold sp_is_triple w_is_triple triD
  walk_at "gn"
  refine btw_ev ?_
  rw [decide_eq_true (by omega), decide_eq_true (by omega)]
  walk_at "gn"
  refine btw_ev ?_
  rw [decide_eq_true (by omega), decide_eq_true (by omega)]
  walk_at "gn"
  refine btw_ev ?_
  rw [decide_eq_true (by omega), decide_eq_true (by omega)]
  walk_at "gn"
  refine ⟨[true, true, true], rfl, ?_⟩
  walk_at "gn"
  rw [show (!(id true && (id true && id true))) = false from rfl]
  walk_at "gn"
  rw [decide_eq_false (show ¬ (((a : Nat) : Int) = (b : Nat)) by omega)]
  walk_at "gn"
  rw [decide_eq_false (show ¬ (((b : Nat) : Int) = (c : Nat)) by omega)]
  walk_at "gn"
  rw [decide_eq_false (show ¬ (((c : Nat) : Int) = (a : Nat)) by omega)]
  walk_at "gn"
  exact h
theorem chkt_ev {tr : List T3i} {n : Nat} {d : D} (hd : IsL μ d (tr.map triD)) (ok : ∀ t ∈ tr, TrOk3 n t) (hl : tr.length ≤ 100) (h : Q .non μ) : sp_check_triples [d, .int (n : Nat)] μ Q Xd := by
  have hd' := hd
  unfold sp_check_triples w_check_triples
  rcases hd with rfl | ⟨m, rfl, en⟩
  all_goals
    walk_at "gn"
    try simp only [en]
    walk_at "gn"
    try simp only [isL_items hd']
    walk_at "gn"
    rw [List.length_map, decide_eq_false (show ¬ ((100 : Int) < (tr.length : Nat)) by omega)]
    walk_at "gn"
    refine KWic_go hd' fun C hC => ?_
    show forLC _ _ _ C _ _ _
  · refine forLC_inv (fun ρ μ' => μ' = μ ∧ ∃ s1 s2, ρ = [.v (.lst (tr.map triD)), .v (.int (n : Nat)), s1, s2]) (fun ρ μ' hI => hI.1 ▸ hC) (fun ρ μ' hI => ?_) (fun d hd ρ μ' K hI hK => ?_) ⟨rfl, _, _, rfl⟩
    · obtain ⟨rfl, s1, s2, rfl⟩ := hI
      walk_at "gn"
      exact h
    · obtain ⟨rfl, s1, s2, rfl⟩ := hI
      obtain ⟨i, t, ht, rfl⟩ := enumf_mem hd
      walk_at "gn"
      refine istr_ev (ok t ht) ?_
      walk_at "gn"
      exact hK _ _ ⟨rfl, _, _, rfl⟩
  · refine forLC_inv (fun ρ μ' => μ' = μ ∧ ∃ s1 s2, ρ = [.v (.loc m), .v (.int (n : Nat)), s1, s2]) (fun ρ μ' hI => hI.1 ▸ hC) (fun ρ μ' hI => ?_) (fun d hd ρ μ' K hI hK => ?_) ⟨rfl, _, _, rfl⟩
    · obtain ⟨rfl, s1, s2, rfl⟩ := hI
      walk_at "gn"
      exact h
    · obtain ⟨rfl, s1, s2, rfl⟩ := hI
      obtain ⟨i, t, ht, rfl⟩ := enumf_mem hd
      walk_at "gn"
      refine istr_ev (ok t ht) ?_
      walk_at "gn"
      exact hK _ _ ⟨rfl, _, _, rfl⟩
theorem net_init {Q : List Str → List D → Mu → Prop} {f : SA.P → D} {ps : List SA.P} {tr : List T3i} {d e : D} (hd : IsL μ d (ps.map f)) (he : IsL μ e (tr.map triD)) (hf : ∀ p, IsP (f p) p.1 p.2) (hl : ps.length ≤ 100) (ht : tr.length ≤ 100) (ok : ∀ t ∈ tr, TrOk3 ps.length t) (h : Q ["pairs", "own_triples"] [.lst (ps.map pd), .lst (tr.map triD)] μ) : sp_Net_init [d, e] μ Q Xd := by
  have ed := isL_items hd
  have ee := isL_items he
  unfold sp_Net_init w_Net_init
  refine ⟨rfl, fun x => ?_⟩
  walk_at "gn"
  refine chkp_ev hd hf hl ?_
  walk_at "gn"
  rw [ed]
  walk_at "gn"
  rw [List.length_map]
  refine chkt_ev he ok ht ?_
  walk_at "gn"
  refine KWic_go hd fun C hC => ?_
  walk_at "gn"
  refine lcLC_mp (α := SA.P) (f := f) (l := ps) pd hC (fun p hp K hK => ?_) (by omega) ?_
  · walk_at "gn"
    refine nums (hf p) ?_
    walk_at "gn"
    exact hK
  walk_at "gn"
  rw [ee]
  walk_at "gn"
  exact h
def atP (ps : List SA.P) (i : Nat) : SA.P := (ps[i]?).getD (0, 0)
def NetOk (ps : List SA.P) (tr : List T3i) : Prop := ps.length ≤ 100 ∧ tr.length ≤ 100 ∧ (∀ p ∈ ps, BP p) ∧ ∀ t ∈ tr, t.1 < ps.length ∧ t.2.1 < ps.length ∧ t.2.2 < ps.length
theorem atP_at {ps : List SA.P} {i : Nat} (h : i < ps.length) : atI (ps.map pd) ((i : Nat) : Int) = some (pd (atP ps i)) := by
  rw [DL.atI_nat, List.getElem?_map, List.getElem?_eq_getElem h]
  unfold atP
  rw [List.getElem?_eq_getElem h]
  rfl
theorem atP_bp {ps : List SA.P} (hb : ∀ p ∈ ps, BP p) {i : Nat} (h : i < ps.length) : BP (atP ps i) := by
  unfold atP
  rw [List.getElem?_eq_getElem h]
  exact hb _ (List.getElem_mem h)
def IsN (μ : Mu) (d : D) (ps : List SA.P) (tr : List T3i) : Prop := d = netD ps tr ∨ ∃ n, d = .loc n ∧ μ[n]? = some (netC ps tr)
theorem isN_o {μ : Mu} {ps : List SA.P} {tr : List T3i} : IsN μ (netD ps tr) ps tr := .inl rfl
theorem isP_pd (p : SA.P) : IsP (pd p) p.1 p.2 := .inl rfl
theorem corn_ev {d : D} {ps : List SA.P} {tr : List T3i} {t : T3i} (hd : IsN μ d ps tr) (h1 : t.1 < ps.length) (h2 : t.2.1 < ps.length) (h3 : t.2.2 < ps.length) (h : Q (.lst [pd (atP ps t.1), pd (atP ps t.2.1), pd (atP ps t.2.2)]) μ) : sp_Net_corners_of [d, triD t] μ Q Xd := by
  unfold sp_Net_corners_of w_Net_corners_of triD
  rcases hd with rfl | ⟨n, rfl, en⟩
  · unfold netD
    walk_at "gn"
    rw [atP_at h1]
    walk_at "gn"
    rw [atP_at h2]
    walk_at "gn"
    rw [atP_at h3]
    walk_at "gn"
    exact h
  · unfold netC at en
    walk_at "gn"
    simp only [en]
    walk_at "gn"
    rw [atP_at h1]
    walk_at "gn"
    simp only [en]
    walk_at "gn"
    rw [atP_at h2]
    walk_at "gn"
    simp only [en]
    walk_at "gn"
    rw [atP_at h3]
    walk_at "gn"
    exact h
def aheads (w : SA.P) (ah : Bool) (ps : List SA.P) (tr : List T3i) (p : SA.P) : Nat := tr.countP fun t => SA.ahead w ah (atP ps t.1) (atP ps t.2.1) (atP ps t.2.2) p
def backs (w : SA.P) (ah : Bool) (ps : List SA.P) (tr : List T3i) (p : SA.P) : Nat := tr.countP fun t => SA.back w ah (atP ps t.1) (atP ps t.2.1) (atP ps t.2.2) p
theorem oc_ev {w p : SA.P} {ah : Bool} {ps : List SA.P} {tr : List T3i} {nd : D} (hn : IsN μ nd ps tr) (hw : w ≠ SA.O ∧ BP w) (bp : BP p) (ok : NetOk ps tr) (h : Q (.tup [.int (aheads w ah ps tr p : Nat), .int (backs w ah ps tr p : Nat)]) μ) : sp_owner_counts [rlD (.half w ah), nd, pd p] μ Q Xd := by
  obtain ⟨hl, ht, hb, hi⟩ := ok
  have ce := fun (Q : D → Mu → Prop) (Xd : XD) (t : T3i) h1 h2 h3 h => corn_ev (ps := ps) (tr := tr) (t := t) (μ := μ) (Q := Q) (Xd := Xd) hn h1 h2 h3 h
  have oe := fun (μ : Mu) (Q : D → Mu → Prop) (Xd : XD) (t : SA.T3) g bt h => isow_ev (r := .half w ah) (t := t) (p := p) (μ := μ) (Q := Q) (Xd := Xd) hw g bt bp h
  unfold sp_owner_counts w_owner_counts
  unfold rlD at oe ⊢
  rcases hn with rfl | ⟨n, rfl, en⟩
  · unfold netD at ce ⊢
    walk_at "gn"
    refine forL_pre (α := T3i) (f := triD) (l := tr) (fun pre ρ μ' => μ' = μ ∧ ∃ s5 s6 s7 s8 s9 : Sl, ρ = [.v (.obj "Half" ["own_way", "own_ahead"] [pd w, .bl ah]), .v (.obj "Net" ["pairs", "own_triples"] [.lst (ps.map pd), .lst (tr.map triD)]), .v (pd p), .v (.int (aheads w ah ps pre p : Nat)), .v (.int (backs w ah ps pre p : Nat)), s5, s6, s7, s8, s9])
      (fun pre t post e ρ μ' K hI hK => ?_) (fun ρ μ' hI => ?_) ⟨rfl, _, _, _, _, _, rfl⟩
    · obtain ⟨rfl, s5, s6, s7, s8, s9, rfl⟩ := hI
      have htm : t ∈ tr := by rw [e]; simp
      obtain ⟨i1, i2, i3⟩ := hi t htm
      have ba := atP_bp hb i1
      have bb := atP_bp hb i2
      have bc := atP_bp hb i3
      have cA : aheads w ah ps (pre ++ [t]) p = aheads w ah ps pre p + (if SA.ahead w ah (atP ps t.1) (atP ps t.2.1) (atP ps t.2.2) p then 1 else 0) := by
        unfold aheads
        rw [List.countP_append, List.countP_cons, List.countP_nil]
        simp
      have cB : backs w ah ps (pre ++ [t]) p = backs w ah ps pre p + (if SA.back w ah (atP ps t.1) (atP ps t.2.1) (atP ps t.2.2) p then 1 else 0) := by
        unfold backs
        rw [List.countP_append, List.countP_cons, List.countP_nil]
        simp
      rw [cA, cB] at hK
      generalize aheads w ah ps pre p = A at *
      generalize backs w ah ps pre p = B at *
      walk_at "gn"
      refine ce _ _ t i1 i2 i3 ?_
      generalize atP ps t.1 = a at *
      generalize atP ps t.2.1 = b at *
      generalize atP ps t.2.2 = c at *
      walk_at "gn"
      refine sdp_ev ba bb bc ?_
      walk_at "gn"
      unfold SA.ahead SA.back at hK
      have go : ∀ (x y : Int) (s5 s6 s7 s8 s9 : Sl), x = ((A + (if (decide (0 < SA.sd a b c) && SA.own (SA.hf w ah) ⟨a, b, c⟩ p) = true then 1 else 0) : Nat) : Int) → y = ((B + (if (decide (SA.sd a b c < 0) && SA.own (SA.hf w ah) ⟨a, c, b⟩ p) = true then 1 else 0) : Nat) : Int) → K [.v (.obj "Half" ["own_way", "own_ahead"] [pd w, .bl ah]), .v (.obj "Net" ["pairs", "own_triples"] [.lst (ps.map pd), .lst (tr.map triD)]), .v (pd p), .v (.int x), .v (.int y), s5, s6, s7, s8, s9] μ' := fun x y s5 s6 s7 s8 s9 ex ey => by
        rw [ex, ey]
        exact hK _ _ ⟨rfl, _, _, _, _, _, rfl⟩
      by_cases c1 : 0 < SA.sd a b c
      · have c2 : ¬ SA.sd a b c < 0 := by omega
        rw [decide_eq_true c1] at *
        walk_at "gn"
        refine oe _ _ _ ⟨a, b, c⟩ c1 ⟨ba, bb, bc⟩ ?_
        cases o : SA.own (rlR (.half w ah)) ⟨a, b, c⟩ p
        · have o' : SA.own (SA.hf w ah) ⟨a, b, c⟩ p = false := o
          walk_at "gn"
          rw [decide_eq_false c2]
          walk_at "gn"
          exact go _ _ _ _ _ _ _ (by rw [o']; simp) (by simp [c2])
        · have o' : SA.own (SA.hf w ah) ⟨a, b, c⟩ p = true := o
          walk_at "gn"
          rw [decide_eq_false c2]
          walk_at "gn"
          exact go _ _ _ _ _ _ _ (by rw [o']; simp) (by simp [c2])
      · rw [decide_eq_false c1] at *
        walk_at "gn"
        by_cases c2 : SA.sd a b c < 0
        · have g : SA.Good ⟨a, c, b⟩ := by
            unfold SA.Good
            simp only
            have : SA.sd a c b = - SA.sd a b c := by unfold SA.sd; grind
            omega
          rw [decide_eq_true c2] at *
          walk_at "gn"
          refine oe _ _ _ ⟨a, c, b⟩ g ⟨ba, bc, bb⟩ ?_
          cases o : SA.own (rlR (.half w ah)) ⟨a, c, b⟩ p
          · have o' : SA.own (SA.hf w ah) ⟨a, c, b⟩ p = false := o
            walk_at "gn"
            exact go _ _ _ _ _ _ _ (by simp) (by rw [o']; simp)
          · have o' : SA.own (SA.hf w ah) ⟨a, c, b⟩ p = true := o
            walk_at "gn"
            exact go _ _ _ _ _ _ _ (by simp) (by rw [o']; simp)
        · rw [decide_eq_false c2] at *
          walk_at "gn"
          exact go _ _ _ _ _ _ _ (by simp) (by simp)
    · obtain ⟨rfl, s5, s6, s7, s8, s9, rfl⟩ := hI
      walk_at "gn"
      exact h
  · unfold netC at en
    walk_at "gn"
    simp only [en]
    walk_at "gn"
    refine forL_pre (α := T3i) (f := triD) (l := tr) (fun pre ρ μ' => μ' = μ ∧ ∃ s5 s6 s7 s8 s9 : Sl, ρ = [.v (.obj "Half" ["own_way", "own_ahead"] [pd w, .bl ah]), .v (.loc n), .v (pd p), .v (.int (aheads w ah ps pre p : Nat)), .v (.int (backs w ah ps pre p : Nat)), s5, s6, s7, s8, s9])
      (fun pre t post e ρ μ' K hI hK => ?_) (fun ρ μ' hI => ?_) ⟨rfl, _, _, _, _, _, rfl⟩
    · obtain ⟨rfl, s5, s6, s7, s8, s9, rfl⟩ := hI
      have htm : t ∈ tr := by rw [e]; simp
      obtain ⟨i1, i2, i3⟩ := hi t htm
      have ba := atP_bp hb i1
      have bb := atP_bp hb i2
      have bc := atP_bp hb i3
      have cA : aheads w ah ps (pre ++ [t]) p = aheads w ah ps pre p + (if SA.ahead w ah (atP ps t.1) (atP ps t.2.1) (atP ps t.2.2) p then 1 else 0) := by
        unfold aheads
        rw [List.countP_append, List.countP_cons, List.countP_nil]
        simp
      have cB : backs w ah ps (pre ++ [t]) p = backs w ah ps pre p + (if SA.back w ah (atP ps t.1) (atP ps t.2.1) (atP ps t.2.2) p then 1 else 0) := by
        unfold backs
        rw [List.countP_append, List.countP_cons, List.countP_nil]
        simp
      rw [cA, cB] at hK
      generalize aheads w ah ps pre p = A at *
      generalize backs w ah ps pre p = B at *
      walk_at "gn"
      simp only [en]
      walk_at "gn"
      refine ce _ _ t i1 i2 i3 ?_
      generalize atP ps t.1 = a at *
      generalize atP ps t.2.1 = b at *
      generalize atP ps t.2.2 = c at *
      walk_at "gn"
      refine sdp_ev ba bb bc ?_
      walk_at "gn"
      unfold SA.ahead SA.back at hK
      have go : ∀ (x y : Int) (s5 s6 s7 s8 s9 : Sl), x = ((A + (if (decide (0 < SA.sd a b c) && SA.own (SA.hf w ah) ⟨a, b, c⟩ p) = true then 1 else 0) : Nat) : Int) → y = ((B + (if (decide (SA.sd a b c < 0) && SA.own (SA.hf w ah) ⟨a, c, b⟩ p) = true then 1 else 0) : Nat) : Int) → K [.v (.obj "Half" ["own_way", "own_ahead"] [pd w, .bl ah]), .v (.loc n), .v (pd p), .v (.int x), .v (.int y), s5, s6, s7, s8, s9] μ' := fun x y s5 s6 s7 s8 s9 ex ey => by
        rw [ex, ey]
        exact hK _ _ ⟨rfl, _, _, _, _, _, rfl⟩
      by_cases c1 : 0 < SA.sd a b c
      · have c2 : ¬ SA.sd a b c < 0 := by omega
        rw [decide_eq_true c1] at *
        walk_at "gn"
        refine oe _ _ _ ⟨a, b, c⟩ c1 ⟨ba, bb, bc⟩ ?_
        cases o : SA.own (rlR (.half w ah)) ⟨a, b, c⟩ p
        · have o' : SA.own (SA.hf w ah) ⟨a, b, c⟩ p = false := o
          walk_at "gn"
          rw [decide_eq_false c2]
          walk_at "gn"
          exact go _ _ _ _ _ _ _ (by rw [o']; simp) (by simp [c2])
        · have o' : SA.own (SA.hf w ah) ⟨a, b, c⟩ p = true := o
          walk_at "gn"
          rw [decide_eq_false c2]
          walk_at "gn"
          exact go _ _ _ _ _ _ _ (by rw [o']; simp) (by simp [c2])
      · rw [decide_eq_false c1] at *
        walk_at "gn"
        by_cases c2 : SA.sd a b c < 0
        · have g : SA.Good ⟨a, c, b⟩ := by
            unfold SA.Good
            simp only
            have : SA.sd a c b = - SA.sd a b c := by unfold SA.sd; grind
            omega
          rw [decide_eq_true c2] at *
          walk_at "gn"
          refine oe _ _ _ ⟨a, c, b⟩ g ⟨ba, bc, bb⟩ ?_
          cases o : SA.own (rlR (.half w ah)) ⟨a, c, b⟩ p
          · have o' : SA.own (SA.hf w ah) ⟨a, c, b⟩ p = false := o
            walk_at "gn"
            exact go _ _ _ _ _ _ _ (by simp) (by rw [o']; simp)
          · have o' : SA.own (SA.hf w ah) ⟨a, c, b⟩ p = true := o
            walk_at "gn"
            exact go _ _ _ _ _ _ _ (by simp) (by rw [o']; simp)
        · rw [decide_eq_false c2] at *
          walk_at "gn"
          exact go _ _ _ _ _ _ _ (by simp) (by simp)
    · obtain ⟨rfl, s5, s6, s7, s8, s9, rfl⟩ := hI
      walk_at "gn"
      exact h
def slv : Sl → Bool
  | .no => true
  | .v _ => true
  | _ => false

theorem andv_go {wb : WE} {ρ : DS} {b c : Bool} (h1 : ∀ K : D → Mu → Prop, K (.bl c) μ → wb ρ μ K Xd) (h : Q (.bl (b && c)) μ) : KAndV wb ρ Q Xd (.bl b) μ := by
  cases b
  · exact h
  · exact h1 _ h
theorem orv_go {wb : WE} {ρ : DS} {b c : Bool} (h1 : ∀ K : D → Mu → Prop, K (.bl c) μ → wb ρ μ K Xd) (h : Q (.bl (b || c)) μ) : KOrV wb ρ Q Xd (.bl b) μ := by
  cases b
  · exact h1 _ h
  · exact h

def s4 (w : SA.P) : Prop := -4 ≤ w.1 ∧ w.1 ≤ 4 ∧ -4 ≤ w.2 ∧ w.2 ≤ 4
theorem lw_s {w : SA.P} (h : -4 ≤ w.1 ∧ w.1 ≤ 4 ∧ -4 ≤ w.2 ∧ w.2 ≤ 4) : -4 ≤ (SA.lw w).1 ∧ (SA.lw w).1 ≤ 4 ∧ -4 ≤ (SA.lw w).2 ∧ (SA.lw w).2 ≤ 4 := by
  have h1 := Int.natAbs_ediv_le_natAbs w.1 (Int.gcd w.1 w.2 : Int)
  have h2 := Int.natAbs_ediv_le_natAbs w.2 (Int.gcd w.1 w.2 : Int)
  unfold SA.lw
  simp only
  omega
theorem told_ev {ν : Mu} {p q : Int} (ok : PoolOk p q) (h : ∀ (w : SA.P) (ah : Bool) p' q', PoolOk p' q' → w ≠ SA.O → s4 w → Q (.tup [.str "half", pd w, .bl ah]) (pc μ (.int p') (.int q') ν)) : sp__law_told_half [.loc μ.length] (pc μ (.int p) (.int q) ν) Q Xd := by
  unfold sp__law_told_half w__law_told_half
  walk_at "gn"
  refine lpairN_ev (n := 4) ok (by decide) fun x y p1 q1 ok1 x0 x1 y0 y1 => ?_
  walk_at "gn"
  by_cases c : x = 0 ∧ y = 0
  · rw [show (decide (x = 0) && decide (y = 0)) = true from by simp [c.1, c.2]]
    walk_at "gn"
    refine drawN_ev ok1 (by decide) (by unfold Bd; omega) fun r p2 q2 ok2 r0 r1 => ?_
    walk_at "gn"
    exact h (3, -1) _ _ _ ok2 (by decide) (by unfold s4; decide)
  · rw [show (decide (x = 0) && decide (y = 0)) = false from by rw [Bool.and_eq_false_iff, decide_eq_false_iff_not, decide_eq_false_iff_not]; omega]
    walk_at "gn"
    refine drawN_ev ok1 (by decide) (by unfold Bd; omega) fun r p2 q2 ok2 r0 r1 => ?_
    walk_at "gn"
    exact h (x, y) _ _ _ ok2 (fun z => c ⟨congrArg Prod.fst z, congrArg Prod.snd z⟩) (by unfold s4; simp only; omega)
theorem nd_pop : ∀ {l : List Nat} {i x : Nat}, l.Nodup → l[i]? = some x → x ∉ l.eraseIdx i ∧ (l.eraseIdx i).Nodup ∧ (∀ y ∈ l.eraseIdx i, y ∈ l) ∧ (l.eraseIdx i).length + 1 = l.length
  | [], i, x, _, h => by simp at h
  | a :: l, 0, x, nd, h => by
    cases h
    rw [List.nodup_cons] at nd
    exact ⟨nd.1, nd.2, fun y hy => List.mem_cons_of_mem _ hy, rfl⟩
  | a :: l, i + 1, x, nd, h => by
    rw [List.nodup_cons] at nd
    rw [List.getElem?_cons_succ] at h
    obtain ⟨h1, h2, h3, h4⟩ := nd_pop nd.2 h
    rw [List.eraseIdx_cons_succ]
    refine ⟨fun hx => ?_, List.nodup_cons.mpr ⟨fun ha => nd.1 (h3 a ha), h2⟩, fun y hy => ?_, by rw [List.length_cons, List.length_cons, h4]⟩
    · rcases List.mem_cons.mp hx with e | e
      · exact nd.1 (e ▸ List.mem_of_getElem? h)
      · exact h1 e
    · rcases List.mem_cons.mp hy with e | e
      · exact e ▸ List.mem_cons_self
      · exact List.mem_cons_of_mem _ (h3 y e)
theorem er_map {α β : Type} (f : α → β) : ∀ (l : List α) (i : Nat), (l.map f).eraseIdx i = (l.eraseIdx i).map f
  | [], _ => rfl
  | _ :: _, 0 => rfl
  | a :: l, i + 1 => by
    rw [List.map_cons, List.eraseIdx_cons_succ, er_map f l i]
    rfl
def natD (n : Nat) : D := .int (n : Nat)
theorem pop3 {l : List Nat} {r : Int} (r0 : 0 ≤ r) (r1 : r < (l.length : Nat)) : ∃ x, l[r.toNat]? = some x ∧ (l.map natD)[r.toNat]? = some (natD x) ∧ (l.map natD).eraseIdx r.toNat = (l.eraseIdx r.toNat).map natD := by
  have hr : r.toNat < l.length := by omega
  refine ⟨l[r.toNat], List.getElem?_eq_getElem hr, by rw [List.getElem?_map, List.getElem?_eq_getElem hr]; rfl, ?_⟩
  exact er_map natD l _
theorem lnetN_ev {ν0 : Mu} {p q : Int} (ok : PoolOk p q) (h : ∀ (ps : List SA.P) (tr : List T3i) p' q' ν, PoolOk p' q' → 3 ≤ ps.length → ps.length ≤ 7 → (∀ z ∈ ps, -5 ≤ z.1 ∧ z.1 ≤ 5 ∧ -5 ≤ z.2 ∧ z.2 ≤ 5) → tr.length ≤ 7 → (∀ t ∈ tr, TrOk3 ps.length t) → Q (.tup [.lst (ps.map pd), .lst (tr.map triD)]) (pc μ (.int p') (.int q') ν)) : sp__law_net [.loc μ.length] (pc μ (.int p) (.int q) ν0) Q Xd := by
  unfold sp__law_net w__law_net
  walk_at "gn"
  refine drawN_ev ok (by decide) (by unfold Bd; omega) fun x p1 q1 ok1 x0 x1 => ?_
  walk_at "gn"
  refine lc_poolN (α := SA.P) (f := pd) (fun k z => -5 ≤ z.1 ∧ z.1 ≤ 5 ∧ -5 ≤ z.2 ∧ z.2 ≤ 5) (by omega) (fun k hk p1 q1 ok1 K2 hK2 => ?_) (fun ps hl1 hl2 p2 q2 ok2 => ?_) ok1
  · walk_at "gn"
    refine lpairN_ev (n := 5) ok1 (by decide) fun u v p3 q3 ok3 u0 u1 v0 v1 => ?_
    exact hK2 (u, v) _ _ ok3 ⟨u0, u1, v0, v1⟩
  walk_at "gn"
  intro a2
  walk_at "gn"
  have hb : ∀ z ∈ ps, -5 ≤ z.1 ∧ z.1 ≤ 5 ∧ -5 ≤ z.2 ∧ z.2 ≤ 5 := fun z hz => by
    obtain ⟨i, hi⟩ := List.getElem?_of_mem hz
    exact hl2 i z hi
  have hn3 : 3 ≤ ps.length := by omega
  have hn7 : ps.length ≤ 7 := by omega
  refine drawN_ev ok2 (by decide) (by unfold Bd; omega) fun y p3 q3 ok3 y0 y1 => ?_
  walk_at "gn"
  refine forL_rng (fun i ρ μ' => ∃ (tr : List T3i) (p' q' : Int) (ν : Mu) (s3 s4 : Sl), (∀ a c, s4 ≠ Sl.own a c) ∧ PoolOk p' q' ∧ tr.length = i ∧ (∀ t ∈ tr, TrOk3 ps.length t) ∧ μ' = pc μ (.int p') (.int q') ν ∧ ρ = [.v (.loc μ.length), .v (.lst (ps.map pd)), .own a2 (.lst (tr.map triD)), s3, s4, .no, .no])
    (fun i hi ρ μ' K hI hK => ?_) (fun ρ μ' hI => ?_) ⟨[], _, _, ν0, _, _, (fun _ _ e => by cases e), ok3, rfl, (fun _ h => by cases h), rfl, rfl⟩
  · obtain ⟨tr, p4, q4, ν, s3, s4, no4, ok4, hlen, hall, rfl, rfl⟩ := hI
    walk_at "gn"
    rw [List.length_map, Int.toNat_natCast]
    refine ⟨by omega, ?_⟩
    unfold rangeD
    refine lc_mp (α := Nat) (f := fun k : Nat => D.int (0 + (k : Nat))) (l := List.range ps.length) natD (fun k hk ds acc hacc hK2 => ?_) (by rw [List.length_range]; omega) ?_
    · walk_at "gn"
      rw [show D.int (0 + (k : Nat)) = natD k from by unfold natD; rw [Int.zero_add]]
      exact hK2
    rw [y_cell, pc_len, pc_app]
    have nd0 : (List.range ps.length).Nodup := List.nodup_range
    have len0 : (List.range ps.length).length = ps.length := List.length_range
    have mem0 : ∀ x ∈ List.range ps.length, x < ps.length := fun x hx => List.mem_range.mp hx
    generalize List.range ps.length = l0 at *
    walk_at "go"
    simp only [pcl_isC, pcl_items]
    walk_at "go"
    rw [List.length_map]
    refine drawN_ev ok4 (by omega) (by unfold Bd; omega) fun r1 p5 q5 ok5 r10 r11 => ?_
    obtain ⟨x1, hx1, hm1, he1⟩ := pop3 r10 r11
    obtain ⟨no1, nd1, sub1, ln1⟩ := nd_pop nd0 hx1
    have lx1 := List.mem_of_getElem? hx1
    walk_at "go"
    refine pcl_pop r10 (by omega) hm1 ?_
    rw [he1]
    generalize l0.eraseIdx r1.toNat = l1 at *
    walk_at "go"
    simp only [pcl_isC, pcl_items]
    walk_at "go"
    rw [List.length_map]
    refine drawN_ev ok5 (by omega) (by unfold Bd; omega) fun r2 p6 q6 ok6 r20 r21 => ?_
    obtain ⟨x2, hx2, hm2, he2⟩ := pop3 r20 r21
    obtain ⟨no2, nd2, sub2, ln2⟩ := nd_pop nd1 hx2
    have lx2 := List.mem_of_getElem? hx2
    walk_at "go"
    refine pcl_pop r20 (by omega) hm2 ?_
    rw [he2]
    generalize l1.eraseIdx r2.toNat = l2 at *
    walk_at "go"
    simp only [pcl_isC, pcl_items]
    walk_at "go"
    rw [List.length_map]
    refine drawN_ev ok6 (by omega) (by unfold Bd; omega) fun r3 p7 q7 ok7 r30 r31 => ?_
    obtain ⟨x3, hx3, hm3, he3⟩ := pop3 r30 r31
    obtain ⟨no3, nd3, sub3, ln3⟩ := nd_pop nd2 hx3
    have lx3 := List.mem_of_getElem? hx3
    walk_at "go"
    refine pcl_pop r30 (by omega) hm3 ?_
    rw [he3]
    generalize l2.eraseIdx r3.toNat = l3 at *
    walk_at "go"
    refine ⟨by rw [List.length_map]; omega, ?_⟩
    refine hK _ _ ⟨tr ++ [(x1, x2, x3)], _, _, _, _, .v (.loc (pcn μ ν)), (fun _ _ e => by cases e), ok7, by rw [List.length_append, List.length_singleton, hlen], fun t ht => ?_, rfl, by rw [List.map_append]; rfl⟩
    rcases List.mem_append.mp ht with q | q
    · exact hall t q
    · rw [List.mem_singleton] at q
      subst q
      refine ⟨⟨mem0 _ lx1, mem0 _ (sub1 _ lx2), mem0 _ (sub1 _ (sub2 _ lx3))⟩, fun e => no1 (by have e : x1 = x2 := e; rw [e]; exact lx2), fun e => no2 (by have e : x2 = x3 := e; rw [e]; exact lx3), fun e => no1 (by have e : x3 = x1 := e; rw [← e]; exact sub2 _ lx3)⟩
  · obtain ⟨tr, p4, q4, ν, s3, s4, no4, ok4, hlen, hall, rfl, rfl⟩ := hI
    walk_at "gn"
    exact h ps tr _ _ ν ok4 hn3 hn7 hb (by omega) hall
theorem lnet_ev {p q : Int} (ok : PoolOk p q) (h : ∀ (ps : List SA.P) (tr : List T3i) p' q' ν, PoolOk p' q' → 3 ≤ ps.length → ps.length ≤ 7 → (∀ z ∈ ps, -5 ≤ z.1 ∧ z.1 ≤ 5 ∧ -5 ≤ z.2 ∧ z.2 ≤ 5) → tr.length ≤ 7 → (∀ t ∈ tr, TrOk3 ps.length t) → Q (.tup [.lst (ps.map pd), .lst (tr.map triD)]) (pc μ (.int p') (.int q') ν)) : sp__law_net [.loc μ.length] (pl μ p q) Q Xd := lnetN_ev (ν0 := []) ok h
theorem shp_ev {w : SA.P} {ah : Bool} (h : Q (.tup [pd (SA.up1 w), pd (SA.up2 w ah)]) μ) : sp_shift_pairs [rlD (.half w ah)] μ Q Xd := by
  unfold sp_shift_pairs w_shift_pairs rlD
  unfold SA.up1 SA.up2 at h
  walk_at "gn"
  cases ah
  · walk_at "gn"
    exact h
  · walk_at "gn"
    exact h
def upB (w : SA.P) (ah : Bool) : Bool := decide (0 < (SA.up1 w).2) || (decide ((SA.up1 w).2 = 0) && decide (0 < (SA.up2 w ah).2))
theorem upw_ev {w : SA.P} {ah : Bool} (h : Q (.bl (upB w ah)) μ) : sp_is_upward [rlD (.half w ah)] μ Q Xd := by
  have se := fun (μ : Mu) (Q : D → Mu → Prop) (Xd : XD) h => shp_ev (w := w) (ah := ah) (μ := μ) (Q := Q) (Xd := Xd) h
  unfold sp_is_upward w_is_upward
  unfold rlD at se ⊢
  walk_at "gn"
  refine se _ _ _ ?_
  walk_at "gn"
  refine orv_go (c := decide ((SA.up1 w).2 = 0) && decide (0 < (SA.up2 w ah).2)) (fun K hK => ?_) ?_
  · walk_at "gn"
    refine andv_go (c := decide (0 < (SA.up2 w ah).2)) (fun K2 hK2 => ?_) ?_
    · walk_at "gn"
      exact hK2
    · walk_at "gn"
      exact hK
  · walk_at "gn"
    exact h
theorem turns_ev {w p : SA.P} {ah : Bool} {ws : List (SA.P × SA.P)} (hw : w ≠ SA.O) (bw : BP w) (bp : BP p) (hl : ws.length ≤ 1000) (hb : ∀ x ∈ ws, BP x.1 ∧ BP x.2) (h : Q (.int (SA.sumW (SA.way w ah p) ws)) μ) : sp_turns_of [rlD (.half w ah), .lst (ws.map wyD), pd p] μ Q Xd := by
  have ue := fun (μ : Mu) (Q : D → Mu → Prop) (Xd : XD) h => upw_ev (w := w) (ah := ah) (μ := μ) (Q := Q) (Xd := Xd) h
  have hh := fun (μ : Mu) (Q : D → Mu → Prop) (Xd : XD) (d : SA.P) b3 b4 h => half_has (w := w) (ah := ah) (d := d) (μ := μ) (Q := Q) (Xd := Xd) (b6bd bw.1) (b6bd bw.2) b3 b4 h
  unfold sp_turns_of w_turns_of
  unfold rlD at ue hh ⊢
  walk_at "gn"
  refine ue _ _ _ ?_
  walk_at "gn"
  refine forL_pre (α := SA.P × SA.P) (f := wyD) (l := ws) (fun pre ρ μ' => μ' = μ ∧ ∃ s5 s6 s7 s8 s9 s10 : Sl, ρ = [.v (.obj "Half" ["own_way", "own_ahead"] [pd w, .bl ah]), .v (.lst (ws.map wyD)), .v (pd p), .v (.int (SA.sumW (SA.way w ah p) pre)), .v (.bl (upB w ah)), s5, s6, s7, s8, s9, s10])
    (fun pre x post e ρ μ' K hI hK => ?_) (fun ρ μ' hI => ?_) ⟨rfl, _, _, _, _, _, _, rfl⟩
  · obtain ⟨rfl, s5, s6, s7, s8, s9, s10, rfl⟩ := hI
    have hx : x ∈ ws := by rw [e]; simp
    obtain ⟨a, b⟩ := x
    obtain ⟨ba, bb⟩ := hb _ hx
    simp only at ba bb
    have cat : SA.sumW (SA.way w ah p) (pre ++ [(a, b)]) = SA.sumW (SA.way w ah p) pre + SA.way w ah p a b := by
      rw [SA.sumW_app, SA.sumW_cons]
      show _ + (SA.way w ah p a b + 0) = _
      omega
    rw [cat] at hK
    generalize SA.sumW (SA.way w ah p) pre = T at *
    have go : ∀ (v : Int) (s5 s6 s7 s8 s9 s10 : Sl), v = T + SA.way w ah p a b → K [.v (.obj "Half" ["own_way", "own_ahead"] [pd w, .bl ah]), .v (.lst (ws.map wyD)), .v (pd p), .v (.int v), .v (.bl (upB w ah)), s5, s6, s7, s8, s9, s10] μ' := fun v s5 s6 s7 s8 s9 s10 ev => by
      rw [ev]
      exact hK _ _ ⟨rfl, _, _, _, _, _, _, rfl⟩
    have belA : (decide (a.2 < p.2) || (decide (a.2 = p.2) && upB w ah)) = SA.below w ah a p := rfl
    have belB : (decide (b.2 < p.2) || (decide (b.2 = p.2) && upB w ah)) = SA.below w ah b p := rfl
    unfold wyD
    walk_at "gn"
    refine orv_go (c := decide (a.2 = p.2) && upB w ah) (fun K2 hK2 => ?_) ?_
    · walk_at "gn"
      refine andv_go (c := upB w ah) (fun K3 hK3 => ?_) ?_
      · walk_at "gn"
        exact hK3
      · walk_at "gn"
        exact hK2
    rw [belA]
    walk_at "gn"
    refine orv_go (c := decide (b.2 = p.2) && upB w ah) (fun K2 hK2 => ?_) ?_
    · walk_at "gn"
      refine andv_go (c := upB w ah) (fun K3 hK3 => ?_) ?_
      · walk_at "gn"
        exact hK3
      · walk_at "gn"
        exact hK2
    rw [belB]
    walk_at "gn"
    rw [SA.way_eq] at go
    generalize SA.below w ah a p = ua at *
    generalize SA.below w ah b p = ub at *
    cases c : (ua == ub)
    · walk_at "gn"
      refine sdp_ev ba bb bp ?_
      walk_at "gn"
      refine orv_go (c := decide (SA.sd a b p = 0) && SA.hf w ah (SA.sb b a)) (fun K2 hK2 => ?_) ?_
      · walk_at "gn"
        refine andv_go (c := SA.hf w ah (SA.sb b a)) (fun K3 hK3 => ?_) ?_
        · walk_at "gn"
          refine lessp_ev ?_
          walk_at "gn"
          refine hh _ _ _ (SA.sb b a) (bd6 bb.1 ba.1) (bd6 bb.2 ba.2) ?_
          walk_at "gn"
          exact hK3
        · walk_at "gn"
          exact hK2
      rw [show (decide (0 < SA.sd a b p) || (decide (SA.sd a b p = 0) && SA.hf w ah (SA.sb b a))) = SA.left w ah a b p from rfl]
      walk_at "gn"
      generalize SA.left w ah a b p = l at *
      cases ua <;> cases ub <;> cases l <;> first
        | (exfalso; revert c; decide)
        | (walk_at "gn"; exact go _ _ _ _ _ _ _ (by unfold SA.wayB; simp <;> omega))
    · walk_at "gn"
      refine go _ _ _ _ _ _ _ ?_
      unfold SA.wayB
      rw [c, if_pos rfl]
      omega
  · obtain ⟨rfl, s5, s6, s7, s8, s9, s10, rfl⟩ := hI
    walk_at "gn"
    exact h

def wayI (x : Nat × Nat) : D := .tup [.int (x.1 : Nat), .int (x.2 : Nat)]
theorem deq_wayI (a b : Nat × Nat) : deq (wayI a) (wayI b) = decide (a = b) := by
  obtain ⟨a1, a2⟩ := a
  obtain ⟨b1, b2⟩ := b
  unfold wayI
  simp only [deq, deqs, Bool.and_true]
  rw [← Bool.decide_and]
  refine decide_eq_decide.mpr ⟨fun h => ?_, fun e => ?_⟩
  · exact Prod.ext (by simp only; omega) (by simp only; omega)
  · cases e
    exact ⟨rfl, rfl⟩
theorem P5_wayI (a : Nat × Nat) : P5 (wayI a) = true := rfl
theorem P5_ways (l : List (Nat × Nat)) : P5 (.lst (l.map wayI)) = true := all_map (p := Pn (Pn (Pn (Pn P0)))) fun p => rfl
theorem rem_map {α : Type} [DecidableEq α] [BEq α] [LawfulBEq α] {f : α → D} (hf : ∀ a b, deq (f a) (f b) = decide (a = b)) (hp : ∀ a, P5 (f a) = true) {l : List α} (hl : P5 (.lst (l.map f)) = true) {x : α} (hx : x ∈ l) {k : List D → Prop} (h : k ((l.erase x).map f)) : remD (l.map f) (f x) k := by
  obtain ⟨p, e1, s1⟩ := P5_shaped (hp x)
  obtain ⟨q, e2, s2⟩ := P5_shaped hl
  obtain ⟨qs, rfl, e3⟩ := lst_toP e2
  refine ⟨p, qs, e1, e3, s1, s2, ?_⟩
  clear e2 s2 hl
  have all : ∀ (l : List α) (qs : List PyData), x ∈ l → toPs (l.map f) = some qs → ∃ (j : Nat) (z : PyData), qs[j]? = some z ∧ PyData.eqv z p = true ∧ (∀ (m : Nat) (z' : PyData), m < j → qs[m]? = some z' → PyData.eqv z' p = false) ∧ (l.map f).eraseIdx j = (l.erase x).map f := by
    intro l
    induction l with
    | nil => intro qs hx _; cases hx
    | cons a l ih =>
      intro qs hx h3
      rw [List.map_cons, toPs] at h3
      cases ea : toP (f a) with
      | none => rw [ea] at h3; cases h3
      | some pa =>
        cases eb : toPs (l.map f) with
        | none => rw [ea, eb] at h3; cases h3
        | some r =>
          rw [ea, eb] at h3
          cases h3
          have eq : PyData.eqv pa p = decide (a = x) := by rw [deq_eqv (f a) (f x) pa p ea e1, hf]
          by_cases c : a = x
          · subst c
            refine ⟨0, pa, rfl, by rw [eq, decide_eq_true rfl], (fun m z' hm => absurd hm (by omega)), ?_⟩
            rw [List.erase_cons_head, List.map_cons]
            rfl
          · have hx' : x ∈ l := by
              rcases List.mem_cons.mp hx with h | h
              · exact absurd h.symm c
              · exact h
            obtain ⟨j, z, hj, hz, hno, he⟩ := ih r hx' eb
            refine ⟨j + 1, z, hj, hz, fun m z' hm hm2 => ?_, ?_⟩
            · cases m with
              | zero =>
                cases hm2
                rw [eq, decide_eq_false c]
              | succ m => exact hno m z' (by omega) hm2
            · rw [List.erase_cons_tail (by simpa using c), List.map_cons, List.map_cons, List.eraseIdx_cons_succ, he]
  obtain ⟨j, z, hj, hz, hno, he⟩ := all l qs hx e3
  exact ⟨j, z, hj, hz, hno, by rw [he]; exact h⟩
theorem any_wayI (l : List (Nat × Nat)) (x : Nat × Nat) : (l.map wayI).any (fun d => deq d (wayI x)) = decide (x ∈ l) := by
  rw [List.any_map, Bool.eq_iff_iff, List.any_eq_true, decide_eq_true_iff]
  constructor
  · rintro ⟨y, hy, e⟩
    have e : deq (wayI y) (wayI x) = true := e
    rw [deq_wayI, decide_eq_true_iff] at e
    exact e ▸ hy
  · intro h
    exact ⟨x, h, by show deq (wayI x) (wayI x) = true; rw [deq_wayI]; exact decide_eq_true rfl⟩
theorem asc2_ev {R : List (Nat × Nat)} (hl : R.length ≤ 60) (hb : ∀ y ∈ R, y.1 < 8 ∧ y.2 < 8) (h : Q (.lst ((SA.canon 8 8 fun i j => R.count (i, j)).map wayI)) μ) : sp_ascending [.lst (R.map wayI)] μ Q Xd := by
  have cl : ∀ i j, R.count (i, j) ≤ 60 := fun i j => Nat.le_trans List.count_le_length hl
  unfold sp_ascending w_ascending
  walk_at "gn"
  intro a1
  walk_at "gn"
  change forL _ _ _ (rangeD 0 100) _ _
  refine forL_rng (fun i ρ μ' => ∃ (s2 : Sl), μ' = μ ∧ (∀ a c, s2 ≠ Sl.own a c) ∧ ρ = [.v (.lst (R.map wayI)), .own a1 (.lst ((SA.canon i 8 fun i j => R.count (i, j)).map wayI)), s2, .no, .no, .no])
    (fun i hi ρ μ' K hI hK => ?_) (fun ρ μ' hI => ?_) ⟨_, rfl, (fun _ _ e => by cases e), rfl⟩
  · obtain ⟨s2, rfl, no2, rfl⟩ := hI
    have ei : (0 : Int) + (i : Nat) = (i : Nat) := by omega
    rw [ei]
    walk_at "gn"
    refine lc_filter (α := Nat × Nat) (f := wayI) (l := R) (fun y => decide (y.1 = i)) (fun y => D.int (y.2 : Nat)) (fun y hy ds acc hacc ht hf => ?_) (by omega) ?_
    · unfold wayI
      walk_at "gn"
      by_cases c : y.1 = i
      · rw [decide_eq_true (show ((y.1 : Nat) : Int) = (i : Nat) by omega)]
        walk_at "gn"
        exact ht (decide_eq_true c)
      · rw [decide_eq_false (show ¬ ((y.1 : Nat) : Int) = (i : Nat) by omega)]
        walk_at "gn"
        exact hf (decide_eq_false c)
    walk_at "gn"
    have cnt := fun j => SA.cnt_snd R i j
    obtain ⟨F, hF⟩ : ∃ F, F = R.filter fun y => decide (y.1 = i) := ⟨_, rfl⟩
    have hFm : ∀ y ∈ F, y ∈ R := fun y hy => by
      rw [hF] at hy
      exact (List.mem_filter.mp hy).1
    have hFl : F.length ≤ 60 := by
      have := List.length_filter_le (fun y : Nat × Nat => decide (y.1 = i)) R
      rw [hF]
      omega
    rw [← hF] at cnt ⊢
    have e0 : (F.map fun y => D.int (y.2 : Nat)) = (F.map fun y => ((y.2 : Nat) : Int)).map D.int := by
      rw [List.map_map]
      rfl
    rw [e0]
    refine ⟨_, intsD_map _, by rw [List.length_map]; omega, fun ns' hperm hsort => ?_⟩
    obtain ⟨S, hS⟩ : ∃ S : List Nat, S = ns'.map Int.toNat := ⟨_, rfl⟩
    have eS : ns'.map D.int = S.map fun j => D.int (j : Nat) := by
      rw [hS, List.map_map]
      refine List.map_congr_left fun x hx => ?_
      obtain ⟨y, _, rfl⟩ := List.mem_map.mp (hperm.mem_iff.mp hx)
      rfl
    have pS : S.Perm (F.map Prod.snd) := by
      have h1 := hperm.map Int.toNat
      rw [← hS, List.map_map] at h1
      exact h1
    have sS : S.Pairwise (· ≤ ·) := by
      rw [hS, List.pairwise_map]
      exact hsort.imp fun h => by omega
    have bS : ∀ x ∈ S, x < 8 := fun x hx => by
      obtain ⟨y, hy, rfl⟩ := List.mem_map.mp (pS.mem_iff.mp hx)
      exact (hb y (hFm y hy)).2
    have fS : S = SA.repl 8 fun j => R.count (i, j) := by
      have h1 := SA.sorted_repl sS bS
      have h2 : (fun j => S.count j) = fun j => R.count (i, j) := funext fun j => by
        rw [pS.count_eq, cnt]
      rw [h2] at h1
      exact h1
    have lS : S.length ≤ 60 := by
      have := pS.length_eq
      rw [List.length_map] at this
      omega
    rw [eS]
    walk_at "gn"
    refine lc_mp (α := Nat) (f := fun j : Nat => D.int (j : Nat)) (l := S) (fun j => wayI (i, j)) (fun j hj ds acc hacc hK2 => ?_) (by omega) ?_
    · walk_at "gn"
      exact hK2
    walk_at "gn"
    have b1 := SA.canon_len (n := 8) cl i
    have b3 : i * (8 * 60) ≤ 100 * (8 * 60) := Nat.mul_le_mul (by omega) (Nat.le_refl _)
    refine ⟨by rw [List.length_map, List.length_map]; omega, ?_⟩
    have e1 : (SA.canon i 8 fun i j => R.count (i, j)).map wayI ++ S.map (fun j => wayI (i, j)) = (SA.canon (i + 1) 8 fun i j => R.count (i, j)).map wayI := by
      rw [SA.canon_succ, ← fS, List.map_append, List.map_map]
      rfl
    rw [e1]
    exact hK _ _ ⟨_, rfl, (fun _ _ e => by cases e), rfl⟩
  · obtain ⟨s2, rfl, no2, rfl⟩ := hI
    have e := SA.canon_more (m := 8) (n := 8) (c := fun i j => R.count (i, j)) (fun i j hi => List.count_eq_zero.mpr fun hm => by have := (hb _ hm).1; simp only at this; omega) 92
    rw [show (8 + 92 : Nat) = 100 from rfl] at e
    rw [e]
    walk_at "gn"
    exact h
theorem rim2_ev {d : D} {ps : List SA.P} {tr : List T3i} (hd : IsN μ d ps tr) (hl : tr.length ≤ 20) (hb : ∀ t ∈ tr, TrOk3 8 t) (h : Q (.lst ((SA.canon 8 8 (SA.cw (tr.flatMap SA.triW))).map wayI)) μ) : sp_Net_rim [d] μ Q Xd := by
  have bm : ∀ y ∈ SA.rimL tr, y.1 < 8 ∧ y.2 < 8 := SA.rimL_mem fun t ht => (hb t ht).1
  have ec : (SA.canon 8 8 fun i j => (SA.rimL tr).count (i, j)) = SA.canon 8 8 (SA.cw (tr.flatMap SA.triW)) := SA.canon_congr fun i j => SA.rimL_count (fun t ht => (hb t ht).2) i j
  rw [← ec] at h
  unfold sp_Net_rim w_Net_rim
  rcases hd with e0 | ⟨n, e0, en⟩
  · obtain ⟨nD, hnD⟩ : ∃ nD, nD = d := ⟨_, rfl⟩
    rw [← hnD]
    walk_at "gn"
    intro a1
    walk_at "gn"
    have hnD2 := hnD.trans e0
    unfold netD at hnD2
    rw [hnD2]
    walk_at "gn"
    rw [← hnD2]
    refine forL_pre (α := T3i) (f := triD) (l := tr) (fun pre ρ μ' => ∃ s2 s3 s4 s5 s6 : Sl, μ' = μ ∧ ρ = [.v nD, .own a1 (.lst ((SA.rimL pre).map wayI)), s2, s3, s4, s5, s6])
      (fun pre t post e ρ μ' K hI hK => ?_) (fun ρ μ' hI => ?_) ⟨_, _, _, _, _, rfl, rfl⟩
    · obtain ⟨s2, s3, s4, s5, s6, rfl, rfl⟩ := hI
      obtain ⟨i, j, k⟩ := t
      have hpre : pre.length ≤ 20 := by
        have := congrArg List.length e
        simp at this
        omega
      have cat : SA.rimL (pre ++ [(i, j, k)]) = [(i, j), (j, k), (k, i)].foldl SA.rimStep (SA.rimL pre) := by
        unfold SA.rimL
        rw [List.flatMap_append, List.foldl_append]
        rfl
      have len0 := SA.rimL_len pre
      rw [cat] at hK
      generalize SA.rimL pre = R0 at *
      unfold triD
      walk_at "gn"
      refine forL_pre (α := Nat × Nat) (f := wayI) (l := [(i, j), (j, k), (k, i)]) (fun pre2 ρ μ2 => ∃ s5 s6 : Sl, μ2 = μ' ∧ ρ = [.v nD, .own a1 (.lst ((pre2.foldl SA.rimStep R0).map wayI)), .v (.int (i : Nat)), .v (.int (j : Nat)), .v (.int (k : Nat)), s5, s6])
        (fun pre2 x post2 e2 ρ μ2 K2 hI hK2 => ?_) (fun ρ μ2 hI => ?_) ⟨_, _, rfl, rfl⟩
      · obtain ⟨s5, s6, rfl, rfl⟩ := hI
        have hpre2 : pre2.length ≤ 3 := by
          have := congrArg List.length e2
          simp at this
          omega
        have len1 := SA.rim_len pre2 R0
        have cat2 : (pre2 ++ [x]).foldl SA.rimStep R0 = SA.rimStep (pre2.foldl SA.rimStep R0) x := by rw [List.foldl_append]; rfl
        rw [cat2] at hK2
        generalize pre2.foldl SA.rimStep R0 = R1 at *
        obtain ⟨x1, x2⟩ := x
        unfold SA.rimStep at hK2
        simp only at hK2
        show kName 5 _ _ _ _
        rw [show wayI (x1, x2) = .tup [.int (x1 : Nat), .int (x2 : Nat)] from rfl]
        walk_at "gn"
        refine oin_pl (P5_wayI (x2, x1)) (P5_ways R1) ?_
        rw [show (.tup [.int (x2 : Nat), .int (x1 : Nat)] : D) = wayI (x2, x1) from rfl, any_wayI]
        walk_at "gn"
        by_cases c : (x2, x1) ∈ R1
        · rw [if_pos c] at hK2
          rw [decide_eq_true c]
          walk_at "gn"
          refine rem_map deq_wayI P5_wayI (P5_ways R1) c ?_
          walk_at "gn"
          exact hK2 _ _ ⟨_, _, rfl, rfl⟩
        · rw [if_neg c, List.map_append] at hK2
          rw [decide_eq_false c]
          walk_at "gn"
          refine ⟨by rw [List.length_map]; omega, ?_⟩
          exact hK2 _ _ ⟨_, _, rfl, rfl⟩
      · obtain ⟨s5, s6, rfl, rfl⟩ := hI
        exact hK _ _ ⟨_, _, _, _, _, rfl, rfl⟩
    · obtain ⟨s2, s3, s4, s5, s6, rfl, rfl⟩ := hI
      have len0 := SA.rimL_len tr
      walk_at "gn"
      refine asc2_ev (by omega) bm ?_
      exact h

  · unfold netC at en
    subst e0
    walk_at "gn"
    intro a1
    walk_at "gn"
    simp only [en]
    walk_at "gn"
    obtain ⟨nD, hnD⟩ : ∃ nD, nD = D.loc n := ⟨_, rfl⟩
    rw [← hnD]
    refine forL_pre (α := T3i) (f := triD) (l := tr) (fun pre ρ μ' => ∃ s2 s3 s4 s5 s6 : Sl, μ' = μ ∧ ρ = [.v nD, .own a1 (.lst ((SA.rimL pre).map wayI)), s2, s3, s4, s5, s6])
      (fun pre t post e ρ μ' K hI hK => ?_) (fun ρ μ' hI => ?_) ⟨_, _, _, _, _, rfl, rfl⟩
    · obtain ⟨s2, s3, s4, s5, s6, rfl, rfl⟩ := hI
      obtain ⟨i, j, k⟩ := t
      have hpre : pre.length ≤ 20 := by
        have := congrArg List.length e
        simp at this
        omega
      have cat : SA.rimL (pre ++ [(i, j, k)]) = [(i, j), (j, k), (k, i)].foldl SA.rimStep (SA.rimL pre) := by
        unfold SA.rimL
        rw [List.flatMap_append, List.foldl_append]
        rfl
      have len0 := SA.rimL_len pre
      rw [cat] at hK
      generalize SA.rimL pre = R0 at *
      unfold triD
      walk_at "gn"
      refine forL_pre (α := Nat × Nat) (f := wayI) (l := [(i, j), (j, k), (k, i)]) (fun pre2 ρ μ2 => ∃ s5 s6 : Sl, μ2 = μ' ∧ ρ = [.v nD, .own a1 (.lst ((pre2.foldl SA.rimStep R0).map wayI)), .v (.int (i : Nat)), .v (.int (j : Nat)), .v (.int (k : Nat)), s5, s6])
        (fun pre2 x post2 e2 ρ μ2 K2 hI hK2 => ?_) (fun ρ μ2 hI => ?_) ⟨_, _, rfl, rfl⟩
      · obtain ⟨s5, s6, rfl, rfl⟩ := hI
        have hpre2 : pre2.length ≤ 3 := by
          have := congrArg List.length e2
          simp at this
          omega
        have len1 := SA.rim_len pre2 R0
        have cat2 : (pre2 ++ [x]).foldl SA.rimStep R0 = SA.rimStep (pre2.foldl SA.rimStep R0) x := by rw [List.foldl_append]; rfl
        rw [cat2] at hK2
        generalize pre2.foldl SA.rimStep R0 = R1 at *
        obtain ⟨x1, x2⟩ := x
        unfold SA.rimStep at hK2
        simp only at hK2
        show kName 5 _ _ _ _
        rw [show wayI (x1, x2) = .tup [.int (x1 : Nat), .int (x2 : Nat)] from rfl]
        walk_at "gn"
        refine oin_pl (P5_wayI (x2, x1)) (P5_ways R1) ?_
        rw [show (.tup [.int (x2 : Nat), .int (x1 : Nat)] : D) = wayI (x2, x1) from rfl, any_wayI]
        walk_at "gn"
        by_cases c : (x2, x1) ∈ R1
        · rw [if_pos c] at hK2
          rw [decide_eq_true c]
          walk_at "gn"
          refine rem_map deq_wayI P5_wayI (P5_ways R1) c ?_
          walk_at "gn"
          exact hK2 _ _ ⟨_, _, rfl, rfl⟩
        · rw [if_neg c, List.map_append] at hK2
          rw [decide_eq_false c]
          walk_at "gn"
          refine ⟨by rw [List.length_map]; omega, ?_⟩
          exact hK2 _ _ ⟨_, _, rfl, rfl⟩
      · obtain ⟨s5, s6, rfl, rfl⟩ := hI
        exact hK _ _ ⟨_, _, _, _, _, rfl, rfl⟩
    · obtain ⟨s2, s3, s4, s5, s6, rfl, rfl⟩ := hI
      have len0 := SA.rimL_len tr
      walk_at "gn"
      refine asc2_ev (by omega) bm ?_
      exact h


theorem insD_net {d : D} {ps : List SA.P} {tr : List T3i} (hd : IsN μ d ps tr) : insD d μ = some (("Net" : Str), (["pairs", "own_triples"] : List Str), [.lst (ps.map pd), .lst (tr.map triD)]) := by
  rcases hd with rfl | ⟨n, rfl, e⟩
  · rfl
  · unfold netC at e
    unfold insD
    simp only [e]
theorem hasN_go {m : Str} {d : D} {ps : List SA.P} {tr : List T3i} {K : Prop} (hd : IsN μ d ps tr) (hm : (["pairs", "own_triples"] : List Str).contains m = false) (h : K) : hasCls "Net" m d μ K := by
  unfold hasCls
  rw [insD_net hd]
  exact ⟨rfl, hm, h⟩
theorem cnt_pair (m : Nat) (l : List Nat) (i j : Nat) : (l.map fun j => (m, j)).count (i, j) = if i = m then l.count j else 0 := by
  induction l with
  | nil => simp
  | cons a l ih =>
    rw [List.map_cons, List.count_cons, List.count_cons, ih]
    by_cases c : i = m
    · subst c
      by_cases c2 : a = j
      · subst c2; simp
      · simp [c2]
    · simp [c, Ne.symm c]
theorem canon_count {n : Nat} {c : Nat → Nat → Nat} {i j : Nat} : ∀ m, (SA.canon m n c).count (i, j) = if i < m ∧ j < n then c i j else 0
  | 0 => by simp [SA.canon]
  | m + 1 => by
    rw [SA.canon_succ, List.count_append, canon_count m, cnt_pair, SA.repl_count]
    by_cases c1 : i = m
    · subst c1
      by_cases c2 : j < n <;> simp [c2]
    · by_cases c2 : i < m
      · have : i < m + 1 := by omega
        simp [c1, c2, this]
      · have : ¬ i < m + 1 := by omega
        simp [c1, c2, this]
def RL (tr : List T3i) : List (Nat × Nat) := SA.canon 8 8 (SA.cw (tr.flatMap SA.triW))
theorem RL_perm {tr : List T3i} (h8 : ∀ t ∈ tr, TrOk3 8 t) : (RL tr).Perm (SA.rimL tr) := by
  refine List.perm_iff_count.mpr fun ⟨i, j⟩ => ?_
  unfold RL
  rw [canon_count, ← SA.rimL_count (fun t ht => (h8 t ht).2) i j]
  split
  · rfl
  · rename_i c
    exact (List.count_eq_zero.mpr fun hm => c (SA.rimL_mem (fun t ht => (h8 t ht).1) _ hm)).symm
theorem rways_ev {d : D} {ps : List SA.P} {tr : List T3i} (hd : IsN μ d ps tr) (hp : ps.length ≤ 8) (hl : tr.length ≤ 20) (hb : ∀ t ∈ tr, TrOk3 ps.length t) (h : Q (.lst (((RL tr).map fun x => (atP ps x.1, atP ps x.2)).map wyD)) μ) : sp_Net_rim_ways [d] μ Q Xd := by
  have h8 : ∀ t ∈ tr, TrOk3 8 t := fun t ht => ⟨⟨by have := (hb t ht).1; omega, by have := (hb t ht).1; omega, by have := (hb t ht).1; omega⟩, (hb t ht).2⟩
  have len0 := SA.rimL_len tr
  have lenL := (RL_perm h8).length_eq
  have mem : ∀ x ∈ RL tr, x.1 < ps.length ∧ x.2 < ps.length := fun x hx => SA.rimL_mem (fun t ht => (hb t ht).1) x ((RL_perm h8).mem_iff.mp hx)
  have re := fun (Q : D → Mu → Prop) (Xd : XD) h => rim2_ev (μ := μ) (Q := Q) (Xd := Xd) hd hl h8 h
  rw [show SA.canon 8 8 (SA.cw (tr.flatMap SA.triW)) = RL tr from rfl] at re
  generalize RL tr = L at *
  unfold sp_Net_rim_ways w_Net_rim_ways
  rcases hd with rfl | ⟨n, rfl, en⟩
  · unfold netD at *
    walk_at "gn"
    refine re _ _ ?_
    walk_at "gn"
    refine lc_mp (α := Nat × Nat) (f := wayI) (l := L) (fun x => wyD (atP ps x.1, atP ps x.2)) (fun x hx ds acc hacc hK => ?_) (by omega) ?_
    · have bx := mem x hx
      unfold wayI
      walk_at "gn"
      rw [atP_at bx.1]
      walk_at "gn"
      rw [atP_at bx.2]
      walk_at "gn"
      exact hK
    walk_at "gn"
    rw [List.map_map] at h
    exact h
  · unfold netC at en
    walk_at "gn"
    simp only [en]
    walk_at "gn"
    refine re _ _ ?_
    walk_at "gn"
    refine lc_mp (α := Nat × Nat) (f := wayI) (l := L) (fun x => wyD (atP ps x.1, atP ps x.2)) (fun x hx ds acc hacc hK => ?_) (by omega) ?_
    · have bx := mem x hx
      unfold wayI
      walk_at "gn"
      simp only [en]
      walk_at "gn"
      rw [atP_at bx.1]
      walk_at "gn"
      simp only [en]
      walk_at "gn"
      rw [atP_at bx.2]
      walk_at "gn"
      exact hK
    walk_at "gn"
    rw [List.map_map] at h
    exact h
/-- how often the rim goes round, by its ways -/
def RT (w : SA.P) (ah : Bool) (ps : List SA.P) (tr : List T3i) (p : SA.P) : Int := SA.sumI (fun i j => SA.way w ah p (atP ps i) (atP ps j)) (SA.rimL tr)
theorem rt_eq {w : SA.P} {ah : Bool} {ps : List SA.P} {tr : List T3i} {p : SA.P} (hw : w ≠ SA.O) : RT w ah ps tr p = (aheads w ah ps tr p : Int) - (backs w ah ps tr p : Int) := SA.rim_sum hw (atP ps) tr
theorem rl_sum {w : SA.P} {ah : Bool} {ps : List SA.P} {tr : List T3i} {p : SA.P} (h8 : ∀ t ∈ tr, TrOk3 8 t) : SA.sumW (SA.way w ah p) ((RL tr).map fun x => (atP ps x.1, atP ps x.2)) = RT w ah ps tr p := by
  unfold RT
  rw [← SA.sumI_perm (RL_perm h8)]
  unfold SA.sumW SA.sumI
  rw [List.map_map]
  rfl
theorem rturns_ev {w p : SA.P} {ah : Bool} {ps : List SA.P} {tr : List T3i} {nd d : D} (hn : IsN μ nd ps tr) (hd : IsP d p.1 p.2) (hw : w ≠ SA.O ∧ BP w) (bp : BP p) (hp : ps.length ≤ 8) (hl : tr.length ≤ 20) (hbp : ∀ p ∈ ps, BP p) (hb : ∀ t ∈ tr, TrOk3 ps.length t)
    (h : Q (.int (RT w ah ps tr p)) μ) : sp_rim_turns [rlD (.half w ah), nd, d] μ Q Xd := by
  have h8 : ∀ t ∈ tr, TrOk3 8 t := fun t ht => ⟨⟨by have := (hb t ht).1; omega, by have := (hb t ht).1; omega, by have := (hb t ht).1; omega⟩, (hb t ht).2⟩
  have len0 := SA.rimL_len tr
  have lenL := (RL_perm h8).length_eq
  have mem : ∀ x ∈ RL tr, x.1 < ps.length ∧ x.2 < ps.length := fun x hx => SA.rimL_mem (fun t ht => (hb t ht).1) x ((RL_perm h8).mem_iff.mp hx)
  have te := fun ws (Q : D → Mu → Prop) (Xd : XD) a b h => turns_ev (w := w) (p := p) (ah := ah) (ws := ws) (μ := μ) (Q := Q) (Xd := Xd) hw.1 hw.2 bp a b h
  unfold sp_rim_turns w_rim_turns
  unfold rlD at te ⊢
  walk_at "gn"
  refine hasN_go hn rfl ?_
  refine rways_ev hn hp hl hb ?_
  walk_at "gn"
  refine pair_ev hd ?_
  walk_at "gn"
  refine te _ _ _ (by rw [List.length_map]; omega) (fun x hx => ?_) ?_
  · obtain ⟨y, hy, rfl⟩ := List.mem_map.mp hx
    have by_ := mem y hy
    exact ⟨atP_bp hbp by_.1, atP_bp hbp by_.2⟩
  rw [rl_sum h8]
  exact h
theorem cntd_ev {w p : SA.P} {ah : Bool} {ps : List SA.P} {tr : List T3i} {nd d : D} (hd : IsP d p.1 p.2) (hn : IsN μ nd ps tr) (hw : w ≠ SA.O ∧ BP w) (bp : BP p) (ok : NetOk ps tr) (h : Q (.tup [.int (aheads w ah ps tr p : Nat), .int (backs w ah ps tr p : Nat)]) μ) : sp_counted_owners [rlD (.half w ah), nd, d] μ Q Xd := by
  unfold sp_counted_owners w_counted_owners
  walk_at "gn"
  refine pair_ev hd ?_
  walk_at "gn"
  exact oc_ev hn hw bp ok h
theorem signed_ev {w p : SA.P} {ah : Bool} {ps : List SA.P} {tr : List T3i} {nd d : D} (hd : IsP d p.1 p.2) (hn : IsN μ nd ps tr) (hw : w ≠ SA.O ∧ BP w) (bp : BP p) (ok : NetOk ps tr) (h : Q (.int ((aheads w ah ps tr p : Int) - (backs w ah ps tr p : Int))) μ) : sp_signed [rlD (.half w ah), nd, d] μ Q Xd := by
  unfold sp_signed w_signed
  walk_at "gn"
  refine pair_ev hd ?_
  walk_at "gn"
  refine oc_ev hn hw bp ok ?_
  walk_at "gn"
  exact h
end
end K47

set_option Elab.async false
set_option linter.all false
set_option maxRecDepth 100000
set_option maxHeartbeats 4000000
set_option autoImplicit false
set_option exponentiation.threshold 3000
namespace K47
open PySem PySem.Spec PyProof.Rows L2 DL
local macro_rules
  | `(tactic| walk_at "dk") => `(tactic| try simp only [z_slt, z_slt1, z_slt2, z_slt3, g_gen, g_genm, g_genm1, g_log, g_logC, r_newD, r_put0, r_kw, r_kw1, r_kw2, r_kw0, r_kw00, c_wi, c_en, c_en1, c_for, c_for1, c_lc, c_lc1, c_lof, c_lof1, c_ap, c_ap1, c_ap2, y_p2, y_p21, y_oo, y_fo, y_foq, y_of, y_of2, c_si, c_si1, c_si2, c_si3, c_lu1, c_lu2, c_lu3, z_fl, z_fl1, z_fl2, z_ps, z_ps1, z_ps2, z_ps3, z_eqT, z_cat, z_cat1, z_cat2, y_pop, y_pop1, y_pop2, y_lcC, y_lcR, y_callR, t_wis, t_wisa, t_dicL, t_kpt, t_kpt1, t_kpt2, t_slst, t_m1s, t_m1s1, t_m1s2, t_catS, t_sls, t_sls1, t_sls2, t_sls3, t_fs, t_js0, t_js1, t_js2, t_js3, t_fmtI, t_fmtS, t_strI, t_insl, t_insl1, t_insl2, t_insl3, t_ors, t_dic, t_put, t_put1, t_put2, t_put3, t_base, y_cell, y_rem, y_rem1, y_rem2, x_subO, x_subO1, x_subO2, v_slo, v_slo1, w_ff, w_ft, w_tf, w_tt, false_and, and_false, v_ix, v_ix1, v_ix2, v_inv, v_inv1, v_co, v_co1, v_co2, v_len, v_len1, isiD, tyD, clD, r_insobj, fldOf, DL.isNon, items_tup, items_lst, items_frl, hasCls, othTy, insD, DL.putK, DL.putD, initEnd, startI, startD, DL.wipeD, List.map_cons, List.map_nil, List.length_cons, List.length_nil, List.getElem?_cons_zero, List.getElem?_cons_succ, List.getElem?_nil, List.set_cons_zero, List.set_cons_succ, List.cons_append, List.nil_append, List.append_nil, List.replicate, Nat.sub_self, Nat.reduceSub, Nat.reduceAdd, Nat.reduceLeDiff, Nat.reduceEqDiff, Nat.reduceLT, Int.reduceLT, Int.reduceLE, if_true, if_false, Bool.not_true, Bool.not_false, reduceIte, reduceCtorEq, true_and, and_true, Nat.zero_add, Bool.true_eq_false, Bool.false_eq_true, eqU_int, eqU_str, eqU_bl, str_eq, str_beq, String.reduceEq, decide_true, decide_false, decide_eq_true_eq, pl_items, pl_st0, pl_st1, pl_fold, notOwn, List.mem_singleton, List.mem_cons, List.not_mem_nil, or_false, false_or, or_true, true_or, forall_eq, forall_eq_or_imp, implies_true, Int.reduceToNat, Int.reduceEq, Int.reduceNe, Int.reduceAdd, Int.reduceSub, Int.reduceMul, Int.reducePow, Int.reduceMod, Int.reduceDiv, atI_0, atI_1, atI_2, atI_3, rg1, rg2, startI, r_var, r_var2, r_c, r_w2, r_w2a, r_w2b, r_w1, r_w1a, r_wB, r_wBa, r_ch, r_ch1, r_ch2, r_ch3t, r_ch3f, r_and, r_andt, r_andf, r_or, r_ort, r_orf, r_not, r_nota, r_ife, r_ifet, r_ifef, r_andv, r_andvt, r_andvf, r_orv, r_orvt, r_orvf, r_notv, r_notva, r_nil, r_cons, r_cons1, r_cons2, r_tup, r_tupa, r_lst, r_lsta, r_lstc, r_lstca, r_wn, r_wna, r_call, r_calla, r_mk, r_mk1, r_mk2, r_mkc, r_mkc1, r_mkc2, r_me, r_me1, r_me2, r_bo, r_bo1, r_bo2, r_onone, r_osome, r_osomea, r_sl, r_sl1, r_sl2, r_sl3, r_sl3f, r_ii, r_ii0, r_ib, r_i1, r_plus, r_plusl, r_times, r_timesl, r_isn, r_notn, r_isb, r_notb, r_pm, r_pm1, DL.perm, z_neT, z_catT, r_eqd, r_ned, r_int1, r_int1b, r_max2, r_min2, r_abs, r_ix, r_ix2, r_ix3, r_len, r_len2, r_isi, r_isi2, r_fld, r_fld2, r_fld3, r_insobj, r_kx, r_next, r_never, r_seq, r_seqa, r_if, r_ift, r_iff, r_ret, r_retn, r_brk, r_cnt, r_drop, r_dropa, r_set, r_seta, r_asg, r_asga, r_name, r_namec, r_ktup, r_kunl, r_kcons, r_kcs, r_knil, r_par2, r_par2a, r_par3, r_par3a, r_aug, r_auga, r_augb, r_augc, r_for, r_fora, r_knx, r_fldo, r_fldoa, r_put, r_frz, r_frz2, r_frz3, r_frz4, r_cl, r_seto, r_setoa, r_wil, r_wila, r_wilf, r_wit, r_wita, r_wi1, r_wi1a, r_wi2, r_wi2a, r_wie, r_wiea, r_wiz, r_wiza, r_wizt, r_lc, r_lc0, r_lcn, r_lcc, r_lc1, r_lc2t, r_lc2f, r_lc3, r_yes, r_sub, r_sub1, r_sub2, r_sub3, r_dnx, r_drt, r_dxc, r_inx, r_init, r_ixc, t_raise, t_raise2, t_try, t_cat, t_catt, t_catf, t_sunx, t_surt, t_nx0, t_nx1, t_nx2, t_nx3, t_prop, t_prop2, t_xf, t_xf2, t_isx, t_isx2, t_wht, t_whf, t_equ, t_neu, t_el, List.reverse_cons, List.reverse_nil, isiDT, anyT, List.all_cons, List.all_nil, Option.isSome_some, Bool.and_true, Bool.true_and, u_lof, u_lof2, u_tof, u_tof2, u_isiT, u_dict, u_bl, u_ownN, u_has, u_hasN, u_bk, u_bk1, u_bk2, u_stat, u_ap, u_ap1, u_ap2, u_ex, u_ex1, u_ex2, u_ownL, u_olen, u_oix, u_oix1, u_oin, u_sumT, u_sumL, u_mu, u_mu1, u_hot, u_hot1, startX, u_mb, u_mb1, u_mb1f, u_mb2, u_rev, u_revf, u_wio, u_wex, u_wel, u_wef, u_wet, u_en, u_en0, u_enc, u_enn, Int.cast_ofNat_Int, u_wzx, u_wzl, u_wzt, u_wzm, u_zd, u_zd0, intsD, DL.intD, u_kd, isTy, Bool.true_xor, Bool.false_xor, eqU_pl, p_int, p_bl, p_non, p_tup, p_lst, p_frl, p0_int, p0_bl, p0_non, deq, deqs, Bool.and_true, Bool.and_false, Bool.false_and, List.contains_cons, List.contains_nil, Bool.or_false, Bool.false_or, Bool.or_self, eq_self, beq_self_eq_true, Bool.not_true, Bool.not_false, List.flatten_cons, List.flatten_nil, isi_0, isi_1, isi_2, isi_3, isi_4, isi_5, isi_6, isi_7, isi_8, isi_9, isi_10, isi_11, isi_12, isi_13, isi_14, isi_15, isi_16, isi_17, isi_18, isi_19, isi_20, isi_21, isi_22, isi_23, isi_24, isi_25, isi_26, isi_27, isi_28, isi_29, isi_30, isi_31, isi_32, isi_33, isi_34, isi_35, isi_36, isi_37, isi_38, isi_39, isi_40, isi_41, isi_42, isi_43, isi_44])
local macro_rules
  | `(tactic| walk_at "ds") => `(tactic| try simp only [z_slt, z_slt1, z_slt2, z_slt3, g_gen, g_genm, g_genm1, g_log, g_logC, r_newD, r_put0, r_kw, r_kw1, r_kw2, r_kw0, r_kw00, c_wi, c_en, c_en1, c_for, c_for1, c_lc, c_lc1, c_lof, c_lof1, c_ap, c_ap1, c_ap2, y_p2, y_p21, y_oo, y_fo, y_foq, y_of, y_of2, c_si, c_si1, c_si2, c_si3, c_lu1, c_lu2, c_lu3, z_fl, z_fl1, z_fl2, z_ps, z_ps1, z_ps2, z_ps3, z_eqT, z_cat, z_cat1, z_cat2, y_pop, y_pop1, y_pop2, y_lcC, y_lcR, y_callR, t_wis, t_wisa, t_dicL, t_kpt, t_kpt1, t_kpt2, t_slst, t_m1s, t_m1s1, t_m1s2, t_catS, t_sls, t_sls1, t_sls2, t_sls3, t_fs, t_js0, t_js1, t_js2, t_js3, t_fmtI, t_fmtS, t_strI, t_insl, t_insl1, t_insl2, t_insl3, t_ors, t_dic, t_put, t_put1, t_put2, t_put3, t_base, y_cell, y_rem, y_rem1, y_rem2, x_subO, x_subO1, x_subO2, v_slo, v_slo1, w_ff, w_ft, w_tf, w_tt, false_and, and_false, isClsU, v_ix, v_ix1, v_ix2, v_inv, v_inv1, v_co, v_co1, v_co2, v_len, v_len1, v_f2or, isiD, tyD, clD, r_insobj, fldOf, DL.isNon, items_tup, items_lst, items_frl, hasCls, isCls, othTy, insD, DL.putK, DL.putD, initEnd, startI, startD, DL.wipeD, List.map_cons, List.map_nil, List.length_cons, List.length_nil, List.getElem?_cons_zero, List.getElem?_cons_succ, List.getElem?_nil, List.set_cons_zero, List.set_cons_succ, List.cons_append, List.nil_append, List.append_nil, List.replicate, Nat.sub_self, Nat.reduceSub, Nat.reduceAdd, Nat.reduceLeDiff, Nat.reduceEqDiff, Nat.reduceLT, Int.reduceLT, Int.reduceLE, if_true, if_false, Bool.not_true, Bool.not_false, reduceIte, reduceCtorEq, true_and, and_true, Nat.zero_add, Bool.true_eq_false, Bool.false_eq_true, eqU_int, eqU_str, eqU_bl, str_eq, str_beq, String.reduceEq, decide_true, decide_false, decide_eq_true_eq, pl_items, pl_st0, pl_st1, pl_fold, notOwn, List.mem_singleton, List.mem_cons, List.not_mem_nil, or_false, false_or, or_true, true_or, forall_eq, forall_eq_or_imp, implies_true, Int.reduceToNat, Int.reduceEq, Int.reduceNe, Int.reduceAdd, Int.reduceSub, Int.reduceMul, Int.reducePow, Int.reduceMod, Int.reduceDiv, atI_0, atI_1, atI_2, atI_3, rg1, rg2, startI, r_var, r_var2, r_c, r_w2, r_w2a, r_w2b, r_w1, r_w1a, r_wB, r_wBa, r_ch, r_ch1, r_ch2, r_ch3t, r_ch3f, r_and, r_andt, r_andf, r_or, r_ort, r_orf, r_not, r_nota, r_ife, r_ifet, r_ifef, r_andv, r_andvt, r_andvf, r_orv, r_orvt, r_orvf, r_notv, r_notva, r_nil, r_cons, r_cons1, r_cons2, r_tup, r_tupa, r_lst, r_lsta, r_lstc, r_lstca, r_wn, r_wna, r_call, r_calla, r_mk, r_mk1, r_mk2, r_mkc, r_mkc1, r_mkc2, r_me, r_me1, r_me2, r_bo, r_bo1, r_bo2, r_onone, r_osome, r_osomea, r_sl, r_sl1, r_sl2, r_sl3, r_sl3f, r_ii, r_ii0, r_ib, r_i1, r_plus, r_plusl, r_times, r_timesl, r_isn, r_notn, r_isb, r_notb, r_pm, r_pm1, DL.perm, z_neT, z_catT, r_eqd, r_ned, r_int1, r_int1b, r_max2, r_min2, r_abs, r_ix, r_ix2, r_ix3, r_len, r_len2, r_isi, r_isi2, r_fld, r_fld2, r_fld3, r_insobj, r_kx, r_next, r_never, r_seqa, r_if, r_ift, r_iff, r_ret, r_retn, r_brk, r_cnt, r_drop, r_dropa, r_set, r_seta, r_asg, r_asga, r_name, r_namec, r_ktup, r_kunl, r_kcons, r_kcs, r_knil, r_par2, r_par2a, r_par3, r_par3a, r_aug, r_auga, r_augb, r_augc, r_for, r_fora, r_knx, r_fldo, r_fldoa, r_put, r_frz, r_frz2, r_frz3, r_frz4, r_cl, r_seto, r_setoa, r_wil, r_wila, r_wilf, r_wit, r_wita, r_wi1, r_wi1a, r_wi2, r_wi2a, r_wie, r_wiea, r_wiz, r_wiza, r_wizt, r_lc, r_lc0, r_lcn, r_lcc, r_lc1, r_lc2t, r_lc2f, r_lc3, r_yes, r_sub, r_sub1, r_sub2, r_sub3, r_dnx, r_drt, r_dxc, r_inx, r_init, r_ixc, t_raise, t_raise2, t_try, t_cat, t_catt, t_catf, t_sunx, t_surt, t_nx0, t_nx1, t_nx2, t_nx3, t_prop, t_prop2, t_xf, t_xf2, t_isx, t_isx2, t_wht, t_whf, t_equ, t_neu, t_el, List.reverse_cons, List.reverse_nil, isiDT, anyT, List.all_cons, List.all_nil, Option.isSome_some, Bool.and_true, Bool.true_and, u_lof, u_lof2, u_tof, u_tof2, u_isiT, u_dict, u_bl, u_own, u_ownN, u_has, u_hasN, u_bk, u_bk1, u_bk2, u_stat, u_ap, u_ap1, u_ap2, u_ex, u_ex1, u_ex2, u_ownL, u_olen, u_oix, u_oix1, u_oin, u_sumT, u_sumL, u_mu, u_mu1, u_hot, u_hot1, startX, u_mb, u_mb1, u_mb1f, u_mb2, u_rev, u_revf, u_wio, u_wex, u_wel, u_wef, u_wet, u_en, u_en0, u_enc, u_enn, Int.cast_ofNat_Int, u_wzx, u_wzl, u_wzt, u_wzm, u_zd, u_zd0, intsD, DL.intD, u_kd, othC, isTy, Bool.true_xor, Bool.false_xor, eqU_pl, p_int, p_bl, p_non, p_tup, p_lst, p_frl, p0_int, p0_bl, p0_non, deq, deqs, Bool.and_true, Bool.and_false, Bool.false_and, List.contains_cons, List.contains_nil, Bool.or_false, Bool.false_or, Bool.or_self, eq_self, beq_self_eq_true, Bool.not_true, Bool.not_false, List.flatten_cons, List.flatten_nil, isi_0, isi_1, isi_2, isi_3, isi_4, isi_5, isi_6, isi_7, isi_8, isi_9, isi_10, isi_11, isi_12, isi_13, isi_14, isi_15, isi_16, isi_17, isi_18, isi_19, isi_20, isi_21, isi_22, isi_23, isi_24, isi_25, isi_26, isi_27, isi_28, isi_29, isi_30, isi_31, isi_32, isi_33, isi_34, isi_35, isi_36, isi_37, isi_38, isi_39, isi_40, isi_41, isi_42, isi_43, isi_44])
local macro_rules
  | `(tactic| walk_at "dn") => `(tactic| try simp only [z_slt, z_slt1, z_slt2, z_slt3, g_gen, g_genm, g_genm1, g_log, g_logC, r_newD, r_put0, r_kw, r_kw1, r_kw2, r_kw0, r_kw00, c_wi, c_en, c_en1, c_for, c_for1, c_lc, c_lc1, c_lof, c_lof1, c_ap, c_ap1, c_ap2, y_p2, y_p21, y_oo, y_fo, y_foq, y_of, y_of2, c_si, c_si1, c_si2, c_si3, c_lu1, c_lu2, c_lu3, z_fl, z_fl1, z_fl2, z_ps, z_ps1, z_ps2, z_ps3, z_eqT, z_cat, z_cat1, z_cat2, y_pop, y_pop1, y_pop2, y_lcC, y_lcR, y_callR, t_wis, t_wisa, t_dicL, t_kpt, t_kpt1, t_kpt2, t_slst, t_m1s, t_m1s1, t_m1s2, t_catS, t_sls, t_sls1, t_sls2, t_sls3, t_fs, t_js0, t_js1, t_js2, t_js3, t_fmtI, t_fmtS, t_strI, t_insl, t_insl1, t_insl2, t_insl3, t_ors, t_dic, t_put, t_put1, t_put2, t_put3, t_base, y_cell, y_rem, y_rem1, y_rem2, x_subO, x_subO1, x_subO2, v_slo, v_slo1, w_ff, w_ft, w_tf, w_tt, false_and, and_false, isClsU, v_ix, v_ix1, v_ix2, v_inv, v_inv1, v_co, v_co1, v_co2, v_len, v_len1, v_f2or, isiD, tyD, clD, r_insobj, fldOf, DL.isNon, items_tup, items_lst, items_frl, hasCls, isCls, othTy, insD, DL.putK, DL.putD, initEnd, startI, startD, DL.wipeD, List.map_cons, List.map_nil, List.length_cons, List.length_nil, List.getElem?_cons_zero, List.getElem?_cons_succ, List.getElem?_nil, List.set_cons_zero, List.set_cons_succ, List.cons_append, List.nil_append, List.append_nil, List.replicate, Nat.sub_self, Nat.reduceSub, Nat.reduceAdd, Nat.reduceLeDiff, Nat.reduceEqDiff, Nat.reduceLT, Int.reduceLT, Int.reduceLE, if_true, if_false, Bool.not_true, Bool.not_false, reduceIte, reduceCtorEq, true_and, and_true, Nat.zero_add, Bool.true_eq_false, Bool.false_eq_true, eqU_int, eqU_str, eqU_bl, str_eq, str_beq, String.reduceEq, decide_true, decide_false, decide_eq_true_eq, pl_items, pl_st0, pl_st1, pl_fold, notOwn, List.mem_singleton, List.mem_cons, List.not_mem_nil, or_false, false_or, or_true, true_or, forall_eq, forall_eq_or_imp, implies_true, Int.reduceToNat, Int.reduceEq, Int.reduceNe, Int.reduceAdd, Int.reduceSub, Int.reduceMul, Int.reducePow, Int.reduceMod, Int.reduceDiv, atI_0, atI_1, atI_2, atI_3, rg1, rg2, startI, r_var, r_var2, r_c, r_w2, r_w2a, r_w2b, r_w1, r_w1a, r_wB, r_wBa, r_ch, r_ch1, r_ch2, r_ch3t, r_ch3f, r_and, r_andt, r_andf, r_or, r_ort, r_orf, r_not, r_nota, r_ife, r_ifet, r_ifef, r_andv, r_andvt, r_andvf, r_orv, r_orvt, r_orvf, r_notv, r_notva, r_nil, r_cons, r_cons1, r_cons2, r_tup, r_tupa, r_lst, r_lsta, r_lstc, r_lstca, r_wn, r_wna, r_call, r_calla, r_mk, r_mk1, r_mk2, r_mkc, r_mkc1, r_mkc2, r_me, r_me1, r_me2, r_bo, r_bo1, r_bo2, r_onone, r_osome, r_osomea, r_sl, r_sl1, r_sl2, r_sl3, r_sl3f, r_ii, r_ii0, r_ib, r_i1, r_plus, r_plusl, r_times, r_timesl, r_isn, r_notn, r_isb, r_notb, r_pm, r_pm1, DL.perm, z_neT, z_catT, r_eqd, r_ned, r_int1, r_int1b, r_max2, r_min2, r_abs, r_ix, r_ix2, r_ix3, r_len, r_len2, r_isi, r_isi2, r_fld, r_fld2, r_fld3, r_insobj, r_kx, r_next, r_never, r_seq, r_seqa, r_if, r_ift, r_iff, r_ret, r_retn, r_brk, r_cnt, r_drop, r_dropa, r_set, r_seta, r_asg, r_asga, r_name, r_namec, r_ktup, r_kunl, r_kcons, r_kcs, r_knil, r_par2, r_par2a, r_par3, r_par3a, r_aug, r_auga, r_augb, r_augc, r_for, r_fora, r_knx, r_fldo, r_fldoa, r_put, r_frz, r_frz2, r_frz3, r_frz4, r_cl, r_seto, r_setoa, r_wil, r_wila, r_wilf, r_wit, r_wita, r_wi1, r_wi1a, r_wi2, r_wi2a, r_wie, r_wiea, r_wiz, r_wiza, r_wizt, r_lc, r_lc0, r_lcn, r_lcc, r_lc1, r_lc2t, r_lc2f, r_lc3, r_yes, r_sub, r_sub1, r_sub2, r_sub3, r_dnx, r_drt, r_dxc, r_inx, r_init, r_ixc, t_raise, t_raise2, t_try, t_cat, t_catt, t_catf, t_sunx, t_surt, t_nx0, t_nx1, t_nx2, t_nx3, t_prop, t_prop2, t_xf, t_xf2, t_isx, t_isx2, t_wht, t_whf, t_equ, t_neu, t_el, List.reverse_cons, List.reverse_nil, isiDT, anyT, List.all_cons, List.all_nil, Option.isSome_some, Bool.and_true, Bool.true_and, u_lof, u_lof2, u_tof, u_tof2, u_isiT, u_dict, u_bl, u_own, u_ownN, u_has, u_hasN, u_bk, u_bk1, u_bk2, u_stat, u_ap, u_ap1, u_ap2, u_ex, u_ex1, u_ex2, u_ownL, u_olen, u_oix, u_oix1, u_oin, u_sumT, u_sumL, u_mu, u_mu1, u_hot, u_hot1, startX, u_mb, u_mb1, u_mb1f, u_mb2, u_rev, u_revf, u_wio, u_wex, u_wel, u_wef, u_wet, u_en, u_en0, u_enc, u_enn, Int.cast_ofNat_Int, u_wzx, u_wzl, u_wzt, u_wzm, u_zd, u_zd0, intsD, DL.intD, u_kd, othC, isTy, Bool.true_xor, Bool.false_xor, eqU_pl, p_int, p_bl, p_non, p_tup, p_lst, p_frl, p0_int, p0_bl, p0_non, deq, deqs, Bool.and_true, Bool.and_false, Bool.false_and, List.contains_cons, List.contains_nil, Bool.or_false, Bool.false_or, Bool.or_self, eq_self, beq_self_eq_true, Bool.not_true, Bool.not_false, List.flatten_cons, List.flatten_nil, isi_0, isi_1, isi_2, isi_3, isi_4, isi_5, isi_6, isi_7, isi_8, isi_9, isi_10, isi_11, isi_12, isi_13, isi_14, isi_15, isi_16, isi_17, isi_18, isi_19, isi_20, isi_21, isi_22, isi_23, isi_24, isi_25, isi_26, isi_27, isi_28, isi_29, isi_30, isi_31, isi_32, isi_33, isi_34, isi_35, isi_36, isi_37, isi_38, isi_39, isi_40, isi_41, isi_42, isi_43, isi_44])
local macro_rules
  | `(tactic| walk_at "dl1") => `(tactic| simp only [z_slt, z_slt1, z_slt2, z_slt3, g_gen, g_genm, g_genm1, g_log, g_logC, r_newD, r_put0, r_kw, r_kw1, r_kw2, r_kw0, r_kw00, c_wi, c_en, c_en1, c_for, c_for1, c_lc, c_lc1, c_lof, c_lof1, c_ap, c_ap1, c_ap2, y_p2, y_p21, y_oo, y_fo, y_foq, y_of, y_of2, c_si, c_si1, c_si2, c_si3, c_lu1, c_lu2, c_lu3, z_fl, z_fl1, z_fl2, z_ps, z_ps1, z_ps2, z_ps3, z_eqT, z_cat, z_cat1, z_cat2, y_pop, y_pop1, y_pop2, y_lcC, y_lcR, y_callR, t_wis, t_wisa, t_dicL, t_kpt, t_kpt1, t_kpt2, t_slst, t_m1s, t_m1s1, t_m1s2, t_catS, t_sls, t_sls1, t_sls2, t_sls3, t_fs, t_js0, t_js1, t_js2, t_js3, t_fmtI, t_fmtS, t_strI, t_insl, t_insl1, t_insl2, t_insl3, t_ors, t_dic, t_put, t_put1, t_put2, t_put3, t_base, y_cell, y_rem, y_rem1, y_rem2, x_subO, x_subO1, x_subO2, v_slo, v_slo1, w_ff, w_ft, w_tf, w_tt, false_and, and_false, isClsU, v_ix, v_ix1, v_ix2, v_inv, v_inv1, v_co, v_co1, v_co2, v_len, v_len1, v_f2or, isiD, tyD, clD, r_insobj, fldOf, DL.isNon, items_tup, items_lst, items_frl, hasCls, isCls, othTy, insD, DL.putK, DL.putD, initEnd, startI, startD, DL.wipeD, List.map_cons, List.map_nil, List.length_cons, List.length_nil, List.getElem?_cons_zero, List.getElem?_cons_succ, List.getElem?_nil, List.set_cons_zero, List.set_cons_succ, List.cons_append, List.nil_append, List.append_nil, List.replicate, Nat.sub_self, Nat.reduceSub, Nat.reduceAdd, Nat.reduceLeDiff, Nat.reduceEqDiff, Nat.reduceLT, Int.reduceLT, Int.reduceLE, if_true, if_false, Bool.not_true, Bool.not_false, reduceIte, reduceCtorEq, true_and, and_true, Nat.zero_add, Bool.true_eq_false, Bool.false_eq_true, eqU_int, eqU_str, eqU_bl, str_eq, str_beq, String.reduceEq, decide_true, decide_false, decide_eq_true_eq, pl_items, pl_st0, pl_st1, pl_fold, notOwn, List.mem_singleton, List.mem_cons, List.not_mem_nil, or_false, false_or, or_true, true_or, forall_eq, forall_eq_or_imp, implies_true, range_succ, range_zero, Int.reduceToNat, Int.reduceEq, Int.reduceNe, Int.reduceAdd, Int.reduceSub, Int.reduceMul, Int.reducePow, Int.reduceMod, Int.reduceDiv, atI_0, atI_1, atI_2, atI_3, rg1, rg2, startI, r_var, r_var2, r_c, r_w2, r_w2a, r_w2b, r_w1, r_w1a, r_wB, r_wBa, r_ch, r_ch1, r_ch2, r_ch3t, r_ch3f, r_and, r_andt, r_andf, r_or, r_ort, r_orf, r_not, r_nota, r_ife, r_ifet, r_ifef, r_andv, r_andvt, r_andvf, r_orv, r_orvt, r_orvf, r_notv, r_notva, r_nil, r_cons, r_cons1, r_cons2, r_tup, r_tupa, r_lst, r_lsta, r_lstc, r_lstca, r_wn, r_wna, r_call, r_calla, r_mk, r_mk1, r_mk2, r_mkc, r_mkc1, r_mkc2, r_me, r_me1, r_me2, r_bo, r_bo1, r_bo2, r_onone, r_osome, r_osomea, r_sl, r_sl1, r_sl2, r_sl3, r_sl3f, r_ii, r_ii0, r_ib, r_i1, r_plus, r_plusl, r_times, r_timesl, r_isn, r_notn, r_isb, r_notb, r_pm, r_pm1, DL.perm, z_neT, z_catT, r_eqd, r_ned, r_int1, r_int1b, r_max2, r_min2, r_abs, r_ix, r_ix2, r_ix3, r_len, r_len2, r_isi, r_isi2, r_fld, r_fld2, r_fld3, r_insobj, r_kx, r_next, r_never, r_seq, r_seqa, r_if, r_ift, r_iff, r_ret, r_retn, r_brk, r_cnt, r_drop, r_dropa, r_set, r_seta, r_asg, r_asga, r_name, r_namec, r_ktup, r_kunl, r_kcons, r_kcs, r_knil, r_par2, r_par2a, r_par3, r_par3a, r_aug, r_auga, r_augb, r_augc, r_for, r_fora, r_knx, r_fldo, r_fldoa, r_put, r_frz, r_frz2, r_frz3, r_frz4, r_cl, r_seto, r_setoa, r_wil, r_wila, r_wilf, r_wit, r_wita, r_wi1, r_wi1a, r_wi2, r_wi2a, r_wie, r_wiea, r_wiz, r_wiza, r_wizt, r_lc, r_lc0, r_lcn, r_lcc, r_lc1, r_lc2t, r_lc2f, r_lc3, r_yes, r_sub, r_sub1, r_sub2, r_sub3, r_dnx, r_drt, r_dxc, r_inx, r_init, r_ixc, t_raise, t_raise2, t_try, t_cat, t_catt, t_catf, t_sunx, t_surt, t_nx0, t_nx1, t_nx2, t_nx3, t_prop, t_prop2, t_xf, t_xf2, t_isx, t_isx2, t_wht, t_whf, t_equ, t_neu, t_el, List.reverse_cons, List.reverse_nil, isiDT, anyT, List.all_cons, List.all_nil, Option.isSome_some, Bool.and_true, Bool.true_and, u_lof, u_lof2, u_tof, u_tof2, u_isiT, u_dict, u_bl, u_own, u_ownN, u_has, u_hasN, u_bk, u_bk1, u_bk2, u_stat, u_ap, u_ap1, u_ap2, u_ex, u_ex1, u_ex2, u_ownL, u_olen, u_oix, u_oix1, u_oin, u_sumT, u_sumL, u_mu, u_mu1, u_hot, u_hot1, startX, u_mb, u_mb1, u_mb1f, u_mb2, u_rev, u_revf, u_wio, u_wex, u_wel, u_wef, u_wet, u_en, u_en0, u_enc, u_enn, Int.cast_ofNat_Int, u_wzx, u_wzl, u_wzt, u_wzm, u_zd, u_zd0, intsD, DL.intD, u_kd, othC, isTy, Bool.true_xor, Bool.false_xor, eqU_pl, p_int, p_bl, p_non, p_tup, p_lst, p_frl, p0_int, p0_bl, p0_non, deq, deqs, Bool.and_true, Bool.and_false, Bool.false_and, List.contains_cons, List.contains_nil, Bool.or_false, Bool.false_or, Bool.or_self, eq_self, beq_self_eq_true, Bool.not_true, Bool.not_false, List.flatten_cons, List.flatten_nil, isi_0, isi_1, isi_2, isi_3, isi_4, isi_5, isi_6, isi_7, isi_8, isi_9, isi_10, isi_11, isi_12, isi_13, isi_14, isi_15, isi_16, isi_17, isi_18, isi_19, isi_20, isi_21, isi_22, isi_23, isi_24, isi_25, isi_26, isi_27, isi_28, isi_29, isi_30, isi_31, isi_32, isi_33, isi_34, isi_35, isi_36, isi_37, isi_38, isi_39, isi_40, isi_41, isi_42, isi_43, isi_44])
local macro_rules
  | `(tactic| walk_at "dl") => `(tactic| try simp only [z_slt, z_slt1, z_slt2, z_slt3, g_gen, g_genm, g_genm1, g_log, g_logC, r_newD, r_put0, r_kw, r_kw1, r_kw2, r_kw0, r_kw00, c_wi, c_en, c_en1, c_for, c_for1, c_lc, c_lc1, c_lof, c_lof1, c_ap, c_ap1, c_ap2, y_p2, y_p21, y_oo, y_fo, y_foq, y_of, y_of2, c_si, c_si1, c_si2, c_si3, c_lu1, c_lu2, c_lu3, z_fl, z_fl1, z_fl2, z_ps, z_ps1, z_ps2, z_ps3, z_eqT, z_cat, z_cat1, z_cat2, y_pop, y_pop1, y_pop2, y_lcC, y_lcR, y_callR, t_wis, t_wisa, t_dicL, t_kpt, t_kpt1, t_kpt2, t_slst, t_m1s, t_m1s1, t_m1s2, t_catS, t_sls, t_sls1, t_sls2, t_sls3, t_fs, t_js0, t_js1, t_js2, t_js3, t_fmtI, t_fmtS, t_strI, t_insl, t_insl1, t_insl2, t_insl3, t_ors, t_dic, t_put, t_put1, t_put2, t_put3, t_base, y_cell, y_rem, y_rem1, y_rem2, x_subO, x_subO1, x_subO2, v_slo, v_slo1, w_ff, w_ft, w_tf, w_tt, false_and, and_false, isClsU, v_ix, v_ix1, v_ix2, v_inv, v_inv1, v_co, v_co1, v_co2, v_len, v_len1, v_f2or, isiD, tyD, clD, r_insobj, fldOf, DL.isNon, items_tup, items_lst, items_frl, hasCls, isCls, othTy, insD, DL.putK, DL.putD, initEnd, startI, startD, DL.wipeD, List.map_cons, List.map_nil, List.length_cons, List.length_nil, List.getElem?_cons_zero, List.getElem?_cons_succ, List.getElem?_nil, List.set_cons_zero, List.set_cons_succ, List.cons_append, List.nil_append, List.append_nil, List.replicate, Nat.sub_self, Nat.reduceSub, Nat.reduceAdd, Nat.reduceLeDiff, Nat.reduceEqDiff, Nat.reduceLT, Int.reduceLT, Int.reduceLE, if_true, if_false, Bool.not_true, Bool.not_false, reduceIte, reduceCtorEq, true_and, and_true, Nat.zero_add, Bool.true_eq_false, Bool.false_eq_true, eqU_int, eqU_str, eqU_bl, str_eq, str_beq, String.reduceEq, decide_true, decide_false, decide_eq_true_eq, pl_items, pl_st0, pl_st1, pl_fold, notOwn, List.mem_singleton, List.mem_cons, List.not_mem_nil, or_false, false_or, or_true, true_or, forall_eq, forall_eq_or_imp, implies_true, range_succ, range_zero, Int.reduceToNat, Int.reduceEq, Int.reduceNe, Int.reduceAdd, Int.reduceSub, Int.reduceMul, Int.reducePow, Int.reduceMod, Int.reduceDiv, atI_0, atI_1, atI_2, atI_3, rg1, rg2, startI, r_var, r_var2, r_c, r_w2, r_w2a, r_w2b, r_w1, r_w1a, r_wB, r_wBa, r_ch, r_ch1, r_ch2, r_ch3t, r_ch3f, r_and, r_andt, r_andf, r_or, r_ort, r_orf, r_not, r_nota, r_ife, r_ifet, r_ifef, r_andv, r_andvt, r_andvf, r_orv, r_orvt, r_orvf, r_notv, r_notva, r_nil, r_cons, r_cons1, r_cons2, r_tup, r_tupa, r_lst, r_lsta, r_lstc, r_lstca, r_wn, r_wna, r_call, r_calla, r_mk, r_mk1, r_mk2, r_mkc, r_mkc1, r_mkc2, r_me, r_me1, r_me2, r_bo, r_bo1, r_bo2, r_onone, r_osome, r_osomea, r_sl, r_sl1, r_sl2, r_sl3, r_sl3f, r_ii, r_ii0, r_ib, r_i1, r_plus, r_plusl, r_times, r_timesl, r_isn, r_notn, r_isb, r_notb, r_pm, r_pm1, DL.perm, z_neT, z_catT, r_eqd, r_ned, r_int1, r_int1b, r_max2, r_min2, r_abs, r_ix, r_ix2, r_ix3, r_len, r_len2, r_isi, r_isi2, r_fld, r_fld2, r_fld3, r_insobj, r_kx, r_next, r_never, r_seq, r_seqa, r_if, r_ift, r_iff, r_ret, r_retn, r_brk, r_cnt, r_drop, r_dropa, r_set, r_seta, r_asg, r_asga, r_name, r_namec, r_ktup, r_kunl, r_kcons, r_kcs, r_knil, r_par2, r_par2a, r_par3, r_par3a, r_aug, r_auga, r_augb, r_augc, r_for, r_fora, r_knx, r_fldo, r_fldoa, r_put, r_frz, r_frz2, r_frz3, r_frz4, r_cl, r_seto, r_setoa, r_wil, r_wila, r_wilf, r_wit, r_wita, r_wi1, r_wi1a, r_wi2, r_wi2a, r_wie, r_wiea, r_wiz, r_wiza, r_wizt, r_lc, r_lc0, r_lcn, r_lcc, r_lc1, r_lc2t, r_lc2f, r_lc3, r_yes, r_sub, r_sub1, r_sub2, r_sub3, r_dnx, r_drt, r_dxc, r_inx, r_init, r_ixc, t_raise, t_raise2, t_try, t_cat, t_catt, t_catf, t_sunx, t_surt, t_nx0, t_nx1, t_nx2, t_nx3, t_prop, t_prop2, t_xf, t_xf2, t_isx, t_isx2, t_wht, t_whf, t_equ, t_neu, t_el, List.reverse_cons, List.reverse_nil, isiDT, anyT, List.all_cons, List.all_nil, Option.isSome_some, Bool.and_true, Bool.true_and, u_lof, u_lof2, u_tof, u_tof2, u_isiT, u_dict, u_bl, u_own, u_ownN, u_has, u_hasN, u_bk, u_bk1, u_bk2, u_stat, u_ap, u_ap1, u_ap2, u_ex, u_ex1, u_ex2, u_ownL, u_olen, u_oix, u_oix1, u_oin, u_sumT, u_sumL, u_mu, u_mu1, u_hot, u_hot1, startX, u_mb, u_mb1, u_mb1f, u_mb2, u_rev, u_revf, u_wio, u_wex, u_wel, u_wef, u_wet, u_en, u_en0, u_enc, u_enn, Int.cast_ofNat_Int, u_wzx, u_wzl, u_wzt, u_wzm, u_zd, u_zd0, intsD, DL.intD, u_kd, othC, isTy, Bool.true_xor, Bool.false_xor, eqU_pl, p_int, p_bl, p_non, p_tup, p_lst, p_frl, p0_int, p0_bl, p0_non, deq, deqs, Bool.and_true, Bool.and_false, Bool.false_and, List.contains_cons, List.contains_nil, Bool.or_false, Bool.false_or, Bool.or_self, eq_self, beq_self_eq_true, Bool.not_true, Bool.not_false, List.flatten_cons, List.flatten_nil, isi_0, isi_1, isi_2, isi_3, isi_4, isi_5, isi_6, isi_7, isi_8, isi_9, isi_10, isi_11, isi_12, isi_13, isi_14, isi_15, isi_16, isi_17, isi_18, isi_19, isi_20, isi_21, isi_22, isi_23, isi_24, isi_25, isi_26, isi_27, isi_28, isi_29, isi_30, isi_31, isi_32, isi_33, isi_34, isi_35, isi_36, isi_37, isi_38, isi_39, isi_40, isi_41, isi_42, isi_43, isi_44])
local macro_rules
  | `(tactic| walk_at "cm") => `(tactic| first | exact .inl (.inr ⟨by omega, by omega⟩) | exact .inl (.inl ⟨by omega, by omega⟩) | exact cm_bd (by unfold Bd; omega) (by unfold Bd; omega))
local macro_rules
  | `(tactic| walk_at "cs") => `(tactic| repeat ((with_reducible refine And.intro ?_ ?_); (· first | decide | (walk_at "cm") | exact ⟨by decide, by decide, by decide⟩ | omega)))
local macro_rules
  | `(tactic| walk_at "go") => `(tactic| (walk_at "dl"; walk_at "cs"))
local macro_rules
  | `(tactic| walk_at "gn") => `(tactic| (walk_at "dn"; walk_at "cs"))
section
variable {Q : D → Mu → Prop} {Xd : XD} {μ : Mu}
theorem uniq_le : ∀ {l m : List Int}, l.Perm m → l.Pairwise (· ≤ ·) → m.Pairwise (· ≤ ·) → l = m
  | [], m, hp, _, _ => List.Perm.nil_eq hp
  | a :: l, m, hp, hl, hm => by
    cases m with
    | nil => exact absurd hp.symm (by intro h; have := h.length_eq; simp at this)
    | cons b m =>
      have ab : a = b := by
        have ha : a ∈ b :: m := hp.mem_iff.mp List.mem_cons_self
        have hb : b ∈ a :: l := hp.mem_iff.mpr List.mem_cons_self
        rcases List.mem_cons.mp ha with e | ha
        · exact e
        · rcases List.mem_cons.mp hb with e | hb
          · exact e.symm
          · have h1 := (List.pairwise_cons.mp hl).1 b hb
            have h2 := (List.pairwise_cons.mp hm).1 a ha
            omega
      subst ab
      rw [uniq_le (List.Perm.cons_inv hp) (List.pairwise_cons.mp hl).2 (List.pairwise_cons.mp hm).2]
/-! what is told of turned, begun, flat triples -/
section
variable {w p : SA.P} {ah : Bool} {ps : List SA.P}
theorem cnt_app {t1 t2 : List T3i} : aheads w ah ps (t1 ++ t2) p = aheads w ah ps t1 p + aheads w ah ps t2 p ∧ backs w ah ps (t1 ++ t2) p = backs w ah ps t1 p + backs w ah ps t2 p := ⟨List.countP_append .., List.countP_append ..⟩
theorem sd_sw (a b c : SA.P) : SA.sd a c b = - SA.sd a b c := by unfold SA.sd; grind
theorem sd_rt (a b c : SA.P) : SA.sd b c a = SA.sd a b c := by unfold SA.sd; grind
theorem own_rt {R : SA.P → Bool} (a b c p : SA.P) : SA.own R ⟨b, c, a⟩ p = SA.own R ⟨a, b, c⟩ p := by
  unfold SA.own
  simp only [Bool.and_assoc, Bool.and_true]
  generalize SA.wOwn R a b p = x
  generalize SA.wOwn R b c p = y
  generalize SA.wOwn R c a p = z
  cases x <;> cases y <;> cases z <;> rfl
theorem ah_sw (a b c : SA.P) : SA.ahead w ah a c b p = SA.back w ah a b c p ∧ SA.back w ah a c b p = SA.ahead w ah a b c p := by
  unfold SA.ahead SA.back
  rw [sd_sw a b c]
  exact ⟨by rw [decide_eq_decide.mpr (show 0 < -SA.sd a b c ↔ SA.sd a b c < 0 by omega)], by rw [decide_eq_decide.mpr (show -SA.sd a b c < 0 ↔ 0 < SA.sd a b c by omega)]⟩
theorem ah_rt (a b c : SA.P) : SA.ahead w ah b c a p = SA.ahead w ah a b c p ∧ SA.back w ah b c a p = SA.back w ah a b c p := by
  unfold SA.ahead SA.back
  rw [sd_rt a b c, own_rt a b c p]
  refine ⟨rfl, ?_⟩
  rw [own_rt b a c p]
def ovr (t : T3i) : T3i := (t.1, t.2.2, t.2.1)
def rot (t : T3i) : T3i := (t.2.1, t.2.2, t.1)
theorem cnt_ovr {tr : List T3i} : aheads w ah ps (tr.map ovr) p = backs w ah ps tr p ∧ backs w ah ps (tr.map ovr) p = aheads w ah ps tr p := by
  unfold aheads backs
  rw [List.countP_map, List.countP_map]
  exact ⟨List.countP_congr fun t _ => by rw [Function.comp_apply, ← (ah_sw (w := w) (ah := ah) (p := p) (atP ps t.1) (atP ps t.2.1) (atP ps t.2.2)).1]; rfl, List.countP_congr fun t _ => by rw [Function.comp_apply, ← (ah_sw (w := w) (ah := ah) (p := p) (atP ps t.1) (atP ps t.2.1) (atP ps t.2.2)).2]; rfl⟩
theorem cnt_rot {tr : List T3i} : aheads w ah ps (tr.map rot).reverse p = aheads w ah ps tr p ∧ backs w ah ps (tr.map rot).reverse p = backs w ah ps tr p := by
  unfold aheads backs
  rw [List.countP_reverse, List.countP_reverse, List.countP_map, List.countP_map]
  exact ⟨List.countP_congr fun t _ => by rw [Function.comp_apply, ← (ah_rt (w := w) (ah := ah) (p := p) (atP ps t.1) (atP ps t.2.1) (atP ps t.2.2)).1]; rfl, List.countP_congr fun t _ => by rw [Function.comp_apply, ← (ah_rt (w := w) (ah := ah) (p := p) (atP ps t.1) (atP ps t.2.1) (atP ps t.2.2)).2]; rfl⟩
def flt (n : Nat) : List T3i := [(0, 1, n), (n, 1, 0), (1, 0, n)]
theorem atP_app {i : Nat} {z : SA.P} (h : i < ps.length) : atP (ps ++ [z]) i = atP ps i := by
  unfold atP
  rw [List.getElem?_append_left h]
theorem atP_end {z : SA.P} : atP (ps ++ [z]) ps.length = z := by
  unfold atP
  rw [List.getElem?_concat_length]
  rfl
theorem cnt_flat {tr : List T3i} (h0 : 0 < ps.length) (h : ∀ t ∈ tr, t.1 < ps.length ∧ t.2.1 < ps.length ∧ t.2.2 < ps.length) : aheads w ah (ps ++ [atP ps 0]) (tr ++ flt ps.length) p = aheads w ah ps tr p ∧ backs w ah (ps ++ [atP ps 0]) (tr ++ flt ps.length) p = backs w ah ps tr p := by
  have z1 : ∀ a b : SA.P, SA.sd a b a = 0 ∧ SA.sd b a a = 0 ∧ SA.sd a a b = 0 := fun a b => by unfold SA.sd; grind
  have e0 := atP_app (z := atP ps 0) h0
  have en := atP_end (ps := ps) (z := atP ps 0)
  have f1 : aheads w ah (ps ++ [atP ps 0]) (flt ps.length) p = 0 ∧ backs w ah (ps ++ [atP ps 0]) (flt ps.length) p = 0 := by
    unfold aheads backs flt
    rw [List.countP_eq_zero, List.countP_eq_zero]
    constructor
    · intro t ht
      simp only [List.mem_cons, List.not_mem_nil, or_false] at ht
      rcases ht with rfl | rfl | rfl <;> simp only [SA.ahead, e0, en, (z1 _ _).1, (z1 _ _).2.1, (z1 _ _).2.2] <;> simp
    · intro t ht
      simp only [List.mem_cons, List.not_mem_nil, or_false] at ht
      rcases ht with rfl | rfl | rfl <;> simp only [SA.back, e0, en, (z1 _ _).1, (z1 _ _).2.1, (z1 _ _).2.2] <;> simp
  rw [cnt_app.1, cnt_app.2, f1.1, f1.2]
  unfold aheads backs
  exact ⟨List.countP_congr fun t ht => by rw [atP_app (h t ht).1, atP_app (h t ht).2.1, atP_app (h t ht).2.2], List.countP_congr fun t ht => by rw [atP_app (h t ht).1, atP_app (h t ht).2.1, atP_app (h t ht).2.2]⟩
end
/-! rims -/
theorem RL_count {tr : List T3i} (h8 : ∀ t ∈ tr, TrOk3 8 t) (i j : Nat) : (RL tr).count (i, j) = SA.cw (tr.flatMap SA.triW) i j := by
  rw [(RL_perm h8).count_eq, SA.rimL_count fun t ht => (h8 t ht).2]
theorem RL_ne {tr : List T3i} (h8 : ∀ t ∈ tr, TrOk3 8 t) : ∀ x ∈ RL tr, x.1 ≠ x.2 := fun x hx e => by
  have h1 := RL_count h8 x.1 x.2
  have h2 : 0 < (RL tr).count (x.1, x.2) := List.count_pos_iff.mpr hx
  rw [h1] at h2
  unfold SA.cw at h2
  rw [e] at h2
  omega
/-- what is left of ways -/
def lft (ws : List (Nat × Nat)) : List (Nat × Nat) := ws.foldl SA.rimStep []
theorem lft_perm {t1 t2 : List T3i} (h1 : ∀ t ∈ t1, TrOk3 8 t) (h2 : ∀ t ∈ t2, TrOk3 8 t) : (lft (RL t1 ++ RL t2)).Perm (RL (t1 ++ t2)) := by
  have h12 : ∀ t ∈ t1 ++ t2, TrOk3 8 t := fun t ht => (List.mem_append.mp ht).elim (h1 t) (h2 t)
  have wne : ∀ x ∈ RL t1 ++ RL t2, x.1 ≠ x.2 := fun x hx => (List.mem_append.mp hx).elim (RL_ne h1 x) (RL_ne h2 x)
  refine List.perm_iff_count.mpr fun ⟨i, j⟩ => ?_
  by_cases ij : i = j
  · subst ij
    rw [List.count_eq_zero.mpr fun hm => RL_ne h12 _ hm rfl, List.count_eq_zero.mpr fun hm => ?_]
    unfold lft at hm
    rcases SA.rim_mem hm with hm | hm
    · cases hm
    · exact wne _ hm rfl
  · have := SA.rim_cnt (RL t1 ++ RL t2) [] wne (fun _ _ _ => .inl rfl) i j ij
    rw [RL_count h12]
    unfold lft
    rw [List.count_append, List.count_append, RL_count h1, RL_count h2, RL_count h1, RL_count h2] at this
    rw [List.flatMap_append]
    unfold SA.cw at *
    rw [List.count_append, List.count_append]
    simp only [List.count_nil] at this
    omega
theorem ovr_perm {tr : List T3i} (h8 : ∀ t ∈ tr, TrOk3 8 t) : ((RL tr).map fun x => (x.2, x.1)).Perm (RL (tr.map ovr)) := by
  have h9 : ∀ t ∈ tr.map ovr, TrOk3 8 t := fun t ht => by
    obtain ⟨u, hu, rfl⟩ := List.mem_map.mp ht
    have := h8 u hu
    exact ⟨⟨this.1.1, this.1.2.2, this.1.2.1⟩, Ne.symm this.2.2.2, Ne.symm this.2.2.1, Ne.symm this.2.1⟩
  have sw : ∀ (l : List (Nat × Nat)) (i j : Nat), (l.map fun x => (x.2, x.1)).count (i, j) = l.count (j, i) := fun l i j => by
    induction l with
    | nil => rfl
    | cons a l ih =>
      rw [List.map_cons, List.count_cons, List.count_cons, ih]
      obtain ⟨a1, a2⟩ := a
      by_cases c : a1 = j ∧ a2 = i
      · obtain ⟨rfl, rfl⟩ := c; simp
      · have e1 : ((a2, a1) == (i, j)) = false := by simp; omega
        have e2 : ((a1, a2) == (j, i)) = false := by simp; omega
        simp only [e1, e2]
  have ct : ∀ i j, ((tr.map ovr).flatMap SA.triW).count (i, j) = (tr.flatMap SA.triW).count (j, i) := fun i j => by
    induction tr with
    | nil => rfl
    | cons t tr ih =>
      rw [List.map_cons, List.flatMap_cons, List.flatMap_cons, List.count_append, List.count_append, ih (fun u hu => h8 u (List.mem_cons_of_mem _ hu)) (fun u hu => h9 u (by rw [List.map_cons]; exact List.mem_cons_of_mem _ hu))]
      congr 1
      unfold ovr SA.triW
      simp only [List.count_cons, List.count_nil]
      have e : ∀ a b : Nat, (if ((a, b) == (i, j)) = true then 1 else 0) = (if ((b, a) == (j, i)) = true then 1 else 0 : Nat) := fun a b => by
        by_cases c : a = i ∧ b = j
        · obtain ⟨rfl, rfl⟩ := c; simp
        · have e1 : ((a, b) == (i, j)) = false := by simp; omega
          have e2 : ((b, a) == (j, i)) = false := by simp; omega
          simp only [e1, e2]
      rw [e t.1 t.2.2, e t.2.2 t.2.1, e t.2.1 t.1]
      omega
  refine List.perm_iff_count.mpr fun ⟨i, j⟩ => ?_
  rw [sw, RL_count h8, RL_count h9]
  unfold SA.cw
  rw [ct, ct]
theorem canon_lex {n : Nat} {c : Nat → Nat → Nat} : ∀ m, (SA.canon m n c).Pairwise (fun x y => x.1 < y.1 ∨ (x.1 = y.1 ∧ x.2 ≤ y.2)) ∧ ∀ x ∈ SA.canon m n c, x.1 < m
  | 0 => ⟨List.Pairwise.nil, fun x hx => by cases hx⟩
  | m + 1 => by
    obtain ⟨h1, h2⟩ := canon_lex m (c := c) (n := n)
    rw [SA.canon_succ]
    constructor
    · rw [List.pairwise_append]
      refine ⟨h1, ?_, fun x hx y hy => ?_⟩
      · rw [List.pairwise_map]
        exact (SA.repl_sorted (c m) n).imp fun h => .inr ⟨rfl, h⟩
      · obtain ⟨j, hj, rfl⟩ := List.mem_map.mp hy
        exact .inl (h2 x hx)
    · intro x hx
      rcases List.mem_append.mp hx with hx | hx
      · have := h2 x hx; omega
      · obtain ⟨j, hj, rfl⟩ := List.mem_map.mp hx
        exact Nat.lt_succ_self m
/-- a way as one number -/
def nm (n : Nat) (x : Nat × Nat) : Int := (n : Int) * (x.1 : Nat) + (x.2 : Nat)
theorem RL_sorted {tr : List T3i} {n : Nat} (hn : ∀ x ∈ RL tr, x.2 < n) : ((RL tr).map (nm n)).Pairwise (· ≤ ·) := by
  rw [List.pairwise_map]
  refine ((canon_lex (n := 8) (c := SA.cw (tr.flatMap SA.triW)) 8).1.imp_of_mem (R := fun x y => x.1 < y.1 ∨ (x.1 = y.1 ∧ x.2 ≤ y.2)) fun {x y} hx hy h => ?_)
  have bx := hn x hx
  unfold nm
  rcases h with h | ⟨h1, h2⟩
  · have : (n : Int) * ((x.1 : Nat) + 1) ≤ (n : Int) * (y.1 : Nat) := Int.mul_le_mul_of_nonneg_left (by omega) (by omega)
    rw [Int.mul_add, Int.mul_one] at this
    omega
  · rw [h1]
    omega
theorem lleft_ev {ws : List (Nat × Nat)} (hl : ws.length ≤ 100) (h : Q (.lst ((lft ws).map wayI)) μ) : sp__law_left [.lst (ws.map wayI)] μ Q Xd := by
  unfold sp__law_left w__law_left
  walk_at "gn"
  intro a1
  walk_at "gn"
  refine forL_pre (α := Nat × Nat) (f := wayI) (l := ws) (fun pre ρ μ' => μ' = μ ∧ ∃ s2 : Sl, ρ = [.v (.lst (ws.map wayI)), .own a1 (.lst ((lft pre).map wayI)), s2]) (fun pre x post e ρ μ' K hI hK => ?_) (fun ρ μ' hI => ?_) ⟨rfl, _, rfl⟩
  · obtain ⟨rfl, s2, rfl⟩ := hI
    have lp : pre.length ≤ 100 := by rw [e, List.length_append] at hl; omega
    have len1 := SA.rim_len pre []
    have cat2 : lft (pre ++ [x]) = SA.rimStep (lft pre) x := by unfold lft; rw [List.foldl_append]; rfl
    rw [cat2] at hK
    rw [show pre.foldl SA.rimStep [] = lft pre from rfl, List.length_nil] at len1
    generalize lft pre = R1 at *
    obtain ⟨x1, x2⟩ := x
    unfold SA.rimStep at hK
    simp only at hK
    rw [show wayI (x1, x2) = .tup [.int (x1 : Nat), .int (x2 : Nat)] from rfl]
    walk_at "gn"
    refine oin_pl (P5_wayI (x2, x1)) (P5_ways R1) ?_
    rw [show (.tup [.int (x2 : Nat), .int (x1 : Nat)] : D) = wayI (x2, x1) from rfl, any_wayI]
    walk_at "gn"
    by_cases c : (x2, x1) ∈ R1
    · rw [if_pos c] at hK
      rw [decide_eq_true c]
      walk_at "gn"
      refine rem_map deq_wayI P5_wayI (P5_ways R1) c ?_
      walk_at "gn"
      exact hK _ _ ⟨rfl, _, rfl⟩
    · rw [if_neg c, List.map_append] at hK
      rw [decide_eq_false c]
      walk_at "gn"
      refine ⟨by rw [List.length_map]; omega, ?_⟩
      exact hK _ _ ⟨rfl, _, rfl⟩
  · obtain ⟨rfl, s2, rfl⟩ := hI
    walk_at "gn"
    exact h
theorem eqZ_self {l : List Int} {K : Bool → Prop} (h : K true) : DL.eqU (.lst (l.map D.int)) (.lst (l.map D.int)) K := by
  have z : P5 (.lst (l.map D.int)) = true := all_map (p := Pn (Pn (Pn (Pn P0)))) fun p => rfl
  rw [eqU_pl z z]
  rw [show deq (.lst (l.map D.int)) (.lst (l.map D.int)) = true from by
    unfold deq
    exact deqs_ref fun x hx => by
      obtain ⟨y, _, rfl⟩ := List.mem_map.mp hx
      simp [deq]]
  exact h
theorem RL_lt {tr : List T3i} {n : Nat} (h8 : ∀ t ∈ tr, TrOk3 8 t) (h : ∀ t ∈ tr, TrOk3 n t) : ∀ x ∈ RL tr, x.1 < n ∧ x.2 < n := fun x hx => SA.rimL_mem (fun t ht => (h t ht).1) x ((RL_perm h8).mem_iff.mp hx)
def Iv (ns : List Int) (ρ : DS) (_ : Mu) : Prop := ∃ s1 s2 s3 s4 s5 s6 s7 s8 s9 s10 s11 s12 s13 s14 s15 s16 s17 s18 s19 s20 s21 s22 s23 : Sl, slv s19 = true ∧ slv s20 = true ∧ slv s21 = true ∧ slv s22 = true ∧ slv s23 = true ∧ ρ = [.v (.frl (ns.map D.int)), s1, s2, s3, s4, s5, s6, s7, s8, s9, s10, s11, s12, s13, s14, s15, s16, s17, s18, s19, s20, s21, s22, s23]
theorem law_ev {ns : List Int} (hl : ns.length ≤ 63) (h : ∀ μ, Q (.bl true) μ) : sp_law [.frl (ns.map D.int)] [] Q Xd := by
  unfold sp_law w_law
  walk_at "dn"
  obtain ⟨t1, t2, t3⟩ := turns_ok (n := (ns.map D.int).length) (m := 6) (by decide)
  refine ⟨t1, t2, ?_⟩
  change forL _ _ _ (rangeD 0 (turns (ns.map D.int).length 6).toNat) _ _
  refine forL_inv (Iv ns) (fun ρ μ hI => ?_) (fun d hd ρ μ K hI hK => ?_) ?_
  · obtain ⟨s1, s2, s3, s4, s5, s6, s7, s8, s9, s10, s11, s12, s13, s14, s15, s16, s17, s18, s19, s20, s21, s22, s23, h19, h20, h21, h22, h23, rfl⟩ := hI
    walk_at "gn"
    exact h _
  · obtain ⟨i, hi, rfl⟩ := mem_range hd
    obtain ⟨s1, s2, s3, s4, s5, s6, s7, s8, s9, s10, s11, s12, s13, s14, s15, s16, s17, s18, s19, s20, s21, s22, s23, h19, h20, h21, h22, h23, rfl⟩ := hI
    have c19 : (match some s19 with | some (Sl.own _ _) => False | _ => True) := by cases s19 <;> first | exact True.intro | (cases h19; done)
    have c20 : (match some s20 with | some (Sl.own _ _) => False | _ => True) := by cases s20 <;> first | exact True.intro | (cases h20; done)
    have c21 : (match some s21 with | some (Sl.own _ _) => False | _ => True) := by cases s21 <;> first | exact True.intro | (cases h21; done)
    have c22 : (match some s22 with | some (Sl.own _ _) => False | _ => True) := by cases s22 <;> first | exact True.intro | (cases h22; done)
    have c23 : (match some s23 with | some (Sl.own _ _) => False | _ => True) := by cases s23 <;> first | exact True.intro | (cases h23; done)
    walk_at "gn"
    refine hand_ev hl (by omega) (by omega) fun p q ok => ?_
    walk_at "gn"
    refine lnet_ev ok fun ps tr p q ν ok h3 h7 hb ht hok => ?_
    walk_at "gn"
    refine lnetN_ev ok fun qs tq p q ν ok q3 q7 qb qt qok => ?_
    walk_at "gn"
    refine lc_filter (α := T3i) (f := triD) (l := tq) (fun t => decide (t.1 < ps.length ∧ t.2.1 < ps.length ∧ t.2.2 < ps.length)) triD (fun t htq ds acc hacc hK1 hK2 => ?_) (by omega) ?_
    · rw [show triD t = .tup [.int (t.1 : Nat), .int (t.2.1 : Nat), .int (t.2.2 : Nat)] from rfl] at *
      walk_at "go"
      refine ⟨[((t.1 : Nat) : Int), ((t.2.1 : Nat) : Int), ((t.2.2 : Nat) : Int)], rfl, Nat.succ_pos _, fun mx hm hmax => ?_⟩
      have m1 := hmax t.1 (by simp)
      have m2 := hmax t.2.1 (by simp)
      have m3 := hmax t.2.2 (by simp)
      simp only [List.mem_cons, List.not_mem_nil, or_false] at hm
      walk_at "go"
      rw [List.length_map]
      by_cases c : mx < (ps.length : Nat)
      · rw [decide_eq_true c]
        walk_at "go"
        exact hK1 (decide_eq_true ⟨by omega, by omega, by omega⟩)
      · rw [decide_eq_false c]
        walk_at "go"
        exact hK2 (decide_eq_false fun z => c (by rcases hm with rfl | rfl | rfl <;> omega))
    obtain ⟨sd2, hs2⟩ : ∃ sd2, sd2 = tq.filter fun t => decide (t.1 < ps.length ∧ t.2.1 < ps.length ∧ t.2.2 < ps.length) := ⟨_, rfl⟩
    rw [← hs2]
    have ok2 : ∀ t ∈ sd2, TrOk3 ps.length t := fun t ht => by
      rw [hs2] at ht
      obtain ⟨h1, h2⟩ := List.mem_filter.mp ht
      exact ⟨of_decide_eq_true h2, (qok t h1).2⟩
    have l2 : sd2.length ≤ 7 := by
      rw [hs2]
      exact Nat.le_trans (List.length_filter_le _ _) (by omega)
    clear hs2
    walk_at "gn"
    refine told_ev ok fun n ah p q ok n0 n4 => ?_
    walk_at "gn"
    have n4' := n4
    unfold K47.s4 at n4'
    refine half_init (w := n) (ah := ah) (d := pd n) (.inl rfl) n0 (by unfold Bd; omega) (by unfold Bd; omega) ?_
    walk_at "gn"
    rw [show D.obj "Half" ["own_way", "own_ahead"] [pd (SA.lw n), .bl ah] = rlD (.half (SA.lw n) ah) from rfl]
    have hwl : SA.lw n ≠ SA.O ∧ BP (SA.lw n) := by
      have lb := lw_s n4
      exact ⟨SA.lw_nz n0, by unfold BP B6; omega⟩
    generalize SA.lw n = w at *
    have ok12 : ∀ t ∈ tr ++ sd2, TrOk3 ps.length t := fun t ht => (List.mem_append.mp ht).elim (hok t) (ok2 t)
    refine net_init (f := pd) (ps := ps) (tr := tr) isL_l isL_l isP_pd (by omega) (by omega) hok ?_
    walk_at "gn"
    rw [show D.obj "Net" ["pairs", "own_triples"] [D.lst (ps.map pd), D.lst (tr.map triD)] = netD ps tr from rfl]
    refine net_init (f := pd) (ps := ps) (tr := sd2) isL_l isL_l isP_pd (by omega) (by omega) ok2 ?_
    walk_at "gn"
    rw [show D.obj "Net" ["pairs", "own_triples"] [D.lst (ps.map pd), D.lst (sd2.map triD)] = netD ps sd2 from rfl]
    refine ⟨by rw [List.length_map, List.length_map, sizeLine_eq]; omega, ?_⟩
    rw [← List.map_append]
    refine net_init (f := pd) (ps := ps) (tr := tr ++ sd2) isL_l isL_l isP_pd (by omega) (by rw [List.length_append]; omega) ok12 ?_
    walk_at "gn"
    rw [show D.obj "Net" ["pairs", "own_triples"] [D.lst (ps.map pd), D.lst ((tr ++ sd2).map triD)] = netD ps (tr ++ sd2) from rfl]
    refine ⟨⟨c20, c21, c22⟩, ?_⟩
    refine lc_mp (α := T3i) (f := triD) (l := tr) (fun t => triD (ovr t)) (fun t htr ds acc hacc hK2 => ?_) (by omega) ?_
    · rw [show triD t = .tup [.int (t.1 : Nat), .int (t.2.1 : Nat), .int (t.2.2 : Nat)] from rfl]
      walk_at "gn"
      exact hK2
    walk_at "gn"
    rw [show (tr.map fun t => triD (ovr t)) = (tr.map ovr).map triD from by rw [List.map_map]; rfl]
    have oko : ∀ t ∈ tr.map ovr, TrOk3 ps.length t := fun t ht => by
      obtain ⟨u, hu, rfl⟩ := List.mem_map.mp ht
      have := hok u hu
      exact ⟨⟨this.1.1, this.1.2.2, this.1.2.1⟩, Ne.symm this.2.2.2, Ne.symm this.2.2.1, Ne.symm this.2.1⟩
    have okr : ∀ t ∈ (tr.map rot).reverse, TrOk3 ps.length t := fun t ht => by
      obtain ⟨u, hu, rfl⟩ := List.mem_map.mp (List.mem_reverse.mp ht)
      have := hok u hu
      exact ⟨⟨this.1.2.1, this.1.2.2, this.1.1⟩, this.2.2.1, this.2.2.2, this.2.1⟩
    refine net_init (f := pd) (ps := ps) (tr := tr.map ovr) isL_l isL_l isP_pd (by omega) (by rw [List.length_map]; omega) oko ?_
    walk_at "gn"
    rw [show D.obj "Net" ["pairs", "own_triples"] [D.lst (ps.map pd), D.lst ((tr.map ovr).map triD)] = netD ps (tr.map ovr) from rfl]
    refine ⟨⟨c20, c21, c22⟩, ?_⟩
    refine lc_mp (α := T3i) (f := triD) (l := tr) (fun t => triD (rot t)) (fun t htr ds acc hacc hK2 => ?_) (by omega) ?_
    · rw [show triD t = .tup [.int (t.1 : Nat), .int (t.2.1 : Nat), .int (t.2.2 : Nat)] from rfl]
      walk_at "gn"
      exact hK2
    walk_at "gn"
    rw [show (tr.map fun t => triD (rot t)).reverse = (tr.map rot).reverse.map triD from by rw [← List.map_reverse, ← List.map_reverse, List.map_map]; rfl]
    refine net_init (f := pd) (ps := ps) (tr := (tr.map rot).reverse) isL_l isL_l isP_pd (by omega) (by rw [List.length_reverse, List.length_map]; omega) okr ?_
    walk_at "gn"
    rw [show D.obj "Net" ["pairs", "own_triples"] [D.lst (ps.map pd), D.lst ((tr.map rot).reverse.map triD)] = netD ps (tr.map rot).reverse from rfl]
    rw [show atI (ps.map pd) 0 = some (pd (atP ps 0)) from atP_at (i := 0) (by omega)]
    walk_at "gn"
    refine ⟨by rw [List.length_map, sizeLine_eq]; omega, by rw [List.length_map, sizeLine_eq]; omega, ?_⟩
    rw [List.length_map]
    rw [show ps.map pd ++ [pd (atP ps 0)] = (ps ++ [atP ps 0]).map pd from by rw [List.map_append]; rfl, show tr.map triD ++ [D.tup [D.int 0, D.int 1, D.int (ps.length : Nat)], D.tup [D.int (ps.length : Nat), D.int 1, D.int 0], D.tup [D.int 1, D.int 0, D.int (ps.length : Nat)]] = (tr ++ flt ps.length).map triD from by rw [List.map_append]; rfl]
    have lp8 : (ps ++ [atP ps 0]).length = ps.length + 1 := by rw [List.length_append]; rfl
    have okf : ∀ t ∈ tr ++ flt ps.length, TrOk3 (ps ++ [atP ps 0]).length t := fun t ht => by
      rw [lp8]
      rcases List.mem_append.mp ht with ht | ht
      · have := hok t ht
        exact ⟨⟨by have := this.1; omega, by have := this.1; omega, by have := this.1; omega⟩, this.2⟩
      · unfold flt at ht
        simp only [List.mem_cons, List.not_mem_nil, or_false] at ht
        rcases ht with rfl | rfl | rfl
        · exact ⟨⟨by simp only; omega, by simp only; omega, by simp only; omega⟩, by simp only; omega, by simp only; omega, by simp only; omega⟩
        · exact ⟨⟨by simp only; omega, by simp only; omega, by simp only; omega⟩, by simp only; omega, by simp only; omega, by simp only; omega⟩
        · exact ⟨⟨by simp only; omega, by simp only; omega, by simp only; omega⟩, by simp only; omega, by simp only; omega, by simp only; omega⟩
    have lf : (tr ++ flt ps.length).length ≤ 100 := by rw [List.length_append]; unfold flt; simp only [List.length_cons, List.length_nil]; omega
    refine net_init (f := pd) (ps := ps ++ [atP ps 0]) (tr := tr ++ flt ps.length) isL_l isL_l isP_pd (by omega) lf okf ?_
    walk_at "gn"
    rw [show D.obj "Net" ["pairs", "own_triples"] [D.lst ((ps ++ [atP ps 0]).map pd), D.lst ((tr ++ flt ps.length).map triD)] = netD (ps ++ [atP ps 0]) (tr ++ flt ps.length) from rfl]
    have bps : ∀ z ∈ ps, BP z := fun z hz => by have := hb z hz; unfold BP B6; omega
    have bpf : ∀ z ∈ ps ++ [atP ps 0], BP z := fun z hz => by
      rcases List.mem_append.mp hz with hz | hz
      · exact bps z hz
      · rw [List.mem_singleton.mp hz]
        exact atP_bp bps (by omega)
    have h8 : ∀ t ∈ tr, TrOk3 8 t := fun t ht => ⟨⟨by have := (hok t ht).1; omega, by have := (hok t ht).1; omega, by have := (hok t ht).1; omega⟩, (hok t ht).2⟩
    have h82 : ∀ t ∈ sd2, TrOk3 8 t := fun t ht => ⟨⟨by have := (ok2 t ht).1; omega, by have := (ok2 t ht).1; omega, by have := (ok2 t ht).1; omega⟩, (ok2 t ht).2⟩
    have h812 : ∀ t ∈ tr ++ sd2, TrOk3 8 t := fun t ht => (List.mem_append.mp ht).elim (h8 t) (h82 t)
    have h8o : ∀ t ∈ tr.map ovr, TrOk3 8 t := fun t ht => ⟨⟨by have := (oko t ht).1; omega, by have := (oko t ht).1; omega, by have := (oko t ht).1; omega⟩, (oko t ht).2⟩
    have l12 : (tr ++ sd2).length ≤ 14 := by rw [List.length_append]; omega
    have n1 : NetOk ps tr := ⟨by omega, by omega, bps, fun t h => (hok t h).1⟩
    have n2 : NetOk ps sd2 := ⟨by omega, by omega, bps, fun t h => (ok2 t h).1⟩
    have n12 : NetOk ps (tr ++ sd2) := ⟨by omega, by omega, bps, fun t h => (ok12 t h).1⟩
    have no : NetOk ps (tr.map ovr) := ⟨by omega, by rw [List.length_map]; omega, bps, fun t h => (oko t h).1⟩
    have nr : NetOk ps (tr.map rot).reverse := ⟨by omega, by rw [List.length_reverse, List.length_map]; omega, bps, fun t h => (okr t h).1⟩
    have nf : NetOk (ps ++ [atP ps 0]) (tr ++ flt ps.length) := ⟨by omega, lf, bpf, fun t h => (okf t h).1⟩
    refine forL_inv (fun ρ ξ => ∃ (p q : Int), PoolOk p q ∧ ξ = pc μ (.int p) (.int q) ν ∧ ∃ s14 s16 s17 s18 : Sl, ρ = [.v (.frl (ns.map D.int)), .v (.int (0 + (i : Nat))), .v (.loc μ.length), .v (.lst (ps.map pd)), .v (.lst (tr.map triD)), .v (.lst (sd2.map triD)), .v (.tup [.str "half", pd n, .bl ah]), .v (rlD (.half w ah)), .v (netD ps tr), .v (netD ps sd2), .v (netD ps (tr ++ sd2)), .v (netD ps (tr.map ovr)), .v (netD ps (tr.map rot).reverse), .v (netD (ps ++ [atP ps 0]) (tr ++ flt ps.length)), s14, s15, s16, s17, s18, s19, s20, s21, s22, s23]) (fun ρ ξ hI => ?_) (fun d hd ρ ξ K1 hI hK1 => ?_) ⟨_, _, ok, rfl, _, _, _, _, rfl⟩
    · clear ok
      obtain ⟨p, q, ok, rfl, s14, s16, s17, s18, rfl⟩ := hI
      walk_at "gn"
      refine ⟨rfl, rfl, rim2_ev isN_o (by omega) h8 ?_⟩
      rw [show SA.canon 8 8 (SA.cw (tr.flatMap SA.triW)) = RL tr from rfl]
      walk_at "gn"
      refine ⟨rfl, rfl, rim2_ev isN_o (by omega) h82 ?_⟩
      rw [show SA.canon 8 8 (SA.cw (sd2.flatMap SA.triW)) = RL sd2 from rfl]
      have len1 := SA.rimL_len tr
      have lenL1 := (RL_perm h8).length_eq
      have len2 := SA.rimL_len sd2
      have lenL2 := (RL_perm h82).length_eq
      have len12 := SA.rimL_len (tr ++ sd2)
      have lenL12 := (RL_perm h812).length_eq
      walk_at "gn"
      refine ⟨by rw [List.length_map, List.length_map, sizeLine_eq]; omega, ?_⟩
      rw [← List.map_append]
      refine lleft_ev (by rw [List.length_append]; omega) ?_
      walk_at "gn"
      have pl := lft_perm h8 h82
      have lpl := pl.length_eq
      have m12 := RL_lt h812 ok12
      have m1 := RL_lt h8 hok
      have mo := RL_lt h8o oko
      have po := ovr_perm h8
      have leno := SA.rimL_len (tr.map ovr)
      have lenLo := (RL_perm h8o).length_eq
      rw [List.length_map] at leno
      refine ⟨⟨c20, c21⟩, ?_⟩
      refine lc_mp (α := Nat × Nat) (f := wayI) (l := lft (RL tr ++ RL sd2)) (fun x => .int (nm ps.length x)) (fun x hx ds acc hacc hK2 => ?_) (by omega) ?_
      · have bx := m12 x (pl.mem_iff.mp hx)
        unfold wayI
        walk_at "gn"
        rw [List.length_map]
        exact hK2
      walk_at "gn"
      rw [show ((lft (RL tr ++ RL sd2)).map fun x => D.int (nm ps.length x)) = ((lft (RL tr ++ RL sd2)).map (nm ps.length)).map D.int from by rw [List.map_map]; rfl]
      refine ⟨_, intsD_map _, by rw [List.length_map]; omega, fun S hperm hsort => ?_⟩
      have eS : S = (RL (tr ++ sd2)).map (nm ps.length) := uniq_le (hperm.trans (pl.map _)) hsort (RL_sorted fun x hx => (m12 x hx).2)
      rw [eS]
      walk_at "gn"
      refine ⟨rfl, rfl, rim2_ev isN_o (by omega) h812 ?_⟩
      rw [show SA.canon 8 8 (SA.cw ((tr ++ sd2).flatMap SA.triW)) = RL (tr ++ sd2) from rfl]
      walk_at "gn"
      refine ⟨⟨c20, c21⟩, ?_⟩
      refine lc_mp (α := Nat × Nat) (f := wayI) (l := RL (tr ++ sd2)) (fun x => .int (nm ps.length x)) (fun x hx ds acc hacc hK2 => ?_) (by omega) ?_
      · have bx := m12 x hx
        unfold wayI
        walk_at "gn"
        rw [List.length_map]
        exact hK2
      walk_at "gn"
      rw [show ((RL (tr ++ sd2)).map fun x => D.int (nm ps.length x)) = ((RL (tr ++ sd2)).map (nm ps.length)).map D.int from by rw [List.map_map]; rfl]
      refine eqZ_self ?_
      walk_at "gn"
      refine ⟨rfl, rfl, rim2_ev isN_o (by omega) h8 ?_⟩
      rw [show SA.canon 8 8 (SA.cw (tr.flatMap SA.triW)) = RL tr from rfl]
      walk_at "gn"
      refine ⟨⟨c20, c21⟩, ?_⟩
      refine lc_mp (α := Nat × Nat) (f := wayI) (l := RL tr) (fun x => .int (nm ps.length (x.2, x.1))) (fun x hx ds acc hacc hK2 => ?_) (by omega) ?_
      · have bx := m1 x hx
        unfold wayI
        walk_at "gn"
        rw [List.length_map]
        exact hK2
      walk_at "gn"
      rw [show ((RL tr).map fun x => D.int (nm ps.length (x.2, x.1))) = (((RL tr).map fun x => (x.2, x.1)).map (nm ps.length)).map D.int from by rw [List.map_map, List.map_map]; rfl]
      refine ⟨_, intsD_map _, by rw [List.length_map, List.length_map]; omega, fun S2 hperm2 hsort2 => ?_⟩
      have eS2 : S2 = (RL (tr.map ovr)).map (nm ps.length) := uniq_le (hperm2.trans (po.map _)) hsort2 (RL_sorted fun x hx => (mo x hx).2)
      rw [eS2]
      walk_at "gn"
      refine ⟨rfl, rfl, rim2_ev isN_o (by rw [List.length_map]; omega) h8o ?_⟩
      rw [show SA.canon 8 8 (SA.cw ((tr.map ovr).flatMap SA.triW)) = RL (tr.map ovr) from rfl]
      walk_at "gn"
      refine ⟨⟨c20, c21⟩, ?_⟩
      refine lc_mp (α := Nat × Nat) (f := wayI) (l := RL (tr.map ovr)) (fun x => .int (nm ps.length x)) (fun x hx ds acc hacc hK2 => ?_) (by omega) ?_
      · have bx := mo x hx
        unfold wayI
        walk_at "gn"
        rw [List.length_map]
        exact hK2
      walk_at "gn"
      rw [show ((RL (tr.map ovr)).map fun x => D.int (nm ps.length x)) = ((RL (tr.map ovr)).map (nm ps.length)).map D.int from by rw [List.map_map]; rfl]
      refine eqZ_self ?_
      walk_at "gn"
      exact hK _ _ ⟨_, _, _, _, _, _, _, _, _, _, _, _, _, _, _, _, _, _, _, _, _, _, _, h19, h20, h21, h22, h23, rfl⟩
    · clear ok
      obtain ⟨p, q, ok, rfl, s14, s16, s17, s18, rfl⟩ := hI
      obtain ⟨ti, hti, rfl⟩ := mem_range hd
      walk_at "gn"
      refine lpairN_ev (n := 6) ok (by decide) fun x y p q ok x0 x1 y0 y1 => ?_
      walk_at "gn"
      obtain ⟨z, hz⟩ : ∃ z : SA.P, z = (x, y) := ⟨_, rfl⟩
      rw [show pr x y = pd z from by rw [hz]]
      have bz : BP z := by rw [hz]; unfold BP B6; simp only; omega
      clear hz
      have cb := cnt_app (w := w) (p := z) (ah := ah) (ps := ps) (t1 := tr) (t2 := sd2)
      have co := cnt_ovr (w := w) (p := z) (ah := ah) (ps := ps) (tr := tr)
      have cr := cnt_rot (w := w) (p := z) (ah := ah) (ps := ps) (tr := tr)
      have cf := cnt_flat (w := w) (p := z) (ah := ah) (ps := ps) (tr := tr) (by omega) n1.2.2.2
      have r1 := rt_eq (p := z) (ah := ah) (ps := ps) (tr := tr) hwl.1
      have r2 := rt_eq (p := z) (ah := ah) (ps := ps) (tr := sd2) hwl.1
      have ro := rt_eq (p := z) (ah := ah) (ps := ps) (tr := tr.map ovr) hwl.1
      rw [co.1, co.2] at ro
      refine cntd_ev (p := z) (.inl rfl) isN_o hwl bz n1 ?_
      walk_at "gn"
      refine point_init ?_
      walk_at "gn"
      refine cntd_ev (p := z) (.inr rfl) isN_o hwl bz n2 ?_
      walk_at "gn"
      refine cntd_ev (p := z) (.inl rfl) isN_o hwl bz n12 ?_
      rw [cb.1, cb.2]
      walk_at "gn"
      rw [decide_eq_true (by omega), decide_eq_true (by omega)]
      walk_at "gn"
      refine cntd_ev (p := z) (.inl rfl) isN_o hwl bz no ?_
      rw [co.1, co.2]
      walk_at "gn"
      try rw [decide_eq_true rfl, decide_eq_true rfl]
      walk_at "gn"
      refine cntd_ev (p := z) (.inl rfl) isN_o hwl bz nr ?_
      rw [cr.1, cr.2]
      walk_at "gn"
      try rw [decide_eq_true rfl, decide_eq_true rfl]
      walk_at "gn"
      refine cntd_ev (p := z) (.inl rfl) isN_o hwl bz nf ?_
      rw [cf.1, cf.2]
      walk_at "gn"
      try rw [decide_eq_true rfl, decide_eq_true rfl]
      walk_at "gn"
      refine rturns_ev (p := z) isN_o (.inl rfl) hwl bz (by omega) (by rw [List.length_map]; omega) bps oko ?_
      walk_at "gn"
      refine rturns_ev (p := z) isN_o (.inl rfl) hwl bz (by omega) (by omega) bps hok ?_
      walk_at "gn"
      rw [decide_eq_true (by omega)]
      walk_at "gn"
      refine signed_ev (p := z) (.inl rfl) isN_o hwl bz n12 ?_
      rw [cb.1, cb.2]
      walk_at "gn"
      refine signed_ev (p := z) (.inl rfl) isN_o hwl bz n1 ?_
      walk_at "gn"
      refine rturns_ev (p := z) isN_o (.inl rfl) hwl bz (by omega) (by omega) bps ok2 ?_
      walk_at "gn"
      rw [decide_eq_true (by omega)]
      walk_at "gn"
      exact hK1 _ _ ⟨_, _, ok, rfl, _, _, _, _, rfl⟩
  · exact ⟨_, _, _, _, _, _, _, _, _, _, _, _, _, _, _, _, _, _, _, _, _, _, _, rfl, rfl, rfl, rfl, rfl, rfl⟩
end
end K47

set_option Elab.async false
set_option linter.all false
set_option maxRecDepth 100000
set_option maxHeartbeats 0
namespace K47
open PySem PySem.Spec PyProof.Rows L2 DL
theorem law_at {P : Program} {w : World} {K : PySem.W.Frag} {mg : Str → Option Value} {h : Heap} {f : Addr} (X : K.In h) (G : h.Ns mainGlobals mg) (hm : mg ("law" : Str) = some (.ref f)) (c : SaysY fa fn exB K) :
    ∃ fd : FuncData, (∀ (s : Shared) (v : Value), BindsTo s fd ⟨[v], []⟩ [("script", v)]) ∧ ∀ base : Heap, K.In base → base.Ns mainGlobals mg → FnG P w K mg base 7 f fd ["script"] (toSp ⟨K, mg, none⟩ sp_law) := by
  have A : Hd K mg := ⟨c.d, c.more, h, X, G⟩
  obtain ⟨fd, F⟩ := A.c.def_ 37
  have e := hm.symm.trans A.g_law
  cases e
  have b := FunD.bindsA (ps := ["script"]) F fun _ _ _ _ _ _ us hl => match us, hl with | [_], _ => rfl
  exact ⟨fd, fun s v => b s [v] rfl, fun base _ _ => def_ok F sc_law (fun ds μ Q Xd h => h.1) (fun cdv A2 fr s H E hr hgd => d_law A hr hgd) fun ds μ Q Xd h => h.2⟩
end K47
open PySem PySem.W PySem.Calls PyProof.Rows
theorem PySem.Challenge.cw_filledonce_k47_whole_sums_of_nets_holds : PySem.Challenge.rw_filledonce_k47_whole_sums_of_nets.Holds := by
  w_on; o_law
  refine HandSHeadRun.head_any (r := OpenLaw.row PySem.Challenge.rw_filledonce_k47_whole_sums_of_nets) (q := view (OpenLaw.row PySem.Challenge.rw_filledonce_k47_whole_sums_of_nets).prog [59]) (H := K47.hk) (ob := K47.ob) (M := 6000) (loose := K47.loose) (d := HandSHeadRun.topDef (OpenLaw.row PySem.Challenge.rw_filledonce_k47_whole_sums_of_nets).prog 59) (kwd := []) K47.ob_eq
    (by kernel_rfl) (fun s => by kernel_rfl) K47.run (by kernel_rfl) (by kernel_rfl) (by kernel_rfl) (by rfl) (by first | assumption | decide +kernel) (by decide +kernel) ⟨rfl, rfl, rfl, rfl, rfl, by decide +kernel⟩ ?hw ?hc
  case hw => w_witness2
  case hc =>
    refine DL.walk_ofD (l := PySem.Challenge.rw_filledonce_k47_whole_sums_of_nets) (n := 63) (k := 7) (x := "script") (sp := K47.sp_law) rfl (by decide) (by kernel_rfl) ⟨rfl, by decide, by decide⟩ ?F fun ns hl => K47.law_ev hl fun _ => rfl
    intro w mg fa h Y G hmg0
    obtain ⟨K, KX, c⟩ := Y
    have hmg : mg ("law" : PySem.Str) = some (.ref fa) := by
      have e : (HandSHeadRun.topDef (OpenLaw.row PySem.Challenge.rw_filledonce_k47_whole_sums_of_nets).prog 59).name = ("law" : PySem.Str) := by kernel_rfl
      rw [← e]
      exact hmg0
    obtain ⟨fd, hb, hF⟩ := K47.law_at (P := (PySem.Challenge.rw_filledonce_k47_whole_sums_of_nets).prog) (w := w) KX G hmg c
    exact ⟨K, fd, KX, hb, hF⟩

