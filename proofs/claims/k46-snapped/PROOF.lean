import PyProof.Rows.All
import PyProof.Rows.TupTab
import Wide.All
import OpenK.AllK
import Wide.FinOn
import HandS.ForMost
import HandS.Exc
import HandS.ExcInit
import HandS.ExcField
import HandS.ExcIs
import HandS.TryOnly
import HandS.WordsExc
import HandS.IsInst
import HandS.Wide
import HandS.WideMore
import HandS.Walk
import HandS.Zip
import HandS.Style
import HandS.RaiseMore
import HandS.Deep
import HandS.Defaults
import HandS.HeadHook2
import KE.KOpsOwn
import HandS.NoneIn
import HandS.Property
import HandS.ClsMeth
import HandS.SlotsOwn
import HandS.Ends
import HandS.HeadEnd
import HandS.HeadHook4
import HandS.Head2
import KE.KExcIs
import PyProof.CallFns
import PyProof.ReprRoads
import HandS.HeadNt
import HandS.Spec
import HandS.Head0
import HandS.Head1
import PyProof.InstNe
import HandS.OwnEq
import HandS.HotCalls
import PyProof.NeKinds
import HandS.Star
import HandS.SetFor
import KE.DataFind
import OpenK.KMake
import HandS.SortInts
import PySem.Challenge.RW_filledonce_k46_snapped_and_unlike
import HandS.GenList
import HandS.MakeKwOnly
import HandS.Iter
import HandS.TupLe
import HandS.TupAny
import HandS.DictComp
import HandS.Steps
import HandS.WordsDict
import HandS.Small
import PyProof.EqKinds
import PyProof.FactsAll.NoneType
import HandS.Text
import HandS.FStr
import HandS.Codes
import PyProof.StrOps2
import HandS.Flow
import KE.KStateDown
import Lean
set_option Elab.async false
set_option linter.all false
set_option maxRecDepth 100000
set_option maxHeartbeats 4000000
set_option autoImplicit false
/-! The value layer: data in place of the heap. -/
namespace DL
open PySem PySem.Spec PyProof.Rows L2

/-- a datum: what a value is worth -/
inductive D where
  | non | bl (b : Bool) | int (i : Int) | str (s : Str)
  | tup (ds : List D) | lst (ds : List D)
  /-- a list that is known to the object (the script) -/
  | frl (ds : List D)
  /-- an instance that is not changed any more: its class, its attributes' names and values -/
  | obj (c : Str) (ks : List Str) (ds : List D)
  /-- a changeable thing, by its number -/
  | loc (n : Nat)
  | ty (n : String) | cls (c : Str)
  /-- any tracked thing -/
  | opq (o : HO)
/-- a changeable thing -/
inductive Cell where
  | lst (ds : List D)
  | ins (c : Str) (ks : List Str) (ds : List D)
  /-- a pool of draws -/
  | pool
  /-- a dict from ints to ints -/
  | dct (kvs : List (Int × Int))
  /-- a dict of texts: its keys in their order, their values -/
  | dic (ks : List Str) (ds : List D)
/-- a slot: empty, a datum, or a thing of the def's own that is being filled -/
inductive Sl where
  | no | v (d : D) | own (a : Addr) (c : Cell)
  /-- the exception that a suite holds -/
  | exn (c : Str) (ks : List Str) (ds : List D)
structure Gx where
  K : PySem.W.Frag
  mg : Str → Option Value
  ex : Option (Addr × Addr × Addr)
def PoolOk (p q : Int) : Prop := 0 ≤ p ∧ 0 ≤ q ∧ q < 2147483647

mutual
def Rep (G : Gx) (m : List Addr) (E : Hp) : D → V → Prop
  | .non, v => v = .non
  | .bl b, v => v = .bl b
  | .int i, v => v = .int i
  | .str s, v => v = .str s
  | .ty n, v => v = .ty n
  | .cls c, v => ∃ C, G.mg c = some (.ref C) ∧ v = .ref C
  | .tup ds, v => ∃ a vs, v = .ref a ∧ SqT G.K E a vs ∧ Reps G m E ds vs
  | .lst ds, v => ∃ a vs, v = .ref a ∧ E a = some (.lst vs) ∧ Reps G m E ds vs
  | .frl ds, v => ∃ a vs, v = .ref a ∧ SqL G.K E a vs ∧ Reps G m E ds vs
  | .obj c ks ds, v => ∃ a C dx vs, v = .ref a ∧ G.mg c = some (.ref C) ∧ E a = some (.ins C dx (ks.zip vs)) ∧ ks.length = ds.length ∧ Reps G m E ds vs
  | .loc n, v => ∃ a, v = .ref a ∧ m[n]? = some a
  | .opq o, v => ∃ a, v = .ref a ∧ E a = some o
def Reps (G : Gx) (m : List Addr) (E : Hp) : List D → List V → Prop
  | [], vs => vs = []
  | d :: ds, vs => ∃ v r, vs = v :: r ∧ Rep G m E d v ∧ Reps G m E ds r
end

theorem SqT.same {K : PySem.W.Frag} {H H' : Hp} {a : Addr} {xs : List V} (e : Same H H') (h : SqT K H a xs) : SqT K H' a xs := by
  rcases h with (h | ⟨o, h⟩) | h
  · exact .inl (.inl (e _ _ h))
  · exact .inl (.inr ⟨o, e _ _ h⟩)
  · exact .inr h
theorem pre_get {m m' : List Addr} {n : Nat} {a : Addr} (hp : m <+: m') (h : m[n]? = some a) : m'[n]? = some a := by
  obtain ⟨e, rfl⟩ := hp
  obtain ⟨hl, _⟩ := List.getElem?_eq_some_iff.mp h
  rw [List.getElem?_append_left hl]
  exact h
mutual
theorem Rep.mono {G : Gx} {m m' : List Addr} {E E' : Hp} (hp : m <+: m') (he : Same E E') : ∀ (d : D) (v : V), Rep G m E d v → Rep G m' E' d v
  | .non, v, r => by rw [Rep] at r ⊢; exact r
  | .bl b, v, r => by rw [Rep] at r ⊢; exact r
  | .int i, v, r => by rw [Rep] at r ⊢; exact r
  | .str s, v, r => by rw [Rep] at r ⊢; exact r
  | .ty n, v, r => by rw [Rep] at r ⊢; exact r
  | .cls c, v, r => by rw [Rep] at r ⊢; exact r
  | .tup ds, v, r => by
    rw [Rep] at r ⊢
    obtain ⟨a, vs, e, s, q⟩ := r
    exact ⟨a, vs, e, SqT.same he s, Reps.mono hp he _ _ q⟩
  | .lst ds, v, r => by
    rw [Rep] at r ⊢
    obtain ⟨a, vs, e, s, q⟩ := r
    exact ⟨a, vs, e, he _ _ s, Reps.mono hp he _ _ q⟩
  | .frl ds, v, r => by
    rw [Rep] at r ⊢
    obtain ⟨a, vs, e, s, q⟩ := r
    exact ⟨a, vs, e, Same.seq he s, Reps.mono hp he _ _ q⟩
  | .obj c ks ds, v, r => by
    rw [Rep] at r ⊢
    obtain ⟨a, C, dx, vs, e, g, s, l, q⟩ := r
    exact ⟨a, C, dx, vs, e, g, he _ _ s, l, Reps.mono hp he _ _ q⟩
  | .loc n, v, r => by
    rw [Rep] at r ⊢
    obtain ⟨a, e, s⟩ := r
    exact ⟨a, e, pre_get hp s⟩
  | .opq o, v, r => by
    rw [Rep] at r ⊢
    obtain ⟨a, e, s⟩ := r
    exact ⟨a, e, he _ _ s⟩
theorem Reps.mono {G : Gx} {m m' : List Addr} {E E' : Hp} (hp : m <+: m') (he : Same E E') : ∀ (ds : List D) (vs : List V), Reps G m E ds vs → Reps G m' E' ds vs
  | [], vs, r => by rw [Reps] at r ⊢; exact r
  | d :: ds, vs, r => by
    rw [Reps] at r ⊢
    obtain ⟨v, t, e, s, q⟩ := r
    exact ⟨v, t, e, Rep.mono hp he _ _ s, Reps.mono hp he _ _ q⟩
end
theorem Reps.len {G : Gx} {m : List Addr} {E : Hp} : ∀ {ds : List D} {vs : List V}, Reps G m E ds vs → ds.length = vs.length
  | [], vs, r => by rw [Reps] at r; rw [r]; rfl
  | d :: ds, vs, r => by
    rw [Reps] at r
    obtain ⟨v, t, e, _, q⟩ := r
    rw [e, List.length_cons, List.length_cons, Reps.len q]
theorem Reps.nil {G : Gx} {m : List Addr} {E : Hp} : Reps G m E [] [] := by rw [Reps]
theorem Reps.cons {G : Gx} {m : List Addr} {E : Hp} {d : D} {ds : List D} {v : V} {vs : List V} (h : Rep G m E d v) (t : Reps G m E ds vs) : Reps G m E (d :: ds) (v :: vs) := by
  rw [Reps]; exact ⟨v, vs, rfl, h, t⟩
theorem Reps.uncons {G : Gx} {m : List Addr} {E : Hp} {d : D} {ds : List D} {vs : List V} (h : Reps G m E (d :: ds) vs) : ∃ v r, vs = v :: r ∧ Rep G m E d v ∧ Reps G m E ds r := by
  rw [Reps] at h; exact h
theorem Reps.get {G : Gx} {m : List Addr} {E : Hp} : ∀ {ds : List D} {vs : List V} {i : Nat} {d : D}, Reps G m E ds vs → ds[i]? = some d → ∃ v, vs[i]? = some v ∧ Rep G m E d v
  | [], _, _, _, _, h => by simp at h
  | d0 :: ds, vs, 0, d, r, h => by
    obtain ⟨v, t, rfl, q, _⟩ := r.uncons
    simp at h; subst h
    exact ⟨v, rfl, q⟩
  | d0 :: ds, vs, i + 1, d, r, h => by
    obtain ⟨v, t, rfl, _, q⟩ := r.uncons
    obtain ⟨u, e, s⟩ := Reps.get (i := i) (d := d) q (by simpa using h)
    exact ⟨u, by simpa using e, s⟩
theorem Reps.get' {G : Gx} {m : List Addr} {E : Hp} {ds : List D} {vs : List V} {i : Nat} {v : V} (r : Reps G m E ds vs) (h : vs[i]? = some v) : ∃ d, ds[i]? = some d ∧ Rep G m E d v := by
  obtain ⟨hl, _⟩ := List.getElem?_eq_some_iff.mp h
  have hd : i < ds.length := by rw [r.len]; exact hl
  obtain ⟨u, e, s⟩ := r.get (List.getElem?_eq_getElem hd)
  rw [h] at e; cases e
  exact ⟨_, List.getElem?_eq_getElem hd, s⟩
theorem Reps.append {G : Gx} {m : List Addr} {E : Hp} : ∀ {ds es : List D} {vs us : List V}, Reps G m E ds vs → Reps G m E es us → Reps G m E (ds ++ es) (vs ++ us)
  | [], es, vs, us, r, q => by rw [Reps] at r; subst r; exact q
  | d :: ds, es, vs, us, r, q => by
    obtain ⟨v, t, rfl, h, r'⟩ := r.uncons
    exact Reps.cons h (Reps.append r' q)
theorem Reps.take {G : Gx} {m : List Addr} {E : Hp} : ∀ {ds : List D} {vs : List V} (n : Nat), Reps G m E ds vs → Reps G m E (ds.take n) (vs.take n)
  | ds, vs, 0, r => by simp [Reps]
  | [], vs, n + 1, r => by rw [Reps] at r; subst r; simp [Reps]
  | d :: ds, vs, n + 1, r => by
    obtain ⟨v, t, rfl, h, r'⟩ := r.uncons
    exact Reps.cons h (Reps.take n r')
theorem Reps.drop {G : Gx} {m : List Addr} {E : Hp} : ∀ {ds : List D} {vs : List V} (n : Nat), Reps G m E ds vs → Reps G m E (ds.drop n) (vs.drop n)
  | ds, vs, 0, r => r
  | [], vs, n + 1, r => by rw [Reps] at r; subst r; simp [Reps]
  | d :: ds, vs, n + 1, r => by
    obtain ⟨v, t, rfl, h, r'⟩ := r.uncons
    exact Reps.drop n r'
theorem Reps.set {G : Gx} {m : List Addr} {E : Hp} {d : D} {v : V} (h : Rep G m E d v) : ∀ {ds : List D} {vs : List V} (n : Nat), Reps G m E ds vs → Reps G m E (ds.set n d) (vs.set n v)
  | [], vs, n, r => by rw [Reps] at r; subst r; simp [Reps]
  | d0 :: ds, vs, 0, r => by
    obtain ⟨u, t, rfl, _, r'⟩ := r.uncons
    exact Reps.cons h r'
  | d0 :: ds, vs, n + 1, r => by
    obtain ⟨u, t, rfl, q, r'⟩ := r.uncons
    exact Reps.cons q (Reps.set h n r')
theorem Reps.eraseIdx {G : Gx} {m : List Addr} {E : Hp} : ∀ {ds : List D} {vs : List V} (n : Nat), Reps G m E ds vs → Reps G m E (ds.eraseIdx n) (vs.eraseIdx n)
  | [], vs, n, r => by rw [Reps] at r; subst r; simp [Reps]
  | d0 :: ds, vs, 0, r => by
    obtain ⟨u, t, rfl, _, r'⟩ := r.uncons
    exact r'
  | d0 :: ds, vs, n + 1, r => by
    obtain ⟨u, t, rfl, q, r'⟩ := r.uncons
    exact Reps.cons q (Reps.eraseIdx n r')
theorem Reps.reverse {G : Gx} {m : List Addr} {E : Hp} : ∀ {ds : List D} {vs : List V}, Reps G m E ds vs → Reps G m E ds.reverse vs.reverse
  | [], vs, r => by rw [Reps] at r; subst r; exact Reps.nil
  | d0 :: ds, vs, r => by
    obtain ⟨u, t, rfl, q, r'⟩ := r.uncons
    rw [List.reverse_cons, List.reverse_cons]
    exact Reps.append (Reps.reverse r') (Reps.cons q Reps.nil)
theorem Reps.map_of {G : Gx} {m : List Addr} {E : Hp} {α : Type} {f : α → D} {g : α → V} (h : ∀ x, Rep G m E (f x) (g x)) : ∀ l : List α, Reps G m E (l.map f) (l.map g)
  | [] => Reps.nil
  | x :: l => Reps.cons (h x) (Reps.map_of h l)

/-! ### what is seen of the heap: all but the hidden and the changeable -/
noncomputable def vis (W : Addr → Prop) (m : List Addr) (H : Hp) : Hp := fun b => open Classical in if W b ∨ b ∈ m then none else H b
theorem vis_some {W : Addr → Prop} {m : List Addr} {H : Hp} {b : Addr} {o : HO} : vis W m H b = some o ↔ (¬ W b ∧ b ∉ m ∧ H b = some o) := by
  unfold vis
  by_cases h : W b ∨ b ∈ m
  · rw [if_pos h]
    constructor
    · intro z; cases z
    · rintro ⟨h1, h2, _⟩
      exact absurd h (by simp [h1, h2])
  · rw [if_neg h]
    constructor
    · intro z
      exact ⟨fun q => h (.inl q), fun q => h (.inr q), z⟩
    · exact fun z => z.2.2
theorem vis_le {W : Addr → Prop} {m : List Addr} {H : Hp} : Same (vis W m H) H := fun b o h => (vis_some.mp h).2.2
def dkV (kvs : List (Int × Int)) : List (Key × V) := kvs.map fun p => (.inl p.1, .int p.2)
def skV (ks : List Str) (vs : List V) : List (Key × V) := (ks.zip vs).map fun p => (.inr p.1, p.2)
def CellOk (G : Gx) (m : List Addr) (E H : Hp) (c : Cell) (a : Addr) : Prop :=
  match c with
  | .lst ds => ∃ vs, H a = some (.lst vs) ∧ Reps G m E ds vs
  | .ins c ks ds => ∃ C dx vs, G.mg c = some (.ref C) ∧ H a = some (.ins C dx (ks.zip vs)) ∧ ks.length = ds.length ∧ Reps G m E ds vs
  | .pool => ∃ p q, PoolOk p q ∧ H a = some (.lst [.int p, .int q])
  | .dct kvs => H a = some (.dK (dkV kvs))
  | .dic ks ds => ∃ vs, H a = some (.dK (skV ks vs)) ∧ ks.length = ds.length ∧ Reps G m E ds vs
structure MuOk (G : Gx) (W : Addr → Prop) (m : List Addr) (μ : List Cell) (H : Hp) : Prop where
  len : m.length = μ.length
  nd : m.Nodup
  out : ∀ a ∈ m, ¬ W a
  hw : ∀ z, W z → H z ≠ none
  cell : ∀ (n : Nat) (c : Cell) (a : Addr), μ[n]? = some c → m[n]? = some a → CellOk G m (vis W m H) H c a
theorem CellOk.there {G : Gx} {m : List Addr} {E H : Hp} {c : Cell} {a : Addr} (h : CellOk G m E H c a) : H a ≠ none := by
  cases c with
  | lst ds => obtain ⟨_, e, _⟩ := h; rw [e]; intro z; cases z
  | ins c ks ds => obtain ⟨_, _, _, _, e, _⟩ := h; rw [e]; intro z; cases z
  | pool => obtain ⟨_, _, _, e⟩ := h; rw [e]; intro z; cases z
  | dct kvs => intro z; rw [show H a = some (.dK (dkV kvs)) from h] at z; cases z
  | dic ks ds => obtain ⟨_, e, _⟩ := h; rw [e]; intro z; cases z
theorem CellOk.keep {G : Gx} {m m' : List Addr} {E E' H H' : Hp} {c : Cell} {a : Addr} (hp : m <+: m') (he : Same E E') (e : H' a = H a) (h : CellOk G m E H c a) : CellOk G m' E' H' c a := by
  cases c with
  | lst ds =>
    obtain ⟨vs, h1, h2⟩ := h
    exact ⟨vs, e.trans h1, Reps.mono hp he _ _ h2⟩
  | ins c ks ds =>
    obtain ⟨C, dx, vs, h0, h1, hl, h2⟩ := h
    exact ⟨C, dx, vs, h0, e.trans h1, hl, Reps.mono hp he _ _ h2⟩
  | pool =>
    obtain ⟨p, q, h0, h1⟩ := h
    exact ⟨p, q, h0, e.trans h1⟩
  | dct kvs => exact e.trans h
  | dic ks ds =>
    obtain ⟨vs, h1, hl, h2⟩ := h
    exact ⟨vs, e.trans h1, hl, Reps.mono hp he _ _ h2⟩
theorem MuOk.mem {G : Gx} {W : Addr → Prop} {m : List Addr} {μ : List Cell} {H : Hp} (M : MuOk G W m μ H) {a : Addr} (h : a ∈ m) : H a ≠ none := by
  obtain ⟨n, hn, e⟩ := List.mem_iff_getElem.mp h
  have hn' : n < μ.length := by rw [← M.len]; exact hn
  exact (M.cell n μ[n] a (List.getElem?_eq_getElem hn') (by rw [List.getElem?_eq_getElem hn, e])).there
/-- a step of code: what was hidden stays, what was seen stays -/
structure Step (G : Gx) (W : Addr → Prop) (m : List Addr) (H : Hp) (m' : List Addr) (μ' : List Cell) (H' : Hp) : Prop where
  pre : m <+: m'
  hid : ∀ z, W z → H' z = H z
  mu : MuOk G W m' μ' H'
  same : Same (vis W m H) (vis W m' H')
theorem Step.refl {G : Gx} {W : Addr → Prop} {m : List Addr} {μ : List Cell} {H : Hp} (M : MuOk G W m μ H) : Step G W m H m μ H := ⟨List.prefix_refl _, fun _ _ => rfl, M, Same.refl _⟩
theorem Step.trans {G : Gx} {W : Addr → Prop} {m m1 m2 : List Addr} {μ1 μ2 : List Cell} {H H1 H2 : Hp} (a : Step G W m H m1 μ1 H1) (b : Step G W m1 H1 m2 μ2 H2) : Step G W m H m2 μ2 H2 :=
  ⟨a.pre.trans b.pre, fun z h => (b.hid z h).trans (a.hid z h), b.mu, a.same.trans b.same⟩
abbrev Mu := List Cell
abbrev DS := List Sl
/-- behind an expression -/
def VPost (G : Gx) (W : Addr → Prop) (m : List Addr) (H : Hp) (Q : D → Mu → Prop) (v : V) (H' : Hp) : Prop :=
  ∃ m' d μ', Step G W m H m' μ' H' ∧ Rep G m' (vis W m' H') d v ∧ Q d μ'
theorem VPost.now {G : Gx} {W : Addr → Prop} {m : List Addr} {μ : Mu} {H : Hp} {Q : D → Mu → Prop} {d : D} {v : V} (M : MuOk G W m μ H) (r : Rep G m (vis W m H) d v) (q : Q d μ) : VPost G W m H Q v H := ⟨m, d, μ, .refl M, r, q⟩
theorem VPost.from {G : Gx} {W : Addr → Prop} {m m1 : List Addr} {μ1 : Mu} {H H1 H' : Hp} {Q : D → Mu → Prop} {v : V} (s : Step G W m H m1 μ1 H1) (p : VPost G W m1 H1 Q v H') : VPost G W m H Q v H' := by
  obtain ⟨m', d, μ', s', r, q⟩ := p
  exact ⟨m', d, μ', s.trans s', r, q⟩
theorem VPost.imp {G : Gx} {W : Addr → Prop} {m : List Addr} {H H' : Hp} {Q Q' : D → Mu → Prop} {v : V} (p : VPost G W m H Q v H') (h : ∀ d μ, Q d μ → Q' d μ) : VPost G W m H Q' v H' := by
  obtain ⟨m', d, μ', s', r, q⟩ := p
  exact ⟨m', d, μ', s', r, h _ _ q⟩
/-- an exception's data: its class, its attributes -/
abbrev XD := Str → List Str → List D → Mu → Prop
def XPost (G : Gx) (W : Addr → Prop) (m : List Addr) (H : Hp) (Xd : XD) (cls : Value) (d : Option Addr) (H' : Hp) : Prop :=
  ∃ m' c ks es μ' C dd vs, Step G W m H m' μ' H' ∧ cls = .ref C ∧ d = some dd ∧ G.mg c = some (.ref C) ∧ vis W m' H' dd = some (.xd (ks.zip vs)) ∧ ks.length = es.length ∧ Reps G m' (vis W m' H') es vs ∧ Xd c ks es μ'
theorem XPost.from {G : Gx} {W : Addr → Prop} {m m1 : List Addr} {μ1 : Mu} {H H1 H' : Hp} {Xd : XD} {cls : Value} {d : Option Addr} (s : Step G W m H m1 μ1 H1) (p : XPost G W m1 H1 Xd cls d H') : XPost G W m H Xd cls d H' := by
  obtain ⟨m', c, ks, es, μ', C, dd, vs, s', r⟩ := p
  exact ⟨m', c, ks, es, μ', C, dd, vs, s.trans s', r⟩
theorem XPost.imp {G : Gx} {W : Addr → Prop} {m : List Addr} {H H' : Hp} {Xd Xd' : XD} {cls : Value} {d : Option Addr} (p : XPost G W m H Xd cls d H') (h : ∀ c ks es μ, Xd c ks es μ → Xd' c ks es μ) : XPost G W m H Xd' cls d H' := by
  obtain ⟨m', c, ks, es, μ', C, dd, vs, s', e1, e2, e3, e4, e5, e6, q⟩ := p
  exact ⟨m', c, ks, es, μ', C, dd, vs, s', e1, e2, e3, e4, e5, e6, h _ _ _ _ q⟩
/-- a new thing, seen -/
theorem MuOk.fresh {G : Gx} {W : Addr → Prop} {m : List Addr} {μ : Mu} {H : Hp} (M : MuOk G W m μ H) {p : Addr} (np : H p = none) : ¬ W p ∧ p ∉ m :=
  ⟨fun z => M.hw p z np, fun z => M.mem z np⟩
theorem vis_upd {G : Gx} {W : Addr → Prop} {m : List Addr} {μ : Mu} {H : Hp} (M : MuOk G W m μ H) {p : Addr} {o : HO} (np : H p = none) : vis W m (upd H p o) = upd (vis W m H) p o := by
  obtain ⟨h1, h2⟩ := M.fresh np
  funext b
  by_cases hb : b = p
  · subst hb
    rw [upd_same]
    exact vis_some.mpr ⟨h1, h2, upd_same⟩
  · rw [upd_ne hb]
    unfold vis
    rw [upd_ne hb]
theorem same_new {H : Hp} {p : Addr} {o : HO} (np : H p = none) : Same H (upd H p o) := fun b x e => by
  rw [upd_ne (ne_of_none e np)]; exact e
theorem vis_none {W : Addr → Prop} {m : List Addr} {H : Hp} {p : Addr} (np : H p = none) : vis W m H p = none := by
  cases e : vis W m H p with
  | none => rfl
  | some o => rw [(vis_some.mp e).2.2] at np; cases np
theorem MuOk.laid {G : Gx} {W : Addr → Prop} {m : List Addr} {μ : Mu} {H : Hp} (M : MuOk G W m μ H) {p : Addr} {o : HO} (np : H p = none) : MuOk G W m μ (upd H p o) := by
  obtain ⟨h1, h2⟩ := M.fresh np
  refine ⟨M.len, M.nd, M.out, fun z hz => ?_, fun n c a hc ha => ?_⟩
  · by_cases e : z = p
    · subst e; rw [upd_same]; intro q; cases q
    · rw [upd_ne e]; exact M.hw z hz
  · have ne : a ≠ p := fun e => h2 (e ▸ List.mem_of_getElem? ha)
    rw [vis_upd M np]
    exact (M.cell n c a hc ha).keep (List.prefix_refl _) (same_new (vis_none np)) (upd_ne ne)
theorem Step.laid {G : Gx} {W : Addr → Prop} {m : List Addr} {μ : Mu} {H : Hp} (M : MuOk G W m μ H) {p : Addr} {o : HO} (np : H p = none) : Step G W m H m μ (upd H p o) := by
  refine ⟨List.prefix_refl _, fun z hz => upd_ne fun e => ?_, M.laid np, ?_⟩
  · subst e; exact M.hw z hz np
  · rw [vis_upd M np]; exact same_new (vis_none np)

/-! ### slots -/
def ownW (Z : Addr → Prop) (σ : L2.St) (ρ : DS) (b : Addr) : Prop := Z b ∨ ∃ (i : Nat) (c : Cell), ρ[i]? = some (Sl.own b c)
def ExOk (G : Gx) (m : List Addr) (E : Hp) (o : Option (Option V)) (c : Str) (ks : List Str) (ds : List D) : Prop :=
  ∃ a C dd vs, G.ex = some (a, C, dd) ∧ G.mg c = some (.ref C) ∧ o = some (some (V.ref a)) ∧ E dd = some (.xd (ks.zip vs)) ∧ ks.length = ds.length ∧ Reps G m E ds vs
theorem ExOk.mono {G : Gx} {m m' : List Addr} {E E' : Hp} {o : Option (Option V)} {c : Str} {ks : List Str} {ds : List D} (hp : m <+: m') (he : Same E E') (h : ExOk G m E o c ks ds) : ExOk G m' E' o c ks ds := by
  obtain ⟨a, C, dd, vs, h1, h2, h3, h4, h5, h6⟩ := h
  exact ⟨a, C, dd, vs, h1, h2, h3, he _ _ h4, h5, Reps.mono hp he _ _ h6⟩
structure SR (G : Gx) (Z : Addr → Prop) (m : List Addr) (σ : L2.St) (H : Hp) (ρ : DS) (μ : Mu) : Prop where
  len : ρ.length = σ.length
  mu : MuOk G (ownW Z σ ρ) m μ H
  val : ∀ (i : Nat) d, ρ[i]? = some (Sl.v d) → ∃ v, σ[i]? = some (some v) ∧ Rep G m (vis (ownW Z σ ρ) m H) d v
  own : ∀ (i : Nat) a c, ρ[i]? = some (Sl.own a c) → σ[i]? = some (some (V.ref a)) ∧ ¬ Z a ∧ CellOk G m (vis (ownW Z σ ρ) m H) H c a
  dis : ∀ (i j : Nat) (a : Addr) c c', ρ[i]? = some (Sl.own a c) → ρ[j]? = some (Sl.own a c') → i = j
  exn : ∀ (i : Nat) c ks ds, ρ[i]? = some (Sl.exn c ks ds) → ExOk G m (vis (ownW Z σ ρ) m H) (σ[i]?) c ks ds
theorem SR.step {G : Gx} {Z : Addr → Prop} {m m' : List Addr} {σ : L2.St} {H H' : Hp} {ρ : DS} {μ μ' : Mu} (S : SR G Z m σ H ρ μ) (s : Step G (ownW Z σ ρ) m H m' μ' H') : SR G Z m' σ H' ρ μ' := by
  refine ⟨S.len, s.mu, fun i d e => ?_, fun i a c e => ?_, S.dis, fun i c ks ds e => (S.exn i c ks ds e).mono s.pre s.same⟩
  · obtain ⟨v, e1, r⟩ := S.val i d e
    exact ⟨v, e1, Rep.mono s.pre s.same _ _ r⟩
  · obtain ⟨e1, nz, r⟩ := S.own i a c e
    exact ⟨e1, nz, r.keep s.pre s.same (s.hid a (.inr ⟨i, c, e⟩))⟩

/-! ### expressions -/
abbrev WE := DS → Mu → (D → Mu → Prop) → XD → Prop
/-- a reading by data as a reading: where the state is told by data -/
def lift (G : Gx) (W : WX) (w : WE) : TE := fun σ H Q' => ∃ Z m ρ μ Q Xd, SR G Z m σ H ρ μ ∧ w ρ μ Q Xd ∧ (∀ v H', VPost G (ownW Z σ ρ) m H Q v H' → Q' v H') ∧ ∀ cls d H', XPost G (ownW Z σ ρ) m H Xd cls d H' → W cls d σ H'
abbrev gx (X : Cx) (ex : Option (Addr × Addr × Addr)) : Gx := ⟨X.K, X.mg, ex⟩
abbrev DE (ex : Option (Addr × Addr × Addr)) (W : WX) (X : Cx) (e : Expr) (w : WE) : Prop := PE X e (lift (gx X ex) W w)
theorem pe_weak {X : Cx} {e : Expr} {t t' : TE} (h : PE X e t) (k : ∀ σ H Q, t' σ H Q → t σ H Q) : PE X e t' := ⟨fun pins s σ H Q I q => h.run pins s σ H Q I (k σ H Q q)⟩
/-- a name -/
def wVar (i : Nat) : WE := fun ρ μ Q _ => match ρ[i]? with
  | some (.v d) => Q d μ
  | _ => False
def wC (d : D) : WE := fun _ μ Q _ => Q d μ
section
variable {ex : Option (Addr × Addr × Addr)} {W : WX} {X : Cx}
theorem de_name {e : Expr} {i : Nat} (h : PE X e (tVar i)) : DE ex W X e (wVar i) := pe_weak h fun σ H Q' q => by
  obtain ⟨Z, m, ρ, μ, Q, Xd, S, q, k, kx⟩ := q
  unfold wVar at q
  split at q
  · rename_i d e
    obtain ⟨v, e1, r⟩ := S.val i d e
    exact ⟨v, e1, k v H (.now S.mu r q)⟩
  · exact q.elim
theorem dv (i : Nat) {x : Str} {pos : Pos} (hN : X.N[i]? = some x := by rfl) (hv : Vis X.env.scope x := by first | exact Or.inl rfl | exact Or.inr (Or.inl rfl) | exact Or.inr (Or.inr rfl)) (hd : (x == ("__debug__" : Str)) = false := by decide)
    (hcd : (x == ("__classdict__" : Str)) = false := by decide) : DE ex W X (.Name x pos) (wVar i) := de_name (pe_var hN hv hd hcd)
theorem de_c {e : Expr} {v : V} {d : D} (h : PE X e (tC v)) (hr : ∀ m E, Rep (gx X ex) m E d v) : DE ex W X e (wC d) := pe_weak h fun σ H Q' q => by
  obtain ⟨Z, m, ρ, μ, Q, Xd, S, q, k, kx⟩ := q
  exact k v H (.now S.mu (hr _ _) q)
theorem de_int {i j pos} : DE ex W X (.Constant (.int i) j pos) (wC (.int i)) := de_c pe_int fun _ _ => by rw [Rep]
theorem de_bl {b j pos} : DE ex W X (.Constant (.bool b) j pos) (wC (.bl b)) := de_c pe_bl fun _ _ => by rw [Rep]
theorem de_non {j pos} : DE ex W X (.Constant .none j pos) (wC .non) := de_c pe_non fun _ _ => by rw [Rep]
theorem de_str {x j pos} : DE ex W X (.Constant (.str x) j pos) (wC (.str x)) := de_c pe_str fun _ _ => by rw [Rep]
/-- a class of the text, as a value -/
theorem de_cls {x : Str} {C : Addr} {pos : Pos} (hg : Gl X x) (hm : X.mg x = some (.ref C)) (hd : (x == ("__debug__" : Str)) = false := by decide) : DE ex W X (.Name x pos) (wC (.cls x)) :=
  de_c (pe_glob hg hm (v := .ref C) rfl hd) fun _ _ => by rw [Rep]; exact ⟨C, hm, rfl⟩
/-- a built-in type, as a value -/
theorem de_ty {x : Str} {T : String} {pos : Pos} (hg : Gl X x) (hm : X.mg x = none) (hv : bootBuiltins x = some (.type T)) (hn : x ≠ "__name__" := by decide) (hd : (x == ("__debug__" : Str)) = false := by decide) : DE ex W X (.Name x pos) (wC (.ty T)) :=
  de_c (pe_bltn hg hm hv (v := .ty T) rfl hn hd) fun _ _ => by rw [Rep]
/-- a module's int -/
theorem de_gint {x : Str} {i : Int} {t : Tok} {pos : Pos} (hg : Gl X x) (hm : X.mg x = some (.int i t)) (hd : (x == ("__debug__" : Str)) = false := by decide) : DE ex W X (.Name x pos) (wC (.int i)) :=
  de_c (pe_glob hg hm (v := .int i) ⟨t, rfl⟩ hd) fun _ _ => by rw [Rep]
end
/-! ### operations on values -/
abbrev F2 := D → D → Mu → (D → Mu → Prop) → Prop
abbrev F1 := D → Mu → (D → Mu → Prop) → Prop
abbrev FN := List D → Mu → (D → Mu → Prop) → Prop
def w2 (f : F2) (wa wb : WE) : WE := fun ρ μ Q Xd => wa ρ μ (fun x μ1 => wb ρ μ1 (fun y μ2 => f x y μ2 Q) Xd) Xd
def w1 (f : F1) (wa : WE) : WE := fun ρ μ Q Xd => wa ρ μ (fun x μ1 => f x μ1 Q) Xd
def S2 (G : Gx) (r : R2) (f : F2) : Prop := ∀ (Z : Addr → Prop) (m : List Addr) (μ : Mu) (H : Hp) (x y : D) (u v : V) (Q : D → Mu → Prop) (Q' : VK),
  MuOk G Z m μ H → Rep G m (vis Z m H) x u → Rep G m (vis Z m H) y v → f x y μ Q → (∀ z H', VPost G Z m H Q z H' → Q' z H') → r u v H Q'
def S1 (G : Gx) (r : V → Hp → VK → Prop) (f : F1) : Prop := ∀ (Z : Addr → Prop) (m : List Addr) (μ : Mu) (H : Hp) (x : D) (u : V) (Q : D → Mu → Prop) (Q' : VK),
  MuOk G Z m μ H → Rep G m (vis Z m H) x u → f x μ Q → (∀ z H', VPost G Z m H Q z H' → Q' z H') → r u H Q'
def SN (G : Gx) (r : List V → Hp → VK → Prop) (f : FN) : Prop := ∀ (Z : Addr → Prop) (m : List Addr) (μ : Mu) (H : Hp) (xs : List D) (us : List V) (Q : D → Mu → Prop) (Q' : VK),
  MuOk G Z m μ H → Reps G m (vis Z m H) xs us → f xs μ Q → (∀ z H', VPost G Z m H Q z H' → Q' z H') → r us H Q'
/-- one operand behind another -/
theorem lift_bind {G : Gx} {W : WX} {wa : WE} {σ : L2.St} {H : Hp} {Q' : VK} {f : D → DS → Mu → (D → Mu → Prop) → XD → Prop} {R : V → Hp → Prop}
    (q : lift G W (fun ρ μ Q Xd => wa ρ μ (fun x μ1 => f x ρ μ1 Q Xd) Xd) σ H Q')
    (h : ∀ (Z : Addr → Prop) (m : List Addr) (ρ : DS) (μ : Mu) (Q : D → Mu → Prop) (Xd : XD) (x : D) (v : V) (H1 : Hp), SR G Z m σ H1 ρ μ → Rep G m (vis (ownW Z σ ρ) m H1) x v → f x ρ μ Q Xd →
      (∀ v H', VPost G (ownW Z σ ρ) m H1 Q v H' → Q' v H') → (∀ cls d H', XPost G (ownW Z σ ρ) m H1 Xd cls d H' → W cls d σ H') → R v H1) : lift G W wa σ H R := by
  obtain ⟨Z, m, ρ, μ, Q, Xd, S, q, k, kx⟩ := q
  refine ⟨Z, m, ρ, μ, _, Xd, S, q, fun v H1 P => ?_, kx⟩
  obtain ⟨m1, d, μ1, s1, r1, q1⟩ := P
  exact h Z m1 ρ μ1 Q Xd d v H1 (S.step s1) r1 q1 (fun v H' P => k v H' (VPost.from s1 P)) fun cls d H' P => kx cls d H' (XPost.from s1 P)
theorem lift_w2 {G : Gx} {W : WX} {r : R2} {f : F2} (hf : S2 G r f) {wa wb : WE} {σ : L2.St} {H : Hp} {Q' : VK} (q : lift G W (w2 f wa wb) σ H Q') : tOp r (lift G W wa) (lift G W wb) σ H Q' := by
  refine lift_bind (f := fun x ρ μ1 Q Xd => wb ρ μ1 (fun y μ2 => f x y μ2 Q) Xd) q fun Z m ρ μ Q Xd x v H1 S r1 q1 k kx => ?_
  refine ⟨Z, m, ρ, μ, _, Xd, S, q1, fun u H2 P => ?_, kx⟩
  obtain ⟨m2, y, μ2, s2, r2, q2⟩ := P
  exact hf _ m2 μ2 H2 x y v u Q Q' s2.mu (Rep.mono s2.pre s2.same _ _ r1) r2 q2 fun z H' P => k z H' (VPost.from s2 P)
theorem lift_w1 {G : Gx} {W : WX} {r : V → Hp → VK → Prop} {f : F1} (hf : S1 G r f) {wa : WE} {σ : L2.St} {H : Hp} {Q' : VK} (q : lift G W (w1 f wa) σ H Q') : tUn r (lift G W wa) σ H Q' := by
  refine lift_bind (f := fun x ρ μ1 Q Xd => f x μ1 Q) q fun Z m ρ μ Q Xd x v H1 S r1 q1 k kx => ?_
  exact hf _ m μ H1 x v Q Q' S.mu r1 q1 k
section
variable {ex : Option (Addr × Addr × Addr)} {W : WX} {X : Cx} {a b c : Expr} {wa wb wc : WE} {pos : Pos}
theorem de_op {op : Operator} {r : R2} {f : F2} (ho : OpR X (binaryOp op) r) (hf : S2 (gx X ex) r f) (ha : DE ex W X a wa) (hb : DE ex W X b wb) : DE ex W X (.BinOp a op b pos) (w2 f wa wb) := pe_weak (pe_op ho ha hb) fun _ _ _ q => lift_w2 hf q
theorem de_un {op : UnaryOp} {r : V → Hp → VK → Prop} {f : F1} (ho : UnR X (unaryOp op) r) (hf : S1 (gx X ex) r f) (ha : DE ex W X a wa) : DE ex W X (.UnaryOp op a pos) (w1 f wa) := pe_weak (pe_un ho ha) fun _ _ _ q => lift_w1 hf q
theorem de_cmp {op : CmpOp} {r : R2} {f : F2} (ho : OpR X (compareOp op) r) (hf : S2 (gx X ex) r f) (ha : DE ex W X a wa) (hb : DE ex W X b wb) (hm : behindInMarks op b = false) : DE ex W X (.Compare a [op] [b] pos) (w2 f wa wb) := pe_weak (pe_cmpR ho ha hb hm) fun _ _ _ q => lift_w2 hf q
theorem de_ix {r : R2} {f : F2} (hr : IxR X r) (hf : S2 (gx X ex) r f) (ha : DE ex W X a wa) (hb : DE ex W X b wb) (hs : PlainIx b := by exact fun _ _ => rfl) : DE ex W X (.Subscript a b pos) (w2 f wa wb) := pe_weak (pe_ix hr ha hb hs) fun _ _ _ q => lift_w2 hf q
end
/-! ### tests -/
abbrev WT := DS → Mu → (Bool → Mu → Prop) → XD → Prop
def BPost (G : Gx) (Z : Addr → Prop) (m : List Addr) (H : Hp) (Q : Bool → Mu → Prop) (b : Bool) (H' : Hp) : Prop :=
  ∃ m' μ', Step G Z m H m' μ' H' ∧ Q b μ'
theorem BPost.from {G : Gx} {Z : Addr → Prop} {m m1 : List Addr} {μ1 : Mu} {H H1 H' : Hp} {Q : Bool → Mu → Prop} {v : Bool} (s : Step G Z m H m1 μ1 H1) (p : BPost G Z m1 H1 Q v H') : BPost G Z m H Q v H' := by
  obtain ⟨m', μ', s', q⟩ := p
  exact ⟨m', μ', s.trans s', q⟩
def liftT (G : Gx) (W : WX) (w : WT) : TT := fun σ H Q' => ∃ Z m ρ μ Q Xd, SR G Z m σ H ρ μ ∧ w ρ μ Q Xd ∧ (∀ b H', BPost G (ownW Z σ ρ) m H Q b H' → Q' b H') ∧ ∀ cls d H', XPost G (ownW Z σ ρ) m H Xd cls d H' → W cls d σ H'
abbrev DT (ex : Option (Addr × Addr × Addr)) (W : WX) (X : Cx) (e : Expr) (w : WT) : Prop := PT X e (liftT (gx X ex) W w)
abbrev DW (ex : Option (Addr × Addr × Addr)) (W : WX) (X : Cx) (e : Expr) (w : WT) : Prop := PW X e (liftT (gx X ex) W w)
theorem pt_weak {X : Cx} {e : Expr} {t t' : TT} (h : PT X e t) (k : ∀ σ H Q, t' σ H Q → t σ H Q) : PT X e t' := ⟨fun pins s σ H Q I q => h.run pins s σ H Q I (k σ H Q q)⟩
theorem pw_weak {X : Cx} {e : Expr} {t t' : TT} (h : PW X e t) (k : ∀ σ H Q, t' σ H Q → t σ H Q) : PW X e t' := ⟨fun wh pins s σ H Q I q => h.run wh pins s σ H Q I (k σ H Q q)⟩
/-- an expression that gives a truth, as a test -/
def fBool : D → (Bool → Prop) → Prop
  | .bl b, Q => Q b
  | _, _ => False
def wB (w : WE) : WT := fun ρ μ Q Xd => w ρ μ (fun d μ1 => fBool d fun b => Q b μ1) Xd
theorem fBool_of {d : D} {Q : Bool → Prop} (h : fBool d Q) : ∃ b, d = .bl b ∧ Q b := by
  cases d <;> first | exact h.elim | exact ⟨_, rfl, h⟩
theorem lift_wB {G : Gx} {W : WX} {w : WE} {σ : L2.St} {H : Hp} {Q' : Bool → Hp → Prop} (q : liftT G W (wB w) σ H Q') : tTest (lift G W w) σ H Q' := by
  obtain ⟨Z, m, ρ, μ, Q, Xd, S, q, k, kx⟩ := q
  refine ⟨Z, m, ρ, μ, _, Xd, S, q, fun v H1 P => ?_, kx⟩
  obtain ⟨m1, d, μ1, s1, r1, q1⟩ := P
  obtain ⟨b, rfl, q2⟩ := fBool_of q1
  rw [Rep] at r1
  exact ⟨b, r1, k b H1 ⟨m1, μ1, s1, q2⟩⟩
section
variable {ex : Option (Addr × Addr × Addr)} {W : WX} {X : Cx} {a b c : Expr} {wa wb wc : WE} {ta tb tc : WT} {pos : Pos} {rest : List Expr}
theorem dt_val (h : DE ex W X a wa) (he : ∀ whole, isTrue a X.env whole = (do let v ← whole; standAt a.pos; holding [v] (truthy v)) := by intro _; rfl) : DT ex W X a (wB wa) :=
  pt_weak (pt_val h he) fun _ _ _ q => lift_wB q
theorem dt_cmp {op : CmpOp} {r : R2} {f : F2} (ho : OpR X (compareOp op) r) (hf : S2 (gx X ex) r f) (ha : DE ex W X a wa) (hb : DE ex W X b wb) (hm : behindInMarks op b = false) : DT ex W X (.Compare a [op] [b] pos) (wB (w2 f wa wb)) :=
  pt_weak (pt_cmpR ho ha hb hm) fun σ H Q q => by
    have h := lift_wB q
    obtain h : lift _ _ _ σ H _ := h
    exact lift_w2 hf h
/-- chained comparisons -/
def wChain (f f' : F2) (wa wb wc : WE) : WE := fun ρ μ Q Xd => wa ρ μ (fun x μ1 => wb ρ μ1 (fun y μ2 => f x y μ2 fun z μ3 => fBool z fun k => if k = true then wc ρ μ3 (fun w' μ4 => f' y w' μ4 Q) Xd else Q (.bl false) μ3) Xd) Xd
theorem lift_chain {G : Gx} {r r' : R2} {f f' : F2} (hf : S2 G r f) (hf' : S2 G r' f') {σ : L2.St} {H : Hp} {Q' : VK} (q : lift G W (wChain f f' wa wb wc) σ H Q') : tChain r r' (lift G W wa) (lift G W wb) (lift G W wc) σ H Q' := by
  refine lift_bind (f := fun x ρ μ1 Q Xd => wb ρ μ1 (fun y μ2 => f x y μ2 fun z μ3 => fBool z fun k => if k = true then wc ρ μ3 (fun w' μ4 => f' y w' μ4 Q) Xd else Q (.bl false) μ3) Xd) q fun Z m ρ μ Q Xd x v H1 S r1 q1 k kx => ?_
  refine ⟨Z, m, ρ, μ, _, Xd, S, q1, fun u H2 P => ?_, kx⟩
  obtain ⟨m2, y, μ2, s2, r2, q2⟩ := P
  refine hf _ m2 μ2 H2 x y v u _ _ s2.mu (Rep.mono s2.pre s2.same _ _ r1) r2 q2 fun z H3 P => ?_
  obtain ⟨m3, zd, μ3, s3, r3, q3⟩ := P
  obtain ⟨b, rfl, q4⟩ := fBool_of q3
  rw [Rep] at r3
  refine ⟨b, r3, ?_⟩
  have S3 := (S.step s2).step s3
  cases b with
  | false =>
    rw [if_neg Bool.false_ne_true] at q4 ⊢
    exact k _ _ (VPost.from (s2.trans s3) (.now s3.mu (by rw [Rep]) q4))
  | true =>
    rw [if_pos rfl] at q4 ⊢
    refine ⟨Z, m3, ρ, μ3, _, Xd, S3, q4, fun w' H4 P => ?_, fun cls d H' P => kx cls d H' (XPost.from (s2.trans s3) P)⟩
    obtain ⟨m4, wd, μ4, s4, r4, q5⟩ := P
    exact hf' _ m4 μ4 H4 y wd u w' Q Q' s4.mu (Rep.mono (s3.trans s4).pre (s3.trans s4).same _ _ r2) r4 q5 fun z H' P => k z H' (VPost.from ((s2.trans s3).trans s4) P)
theorem de_chain {op op' : CmpOp} {r r' : R2} {f f' : F2} (ho : OpR X (compareOp op) r) (hf : S2 (gx X ex) r f) (ho' : OpR X (compareOp op') r') (hf' : S2 (gx X ex) r' f') (ha : DE ex W X a wa) (hb : DE ex W X b wb) (hc : DE ex W X c wc)
    (hm : lastMarks [op, op'] [b, c] = false := by with_unfolding_all rfl) : DE ex W X (.Compare a [op, op'] [b, c] pos) (wChain f f' wa wb wc) := pe_weak (pe_chain ho ho' ha hb hc hm) fun _ _ _ q => lift_chain hf hf' q
/-! and, or, not, as tests -/
def wAnd (t u : WT) : WT := fun ρ μ Q Xd => t ρ μ (fun c μ1 => if c = true then u ρ μ1 Q Xd else Q false μ1) Xd
def wOr (t u : WT) : WT := fun ρ μ Q Xd => t ρ μ (fun c μ1 => if c = true then Q true μ1 else u ρ μ1 Q Xd) Xd
def wNot (t : WT) : WT := fun ρ μ Q Xd => t ρ μ (fun c μ1 => Q (!c) μ1) Xd
theorem dw_and1 (h : DT ex W X a ta) : DW ex W X (.BoolOp .And [a] pos) ta := pw_and1 h
theorem dw_or1 (h : DT ex W X a ta) : DW ex W X (.BoolOp .Or [a] pos) ta := pw_or1 h
theorem dw_and (ha : DT ex W X a ta) (hb : DW ex W X (.BoolOp .And (b :: rest) pos) tb) : DW ex W X (.BoolOp .And (a :: b :: rest) pos) (wAnd ta tb) := pw_weak (pw_and ha hb) fun σ H Q' q => by
  obtain ⟨Z, m, ρ, μ, Q, Xd, S, q, k, kx⟩ := q
  refine ⟨Z, m, ρ, μ, _, Xd, S, q, fun c H1 P => ?_, kx⟩
  obtain ⟨m1, μ1, s1, q1⟩ := P
  cases c with
  | false => exact k false H1 ⟨m1, μ1, s1, q1⟩
  | true =>
    rw [if_pos rfl] at q1 ⊢
    exact ⟨Z, m1, ρ, μ1, _, Xd, S.step s1, q1, fun b H2 P => k b H2 (BPost.from s1 P), fun cls d H' P => kx cls d H' (XPost.from s1 P)⟩
theorem dw_or (ha : DT ex W X a ta) (hb : DW ex W X (.BoolOp .Or (b :: rest) pos) tb) : DW ex W X (.BoolOp .Or (a :: b :: rest) pos) (wOr ta tb) := pw_weak (pw_or ha hb) fun σ H Q' q => by
  obtain ⟨Z, m, ρ, μ, Q, Xd, S, q, k, kx⟩ := q
  refine ⟨Z, m, ρ, μ, _, Xd, S, q, fun c H1 P => ?_, kx⟩
  obtain ⟨m1, μ1, s1, q1⟩ := P
  cases c with
  | true => exact k true H1 ⟨m1, μ1, s1, q1⟩
  | false =>
    rw [if_neg Bool.false_ne_true] at q1 ⊢
    exact ⟨Z, m1, ρ, μ1, _, Xd, S.step s1, q1, fun b H2 P => k b H2 (BPost.from s1 P), fun cls d H' P => kx cls d H' (XPost.from s1 P)⟩
theorem dt_w {e : Expr} (h : DW ex W X e ta) : DT ex W X e ta := PW.pt h
theorem dt_not (h : DT ex W X a ta) : DT ex W X (.UnaryOp .Not a pos) (wNot ta) := pt_weak (pt_not h) fun σ H Q' q => by
  obtain ⟨Z, m, ρ, μ, Q, Xd, S, q, k, kx⟩ := q
  refine ⟨Z, m, ρ, μ, _, Xd, S, q, fun c H1 P => ?_, kx⟩
  obtain ⟨m1, μ1, s1, q1⟩ := P
  exact k (!c) H1 ⟨m1, μ1, s1, q1⟩
end
end DL

set_option Elab.async false
set_option linter.all false
set_option maxRecDepth 100000
set_option maxHeartbeats 4000000
set_option autoImplicit false
namespace DL
open PySem PySem.Spec PyProof.Rows L2
/-! ### argument lists, displays, calls -/
abbrev WA := DS → Mu → (List D → Mu → Prop) → XD → Prop
def APost (G : Gx) (Z : Addr → Prop) (m : List Addr) (H : Hp) (Q : List D → Mu → Prop) (vs : List V) (H' : Hp) : Prop :=
  ∃ m' ds μ', Step G Z m H m' μ' H' ∧ Reps G m' (vis Z m' H') ds vs ∧ Q ds μ'
theorem APost.from {G : Gx} {Z : Addr → Prop} {m m1 : List Addr} {μ1 : Mu} {H H1 H' : Hp} {Q : List D → Mu → Prop} {vs : List V} (s : Step G Z m H m1 μ1 H1) (p : APost G Z m1 H1 Q vs H') : APost G Z m H Q vs H' := by
  obtain ⟨m', d, μ', s', r, q⟩ := p
  exact ⟨m', d, μ', s.trans s', r, q⟩
def liftA (G : Gx) (W : WX) (w : WA) : TA := fun σ H Q' => ∃ Z m ρ μ Q Xd, SR G Z m σ H ρ μ ∧ w ρ μ Q Xd ∧ (∀ vs H', APost G (ownW Z σ ρ) m H Q vs H' → Q' vs H') ∧ ∀ cls d H', XPost G (ownW Z σ ρ) m H Xd cls d H' → W cls d σ H'
abbrev DA (ex : Option (Addr × Addr × Addr)) (W : WX) (X : Cx) (es : List Expr) (w : WA) : Prop := PA X es (liftA (gx X ex) W w)
theorem pa_weak {X : Cx} {es : List Expr} {t t' : TA} (h : PA X es t) (k : ∀ σ H Q, t' σ H Q → t σ H Q) : PA X es t' := ⟨fun pos pins s σ H Q I q => h.run pos pins s σ H Q I (k σ H Q q)⟩
def wNil : WA := fun _ μ Q _ => Q [] μ
def wCons (wa : WE) (wr : WA) : WA := fun ρ μ Q Xd => wa ρ μ (fun d μ1 => wr ρ μ1 (fun ds μ2 => Q (d :: ds) μ2) Xd) Xd
def wTup (wa : WA) : WE := fun ρ μ Q Xd => wa ρ μ (fun ds μ1 => ds.length ≤ 1000 ∧ Q (.tup ds) μ1) Xd
def wLst (wa : WA) : WE := fun ρ μ Q Xd => wa ρ μ (fun ds μ1 => ds.length ≤ 1000 ∧ Q (.lst ds) μ1) Xd
def wN (f : FN) (wa : WA) : WE := fun ρ μ Q Xd => wa ρ μ (fun ds μ1 => f ds μ1 Q) Xd
abbrev DSp := List D → Mu → (D → Mu → Prop) → XD → Prop
def wCall (sp : DSp) (wa : WA) : WE := fun ρ μ Q Xd => wa ρ μ (fun ds μ1 => sp ds μ1 Q Xd) Xd
theorem le1000 {n : Nat} (h : n ≤ 1000) : n ≤ sizeLine := Nat.le_trans h (by decide)
section
variable {ex : Option (Addr × Addr × Addr)} {W : WX} {X : Cx} {e : Expr} {es : List Expr} {wa : WE} {ws : WA} {pos : Pos}
theorem da_nil : DA ex W X [] wNil := pa_weak pa_nil fun σ H Q' q => by
  obtain ⟨Z, m, ρ, μ, Q, Xd, S, q, k, kx⟩ := q
  exact k [] H ⟨m, [], μ, .refl S.mu, Reps.nil, q⟩
theorem lift_cons {G : Gx} {σ : L2.St} {H : Hp} {Q' : List V → Hp → Prop} (q : liftA G W (wCons wa ws) σ H Q') : tCons (lift G W wa) (liftA G W ws) σ H Q' := by
  obtain ⟨Z, m, ρ, μ, Q, Xd, S, q, k, kx⟩ := q
  refine ⟨Z, m, ρ, μ, _, Xd, S, q, fun v H1 P => ?_, kx⟩
  obtain ⟨m1, d, μ1, s1, r1, q1⟩ := P
  refine ⟨Z, m1, ρ, μ1, _, Xd, S.step s1, q1, fun vs H2 P => ?_, fun cls d H' P => kx cls d H' (XPost.from s1 P)⟩
  obtain ⟨m2, ds, μ2, s2, r2, q2⟩ := P
  exact k _ _ ⟨m2, d :: ds, μ2, s1.trans s2, Reps.cons (Rep.mono s2.pre s2.same _ _ r1) r2, q2⟩
theorem da_cons (ha : DE ex W X e wa) (hr : DA ex W X es ws) (hs : starEach (e :: es) X.env = (false, eval e X.env) :: starEach es X.env := by rfl) : DA ex W X (e :: es) (wCons wa ws) :=
  pa_weak (pa_cons ha hr hs) fun _ _ _ q => lift_cons q
theorem de_tup {x1} (h : DA ex W X es ws) : DE ex W X (.Tuple es x1 pos) (wTup ws) := pe_weak (pe_tup h) fun σ H Q' q => by
  obtain ⟨Z, m, ρ, μ, Q, Xd, S, q, k, kx⟩ := q
  refine ⟨Z, m, ρ, μ, _, Xd, S, q, fun vs H1 P => ?_, kx⟩
  obtain ⟨m1, ds, μ1, s1, r1, hl, q1⟩ := P
  refine ⟨by rw [← r1.len]; exact le1000 hl, fun p np => k _ _ ?_⟩
  have s2 := Step.laid (o := .tup vs) s1.mu np
  refine VPost.from s1 ⟨m1, _, μ1, s2, ?_, q1⟩
  rw [Rep]
  refine ⟨p, vs, rfl, .inl (.inl ?_), Reps.mono s2.pre s2.same _ _ r1⟩
  rw [vis_upd s1.mu np, upd_same]
theorem lift_lst {G : Gx} {σ : L2.St} {H : Hp} {Q' : VK} (q : lift G W (wLst ws) σ H Q') : tLst (liftA G W ws) σ H Q' := by
  obtain ⟨Z, m, ρ, μ, Q, Xd, S, q, k, kx⟩ := q
  refine ⟨Z, m, ρ, μ, _, Xd, S, q, fun vs H1 P => ?_, kx⟩
  obtain ⟨m1, ds, μ1, s1, r1, hl, q1⟩ := P
  refine ⟨by rw [← r1.len]; exact le1000 hl, fun p np => k _ _ ?_⟩
  have s2 := Step.laid (o := .lst vs) s1.mu np
  refine VPost.from s1 ⟨m1, _, μ1, s2, ?_, q1⟩
  rw [Rep]
  refine ⟨p, vs, rfl, ?_, Reps.mono s2.pre s2.same _ _ r1⟩
  rw [vis_upd s1.mu np, upd_same]
theorem de_lst (h : DA ex W X es ws) : DE ex W X (.List es pos) (wLst ws) := pe_weak (pe_lst h) fun _ _ _ q => lift_lst q
theorem lift_wN {G : Gx} {r : List V → Hp → VK → Prop} {f : FN} (hf : SN G r f) {σ : L2.St} {H : Hp} {Q' : VK} (q : lift G W (wN f ws) σ H Q') : tCB r (liftA G W ws) σ H Q' := by
  obtain ⟨Z, m, ρ, μ, Q, Xd, S, q, k, kx⟩ := q
  refine ⟨Z, m, ρ, μ, _, Xd, S, q, fun vs H1 P => ?_, kx⟩
  obtain ⟨m1, ds, μ1, s1, r1, q1⟩ := P
  exact hf _ m1 μ1 H1 ds vs Q Q' s1.mu r1 q1 fun z H' P => k z H' (VPost.from s1 P)
theorem de_callB {x : Str} {id : String} {p : Pos} {r : List V → Hp → VK → Prop} {f : FN} (hc : CallR X (.builtin id) r) (hf : SN (gx X ex) r f) (hg : Gl X x) (hm : X.mg x = none) (hv : bootBuiltins x = some (.builtin id)) (ha : DA ex W X (e :: es) ws)
    (hn : x ≠ "__name__" := by decide) (hdb : (x == ("__debug__" : Str)) = false := by decide) (he : starEach (e :: es) X.env = (false, eval e X.env) :: starEach es X.env := by rfl) (hpl : (backTo pos (starEach es X.env)).any (·.1) = false := by rfl) :
    DE ex W X (.Call (.Name x p) (e :: es) [] pos) (wN f ws) := pe_weak (pe_callB hc hg hm hv ha hn hdb he hpl) fun _ _ _ q => lift_wN hf q
theorem de_callTy {x : Str} {T : String} {p : Pos} {r : List V → Hp → VK → Prop} {f : FN} (hc : CallR X (.type T) r) (hf : SN (gx X ex) r f) (hg : Gl X x) (hm : X.mg x = none) (hv : bootBuiltins x = some (.type T)) (ha : DA ex W X (e :: es) ws)
    (hn : x ≠ "__name__" := by decide) (hdb : (x == ("__debug__" : Str)) = false := by decide) (he : starEach (e :: es) X.env = (false, eval e X.env) :: starEach es X.env := by rfl) (hpl : (backTo pos (starEach es X.env)).any (·.1) = false := by rfl) :
    DE ex W X (.Call (.Name x p) (e :: es) [] pos) (wN f ws) := pe_weak (pe_callTy hc hg hm hv ha hn hdb he hpl) fun _ _ _ q => lift_wN hf q
/-- a def keeps its promise wherever no repr is under way -/
structure FnG (P : Program) (wd : World) (K : PySem.W.Frag) (mg : Str → Option Value) (bs : Heap) (k : Nat) (f : Addr) (fd : FuncData) (ps : List Str) (sp : Sp) : Prop where
  len : ∀ vs H Q E, sp vs H Q E → vs.length = ps.length
  run : ∀ (A : Around) (fr : List Env) (s : Shared) (H : Hp) (args : Args) (us : List Value) (vs : List V) (Q : VK) (E : XK), Room k A → A.guards = some [] → Env0 P wd K mg bs A fr s H → BindsTo s fd args (ps.zip us) → Vals vs us →
    sp vs H Q E → codeAny (model P wd) A (.call (.ref f) args) (CR (L2.CX P wd) fr P wd H s Q E) s
section
variable {k : Nat} {f : Addr} {fd : FuncData} {ps : List Str} {sp0 : Sp}
theorem run_fnG {pins : List (Addr × Obj)} {σ : L2.St} {H : Hp} {s : Shared} {Q : VK} {us : List Value} {vs : List V} (F : FnG X.prog X.w X.K X.mg X.base k f fd ps sp0) (hr : Room k X.A) (hgd : X.A.guards = some []) (hb : Binds X.K fd ps []) (tk : Takes X W)
    (I : Inv X pins σ H s) (rv : Vals vs us) (h : sp0 vs H Q (L2.WE W σ)) : wpAny (model X.prog X.w) X.A (call (.ref f) us) (EP X pins σ Q) X.xe s := by
  have e0 : us.length = ps.length := rv.length.symm.trans (F.len _ _ _ _ h)
  have bd : BindsTo s fd ⟨us, []⟩ (ps.zip us) := by simpa using hb s us I.kIn (by simpa using e0)
  refine wpAny_call (codeAny_mono (F.run X.A X.stack s H ⟨us, []⟩ us vs Q _ hr hgd I.env0 bd rv h) fun res s2 hres => ?_)
  match res, hres with
  | .error er, hres => exact passAt tk σ pins H s er s2 I hres
  | .ok (.ret u), hres => exact I.after hres
end
/-- what a def promises, told by data -/
def toSp (G : Gx) (sp : DSp) : Sp := fun vs H Q' E => ∃ Z m μ ds Q Xd, MuOk G Z m μ H ∧ Reps G m (vis Z m H) ds vs ∧ sp ds μ Q Xd ∧ (∀ v H', VPost G Z m H Q v H' → Q' v H') ∧ ∀ cls d H', XPost G Z m H Xd cls d H' → E cls d H'
theorem lift_call {G : Gx} {sp : DSp} {σ : L2.St} {H : Hp} {Q' : VK} (q : lift G W (wCall sp ws) σ H Q') : tCallS (toSp G sp) (L2.WE W) (liftA G W ws) σ H Q' := by
  obtain ⟨Z, m, ρ, μ, Q, Xd, S, q, k, kx⟩ := q
  refine ⟨Z, m, ρ, μ, _, Xd, S, q, fun vs H1 P => ?_, kx⟩
  obtain ⟨m1, ds, μ1, s1, r1, q1⟩ := P
  exact ⟨_, m1, μ1, ds, Q, Xd, s1.mu, r1, q1, fun v H' P => k v H' (VPost.from s1 P), fun cls d H' P => kx cls d H' (XPost.from s1 P)⟩
theorem de_call {x : Str} {k : Nat} {f : Addr} {fd : FuncData} {ps : List Str} {sp : DSp} {p : Pos} (F : FnG X.prog X.w X.K X.mg X.base k f fd ps (toSp (gx X ex) sp)) (hr : Room k X.A) (hgd : X.A.guards = some []) (hg : Gl X x) (hm : X.mg x = some (.ref f))
    (hk : PySem.W.keepIn X.K (.ref f) = true) (hb : Binds X.K fd ps []) (tk : Takes X W) (ha : DA ex W X (e :: es) ws) (hdb : (x == ("__debug__" : Str)) = false := by decide)
    (he : starEach (e :: es) X.env = (false, eval e X.env) :: starEach es X.env := by rfl) (hpl : (backTo pos (starEach es X.env)).any (·.1) = false := by rfl) :
    DE ex W X (.Call (.Name x p) (e :: es) [] pos) (wCall sp ws) := by
  refine ⟨fun pins s σ H Q I h => ?_⟩
  refine wpAny_Call_Name_kw (ld_glob I hg hm ?_ hdb)
  exact PySem.W.callWith_K (h₀ := X.base) I.ok.mod.kin hk (thn (ha.run pos pins s σ H _ I (lift_call h)) fun us s1 ⟨vs, H1, I1, rv, q⟩ => ⟨I1.kIn, run_fnG F hr hgd hb tk I1 rv q⟩) he hpl
end

/-! ### statements -/
abbrev XS := Str → List Str → List D → DS → Mu → Prop
structure DEnds where
  nx : DS → Mu → Prop
  rt : D → Mu → Prop
  bk : DS → Mu → Prop := fun _ _ => False
  ct : DS → Mu → Prop := fun _ _ => False
  xc : XS := fun _ _ _ _ _ => False
abbrev WS := DEnds → DS → Mu → Prop
structure SStep (G : Gx) (Z : Addr → Prop) (m : List Addr) (σ : L2.St) (ρ : DS) (H : Hp) (m' : List Addr) (σ' : L2.St) (ρ' : DS) (H' : Hp) : Prop where
  pre : m <+: m'
  hid : ∀ z, Z z → H' z = H z
  same : Same (vis (ownW Z σ ρ) m H) (vis (ownW Z σ' ρ') m' H')
theorem SStep.refl {G : Gx} {Z : Addr → Prop} {m : List Addr} {σ : L2.St} {ρ : DS} {H : Hp} : SStep G Z m σ ρ H m σ ρ H := ⟨List.prefix_refl _, fun _ _ => rfl, Same.refl _⟩
theorem SStep.trans {G : Gx} {Z : Addr → Prop} {m m1 m2 : List Addr} {σ σ1 σ2 : L2.St} {ρ ρ1 ρ2 : DS} {H H1 H2 : Hp} (a : SStep G Z m σ ρ H m1 σ1 ρ1 H1) (b : SStep G Z m1 σ1 ρ1 H1 m2 σ2 ρ2 H2) : SStep G Z m σ ρ H m2 σ2 ρ2 H2 :=
  ⟨a.pre.trans b.pre, fun z h => (b.hid z h).trans (a.hid z h), a.same.trans b.same⟩
theorem SStep.of {G : Gx} {Z : Addr → Prop} {m m' : List Addr} {σ : L2.St} {ρ : DS} {μ' : Mu} {H H' : Hp} (s : Step G (ownW Z σ ρ) m H m' μ' H') : SStep G Z m σ ρ H m' σ ρ H' := ⟨s.pre, fun z h => s.hid z (.inl h), s.same⟩
def SPost (G : Gx) (Z : Addr → Prop) (m : List Addr) (σ : L2.St) (ρ : DS) (H : Hp) (P : DS → Mu → Prop) (σ' : L2.St) (H' : Hp) : Prop :=
  ∃ m' ρ' μ', SR G Z m' σ' H' ρ' μ' ∧ SStep G Z m σ ρ H m' σ' ρ' H' ∧ P ρ' μ'
def RPost (G : Gx) (Z : Addr → Prop) (m : List Addr) (σ : L2.St) (ρ : DS) (H : Hp) (Q : D → Mu → Prop) (v : V) (H' : Hp) : Prop :=
  ∃ m' d μ', m <+: m' ∧ (∀ z, Z z → H' z = H z) ∧ MuOk G Z m' μ' H' ∧ Same (vis (ownW Z σ ρ) m H) (vis Z m' H') ∧ Rep G m' (vis Z m' H') d v ∧ Q d μ'
def XSPost (G : Gx) (Z : Addr → Prop) (m : List Addr) (σ : L2.St) (ρ : DS) (H : Hp) (Xs : XS) (cls : Value) (d : Option Addr) (σ' : L2.St) (H' : Hp) : Prop :=
  ∃ m' c ks es ρ' μ' C dd vs, SR G Z m' σ' H' ρ' μ' ∧ SStep G Z m σ ρ H m' σ' ρ' H' ∧ cls = .ref C ∧ d = some dd ∧ G.mg c = some (.ref C) ∧ vis (ownW Z σ' ρ') m' H' dd = some (.xd (ks.zip vs)) ∧ ks.length = es.length ∧
    Reps G m' (vis (ownW Z σ' ρ') m' H') es vs ∧ Xs c ks es ρ' μ'
section
variable {G : Gx} {Z : Addr → Prop} {m m1 : List Addr} {σ σ1 σ' : L2.St} {ρ ρ1 : DS} {H H1 H' : Hp}
theorem SPost.from {P : DS → Mu → Prop} (s : SStep G Z m σ ρ H m1 σ1 ρ1 H1) (p : SPost G Z m1 σ1 ρ1 H1 P σ' H') : SPost G Z m σ ρ H P σ' H' := by
  obtain ⟨m', ρ', μ', S, s', q⟩ := p
  exact ⟨m', ρ', μ', S, s.trans s', q⟩
theorem RPost.from {Q : D → Mu → Prop} {v : V} (s : SStep G Z m σ ρ H m1 σ1 ρ1 H1) (p : RPost G Z m1 σ1 ρ1 H1 Q v H') : RPost G Z m σ ρ H Q v H' := by
  obtain ⟨m', d, μ', h1, h2, h3, h4, h5, h6⟩ := p
  exact ⟨m', d, μ', s.pre.trans h1, fun z hz => (h2 z hz).trans (s.hid z hz), h3, s.same.trans h4, h5, h6⟩
theorem XSPost.from {Xs : XS} {cls : Value} {d : Option Addr} (s : SStep G Z m σ ρ H m1 σ1 ρ1 H1) (p : XSPost G Z m1 σ1 ρ1 H1 Xs cls d σ' H') : XSPost G Z m σ ρ H Xs cls d σ' H' := by
  obtain ⟨m', c, ks, es, ρ', μ', C, dd, vs, S, s', r⟩ := p
  exact ⟨m', c, ks, es, ρ', μ', C, dd, vs, S, s.trans s', r⟩
theorem vis_own {m : List Addr} {H : Hp} : Same (vis (ownW Z σ ρ) m H) (vis Z m H) := fun b o h => by
  obtain ⟨h1, h2, h3⟩ := vis_some.mp h
  exact vis_some.mpr ⟨fun z => h1 (.inl z), h2, h3⟩
theorem MuOk.out_own {μ : Mu} (M : MuOk G (ownW Z σ ρ) m μ H) : MuOk G Z m μ H :=
  ⟨M.len, M.nd, fun a h z => M.out a h (.inl z), fun z h => M.hw z (.inl h), fun n c a h1 h2 => (M.cell n c a h1 h2).keep (List.prefix_refl _) vis_own rfl⟩
theorem RPost.of {Q : D → Mu → Prop} {v : V} (p : VPost G (ownW Z σ ρ) m H Q v H') : RPost G Z m σ ρ H Q v H' := by
  obtain ⟨m', d, μ', s, r, q⟩ := p
  exact ⟨m', d, μ', s.pre, fun z h => s.hid z (.inl h), s.mu.out_own, s.same.trans vis_own, Rep.mono (List.prefix_refl _) vis_own _ _ r, q⟩
theorem XSPost.of {μ : Mu} (S : SR G Z m σ H ρ μ) {Xs : XS} {cls : Value} {d : Option Addr} (p : XPost G (ownW Z σ ρ) m H (fun c ks es μ' => Xs c ks es ρ μ') cls d H') : XSPost G Z m σ ρ H Xs cls d σ H' := by
  obtain ⟨m', c, ks, es, μ', C, dd, vs, s, e1, e2, e3, e4, e5, e6, q⟩ := p
  exact ⟨m', c, ks, es, ρ, μ', C, dd, vs, S.step s, SStep.of s, e1, e2, e3, e4, e5, e6, q⟩
end
def liftS (G : Gx) (W : WX) (w : WS) : TS := fun D σ H => ∃ Z m ρ μ E, SR G Z m σ H ρ μ ∧ w E ρ μ ∧ (∀ σ' H', SPost G Z m σ ρ H E.nx σ' H' → D.nx σ' H') ∧ (∀ v H', RPost G Z m σ ρ H E.rt v H' → D.rt v H') ∧
  (∀ σ' H', SPost G Z m σ ρ H E.bk σ' H' → D.bk σ' H') ∧ (∀ σ' H', SPost G Z m σ ρ H E.ct σ' H' → D.ct σ' H') ∧ ∀ cls d σ' H', XSPost G Z m σ ρ H E.xc cls d σ' H' → W cls d σ' H'
abbrev DSt (ex : Option (Addr × Addr × Addr)) (W : WX) (X : Cx) (st : Stmt) (w : WS) : Prop := PS X st (liftS (gx X ex) W w)
abbrev DSs (ex : Option (Addr × Addr × Addr)) (W : WX) (X : Cx) (st : List Stmt) (w : WS) : Prop := PSs X st (liftS (gx X ex) W w)
theorem ps_weak {X : Cx} {st : Stmt} {t t' : TS} (h : PS X st t) (k : ∀ D σ H, t' D σ H → t D σ H) : PS X st t' := ⟨fun pins s σ H D I q => h.run pins s σ H D I (k D σ H q)⟩
theorem pss_weak {X : Cx} {st : List Stmt} {t t' : TS} (h : PSs X st t) (k : ∀ D σ H, t' D σ H → t D σ H) : PSs X st t' := ⟨fun pins s σ H D I q => h.run pins s σ H D I (k D σ H q)⟩
def sNext : WS := fun E ρ μ => E.nx ρ μ
def sSeq (a b : WS) : WS := fun E ρ μ => a { E with nx := fun ρ' μ' => b E ρ' μ' } ρ μ
def sIf (t : WT) (a b : WS) : WS := fun E ρ μ => t ρ μ (fun c μ1 => if c = true then a E ρ μ1 else b E ρ μ1) fun c ks es μ' => E.xc c ks es ρ μ'
def sRet (wa : WE) : WS := fun E ρ μ => wa ρ μ E.rt fun c ks es μ' => E.xc c ks es ρ μ'
def sRetN : WS := fun E _ μ => E.rt .non μ
def sDrop (wa : WE) : WS := fun E ρ μ => wa ρ μ (fun _ μ1 => E.nx ρ μ1) fun c ks es μ' => E.xc c ks es ρ μ'
def sBreak : WS := fun E ρ μ => E.bk ρ μ
def sCont : WS := fun E ρ μ => E.ct ρ μ
def sNever : WS := fun _ _ _ => False
section
variable {ex : Option (Addr × Addr × Addr)} {W : WX} {X : Cx} {e : Expr} {es : List Expr} {wa : WE} {ws : WA} {pos : Pos} {st : Stmt} {rest : List Stmt} {a b : WS} {t : WT}
theorem dss_nil : DSs ex W X [] sNext := pss_weak pss_nil fun D σ H q => by
  obtain ⟨Z, m, ρ, μ, E, S, q, kn, kr, kb, kc, kx⟩ := q
  exact kn σ H ⟨m, ρ, μ, S, .refl, q⟩
theorem dss_cons (h1 : DSt ex W X st a) (h2 : DSs ex W X rest b) : DSs ex W X (st :: rest) (sSeq a b) := pss_weak (pss_cons h1 h2) fun D σ H q => by
  obtain ⟨Z, m, ρ, μ, E, S, q, kn, kr, kb, kc, kx⟩ := q
  refine ⟨Z, m, ρ, μ, _, S, q, fun σ1 H1 P => ?_, kr, kb, kc, kx⟩
  obtain ⟨m1, ρ1, μ1, S1, s1, q1⟩ := P
  exact ⟨Z, m1, ρ1, μ1, E, S1, q1, fun σ' H' P => kn σ' H' (SPost.from s1 P), fun v H' P => kr v H' (RPost.from s1 P), fun σ' H' P => kb σ' H' (SPost.from s1 P), fun σ' H' P => kc σ' H' (SPost.from s1 P), fun cls d σ' H' P => kx cls d σ' H' (XSPost.from s1 P)⟩
theorem dss_one (h1 : DSt ex W X st a) : DSs ex W X [st] a := pss_one h1
theorem ds_if {c : Expr} {x y : List Stmt} (hc : DT ex W X c t) (ha : DSs ex W X x a) (hb : DSs ex W X y b) : DSt ex W X (.If c x y pos) (sIf t a b) := ps_weak (ps_if hc ha hb) fun D σ H q => by
  obtain ⟨Z, m, ρ, μ, E, S, q, kn, kr, kb, kc, kx⟩ := q
  refine ⟨Z, m, ρ, μ, _, _, S, q, fun c H1 P => ?_, fun cls d H' P => kx cls d σ H' (XSPost.of S P)⟩
  obtain ⟨m1, μ1, s1, q1⟩ := P
  have S1 := S.step s1
  have s2 : SStep (gx X ex) Z m σ ρ H m1 σ ρ H1 := SStep.of s1
  cases c with
  | true =>
    rw [if_pos rfl] at q1 ⊢
    exact ⟨Z, m1, ρ, μ1, E, S1, q1, fun σ' H' P => kn σ' H' (SPost.from s2 P), fun v H' P => kr v H' (RPost.from s2 P), fun σ' H' P => kb σ' H' (SPost.from s2 P), fun σ' H' P => kc σ' H' (SPost.from s2 P), fun cls d σ' H' P => kx cls d σ' H' (XSPost.from s2 P)⟩
  | false =>
    rw [if_neg Bool.false_ne_true] at q1 ⊢
    exact ⟨Z, m1, ρ, μ1, E, S1, q1, fun σ' H' P => kn σ' H' (SPost.from s2 P), fun v H' P => kr v H' (RPost.from s2 P), fun σ' H' P => kb σ' H' (SPost.from s2 P), fun σ' H' P => kc σ' H' (SPost.from s2 P), fun cls d σ' H' P => kx cls d σ' H' (XSPost.from s2 P)⟩
theorem ds_ret (h : DE ex W X e wa) : DSt ex W X (.Return (some e) pos) (sRet wa) := ps_weak (ps_ret h) fun D σ H q => by
  obtain ⟨Z, m, ρ, μ, E, S, q, kn, kr, kb, kc, kx⟩ := q
  exact ⟨Z, m, ρ, μ, _, _, S, q, fun v H1 P => kr v H1 (RPost.of P), fun cls d H' P => kx cls d σ H' (XSPost.of S P)⟩
theorem ds_expr (h : DE ex W X e wa) (hs : swapsWith e none pos.line X.env = pure false := by rfl) : DSt ex W X (.Expr e pos) (sDrop wa) := ps_weak (ps_expr h hs) fun D σ H q => by
  obtain ⟨Z, m, ρ, μ, E, S, q, kn, kr, kb, kc, kx⟩ := q
  refine ⟨Z, m, ρ, μ, _, _, S, q, fun v H1 P => ?_, fun cls d H' P => kx cls d σ H' (XSPost.of S P)⟩
  obtain ⟨m1, d, μ1, s1, r1, q1⟩ := P
  exact kn σ H1 ⟨m1, ρ, μ1, S.step s1, SStep.of s1, q1⟩
end
/-! ### a slot is stored -/
theorem own_set {Z : Addr → Prop} {σ : L2.St} {ρ : DS} {i : Nat} {v : V} {d : D} {b : Addr} (h : ownW Z (σ.set i (some v)) (ρ.set i (.v d)) b) : ownW Z σ ρ b := by
  rcases h with h | ⟨j, ds, e1⟩
  · exact .inl h
  · by_cases hj : i = j
    · subst hj
      rw [List.getElem?_set] at e1
      simp at e1
    · rw [List.getElem?_set_ne hj] at e1
      exact .inr ⟨j, ds, e1⟩
theorem vis_mono {Z Z' : Addr → Prop} {m : List Addr} {H : Hp} (h : ∀ b, Z' b → Z b) : Same (vis Z m H) (vis Z' m H) := fun b o e => by
  obtain ⟨h1, h2, h3⟩ := vis_some.mp e
  exact vis_some.mpr ⟨fun z => h1 (h b z), h2, h3⟩
theorem MuOk.less {G : Gx} {Z Z' : Addr → Prop} {m : List Addr} {μ : Mu} {H : Hp} (M : MuOk G Z m μ H) (h : ∀ b, Z' b → Z b) : MuOk G Z' m μ H :=
  ⟨M.len, M.nd, fun a ha z => M.out a ha (h a z), fun z hz => M.hw z (h z hz), fun n c a h1 h2 => (M.cell n c a h1 h2).keep (List.prefix_refl _) (vis_mono h) rfl⟩
theorem SR.set {G : Gx} {Z : Addr → Prop} {m : List Addr} {σ : L2.St} {H : Hp} {ρ : DS} {μ : Mu} (S : SR G Z m σ H ρ μ) {i : Nat} {d : D} {v : V} (r : Rep G m (vis (ownW Z σ ρ) m H) d v) :
    SR G Z m (σ.set i (some v)) H (ρ.set i (.v d)) μ ∧ SStep G Z m σ ρ H m (σ.set i (some v)) (ρ.set i (.v d)) H := by
  have sm : Same (vis (ownW Z σ ρ) m H) (vis (ownW Z (σ.set i (some v)) (ρ.set i (.v d))) m H) := vis_mono fun b => own_set
  refine ⟨⟨by simpa using S.len, S.mu.less fun b => own_set, fun j e h => ?_, fun j a c h => ?_, fun j k a c c' h1 h2 => ?_, fun j c ks ds h => ?_⟩, List.prefix_refl _, fun _ _ => rfl, sm⟩
  · by_cases hj : i = j
    · subst hj
      rw [List.getElem?_set] at h
      simp at h
      obtain ⟨hl, rfl⟩ := h
      have hl' : i < σ.length := by rw [← S.len]; exact hl
      exact ⟨v, by simp [hl'], Rep.mono (List.prefix_refl _) sm _ _ r⟩
    · rw [List.getElem?_set_ne hj] at h
      obtain ⟨u, e1, q⟩ := S.val j e h
      exact ⟨u, by rw [List.getElem?_set_ne hj]; exact e1, Rep.mono (List.prefix_refl _) sm _ _ q⟩
  · by_cases hj : i = j
    · subst hj
      rw [List.getElem?_set] at h
      simp at h
    · rw [List.getElem?_set_ne hj] at h
      obtain ⟨e1, nz, q⟩ := S.own j a c h
      exact ⟨by rw [List.getElem?_set_ne hj]; exact e1, nz, q.keep (List.prefix_refl _) sm rfl⟩
  · have nj : i ≠ j := fun e => by subst e; rw [List.getElem?_set] at h1; simp at h1
    have nk : i ≠ k := fun e => by subst e; rw [List.getElem?_set] at h2; simp at h2
    rw [List.getElem?_set_ne nj] at h1
    rw [List.getElem?_set_ne nk] at h2
    exact S.dis j k a c c' h1 h2
  · have nj : i ≠ j := fun e => by subst e; rw [List.getElem?_set] at h; simp at h
    rw [List.getElem?_set_ne nj] at h ⊢
    exact (S.exn j c ks ds h).mono (List.prefix_refl _) sm
def sSet (i : Nat) (wa : WE) : WS := fun E ρ μ => wa ρ μ (fun d μ1 => E.nx (ρ.set i (.v d)) μ1) fun c ks es μ' => E.xc c ks es ρ μ'
/-! ### targets -/
abbrev WG := D → DS → Mu → (DS → Mu → Prop) → Prop
abbrev WGs := List D → DS → Mu → (DS → Mu → Prop) → Prop
def liftG (G : Gx) (g : WG) : TG := fun v σ H Q' => ∃ Z m ρ μ d Q, SR G Z m σ H ρ μ ∧ Rep G m (vis (ownW Z σ ρ) m H) d v ∧ g d ρ μ Q ∧ ∀ σ' H', SPost G Z m σ ρ H Q σ' H' → Q' σ' H'
def liftGs (G : Gx) (g : WGs) : TGs := fun vs σ H Q' => ∃ Z m ρ μ ds Q, SR G Z m σ H ρ μ ∧ Reps G m (vis (ownW Z σ ρ) m H) ds vs ∧ g ds ρ μ Q ∧ ∀ σ' H', SPost G Z m σ ρ H Q σ' H' → Q' σ' H'
abbrev DG (ex : Option (Addr × Addr × Addr)) (X : Cx) (e : Expr) (g : WG) : Prop := PG X e (liftG (gx X ex) g)
abbrev DGs (ex : Option (Addr × Addr × Addr)) (X : Cx) (e : List Expr) (g : WGs) : Prop := PGs X e (liftGs (gx X ex) g)
theorem pg_weak {X : Cx} {e : Expr} {t t' : TG} (h : PG X e t) (k : ∀ v σ H Q, t' v σ H Q → t v σ H Q) : PG X e t' := ⟨fun pins s σ H v u Q I r q => h.run pins s σ H v u Q I r (k v σ H Q q)⟩
theorem pgs_weak {X : Cx} {e : List Expr} {t t' : TGs} (h : PGs X e t) (k : ∀ v σ H Q, t' v σ H Q → t v σ H Q) : PGs X e t' := ⟨fun pins s σ H v u Q I r q => h.run pins s σ H v u Q I r (k v σ H Q q)⟩
def kName (i : Nat) : WG := fun d ρ μ Q => Q (ρ.set i (.v d)) μ
def kNil : WGs := fun ds ρ μ Q => match ds with
  | [] => Q ρ μ
  | _ :: _ => False
def kCons (g : WG) (gs : WGs) : WGs := fun ds ρ μ Q => match ds with
  | d :: r => g d ρ μ fun ρ1 μ1 => gs r ρ1 μ1 Q
  | [] => False
def kTup (n : Nat) (gs : WGs) : WG := fun d ρ μ Q => match d with
  | .tup ds => ds.length = n ∧ gs ds ρ μ Q
  | _ => False
section
variable {ex : Option (Addr × Addr × Addr)} {W : WX} {X : Cx} {e : Expr} {es : List Expr} {pos : Pos}
theorem dg_name {i : Nat} {x : Str} (hN : X.N.Nodup) (hi : X.N[i]? = some x) (hx : Loc X.env.scope x := by first | exact Or.inl rfl | exact Or.inr rfl) (hf : X.fn x = true ∨ X.env.scope.names.lookup x = some .local := by first | exact .inl rfl | exact .inr rfl | assumption) :
    DG ex X (.Name x pos) (kName i) := pg_weak (pg_name hN hi hx hf) fun v σ H Q' q => by
  obtain ⟨Z, m, ρ, μ, d, Q, S, r, q, k⟩ := q
  obtain ⟨S1, s1⟩ := S.set (i := i) r
  exact k _ _ ⟨m, _, μ, S1, s1, q⟩
theorem dgs_nil : DGs ex X [] kNil := pgs_weak pgs_nil fun vs σ H Q' q => by
  obtain ⟨Z, m, ρ, μ, ds, Q, S, r, q, k⟩ := q
  cases ds with
  | nil => rw [Reps] at r; exact ⟨r, k _ _ ⟨m, ρ, μ, S, .refl, q⟩⟩
  | cons d ds => exact q.elim
theorem dgs_cons {g : WG} {gs : WGs} (h1 : DG ex X e g) (h2 : DGs ex X es gs) (hs : (assignEach (e :: es) X.env).map (·.2) = assign e X.env :: (assignEach es X.env).map (·.2) := by rfl) : DGs ex X (e :: es) (kCons g gs) :=
  pgs_weak (pgs_cons h1 h2 hs) fun vs σ H Q' q => by
  obtain ⟨Z, m, ρ, μ, ds, Q, S, r, q, k⟩ := q
  cases ds with
  | nil => exact q.elim
  | cons d ds =>
    obtain ⟨v, vr, rfl, r1, r2⟩ := r.uncons
    refine ⟨v, vr, rfl, Z, m, ρ, μ, d, _, S, r1, q, fun σ1 H1 P => ?_⟩
    obtain ⟨m1, ρ1, μ1, S1, s1, q1⟩ := P
    exact ⟨Z, m1, ρ1, μ1, ds, Q, S1, Reps.mono s1.pre s1.same _ _ r2, q1, fun σ' H' P => k σ' H' (SPost.from s1 P)⟩
theorem dg_tup {k : Nat} {gs : WGs} {n : Nat} (hc : X.calm = true) (h : DGs ex X es gs) (hn : (assignEach es X.env).length = n := by rfl) (hst : (assignEach es X.env).findIdx? (·.1) = none := by rfl) : DG ex X (.Tuple es k pos) (kTup n gs) :=
  pg_weak (pg_tup hc h hn hst) fun v σ H Q' q => by
  obtain ⟨Z, m, ρ, μ, d, Q, S, r, q, k⟩ := q
  cases d with
  | tup ds =>
    obtain ⟨hl, q⟩ := q
    rw [Rep] at r
    obtain ⟨a, vs, e1, st, rs⟩ := r
    exact ⟨a, vs, e1, SqT.same vis_le st, by rw [← rs.len]; exact hl, Z, m, ρ, μ, ds, Q, S, rs, q, k⟩
  | _ => exact q.elim
/-- target = value -/
def sAsg (wa : WE) (g : WG) : WS := fun E ρ μ => wa ρ μ (fun d μ1 => g d ρ μ1 E.nx) fun c ks es μ' => E.xc c ks es ρ μ'
theorem ds_asg {tg : Expr} {wa : WE} {g : WG} (he : DE ex W X e wa) (hg : DG ex X tg g) (hs : swapsWithSole [tg] e pos.line X.env = pure false := by rfl) (hw : swappedStores [tg] e X.env = pure none := by rfl)
    (h1 : (assignEach [tg] X.env).map (·.2) = [assign tg X.env] := by rfl) : DSt ex W X (.Assign [tg] e pos) (sAsg wa g) := ps_weak (ps_asg he hg hs hw h1) fun D σ H q => by
  obtain ⟨Z, m, ρ, μ, E, S, q, kn, kr, kb, kc, kx⟩ := q
  refine ⟨Z, m, ρ, μ, _, _, S, q, fun v H1 P => ?_, fun cls d H' P => kx cls d σ H' (XSPost.of S P)⟩
  obtain ⟨m1, d, μ1, s1, r1, q1⟩ := P
  exact ⟨Z, m1, ρ, μ1, d, _, S.step s1, r1, q1, fun σ' H' P => kn σ' H' (SPost.from (SStep.of s1) P)⟩
theorem ds_set {i : Nat} {x : Str} {wa : WE} {pos' : Pos} (hN : X.N.Nodup) (hi : X.N[i]? = some x) (he : DE ex W X e wa) (hx : Loc X.env.scope x := by first | exact Or.inl rfl | exact Or.inr rfl)
    (hs : swapsWith e (some (.Name x pos')) pos.line X.env = pure false := by rfl) (hf : X.fn x = true ∨ X.env.scope.names.lookup x = some .local := by first | exact .inl rfl | exact .inr rfl | assumption) :
    DSt ex W X (.Assign [.Name x pos'] e pos) (sSet i wa) := ps_weak (ps_set (i := i) hN hi hx he hs hf) fun D σ H q => by
  obtain ⟨Z, m, ρ, μ, E, S, q, kn, kr, kb, kc, kx⟩ := q
  refine ⟨Z, m, ρ, μ, _, _, S, q, fun v H1 P => ?_, fun cls d H' P => kx cls d σ H' (XSPost.of S P)⟩
  obtain ⟨m1, d, μ1, s1, r1, q1⟩ := P
  obtain ⟨S1, s2⟩ := (S.step s1).set (i := i) r1
  exact kn _ _ ⟨m1, _, μ1, S1, (SStep.of s1).trans s2, q1⟩
/-- a, b = x, y and a, b, c = x, y, z: plain local names -/
def kPar2 (i j : Nat) (E : DEnds) (ρ : DS) : List D → Mu → Prop
  | [a, b], μ1 => E.nx ((ρ.set i (.v a)).set j (.v b)) μ1
  | _, _ => False
def kPar3 (i j l : Nat) (E : DEnds) (ρ : DS) : List D → Mu → Prop
  | [a, b, c], μ1 => E.nx (((ρ.set i (.v a)).set j (.v b)).set l (.v c)) μ1
  | _, _ => False
theorem kPar2_of {i j : Nat} {E : DEnds} {ρ : DS} {ds : List D} {μ : Mu} (h : kPar2 i j E ρ ds μ) : ∃ a b, ds = [a, b] ∧ E.nx ((ρ.set i (.v a)).set j (.v b)) μ := by
  match ds, h with
  | [a, b], h => exact ⟨a, b, rfl, h⟩
theorem kPar3_of {i j l : Nat} {E : DEnds} {ρ : DS} {ds : List D} {μ : Mu} (h : kPar3 i j l E ρ ds μ) : ∃ a b c, ds = [a, b, c] ∧ E.nx (((ρ.set i (.v a)).set j (.v b)).set l (.v c)) μ := by
  match ds, h with
  | [a, b, c], h => exact ⟨a, b, c, rfl, h⟩
def sPar2 (i j : Nat) (wa : WA) : WS := fun E ρ μ => wa ρ μ (kPar2 i j E ρ) fun c ks es μ' => E.xc c ks es ρ μ'
def sPar3 (i j l : Nat) (wa : WA) : WS := fun E ρ μ => wa ρ μ (kPar3 i j l E ρ) fun c ks es μ' => E.xc c ks es ρ μ'
theorem ds_par2 {i j : Nat} {x y : Str} {a b : Expr} {ws : WA} {px py pt : Pos} {kt k2 pt2} (hc : X.calm = true) (hN : X.N.Nodup) (hi : X.N[i]? = some x) (hj : X.N[j]? = some y) (hij : i ≠ j)
    (ha : DA ex W X [a, b] ws) (hx : X.env.scope.names.lookup x = some .local := by rfl) (hy : X.env.scope.names.lookup y = some .local := by rfl)
    (hw : swappedStores [.Tuple [.Name x px, .Name y py] kt pt] (.Tuple [a, b] k2 pt2) X.env = pure (some [x, y]) := by rfl)
    (hs : swapsWithSole [.Tuple [.Name x px, .Name y py] kt pt] (.Tuple [a, b] k2 pt2) pos.line X.env = pure false := by rfl) :
    DSt ex W X (.Assign [.Tuple [.Name x px, .Name y py] kt pt] (.Tuple [a, b] k2 pt2) pos) (sPar2 i j ws) := ps_weak (ps_par hc hN hi hj hij hx hy ha hw hs) fun D σ H q => by
  obtain ⟨Z, m, ρ, μ, E, S, q, kn, kr, kb, kc, kx⟩ := q
  refine ⟨Z, m, ρ, μ, kPar2 i j E ρ, _, S, q, fun vs H1 P => ?_, fun cls d H' P => kx cls d σ H' (XSPost.of S P)⟩
  obtain ⟨m1, ds, μ1, s1, r1, q1⟩ := P
  obtain ⟨d1, d2, rfl, q1⟩ := kPar2_of q1
  obtain ⟨v1, _, rfl, h1, r1⟩ := r1.uncons
  obtain ⟨v2, _, rfl, h2, r1⟩ := r1.uncons
  rw [Reps] at r1
  subst r1
  obtain ⟨S1, t1⟩ := (S.step s1).set (i := i) h1
  obtain ⟨S2, t2⟩ := S1.set (i := j) (Rep.mono t1.pre t1.same _ _ h2)
  exact ⟨v1, v2, rfl, kn _ _ ⟨m1, _, μ1, S2, ((SStep.of s1).trans t1).trans t2, q1⟩⟩
theorem ds_par3 {i j l : Nat} {x y z : Str} {a b c : Expr} {ws : WA} {px py pz pt : Pos} {kt k2 pt2} (hc : X.calm = true) (hN : X.N.Nodup) (hi : X.N[i]? = some x) (hj : X.N[j]? = some y) (hl : X.N[l]? = some z) (hij : i ≠ j) (hil : i ≠ l) (hjl : j ≠ l)
    (ha : DA ex W X [a, b, c] ws) (hx : X.env.scope.names.lookup x = some .local := by rfl) (hy : X.env.scope.names.lookup y = some .local := by rfl) (hz : X.env.scope.names.lookup z = some .local := by rfl)
    (hw : swappedStores [.Tuple [.Name x px, .Name y py, .Name z pz] kt pt] (.Tuple [a, b, c] k2 pt2) X.env = pure (some [x, y, z]) := by rfl)
    (hs : swapsWithSole [.Tuple [.Name x px, .Name y py, .Name z pz] kt pt] (.Tuple [a, b, c] k2 pt2) pos.line X.env = pure false := by rfl) :
    DSt ex W X (.Assign [.Tuple [.Name x px, .Name y py, .Name z pz] kt pt] (.Tuple [a, b, c] k2 pt2) pos) (sPar3 i j l ws) := ps_weak (ps_par3 hc hN hi hj hl hij hil hjl hx hy hz ha hw hs) fun D σ H q => by
  obtain ⟨Z, m, ρ, μ, E, S, q, kn, kr, kb, kc, kx⟩ := q
  refine ⟨Z, m, ρ, μ, kPar3 i j l E ρ, _, S, q, fun vs H1 P => ?_, fun cls d H' P => kx cls d σ H' (XSPost.of S P)⟩
  obtain ⟨m1, ds, μ1, s1, r1, q1⟩ := P
  obtain ⟨d1, d2, d3, rfl, q1⟩ := kPar3_of q1
  obtain ⟨v1, _, rfl, h1, r1⟩ := r1.uncons
  obtain ⟨v2, _, rfl, h2, r1⟩ := r1.uncons
  obtain ⟨v3, _, rfl, h3, r1⟩ := r1.uncons
  rw [Reps] at r1
  subst r1
  obtain ⟨S1, t1⟩ := (S.step s1).set (i := i) h1
  obtain ⟨S2, t2⟩ := S1.set (i := j) (Rep.mono t1.pre t1.same _ _ h2)
  obtain ⟨S3, t3⟩ := S2.set (i := l) (Rep.mono (t1.trans t2).pre (t1.trans t2).same _ _ h3)
  exact ⟨v1, v2, v3, rfl, kn _ _ ⟨m1, _, μ1, S3, (((SStep.of s1).trans t1).trans t2).trans t3, q1⟩⟩
/-- name op= e -/
def sAug (i : Nat) (f : F2) (wa : WE) : WS := fun E ρ μ => match ρ[i]? with
  | some (.v x) => wa ρ μ (fun y μ1 => f x y μ1 fun z μ2 => E.nx (ρ.set i (.v z)) μ2) fun c ks es μ' => E.xc c ks es ρ μ'
  | _ => False
theorem ds_aug {i : Nat} {x : Str} {wa : WE} {op : Operator} {r : R2} {f : F2} {pos' : Pos} (ho : OpR X (inplaceOp op) r) (hf2 : S2 (gx X ex) r f) (hN : X.N.Nodup) (hi : X.N[i]? = some x) (he : DE ex W X e wa) (hx : Loc X.env.scope x := by first | exact Or.inl rfl | exact Or.inr rfl)
    (hf : X.fn x = true ∨ X.env.scope.names.lookup x = some .local := by first | exact .inl rfl | exact .inr rfl | assumption) : DSt ex W X (.AugAssign (.Name x pos') op e pos) (sAug i f wa) := ps_weak (ps_aug (i := i) (ti := r) hN hi hx he (fun pins s σ H x y v u Q I rx ry q => ho pins s σ H x y v u Q I rx ry q) hf) fun D σ H q => by
  obtain ⟨Z, m, ρ, μ, E, S, q, kn, kr, kb, kc, kx⟩ := q
  unfold sAug at q
  split at q
  · rename_i d ed
    obtain ⟨v, e1, r0⟩ := S.val i d ed
    refine ⟨v, e1, Z, m, ρ, μ, _, _, S, q, fun u H1 P => ?_, fun cls d H' P => kx cls d σ H' (XSPost.of S P)⟩
    obtain ⟨m1, y, μ1, s1, r1, q1⟩ := P
    refine hf2 _ m1 μ1 H1 d y v u _ _ s1.mu (Rep.mono s1.pre s1.same _ _ r0) r1 q1 fun z H' P => ?_
    obtain ⟨m2, zd, μ2, s2, r2, q2⟩ := P
    obtain ⟨S2, t2⟩ := ((S.step s1).step s2).set (i := i) r2
    exact kn _ _ ⟨m2, _, μ2, S2, (SStep.of (s1.trans s2)).trans t2, q2⟩
  · exact q.elim
end

/-! ### a def -/
def startD (N : List Str) (ds : List D) : DS := ds.map Sl.v ++ List.replicate (N.length - ds.length) Sl.no
theorem start_own {Z : Addr → Prop} {N : List Str} {ds : List D} {vs : List V} : ownW Z (L2.start N vs) (startD N ds) = Z := by
  funext b
  apply propext
  constructor
  · rintro (h | ⟨i, es, e1⟩)
    · exact h
    · unfold startD at e1
      rw [List.getElem?_append] at e1
      split at e1
      · rw [List.getElem?_map] at e1
        cases q : ds[i]? with
        | none => rw [q] at e1; cases e1
        | some d => rw [q] at e1; cases e1
      · have := List.mem_of_getElem? e1
        rw [List.mem_replicate] at this
        exact nomatch this.2
  · exact fun h => .inl h
theorem SR.start {G : Gx} {Z : Addr → Prop} {m : List Addr} {H : Hp} {μ : Mu} {N : List Str} {ds : List D} {vs : List V} (M : MuOk G Z m μ H) (r : Reps G m (vis Z m H) ds vs) : SR G Z m (L2.start N vs) H (startD N ds) μ := by
  refine ⟨by simp [startD, L2.start, r.len], by rw [start_own]; exact M, fun i d e => ?_, fun i a es e => ?_, fun i j a es fs e1 e2 => ?_, fun i c ks es e1 => ?_⟩
  · unfold startD at e
    rw [List.getElem?_append] at e
    split at e
    · rename_i hl
      rw [List.getElem?_map] at e
      rw [List.length_map] at hl
      cases q : ds[i]? with
      | none => rw [q] at e; cases e
      | some d' =>
        rw [q] at e
        cases e
        obtain ⟨v, ev, rv⟩ := r.get q
        refine ⟨v, ?_, by rw [start_own]; exact rv⟩
        unfold L2.start
        rw [List.getElem?_append_left (by rw [List.length_map, ← r.len]; exact hl), List.getElem?_map, ev]
        rfl
    · have := List.mem_of_getElem? e
      rw [List.mem_replicate] at this
      exact nomatch this.2
  · unfold startD at e
    rw [List.getElem?_append] at e
    split at e
    · rw [List.getElem?_map] at e
      cases q : ds[i]? with
      | none => rw [q] at e; cases e
      | some d' => rw [q] at e; cases e
    · have := List.mem_of_getElem? e
      rw [List.mem_replicate] at this
      exact nomatch this.2
  · unfold startD at e1
    rw [List.getElem?_append] at e1
    split at e1
    · rw [List.getElem?_map] at e1
      cases q : ds[i]? with
      | none => rw [q] at e1; cases e1
      | some d' => rw [q] at e1; cases e1
    · have := List.mem_of_getElem? e1
      rw [List.mem_replicate] at this
      exact nomatch this.2
  · unfold startD at e1
    rw [List.getElem?_append] at e1
    split at e1
    · rw [List.getElem?_map] at e1
      cases q : ds[i]? with
      | none => rw [q] at e1; cases e1
      | some d' => rw [q] at e1; cases e1
    · have := List.mem_of_getElem? e1
      rw [List.mem_replicate] at this
      exact nomatch this.2
section
variable {P : Program} {w : World} {K : PySem.W.Frag} {mg : Str → Option Value} {base : Heap}
/-- the ends of a def's body -/
def defE (Q : D → Mu → Prop) (Xd : XD) : DEnds := { nx := fun _ μ => Q .non μ, rt := Q, xc := fun c ks es _ μ => Xd c ks es μ }
theorem fnG_of {x qual : Str} {params : Arguments} {body : List Stmt} {scope : Scope} {dvs : List V} {kws : List (Str × V)} {f : Addr} {fd : FuncData} {N ps : List Str} {k : Nat} {sp : Sp} (F : FunD K x qual params body scope dvs kws f fd) (S : FnScope N ps scope)
    (len : ∀ vs H Q E, sp vs H Q E → vs.length = ps.length)
    (hbody : ∀ (cdv : Value) (A : Around) (fr : List Env) (s : Shared) (H : Hp) (vs : List V) (Q : VK) (E : XK), Room k (A.deeper (envOfC qual scope s.heap.objs.size f cdv)) → (A.deeper (envOfC qual scope s.heap.objs.size f cdv)).guards = some [] → sp vs H Q E →
      ∃ t, PSs (cxOf (L2.CX P w) P w K mg base N qual scope f cdv A fr s H E) body t ∧ t { nx := fun _ H' => Q .non H', rt := Q } (L2.start N vs) H) : FnG P w K mg base (k + 1) f fd ps sp := by
  obtain ⟨oc, od, dV, kV, doc, pm, an, cdv, ct, osl, rfl, lk, hcd, _, _⟩ := F.ex
  refine ⟨len, fun A fr s H args us vs Q E room gd env bd rv hsp => ?_⟩
  have hlen := len _ _ _ _ hsp
  have kin : K.In s.heap := env.mod.kin.keeps fun b o e => (env.bs b o e).1
  have nolim : s.heap.NoLimit := env.mod.nolimit.keeps fun b o e => (env.bs b o e).1
  have kinds : ∀ y ∈ ps.zip us, scope.names.lookup y.1 = some .local ∨ (scope.names.lookup y.1 = some .cell ∧ ((cellsFrom (s.heap.objs.size + 1) scope.names []).lookup y.1).isSome = true) := by
    rintro ⟨n, v⟩ hy
    exact (S.par n (List.of_mem_zip hy).1).elim .inl fun q => .inr ⟨q, PySem.W.cellsFrom_some _ _ _ (.inl q)⟩
  refine codeAny_call_function room.depth (kin _ _ lk) rfl S.co S.gen rfl (PySem.W.codeRec_of kin hcd) (bd _ _ _ _ ?_)
  refine wpAny_newFunctionEnv_cells S.kind kinds fun env1 he1 s1 made => ?_
  subst he1
  refine ⟨nolim.keeps made.toInCall.keep, codeAny_func ?_⟩
  obtain ⟨t, ht, hq⟩ := hbody cdv A fr s H vs Q E (room.deeper _) gd hsp
  have I : Inv (cxOf (L2.CX P w) P w K mg base N qual scope f cdv A fr s H E) [] (L2.start N vs) H s1 := inv_start S room.hd env hlen rv made
  refine wpAny_mono (ht.run [] s1 (L2.start N vs) H _ I hq) (fun fl s2 hs => ?_) fun er s2 hs => hs
  match fl, hs with
  | .ret u, ⟨v, σ2, H2, J, rv2, q⟩ => exact ⟨v, H2, J.os, J.bare, J.base, J.hok, rv2, q⟩
  | .next, ⟨σ2, H2, J, q⟩ => exact ⟨V.non, H2, J.os, J.bare, J.base, J.hok, rfl, q⟩
  | .brk, ⟨_, _, _, q⟩ => exact q.elim
  | .cont, ⟨_, _, _, q⟩ => exact q.elim
theorem def_ok {x qual : Str} {params : Arguments} {body : List Stmt} {scope : Scope} {dvs : List V} {kws : List (Str × V)} {f : Addr} {fd : FuncData} {N ps : List Str} {k : Nat} {sp : DSp} {wb : WS} (F : FunD K x qual params body scope dvs kws f fd) (S : FnScope N ps scope)
    (len : ∀ ds μ Q Xd, sp ds μ Q Xd → ds.length = ps.length)
    (hbody : ∀ (cdv : Value) (A : Around) (fr : List Env) (s : Shared) (H : Hp) (E : XK), Room k (A.deeper (envOfC qual scope s.heap.objs.size f cdv)) → (A.deeper (envOfC qual scope s.heap.objs.size f cdv)).guards = some [] →
      DSs none (fun cls d _ H' => E cls d H') (cxOf (L2.CX P w) P w K mg base N qual scope f cdv A fr s H E) body wb)
    (hw : ∀ ds μ Q Xd, sp ds μ Q Xd → wb (defE Q Xd) (startD N ds) μ) : FnG P w K mg base (k + 1) f fd ps (toSp ⟨K, mg, none⟩ sp) := by
  refine fnG_of F S (fun vs H Q E h => ?_) (fun cdv A outer s H vs Q E hr hgd h => ?_)
  · obtain ⟨Z, m, μ, ds, Q', Xd, M, r, q, _⟩ := h
    rw [← r.len]
    exact len _ _ _ _ q
  · refine ⟨_, hbody cdv A outer s H E hr hgd, ?_⟩
    obtain ⟨Z, m, μ, ds, Q', Xd, M, r, q, kq, kx⟩ := h
    refine ⟨Z, m, startD N ds, μ, defE Q' Xd, .start M r, hw ds μ Q' Xd q, fun σ' H' P => ?_, fun v H' P => ?_, fun σ' H' P => ?_, fun σ' H' P => ?_, fun cls d σ' H' P => ?_⟩
    · obtain ⟨m', ρ', μ', S', s', q'⟩ := P
      have z := s'.same
      rw [start_own] at z
      exact kq _ _ ⟨m', .non, μ', ⟨s'.pre, s'.hid, S'.mu.out_own, z.trans vis_own⟩, by rw [Rep], q'⟩
    · obtain ⟨m', d, μ', h1, h2, h3, h4, h5, h6⟩ := P
      rw [start_own] at h4
      exact kq _ _ ⟨m', d, μ', ⟨h1, h2, h3, h4⟩, h5, h6⟩
    · obtain ⟨m', ρ', μ', S', s', q'⟩ := P
      exact q'.elim
    · obtain ⟨m', ρ', μ', S', s', q'⟩ := P
      exact q'.elim
    · obtain ⟨m', c, ks, es, ρ', μ', C, dd, vs', S', s', e1, e2, e3, e4, e5, e6, q'⟩ := P
      have z := s'.same
      rw [start_own] at z
      exact kx _ _ _ ⟨m', c, ks, es, μ', C, dd, vs', ⟨s'.pre, s'.hid, S'.mu.out_own, z.trans vis_own⟩, e1, e2, e3, vis_own _ _ e4, e5, Reps.mono (List.prefix_refl _) vis_own _ _ e6, q'⟩
end
end DL

set_option Elab.async false
set_option linter.all false
set_option maxRecDepth 100000
set_option maxHeartbeats 4000000
set_option autoImplicit false
namespace DL
open PySem PySem.Spec PyProof.Rows L2
/-! ### operations on ints -/
def fII (C : Int → Int → Prop) (g : Int → Int → Int) : F2
  | .int i, .int j, μ, Q => C i j ∧ Q (.int (g i j)) μ
  | _, _, _, _ => False
def fII0 (g : Int → Int → Int) : F2
  | .int i, .int j, μ, Q => Q (.int (g i j)) μ
  | _, _, _, _ => False
def fIB (g : Int → Int → Bool) : F2
  | .int i, .int j, μ, Q => Q (.bl (g i j)) μ
  | _, _, _, _ => False
def fI (g : Int → Int) : F1
  | .int i, μ, Q => Q (.int (g i)) μ
  | _, _, _ => False
theorem fII_of {C : Int → Int → Prop} {g : Int → Int → Int} {x y : D} {μ : Mu} {Q : D → Mu → Prop} (h : fII C g x y μ Q) : ∃ i j, x = .int i ∧ y = .int j ∧ C i j ∧ Q (.int (g i j)) μ := by
  unfold fII at h
  split at h
  · exact ⟨_, _, rfl, rfl, h⟩
  · exact h.elim
theorem fII0_of {g : Int → Int → Int} {x y : D} {μ : Mu} {Q : D → Mu → Prop} (h : fII0 g x y μ Q) : ∃ i j, x = .int i ∧ y = .int j ∧ Q (.int (g i j)) μ := by
  unfold fII0 at h
  split at h
  · exact ⟨_, _, rfl, rfl, h⟩
  · exact h.elim
theorem fIB_of {g : Int → Int → Bool} {x y : D} {μ : Mu} {Q : D → Mu → Prop} (h : fIB g x y μ Q) : ∃ i j, x = .int i ∧ y = .int j ∧ Q (.bl (g i j)) μ := by
  unfold fIB at h
  split at h
  · exact ⟨_, _, rfl, rfl, h⟩
  · exact h.elim
theorem s2_II {G : Gx} {C : Int → Int → Prop} {g : Int → Int → Int} : S2 G (rI C fun i j => .int (g i j)) (fII C g) := by
  intro Z m μ H x y u v Q Q' M rx ry h k
  obtain ⟨i, j, rfl, rfl, c, q⟩ := fII_of h
  rw [Rep] at rx ry
  exact ⟨i, j, rx, ry, c, k _ _ (.now M (by rw [Rep]) q)⟩
theorem s2_II0 {G : Gx} {g : Int → Int → Int} : S2 G (rI0 fun i j => .int (g i j)) (fII0 g) := by
  intro Z m μ H x y u v Q Q' M rx ry h k
  obtain ⟨i, j, rfl, rfl, q⟩ := fII0_of h
  rw [Rep] at rx ry
  exact ⟨i, j, rx, ry, k _ _ (.now M (by rw [Rep]) q)⟩
theorem s2_IB {G : Gx} {g : Int → Int → Bool} : S2 G (rI0 fun i j => .bl (g i j)) (fIB g) := by
  intro Z m μ H x y u v Q Q' M rx ry h k
  obtain ⟨i, j, rfl, rfl, q⟩ := fIB_of h
  rw [Rep] at rx ry
  exact ⟨i, j, rx, ry, k _ _ (.now M (by rw [Rep]) q)⟩
theorem fI_of {g : Int → Int} {x : D} {μ : Mu} {Q : D → Mu → Prop} (h : fI g x μ Q) : ∃ i, x = .int i ∧ Q (.int (g i)) μ := by
  unfold fI at h
  split at h
  · exact ⟨_, rfl, h⟩
  · exact h.elim
theorem s1_I {G : Gx} {g : Int → Int} : S1 G (rU fun i => .int (g i)) (fI g) := by
  intro Z m μ H x u Q Q' M rx h k
  obtain ⟨i, rfl, q⟩ := fI_of h
  rw [Rep] at rx
  exact ⟨i, rx, k _ _ (.now M (by rw [Rep]) q)⟩
abbrev fAdd : F2 := fII0 fun i j => i + j
abbrev fSub : F2 := fII0 fun i j => i - j
def CM (i j : Int) : Prop := CMul i j ∨ CMulW i j
theorem op_mulU {X : Cx} : OpR X (binaryOp .Mult) (rI CM fun i j => .int (i * j)) := by
  intro pins s σ H x y v u Q I rx ry h
  obtain ⟨i, j, e1, e2, c, q⟩ := h
  rcases c with c | c
  · exact op_mul pins s σ H x y v u Q I rx ry ⟨i, j, e1, e2, c, q⟩
  · exact op_mulW pins s σ H x y v u Q I rx ry ⟨i, j, e1, e2, c, q⟩
abbrev fMul : F2 := fII CM fun i j => i * j
abbrev fDiv : F2 := fII CDivW fun i j => i / j
abbrev fMod : F2 := fII (fun _ j => 0 < j) fun i j => i % j
abbrev fPow : F2 := fII CPow fun i j => i ^ j.toNat
abbrev fNeg : F1 := fI fun i => -i
abbrev fLt : F2 := fIB fun i j => decide (i < j)
abbrev fLe : F2 := fIB fun i j => decide (i ≤ j)
abbrev fGt : F2 := fIB fun i j => decide (j < i)
abbrev fGe : F2 := fIB fun i j => decide (j ≤ i)
abbrev fEqI : F2 := fIB fun i j => decide (i = j)
abbrev fNeI : F2 := fIB fun i j => !decide (i = j)
/-- is, is not of a value and None -/
def isNon : D → Bool
  | .non => true
  | _ => false
def fIsN : F2
  | x, .non, μ, Q => Q (.bl (isNon x)) μ
  | _, _, _, _ => False
def fNotN : F2
  | x, .non, μ, Q => Q (.bl (!isNon x)) μ
  | _, _, _, _ => False
theorem rep_non {G : Gx} {m : List Addr} {E : Hp} {x : D} {u : V} (r : Rep G m E x u) : decide (u = .non) = isNon x := by
  cases x <;> rw [Rep] at r
  case non => subst r; rfl
  case bl => subst r; rfl
  case int => subst r; rfl
  case str => subst r; rfl
  case ty => subst r; rfl
  case tup => obtain ⟨a, vs, rfl, _⟩ := r; rfl
  case lst => obtain ⟨a, vs, rfl, _⟩ := r; rfl
  case frl => obtain ⟨a, vs, rfl, _⟩ := r; rfl
  case obj => obtain ⟨a, C, dx, vs, rfl, _⟩ := r; rfl
  case loc => obtain ⟨a, rfl, _⟩ := r; rfl
  case cls => obtain ⟨C, _, rfl⟩ := r; rfl
  case opq => obtain ⟨a, rfl, _⟩ := r; rfl
theorem s2_isN {G : Gx} : S2 G (fun x y H Q => y = .non ∧ Q (.bl (decide (x = .non))) H) fIsN := by
  intro Z m μ H x y u v Q Q' M rx ry h k
  unfold fIsN at h
  split at h
  · rw [Rep] at ry
    refine ⟨ry, k _ _ (.now M (d := .bl _) ?_ h)⟩
    rw [Rep, rep_non rx]
  · exact h.elim
section
variable {ex : Option (Addr × Addr × Addr)} {W : WX} {X : Cx} {a b c : Expr} {wa wb wc : WE} {pos : Pos}
theorem de_sub (ha : DE ex W X a wa) (hb : DE ex W X b wb) : DE ex W X (.BinOp a .Sub b pos) (w2 fSub wa wb) := de_op op_sub s2_II0 ha hb
theorem de_div (ha : DE ex W X a wa) (hb : DE ex W X b wb) : DE ex W X (.BinOp a .FloorDiv b pos) (w2 fDiv wa wb) := de_op op_fdivW s2_II ha hb
theorem de_mod (ha : DE ex W X a wa) (hb : DE ex W X b wb) : DE ex W X (.BinOp a .Mod b pos) (w2 fMod wa wb) := de_op op_mod s2_II ha hb
theorem de_pow (ha : DE ex W X a wa) (hb : DE ex W X b wb) : DE ex W X (.BinOp a .Pow b pos) (w2 fPow wa wb) := de_op op_pow s2_II ha hb
theorem de_neg (ha : DE ex W X a wa) : DE ex W X (.UnaryOp .USub a pos) (w1 fNeg wa) := de_un un_neg s1_I ha
end
/-! ### data of the library, and == by it -/
mutual
def toP : D → Option PyData
  | .non => some .none
  | .bl b => some (.bool b)
  | .int i => some (.int i)
  | .str s => some (.str s)
  | .tup ds => (toPs ds).map .tuple
  | .lst ds => (toPs ds).map .list
  | .frl ds => (toPs ds).map .list
  | _ => none
def toPs : List D → Option (List PyData)
  | [] => some []
  | d :: ds => match toP d, toPs ds with
    | some p, some ps => some (p :: ps)
    | _, _ => none
end
mutual
theorem dp_of {G : Gx} {m : List Addr} {E H : Hp} (hE : Same E H) : ∀ (d : D) (v : V) (p : PyData), Rep G m E d v → toP d = some p → Dp G.K H v p
  | .non, v, p, r, e => by rw [Rep] at r; rw [toP] at e; cases e; subst r; exact .non
  | .bl b, v, p, r, e => by rw [Rep] at r; rw [toP] at e; cases e; subst r; exact .bl b
  | .int i, v, p, r, e => by rw [Rep] at r; rw [toP] at e; cases e; subst r; exact .int i
  | .str s, v, p, r, e => by rw [Rep] at r; rw [toP] at e; cases e; subst r; exact .str s
  | .tup ds, v, p, r, e => by
    rw [Rep] at r; rw [toP] at e
    obtain ⟨a, vs, rfl, s, q⟩ := r
    cases h : toPs ds with
    | none => rw [h] at e; cases e
    | some ps =>
      rw [h] at e; cases e
      exact .tup (SqT.same hE s) (dps_of hE ds vs ps q h)
  | .lst ds, v, p, r, e => by
    rw [Rep] at r; rw [toP] at e
    obtain ⟨a, vs, rfl, s, q⟩ := r
    cases h : toPs ds with
    | none => rw [h] at e; cases e
    | some ps =>
      rw [h] at e; cases e
      exact .lst (.inl (.inl (hE _ _ s))) (dps_of hE ds vs ps q h)
  | .frl ds, v, p, r, e => by
    rw [Rep] at r; rw [toP] at e
    obtain ⟨a, vs, rfl, s, q⟩ := r
    cases h : toPs ds with
    | none => rw [h] at e; cases e
    | some ps =>
      rw [h] at e; cases e
      exact .lst (Same.seq hE s) (dps_of hE ds vs ps q h)
  | .obj _ _ _, v, p, r, e => by simp [toP] at e
  | .loc _, v, p, r, e => by simp [toP] at e
  | .ty _, v, p, r, e => by simp [toP] at e
  | .cls _, v, p, r, e => by simp [toP] at e
  | .opq _, v, p, r, e => by simp [toP] at e
theorem dps_of {G : Gx} {m : List Addr} {E H : Hp} (hE : Same E H) : ∀ (ds : List D) (vs : List V) (ps : List PyData), Reps G m E ds vs → toPs ds = some ps → DpAll G.K H vs ps
  | [], vs, ps, r, e => by rw [Reps] at r; rw [toPs] at e; cases e; subst r; exact .nil
  | d :: ds, vs, ps, r, e => by
    obtain ⟨v, t, rfl, h, q⟩ := r.uncons
    rw [toPs] at e
    cases h1 : toP d with
    | none => rw [h1] at e; cases e
    | some p =>
      cases h2 : toPs ds with
      | none => rw [h1, h2] at e; cases e
      | some ps' =>
        rw [h1, h2] at e; cases e
        exact .cons (dp_of hE d v p h h1) (dps_of hE ds t ps' q h2)
end
/-- == of data -/
def eqD (x y : D) (k : Bool → Prop) : Prop := ∃ p q, toP x = some p ∧ toP y = some q ∧ SeqAt.shaped p = true ∧ SeqAt.shaped q = true ∧ k (PyData.eqv p q)
def fEqD : F2 := fun x y μ Q => eqD x y fun b => Q (.bl b) μ
def fNeD : F2 := fun x y μ Q => eqD x y fun b => Q (.bl (!b)) μ
theorem s2_eqD {G : Gx} : S2 G (rEqD G.K) fEqD := by
  intro Z m μ H x y u v Q Q' M rx ry h k
  obtain ⟨p, q, e1, e2, s1, s2, h⟩ := h
  exact ⟨p, q, dp_of vis_le _ _ _ rx e1, dp_of vis_le _ _ _ ry e2, s1, s2, k _ _ (.now M (by rw [Rep]) h)⟩
theorem s2_neD {G : Gx} : S2 G (rNeD G.K) fNeD := by
  intro Z m μ H x y u v Q Q' M rx ry h k
  obtain ⟨p, q, e1, e2, s1, s2, h⟩ := h
  exact ⟨p, q, dp_of vis_le _ _ _ rx e1, dp_of vis_le _ _ _ ry e2, s1, s2, k _ _ (.now M (by rw [Rep]) h)⟩
/-! ### items, lengths, cuts -/
/-- the items of a list or a tuple -/
def itemsD (d : D) (μ : Mu) : Option (List D) := match d with
  | .tup ds => some ds
  | .lst ds => some ds
  | .frl ds => some ds
  | .loc n => match μ[n]? with
    | some (.lst ds) => some ds
    | _ => none
  | _ => none
def fIx : F2 := fun x y μ Q => match itemsD x μ, y with
  | some ds, .int i => match atI ds i with
    | some d => Q d μ
    | none => False
  | _, _ => False
theorem atI_rep {G : Gx} {m : List Addr} {E : Hp} {ds : List D} {vs : List V} {i : Int} {d : D} (r : Reps G m E ds vs) (h : atI ds i = some d) : ∃ v, atI vs i = some v ∧ Rep G m E d v := by
  unfold atI at h ⊢
  rw [← r.len]
  cases e : ixN ds.length i with
  | none => rw [e] at h; cases h
  | some j =>
    rw [e] at h
    obtain ⟨v, e1, q⟩ := r.get (show ds[j]? = some d from h)
    exact ⟨v, e1, q⟩
theorem items_rep {G : Gx} {Z : Addr → Prop} {m : List Addr} {μ : Mu} {H : Hp} {x : D} {u : V} {ds : List D} (M : MuOk G Z m μ H) (r : Rep G m (vis Z m H) x u) (h : itemsD x μ = some ds) :
    ∃ a vs, u = .ref a ∧ (SqL G.K H a vs ∨ SqT G.K H a vs) ∧ Reps G m (vis Z m H) ds vs := by
  unfold itemsD at h
  split at h
  · cases h
    rw [Rep] at r
    obtain ⟨a, vs, e, s, q⟩ := r
    exact ⟨a, vs, e, .inr (SqT.same vis_le s), q⟩
  · cases h
    rw [Rep] at r
    obtain ⟨a, vs, e, s, q⟩ := r
    exact ⟨a, vs, e, .inl (.inl (.inl (vis_le _ _ s))), q⟩
  · cases h
    rw [Rep] at r
    obtain ⟨a, vs, e, s, q⟩ := r
    exact ⟨a, vs, e, .inl (Same.seq vis_le s), q⟩
  · rename_i n
    split at h
    · rename_i es e1
      cases h
      rw [Rep] at r
      obtain ⟨a, e, s⟩ := r
      obtain ⟨vs, h1, h2⟩ := M.cell n _ a e1 s
      exact ⟨a, vs, e, .inl (.inl (.inl h1)), h2⟩
    · cases h
  · cases h
def rIxLT (K : PySem.W.Frag) : R2 := fun x y H Q => rIxL K x y H Q ∨ rIxT K x y H Q
theorem s2_ix {G : Gx} : S2 G (rIxLT G.K) fIx := by
  intro Z m μ H x y u v Q Q' M rx ry h k
  unfold fIx at h
  split at h
  · rename_i ds i e1
    split at h
    · rename_i d e2
      rw [Rep] at ry
      obtain ⟨a, vs, e, s, q⟩ := items_rep M rx e1
      obtain ⟨w, ew, rw'⟩ := atI_rep q e2
      have fin := k w H (.now M rw' h)
      rcases s with s | s
      · exact .inl ⟨a, vs, i, w, e, ry, s, ew, fin⟩
      · exact .inr ⟨a, vs, i, w, e, ry, s, ew, fin⟩
    · exact h.elim
  · exact h.elim
def fLen : FN := fun xs μ Q => match xs with
  | [x] => match itemsD x μ with
    | some ds => Q (.int ds.length) μ
    | none => False
  | _ => False
theorem sn_len {G : Gx} : SN G (fun xs H Q => ∃ p ys, xs = [.ref p] ∧ (SqL G.K H p ys ∨ SqT G.K H p ys) ∧ Q (.int ys.length) H) fLen := by
  intro Z m μ H xs us Q Q' M r h k
  unfold fLen at h
  split at h
  · rename_i x
    split at h
    · rename_i ds e1
      obtain ⟨v, t, rfl, r1, r2⟩ := r.uncons
      rw [Reps] at r2
      subst r2
      obtain ⟨a, vs, rfl, s, q⟩ := items_rep M r1 e1
      exact ⟨a, vs, rfl, s, k _ _ (.now M (by rw [Rep, q.len]) h)⟩
    · exact h.elim
  · exact h.elim
/-- the cut of a list -/
def cutD (ds : List D) (lo hi : Option Int) : List D := (ds.drop (HT.sIx ds.length 0 lo)).take (HT.sIx ds.length ds.length hi - HT.sIx ds.length 0 lo)
theorem cut_rep {G : Gx} {m : List Addr} {E : Hp} {ds : List D} {vs : List V} {lo hi : Option Int} (r : Reps G m E ds vs) : Reps G m E (cutD ds lo hi) (cutV vs lo hi) := by
  unfold cutD cutV
  rw [← r.len]
  exact (r.drop _).take _
/-- a part of a slice -/
abbrev WO := DS → Mu → (Option Int → Mu → Prop) → XD → Prop
def oNone : WO := fun _ μ Q _ => Q none μ
def intOr (d : D) (Q : Int → Prop) : Prop := match d with
  | .int i => Q i
  | _ => False
theorem intOr_of {d : D} {Q : Int → Prop} (h : intOr d Q) : ∃ i, d = .int i ∧ Q i := by
  cases d <;> first | exact h.elim | exact ⟨_, rfl, h⟩
def oSome (wa : WE) : WO := fun ρ μ Q Xd => wa ρ μ (fun d μ1 => intOr d fun i => Q (some i) μ1) Xd
def OPost (G : Gx) (Z : Addr → Prop) (m : List Addr) (H : Hp) (Q : Option Int → Mu → Prop) (o : Option Int) (H' : Hp) : Prop := ∃ m' μ', Step G Z m H m' μ' H' ∧ Q o μ'
def liftO (G : Gx) (W : WX) (w : WO) : TO := fun σ H Q' => ∃ Z m ρ μ Q Xd, SR G Z m σ H ρ μ ∧ w ρ μ Q Xd ∧ (∀ o H', OPost G (ownW Z σ ρ) m H Q o H' → Q' o H') ∧ ∀ cls d H', XPost G (ownW Z σ ρ) m H Xd cls d H' → W cls d σ H'
abbrev DO (ex : Option (Addr × Addr × Addr)) (W : WX) (X : Cx) (e : Option Expr) (w : WO) : Prop := PO X e (liftO (gx X ex) W w)
theorem po_weak {X : Cx} {e : Option Expr} {t t' : TO} (h : PO X e t) (k : ∀ σ H Q, t' σ H Q → t σ H Q) : PO X e t' := ⟨fun pins s σ H Q I q => h.run pins s σ H Q I (k σ H Q q)⟩
def lstOr (d : D) (Q : List D → Prop) : Prop := match d with
  | .lst ds => Q ds
  | .frl ds => Q ds
  | _ => False
theorem lstOr_of {d : D} {Q : List D → Prop} (h : lstOr d Q) : ∃ ds, (d = .lst ds ∨ d = .frl ds) ∧ Q ds := by
  unfold lstOr at h
  split at h
  · exact ⟨_, .inl rfl, h⟩
  · exact ⟨_, .inr rfl, h⟩
  · exact h.elim
theorem lstOr_rep {G : Gx} {m : List Addr} {E : Hp} {d : D} {u : V} {Q : List D → Prop} (h : lstOr d Q) (r : Rep G m E d u) : ∃ ds a vs, u = .ref a ∧ SqL G.K E a vs ∧ Reps G m E ds vs ∧ Q ds := by
  obtain ⟨ds, e | e, q⟩ := lstOr_of h
  · subst e
    rw [Rep] at r
    obtain ⟨a, vs, e, s, r⟩ := r
    exact ⟨_, a, vs, e, .inl (.inl s), r, q⟩
  · subst e
    rw [Rep] at r
    obtain ⟨a, vs, e, s, r⟩ := r
    exact ⟨_, a, vs, e, s, r, q⟩
theorem SqL.same' {K : PySem.W.Frag} {H H' : Hp} {a : Addr} {xs : List V} (e : Same H H') (h : SqL K H a xs) : SqL K H' a xs := Same.seq e h
def wSl (wa : WE) (lo hi : WO) : WE := fun ρ μ Q Xd => wa ρ μ (fun x μ1 => lo ρ μ1 (fun l μ2 => hi ρ μ2 (fun u μ3 => lstOr x fun ds => Q (.lst (cutD ds l u)) μ3) Xd) Xd) Xd
section
variable {ex : Option (Addr × Addr × Addr)} {W : WX} {X : Cx} {a b c : Expr} {wa wb wc : WE} {wl wh : WO} {lo hi : Option Expr} {pos p2 : Pos}
theorem do_some (h : DE ex W X a wa) : DO ex W X (some a) (oSome wa) := po_weak (po_some h) fun σ H Q' q => by
  obtain ⟨Z, m, ρ, μ, Q, Xd, S, q, k, kx⟩ := q
  refine ⟨Z, m, ρ, μ, _, Xd, S, q, fun v H1 P => ?_, kx⟩
  obtain ⟨m1, d, μ1, s1, r1, q1⟩ := P
  obtain ⟨i, rfl, q2⟩ := intOr_of q1
  rw [Rep] at r1
  exact ⟨i, r1, k _ _ ⟨m1, μ1, s1, q2⟩⟩
theorem de_slice (ha : DE ex W X a wa) (hl : DO ex W X lo wl) (hh : DO ex W X hi wh) : DE ex W X (.Subscript a (.Slice lo hi none p2) pos) (wSl wa wl wh) := pe_weak (pe_slice sl_list ha hl hh) fun σ H Q' q => by
  refine lift_bind (f := fun x ρ μ1 Q Xd => wl ρ μ1 (fun l μ2 => wh ρ μ2 (fun u μ3 => lstOr x fun ds => Q (.lst (cutD ds l u)) μ3) Xd) Xd) q fun Z m ρ μ Q Xd x v H1 S r1 q1 k kx => ?_
  refine ⟨Z, m, ρ, μ, _, Xd, S, q1, fun l H2 P => ?_, kx⟩
  obtain ⟨m2, μ2, s2, q2⟩ := P
  refine ⟨Z, m2, ρ, μ2, _, Xd, S.step s2, q2, fun u H3 P => ?_, fun cls d H' P => kx cls d H' (XPost.from s2 P)⟩
  obtain ⟨m3, μ3, s3, q3⟩ := P
  obtain ⟨ds, p, vs, e, sq, rs, q4⟩ := lstOr_rep q3 (Rep.mono (s2.trans s3).pre (s2.trans s3).same _ _ r1)
  refine ⟨p, vs, e, SqL.same' vis_le sq, fun np hnp => k _ _ ?_⟩
  have s4 := Step.laid (o := .lst (cutV vs l u)) s3.mu hnp
  refine VPost.from (s2.trans s3) ⟨m3, _, μ3, s4, ?_, q4⟩
  rw [Rep]
  refine ⟨np, _, rfl, ?_, cut_rep (Reps.mono s4.pre s4.same _ _ rs)⟩
  rw [vis_upd s3.mu hnp, upd_same]
theorem de_item (ha : DE ex W X a wa) (hb : DE ex W X b wb) (hs : PlainIx b := by exact fun _ _ => rfl) : DE ex W X (.Subscript a b pos) (w2 fIx wa wb) := de_ix (ix_list.or ix_tup) (s2_ix (G := gx X ex)) ha hb hs
end
/-! ### lists put together -/
def fCat : F2
  | .lst a, .lst b, μ, Q => a.length + b.length ≤ sizeLine ∧ Q (.lst (a ++ b)) μ
  | _, _, _, _ => False
theorem s2_cat {G : Gx} : S2 G rCat fCat := by
  intro Z m μ H x y u v Q Q' M rx ry h k
  unfold fCat at h
  split at h
  · obtain ⟨hl, h⟩ := h
    rw [Rep] at rx ry
    obtain ⟨p, vs, rfl, sp, rp⟩ := rx
    obtain ⟨q, us, rfl, sq, rq⟩ := ry
    refine ⟨p, q, vs, us, rfl, rfl, vis_le _ _ sp, vis_le _ _ sq, by rw [← rp.len, ← rq.len]; exact hl, fun t nt => k _ _ ?_⟩
    have s4 := Step.laid (o := .lst (vs ++ us)) M nt
    refine ⟨m, _, μ, s4, ?_, h⟩
    rw [Rep]
    refine ⟨t, _, rfl, ?_, Reps.append (Reps.mono s4.pre s4.same _ _ rp) (Reps.mono s4.pre s4.same _ _ rq)⟩
    rw [vis_upd M nt, upd_same]
  · exact h.elim
def fRep : F2
  | .lst a, .int n, μ, Q => -(2 ^ 63) ≤ n ∧ n < 2 ^ 63 ∧ a.length * n.toNat ≤ sizeLine ∧ Q (.lst (List.replicate n.toNat a).flatten) μ
  | _, _, _, _ => False
theorem Reps.reps {G : Gx} {m : List Addr} {E : Hp} {ds : List D} {vs : List V} (r : Reps G m E ds vs) : ∀ n : Nat, Reps G m E (List.replicate n ds).flatten (List.replicate n vs).flatten
  | 0 => Reps.nil
  | n + 1 => by
    rw [List.replicate_succ, List.replicate_succ, List.flatten_cons, List.flatten_cons]
    exact Reps.append r (Reps.reps r n)
theorem fRep_of {x y : D} {μ : Mu} {Q : D → Mu → Prop} (h : fRep x y μ Q) : ∃ a n, x = .lst a ∧ y = .int n ∧ -(2 ^ 63) ≤ n ∧ n < 2 ^ 63 ∧ a.length * n.toNat ≤ sizeLine ∧ Q (.lst (List.replicate n.toNat a).flatten) μ := by
  unfold fRep at h
  split at h
  · exact ⟨_, _, rfl, rfl, h⟩
  · exact h.elim
theorem s2_rep {G : Gx} : S2 G rRep fRep := by
  intro Z m μ H x y u v Q Q' M rx ry h k
  obtain ⟨a, n, rfl, rfl, h1, h2, hl, h⟩ := fRep_of h
  rw [Rep] at rx
  rw [Rep] at ry
  obtain ⟨p, vs, rfl, sp, rp⟩ := rx
  refine ⟨p, n, vs, rfl, ry, vis_le _ _ sp, h1, h2, by rw [← rp.len]; exact hl, fun t nt => k _ _ ?_⟩
  have s4 := Step.laid (o := .lst (List.replicate n.toNat vs).flatten) M nt
  refine ⟨m, _, μ, s4, ?_, h⟩
  rw [Rep]
  refine ⟨t, _, rfl, ?_, Reps.reps (Reps.mono s4.pre s4.same _ _ rp) _⟩
  rw [vis_upd M nt, upd_same]
/-! ### calls of built-ins -/
def fInt1 : FN := fun xs μ Q => match xs with
  | [.int i] => Q (.int i) μ
  | [.bl b] => Q (.int (if b then 1 else 0)) μ
  | _ => False
theorem sn_int1 {G : Gx} : SN G (fun xs H Q => (∃ i, xs = [.int i] ∧ Q (.int i) H) ∨ ∃ k, xs = [.bl k] ∧ Q (.int (if k then 1 else 0)) H) fInt1 := by
  intro Z m μ H xs us Q Q' M r h k
  unfold fInt1 at h
  split at h
  · obtain ⟨v, t, rfl, r1, r2⟩ := r.uncons
    rw [Reps] at r2
    rw [Rep] at r1
    subst r1 r2
    exact .inl ⟨_, rfl, k _ _ (.now M (by rw [Rep]) h)⟩
  · obtain ⟨v, t, rfl, r1, r2⟩ := r.uncons
    rw [Reps] at r2
    rw [Rep] at r1
    subst r1 r2
    exact .inr ⟨_, rfl, k _ _ (.now M (by rw [Rep]) h)⟩
  · exact h.elim
def fMax2 : FN := fun xs μ Q => match xs with
  | [.int i, .int j] => Q (.int (if j > i then j else i)) μ
  | _ => False
def fMin2 : FN := fun xs μ Q => match xs with
  | [.int i, .int j] => Q (.int (if j < i then j else i)) μ
  | _ => False
def fAbs : FN := fun xs μ Q => match xs with
  | [.int i] => Q (.int (if i < 0 then -i else i)) μ
  | _ => False
theorem sn_max2 {G : Gx} : SN G (fun xs H Q => ∃ i j, xs = [.int i, .int j] ∧ Q (.int (if j > i then j else i)) H) fMax2 := by
  intro Z m μ H xs us Q Q' M r h k
  unfold fMax2 at h
  split at h
  · obtain ⟨v, t, rfl, r1, r2⟩ := r.uncons
    obtain ⟨v2, t2, rfl, r3, r4⟩ := r2.uncons
    rw [Reps] at r4
    rw [Rep] at r1 r3
    subst r1 r3 r4
    exact ⟨_, _, rfl, k _ _ (.now M (by rw [Rep]) h)⟩
  · exact h.elim
theorem sn_min2 {G : Gx} : SN G (fun xs H Q => ∃ i j, xs = [.int i, .int j] ∧ Q (.int (if j < i then j else i)) H) fMin2 := by
  intro Z m μ H xs us Q Q' M r h k
  unfold fMin2 at h
  split at h
  · obtain ⟨v, t, rfl, r1, r2⟩ := r.uncons
    obtain ⟨v2, t2, rfl, r3, r4⟩ := r2.uncons
    rw [Reps] at r4
    rw [Rep] at r1 r3
    subst r1 r3 r4
    exact ⟨_, _, rfl, k _ _ (.now M (by rw [Rep]) h)⟩
  · exact h.elim
theorem sn_abs {G : Gx} : SN G (fun xs H Q => ∃ i, xs = [.int i] ∧ Q (.int (if i < 0 then -i else i)) H) fAbs := by
  intro Z m μ H xs us Q Q' M r h k
  unfold fAbs at h
  split at h
  · obtain ⟨v, t, rfl, r1, r2⟩ := r.uncons
    rw [Reps] at r2
    rw [Rep] at r1
    subst r1 r2
    exact ⟨_, rfl, k _ _ (.now M (by rw [Rep]) h)⟩
  · exact h.elim
/-- the ints of a list of ints -/
def intD : D → Option Int
  | .int i => some i
  | _ => none
theorem intD_of {d : D} {i : Int} (h : intD d = some i) : d = .int i := by
  cases d <;> first | (cases h; done) | (cases h; rfl)
def intsD : List D → Option (List Int)
  | [] => some []
  | d :: ds => match intD d, intsD ds with
    | some i, some ns => some (i :: ns)
    | _, _ => none
theorem ints_rep {G : Gx} {m : List Addr} {E : Hp} : ∀ {ds : List D} {vs : List V} {ns : List Int}, Reps G m E ds vs → intsD ds = some ns → vs = ns.map V.int
  | [], vs, ns, r, e => by rw [Reps] at r; rw [intsD] at e; cases e; exact r
  | d :: ds, vs, ns, r, e => by
    obtain ⟨v, t, rfl, r1, r2⟩ := r.uncons
    rw [intsD] at e
    split at e
    · rename_i i ms h1 h2
      cases e
      have e1 := intD_of h1
      subst e1
      rw [Rep] at r1
      subst r1
      rw [ints_rep r2 h2]
      rfl
    · cases e
theorem reps_ints {G : Gx} {m : List Addr} {E : Hp} (ns : List Int) : Reps G m E (ns.map D.int) (ns.map V.int) := Reps.map_of (fun _ => by rw [Rep]) ns
end DL

set_option Elab.async false
set_option linter.all false
set_option maxRecDepth 100000
set_option maxHeartbeats 4000000
set_option autoImplicit false
namespace DL
open PySem PySem.Spec PyProof.Rows L2 RZ
/-! ### what is walked -/
abbrev WI := DS → Mu → (List D → Mu → Prop) → XD → Prop
/-- an iterator that gives the data ds, as long as what E0 shows stands -/
structure ItOk (G : Gx) (J : It) (m0 : List Addr) (E0 : Hp) (ds : List D) : Prop where
  go : ∀ (i : Nat) H, i < ds.length → Same E0 H → J.go i H
  stop : ∀ H, Same E0 H → J.stop ds.length H
  yld : ∀ (i : Nat) H x H3, i < ds.length → Same E0 H → J.yld i H x H3 → ∃ d, ds[i]? = some d ∧ ((H3 = H ∧ Rep G m0 E0 d x) ∨ ∃ T o, H T = none ∧ H3 = upd H T o ∧ ∀ m E, m0 <+: m → Same E0 E → E T = some o → Rep G m E d x)
def IPost (G : Gx) (Z : Addr → Prop) (m : List Addr) (H : Hp) (Q : List D → Mu → Prop) (J : It) (H' : Hp) : Prop :=
  ∃ m' ds μ', Step G Z m H m' μ' H' ∧ ItOk G J m' (vis Z m' H') ds ∧ Q ds μ'
/-- the same, as long as what is hidden stands, too -/
structure ItOkF (G : Gx) (J : It) (m0 : List Addr) (E0 : Hp) (F : Hp → Prop) (ds : List D) : Prop where
  go : ∀ (i : Nat) H, i < ds.length → Same E0 H → F H → J.go i H
  stop : ∀ H, Same E0 H → F H → J.stop ds.length H
  yld : ∀ (i : Nat) H x H3, i < ds.length → Same E0 H → F H → J.yld i H x H3 → ∃ d, ds[i]? = some d ∧ ((H3 = H ∧ Rep G m0 E0 d x) ∨ ∃ T o, H T = none ∧ H3 = upd H T o ∧ ∀ m E, m0 <+: m → Same E0 E → E T = some o → Rep G m E d x)
theorem ItOk.toF {G : Gx} {J : It} {m0 : List Addr} {E0 : Hp} {F : Hp → Prop} {ds : List D} (h : ItOk G J m0 E0 ds) : ItOkF G J m0 E0 F ds := ⟨fun i H a b _ => h.go i H a b, fun H b _ => h.stop H b, fun i H x H3 a b _ c => h.yld i H x H3 a b c⟩
def IPostF (G : Gx) (Z : Addr → Prop) (m : List Addr) (H : Hp) (Q : List D → Mu → Prop) (J : It) (H' : Hp) : Prop :=
  ∃ m' ds μ' F, Step G Z m H m' μ' H' ∧ (∀ H2, (∀ z, Z z → H2 z = H' z) → F H2) ∧ ItOkF G J m' (vis Z m' H') F ds ∧ Q ds μ'
theorem IPost.toF {G : Gx} {Z : Addr → Prop} {m : List Addr} {H : Hp} {Q : List D → Mu → Prop} {J : It} {H' : Hp} (p : IPost G Z m H Q J H') : IPostF G Z m H Q J H' := by
  obtain ⟨m', ds, μ', s, ok, q⟩ := p
  exact ⟨m', ds, μ', fun _ => True, s, fun _ _ => trivial, ok.toF, q⟩
def liftIF (G : Gx) (W : WX) (w : WI) : TI := fun σ H R => ∃ Z m ρ μ Q Xd, SR G Z m σ H ρ μ ∧ w ρ μ Q Xd ∧ (∀ J H', IPostF G (ownW Z σ ρ) m H Q J H' → R J H') ∧ ∀ cls d H', XPost G (ownW Z σ ρ) m H Xd cls d H' → W cls d σ H'
def liftI (G : Gx) (W : WX) (w : WI) : TI := fun σ H R => ∃ Z m ρ μ Q Xd, SR G Z m σ H ρ μ ∧ w ρ μ Q Xd ∧ (∀ J H', IPost G (ownW Z σ ρ) m H Q J H' → R J H') ∧ ∀ cls d H', XPost G (ownW Z σ ρ) m H Xd cls d H' → W cls d σ H'
abbrev DI (ex : Option (Addr × Addr × Addr)) (W : WX) (X : Cx) (tg e : Expr) (w : WI) : Prop := PI X tg e (liftI (gx X ex) W w)
theorem pi_weak {X : Cx} {tg e : Expr} {t t' : TI} (h : PI X tg e t) (k : ∀ σ H Q, t' σ H Q → t σ H Q) : PI X tg e t' := ⟨fun pins s σ H Q I q => h.run pins s σ H Q I (k σ H Q q)⟩
abbrev DIF (ex : Option (Addr × Addr × Addr)) (W : WX) (X : Cx) (tg e : Expr) (w : WI) : Prop := PI X tg e (liftIF (gx X ex) W w)
theorem DI.toF {ex : Option (Addr × Addr × Addr)} {W : WX} {X : Cx} {tg e : Expr} {w : WI} (h : DI ex W X tg e w) : DIF ex W X tg e w := pi_weak h fun σ H R q => by
  obtain ⟨Z, m, ρ, μ, Q, Xd, S, q, k, kx⟩ := q
  exact ⟨Z, m, ρ, μ, Q, Xd, S, q, fun J H' P => k J H' P.toF, kx⟩
def tupOr (d : D) (Q : List D → Prop) : Prop := match d with
  | .tup ds => Q ds
  | _ => False
theorem tupOr_of {d : D} {Q : List D → Prop} (h : tupOr d Q) : ∃ ds, d = .tup ds ∧ Q ds := by
  unfold tupOr at h
  split at h
  · exact ⟨_, rfl, h⟩
  · exact h.elim
def wiL (wa : WE) : WI := fun ρ μ Q Xd => wa ρ μ (fun d μ1 => lstOr d fun ds => Q ds μ1) Xd
def wiT (wa : WE) : WI := fun ρ μ Q Xd => wa ρ μ (fun d μ1 => tupOr d fun ds => Q ds μ1) Xd
/-- lo, lo + 1, .. -/
def rangeD (lo : Int) (n : Nat) : List D := (List.range n).map fun (k : Nat) => D.int (lo + (k : Int))
def rg1 (ds : List D) (Q : List D → Prop) : Prop := match ds with
  | [.int j] => -(2 ^ 62) ≤ j ∧ j < 2 ^ 62 ∧ Q (rangeD 0 j.toNat)
  | _ => False
def rg2 (ds : List D) (Q : List D → Prop) : Prop := match ds with
  | [.int i, .int j] => (-(2 ^ 62) ≤ i ∧ i < 2 ^ 62 ∧ -(2 ^ 62) ≤ j ∧ j < 2 ^ 62) ∧ Q (rangeD i (j - i).toNat)
  | _ => False
theorem rg1_of {ds : List D} {Q : List D → Prop} (h : rg1 ds Q) : ∃ j : Int, ds = [.int j] ∧ -(2 ^ 62) ≤ j ∧ j < 2 ^ 62 ∧ Q (rangeD 0 j.toNat) := by
  unfold rg1 at h
  split at h
  · exact ⟨_, rfl, h⟩
  · exact h.elim
theorem rg2_of {ds : List D} {Q : List D → Prop} (h : rg2 ds Q) : ∃ i j : Int, ds = [.int i, .int j] ∧ (-(2 ^ 62) ≤ i ∧ i < 2 ^ 62 ∧ -(2 ^ 62) ≤ j ∧ j < 2 ^ 62) ∧ Q (rangeD i (j - i).toNat) := by
  unfold rg2 at h
  split at h
  · exact ⟨_, _, rfl, h⟩
  · exact h.elim
def wiR1 (wa : WA) : WI := fun ρ μ Q Xd => wa ρ μ (fun ds μ1 => rg1 ds fun es => Q es μ1) Xd
def wiR2 (wa : WA) : WI := fun ρ μ Q Xd => wa ρ μ (fun ds μ1 => rg2 ds fun es => Q es μ1) Xd
/-- enumerate, zip -/
def enumD (ds : List D) : List D := ds.mapIdx fun i d => D.tup [.int (i : Nat), d]
def zipD (a b : List D) : List D := (a.zip b).map fun p => D.tup [p.1, p.2]
def lst1 (ds : List D) (Q : List D → Prop) : Prop := match ds with
  | [d] => lstOr d Q
  | _ => False
def wiEnum (wa : WA) : WI := fun ρ μ Q Xd => wa ρ μ (fun ds μ1 => lst1 ds fun es => Q (enumD es) μ1) Xd
def zip2 (ds : List D) (Q : List D → Prop) : Prop := match ds with
  | [a, b] => match a, b with
    | .tup xs, .tup ys => Q (zipD xs ys)
    | .lst xs, .lst ys => Q (zipD xs ys)
    | .frl xs, .lst ys => Q (zipD xs ys)
    | .lst xs, .frl ys => Q (zipD xs ys)
    | _, _ => False
  | _ => False
def wiZip (wa : WA) : WI := fun ρ μ Q Xd => wa ρ μ (fun ds μ1 => zip2 ds fun es => Q es μ1) Xd
theorem itok_list {G : Gx} {m : List Addr} {E : Hp} {a : Addr} {vs : List V} {ds : List D} (s : SqL G.K E a vs) (r : Reps G m E ds vs) : ItOk G (Itl G.K a) m E ds := by
  refine ⟨fun i H hi hs => ?_, fun H hs => ⟨vs, Same.seq hs s, by rw [r.len]; exact Nat.le_refl _⟩, fun i H x H3 hi hs y => ?_⟩
  · obtain ⟨v, e, _⟩ := r.get (List.getElem?_eq_getElem hi)
    exact ⟨vs, v, Same.seq hs s, e⟩
  · obtain ⟨e, y⟩ := y
    obtain ⟨d, ed, rd⟩ := r.get' (y vs (Same.seq hs s))
    exact ⟨d, ed, .inl ⟨e, rd⟩⟩
theorem itok_tup {G : Gx} {m : List Addr} {E : Hp} {a : Addr} {vs : List V} {ds : List D} (s : SqT G.K E a vs) (r : Reps G m E ds vs) : ItOk G (Itt G.K a) m E ds := by
  refine ⟨fun i H hi hs => ?_, fun H hs => ⟨vs, SqT.same hs s, by rw [r.len]; exact Nat.le_refl _⟩, fun i H x H3 hi hs y => ?_⟩
  · obtain ⟨v, e, _⟩ := r.get (List.getElem?_eq_getElem hi)
    exact ⟨vs, v, SqT.same hs s, e⟩
  · obtain ⟨e, y⟩ := y
    obtain ⟨d, ed, rd⟩ := r.get' (y vs (SqT.same hs s))
    exact ⟨d, ed, .inl ⟨e, rd⟩⟩
theorem itok_range {G : Gx} {m : List Addr} {E : Hp} {lo : Int} {n : Nat} : ItOk G (Itr lo n) m E (rangeD lo n) := by
  have hl : (rangeD lo n).length = n := by simp [rangeD]
  refine ⟨fun i H hi hs => ?_, fun H hs => ?_, fun i H x H3 hi hs y => ?_⟩
  · rw [hl] at hi; exact hi
  · rw [hl]; exact Nat.le_refl _
  · rw [hl] at hi
    obtain ⟨e, ex⟩ := y
    refine ⟨.int (lo + i), ?_, .inl ⟨e, by rw [Rep]; exact ex⟩⟩
    simp [rangeD, hi]
theorem itok_enum {G : Gx} {m : List Addr} {E : Hp} {a : Addr} {vs : List V} {ds : List D} (s : SqL G.K E a vs) (r : Reps G m E ds vs) : ItOk G (Ite G.K a) m E (enumD ds) := by
  have hl : (enumD ds).length = ds.length := by simp [enumD]
  refine ⟨fun i H hi hs => ?_, fun H hs => ⟨vs, Same.seq hs s, by rw [hl, r.len]; exact Nat.le_refl _⟩, fun i H x H3 hi hs y => ?_⟩
  · rw [hl] at hi
    obtain ⟨v, e, _⟩ := r.get (List.getElem?_eq_getElem hi)
    exact ⟨vs, v, Same.seq hs s, e⟩
  · obtain ⟨T, x', e, nT, eH, y⟩ := y
    obtain ⟨d, ed, rd⟩ := r.get' (y vs (Same.seq hs s))
    refine ⟨.tup [.int (i : Nat), d], ?_, .inr ⟨T, _, nT, eH, fun m' E' hp hE eT => ?_⟩⟩
    · simp only [enumD, List.getElem?_mapIdx, ed, Option.map_some]
    · rw [Rep]
      exact ⟨T, _, e, .inl (.inl eT), Reps.cons (by rw [Rep]) (Reps.cons (Rep.mono hp hE _ _ rd) Reps.nil)⟩
section
variable {ex : Option (Addr × Addr × Addr)} {W : WX} {X : Cx} {tg e : Expr} {wa : WE} {ws : WA} {p pos : Pos}
theorem di_list (h : DE ex W X e wa) : DI ex W X tg e (wiL wa) := pi_weak (pi_list h) fun σ H R q => by
  obtain ⟨Z, m, ρ, μ, Q, Xd, S, q, k, kx⟩ := q
  refine ⟨Z, m, ρ, μ, _, Xd, S, q, fun v H1 P => ?_, kx⟩
  obtain ⟨m1, d, μ1, s1, r1, q1⟩ := P
  obtain ⟨ds, a, vs, e, sq, rs, q2⟩ := lstOr_rep q1 r1
  exact ⟨a, e, ⟨vs, Same.seq vis_le sq⟩, k _ _ ⟨m1, ds, μ1, s1, itok_list (G := gx X ex) sq rs, q2⟩⟩
theorem di_tup (h : DE ex W X e wa) : DI ex W X tg e (wiT wa) := pi_weak (pi_tup h) fun σ H R q => by
  obtain ⟨Z, m, ρ, μ, Q, Xd, S, q, k, kx⟩ := q
  refine ⟨Z, m, ρ, μ, _, Xd, S, q, fun v H1 P => ?_, kx⟩
  obtain ⟨m1, d, μ1, s1, r1, q1⟩ := P
  obtain ⟨ds, rfl, q2⟩ := tupOr_of q1
  rw [Rep] at r1
  obtain ⟨a, vs, e, sq, rs⟩ := r1
  exact ⟨a, e, ⟨vs, SqT.same vis_le sq⟩, k _ _ ⟨m1, ds, μ1, s1, itok_tup (G := gx X ex) sq rs, q2⟩⟩
theorem di_range1 (hg : Gl X "range") (hm : X.mg "range" = none) (ha : DA ex W X [e] ws) (hs : starEach [e] X.env = [(false, eval e X.env)] := by rfl) : DI ex W X tg (.Call (.Name "range" p) [e] [] pos) (wiR1 ws) := pi_weak (pi_range1 hg hm ha hs) fun σ H R q => by
  obtain ⟨Z, m, ρ, μ, Q, Xd, S, q, k, kx⟩ := q
  refine ⟨Z, m, ρ, μ, _, Xd, S, q, fun vs H1 P => ?_, kx⟩
  obtain ⟨m1, ds, μ1, s1, r1, q1⟩ := P
  obtain ⟨j, rfl, h1, h2, q2⟩ := rg1_of q1
  obtain ⟨v, t, rfl, r2, r3⟩ := r1.uncons
  rw [Reps] at r3
  rw [Rep] at r2
  subst r2 r3
  exact ⟨j, rfl, h1, h2, k _ _ ⟨m1, _, μ1, s1, itok_range, q2⟩⟩
theorem di_range2 {e2 : Expr} (hg : Gl X "range") (hm : X.mg "range" = none) (ha : DA ex W X [e, e2] ws) (hs : starEach [e, e2] X.env = [(false, eval e X.env), (false, eval e2 X.env)] := by rfl) (hs2 : starEach [e2] X.env = [(false, eval e2 X.env)] := by rfl) :
    DI ex W X tg (.Call (.Name "range" p) [e, e2] [] pos) (wiR2 ws) := pi_weak (pi_range2 hg hm ha hs hs2) fun σ H R q => by
  obtain ⟨Z, m, ρ, μ, Q, Xd, S, q, k, kx⟩ := q
  refine ⟨Z, m, ρ, μ, _, Xd, S, q, fun vs H1 P => ?_, kx⟩
  obtain ⟨m1, ds, μ1, s1, r1, q1⟩ := P
  obtain ⟨i, j, rfl, h1, q2⟩ := rg2_of q1
  obtain ⟨v, t, rfl, r2, r3⟩ := r1.uncons
  obtain ⟨v', t', rfl, r4, r5⟩ := r3.uncons
  rw [Reps] at r5
  rw [Rep] at r2
  rw [Rep] at r4
  subst r2 r4 r5
  exact ⟨i, j, rfl, h1, k _ _ ⟨m1, _, μ1, s1, itok_range, q2⟩⟩
theorem lst_rep' {G : Gx} {m : List Addr} {E : Hp} {d : D} {ds : List D} {u : V} (h : d = .lst ds ∨ d = .frl ds) (r : Rep G m E d u) : ∃ a vs, u = .ref a ∧ SqL G.K E a vs ∧ Reps G m E ds vs := by
  obtain ⟨es, a, vs, h1, h2, h3, h4⟩ := lstOr_rep (Q := fun es => es = ds) (by rcases h with e | e <;> (subst e; rfl)) r
  exact ⟨a, vs, h1, h2, h4 ▸ h3⟩
end
/-! ### a list of the def's own, walked while it stands -/
def ownL (o : Option Sl) (k : List D → Prop) : Prop := match o with
  | some (.own _ (.lst ds)) => k ds
  | _ => False
def wiOwn (i : Nat) : WI := fun ρ μ Q _ => ownL (ρ[i]?) fun ds => Q ds μ
/-! ### for -/
def forL (g : WG) (b : WS) (E : DEnds) : List D → DS → Mu → Prop
  | [], ρ, μ => E.nx ρ μ
  | d :: ds, ρ, μ => g d ρ μ fun ρ1 μ1 => b { E with nx := forL g b E ds, ct := forL g b E ds, bk := E.nx } ρ1 μ1
def sFor (wi : WI) (g : WG) (b : WS) : WS := fun E ρ μ => wi ρ μ (fun ds μ1 => forL g b E ds ρ μ1) fun c ks es μ' => E.xc c ks es ρ μ'
theorem SR.laid {G : Gx} {Z : Addr → Prop} {m : List Addr} {σ : L2.St} {H : Hp} {ρ : DS} {μ : Mu} (S : SR G Z m σ H ρ μ) {p : Addr} {o : HO} (np : H p = none) : SR G Z m σ (upd H p o) ρ μ ∧ SStep G Z m σ ρ H m σ ρ (upd H p o) :=
  ⟨S.step (Step.laid S.mu np), SStep.of (μ' := μ) (Step.laid S.mu np)⟩
theorem forL_cons {g : WG} {b : WS} {E : DEnds} {ds : List D} {i : Nat} {d : D} {ρ : DS} {μ : Mu} (hd : ds[i]? = some d) (h : forL g b E (ds.drop i) ρ μ) :
    g d ρ μ fun ρ1 μ1 => b { E with nx := forL g b E (ds.drop (i + 1)), ct := forL g b E (ds.drop (i + 1)), bk := E.nx } ρ1 μ1 := by
  obtain ⟨hi, e⟩ := List.getElem?_eq_some_iff.mp hd
  rw [List.drop_eq_getElem_cons hi, forL, e] at h
  exact h
section
variable {ex : Option (Addr × Addr × Addr)} {W : WX} {X : Cx} {tg iter : Expr} {body : List Stmt} {wi : WI} {g : WG} {b : WS} {pos : Pos}
theorem ds_for (hp : PassesOwn (model X.prog X.w) X.A X.env X.xe) (hc : X.calm = true) (hi : DI ex W X tg iter wi) (hg : DG ex X tg g) (hb : DSs ex W X body b) (hs : ∀ x, foldedSetIterable iter X.env x = pure x := by intro _; rfl) :
    DSt ex W X (.For tg iter body [] pos) (sFor wi g b) := ps_weak (ps_for hp hc hi hg hb hs) fun De σ H q => by
  obtain ⟨Z, m, ρ, μ, E, S, q, kn, kr, kb, kc, kx⟩ := q
  refine ⟨Z, m, ρ, μ, _, _, S, q, fun J H1 P => ?_, fun cls d H' P => kx cls d σ H' (XSPost.of S P)⟩
  obtain ⟨m1, ds, μ1, s1, ok, q1⟩ := P
  have t1 : SStep (gx X ex) Z m σ ρ H m1 σ ρ H1 := SStep.of s1
  refine ⟨fun i n σ' H' => n = ds.length - i ∧ i ≤ ds.length ∧ ∃ m' ρ' μ', SR (gx X ex) Z m' σ' H' ρ' μ' ∧ SStep (gx X ex) Z m1 σ ρ H1 m' σ' ρ' H' ∧ forL g b E (ds.drop i) ρ' μ', ⟨_, rfl, Nat.zero_le _, m1, ρ, μ1, S.step s1, .refl, q1⟩, ?_⟩
  rintro i n σ' H' ⟨rfl, hle, m', ρ', μ', S', s', q'⟩
  have vis' : Same (vis (ownW Z σ ρ) m1 H1) H' := s'.same.trans vis_le
  by_cases hlt : i < ds.length
  · refine .inr ⟨ok.go i H' hlt vis', fun σ2 H2 => ∃ m2 ρ2 μ2, SR (gx X ex) Z m2 σ2 H2 ρ2 μ2 ∧ SStep (gx X ex) Z m1 σ ρ H1 m2 σ2 ρ2 H2 ∧ forL g b E (ds.drop (i + 1)) ρ2 μ2,
      fun σ2 H2 ⟨m2, ρ2, μ2, S2, s2, q2⟩ => ⟨_, (by omega : ds.length - (i + 1) < ds.length - i), rfl, hlt, m2, ρ2, μ2, S2, s2, q2⟩, fun x H3 y => ?_⟩
    obtain ⟨d, ed, hy⟩ := ok.yld i H' x H3 hlt vis' y
    have q2 := forL_cons ed q'
    have : ∃ S3 : SR (gx X ex) Z m' σ' H3 ρ' μ', SStep (gx X ex) Z m1 σ ρ H1 m' σ' ρ' H3 ∧ Rep (gx X ex) m' (vis (ownW Z σ' ρ') m' H3) d x := by
      rcases hy with ⟨rfl, rd⟩ | ⟨T, o, nT, rfl, rd⟩
      · exact ⟨S', s', Rep.mono s'.pre s'.same _ _ rd⟩
      · obtain ⟨S3, s3⟩ := S'.laid (o := o) nT
        exact ⟨S3, s'.trans s3, rd _ _ s'.pre (s'.trans s3).same (by rw [vis_upd S'.mu nT, upd_same])⟩
    obtain ⟨S3, s3, rd⟩ := this
    refine ⟨Z, m', ρ', μ', d, _, S3, rd, q2, fun σ4 H4 P => ?_⟩
    obtain ⟨m4, ρ4, μ4, S4, s4, q4⟩ := P
    have t4 := s3.trans s4
    refine ⟨Z, m4, ρ4, μ4, _, S4, q4, fun σ5 H5 P => ?_, fun v H5 P => kr v H5 (RPost.from (t1.trans t4) P), fun σ5 H5 P => kn σ5 H5 (SPost.from (t1.trans t4) P), fun σ5 H5 P => ?_, fun cls d σ5 H5 P => kx cls d σ5 H5 (XSPost.from (t1.trans t4) P)⟩
    · obtain ⟨m5, ρ5, μ5, S5, s5, q5⟩ := P
      exact ⟨m5, ρ5, μ5, S5, t4.trans s5, q5⟩
    · obtain ⟨m5, ρ5, μ5, S5, s5, q5⟩ := P
      exact ⟨m5, ρ5, μ5, S5, t4.trans s5, q5⟩
  · have e : i = ds.length := by omega
    subst e
    refine .inl ⟨ok.stop H' vis', kn σ' H' ⟨m', ρ', μ', S', t1.trans s', ?_⟩⟩
    rw [List.drop_length, forL] at q'
    exact q'
/-! ### while -/
def whileL (c : WT) (b : WS) (E : DEnds) : Nat → DS → Mu → Prop
  | 0, _, _ => False
  | n + 1, ρ, μ => c ρ μ (fun k μ1 => if k = true then b { E with nx := whileL c b E n, ct := whileL c b E n, bk := E.nx } ρ μ1 else E.nx ρ μ1) fun c ks es μ' => E.xc c ks es ρ μ'
def sWhile (c : WT) (b : WS) : WS := fun E ρ μ => ∃ n, whileL c b E n ρ μ
theorem ds_while {c : Expr} {t : WT} (hp : PassesOwn (model X.prog X.w) X.A X.env X.xe) (hc : DT ex W X c t) (hb : DSs ex W X body b) : DSt ex W X (.While c body [] pos) (sWhile t b) := ps_weak (ps_while hp hc hb) fun De σ H q => by
  obtain ⟨Z, m, ρ, μ, E, S, ⟨n, q⟩, kn, kr, kb, kc, kx⟩ := q
  refine ⟨fun n σ' H' => ∃ m' ρ' μ', SR (gx X ex) Z m' σ' H' ρ' μ' ∧ SStep (gx X ex) Z m σ ρ H m' σ' ρ' H' ∧ whileL t b E n ρ' μ', ⟨n, m, ρ, μ, S, .refl, q⟩, ?_⟩
  rintro n σ' H' ⟨m', ρ', μ', S', s', q'⟩
  cases n with
  | zero => exact q'.elim
  | succ n =>
    refine ⟨Z, m', ρ', μ', _, _, S', q', fun k H1 P => ?_, fun cls d H1 P => kx cls d σ' H1 (XSPost.from s' (XSPost.of S' P))⟩
    obtain ⟨m1, μ1, s1, q1⟩ := P
    have t1 := s'.trans (SStep.of s1)
    cases k with
    | true =>
      rw [if_pos rfl] at q1 ⊢
      refine ⟨fun σ2 H2 => ∃ m2 ρ2 μ2, SR (gx X ex) Z m2 σ2 H2 ρ2 μ2 ∧ SStep (gx X ex) Z m σ ρ H m2 σ2 ρ2 H2 ∧ whileL t b E n ρ2 μ2, fun σ2 H2 h2 => ⟨n, Nat.lt_succ_self _, h2⟩, ?_⟩
      refine ⟨Z, m1, ρ', μ1, _, S'.step s1, q1, fun σ5 H5 P => ?_, fun v H5 P => kr v H5 (RPost.from t1 P), fun σ5 H5 P => kn σ5 H5 (SPost.from t1 P), fun σ5 H5 P => ?_, fun cls d σ5 H5 P => kx cls d σ5 H5 (XSPost.from t1 P)⟩
      · obtain ⟨m5, ρ5, μ5, S5, s5, q5⟩ := P
        exact ⟨m5, ρ5, μ5, S5, t1.trans s5, q5⟩
      · obtain ⟨m5, ρ5, μ5, S5, s5, q5⟩ := P
        exact ⟨m5, ρ5, μ5, S5, t1.trans s5, q5⟩
    | false =>
      rw [if_neg Bool.false_ne_true] at q1 ⊢
      exact kn σ' H1 ⟨m1, ρ', μ1, S'.step s1, t1, q1⟩
end
end DL

set_option Elab.async false
set_option linter.all false
set_option maxRecDepth 100000
set_option maxHeartbeats 4000000
set_option autoImplicit false
namespace DL
open PySem PySem.Spec PyProof.Rows L2
/-! ### comprehensions -/
def wipeD (ρ : DS) : List Nat → DS
  | [] => ρ
  | v :: vs => (wipeD ρ vs).set v .no
theorem wipeD_len (ρ : DS) : ∀ vs, (wipeD ρ vs).length = ρ.length
  | [] => rfl
  | v :: vs => by rw [wipeD, List.length_set, wipeD_len]
theorem wipeD_get {ρ : DS} {i : Nat} {x : Sl} (hx : x ≠ .no) : ∀ {vs : List Nat}, (wipeD ρ vs)[i]? = some x → ρ[i]? = some x ∧ i ∉ vs
  | [], h => ⟨h, by simp⟩
  | v :: vs, h => by
    rw [wipeD] at h
    by_cases hv : v = i
    · subst hv
      rw [List.getElem?_set] at h
      simp at h
      exact absurd h.2.symm hx
    · rw [List.getElem?_set_ne hv] at h
      obtain ⟨h1, h2⟩ := wipeD_get hx h
      exact ⟨h1, by simp [h2, Ne.symm hv]⟩
theorem wipe_get {σ : L2.St} {i : Nat} : ∀ {vs : List Nat}, i ∉ vs → (wipe σ vs)[i]? = σ[i]?
  | [], _ => rfl
  | v :: vs, h => by
    rw [wipe, List.getElem?_set_ne (fun e => h (by simp [e]))]
    exact wipe_get fun q => h (by simp [q])
/-- no slot at vs is a list that is being filled -/
def noOwn (ρ : DS) (vs : List Nat) : Prop := ∀ v ∈ vs, ∀ a ds, ρ[v]? ≠ some (.own a ds)
theorem own_wipe {Z : Addr → Prop} {σ : L2.St} {ρ : DS} {vs : List Nat} {b : Addr} (h : ownW Z (wipe σ vs) (wipeD ρ vs) b) : ownW Z σ ρ b := by
  rcases h with h | ⟨i, ds, e1⟩
  · exact .inl h
  · obtain ⟨e3, e4⟩ := wipeD_get (by intro z; cases z) e1
    exact .inr ⟨i, ds, e3⟩
theorem own_wipe' {Z : Addr → Prop} {σ : L2.St} {ρ : DS} {vs : List Nat} (no : noOwn ρ vs) : ownW Z (wipe σ vs) (wipeD ρ vs) = ownW Z σ ρ := by
  funext b
  refine propext ⟨own_wipe, fun h => ?_⟩
  rcases h with h | ⟨i, ds, e1⟩
  · exact .inl h
  · have hi : i ∉ vs := fun q => no i q b ds e1
    refine .inr ⟨i, ds, ?_⟩
    have : ∀ {l : List Nat}, i ∉ l → (wipeD ρ l)[i]? = ρ[i]? := by
      intro l
      induction l with
      | nil => intro _; rfl
      | cons v l ih =>
        intro hv
        rw [wipeD, List.getElem?_set_ne (fun e => hv (by simp [e]))]
        exact ih fun q => hv (by simp [q])
    rw [this hi]; exact e1
/-- hiding one thing more -/
def addZ (Z : Addr → Prop) (D : Addr) : Addr → Prop := fun b => Z b ∨ b = D
theorem own_add {Z : Addr → Prop} {D : Addr} {σ : L2.St} {ρ : DS} : ownW (addZ Z D) σ ρ = addZ (ownW Z σ ρ) D := by
  funext b
  apply propext
  unfold ownW addZ
  constructor
  · rintro ((h | h) | h)
    · exact .inl (.inl h)
    · exact .inr h
    · exact .inl (.inr h)
  · rintro ((h | h) | h)
    · exact .inl (.inl h)
    · exact .inr h
    · exact .inl (.inr h)
theorem SR.wiped {G : Gx} {Z : Addr → Prop} {m : List Addr} {σ : L2.St} {H : Hp} {ρ : DS} {μ : Mu} (S : SR G Z m σ H ρ μ) {vs : List Nat} (no : noOwn ρ vs) : SR G Z m (wipe σ vs) H (wipeD ρ vs) μ := by
  refine ⟨by rw [wipeD_len, wipe_length]; exact S.len, by rw [own_wipe' no]; exact S.mu, fun i d e => ?_, fun i a ds e => ?_, fun i j a ds es e1 e2 => ?_, fun i c ks ds e => ?_⟩
  · obtain ⟨e1, e2⟩ := wipeD_get (by intro z; cases z) e
    obtain ⟨v, h1, h2⟩ := S.val i d e1
    exact ⟨v, by rw [wipe_get e2]; exact h1, by rw [own_wipe' no]; exact h2⟩
  · obtain ⟨e1, e2⟩ := wipeD_get (by intro z; cases z) e
    obtain ⟨h1, h2, h4⟩ := S.own i a ds e1
    exact ⟨by rw [wipe_get e2]; exact h1, h2, by rw [own_wipe' no]; exact h4⟩
  · obtain ⟨h1, h2⟩ := wipeD_get (by intro z; cases z) e1
    obtain ⟨h3, h4⟩ := wipeD_get (by intro z; cases z) e2
    exact S.dis i j a ds es h1 h3
  · obtain ⟨e1, e2⟩ := wipeD_get (by intro z; cases z) e
    rw [wipe_get e2, own_wipe' no]
    exact S.exn i c ks ds e1
/-- the new list is hidden: it is in nobody's sight -/
theorem MuOk.hide {G : Gx} {Z : Addr → Prop} {m : List Addr} {μ : Mu} {H : Hp} (M : MuOk G Z m μ H) {D : Addr} {o : HO} (nD : H D = none) : MuOk G (addZ Z D) m μ (upd H D o) ∧ Same (vis Z m H) (vis (addZ Z D) m (upd H D o)) := by
  obtain ⟨h1, h2⟩ := M.fresh nD
  have sm : Same (vis Z m H) (vis (addZ Z D) m (upd H D o)) := fun b x e => by
    obtain ⟨z1, z2, z3⟩ := vis_some.mp e
    have hb : b ≠ D := fun q => by rw [q, nD] at z3; cases z3
    exact vis_some.mpr ⟨fun q => q.elim z1 hb, z2, by rw [upd_ne hb]; exact z3⟩
  refine ⟨⟨M.len, M.nd, fun a ha q => q.elim (M.out a ha) fun e => h2 (e ▸ ha), fun z hz => ?_, fun n c a hc ha => ?_⟩, sm⟩
  · rcases hz with hz | hz
    · by_cases e : z = D
      · rw [e, upd_same]; intro q; cases q
      · rw [upd_ne e]; exact M.hw z hz
    · rw [hz, upd_same]; intro q; cases q
  · have hb : a ≠ D := fun e => h2 (e ▸ List.mem_of_getElem? ha)
    exact (M.cell n c a hc ha).keep (List.prefix_refl _) sm (upd_ne hb)
theorem vis_hidden {Z : Addr → Prop} {m : List Addr} {H : Hp} {D : Addr} {o : HO} : vis (addZ Z D) m (upd H D o) = vis (addZ Z D) m H := by
  funext b
  unfold vis
  by_cases hb : b = D
  · rw [if_pos (.inl (.inr hb)), if_pos (.inl (.inr hb))]
  · rw [upd_ne hb]
/-- a hidden thing is written -/
theorem MuOk.hid {G : Gx} {Z : Addr → Prop} {m : List Addr} {μ : Mu} {H : Hp} {D : Addr} {o : HO} (M : MuOk G (addZ Z D) m μ H) : MuOk G (addZ Z D) m μ (upd H D o) := by
  refine ⟨M.len, M.nd, M.out, fun z hz => ?_, fun n c a hc ha => ?_⟩
  · by_cases e : z = D
    · rw [e, upd_same]; intro q; cases q
    · rw [upd_ne e]; exact M.hw z hz
  · have hb : a ≠ D := fun e => M.out a (List.mem_of_getElem? ha) (.inr e)
    rw [vis_hidden]
    exact (M.cell n c a hc ha).keep (List.prefix_refl _) (Same.refl _) (upd_ne hb)
theorem SR.hid {G : Gx} {Z : Addr → Prop} {m : List Addr} {σ : L2.St} {H : Hp} {ρ : DS} {μ : Mu} {D : Addr} {o : HO} (S : SR G (addZ Z D) m σ H ρ μ) : SR G (addZ Z D) m σ (upd H D o) ρ μ := by
  have e := own_add (Z := Z) (D := D) (σ := σ) (ρ := ρ)
  refine ⟨S.len, ?_, fun i d h => ?_, fun i a ds h => ?_, S.dis, fun i c ks ds h => ?_⟩
  · rw [e]; exact MuOk.hid (e ▸ S.mu)
  · obtain ⟨v, h1, h2⟩ := S.val i d h
    rw [e] at h2
    exact ⟨v, h1, by rw [e, vis_hidden]; exact h2⟩
  · obtain ⟨h1, h2, h4⟩ := S.own i a ds h
    rw [e] at h4
    exact ⟨h1, h2, by rw [e, vis_hidden]; exact h4.keep (List.prefix_refl _) (Same.refl _) (upd_ne (fun q => h2 (.inr q)))⟩
  · have z := S.exn i c ks ds h
    rw [e] at z ⊢
    rw [vis_hidden]
    exact z
/-- a comprehension's target: what it does to the slots -/
def LcG (G : Gx) (vs : List Nat) (g : TG) (k : WG) : Prop := ∀ (Z : Addr → Prop) (m : List Addr) (μ : Mu) (σ : L2.St) (H : Hp) (ρ : DS) (d : D) (v : V) (Q : DS → Mu → Prop) (R : L2.St → Hp → Prop),
  SR G Z m σ H ρ μ → Rep G m (vis (ownW Z σ ρ) m H) d v → k d ρ μ Q → (∀ σ' ρ', SR G Z m σ' H ρ' μ → ownW Z σ' ρ' = ownW Z σ ρ → wipe σ' vs = wipe σ vs → Q ρ' μ → R σ' H) → g v σ H R
theorem wipe_set {σ : L2.St} {i : Nat} {x : Option V} : ∀ {vs : List Nat}, i ∈ vs → wipe (σ.set i x) vs = wipe σ vs
  | v :: vs, h => by
    rw [wipe, wipe]
    by_cases hi : i ∈ vs
    · rw [wipe_set hi]
    · have e : v = i := by simpa [hi, eq_comm] using h
      subst e
      have : ∀ {l : List Nat}, v ∉ l → wipe (σ.set v x) l = (wipe σ l).set v x := by
        intro l
        induction l with
        | nil => intro _; rfl
        | cons u l ih =>
          intro hu
          rw [wipe, wipe, ih fun q => hu (by simp [q]), List.set_comm _ _ (fun q => hu (by simp [q]))]
      rw [this hi, List.set_set]
theorem own_set_no {Z : Addr → Prop} {σ : L2.St} {ρ : DS} {i : Nat} {v : V} {d : D} (h : ∀ a ds, ρ[i]? ≠ some (.own a ds)) : ownW Z (σ.set i (some v)) (ρ.set i (.v d)) = ownW Z σ ρ := by
  funext b
  refine propext ⟨own_set, fun q => ?_⟩
  rcases q with q | ⟨j, ds, e1⟩
  · exact .inl q
  · have hj : i ≠ j := fun e => h b ds (e ▸ e1)
    exact .inr ⟨j, ds, by rw [List.getElem?_set_ne hj]; exact e1⟩
/-- a slot that is not being filled: checked where it is stored -/
def notOwn (ρ : DS) (i : Nat) : Prop := match ρ[i]? with
  | some (.own _ _) => False
  | _ => True
theorem notOwn_of {ρ : DS} {i : Nat} (h : notOwn ρ i) : ∀ a ds, ρ[i]? ≠ some (.own a ds) := fun a ds e => by
  unfold notOwn at h
  rw [e] at h
  exact h
def kNameC (i : Nat) : WG := fun d ρ μ Q => notOwn ρ i ∧ Q (ρ.set i (.v d)) μ
theorem lcg_name {G : Gx} {vs : List Nat} {i : Nat} (hi : i ∈ vs) : LcG G vs (gName i) (kNameC i) := by
  intro Z m μ σ H ρ d v Q R S r q k
  obtain ⟨no, q⟩ := q
  have no := notOwn_of no
  obtain ⟨S1, s1⟩ := S.set (i := i) r
  exact k _ _ S1 (own_set_no no) (wipe_set hi) q
def LcGs (G : Gx) (vs : List Nat) (g : TGs) (k : WGs) : Prop := ∀ (Z : Addr → Prop) (m : List Addr) (μ : Mu) (σ : L2.St) (H : Hp) (ρ : DS) (ds : List D) (us : List V) (Q : DS → Mu → Prop) (R : L2.St → Hp → Prop),
  SR G Z m σ H ρ μ → Reps G m (vis (ownW Z σ ρ) m H) ds us → k ds ρ μ Q → (∀ σ' ρ', SR G Z m σ' H ρ' μ → ownW Z σ' ρ' = ownW Z σ ρ → wipe σ' vs = wipe σ vs → Q ρ' μ → R σ' H) → g us σ H R
theorem lcgs_nil {G : Gx} {vs : List Nat} : LcGs G vs gNil kNil := by
  intro Z m μ σ H ρ ds us Q R S r q k
  cases ds with
  | nil => rw [Reps] at r; exact ⟨r, k _ _ S rfl rfl q⟩
  | cons d ds => exact q.elim
theorem lcgs_cons {G : Gx} {vs : List Nat} {g : TG} {k : WG} {gs : TGs} {ks : WGs} (h1 : LcG G vs g k) (h2 : LcGs G vs gs ks) : LcGs G vs (gCons g gs) (kCons k ks) := by
  intro Z m μ σ H ρ ds us Q R S r q kk
  cases ds with
  | nil => exact q.elim
  | cons d ds =>
    obtain ⟨v, vr, rfl, r1, r2⟩ := r.uncons
    refine ⟨v, vr, rfl, h1 Z m μ σ H ρ d v _ _ S r1 q fun σ' ρ' S' ow e q' => ?_⟩
    exact h2 Z m μ σ' H ρ' ds vr Q R S' (by rw [ow]; exact r2) q' fun σ2 ρ2 S2 ow2 e2 q2 => kk σ2 ρ2 S2 (ow2.trans ow) (e2.trans e) q2
theorem lcg_tup {G : Gx} {vs : List Nat} {n : Nat} {gs : TGs} {ks : WGs} (h : LcGs G vs gs ks) : LcG G vs (gTup G.K n gs) (kTup n ks) := by
  intro Z m μ σ H ρ d v Q R S r q k
  cases d with
  | tup ds =>
    obtain ⟨hl, q⟩ := q
    rw [Rep] at r
    obtain ⟨a, us, e1, st, rs⟩ := r
    exact ⟨a, us, e1, SqT.same vis_le st, by rw [← rs.len]; exact hl, h Z m μ σ H ρ ds us Q R S rs q k⟩
  | _ => exact q.elim
theorem wipe_at {σ : L2.St} {i : Nat} : ∀ {vs : List Nat}, i ∈ vs → (wipe σ vs).set i none = wipe σ vs
  | v :: vs, h => by
    by_cases e : v = i
    · subst e; rw [wipe, List.set_set]
    · have hi : i ∈ vs := by
        rcases List.mem_cons.mp h with q | q
        · exact absurd q.symm e
        · exact q
      rw [wipe, List.set_comm _ _ e, wipe_at hi]
theorem wipe_sub {σ : L2.St} {vs : List Nat} : ∀ {us : List Nat}, (∀ u ∈ us, u ∈ vs) → wipe (wipe σ vs) us = wipe σ vs
  | [], _ => rfl
  | u :: us, h => by rw [wipe, wipe_sub fun x hx => h x (by simp [hx]), wipe_at (h u (by simp))]
theorem wipe_wipe (σ : L2.St) (vs : List Nat) : wipe (wipe σ vs) vs = wipe σ vs := wipe_sub fun _ h => h
def WF : WX := fun _ _ _ _ => False
def xF : XD := fun _ _ _ _ => False
def lcL (g : WG) (tt : WT) (te : WE) (ρw : DS) : List D → List D → Mu → (D → Mu → Prop) → Prop
  | [], acc, μ, Q => Q (.lst acc) μ
  | d :: ds, acc, μ, Q => g d ρw μ fun ρ2 μ2 => tt ρ2 μ2 (fun b μ3 => if b = true then te ρ2 μ3 (fun y μ4 => acc.length < 1000000 ∧ lcL g tt te ρw ds (acc ++ [y]) μ4 Q) xF else lcL g tt te ρw ds acc μ3 Q) xF
def wLc (wi : WI) (g : WG) (tt : WT) (te : WE) (vs : List Nat) : WE := fun ρ μ Q Xd => wi ρ μ (fun ds μ1 => (∀ v ∈ vs, notOwn ρ v) ∧ lcL g tt te (wipeD ρ vs) ds [] μ1 Q) Xd
theorem xpF {G : Gx} {Z : Addr → Prop} {m : List Addr} {H H' : Hp} {cls : Value} {d : Option Addr} (p : XPost G Z m H xF cls d H') : False := by
  obtain ⟨_, _, _, _, _, _, _, _, _, _, _, _, _, _, _, q⟩ := p
  exact q
abbrev DTs (X : Cx) (ifs : List Expr) (w : WT) : Prop := PTs X ifs (liftT (gx X none) WF w)
def wYes : WT := fun _ μ Q _ => Q true μ
theorem pts_weak {X : Cx} {es : List Expr} {t t' : TT} (h : PTs X es t) (k : ∀ σ H Q, t' σ H Q → t σ H Q) : PTs X es t' := ⟨fun pins s σ H Q I q => h.run pins s σ H Q I (k σ H Q q)⟩
theorem dts_nil {X : Cx} : DTs X [] wYes := pts_weak pts_nil fun σ H Q' q => by
  obtain ⟨Z, m, ρ, μ, Q, Xd, S, q, k, kx⟩ := q
  exact k true H ⟨m, μ, .refl S.mu, q⟩
theorem dts_one {X : Cx} {c : Expr} {t : WT} (h : DT none WF X c t) : DTs X [c] t := pts_one h
theorem lift_lc {G : Gx} {W : WX} {wi : WI} {g : TG} {k : WG} {tt : WT} {te : WE} {vs : List Nat} (hg : LcG G vs g k) {σ : L2.St} {H : Hp} {Q' : VK} (q : lift G W (wLc wi k tt te vs) σ H Q') :
    tLc (liftIF G W wi) g (liftT G WF tt) (lift G WF te) vs σ H Q' := by
  obtain ⟨Z, m, ρ, μ, Q, Xd, S, q, kq, kx⟩ := q
  refine ⟨Z, m, ρ, μ, _, Xd, S, q, fun J H1 P => ?_, kx⟩
  obtain ⟨m1, ds, μ1, F, s1, hF, ok, no', q1⟩ := P
  have no : noOwn ρ vs := fun v hv a ds => notOwn_of (no' v hv) a ds
  intro D nD
  have S1 := S.step s1
  have E0 := own_wipe' (Z := Z) (σ := σ) (ρ := ρ) (vs := vs) no
  have Sw := S1.wiped (vs := vs) no
  obtain ⟨Mh, sh⟩ := MuOk.hide (o := .lst []) S1.mu nD
  -- the state of a turn
  have base : SR G (addZ Z D) m1 (wipe σ vs) (upd H1 D (.lst [])) (wipeD ρ vs) μ1 := by
    refine ⟨Sw.len, by rw [own_add, E0]; exact Mh, fun i d e => ?_, fun i a es e => ?_, Sw.dis, fun i c ks es e => ?_⟩
    · obtain ⟨v, h1, h2⟩ := Sw.val i d e
      rw [E0] at h2
      exact ⟨v, h1, by rw [own_add, E0]; exact Rep.mono (List.prefix_refl _) sh _ _ h2⟩
    · obtain ⟨h1, h2, h4⟩ := Sw.own i a es e
      rw [E0] at h4
      have na : a ≠ D := fun z => h4.there (by rw [z, nD])
      exact ⟨h1, fun z => z.elim h2 na, by rw [own_add, E0]; exact h4.keep (List.prefix_refl _) sh (upd_ne na)⟩
    · have z := Sw.exn i c ks es e
      rw [E0] at z
      rw [own_add, E0]
      exact z.mono (List.prefix_refl _) sh
  have nDW : ¬ ownW Z σ ρ D := fun z => S1.mu.hw D z nD
  let In : List DL.D → Hp → Prop := fun rest H' => ∃ m' μ' acc us, m1 <+: m' ∧ (∀ z, ownW Z σ ρ z → H' z = H1 z) ∧ SR G (addZ Z D) m' (wipe σ vs) H' (wipeD ρ vs) μ' ∧ Same (vis (ownW Z σ ρ) m1 H1) (vis (addZ (ownW Z σ ρ) D) m' H') ∧
    H' D = some (.lst us) ∧ Reps G m' (vis (addZ (ownW Z σ ρ) D) m' H') acc us ∧ lcL k tt te (wipeD ρ vs) rest acc μ' Q
  refine ⟨fun i n H' => n = ds.length - i ∧ i ≤ ds.length ∧ In (ds.drop i) H', ⟨_, rfl, Nat.zero_le _, m1, μ1, [], [], List.prefix_refl _, fun z hz => upd_ne fun e => nDW (e ▸ hz), base, sh, upd_same, Reps.nil, q1⟩, ?_⟩
  rintro i n H' ⟨rfl, hle, m', μ', acc, us, pm, hid, S', sm, hD, ra, q'⟩
  have vis' : Same (vis (ownW Z σ ρ) m1 H1) H' := sm.trans vis_le
  by_cases hlt : i < ds.length
  · refine .inr ⟨ok.go i H' hlt vis' (hF H' hid), In (ds.drop (i + 1)), fun H2 h2 => ⟨_, (by omega : ds.length - (i + 1) < ds.length - i), rfl, hlt, h2⟩, fun x H3 y => ?_⟩
    obtain ⟨d, ed, hy⟩ := ok.yld i H' x H3 hlt vis' (hF H' hid) y
    obtain ⟨hi', ee⟩ := List.getElem?_eq_some_iff.mp ed
    rw [List.drop_eq_getElem_cons hi', lcL, ee] at q'
    have ow : ownW (addZ Z D) (wipe σ vs) (wipeD ρ vs) = addZ (ownW Z σ ρ) D := by rw [own_add, E0]
    have : SR G (addZ Z D) m' (wipe σ vs) H3 (wipeD ρ vs) μ' ∧ Same (vis (addZ (ownW Z σ ρ) D) m' H') (vis (addZ (ownW Z σ ρ) D) m' H3) ∧ (∀ z, addZ (ownW Z σ ρ) D z → H3 z = H' z) ∧ Rep G m' (vis (addZ (ownW Z σ ρ) D) m' H3) d x := by
      rcases hy with ⟨rfl, rd⟩ | ⟨T, o, nT, rfl, rd⟩
      · exact ⟨S', Same.refl _, fun _ _ => rfl, Rep.mono pm sm _ _ rd⟩
      · have st := Step.laid (o := o) S'.mu nT
        rw [ow] at st
        exact ⟨S'.step (by rw [ow]; exact st), st.same, st.hid, rd _ _ pm (sm.trans st.same) (by rw [vis_upd (ow ▸ S'.mu) nT, upd_same])⟩
    obtain ⟨S3, sm3, hid3, rd⟩ := this
    refine hg (addZ Z D) m' μ' (wipe σ vs) H3 (wipeD ρ vs) d x _ _ S3 (by rw [ow]; exact rd) q' fun σ4 ρ4 S4 ow4 ew q4 => ⟨?_, ?_⟩
    · exact ew.trans (wipe_wipe σ vs)
    · refine ⟨addZ Z D, m', ρ4, μ', _, _, S4, q4, fun b H5 P => ?_, fun cls dd H5 P => (xpF P).elim⟩
      obtain ⟨m5, μ5, s5, q5⟩ := P
      rw [ow4, ow] at s5
      have back : ∀ {m6 μ6 H6}, Step G (addZ (ownW Z σ ρ) D) m' H3 m6 μ6 H6 → SR G (addZ Z D) m6 (wipe σ vs) H6 (wipeD ρ vs) μ6 := fun {m6 μ6 H6} s6 => S3.step (by rw [ow]; exact s6)
      cases b with
      | false =>
        rw [if_neg Bool.false_ne_true] at q5 ⊢
        exact ⟨m5, μ5, acc, us, pm.trans s5.pre, fun z hz => ((s5.hid z (.inl hz)).trans (hid3 z (.inl hz))).trans (hid z hz), back s5, (sm.trans sm3).trans s5.same, ((s5.hid D (.inr rfl)).trans (hid3 D (.inr rfl))).trans hD, Reps.mono s5.pre (sm3.trans s5.same) _ _ ra, q5⟩
      | true =>
        rw [if_pos rfl] at q5 ⊢
        refine ⟨addZ Z D, m5, ρ4, μ5, _, _, S4.step (by rw [ow4, ow]; exact s5), q5, fun u H6 P => ?_, fun cls dd H6 P => (xpF P).elim⟩
        obtain ⟨m6, yd, μ6, s6, r6, hlen, q6⟩ := P
        rw [ow4, ow] at s6 r6
        have s56 := s5.trans s6
        refine ⟨us, ((s56.hid D (.inr rfl)).trans (hid3 D (.inr rfl))).trans hD, by rw [← ra.len]; exact Nat.lt_of_lt_of_le hlen (by decide), ?_⟩
        refine ⟨m6, μ6, acc ++ [yd], us ++ [u], pm.trans s56.pre, fun z hz => ?_, (back s56).hid, ?_, upd_same, ?_, q6⟩
        · have hb : z ≠ D := fun e => nDW (e ▸ hz)
          rw [upd_ne hb]
          exact ((s56.hid z (.inl hz)).trans (hid3 z (.inl hz))).trans (hid z hz)
        · rw [vis_hidden]
          exact (sm.trans sm3).trans s56.same
        · rw [vis_hidden]
          exact Reps.append (Reps.mono s56.pre (sm3.trans s56.same) _ _ ra) (Reps.cons r6 Reps.nil)
  · have e : i = ds.length := by omega
    subst e
    rw [List.drop_length, lcL] at q'
    refine .inl ⟨ok.stop H' vis' (hF H' hid), kq _ _ (VPost.from s1 ?_)⟩
    have ow : ownW (addZ Z D) (wipe σ vs) (wipeD ρ vs) = addZ (ownW Z σ ρ) D := by rw [own_add, E0]
    have M' := S'.mu
    rw [ow] at M'
    have sub : ∀ b, ownW Z σ ρ b → addZ (ownW Z σ ρ) D b := fun b h => .inl h
    refine ⟨m', .lst acc, μ', ⟨pm, hid, M'.less sub, sm.trans (vis_mono sub)⟩, ?_, q'⟩
    rw [Rep]
    exact ⟨D, us, rfl, vis_some.mpr ⟨nDW, fun z => M'.out D z (.inr rfl), hD⟩, Reps.mono (List.prefix_refl _) (vis_mono sub) _ _ ra⟩
section
variable {W : WX} {X : Cx} {elt tg iter : Expr} {ifs : List Expr} {scope : Scope} {own : List (Str × Nat)} {pos : Pos} {wi : WI} {g : TG} {k : WG} {tt : WT} {te : WE}
theorem de_lcF (hc : X.calm = true) (hN : X.N.Nodup) (hi : DIF none W X tg iter wi) (ok : BlkOk X.N X.env.scope scope own) (hk : LcG (gx X none) (own.map (·.2)) g k)
    (hg : ∀ (s : Shared) (H : Hp) (C : Addr) (cl : List (Str × Addr)) (fp : List Addr), PG (X.blk s H scope (compEnvC scope cl C X.env) fp) tg g) (ht : ∀ (s : Shared) (H : Hp) (C : Addr) (cl : List (Str × Addr)) (fp : List Addr), DTs (X.blk s H scope (compEnvC scope cl C X.env) fp) ifs tt)
    (he : ∀ (s : Shared) (H : Hp) (C : Addr) (cl : List (Str × Addr)) (fp : List Addr), DE none WF (X.blk s H scope (compEnvC scope cl C X.env) fp) elt te) (hs : ∀ x, foldedSetIterable iter X.env x = pure x := by intro _; rfl) :
    DE none W X (.ListComp elt [⟨tg, iter, ifs, 0⟩] scope pos) (wLc wi k tt te (own.map (·.2))) := pe_weak (pe_lc hc hN hi ok hg ht he hs) fun _ _ _ q => lift_lc hk q
theorem de_lc (hc : X.calm = true) (hN : X.N.Nodup) (hi : DI none W X tg iter wi) (ok : BlkOk X.N X.env.scope scope own) (hk : LcG (gx X none) (own.map (·.2)) g k)
    (hg : ∀ (s : Shared) (H : Hp) (C : Addr) (cl : List (Str × Addr)) (fp : List Addr), PG (X.blk s H scope (compEnvC scope cl C X.env) fp) tg g) (ht : ∀ (s : Shared) (H : Hp) (C : Addr) (cl : List (Str × Addr)) (fp : List Addr), DTs (X.blk s H scope (compEnvC scope cl C X.env) fp) ifs tt)
    (he : ∀ (s : Shared) (H : Hp) (C : Addr) (cl : List (Str × Addr)) (fp : List Addr), DE none WF (X.blk s H scope (compEnvC scope cl C X.env) fp) elt te) (hs : ∀ x, foldedSetIterable iter X.env x = pure x := by intro _; rfl) :
    DE none W X (.ListComp elt [⟨tg, iter, ifs, 0⟩] scope pos) (wLc wi k tt te (own.map (·.2))) := de_lcF hc hN hi.toF ok hk hg ht he hs
theorem ds_setLcF {i : Nat} {y : Str} {py spos : Pos} (hc : X.calm = true) (hN : X.N.Nodup) (hy : X.N[i]? = some y) (hsw : swapsWith (.ListComp elt [⟨tg, iter, ifs, 0⟩] scope pos) (some (.Name y py)) spos.line X.env = pure true)
    (hi : DIF none W X tg iter wi) (ok : BlkOk X.N X.env.scope scope own) (hk : LcG (gx X none) (own.map (·.2)) g k)
    (hg : ∀ (s : Shared) (H : Hp) (C : Addr) (cl : List (Str × Addr)) (fp : List Addr), PG (X.blk s H scope (compEnvC scope cl C X.env) fp) tg g) (ht : ∀ (s : Shared) (H : Hp) (C : Addr) (cl : List (Str × Addr)) (fp : List Addr), DTs (X.blk s H scope (compEnvC scope cl C X.env) fp) ifs tt)
    (he : ∀ (s : Shared) (H : Hp) (C : Addr) (cl : List (Str × Addr)) (fp : List Addr), DE none WF (X.blk s H scope (compEnvC scope cl C X.env) fp) elt te) (hyl : X.env.scope.names.lookup y = some .local := by rfl) (hs : ∀ x, foldedSetIterable iter X.env x = pure x := by intro _; rfl) :
    DSt none W X (.Assign [.Name y py] (.ListComp elt [⟨tg, iter, ifs, 0⟩] scope pos) spos) (sSet i (wLc wi k tt te (own.map (·.2)))) := ps_weak (ps_setLc hc hN hy hyl hsw hi ok hg ht he hs) fun De σ H q => by
  obtain ⟨Z, m, ρ, μ, E, S, q, kn, kr, kb, kc, kx⟩ := q
  refine lift_lc (W := W) hk ⟨Z, m, ρ, μ, _, _, S, q, fun v H1 P => ?_, fun cls d H' P => kx cls d σ H' (XSPost.of S P)⟩
  obtain ⟨m1, d, μ1, s1, r1, q1⟩ := P
  obtain ⟨S1, s2⟩ := (S.step s1).set (i := i) r1
  exact kn _ _ ⟨m1, _, μ1, S1, (SStep.of s1).trans s2, q1⟩
theorem ds_setLc {i : Nat} {y : Str} {py spos : Pos} (hc : X.calm = true) (hN : X.N.Nodup) (hy : X.N[i]? = some y) (hsw : swapsWith (.ListComp elt [⟨tg, iter, ifs, 0⟩] scope pos) (some (.Name y py)) spos.line X.env = pure true)
    (hi : DI none W X tg iter wi) (ok : BlkOk X.N X.env.scope scope own) (hk : LcG (gx X none) (own.map (·.2)) g k)
    (hg : ∀ (s : Shared) (H : Hp) (C : Addr) (cl : List (Str × Addr)) (fp : List Addr), PG (X.blk s H scope (compEnvC scope cl C X.env) fp) tg g) (ht : ∀ (s : Shared) (H : Hp) (C : Addr) (cl : List (Str × Addr)) (fp : List Addr), DTs (X.blk s H scope (compEnvC scope cl C X.env) fp) ifs tt)
    (he : ∀ (s : Shared) (H : Hp) (C : Addr) (cl : List (Str × Addr)) (fp : List Addr), DE none WF (X.blk s H scope (compEnvC scope cl C X.env) fp) elt te) (hyl : X.env.scope.names.lookup y = some .local := by rfl) (hs : ∀ x, foldedSetIterable iter X.env x = pure x := by intro _; rfl) :
    DSt none W X (.Assign [.Name y py] (.ListComp elt [⟨tg, iter, ifs, 0⟩] scope pos) spos) (sSet i (wLc wi k tt te (own.map (·.2)))) := ds_setLcF hc hN hy hsw hi.toF ok hk hg ht he hyl hs
end
end DL

set_option Elab.async false
set_option linter.all false
set_option maxRecDepth 100000
set_option maxHeartbeats 4000000
set_option autoImplicit false
namespace DL
open PySem PySem.Spec PyProof.Rows L2
/-! ### cells made and written -/
theorem vis_cell {Z : Addr → Prop} {m : List Addr} {H : Hp} {p : Addr} {o : HO} (np : H p = none) : vis Z (m ++ [p]) (upd H p o) = vis Z m H := by
  funext b
  by_cases hb : b = p
  · subst hb
    rw [vis_none np]
    unfold vis
    rw [if_pos (.inr (by simp))]
  · unfold vis
    rw [upd_ne hb]
    by_cases h : Z b ∨ b ∈ m
    · rw [if_pos h, if_pos (h.imp id fun q => List.mem_append_left _ q)]
    · rw [if_neg h, if_neg (by simpa [hb] using h)]
theorem Step.cell {G : Gx} {Z : Addr → Prop} {m : List Addr} {μ : Mu} {H : Hp} (M : MuOk G Z m μ H) {p : Addr} {o : HO} {c : Cell} (np : H p = none) (hc : CellOk G (m ++ [p]) (vis Z m H) (upd H p o) c p) :
    Step G Z m H (m ++ [p]) (μ ++ [c]) (upd H p o) := by
  obtain ⟨h1, h2⟩ := M.fresh np
  have ev := vis_cell (Z := Z) (m := m) (o := o) np
  have pre : m <+: m ++ [p] := List.prefix_append _ _
  refine ⟨pre, fun z hz => upd_ne fun e => ?_, ⟨by simp [M.len], ?_, fun a ha => ?_, fun z hz => ?_, fun n d a hd ha => ?_⟩, by rw [ev]; exact Same.refl _⟩
  · subst e; exact M.hw z hz np
  · rw [List.nodup_append]
    refine ⟨M.nd, by simp, fun a ha b hb => ?_⟩
    rw [List.mem_singleton] at hb
    subst hb
    exact fun e => h2 (e ▸ ha)
  · rcases List.mem_append.mp ha with q | q
    · exact M.out a q
    · rw [List.mem_singleton] at q; subst q; exact h1
  · by_cases e : z = p
    · subst e; rw [upd_same]; intro q; cases q
    · rw [upd_ne e]; exact M.hw z hz
  · rw [ev]
    by_cases hn : n < m.length
    · rw [List.getElem?_append_left hn] at ha
      rw [List.getElem?_append_left (by rw [← M.len]; exact hn)] at hd
      have hb : a ≠ p := fun e => h2 (e ▸ List.mem_of_getElem? ha)
      exact (M.cell n d a hd ha).keep pre (Same.refl _) (upd_ne hb)
    · have hlt := (List.getElem?_eq_some_iff.mp ha).1
      have e : n = m.length := by simp at hlt; omega
      subst e
      rw [List.getElem?_concat_length] at ha
      rw [M.len, List.getElem?_concat_length] at hd
      cases ha
      cases hd
      exact hc
theorem vis_put {Z : Addr → Prop} {m : List Addr} {H : Hp} {a : Addr} {o : HO} (ha : a ∈ m) : vis Z m (upd H a o) = vis Z m H := by
  funext b
  unfold vis
  by_cases hb : b = a
  · subst hb
    rw [if_pos (.inr ha), if_pos (.inr ha)]
  · rw [upd_ne hb]
theorem Step.put {G : Gx} {Z : Addr → Prop} {m : List Addr} {μ : Mu} {H : Hp} (M : MuOk G Z m μ H) {n : Nat} {a : Addr} {o : HO} {c : Cell} (ha : m[n]? = some a) (hc : CellOk G m (vis Z m H) (upd H a o) c a) :
    Step G Z m H m (μ.set n c) (upd H a o) := by
  have hm := List.mem_of_getElem? ha
  have ev := vis_put (Z := Z) (H := H) (o := o) hm
  refine ⟨List.prefix_refl _, fun z hz => upd_ne fun e => M.out a hm (e ▸ hz), ⟨by rw [List.length_set]; exact M.len, M.nd, M.out, fun z hz => ?_, fun k d b hd hb => ?_⟩, by rw [ev]; exact Same.refl _⟩
  · by_cases e : z = a
    · subst e; rw [upd_same]; intro q; cases q
    · rw [upd_ne e]; exact M.hw z hz
  · rw [ev]
    by_cases hk : n = k
    · subst hk
      rw [ha] at hb
      cases hb
      have hl : n < μ.length := by rw [← M.len]; exact (List.getElem?_eq_some_iff.mp ha).1
      rw [List.getElem?_set_self hl] at hd
      cases hd
      exact hc
    · rw [List.getElem?_set_ne hk] at hd
      have hab : b ≠ a := fun e => by
        subst e
        obtain ⟨l1, e1⟩ := List.getElem?_eq_some_iff.mp ha
        obtain ⟨l2, e2⟩ := List.getElem?_eq_some_iff.mp hb
        exact hk ((List.getElem_inj M.nd).mp (e1.trans e2.symm))
      exact (M.cell k d b hd hb).keep (List.prefix_refl _) (Same.refl _) (upd_ne hab)
/-- a list display whose list is changed later: a cell -/
def wLstC (wa : WA) : WE := fun ρ μ Q Xd => wa ρ μ (fun ds μ1 => ds.length ≤ 1000 ∧ Q (.loc μ1.length) (μ1 ++ [.lst ds])) Xd
section
variable {ex : Option (Addr × Addr × Addr)} {W : WX} {X : Cx} {e o i : Expr} {es : List Expr} {wa wo wi : WE} {ws : WA} {pos : Pos}
theorem de_lstC (h : DA ex W X es ws) : DE ex W X (.List es pos) (wLstC ws) := pe_weak (pe_lst h) fun σ H Q' q => by
  obtain ⟨Z, m, ρ, μ, Q, Xd, S, q, k, kx⟩ := q
  refine ⟨Z, m, ρ, μ, _, Xd, S, q, fun vs H1 P => ?_, kx⟩
  obtain ⟨m1, ds, μ1, s1, r1, hl, q1⟩ := P
  refine ⟨by rw [← r1.len]; exact le1000 hl, fun p np => k _ _ ?_⟩
  have s2 : Step (gx X ex) (ownW Z σ ρ) m1 H1 (m1 ++ [p]) (μ1 ++ [.lst ds]) (upd H1 p (.lst vs)) := Step.cell s1.mu np ⟨vs, upd_same, Reps.mono (List.prefix_append _ _) (Same.refl _) _ _ r1⟩
  refine VPost.from s1 ⟨_, _, _, s2, ?_, q1⟩
  rw [Rep]
  exact ⟨p, rfl, by rw [← s1.mu.len]; exact List.getElem?_concat_length⟩
/-- cell[i] = d -/
def stL (o i d : D) (μ : Mu) (k : Mu → Prop) : Prop := match o, i with
  | .loc n, .int j => match μ[n]? with
    | some (.lst ds) => match ixN ds.length j with
      | some x => k (μ.set n (.lst (ds.set x d)))
      | none => False
    | _ => False
  | _, _ => False
theorem stL_of {o i d : D} {μ : Mu} {k : Mu → Prop} (h : stL o i d μ k) : ∃ n j ds x, o = .loc n ∧ i = .int j ∧ μ[n]? = some (.lst ds) ∧ ixN ds.length j = some x ∧ k (μ.set n (.lst (ds.set x d))) := by
  unfold stL at h
  split at h
  · split at h
    · split at h
      · exact ⟨_, _, _, _, rfl, rfl, by assumption, by assumption, h⟩
      · exact h.elim
    · exact h.elim
  · exact h.elim
def kSub (wo wi : WE) : WG := fun d ρ μ Q => wo ρ μ (fun x μ1 => wi ρ μ1 (fun y μ2 => stL x y d μ2 fun μ3 => Q ρ μ3) xF) xF
theorem dg_sub (ho : DE none WF X o wo) (hi : DE none WF X i wi)
    (ha : ∀ v, assign (.Subscript o i pos) X.env v = (do
      let ov ← holding [v] (eval o X.env)
      let iv ← holding [v, ov] (eval i X.env)
      standAt pos
      holding [v, ov, iv] (setItem ov iv v)
      release [v, ov, iv] []) := by intro _; rfl) : DG none X (.Subscript o i pos) (kSub wo wi) := pg_weak (pg_sub ho hi set_list ha) fun v σ H Q' q => by
  obtain ⟨Z, m, ρ, μ, d, Q, S, r, q, k⟩ := q
  refine ⟨Z, m, ρ, μ, _, _, S, q, fun x H1 P => ?_, fun cls dd H1 P => (xpF P).elim⟩
  obtain ⟨m1, xd, μ1, s1, r1, q1⟩ := P
  refine ⟨Z, m1, ρ, μ1, _, _, S.step s1, q1, fun y H2 P => ?_, fun cls dd H1 P => (xpF P).elim⟩
  obtain ⟨m2, yd, μ2, s2, r2, q2⟩ := P
  obtain ⟨n, j, ds, z, rfl, rfl, e1, e2, q3⟩ := stL_of q2
  have s12 := s1.trans s2
  have r1' := Rep.mono s2.pre s2.same _ _ r1
  rw [Rep] at r1'
  rw [Rep] at r2
  obtain ⟨a, rfl, ea⟩ := r1'
  obtain ⟨vs, hv, rv⟩ := s2.mu.cell n _ a e1 ea
  have rd := Rep.mono s12.pre s12.same _ _ r
  refine ⟨a, vs, j, z, rfl, r2, hv, by rw [← rv.len]; exact e2, ?_⟩
  have s3 : Step (gx X none) (ownW Z σ ρ) m2 H2 m2 (μ2.set n (.lst (ds.set z d))) (upd H2 a (.lst (vs.set z v))) := Step.put s2.mu ea ⟨_, upd_same, Reps.set rd z rv⟩
  have s13 := s12.trans s3
  exact k _ _ ⟨m2, ρ, _, S.step s13, SStep.of s13, q3⟩
end
/-! ### and, or, if as values -/
section
variable {ex : Option (Addr × Addr × Addr)} {W : WX} {X : Cx} {a b c : Expr} {wa wb : WE} {t : WT} {pos : Pos} {rest : List Expr}
def wIf (t : WT) (wa wb : WE) : WE := fun ρ μ Q Xd => t ρ μ (fun k μ1 => if k = true then wa ρ μ1 Q Xd else wb ρ μ1 Q Xd) Xd
theorem de_if (hc : DT ex W X c t) (ha : DE ex W X a wa) (hb : DE ex W X b wb) : DE ex W X (.IfExp c a b pos) (wIf t wa wb) := pe_weak (pe_ifExp hc ha hb) fun σ H Q' q => by
  obtain ⟨Z, m, ρ, μ, Q, Xd, S, q, k, kx⟩ := q
  refine ⟨Z, m, ρ, μ, _, Xd, S, q, fun c H1 P => ?_, kx⟩
  obtain ⟨m1, μ1, s1, q1⟩ := P
  cases c with
  | true =>
    rw [if_pos rfl] at q1 ⊢
    exact ⟨Z, m1, ρ, μ1, Q, Xd, S.step s1, q1, fun v H2 P => k v H2 (VPost.from s1 P), fun cls d H' P => kx cls d H' (XPost.from s1 P)⟩
  | false =>
    rw [if_neg Bool.false_ne_true] at q1 ⊢
    exact ⟨Z, m1, ρ, μ1, Q, Xd, S.step s1, q1, fun v H2 P => k v H2 (VPost.from s1 P), fun cls d H' P => kx cls d H' (XPost.from s1 P)⟩
/-- a and b, a or b where a is a bool -/
def wAndV (wa wb : WE) : WE := fun ρ μ Q Xd => wa ρ μ (fun x μ1 => fBool x fun k => if k = true then wb ρ μ1 Q Xd else Q (.bl false) μ1) Xd
def wOrV (wa wb : WE) : WE := fun ρ μ Q Xd => wa ρ μ (fun x μ1 => fBool x fun k => if k = true then Q (.bl true) μ1 else wb ρ μ1 Q Xd) Xd
end
end DL

set_option Elab.async false
set_option linter.all false
set_option maxRecDepth 100000
set_option maxHeartbeats 4000000
set_option autoImplicit false
namespace DL
open PySem PySem.Spec PyProof.Rows L2
section
variable {ex : Option (Addr × Addr × Addr)} {W : WX} {X : Cx} {a b c : Expr} {wa wb : WE} {t : WT} {pos : Pos} {rest : List Expr}
theorem de_one {op : BoolOp} (h : DE ex W X a wa) : DE ex W X (.BoolOp op [a] pos) wa := pe_one h
theorem de_and (ha : DE ex W X a wa) (hb : DE ex W X (.BoolOp .And (b :: rest) pos) wb) : DE ex W X (.BoolOp .And (a :: b :: rest) pos) (wAndV wa wb) := pe_weak (pe_and ha hb) fun σ H Q' q => by
  obtain ⟨Z, m, ρ, μ, Q, Xd, S, q, k, kx⟩ := q
  refine ⟨Z, m, ρ, μ, _, Xd, S, q, fun v H1 P => ?_, kx⟩
  obtain ⟨m1, d, μ1, s1, r1, q1⟩ := P
  obtain ⟨c, rfl, q2⟩ := fBool_of q1
  rw [Rep] at r1
  clear q1
  have q1 := q2
  clear q2
  refine ⟨c, r1, ?_⟩
  cases c with
  | true =>
    rw [if_pos rfl] at q1 ⊢
    exact ⟨Z, m1, ρ, μ1, Q, Xd, S.step s1, q1, fun v H2 P => k v H2 (VPost.from s1 P), fun cls d H' P => kx cls d H' (XPost.from s1 P)⟩
  | false =>
    rw [if_neg Bool.false_ne_true] at q1 ⊢
    exact k _ _ (VPost.from s1 (.now s1.mu (by rw [Rep]) q1))
def wNotV (wa : WE) : WE := fun ρ μ Q Xd => wa ρ μ (fun x μ1 => fBool x fun k => Q (.bl (!k)) μ1) Xd
theorem de_not (ha : DE ex W X a wa) : DE ex W X (.UnaryOp .Not a pos) (wNotV wa) := pe_weak (pe_not ha) fun σ H Q' q => by
  obtain ⟨Z, m, ρ, μ, Q, Xd, S, q, k, kx⟩ := q
  refine ⟨Z, m, ρ, μ, _, Xd, S, q, fun v H1 P => ?_, kx⟩
  obtain ⟨m1, d, μ1, s1, r1, q1⟩ := P
  obtain ⟨c, rfl, q2⟩ := fBool_of q1
  rw [Rep] at r1
  exact ⟨c, r1, k _ _ (VPost.from s1 (.now s1.mu (by rw [Rep]) q2))⟩
/-! (a, b, ..) = a list of that length -/
def kUnl (n : Nat) (gs : WGs) : WG := fun d ρ μ Q => match d with
  | .lst ds => ds.length = n ∧ gs ds ρ μ Q
  | .frl ds => ds.length = n ∧ gs ds ρ μ Q
  | _ => False
theorem kUnl_of {n : Nat} {gs : WGs} {d : D} {ρ : DS} {μ : Mu} {Q : DS → Mu → Prop} (h : kUnl n gs d ρ μ Q) : ∃ ds, (d = .lst ds ∨ d = .frl ds) ∧ ds.length = n ∧ gs ds ρ μ Q := by
  unfold kUnl at h
  split at h
  · exact ⟨_, .inl rfl, h⟩
  · exact ⟨_, .inr rfl, h⟩
  · exact h.elim
theorem dg_unl {es : List Expr} {k : Nat} {gs : WGs} {n : Nat} (hc : X.calm = true) (h : DGs ex X es gs) (hn : (assignEach es X.env).length = n := by rfl) (hst : (assignEach es X.env).findIdx? (·.1) = none := by rfl) : DG ex X (.Tuple es k pos) (kUnl n gs) :=
  pg_weak (pg_unl hc h hn hst) fun v σ H Q' q => by
  obtain ⟨Z, m, ρ, μ, d, Q, S, r, q, k⟩ := q
  obtain ⟨ds, hd, hl, q⟩ := kUnl_of q
  obtain ⟨a, vs, e1, st, rs⟩ := lst_rep' hd r
  exact ⟨a, vs, e1, Same.seq vis_le st, by rw [← rs.len]; exact hl, Z, m, ρ, μ, ds, Q, S, rs, q, k⟩
end
/-! ### isinstance -/
inductive TyN where
  | b (n : String) | c (c : Str)
  deriving DecidableEq
def tyD (d : D) (μ : Mu) : Option TyN := match d with
  | .non => some (.b "NoneType")
  | .bl _ => some (.b "bool")
  | .int _ => some (.b "int")
  | .str _ => some (.b "str")
  | .tup _ => some (.b "tuple")
  | .lst _ => some (.b "list")
  | .frl _ => some (.b "list")
  | .obj c _ _ => some (.c c)
  | .loc n => match μ[n]? with
    | some (.lst _) => some (.b "list")
    | some (.ins c _ _) => some (.c c)
    | _ => none
  | .opq (.dK _) => some (.b "dict")
  | _ => none
def clD : D → Option TyN
  | .ty n => some (.b n)
  | .cls c => some (.c c)
  | _ => none
/-- what of the text a class must have that type(x) is it -/
structure InsT (K : PySem.W.Frag) (C : Addr) : Prop where
  cl : Cls K C
  ca : PySem.W.findIn K (.ref C) "__class__" = some (some (.builtin "object.__class__"))
  cn : PySem.W.specialIn K (.builtin "object.__class__") "__get__" = some (some (.builtin "getset_descriptor.__get__"))
  ct : PySem.W.takesIn K (.builtin "object.__class__") = some true
  cm : PySem.W.mroIn K C (.type "object") = some true
def TyVal (G : Gx) : TyN → Value → Prop
  | .b n, v => v = .type n
  | .c c, v => ∃ C, G.mg c = some (.ref C) ∧ v = .ref C
/-- the answers of isinstance that are known: by a table -/
structure IsiTab (G : Gx) (f : TyN → TyN → Option Bool) : Prop where
  ok : ∀ t u b, f t u = some b → ∀ tv uv, TyVal G t tv → TyVal G u uv → PySem.W.kitOne G.K tv uv = some b
  ins : ∀ c u b, f (.c c) u = some b → ∀ C, G.mg c = some (.ref C) → InsT G.K C
theorem tyX_of {G : Gx} {Z : Addr → Prop} {m : List Addr} {μ : Mu} {H : Hp} {x : D} {v : V} {t : TyN} (M : MuOk G Z m μ H) (r : Rep G m (vis Z m H) x v) (h : tyD x μ = some t) (hi : ∀ c, t = .c c → ∀ C, G.mg c = some (.ref C) → InsT G.K C) :
    ∃ tv, TyVal G t tv ∧ TyX G.K H v tv := by
  unfold tyD at h
  split at h
  · cases h; rw [Rep] at r; subst r; exact ⟨_, rfl, .base .non⟩
  · cases h; rw [Rep] at r; subst r; exact ⟨_, rfl, .base (.bl _)⟩
  · cases h; rw [Rep] at r; subst r; exact ⟨_, rfl, .base (.int _)⟩
  · cases h; rw [Rep] at r; subst r; exact ⟨_, rfl, .base (.str _)⟩
  · cases h; rw [Rep] at r
    obtain ⟨a, vs, rfl, s, _⟩ := r
    refine ⟨_, rfl, ?_⟩
    rcases SqT.same vis_le s with (s | ⟨o, s⟩) | ⟨o, its, n, s, c, _⟩
    · exact .base (.tup s)
    · exact .fTuple s
    · exact .kTuple s c
  · cases h; rw [Rep] at r
    obtain ⟨a, vs, rfl, s, _⟩ := r
    exact ⟨_, rfl, .base (.lst (vis_le _ _ s))⟩
  · cases h; rw [Rep] at r
    obtain ⟨a, vs, rfl, s, _⟩ := r
    refine ⟨_, rfl, ?_⟩
    rcases Same.seq vis_le s with (s | ⟨o, s⟩) | ⟨o, its, n, s, c, _⟩
    · exact .base (.lst s)
    · exact .base (.frz s)
    · exact .kList s c
  · cases h; rw [Rep] at r
    obtain ⟨a, C, dx, vs, rfl, g, s, _⟩ := r
    have i := hi _ rfl C g
    exact ⟨_, ⟨C, g, rfl⟩, .base (.ins (vis_le _ _ s) i.cl i.ca i.cn i.ct i.cm)⟩
  · rw [Rep] at r
    obtain ⟨a, rfl, ea⟩ := r
    split at h
    · rename_i e1
      cases h
      obtain ⟨vs, h1, _⟩ := M.cell _ _ a e1 ea
      exact ⟨_, rfl, .base (.lst h1)⟩
    · rename_i e1
      cases h
      obtain ⟨C, dx, vs, g, h1, _⟩ := M.cell _ _ a e1 ea
      have i := hi _ rfl C g
      exact ⟨_, ⟨C, g, rfl⟩, .base (.ins h1 i.cl i.ca i.cn i.ct i.cm)⟩
    · cases h
  · cases h; rw [Rep] at r
    obtain ⟨a, rfl, s⟩ := r
    exact ⟨_, rfl, .base (.dK (vis_le _ _ s))⟩
  · cases h
theorem clV_of {G : Gx} {m : List Addr} {E : Hp} {x : D} {v : V} {u : TyN} (r : Rep G m E x v) (h : clD x = some u) : ∃ uv, TyVal G u uv ∧ ClsV v uv := by
  unfold clD at h
  split at h
  · cases h; rw [Rep] at r; subst r; exact ⟨_, rfl, .ty _⟩
  · cases h; rw [Rep] at r
    obtain ⟨C, g, rfl⟩ := r
    exact ⟨_, ⟨C, g, rfl⟩, .own C⟩
  · cases h
def isiD (f : TyN → TyN → Option Bool) (x c : D) (μ : Mu) : Option Bool := match tyD x μ, clD c with
  | some t, some u => f t u
  | _, _ => none
def fIsi (f : TyN → TyN → Option Bool) : FN := fun xs μ Q => match xs with
  | [x, c] => match isiD f x c μ with
    | some b => Q (.bl b) μ
    | none => False
  | _ => False
theorem isiD_of {f : TyN → TyN → Option Bool} {x c : D} {μ : Mu} {b : Bool} (h : isiD f x c μ = some b) : ∃ t u, tyD x μ = some t ∧ clD c = some u ∧ f t u = some b := by
  unfold isiD at h
  split at h
  · exact ⟨_, _, by assumption, by assumption, h⟩
  · cases h
theorem fIsi_of {f : TyN → TyN → Option Bool} {xs : List D} {μ : Mu} {Q : D → Mu → Prop} (h : fIsi f xs μ Q) : ∃ x c b, xs = [x, c] ∧ isiD f x c μ = some b ∧ Q (.bl b) μ := by
  unfold fIsi at h
  split at h
  · split at h
    · exact ⟨_, _, _, rfl, by assumption, h⟩
    · exact h.elim
  · exact h.elim
theorem sn_isi {G : Gx} {f : TyN → TyN → Option Bool} (T : IsiTab G f) : SN G (rIsi G.K) (fIsi f) := by
  intro Z m μ H xs us Q Q' M r h k
  obtain ⟨x, c, b, rfl, hb, q⟩ := fIsi_of h
  obtain ⟨v, t, rfl, r1, r2⟩ := r.uncons
  obtain ⟨v', t', rfl, r3, r4⟩ := r2.uncons
  rw [Reps] at r4
  subst r4
  obtain ⟨tn, un, h1, h2, h3⟩ := isiD_of hb
  obtain ⟨tv, t1, t2⟩ := tyX_of M r1 h1 fun c e C g => T.ins c un b (e ▸ h3) C g
  obtain ⟨uv, u1, u2⟩ := clV_of r3 h2
  exact ⟨v, v', tv, uv, b, rfl, u2, t2, T.ok _ _ _ h3 _ _ t1 u1, k _ _ (.now M (by rw [Rep]) q)⟩
/-! ### attributes -/
/-- an instance: class, names, values -/
def insD (d : D) (μ : Mu) : Option (Str × List Str × List D) := match d with
  | .obj c ks ds => some (c, ks, ds)
  | .loc n => match μ[n]? with
    | some (.ins c ks ds) => some (c, ks, ds)
    | _ => none
  | _ => none
theorem ins_rep {G : Gx} {Z : Addr → Prop} {m : List Addr} {μ : Mu} {H : Hp} {x : D} {v : V} {c : Str} {ks : List Str} {ds : List D} (M : MuOk G Z m μ H) (r : Rep G m (vis Z m H) x v) (h : insD x μ = some (c, ks, ds)) :
    ∃ a C dx vs, v = .ref a ∧ G.mg c = some (.ref C) ∧ H a = some (.ins C dx (ks.zip vs)) ∧ ks.length = ds.length ∧ Reps G m (vis Z m H) ds vs := by
  unfold insD at h
  split at h
  · cases h
    rw [Rep] at r
    obtain ⟨a, C, dx, vs, e, g, s, l, q⟩ := r
    exact ⟨a, C, dx, vs, e, g, vis_le _ _ s, l, q⟩
  · split at h
    · rename_i e1
      cases h
      rw [Rep] at r
      obtain ⟨a, e, ea⟩ := r
      obtain ⟨C, dx, vs, g, s, l, q⟩ := M.cell _ _ a e1 ea
      exact ⟨a, C, dx, vs, e, g, s, l, q⟩
    · cases h
  · cases h
/-- the value of a name -/
def fldOf (f : Str) : List Str → List D → Option D
  | k :: ks, d :: ds => if f == k then some d else fldOf f ks ds
  | _, _ => none
theorem fldOf_rep {G : Gx} {m : List Addr} {E : Hp} {f : Str} : ∀ {ks : List Str} {ds : List D} {vs : List V} {d : D}, Reps G m E ds vs → fldOf f ks ds = some d → ∃ v, (ks.zip vs).lookup f = some v ∧ Rep G m E d v
  | [], ds, vs, d, r, h => by cases ds <;> cases h
  | k :: ks, [], vs, d, r, h => by cases h
  | k :: ks, d0 :: ds, vs, d, r, h => by
    obtain ⟨v, t, rfl, r1, r2⟩ := r.uncons
    rw [List.zip_cons_cons, List.lookup_cons]
    rw [fldOf] at h
    cases e : f == k with
    | true => rw [e] at h; cases h; exact ⟨v, rfl, r1⟩
    | false => rw [e] at h; exact fldOf_rep r2 h
def fFld (c f : Str) : F1 := fun x μ Q => match insD x μ with
  | some (c', ks, ds) => c' = c ∧ match fldOf f ks ds with
    | some d => Q d μ
    | none => False
  | none => False
theorem fFld_of {c f : Str} {x : D} {μ : Mu} {Q : D → Mu → Prop} (h : fFld c f x μ Q) : ∃ ks ds d, insD x μ = some (c, ks, ds) ∧ fldOf f ks ds = some d ∧ Q d μ := by
  unfold fFld at h
  split at h
  · rename_i e
    obtain ⟨rfl, h⟩ := h
    split at h
    · exact ⟨_, _, _, e, by assumption, h⟩
    · exact h.elim
  · exact h.elim
def rFld (K : PySem.W.Frag) (f : Str) : V → Hp → VK → Prop := fun x H1 Q => ∃ a C dx fs v, x = .ref a ∧ H1 a = some (.ins C dx fs) ∧ Cls K C ∧ NoAttr K C f ∧ fs.lookup f = some v ∧ Q v H1
theorem s1_fld {G : Gx} {c f : Str} {C : Addr} (hm : G.mg c = some (.ref C)) (hc : Cls G.K C) (hn : NoAttr G.K C f) : S1 G (rFld G.K f) (fFld c f) := by
  intro Z m μ H x u Q Q' M rx h k
  obtain ⟨ks, ds, d, e1, e2, q⟩ := fFld_of h
  obtain ⟨a, C', dx, vs, rfl, g, s, l, rs⟩ := ins_rep M rx e1
  rw [hm] at g
  cases g
  obtain ⟨v, ev, rv⟩ := fldOf_rep rs e2
  exact ⟨a, C, dx, _, v, rfl, s, hc, hn, ev, k _ _ (.now M rv q)⟩
section
variable {ex : Option (Addr × Addr × Addr)} {W : WX} {X : Cx} {e o value : Expr} {wa wo : WE} {pos pos' : Pos}
theorem de_fld {c f : Str} {C : Addr} (hm : X.mg c = some (.ref C)) (hc : Cls X.K C) (hn : NoAttr X.K C f) (he : DE ex W X e wa) (hb : attributeBase e f X.env (eval e X.env) = eval e X.env := by rfl) : DE ex W X (.Attribute e f pos) (w1 (fFld c f) wa) :=
  pe_weak (pe_fld he hb) fun _ _ _ q => lift_w1 (G := gx X ex) (s1_fld hm hc hn) q
end
/-! stored -/
def putK (f : Str) : List Str → List Str
  | [] => [f]
  | g :: r => if g = f then g :: r else g :: putK f r
def putD {α : Type} (f : Str) (y : α) : List Str → List α → List α
  | [], _ => [y]
  | g :: r, x :: xs => if g = f then y :: xs else x :: putD f y r xs
  | _ :: _, [] => []
theorem putF_zip (f : Str) (y : V) : ∀ (ks : List Str) (vs : List V), ks.length = vs.length → putF f y (ks.zip vs) = (putK f ks).zip (putD f y ks vs)
  | [], [], _ => rfl
  | [], _ :: _, h => nomatch h
  | _ :: _, [], h => nomatch h
  | g :: r, x :: xs, h => by
    have ih := putF_zip f y r xs (by simpa using h)
    rw [List.zip_cons_cons, putK, putD, putF]
    by_cases e : g = f
    · rw [if_pos e, if_pos e, if_pos e, List.zip_cons_cons]
    · rw [if_neg e, if_neg e, if_neg e, List.zip_cons_cons, ih]
theorem putD_len (f : Str) : ∀ (ks : List Str) (ds : List D) (d : D), ks.length = ds.length → (putK f ks).length = (putD f d ks ds).length
  | [], [], _, _ => rfl
  | [], _ :: _, _, h => nomatch h
  | _ :: _, [], _, h => nomatch h
  | g :: r, x :: xs, d, h => by
    have ih := putD_len f r xs d (by simpa using h)
    rw [putK, putD]
    by_cases e : g = f
    · rw [if_pos e, if_pos e]; exact h
    · rw [if_neg e, if_neg e, List.length_cons, List.length_cons, ih]
theorem putD_rep {G : Gx} {m : List Addr} {E : Hp} {f : Str} {d : D} {v : V} (rd : Rep G m E d v) : ∀ {ks : List Str} {ds : List D} {vs : List V}, ks.length = ds.length → Reps G m E ds vs → Reps G m E (putD f d ks ds) (putD f v ks vs)
  | [], [], vs, _, r => by rw [Reps] at r; subst r; exact Reps.cons rd Reps.nil
  | [], _ :: _, _, h, _ => nomatch h
  | _ :: _, [], _, h, _ => nomatch h
  | g :: r, x :: xs, vs, h, q => by
    obtain ⟨u, t, rfl, q1, q2⟩ := q.uncons
    rw [putD, putD]
    by_cases e : g = f
    · rw [if_pos e, if_pos e]; exact Reps.cons rd q2
    · rw [if_neg e, if_neg e]; exact Reps.cons q1 (putD_rep rd (by simpa using h) q2)
/-- an own thing is written -/
theorem own_put {Z : Addr → Prop} {σ : L2.St} {ρ : DS} {i : Nat} {a : Addr} {c c' : Cell} (hi : ρ[i]? = some (.own a c)) : ownW Z σ (ρ.set i (.own a c')) = ownW Z σ ρ := by
  have hil := (List.getElem?_eq_some_iff.mp hi).1
  funext b
  apply propext
  constructor
  · rintro (h | ⟨j, e, h1⟩)
    · exact .inl h
    · by_cases hj : i = j
      · subst hj
        rw [List.getElem?_set_self hil] at h1
        cases h1
        exact .inr ⟨i, c, hi⟩
      · rw [List.getElem?_set_ne hj] at h1; exact .inr ⟨j, e, h1⟩
  · rintro (h | ⟨j, e, h1⟩)
    · exact .inl h
    · by_cases hj : i = j
      · subst hj
        rw [hi] at h1
        cases h1
        exact .inr ⟨i, c', List.getElem?_set_self hil⟩
      · exact .inr ⟨j, e, by rw [List.getElem?_set_ne hj]; exact h1⟩
theorem SR.putOwn {G : Gx} {Z : Addr → Prop} {m : List Addr} {σ : L2.St} {H : Hp} {ρ : DS} {μ : Mu} (S : SR G Z m σ H ρ μ) {i : Nat} {c c' : Cell} {a : Addr} {o : HO} (hi : ρ[i]? = some (.own a c))
    (hc : CellOk G m (vis (ownW Z σ ρ) m H) (upd H a o) c' a) : SR G Z m σ (upd H a o) (ρ.set i (.own a c')) μ ∧ SStep G Z m σ ρ H m σ (ρ.set i (.own a c')) (upd H a o) := by
  have hil := (List.getElem?_eq_some_iff.mp hi).1
  obtain ⟨hs, nz, _⟩ := S.own i a c hi
  have ow : ownW Z σ (ρ.set i (.own a c')) = ownW Z σ ρ := own_put hi
  have wa : ownW Z σ ρ a := .inr ⟨i, c, hi⟩
  have ev : vis (ownW Z σ ρ) m (upd H a o) = vis (ownW Z σ ρ) m H := by
    funext b
    unfold vis
    by_cases hb : b = a
    · rw [hb, if_pos (.inl wa), if_pos (.inl wa)]
    · rw [upd_ne hb]
  refine ⟨⟨by rw [List.length_set]; exact S.len, ?_, fun j d e => ?_, fun j b e h => ?_, fun j k b e f h1 h2 => ?_, fun j c ks ds h => ?_⟩, List.prefix_refl _, fun z hz => upd_ne fun e => nz (e ▸ hz), by rw [ow, ev]; exact Same.refl _⟩
  · rw [ow]
    refine ⟨S.mu.len, S.mu.nd, S.mu.out, fun z hz => ?_, fun n d b hd hb => ?_⟩
    · by_cases e : z = a
      · rw [e, upd_same]; intro q; cases q
      · rw [upd_ne e]; exact S.mu.hw z hz
    · rw [ev]
      have nb : b ≠ a := fun e => S.mu.out b (List.mem_of_getElem? hb) (e ▸ wa)
      exact (S.mu.cell n d b hd hb).keep (List.prefix_refl _) (Same.refl _) (upd_ne nb)
  · rw [ow, ev]
    have hj : i ≠ j := fun q => by subst q; rw [List.getElem?_set_self hil] at e; cases e
    rw [List.getElem?_set_ne hj] at e
    exact S.val j d e
  · rw [ow, ev]
    by_cases hj : i = j
    · subst hj
      rw [List.getElem?_set_self hil] at h
      cases h
      exact ⟨hs, nz, hc⟩
    · rw [List.getElem?_set_ne hj] at h
      obtain ⟨h1, h2, h3⟩ := S.own j b e h
      exact ⟨h1, h2, h3.keep (List.prefix_refl _) (Same.refl _) (upd_ne fun q => hj (S.dis i j a c e hi (q ▸ h)))⟩
  · have get : ∀ {l : Nat} {b : Addr} {es : Cell}, (ρ.set i (Sl.own a c'))[l]? = some (Sl.own b es) → ∃ es2 : Cell, ρ[l]? = some (Sl.own b es2) := fun {l b es} h => by
      by_cases hj : i = l
      · subst hj
        rw [List.getElem?_set_self hil] at h
        cases h
        exact ⟨c, hi⟩
      · rw [List.getElem?_set_ne hj] at h; exact ⟨es, h⟩
    obtain ⟨_, g1⟩ := get h1
    obtain ⟨_, g2⟩ := get h2
    exact S.dis j k b _ _ g1 g2
  · rw [ow, ev]
    have hj : i ≠ j := fun q => by subst q; rw [List.getElem?_set_self hil] at h; cases h
    rw [List.getElem?_set_ne hj] at h
    exact S.exn j c ks ds h
/-- self.f = value, self the thing that is being made -/
def putOwnI (c0 : Str) (i : Nat) (f : Str) (d : D) (ρ : DS) (k : DS → Prop) : Prop := match ρ[i]? with
  | some (.own a (.ins c ks ds)) => c = c0 ∧ ks.length < 1000 ∧ k (ρ.set i (.own a (.ins c (putK f ks) (putD f d ks ds))))
  | _ => False
theorem putOwnI_of {c : Str} {i : Nat} {f : Str} {d : D} {ρ : DS} {k : DS → Prop} (h : putOwnI c i f d ρ k) : ∃ a ks ds, ρ[i]? = some (.own a (.ins c ks ds)) ∧ ks.length < 1000 ∧ k (ρ.set i (.own a (.ins c (putK f ks) (putD f d ks ds)))) := by
  unfold putOwnI at h
  split at h
  · rename_i e
    obtain ⟨rfl, h⟩ := h
    exact ⟨_, _, _, e, h⟩
  · exact h.elim
def sFldO (c : Str) (i : Nat) (f : Str) (wa : WE) : WS := fun E ρ μ => wa ρ μ (fun d μ1 => putOwnI c i f d ρ fun ρ1 => E.nx ρ1 μ1) fun c ks es μ' => E.xc c ks es ρ μ'
section
variable {ex : Option (Addr × Addr × Addr)} {W : WX} {X : Cx} {e o value : Expr} {wa wo : WE} {pos pos' p0 : Pos}
theorem ds_fldO {i : Nat} {x c f : Str} {C : Addr} (hm : X.mg c = some (.ref C)) (hc : Cls X.K C) (hn : NoAttr X.K C f) (hN : X.N[i]? = some x) (hv : DE ex W X value wa) (hs : swapsWith value (some (.Attribute (.Name x p0) f pos')) pos.line X.env = pure false)
    (hvis : Vis X.env.scope x := by first | exact Or.inl rfl | exact Or.inr (Or.inl rfl) | exact Or.inr (Or.inr rfl)) (hd : (x == ("__debug__" : Str)) = false := by decide) (hcd : (x == ("__classdict__" : Str)) = false := by decide) :
    DSt ex W X (.Assign [.Attribute (.Name x p0) f pos'] value pos) (sFldO c i f wa) := ps_weak (ps_fld (pe_var hN hvis hd hcd) hv hs) fun De σ H q => by
  obtain ⟨Z, m, ρ, μ, E, S, q, kn, kr, kb, kc, kx⟩ := q
  refine ⟨Z, m, ρ, μ, _, _, S, q, fun v H1 P => ?_, fun cls d H' P => kx cls d σ H' (XSPost.of S P)⟩
  obtain ⟨m1, d, μ1, s1, r1, q1⟩ := P
  obtain ⟨a, ks, ds, hi, hl, q2⟩ := putOwnI_of q1
  have S1 := S.step s1
  obtain ⟨ha, nz, C0, dx, vs, g, hv, l, rs⟩ := S1.own i a _ hi
  have hC : C0 = C := by
    have g' : X.mg c = some (.ref C0) := g
    rw [hm] at g'; cases g'; rfl
  subst hC
  have lv : ks.length = vs.length := by rw [l]; exact rs.len
  refine ⟨_, ha, a, C0, dx, _, rfl, hv, hc, hn, by rw [List.length_zip, ← lv, Nat.min_self]; exact hl, ?_⟩
  obtain ⟨S2, s2⟩ := S1.putOwn (o := .ins C0 dx (putF f v (ks.zip vs))) (c' := .ins c (putK f ks) (putD f d ks ds)) hi ⟨C0, dx, putD f v ks vs, g, by rw [upd_same, putF_zip f v ks vs lv], putD_len f ks ds d l, putD_rep r1 l rs⟩
  exact kn _ _ ⟨m1, _, μ1, S2, (SStep.of s1).trans s2, q2⟩
end
end DL

set_option Elab.async false
set_option linter.all false
set_option maxRecDepth 100000
set_option maxHeartbeats 4000000
set_option autoImplicit false
namespace DL
open PySem PySem.Spec PyProof.Rows L2
/-! ### an own thing let go: a datum -/
def cellD : Cell → Option D
  | .lst ds => some (.lst ds)
  | .ins c ks ds => some (.obj c ks ds)
  | .pool => none
  | .dct kvs => none
  | .dic _ _ => none
theorem cellD_rep {G : Gx} {m : List Addr} {E H : Hp} {c : Cell} {a : Addr} {d : D} (h : CellOk G m E H c a) (e : cellD c = some d) {E' : Hp} (hE : Same E E') (ha : ∀ o, H a = some o → E' a = some o) : Rep G m E' d (.ref a) := by
  cases c with
  | lst ds =>
    cases e
    obtain ⟨vs, h1, h2⟩ := h
    rw [Rep]
    exact ⟨a, vs, rfl, ha _ h1, Reps.mono (List.prefix_refl _) hE _ _ h2⟩
  | ins c ks ds =>
    cases e
    obtain ⟨C, dx, vs, g, h1, l, h2⟩ := h
    rw [Rep]
    exact ⟨a, C, dx, vs, rfl, g, ha _ h1, l, Reps.mono (List.prefix_refl _) hE _ _ h2⟩
  | pool => cases e
  | dct kvs => cases e
  | dic _ _ => cases e
theorem SR.free {G : Gx} {Z : Addr → Prop} {m : List Addr} {σ : L2.St} {H : Hp} {ρ : DS} {μ : Mu} (S : SR G Z m σ H ρ μ) {i : Nat} {a : Addr} {c : Cell} {d : D} (hi : ρ[i]? = some (.own a c)) (hd : cellD c = some d) :
    SR G Z m σ H (ρ.set i (.v d)) μ ∧ SStep G Z m σ ρ H m σ (ρ.set i (.v d)) H := by
  have hil := (List.getElem?_eq_some_iff.mp hi).1
  obtain ⟨hs, nz, hc⟩ := S.own i a c hi
  have sub : ∀ b, ownW Z σ (ρ.set i (.v d)) b → ownW Z σ ρ b := fun b h => by
    rcases h with h | ⟨j, e, h1⟩
    · exact .inl h
    · by_cases hj : i = j
      · subst hj; rw [List.getElem?_set_self hil] at h1; cases h1
      · rw [List.getElem?_set_ne hj] at h1; exact .inr ⟨j, e, h1⟩
  have sm := vis_mono (m := m) (H := H) sub
  have nw : ¬ ownW Z σ (ρ.set i (.v d)) a := by
    rintro (h | ⟨j, e, h1⟩)
    · exact nz h
    · by_cases hj : i = j
      · subst hj; rw [List.getElem?_set_self hil] at h1; cases h1
      · rw [List.getElem?_set_ne hj] at h1; exact hj (S.dis i j a c e hi h1)
  refine ⟨⟨by rw [List.length_set]; exact S.len, S.mu.less sub, fun j e h => ?_, fun j b e h => ?_, fun j k b e f h1 h2 => ?_, fun j c ks ds h => ?_⟩, List.prefix_refl _, fun _ _ => rfl, sm⟩
  · by_cases hj : i = j
    · subst hj
      rw [List.getElem?_set_self hil] at h
      cases h
      exact ⟨_, hs, cellD_rep hc hd sm fun o ho => vis_some.mpr ⟨nw, fun q => S.mu.out a q (.inr ⟨i, c, hi⟩), ho⟩⟩
    · rw [List.getElem?_set_ne hj] at h
      obtain ⟨v, h1, h2⟩ := S.val j e h
      exact ⟨v, h1, Rep.mono (List.prefix_refl _) sm _ _ h2⟩
  · by_cases hj : i = j
    · subst hj; rw [List.getElem?_set_self hil] at h; cases h
    · rw [List.getElem?_set_ne hj] at h
      obtain ⟨h1, h2, h3⟩ := S.own j b e h
      exact ⟨h1, h2, h3.keep (List.prefix_refl _) sm rfl⟩
  · have get : ∀ {l : Nat} {b : Addr} {es : Cell}, (ρ.set i (Sl.v d))[l]? = some (Sl.own b es) → ρ[l]? = some (Sl.own b es) := fun {l b es} h => by
      by_cases hj : i = l
      · subst hj; rw [List.getElem?_set_self hil] at h; cases h
      · rw [List.getElem?_set_ne hj] at h; exact h
    exact S.dis j k b _ _ (get h1) (get h2)
  · have hj : i ≠ j := fun q => by subst q; rw [List.getElem?_set_self hil] at h; cases h
    rw [List.getElem?_set_ne hj] at h
    exact (S.exn j c ks ds h).mono (List.prefix_refl _) sm
/-- ahead of a statement: the thing at slot i is let go -/
def frz (i : Nat) (ρ : DS) (k : DS → Prop) : Prop := match ρ[i]? with
  | some (.own _ c) => match cellD c with
    | some d => k (ρ.set i (.v d))
    | none => False
  | _ => False
theorem frz_of {i : Nat} {ρ : DS} {k : DS → Prop} (h : frz i ρ k) : ∃ a c d, ρ[i]? = some (.own a c) ∧ cellD c = some d ∧ k (ρ.set i (.v d)) := by
  unfold frz at h
  split at h
  · split at h
    · exact ⟨_, _, _, by assumption, by assumption, h⟩
    · exact h.elim
  · exact h.elim
def sFrz (i : Nat) (w : WS) : WS := fun E ρ μ => frz i ρ fun ρ1 => w E ρ1 μ
section
variable {ex : Option (Addr × Addr × Addr)} {W : WX} {X : Cx} {st : Stmt} {sts : List Stmt} {w : WS} {e : Expr} {wa : WE} {ws : WA} {es : List Expr} {pos : Pos}
theorem lift_frz {G : Gx} {i : Nat} {De : Ends} {σ : L2.St} {H : Hp} (q : liftS G W (sFrz i w) De σ H) : liftS G W w De σ H := by
  obtain ⟨Z, m, ρ, μ, E, S, q, kn, kr, kb, kc, kx⟩ := q
  obtain ⟨a, c, d, hi, hd, q⟩ := frz_of q
  obtain ⟨S1, s1⟩ := S.free hi hd
  exact ⟨Z, m, _, μ, E, S1, q, fun σ' H' P => kn σ' H' (SPost.from s1 P), fun v H' P => kr v H' (RPost.from s1 P), fun σ' H' P => kb σ' H' (SPost.from s1 P), fun σ' H' P => kc σ' H' (SPost.from s1 P), fun cls d σ' H' P => kx cls d σ' H' (XSPost.from s1 P)⟩
theorem ds_frz (i : Nat) (h : DSt ex W X st w) : DSt ex W X st (sFrz i w) := ps_weak h fun De σ H q => lift_frz q
/-! ### a list of the def's own: made -/
theorem SR.born {G : Gx} {Z : Addr → Prop} {m : List Addr} {σ : L2.St} {H : Hp} {ρ : DS} {μ : Mu} (S : SR G Z m σ H ρ μ) {i : Nat} {p : Addr} {o : HO} {c : Cell} (np : H p = none) (hi : i < ρ.length) (hc : CellOk G m (vis (ownW Z σ ρ) m H) (upd H p o) c p) :
    SR G Z m (σ.set i (some (.ref p))) (upd H p o) (ρ.set i (.own p c)) μ ∧ SStep G Z m σ ρ H m (σ.set i (some (.ref p))) (ρ.set i (.own p c)) (upd H p o) := by
  have hil : i < σ.length := by rw [← S.len]; exact hi
  obtain ⟨f1, f2⟩ := S.mu.fresh np
  have sub : ∀ b, ownW Z (σ.set i (some (.ref p))) (ρ.set i (.own p c)) b → addZ (ownW Z σ ρ) p b := fun b h => by
    rcases h with h | ⟨j, e, h1⟩
    · exact .inl (.inl h)
    · by_cases hj : i = j
      · subst hj; rw [List.getElem?_set_self hi] at h1; cases h1; exact .inr rfl
      · rw [List.getElem?_set_ne hj] at h1; exact .inl (.inr ⟨j, e, h1⟩)
  obtain ⟨Mh, sh⟩ := MuOk.hide (o := o) S.mu np
  have sm : Same (vis (ownW Z σ ρ) m H) (vis (ownW Z (σ.set i (some (.ref p))) (ρ.set i (.own p c))) m (upd H p o)) := sh.trans (vis_mono sub)
  have nzp : ¬ Z p := fun h => f1 (.inl h)
  have old : ∀ {j : Nat} {e : Cell}, ρ[j]? ≠ some (Sl.own p e) := fun {j e} h => f1 (.inr ⟨j, e, h⟩)
  refine ⟨⟨by rw [List.length_set, List.length_set]; exact S.len, Mh.less sub, fun j e h => ?_, fun j b e h => ?_, fun j k b e f h1 h2 => ?_, fun j c ks ds h => ?_⟩, List.prefix_refl _, fun z hz => upd_ne fun q => nzp (q ▸ hz), sm⟩
  · by_cases hj : i = j
    · subst hj; rw [List.getElem?_set_self hi] at h; cases h
    · rw [List.getElem?_set_ne hj] at h
      obtain ⟨v, h1, h2⟩ := S.val j e h
      exact ⟨v, by rw [List.getElem?_set_ne hj]; exact h1, Rep.mono (List.prefix_refl _) sm _ _ h2⟩
  · by_cases hj : i = j
    · subst hj
      rw [List.getElem?_set_self hi] at h
      cases h
      exact ⟨List.getElem?_set_self hil, nzp, hc.keep (List.prefix_refl _) sm rfl⟩
    · rw [List.getElem?_set_ne hj] at h
      obtain ⟨h1, h2, h3⟩ := S.own j b e h
      refine ⟨by rw [List.getElem?_set_ne hj]; exact h1, h2, h3.keep (List.prefix_refl _) sm (upd_ne fun q => ?_)⟩
      subst q
      exact old h
  · by_cases hj : i = j
    · subst hj
      rw [List.getElem?_set_self hi] at h1
      cases h1
      by_cases hk : i = k
      · exact hk
      · rw [List.getElem?_set_ne hk] at h2
        exact absurd h2 old
    · rw [List.getElem?_set_ne hj] at h1
      by_cases hk : i = k
      · subst hk
        rw [List.getElem?_set_self hi] at h2
        cases h2
        exact absurd h1 old
      · rw [List.getElem?_set_ne hk] at h2
        exact S.dis j k b e f h1 h2
  · have hj : i ≠ j := fun q => by subst q; rw [List.getElem?_set_self hi] at h; cases h
    rw [List.getElem?_set_ne hj] at h ⊢
    exact (S.exn j c ks ds h).mono (List.prefix_refl _) sm
def sSetO (i : Nat) (wa : WA) : WS := fun E ρ μ => wa ρ μ (fun ds μ1 => ds.length ≤ 1000 ∧ i < ρ.length ∧ ∀ p, E.nx (ρ.set i (.own p (.lst ds))) μ1) fun c ks es μ' => E.xc c ks es ρ μ'
theorem ds_setO {i : Nat} {x : Str} {pos' lp : Pos} (hN : X.N.Nodup) (hi : X.N[i]? = some x) (he : DA ex W X es ws) (hx : Loc X.env.scope x := by first | exact Or.inl rfl | exact Or.inr rfl)
    (hs : swapsWith (.List es lp) (some (.Name x pos')) pos.line X.env = pure false := by rfl) (hf : X.fn x = true ∨ X.env.scope.names.lookup x = some .local := by first | exact .inl rfl | exact .inr rfl | assumption) :
    DSt ex W X (.Assign [.Name x pos'] (.List es lp) pos) (sSetO i ws) := ps_weak (ps_set (i := i) hN hi hx (pe_lst he) hs hf) fun D σ H q => by
  obtain ⟨Z, m, ρ, μ, E, S, q, kn, kr, kb, kc, kx⟩ := q
  refine ⟨Z, m, ρ, μ, _, _, S, q, fun vs H1 P => ?_, fun cls d H' P => kx cls d σ H' (XSPost.of S P)⟩
  obtain ⟨m1, ds, μ1, s1, r1, hl, hil, q1⟩ := P
  refine ⟨by rw [← r1.len]; exact le1000 hl, fun p np => kn _ _ ?_⟩
  obtain ⟨S2, s2⟩ := (S.step s1).born (o := .lst vs) (c := .lst ds) np hil ⟨vs, upd_same, r1⟩
  exact ⟨m1, _, μ1, S2, (SStep.of s1).trans s2, q1 p⟩
end
end DL

set_option Elab.async false
set_option linter.all false
set_option maxRecDepth 100000
set_option maxHeartbeats 4000000
set_option autoImplicit false
namespace DL
open PySem PySem.Spec PyProof.Rows L2
/-! ### __init__ and the making of instances -/
abbrev ISp := List D → Mu → (List Str → List D → Mu → Prop) → XD → Prop
def InitPost (G : Gx) (Z : Addr → Prop) (x : Addr) (c : Str) (m : List Addr) (H : Hp) (Q : List Str → List D → Mu → Prop) (H' : Hp) : Prop :=
  ∃ m' ks es μ', m <+: m' ∧ (∀ z, Z z → H' z = H z) ∧ MuOk G (addZ Z x) m' μ' H' ∧ Same (vis (addZ Z x) m H) (vis (addZ Z x) m' H') ∧ CellOk G m' (vis (addZ Z x) m' H') H' (.ins c ks es) x ∧ Q ks es μ'
def XInit (G : Gx) (Z : Addr → Prop) (x : Addr) (m : List Addr) (H : Hp) (Xd : XD) (cls : Value) (d : Option Addr) (H' : Hp) : Prop :=
  ∃ m' c ks es μ' C dd vs, m <+: m' ∧ (∀ z, Z z → H' z = H z) ∧ MuOk G Z m' μ' H' ∧ Same (vis (addZ Z x) m H) (vis Z m' H') ∧ cls = .ref C ∧ d = some dd ∧ G.mg c = some (.ref C) ∧ vis Z m' H' dd = some (.xd (ks.zip vs)) ∧ ks.length = es.length ∧
    Reps G m' (vis Z m' H') es vs ∧ Xd c ks es μ'
def toSpI (G : Gx) (c : Str) (sp : ISp) : Sp := fun vs H Q' E => ∃ x us C dx Z m μ ds Q Xd, vs = .ref x :: us ∧ G.mg c = some (.ref C) ∧ H x = some (.ins C dx []) ∧ ¬ Z x ∧ MuOk G (addZ Z x) m μ H ∧ Reps G m (vis (addZ Z x) m H) ds us ∧ sp ds μ Q Xd ∧
  (∀ H', InitPost G Z x c m H Q H' → Q' .non H') ∧ ∀ cls d H', XInit G Z x m H Xd cls d H' → E cls d H'
def startI (N : List Str) (c : Str) (x : Addr) (ds : List D) : DS := .own x (.ins c [] []) :: (ds.map Sl.v ++ List.replicate (N.length - ds.length - 1) Sl.no)
theorem startI_own {N : List Str} {c : Str} {x : Addr} {ds : List D} {i : Nat} {a : Addr} {e : Cell} (h : (startI N c x ds)[i]? = some (.own a e)) : i = 0 ∧ a = x ∧ e = .ins c [] [] := by
  unfold startI at h
  cases i with
  | zero => cases h; exact ⟨rfl, rfl, rfl⟩
  | succ i =>
    rw [List.getElem?_cons_succ] at h
    have hm := List.mem_of_getElem? h
    rcases List.mem_append.mp hm with q | q
    · obtain ⟨d, _, q⟩ := List.mem_map.mp q
      cases q
    · rw [List.mem_replicate] at q
      exact nomatch q.2
theorem startI_ownW {Z : Addr → Prop} {N : List Str} {c : Str} {x : Addr} {ds : List D} {σ : L2.St} : ownW Z σ (startI N c x ds) = addZ Z x := by
  funext b
  apply propext
  constructor
  · rintro (h | ⟨i, e, h⟩)
    · exact .inl h
    · obtain ⟨_, rfl, _⟩ := startI_own h
      exact .inr rfl
  · rintro (h | h)
    · exact .inl h
    · subst h
      exact .inr ⟨0, _, rfl⟩
theorem SR.startI {G : Gx} {Z : Addr → Prop} {m : List Addr} {H : Hp} {μ : Mu} {N : List Str} {ds : List D} {us : List V} {c : Str} {C x dx : Addr} (g : G.mg c = some (.ref C)) (hx : H x = some (.ins C dx [])) (nz : ¬ Z x) (M : MuOk G (addZ Z x) m μ H)
    (r : Reps G m (vis (addZ Z x) m H) ds us) : SR G Z m (L2.start N (.ref x :: us)) H (startI N c x ds) μ := by
  have ow := startI_ownW (Z := Z) (N := N) (c := c) (x := x) (ds := ds) (σ := L2.start N (.ref x :: us))
  refine ⟨?_, by rw [ow]; exact M, fun i d e => ?_, fun i a e h => ?_, fun i j a e f h1 h2 => ?_, fun i c2 ks es e => ?_⟩
  · have hl := r.len
    simp [startI, DL.startI, L2.start]
    omega
  · rw [ow]
    unfold DL.startI at e
    cases i with
    | zero => cases e
    | succ i =>
      rw [List.getElem?_cons_succ, List.getElem?_append] at e
      split at e
      · rename_i hl
        rw [List.getElem?_map] at e
        rw [List.length_map] at hl
        cases q : ds[i]? with
        | none => rw [q] at e; cases e
        | some d' =>
          rw [q] at e
          cases e
          obtain ⟨v, ev, rv⟩ := r.get q
          refine ⟨v, ?_, rv⟩
          unfold L2.start
          rw [List.map_cons, List.cons_append, List.getElem?_cons_succ, List.getElem?_append_left (by rw [List.length_map, ← r.len]; exact hl), List.getElem?_map, ev]
          rfl
      · have := List.mem_of_getElem? e
        rw [List.mem_replicate] at this
        exact nomatch this.2
  · obtain ⟨rfl, rfl, rfl⟩ := startI_own h
    exact ⟨rfl, nz, C, dx, [], g, hx, rfl, Reps.nil⟩
  · rw [(startI_own h1).1, (startI_own h2).1]
  · unfold DL.startI at e
    have hm := List.mem_of_getElem? e
    rcases List.mem_cons.mp hm with q | q
    · cases q
    · rcases List.mem_append.mp q with q | q
      · obtain ⟨d, _, q⟩ := List.mem_map.mp q
        cases q
      · rw [List.mem_replicate] at q
        exact nomatch q.2
/-- the ends of an __init__'s body -/
def initEnd (c : Str) (x : Addr) (Q : List Str → List D → Prop) (ρ : DS) : Prop := match ρ[0]? with
  | some (Sl.own a (Cell.ins c' ks ds)) => a = x ∧ c' = c ∧ Q ks ds
  | _ => False
theorem initEnd_of {c : Str} {x : Addr} {Q : List Str → List D → Prop} {ρ : DS} (h : initEnd c x Q ρ) : ∃ ks ds, ρ[0]? = some (.own x (.ins c ks ds)) ∧ Q ks ds := by
  unfold initEnd at h
  split at h
  · rename_i e
    obtain ⟨rfl, rfl, h⟩ := h
    exact ⟨_, _, e, h⟩
  · exact h.elim
def defI (c : Str) (x : Addr) (Q : List Str → List D → Mu → Prop) (Xd : XD) : DEnds := { nx := fun ρ μ => initEnd c x (fun ks ds => Q ks ds μ) ρ, rt := fun _ _ => False, xc := fun c ks es _ μ => Xd c ks es μ }
section
variable {P : Program} {w : World} {K : PySem.W.Frag} {mg : Str → Option Value} {base : Heap}
theorem def_okI {x qual : Str} {params : Arguments} {body : List Stmt} {scope : Scope} {dvs : List V} {kws : List (Str × V)} {f : Addr} {fd : FuncData} {N ps : List Str} {k : Nat} {c : Str} {sp : ISp} {wb : WS} (F : FunD K x qual params body scope dvs kws f fd) (S : FnScope N ps scope)
    (len : ∀ ds μ Q Xd, sp ds μ Q Xd → ds.length + 1 = ps.length)
    (hbody : ∀ (cdv : Value) (A : Around) (fr : List Env) (s : Shared) (H : Hp) (E : XK), Room k (A.deeper (envOfC qual scope s.heap.objs.size f cdv)) → (A.deeper (envOfC qual scope s.heap.objs.size f cdv)).guards = some [] →
      DSs none (fun cls d _ H' => E cls d H') (cxOf (L2.CX P w) P w K mg base N qual scope f cdv A fr s H E) body wb)
    (hw : ∀ ds μ Q Xd (a : Addr), sp ds μ Q Xd → wb (defI c a Q Xd) (startI N c a ds) μ) : FnG P w K mg base (k + 1) f fd ps (toSpI ⟨K, mg, none⟩ c sp) := by
  refine fnG_of F S (fun vs H Q E h => ?_) (fun cdv A outer s H vs Q E hr hgd h => ?_)
  · obtain ⟨a, us, C, dx, Z, m, μ, ds, Q', Xd, rfl, _, _, _, _, r, q, _⟩ := h
    rw [List.length_cons, ← r.len]
    exact len _ _ _ _ q
  · refine ⟨_, hbody cdv A outer s H E hr hgd, ?_⟩
    obtain ⟨a, us, C, dx, Z, m, μ, ds, Q', Xd, rfl, g, hx, nz, M, r, q, kq, kx⟩ := h
    refine ⟨Z, m, startI N c a ds, μ, defI c a Q' Xd, .startI g hx nz M r, hw ds μ Q' Xd a q, fun σ' H' P => ?_, fun v H' P => ?_, fun σ' H' P => ?_, fun σ' H' P => ?_, fun cls d σ' H' P => ?_⟩
    · obtain ⟨m', ρ', μ', S', s', q'⟩ := P
      obtain ⟨ks, es, h0, q2⟩ := initEnd_of q'
      obtain ⟨_, _, hc⟩ := S'.own 0 a _ h0
      have z := s'.same
      rw [startI_ownW] at z
      have sub : ∀ b, addZ Z a b → ownW Z σ' ρ' b := fun b h => by
        rcases h with h | h
        · exact .inl h
        · subst h; exact .inr ⟨0, _, h0⟩
      have sm := vis_mono (m := m') (H := H') sub
      exact kq _ ⟨m', ks, es, μ', s'.pre, s'.hid, S'.mu.less sub, z.trans sm, hc.keep (List.prefix_refl _) sm rfl, q2⟩
    · obtain ⟨m', d, μ', h1, h2, h3, h4, h5, h6⟩ := P
      exact h6.elim
    · obtain ⟨m', ρ', μ', S', s', q'⟩ := P
      exact q'.elim
    · obtain ⟨m', ρ', μ', S', s', q'⟩ := P
      exact q'.elim
    · obtain ⟨m', c', ks, es, ρ', μ', C', dd, vs', S', s', e1, e2, e3, e4, e5, e6, q'⟩ := P
      have z := s'.same
      rw [startI_ownW] at z
      exact kx _ _ _ ⟨m', c', ks, es, μ', C', dd, vs', s'.pre, s'.hid, S'.mu.out_own, z.trans vis_own, e1, e2, e3, vis_own _ _ e4, e5, Reps.mono (List.prefix_refl _) vis_own _ _ e6, q'⟩
end
/-! made -/
section
variable {ex : Option (Addr × Addr × Addr)} {W : WX} {X : Cx} {e o : Expr} {es : List Expr} {wa wo : WE} {ws : WA} {pos p apos : Pos} {k : Nat} {f C : Addr} {fd : FuncData} {ps : List Str} {c : Str}
theorem run_makeG {sp : Sp} {pins : List (Addr × Obj)} {σ : L2.St} {H : Hp} {s : Shared} {Q : VK} {us : List Value} {vs : List V} (M : Mk X.K C f) (F : FnG X.prog X.w X.K X.mg X.base k f fd ps sp) (hr : Room (k + 1) X.A) (hgd : X.A.guards = some []) (hb : Binds X.K fd ps [])
    (tk : Takes X W) (I : Inv X pins σ H s) (r : Vals vs us)
    (h : ∀ x dx, H x = none → H dx = none → dx ≠ x → sp (.ref x :: vs) (upd (upd H dx (.own x)) x (.ins C dx [])) (fun v H2 => v = .non ∧ Q (.ref x) H2) (L2.WE W σ)) :
    wpAny (model X.prog X.w) X.A (call (.ref C) us) (EP X pins σ Q) X.xe s := by
  have hq := h (s.heap.objs.size + 1) s.heap.objs.size (I.hok.fresh (Nat.le_succ _)) (I.hok.fresh (Nat.le_refl _)) (Nat.ne_of_lt (Nat.lt_succ_self _))
  have I2 := Inv.made (C := C) I
  have r2 : Vals (V.ref (s.heap.objs.size + 1) :: vs) (Value.ref (s.heap.objs.size + 1) :: us) := .cons rfl r
  have hl : (Value.ref (s.heap.objs.size + 1) :: us).length = ps.length := r2.length.symm.trans (F.len _ _ _ _ hq)
  have bd := hb _ (Value.ref (s.heap.objs.size + 1) :: us) I2.kIn (by simpa using hl)
  rw [List.append_nil] at bd
  refine wpAny_call (make_map (f := f) I.kIn M.makes M.init (beq_iff_eq.mp M.fn) (codeAny_mono (F.run _ X.stack _ _ ⟨Value.ref (s.heap.objs.size + 1) :: us, []⟩ (Value.ref (s.heap.objs.size + 1) :: us) _ _ _ (hr.make C us []) hgd (I2.env0.make C us []) bd r2 hq) fun res s2 hres => ?_))
  match res, hres with
  | .error er, hres => exact passAt tk σ pins _ _ er s2 I2 hres
  | .ok (.ret u), hres =>
    obtain ⟨v, H', I3, rv, ev, q3⟩ := I2.after hres
    subst ev
    exact ⟨rv, ⟨V.ref (s.heap.objs.size + 1), H', I3, rfl, q3⟩⟩
/-- C(..): the made thing as a datum; as a cell -/
def wMake (c : Str) (sp : ISp) (wa : WA) : WE := fun ρ μ Q Xd => wa ρ μ (fun ds μ1 => sp ds μ1 (fun ks es μ2 => Q (.obj c ks es) μ2) Xd) Xd
def wMakeC (c : Str) (sp : ISp) (wa : WA) : WE := fun ρ μ Q Xd => wa ρ μ (fun ds μ1 => sp ds μ1 (fun ks es μ2 => Q (.loc μ2.length) (μ2 ++ [.ins c ks es])) Xd) Xd
theorem made_in {G : Gx} {Z : Addr → Prop} {m : List Addr} {μ : Mu} {H : Hp} (M : MuOk G Z m μ H) {x dx C : Addr} (nx : H x = none) (nd : H dx = none) (ne : dx ≠ x) :
    ¬ Z x ∧ MuOk G (addZ Z x) m μ (upd (upd H dx (.own x)) x (.ins C dx [])) ∧ Same (vis Z m H) (vis (addZ Z x) m (upd (upd H dx (.own x)) x (.ins C dx []))) ∧ ∀ z, Z z → upd (upd H dx (.own x)) x (.ins C dx []) z = H z := by
  have s1 := Step.laid (o := .own x) M nd
  have nx' : upd H dx (.own x) x = none := by rw [upd_ne (Ne.symm ne)]; exact nx
  obtain ⟨M2, sm⟩ := MuOk.hide (o := .ins C dx []) s1.mu nx'
  have nz : ¬ Z x := fun z => M.hw x z nx
  refine ⟨nz, M2, s1.same.trans sm, fun z hz => ?_⟩
  have hb : z ≠ x := fun q => nz (q ▸ hz)
  exact (upd_ne hb).trans (s1.hid z hz)
theorem lift_make {G : Gx} {sp : ISp} {b : Bool} (hm : G.mg c = some (.ref C)) {σ : L2.St} {H : Hp} {Q' : VK} (q : lift G W (if b = true then wMake c sp ws else wMakeC c sp ws) σ H Q') :
    liftA G W ws σ H fun vs H1 => ∀ x dx, H1 x = none → H1 dx = none → dx ≠ x → toSpI G c sp (.ref x :: vs) (upd (upd H1 dx (.own x)) x (.ins C dx [])) (fun v H2 => v = .non ∧ Q' (.ref x) H2) (L2.WE W σ) := by
  obtain ⟨Z, m, ρ, μ, Q, Xd, S, q, k, kx⟩ := q
  cases b with
  | true =>
    rw [if_pos rfl] at q
    refine ⟨Z, m, ρ, μ, _, Xd, S, q, fun vs H1 P x dx nx nd ne => ?_, kx⟩
    obtain ⟨m1, ds, μ1, s1, r1, q1⟩ := P
    obtain ⟨nz, M2, sm, hid⟩ := made_in (C := C) s1.mu nx nd ne
    refine ⟨x, vs, C, dx, _, m1, μ1, ds, _, Xd, rfl, hm, upd_same, nz, M2, Reps.mono (List.prefix_refl _) sm _ _ r1, q1, fun H' P => ⟨rfl, k _ _ (VPost.from s1 ?_)⟩, fun cls d H' P => kx cls d H' (XPost.from s1 ?_)⟩
    · obtain ⟨m', ks, es, μ', h1, h2, h3, h4, h5, h6⟩ := P
      have sub : ∀ b, ownW Z σ ρ b → addZ (ownW Z σ ρ) x b := fun b h => .inl h
      refine ⟨m', _, μ', ⟨h1, fun z hz => (h2 z hz).trans (hid z hz), h3.less sub, (sm.trans h4).trans (vis_mono sub)⟩, ?_, h6⟩
      exact cellD_rep h5 rfl (vis_mono sub) fun o ho => vis_some.mpr ⟨nz, fun q => h3.out x q (.inr rfl), ho⟩
    · obtain ⟨m', c', ks, es, μ', C', dd, vs', h1, h2, h3, h4, e1, e2, e3, e4, e5, e6, h6⟩ := P
      exact ⟨m', c', ks, es, μ', C', dd, vs', ⟨h1, fun z hz => (h2 z hz).trans (hid z hz), h3, sm.trans h4⟩, e1, e2, e3, e4, e5, e6, h6⟩
  | false =>
    rw [if_neg Bool.false_ne_true] at q
    refine ⟨Z, m, ρ, μ, _, Xd, S, q, fun vs H1 P x dx nx nd ne => ?_, kx⟩
    obtain ⟨m1, ds, μ1, s1, r1, q1⟩ := P
    obtain ⟨nz, M2, sm, hid⟩ := made_in (C := C) s1.mu nx nd ne
    refine ⟨x, vs, C, dx, _, m1, μ1, ds, _, Xd, rfl, hm, upd_same, nz, M2, Reps.mono (List.prefix_refl _) sm _ _ r1, q1, fun H' P => ⟨rfl, k _ _ (VPost.from s1 ?_)⟩, fun cls d H' P => kx cls d H' (XPost.from s1 ?_)⟩
    · obtain ⟨m', ks, es, μ', h1, h2, h3, h4, h5, h6⟩ := P
      have sub : ∀ b, ownW Z σ ρ b → addZ (ownW Z σ ρ) x b := fun b h => .inl h
      have sm2 : vis (ownW Z σ ρ) (m' ++ [x]) H' = vis (addZ (ownW Z σ ρ) x) m' H' := by
        funext b
        unfold vis addZ
        by_cases hb : (ownW Z σ ρ b ∨ b = x) ∨ b ∈ m'
        · rw [if_pos hb, if_pos]
          rcases hb with (h | h) | h
          · exact .inl h
          · exact .inr (by simp [h])
          · exact .inr (by simp [h])
        · rw [if_neg hb, if_neg]
          rintro (h | h)
          · exact hb (.inl (.inl h))
          · rcases List.mem_append.mp h with q | q
            · exact hb (.inr q)
            · exact hb (.inl (.inr (by simpa using q)))
      have nm : x ∉ m' := fun q => h3.out x q (.inr rfl)
      have pre : m' <+: m' ++ [x] := List.prefix_append _ _
      refine ⟨m' ++ [x], _, μ' ++ [.ins c ks es], ⟨h1.trans pre, fun z hz => (h2 z hz).trans (hid z hz), ⟨by simp [h3.len], ?_, fun a ha => ?_, fun z hz => h3.hw z (.inl hz), fun n d a hd ha => ?_⟩, by rw [sm2]; exact sm.trans h4⟩, ?_, h6⟩
      · rw [List.nodup_append]
        refine ⟨h3.nd, by simp, fun a ha b hb => ?_⟩
        rw [List.mem_singleton] at hb
        subst hb
        exact fun e => nm (e ▸ ha)
      · rcases List.mem_append.mp ha with q | q
        · exact fun z => h3.out a q (.inl z)
        · rw [List.mem_singleton] at q; subst q; exact nz
      · rw [sm2]
        by_cases hn : n < m'.length
        · rw [List.getElem?_append_left hn] at ha
          rw [List.getElem?_append_left (by rw [← h3.len]; exact hn)] at hd
          exact (h3.cell n d a hd ha).keep pre (Same.refl _) rfl
        · have hlt := (List.getElem?_eq_some_iff.mp ha).1
          have e : n = m'.length := by simp at hlt; omega
          subst e
          rw [List.getElem?_concat_length] at ha
          rw [h3.len, List.getElem?_concat_length] at hd
          cases ha
          cases hd
          exact h5.keep pre (Same.refl _) rfl
      · rw [Rep]
        exact ⟨x, rfl, by rw [← h3.len]; exact List.getElem?_concat_length⟩
    · obtain ⟨m', c', ks, es, μ', C', dd, vs', h1, h2, h3, h4, e1, e2, e3, e4, e5, e6, h6⟩ := P
      exact ⟨m', c', ks, es, μ', C', dd, vs', ⟨h1, fun z hz => (h2 z hz).trans (hid z hz), h3, sm.trans h4⟩, e1, e2, e3, e4, e5, e6, h6⟩
theorem de_makeB (b : Bool) {x : Str} {sp : ISp} (M : Mk X.K C f) (F : FnG X.prog X.w X.K X.mg X.base k f fd ps (toSpI (gx X ex) x sp)) (hr : Room (k + 1) X.A) (hgd : X.A.guards = some []) (hg : Gl X x) (hm : X.mg x = some (.ref C)) (hb : Binds X.K fd ps [])
    (tk : Takes X W) (ha : DA ex W X (e :: es) ws) (hdb : (x == ("__debug__" : Str)) = false := by decide)
    (he : starEach (e :: es) X.env = (false, eval e X.env) :: starEach es X.env := by rfl) (hpl : (backTo pos (starEach es X.env)).any (·.1) = false := by rfl) :
    DE ex W X (.Call (.Name x p) (e :: es) [] pos) (if b = true then wMake x sp ws else wMakeC x sp ws) := by
  refine ⟨fun pins s σ H Q I h => ?_⟩
  refine wpAny_Call_Name_kw (ld_glob I hg hm ?_ hdb)
  refine PySem.W.callWith_K (h₀ := X.base) I.ok.mod.kin M.kp (thn (ha.run pos pins s σ H _ I (lift_make (G := gx X ex) hm h)) fun us s1 ⟨vs, H1, I1, r, q⟩ => ⟨I1.kIn, ?_⟩) he hpl
  exact run_makeG M F hr hgd hb tk I1 r q
theorem de_make {x : Str} {sp : ISp} (M : Mk X.K C f) (F : FnG X.prog X.w X.K X.mg X.base k f fd ps (toSpI (gx X ex) x sp)) (hr : Room (k + 1) X.A) (hgd : X.A.guards = some []) (hg : Gl X x) (hm : X.mg x = some (.ref C)) (hb : Binds X.K fd ps [])
    (tk : Takes X W) (ha : DA ex W X (e :: es) ws) (hdb : (x == ("__debug__" : Str)) = false := by decide)
    (he : starEach (e :: es) X.env = (false, eval e X.env) :: starEach es X.env := by rfl) (hpl : (backTo pos (starEach es X.env)).any (·.1) = false := by rfl) :
    DE ex W X (.Call (.Name x p) (e :: es) [] pos) (wMake x sp ws) := de_makeB true M F hr hgd hg hm hb tk ha hdb he hpl
end
end DL

set_option Elab.async false
set_option linter.all false
set_option maxRecDepth 100000
set_option maxHeartbeats 4000000
set_option autoImplicit false
namespace DL
open PySem PySem.Spec PyProof.Rows L2
/-! ### methods -/
def hasCls (c m : Str) (d : D) (μ : Mu) (Q : Prop) : Prop := match insD d μ with
  | some (c', ks, _) => c' = c ∧ ks.contains m = false ∧ Q
  | none => False
theorem hasCls_of {c m : Str} {d : D} {μ : Mu} {Q : Prop} (h : hasCls c m d μ Q) : ∃ ks ds, insD d μ = some (c, ks, ds) ∧ ks.contains m = false ∧ Q := by
  unfold hasCls at h
  split at h
  · rename_i e
    obtain ⟨rfl, h⟩ := h
    exact ⟨_, _, e, h⟩
  · exact h.elim
theorem lookup_zip_none {α : Type} {m : Str} : ∀ {ks : List Str} {vs : List α}, ks.contains m = false → (ks.zip vs).lookup m = none
  | [], _, _ => by simp
  | _ :: _, [], _ => by simp
  | k :: ks, v :: vs, h => by
    rw [List.contains_cons, Bool.or_eq_false_iff] at h
    rw [List.zip_cons_cons, List.lookup_cons, h.1]
    exact lookup_zip_none h.2
/-- o.m(..) -/
def wMeth (c m : Str) (sp : DSp) (wo : WE) (wa : WA) : WE := fun ρ μ Q Xd => wo ρ μ (fun x μ1 => hasCls c m x μ1 (wa ρ μ1 (fun ds μ2 => sp (x :: ds) μ2 Q Xd) Xd)) Xd
section
variable {ex : Option (Addr × Addr × Addr)} {W : WX} {X : Cx} {e o : Expr} {es : List Expr} {wa wo : WE} {ws : WA} {pos p apos : Pos} {k : Nat} {f C : Addr} {fd : FuncData} {ps : List Str} {c m : Str} {sp : DSp}
def tMethG (K : PySem.W.Frag) (C : Addr) (m : Str) (sp : Sp) (W : WX) (to : TE) (ta : TA) : TE := fun σ H Q => to σ H fun x H1 => ∃ a dx fs, x = .ref a ∧ H1 a = some (.ins C dx fs) ∧ fs.lookup m = none ∧ ta σ H1 fun vs H2 => sp (.ref a :: vs) H2 Q (L2.WE W σ)
theorem pe_methG {sp : Sp} {to : TE} {ta : TA} {pl : Sem Bool} (he : PE X o to) (hc : Cls X.K C) (hm : Meth X.K C m f) (F : FnG X.prog X.w X.K X.mg X.base k f fd ps sp) (hr : Room k X.A) (hgd : X.A.guards = some []) (hb : Binds X.K fd ps []) (tk : Takes X W) (ha : PA X (e :: es) ta)
    (hst : starEach (e :: es) X.env = (false, eval e X.env) :: starEach es X.env) (hpl : (backTo pos (starEach es X.env)).any (·.1) = false)
    (ht : eval (.Call (.Attribute o m apos) (e :: es) [] pos) X.env = (do
      let ov ← eval o X.env
      standAt apos.atName
      let (f, first) ← holding [ov] (getMethod ov m pl)
      callWith pos f first (backTo pos (starEach (e :: es) X.env)) (backToKw pos (keywordEach [] X.env)))) :
    PE X (.Call (.Attribute o m apos) (e :: es) [] pos) (tMethG X.K C m sp W to ta) := by
  refine ⟨fun pins s σ H Q I h => ?_⟩
  refine PySem.W.methodCall_KW (pl := pl) (thn (he.run pins s σ H _ I h) fun u s1 hx => ?_) ht
  obtain ⟨x, H1, I1, rx, a, dx, fs, ex, ea, l, q⟩ := hx
  subst ex
  obtain rfl : u = Value.ref a := rx
  refine getmeth_ok I1 ea hc hm l ?_
  refine PySem.W.callWith_K (first := [.ref a]) (h₀ := X.base) I.ok.mod.kin hm.kp (thn (ha.run pos pins s1 σ H1 _ I1 q) fun us s2 hx => ?_) hst hpl
  obtain ⟨vs, H2, I2, r, q2⟩ := hx
  exact ⟨I2.kIn, run_fnG (us := .ref a :: us) (vs := .ref a :: vs) F hr hgd hb tk I2 (.cons rfl r) q2⟩
theorem pe_methG0 {sp : Sp} {to : TE} {pl : Sem Bool} (he : PE X o to) (hc : Cls X.K C) (hm : Meth X.K C m f) (F : FnG X.prog X.w X.K X.mg X.base k f fd ps sp) (hr : Room k X.A) (hgd : X.A.guards = some []) (hb : Binds X.K fd ps []) (tk : Takes X W)
    (ht : eval (.Call (.Attribute o m apos) [] [] pos) X.env = (do
      let ov ← eval o X.env
      standAt apos.atName
      let (f, first) ← holding [ov] (getMethod ov m pl)
      callWith pos f first (backTo pos (starEach [] X.env)) (backToKw pos (keywordEach [] X.env)))) :
    PE X (.Call (.Attribute o m apos) [] [] pos) (tMethG X.K C m sp W to tNil) := by
  refine ⟨fun pins s σ H Q I h => ?_⟩
  refine PySem.W.methodCall_KW (pl := pl) (thn (he.run pins s σ H _ I h) fun u s1 hx => ?_) ht
  obtain ⟨x, H1, I1, rx, a, dx, fs, ex, ea, l, q⟩ := hx
  subst ex
  obtain rfl : u = Value.ref a := rx
  refine getmeth_ok I1 ea hc hm l ?_
  exact PySem.W.callWith_K0 (first := [.ref a]) I1.kIn hm.kp (run_fnG (us := [.ref a]) (vs := [.ref a]) F hr hgd hb tk I1 (.cons rfl .nil) q)
theorem lift_meth {G : Gx} {C : Addr} (hmC : G.mg c = some (.ref C)) {σ : L2.St} {H : Hp} {Q' : VK} (q : lift G W (wMeth c m sp wo ws) σ H Q') : tMethG G.K C m (toSp G sp) W (lift G W wo) (liftA G W ws) σ H Q' := by
  obtain ⟨Z, m0, ρ, μ, Q, Xd, S, q, k, kx⟩ := q
  refine ⟨Z, m0, ρ, μ, _, Xd, S, q, fun v H1 P => ?_, kx⟩
  obtain ⟨m1, x, μ1, s1, r1, q1⟩ := P
  obtain ⟨ks, ds, hi, hks, q2⟩ := hasCls_of q1
  obtain ⟨a, C', dx, vs, rfl, g, ha, l, rs⟩ := ins_rep s1.mu r1 hi
  rw [hmC] at g
  cases g
  refine ⟨a, dx, _, rfl, ha, lookup_zip_none hks, Z, m1, ρ, μ1, _, Xd, S.step s1, q2, fun us H2 P => ?_, fun cls d H' P => kx cls d H' (XPost.from s1 P)⟩
  obtain ⟨m2, es, μ2, s2, r2, q3⟩ := P
  exact ⟨_, m2, μ2, x :: es, Q, Xd, s2.mu, Reps.cons (Rep.mono s2.pre s2.same _ _ r1) r2, q3, fun v H' P => k v H' (VPost.from (s1.trans s2) P), fun cls d H' P => kx cls d H' (XPost.from (s1.trans s2) P)⟩
theorem de_meth {pl : Sem Bool} (hmC : X.mg c = some (.ref C)) (hc : Cls X.K C) (hm : Meth X.K C m f) (F : FnG X.prog X.w X.K X.mg X.base k f fd ps (toSp (gx X ex) sp)) (hr : Room k X.A) (hgd : X.A.guards = some []) (hb : Binds X.K fd ps []) (tk : Takes X W) (he : DE ex W X o wo) (ha : DA ex W X (e :: es) ws)
    (hst : starEach (e :: es) X.env = (false, eval e X.env) :: starEach es X.env := by rfl) (hpl : (backTo pos (starEach es X.env)).any (·.1) = false := by rfl)
    (ht : eval (.Call (.Attribute o m apos) (e :: es) [] pos) X.env = (do
      let ov ← eval o X.env
      standAt apos.atName
      let (f, first) ← holding [ov] (getMethod ov m pl)
      callWith pos f first (backTo pos (starEach (e :: es) X.env)) (backToKw pos (keywordEach [] X.env))) := by rfl) :
    DE ex W X (.Call (.Attribute o m apos) (e :: es) [] pos) (wMeth c m sp wo ws) := pe_weak (pe_methG he hc hm F hr hgd hb tk ha hst hpl ht) fun _ _ _ q => lift_meth (G := gx X ex) hmC q
theorem de_meth0 {pl : Sem Bool} (hmC : X.mg c = some (.ref C)) (hc : Cls X.K C) (hm : Meth X.K C m f) (F : FnG X.prog X.w X.K X.mg X.base k f fd ps (toSp (gx X ex) sp)) (hr : Room k X.A) (hgd : X.A.guards = some []) (hb : Binds X.K fd ps []) (tk : Takes X W) (he : DE ex W X o wo)
    (ht : eval (.Call (.Attribute o m apos) [] [] pos) X.env = (do
      let ov ← eval o X.env
      standAt apos.atName
      let (f, first) ← holding [ov] (getMethod ov m pl)
      callWith pos f first (backTo pos (starEach [] X.env)) (backToKw pos (keywordEach [] X.env))) := by rfl) :
    DE ex W X (.Call (.Attribute o m apos) [] [] pos) (wMeth c m sp wo wNil) := pe_weak (pe_methG0 he hc hm F hr hgd hb tk ht) fun σ H Q' q => by
  obtain ⟨Z, m0, ρ, μ, Q, Xd, S, q, k, kx⟩ := q
  refine ⟨Z, m0, ρ, μ, _, Xd, S, q, fun v H1 P => ?_, kx⟩
  obtain ⟨m1, x, μ1, s1, r1, q1⟩ := P
  obtain ⟨ks, ds, hi, hks, q2⟩ := hasCls_of q1
  obtain ⟨a, C', dx, vs, rfl, g, ha, l, rs⟩ := ins_rep s1.mu r1 hi
  have g' : X.mg c = some (.ref C') := g
  rw [hmC] at g'
  cases g'
  exact ⟨a, dx, _, rfl, ha, lookup_zip_none hks, ⟨_, m1, μ1, [x], Q, Xd, s1.mu, Reps.cons r1 Reps.nil, q2, fun v H' P => k v H' (VPost.from s1 P), fun cls d H' P => kx cls d H' (XPost.from s1 P)⟩⟩
end
/-! ### own operators -/
/-- what of the text an operator of a class needs: the def; beside a value of a built-in type -/
structure OpFn (K : PySem.W.Frag) (C : Addr) (op : Operator) (f : Addr) : Prop where
  first : PySem.W.selfFirst K C = true
  at_ : PySem.W.findIn K (.ref C) (PySem.dunder op.info.2) = some (some (.ref f))
  fn : PySem.W.isFn K (.ref f) = true
  back : ∃ rc, PySem.W.findIn K (.ref C) (PySem.dunderR op.info.2) = some rc ∧ (rc = none ∨ ∃ g : Addr, rc = some (.ref g))
structure OpTy (K : PySem.W.Frag) (C : Addr) (op : Operator) (T : String) : Prop where
  fo : ∃ r, PySem.W.findIn K (.type T) (PySem.dunder op.info.2) = some r
  ro : ∃ r, PySem.W.findIn K (.type T) (PySem.dunderR op.info.2) = some r
  sub : PySem.W.subIn K (.type T) (.ref C) = some false

section
open PySem.W
variable {prog : Program} {w : World} {A : Around} {E : Value → Shared → Prop} {s : Shared} {K : Frag} {x C g : Addr} {ox : Obj} {od : Option Obj} {T : String}
end
/-- the other operand: of a built-in type that is listed, or of the class itself -/
def othTy (c : Str) (Ts : List String) (y : D) (μ : Mu) (Q : Prop) : Prop := match tyD y μ with
  | some (.b T) => T ∈ Ts ∧ Q
  | some (.c c') => c' = c ∧ Q
  | none => False
def isCls (c : Str) (d : D) (μ : Mu) (Q : Prop) : Prop := match insD d μ with
  | some (c', _, _) => c' = c ∧ Q
  | none => False
theorem isCls_of {c : Str} {d : D} {μ : Mu} {Q : Prop} (h : isCls c d μ Q) : ∃ ks ds, insD d μ = some (c, ks, ds) ∧ Q := by
  unfold isCls at h
  split at h
  · rename_i e
    obtain ⟨rfl, h⟩ := h
    exact ⟨_, _, e, h⟩
  · exact h.elim
/-- x op y by x's own def -/
def wBinO (c : Str) (Ts : List String) (sp : DSp) (wa wb : WE) : WE := fun ρ μ Q Xd => wa ρ μ (fun x μ1 => wb ρ μ1 (fun y μ2 => isCls c x μ2 (othTy c Ts y μ2 (sp [x, y] μ2 Q Xd))) Xd) Xd
section
variable {ex : Option (Addr × Addr × Addr)} {W : WX} {X : Cx} {a b : Expr} {wa wb : WE} {pos : Pos} {k : Nat} {f C : Addr} {fd : FuncData} {ps : List Str} {c : Str} {sp : DSp} {Ts : List String}
end
end DL

set_option Elab.async false
set_option linter.all false
set_option maxRecDepth 100000
set_option maxHeartbeats 4000000
set_option autoImplicit false
namespace DL
open PySem PySem.Spec PyProof.Rows L2
/-! ### what can be called, by name -/
section
variable {P : Program} {w : World} {K : PySem.W.Frag} {mg : Str → Option Value} {base : Heap}
structure CallD (P : Program) (w : World) (K : PySem.W.Frag) (mg : Str → Option Value) (base : Heap) (k : Nat) (x : Str) (ps : List Str) (sp : DSp) : Prop where
  ex : ∃ f fd, mg x = some (.ref f) ∧ PySem.W.keepIn K (.ref f) = true ∧ Binds K fd ps [] ∧ FnG P w K mg base k f fd ps (toSp ⟨K, mg, none⟩ sp)
structure MethD (P : Program) (w : World) (K : PySem.W.Frag) (mg : Str → Option Value) (base : Heap) (k : Nat) (c m : Str) (ps : List Str) (sp : DSp) : Prop where
  ex : ∃ C f fd, mg c = some (.ref C) ∧ Cls K C ∧ Meth K C m f ∧ Binds K fd ps [] ∧ FnG P w K mg base k f fd ps (toSp ⟨K, mg, none⟩ sp)
structure MakeD (P : Program) (w : World) (K : PySem.W.Frag) (mg : Str → Option Value) (base : Heap) (k : Nat) (c : Str) (ps : List Str) (sp : ISp) : Prop where
  ex : ∃ C f fd, mg c = some (.ref C) ∧ Mk K C f ∧ Binds K fd ps [] ∧ FnG P w K mg base k f fd ps (toSpI ⟨K, mg, none⟩ c sp)
structure OperD (P : Program) (w : World) (K : PySem.W.Frag) (mg : Str → Option Value) (base : Heap) (k : Nat) (c : Str) (op : Operator) (Ts : List String) (ps : List Str) (sp : DSp) : Prop where
  ex : ∃ C f fd, mg c = some (.ref C) ∧ InsT K C ∧ OpFn K C op f ∧ (∀ T ∈ Ts, OpTy K C op T) ∧ Binds K fd ps [] ∧ FnG P w K mg base k f fd ps (toSp ⟨K, mg, none⟩ sp)
structure FldD (K : PySem.W.Frag) (mg : Str → Option Value) (c f : Str) : Prop where
  ex : ∃ C, mg c = some (.ref C) ∧ Cls K C ∧ NoAttr K C f
end
section
variable {W : WX} {X : Cx} {e o : Expr} {es : List Expr} {wa wo : WE} {ws : WA} {pos p apos : Pos} {k j : Nat} {ps : List Str} {x c m : Str} {sp : DSp}
theorem de_callD (C : CallD X.prog X.w X.K X.mg X.base k x ps sp) (hr : Room j X.A) (hkj : k ≤ j) (hgd : X.A.guards = some []) (hg : Gl X x) (tk : Takes X W) (ha : DA none W X (e :: es) ws) (hdb : (x == ("__debug__" : Str)) = false := by decide)
    (he : starEach (e :: es) X.env = (false, eval e X.env) :: starEach es X.env := by rfl) (hpl : (backTo pos (starEach es X.env)).any (·.1) = false := by rfl) : DE none W X (.Call (.Name x p) (e :: es) [] pos) (wCall sp ws) := by
  obtain ⟨f, fd, h1, h2, h3, F⟩ := C.ex
  exact de_call F (hr.mono hkj) hgd hg h1 h2 h3 tk ha hdb he hpl
theorem de_methD {pl : Sem Bool} (C : MethD X.prog X.w X.K X.mg X.base k c m ps sp) (hr : Room j X.A) (hkj : k ≤ j) (hgd : X.A.guards = some []) (tk : Takes X W) (he : DE none W X o wo) (ha : DA none W X (e :: es) ws)
    (hst : starEach (e :: es) X.env = (false, eval e X.env) :: starEach es X.env := by rfl) (hpl : (backTo pos (starEach es X.env)).any (·.1) = false := by rfl)
    (ht : eval (.Call (.Attribute o m apos) (e :: es) [] pos) X.env = (do
      let ov ← eval o X.env
      standAt apos.atName
      let (f, first) ← holding [ov] (getMethod ov m pl)
      callWith pos f first (backTo pos (starEach (e :: es) X.env)) (backToKw pos (keywordEach [] X.env))) := by rfl) : DE none W X (.Call (.Attribute o m apos) (e :: es) [] pos) (wMeth c m sp wo ws) := by
  obtain ⟨Ca, f, fd, h1, h2, h3, h4, F⟩ := C.ex
  exact de_meth h1 h2 h3 F (hr.mono hkj) hgd h4 tk he ha hst hpl ht
theorem de_methD0 {pl : Sem Bool} (C : MethD X.prog X.w X.K X.mg X.base k c m ps sp) (hr : Room j X.A) (hkj : k ≤ j) (hgd : X.A.guards = some []) (tk : Takes X W) (he : DE none W X o wo)
    (ht : eval (.Call (.Attribute o m apos) [] [] pos) X.env = (do
      let ov ← eval o X.env
      standAt apos.atName
      let (f, first) ← holding [ov] (getMethod ov m pl)
      callWith pos f first (backTo pos (starEach [] X.env)) (backToKw pos (keywordEach [] X.env))) := by rfl) : DE none W X (.Call (.Attribute o m apos) [] [] pos) (wMeth c m sp wo wNil) := by
  obtain ⟨Ca, f, fd, h1, h2, h3, h4, F⟩ := C.ex
  exact de_meth0 h1 h2 h3 F (hr.mono hkj) hgd h4 tk he ht
theorem de_makeD {isp : ISp} (C : MakeD X.prog X.w X.K X.mg X.base k x ps isp) (hr : Room j X.A) (hkj : k + 1 ≤ j) (hgd : X.A.guards = some []) (hg : Gl X x) (tk : Takes X W) (ha : DA none W X (e :: es) ws) (hdb : (x == ("__debug__" : Str)) = false := by decide)
    (he : starEach (e :: es) X.env = (false, eval e X.env) :: starEach es X.env := by rfl) (hpl : (backTo pos (starEach es X.env)).any (·.1) = false := by rfl) : DE none W X (.Call (.Name x p) (e :: es) [] pos) (wMake x isp ws) := by
  obtain ⟨Ca, f, fd, h1, h2, h3, F⟩ := C.ex
  exact de_make h2 F (hr.mono hkj) hgd hg h1 h3 tk ha hdb he hpl
theorem de_fldD {f : Str} (C : FldD X.K X.mg c f) (he : DE none W X e wa) (hb : attributeBase e f X.env (eval e X.env) = eval e X.env := by rfl) : DE none W X (.Attribute e f pos) (w1 (fFld c f) wa) := by
  obtain ⟨Ca, h1, h2, h3⟩ := C.ex
  exact de_fld h1 h2 h3 he hb
theorem ds_fldOD {i : Nat} {f : Str} {value : Expr} {p0 pos' : Pos} (C : FldD X.K X.mg c f) (hN : X.N[i]? = some x) (hv : DE none W X value wa) (hs : swapsWith value (some (.Attribute (.Name x p0) f pos')) pos.line X.env = pure false := by rfl)
    (hvis : Vis X.env.scope x := by first | exact Or.inl rfl | exact Or.inr (Or.inl rfl) | exact Or.inr (Or.inr rfl)) (hd : (x == ("__debug__" : Str)) = false := by decide) (hcd : (x == ("__classdict__" : Str)) = false := by decide) :
    DSt none W X (.Assign [.Attribute (.Name x p0) f pos'] value pos) (sFldO c i f wa) := by
  obtain ⟨Ca, h1, h2, h3⟩ := C.ex
  exact ds_fldO h1 h2 h3 hN hv hs hvis hd hcd
theorem room64 {A : Around} (h : Room k A) : A.units + 64 < cLine := by have := h.un; omega
theorem room65 {A : Around} (h : Room k A) : A.units + 65 < cLine := by have := h.un; omega
end
/-! ### one rule for several kinds -/
def F2.or (f g : F2) : F2 := fun x y μ Q => f x y μ Q ∨ g x y μ Q
theorem s2_or {G : Gx} {r r' : R2} {f g : F2} (h1 : S2 G r f) (h2 : S2 G r' g) : S2 G (fun x y H Q => r x y H Q ∨ r' x y H Q) (F2.or f g) := by
  intro Z m μ H x y u v Q Q' M rx ry h k
  rcases h with h | h
  · exact .inl (h1 Z m μ H x y u v Q Q' M rx ry h k)
  · exact .inr (h2 Z m μ H x y u v Q Q' M rx ry h k)
/-- + of ints or lists, * of ints or a list and an int -/
def fPlus : F2
  | .int i, .int j, μ, Q => Q (.int (i + j)) μ
  | .lst a, .lst b, μ, Q => a.length + b.length ≤ sizeLine ∧ Q (.lst (a ++ b)) μ
  | _, _, _, _ => False
def fTimes : F2
  | .int i, .int j, μ, Q => CM i j ∧ Q (.int (i * j)) μ
  | .lst a, .int n, μ, Q => -(2 ^ 63) ≤ n ∧ n < 2 ^ 63 ∧ a.length * n.toNat ≤ sizeLine ∧ Q (.lst (List.replicate n.toNat a).flatten) μ
  | _, _, _, _ => False
theorem S2.imp {G : Gx} {r : R2} {f g : F2} (h : S2 G r f) (k : ∀ x y μ Q, g x y μ Q → f x y μ Q) : S2 G r g := fun Z m μ H x y u v Q Q' M rx ry q kk => h Z m μ H x y u v Q Q' M rx ry (k _ _ _ _ q) kk
theorem s2_plus {G : Gx} : S2 G (fun x y H Q => rI0 (fun i j => .int (i + j)) x y H Q ∨ rCat x y H Q) fPlus := (s2_or s2_II0 s2_cat).imp fun x y μ Q h => by
  unfold fPlus at h
  split at h
  · exact .inl h
  · exact .inr h
  · exact h.elim
theorem s2_times {G : Gx} : S2 G (fun x y H Q => rI CM (fun i j => .int (i * j)) x y H Q ∨ rRep x y H Q) fTimes := (s2_or s2_II s2_rep).imp fun x y μ Q h => by
  unfold fTimes at h
  split at h
  · exact .inl h
  · exact .inr h
  · exact h.elim
section
variable {ex : Option (Addr × Addr × Addr)} {W : WX} {X : Cx} {a b : Expr} {wa wb : WE} {pos : Pos}
theorem de_plus (ha : DE ex W X a wa) (hb : DE ex W X b wb) : DE ex W X (.BinOp a .Add b pos) (w2 fPlus wa wb) := de_op (op_add.or op_cat) s2_plus ha hb
theorem de_times (ha : DE ex W X a wa) (hb : DE ex W X b wb) : DE ex W X (.BinOp a .Mult b pos) (w2 fTimes wa wb) := de_op (op_mulU.or op_rep) s2_times ha hb
end
/-! ### the end: the law's def at the script -/
theorem mu_none {G : Gx} {H : Hp} : MuOk G (fun _ => False) [] [] H := ⟨rfl, by simp, fun a h => by simp at h, fun z h => h.elim, fun n c a h _ => by simp at h⟩
theorem vis_none_all {H : Hp} : vis (fun _ => False) [] H = H := by
  funext b
  unfold vis
  rw [if_neg (by simp)]
theorem sp_start {K : PySem.W.Frag} {mg : Str → Option Value} {sp : DSp} {H : Hp} {a : Addr} {ns : List Int} (hS : SqL K H a (ns.map V.int)) (h : sp [.frl (ns.map D.int)] [] (fun d _ => d = .bl true) xF) :
    toSp ⟨K, mg, none⟩ sp [.ref a] H (fun v _ => v = .bl true) fun _ _ _ => False := by
  refine ⟨fun _ => False, [], [], _, _, _, mu_none, ?_, h, fun v H' P => ?_, fun cls d H' P => xpF P⟩
  · rw [vis_none_all]
    refine Reps.cons ?_ Reps.nil
    rw [Rep]
    exact ⟨a, _, rfl, hS, reps_ints ns⟩
  · obtain ⟨m', d, μ', s, r, rfl⟩ := P
    rw [Rep] at r
    exact r
theorem call_at {P : Program} {w : World} {K : PySem.W.Frag} {mg bm : Str → Option Value} {k : Nat} {fa sc : Addr} {fd : FuncData} {x : Str} {sp : Sp} {s1 : Shared} {vs : List Value} {ns : List Int}
    (kin : K.In s1.heap) (gl : s1.heap.Ns mainGlobals mg) (bl : s1.heap.Ns builtinsNs bm) (bb : ∀ y : Str, y ≠ "__name__" → bm y = bootBuiltins y) (nolim : s1.heap.NoLimit) (gens : s1.gens = #[])
    (at_ : s1.heap.get? sc = some { cls := .type "list", data := .seq vs.toArray }) (iv : IntsAre vs ns) (few : ns.length ≤ sizeLine) (room : Room k callerA)
    (F : ∀ base : Heap, K.In base → base.Ns mainGlobals mg → FnG P w K mg base k fa fd [x] sp) (bind : ∀ (s : Shared) (u : Value), BindsTo s fd ⟨[u], []⟩ [(x, u)])
    (holds : ∀ H : Hp, SqL K H sc (ns.map V.int) → sp [.ref sc] H (fun v _ => v = .bl true) fun _ _ _ => False) :
    codeAny (model P w) callerA (.call (.ref fa) ⟨[.ref sc], []⟩) (fun r s' => r = .ok (.ret (.bool true)) ∧ OldK s1.heap s'.heap ∧ s'.os = s1.os ∧ AllBare s'.gens) s1 := by
  have lenI := iv.length
  have main : ∀ H : Hp, (∀ b, H b = none ∨ ∃ o xs, H b = some (.frz o (.lst xs))) → SqL K H sc (ns.map V.int) → HOk P w H s1.heap → (∀ b, H b ≠ none → b = sc) → (H sc ≠ none → K.lookup sc = none) →
      codeAny (model P w) callerA (.call (.ref fa) ⟨[.ref sc], []⟩) (fun r s' => r = .ok (.ret (.bool true)) ∧ OldK s1.heap s'.heap ∧ s'.os = s1.os ∧ AllBare s'.gens) s1 := by
    intro H frz isL hok alone free
    have none_of : ∀ {b : Addr}, b ≠ sc → H b = none := fun {b} nb => by
      cases z : H b with
      | none => rfl
      | some u => exact absurd (alone b (by rw [z]; simp)) nb
    have seen : ∀ {b : Addr} {o : Obj}, s1.heap.get? b = some o → H b = none → (hidT s1.heap H).get? b = some o := fun e n => hidT_get e n
    have notSc : ∀ {b : Addr} {o : Obj} {es : Array DictEntry} {ep : Nat}, s1.heap.get? b = some o → o.data = .dict es ep → b ≠ sc := fun {b o es ep} e d z => by
      subst z
      rw [at_] at e
      cases e
      cases (show Data.seq vs.toArray _ = Data.dict es ep from d)
    have names : ∀ {b : Addr} {m : Str → Option Value}, s1.heap.Ns b m → (hidT s1.heap H).Ns b m := fun {b m} hn => by
      obtain ⟨o, es, ep, e, d, r⟩ := hn
      exact ⟨o, es, ep, seen e (none_of (notSc e d)), d, r⟩
    have inB : K.In (hidT s1.heap H) := fun b o e => seen (kin b o e) (by
      cases z : H b with
      | none => rfl
      | some u =>
        have eb := alone b (by rw [z]; simp)
        subst eb
        rw [free (by rw [z]; simp)] at e
        cases e)
    obtain ⟨lm, l1, l2⟩ := nolim
    have md : Mod K mg (hidT s1.heap H) := ⟨inB, names gl, ⟨bm, names bl, bb⟩, ⟨lm, names l1, l2⟩⟩
    have env : Env0 P w K mg (hidT s1.heap H) callerA [] s1 H := ⟨rfl, md, fun b o e => of_hidT e, Nat.le_of_eq (hidT_size _ _), trivial, fun b hb => by simp [frs] at hb, hok, .of_eq gens⟩
    refine codeAny_mono ((F _ inB (names gl)).run callerA [] s1 H ⟨[.ref sc], []⟩ [.ref sc] [.ref sc] _ _ room rfl env (bind s1 (.ref sc)) (.cons rfl .nil) (holds H isL)) fun res s2 out => ?_
    match res, out with
    | .error er, out =>
      obtain ⟨_, _, _, _, _, _, _, _, _, _, _, _, z⟩ := out
      exact z.elim
    | .ok (.ret u), out =>
      obtain ⟨v, H', os, bare, un, hok', rv, ev⟩ := out
      have ev' : v = .bl true := ev
      subst ev'
      obtain rfl : u = Value.bool true := rv
      refine ⟨rfl, OldK.of_keep fun b o e => ?_, os, bare⟩
      rcases frz b with z | ⟨ob, xs, z⟩
      · exact un.keep b o e z (by simp [frs]) (by simp)
      · obtain ⟨e1, _⟩ := hok b _ z
        obtain ⟨e2, _⟩ := hok' b _ (un.frzs b ob _ z)
        rw [e] at e1
        cases e1
        exact e2
  cases hk : K.lookup sc with
  | some o =>
    have e := kin sc o hk
    rw [at_] at e
    cases e
    have isL : SqL K (fun _ => none) sc (ns.map V.int) := .inr ⟨_, vs.toArray, _, hk, rfl, rfl, rfl, by rw [List.size_toArray, lenI]; exact few, by simpa using vals_ints iv⟩
    exact main (fun _ => none) (fun _ => .inl rfl) isL (fun b u z => nomatch z) (fun b z => absurd rfl z) (fun z => absurd rfl z)
  | none =>
    obtain ⟨HH, eq1, eq2⟩ : ∃ HH : Hp, (∀ b, b = sc → HH b = some (.frz { cls := .type "list", data := .seq vs.toArray } (.lst (ns.map V.int)))) ∧ ∀ b, b ≠ sc → HH b = none :=
      ⟨fun b => if b = sc then some (.frz { cls := .type "list", data := .seq vs.toArray } (.lst (ns.map V.int))) else none, fun b hb => if_pos hb, fun b hb => if_neg hb⟩
    refine main HH (fun b => ?_) (.inl (.inr ⟨_, eq1 sc rfl⟩)) (fun b u z => ?_) (fun b z => ?_) fun _ => hk
    · by_cases hb : b = sc
      · exact .inr ⟨_, _, eq1 b hb⟩
      · exact .inl (eq2 b hb)
    · by_cases hb : b = sc
      · rw [eq1 b hb] at z
        cases z
        subst hb
        exact ⟨at_, by rw [List.length_map]; exact few, vs, _, vals_ints iv, at_⟩
      · rw [eq2 b hb] at z
        cases z
    · by_cases hb : b = sc
      · exact hb
      · exact absurd (eq2 b hb) z
/-- the goal that the head leaves, from the promise of the law's def -/
theorem walk_ofD {l : PySem.W.OpenLaw} {n k : Nat} {q : Program} {loose : List Str} {XP : (Str → Option Value) → Heap → Prop} {YP : World → Heap → Prop} {d : DefRec} {x : Str} {sp : DSp}
    (most : l.most = some n) (small : n ≤ sizeLine) (nodef : d.params.defaults = []) (room : Room k callerA)
    (F : ∀ (w : World) (mg : Str → Option Value) (fa : Addr) (h : Heap), YP w h → h.Ns mainGlobals mg → mg d.name = some (.ref fa) →
      ∃ (K : PySem.W.Frag) (fd : FuncData), K.In h ∧ (∀ (s : Shared) (u : Value), BindsTo s fd ⟨[u], []⟩ [(x, u)]) ∧ ∀ base : Heap, K.In base → base.Ns mainGlobals mg → FnG l.prog w K mg base k fa fd [x] (toSp ⟨K, mg, none⟩ sp))
    (holds : ∀ ns : List Int, ns.length ≤ n → sp [.frl (ns.map D.int)] [] (fun d _ => d = .bl true) xF) : PySem.W.WalkO q loose XP YP l.row.toRowW d [] (fun f vs => PySem.call f vs) := by
  refine Att.attach_call most nodef fun w s0 s1 mg bm fa o pm cd doc a vs ns G Y ho hd hcd hmg hobj hints hlen hgens => ?_
  obtain ⟨K, fd, kin, bind, hF⟩ := F w mg fa _ Y G.T.g hmg
  exact call_at kin G.T.g G.T.b G.T.builtins G.T.nolimit hgens hobj hints (Nat.le_trans hlen small) room hF bind fun H hS => sp_start hS (holds ns hlen)
end DL

set_option Elab.async false
set_option linter.all false
set_option maxRecDepth 100000
set_option maxHeartbeats 4000000
set_option autoImplicit false
namespace DL
open PySem PySem.Spec PyProof.Rows L2
/-! ### isinstance by a table -/
abbrev IsiL := List ((TyN × TyN) × Bool)
def isiF (L : IsiL) (t u : TyN) : Option Bool := (L.find? fun e => decide (e.1 = (t, u))).map (·.2)
def tvK (K : PySem.W.Frag) : TyN → Value
  | .b n => .type n
  | .c c => .ref (He.ga K c)
def insB (K : PySem.W.Frag) (c : Str) : Bool := (He.Fa.cls c).ok K && (He.eqO (PySem.W.findIn K (.ref (He.ga K c)) "__class__") (some (some (.builtin "object.__class__"))) && (He.eqO (PySem.W.specialIn K (.builtin "object.__class__") "__get__") (some (some (.builtin "getset_descriptor.__get__"))) &&
  (decide (PySem.W.takesIn K (.builtin "object.__class__") = some true) && decide (PySem.W.mroIn K (He.ga K c) (.type "object") = some true))))
theorem insB_ok {K : PySem.W.Frag} {c : Str} (h : insB K c = true) : InsT K (He.ga K c) := by
  obtain ⟨h1, h⟩ := He.ba h
  obtain ⟨h2, h⟩ := He.ba h
  obtain ⟨h3, h⟩ := He.ba h
  obtain ⟨h4, h5⟩ := He.ba h
  exact ⟨He.cls_ok h1, He.eqO_ok h2, He.eqO_ok h3, of_decide_eq_true h4, of_decide_eq_true h5⟩
def tyB (K : PySem.W.Frag) : TyN → Bool
  | .b _ => true
  | .c c => (He.Fa.glo c).ok K && insB K c
def clB (K : PySem.W.Frag) : TyN → Bool
  | .b _ => true
  | .c c => (He.Fa.glo c).ok K
def isiB (L : IsiL) (K : PySem.W.Frag) : Bool := L.all fun e => tyB K e.1.1 && (clB K e.1.2 && decide (PySem.W.kitOne K (tvK K e.1.1) (tvK K e.1.2) = some e.2))
section
variable {K : PySem.W.Frag} {h : Heap} {mg : Str → Option Value} (X : K.In h) (G : h.Ns mainGlobals mg)
include X G
theorem tv_of {t : TyN} {v : Value} {ex : Option (Addr × Addr × Addr)} (c : clB K t = true) (hv : TyVal ⟨K, mg, ex⟩ t v) : v = tvK K t := by
  cases t with
  | b n => exact hv
  | c c0 =>
    obtain ⟨C, h1, rfl⟩ := hv
    have h1' : mg c0 = some (.ref C) := h1
    rw [He.glo_ok X G c] at h1'
    cases h1'
    rfl
theorem isiTab_of {L : IsiL} {ex : Option (Addr × Addr × Addr)} (c : isiB L K = true) : IsiTab ⟨K, mg, ex⟩ (isiF L) := by
  have get : ∀ {t u b}, isiF L t u = some b → tyB K t = true ∧ clB K u = true ∧ PySem.W.kitOne K (tvK K t) (tvK K u) = some b := fun {t u b} e => by
    unfold isiF at e
    obtain ⟨z, e1, e2⟩ := Option.map_eq_some_iff.mp e
    have m := List.mem_of_find?_eq_some e1
    have p : z.1 = (t, u) := by
      have q := List.find?_some e1
      exact of_decide_eq_true q
    obtain ⟨zz, bb⟩ := z
    cases p
    cases e2
    have q := List.all_eq_true.mp c _ m
    obtain ⟨q1, q⟩ := He.ba q
    obtain ⟨q2, q3⟩ := He.ba q
    exact ⟨q1, q2, of_decide_eq_true q3⟩
  have lo : ∀ {t}, tyB K t = true → clB K t = true := fun {t} e => by
    cases t with
    | b n => rfl
    | c c0 => exact (He.ba e).1
  refine ⟨fun t u b e tv uv ht hu => ?_, fun c0 u b e C g => ?_⟩
  · obtain ⟨q1, q2, q3⟩ := get e
    rw [tv_of X G (lo q1) ht, tv_of X G q2 hu]
    exact q3
  · obtain ⟨q1, _, _⟩ := get e
    obtain ⟨q2, q4⟩ := He.ba q1
    have g' : mg c0 = some (.ref C) := g
    rw [He.glo_ok X G q2] at g'
    cases g'
    exact insB_ok q4
end
/-! ### own operators -/
/-! ### names, compared -/
theorem str_iff (a b : String) : Str.ofString a = Str.ofString b ↔ a = b := by
  constructor
  · intro h
    rw [Str.ofString_eq_toList, Str.ofString_eq_toList] at h
    have h1 := congrArg (fun z : Str => z.cps.toList) h
    have h2 : a.toList.map Char.toNat = b.toList.map Char.toNat := by simpa using h1
    have inj : ∀ {l k : List Char}, l.map Char.toNat = k.map Char.toNat → l = k := by
      intro l
      induction l with
      | nil => intro k e; cases k with
        | nil => rfl
        | cons c k => cases e
      | cons c l ih => intro k e; cases k with
        | nil => cases e
        | cons d k =>
          rw [List.map_cons, List.map_cons] at e
          injection e with e1 e2
          have : c = d := Char.ext (UInt32.toNat.inj e1)
          rw [this, ih e2]
    exact String.toList_inj.mp (inj h2)
  · intro h; rw [h]
theorem str_eq (a b : String) : (Str.ofString a = Str.ofString b) = (a = b) := propext (str_iff a b)
theorem str_beq (a b : String) : (Str.ofString a == Str.ofString b) = decide (a = b) := by
  by_cases h : a = b
  · subst h; simp
  · rw [decide_eq_false h]
    exact beq_eq_false_iff_ne.mpr fun e => h ((str_iff a b).mp e)
/-! ### boot -/
theorem bt_int : bootBuiltins "int" = some (.type "int") := by decide +kernel
theorem bt_bool : bootBuiltins "bool" = some (.type "bool") := by decide +kernel
theorem bt_tuple : bootBuiltins "tuple" = some (.type "tuple") := by decide +kernel
theorem bt_list : bootBuiltins "list" = some (.type "list") := by decide +kernel
theorem bt_len : bootBuiltins "len" = some (.builtin "len") := by decide +kernel
theorem bt_abs : bootBuiltins "abs" = some (.builtin "abs") := by decide +kernel
theorem bt_max : bootBuiltins "max" = some (.builtin "max") := by decide +kernel
theorem bt_min : bootBuiltins "min" = some (.builtin "min") := by decide +kernel
theorem bt_sorted : bootBuiltins "sorted" = some (.builtin "sorted") := by decide +kernel
theorem bt_isinstance : bootBuiltins "isinstance" = some (.builtin "isinstance") := by decide +kernel
theorem bt_repr : bootBuiltins "repr" = some (.builtin "repr") := by decide +kernel
theorem bt_all : bootBuiltins "all" = some (.builtin "all") := by decide +kernel
end DL

set_option Elab.async false
set_option linter.all false
set_option maxRecDepth 100000
set_option maxHeartbeats 4000000
set_option autoImplicit false
namespace DL
open PySem PySem.Spec PyProof.Rows L2
/-! ### exceptions of the text: raised -/
structure RaiseD (P : Program) (w : World) (K : PySem.W.Frag) (mg : Str → Option Value) (base : Heap) (k : Nat) (c : Str) (ks : List Str) : Prop where
  ex : ∃ C fI fd ps sp, mg c = some (.ref C) ∧ OexC K C ∧ PySem.W.findIn K (.ref C) "__init__" = some (some (.ref fI)) ∧ PySem.W.typeIn K (.ref fI) = some (.type "function") ∧ Binds K fd ps [] ∧ FnOk P w K mg base CX0 k fI fd ps sp ∧
    ∀ a ws H Q E, ws.length = ks.length → H a = some (exo a C none) → (∀ d H2, H d = none → d ≠ a → H2 a = some (exo a C (some d)) → H2 d = some (exd d (ks.zip ws).reverse) → (∀ b, b ≠ a → b ≠ d → H2 b = H b) → Q .non H2) → sp (.ref a :: ws) H Q E
def sRaise (c : Str) (ks : List Str) (wa : WA) : WS := fun E ρ μ => wa ρ μ (fun ds μ1 => ds.length ≤ 1000 ∧ ds.length = ks.length ∧ E.xc c ks.reverse ds.reverse ρ μ1) fun c ks es μ' => E.xc c ks es ρ μ'
theorem zip_reverse {α β : Type} : ∀ (xs : List α) (ys : List β), xs.length = ys.length → (xs.zip ys).reverse = xs.reverse.zip ys.reverse := by
  intro xs ys h
  rw [List.zip_eq_zipWith, List.zip_eq_zipWith]
  exact List.reverse_zipWith h
section
variable {W : WX} {X : Cx} {e : Expr} {es : List Expr} {ws : WA} {p pos pos' : Pos} {k j : Nat} {c : Str} {ks : List Str}
theorem ds_raiseD (R : RaiseD X.prog X.w X.K X.mg X.base k c ks) (hc : X.calm = true) (hr : Room j X.A) (hkj : k + 1 ≤ j) (hg : Gl X c) (tk : Takes X W) (ha : DA none W X (e :: es) ws) (hdb : (c == ("__debug__" : Str)) = false := by decide)
    (he : starEach (e :: es) X.env = (false, eval e X.env) :: starEach es X.env := by rfl) (hpl : (backTo pos (starEach es X.env)).any (·.1) = false := by rfl) :
    DSt none W X (.Raise (some (.Call (.Name c p) (e :: es) [] pos)) none pos') (sRaise c ks ws) := by
  obtain ⟨C, fI, fd, ps, sp, hm, T, hi, hf, hb, F, hsp⟩ := R.ex
  have mk := pmk_oex (ta := liftA (gx X none) W ws) (p := p) (pos := pos) T hi hf F (hr.mono hkj) hb .nil pass0 hg hm ha hdb he hpl
  refine ps_weak (ps_raise hc tk mk) fun De σ H q => ?_
  obtain ⟨Z, m, ρ, μ, E, S, q, kn, kr, kb, kc, kx⟩ := q
  refine ⟨Z, m, ρ, μ, _, _, S, q, fun vs H1 P => ?_, fun cls d H' P => kx cls d σ H' (XSPost.of S P)⟩
  obtain ⟨m1, ds, μ1, s1, r1, hl, hn, q1⟩ := P
  refine ⟨by rw [← r1.len]; exact hl, fun a na => ?_⟩
  rw [List.append_nil]
  have lv : vs.length = ks.length := by rw [← r1.len]; exact hn
  refine hsp a vs _ _ _ lv upd_same fun d H2 nd ne ha2 hd2 hold => ⟨rfl, d, _, ha2, hd2, ?_, ?_⟩
  · rw [upd_ne ne] at nd; exact nd
  · rw [upd_ne ne] at nd
    have same : upd (del H2 a) d (.xd (ks.zip vs).reverse) = upd H1 d (.xd (ks.zip vs).reverse) := by
      funext b
      by_cases hb : b = d
      · subst hb; rw [upd_same, upd_same]
      · rw [upd_ne hb, upd_ne hb]
        by_cases hba : b = a
        · subst hba; rw [del_same, na]
        · rw [del_ne hba, hold b hba hb, upd_ne hba]
    rw [same]
    have s2 := Step.laid (o := .xd (ks.zip vs).reverse) s1.mu nd
    have s12 := s1.trans s2
    refine kx _ _ σ _ (XSPost.from (SStep.of s12) ?_)
    refine ⟨m1, c, ks.reverse, ds.reverse, ρ, μ1, C, d, vs.reverse, S.step s12, .refl, rfl, rfl, hm, ?_, by rw [List.length_reverse, List.length_reverse]; exact hn.symm, ?_, q1⟩
    · rw [vis_upd s1.mu nd, upd_same, zip_reverse ks vs lv.symm]
    · exact Reps.reverse (Reps.mono s2.pre s2.same _ _ r1)
end
/-! the __init__ of an exception: one attribute, two -/
theorem raise1 {P : Program} {w : World} {K : PySem.W.Frag} {mg : Str → Option Value} {base : Heap} {c f x y qual : Str} {params : Arguments} {scope : Scope} {C fI : Addr} {fd : FuncData} {body : List Stmt}
    (hm : mg c = some (.ref C)) (T : OexC K C) (hno : PySem.W.findIn K (.ref C) f = some none) (hi : PySem.W.findIn K (.ref C) "__init__" = some (some (.ref fI))) (hf : PySem.W.typeIn K (.ref fI) = some (.type "function"))
    (F : FunD K "__init__" qual params body scope [] [] fI fd) (S : FnScope [x, y] [x, y] scope) (hb : Binds K fd [x, y] [])
    (hd : ∀ (cdv : Value) (A : Around) (fr : List Env) (s : Shared) (H : Hp) (E : XK), PSs (cxOf CX0 P w K mg base [x, y] qual scope fI cdv A fr s H E) body (tOst K f (tVar 0) (tVar 1))) : RaiseD P w K mg base 1 c [f] := by
  refine ⟨C, fI, fd, [x, y], fun vs H Q E => ∃ a v, vs = [.ref a, v] ∧ H a = some (exo a C none) ∧ ∀ dx, H dx = none → dx ≠ a → Q .non (upd (upd H dx (exd dx [(f, v)])) a (exo a C (some dx))), hm, T, hi, hf, hb, ?_, ?_⟩
  · refine F.ok S (fun vs H Q E h => ?_) (fun cdv A fr s H vs Q E hr h => ⟨tOst K f (tVar 0) (tVar 1), ?_, ?_⟩)
    · obtain ⟨a, v, rfl, _⟩ := h
      rfl
    · exact hd _ _ _ _ _ _
    · obtain ⟨a, v, rfl, ea, hq⟩ := h
      refine ⟨v, rfl, .ref a, rfl, a, C, rfl, T, hno, .inl ⟨ea, hq⟩⟩
  · intro a ws H Q E hl ea h
    match ws, hl with
    | [v], _ =>
      refine ⟨a, v, rfl, ea, fun dx nd ne => h dx _ nd ne upd_same ?_ fun b hba hbd => ?_⟩
      · rw [upd_ne ne, upd_same]; rfl
      · rw [upd_ne hba, upd_ne hbd]
theorem raise2 {P : Program} {w : World} {K : PySem.W.Frag} {mg : Str → Option Value} {base : Heap} {c f g x y z qual : Str} {params : Arguments} {scope : Scope} {C fI : Addr} {fd : FuncData} {body : List Stmt}
    (hm : mg c = some (.ref C)) (T : OexC K C) (hno : PySem.W.findIn K (.ref C) f = some none) (hno2 : PySem.W.findIn K (.ref C) g = some none) (hi : PySem.W.findIn K (.ref C) "__init__" = some (some (.ref fI))) (hf : PySem.W.typeIn K (.ref fI) = some (.type "function"))
    (F : FunD K "__init__" qual params body scope [] [] fI fd) (S : FnScope [x, y, z] [x, y, z] scope) (hb : Binds K fd [x, y, z] [])
    (hd : ∀ (cdv : Value) (A : Around) (fr : List Env) (s : Shared) (H : Hp) (E : XK), PSs (cxOf CX0 P w K mg base [x, y, z] qual scope fI cdv A fr s H E) body (tSeq (tOst K f (tVar 0) (tVar 1)) (tOst K g (tVar 0) (tVar 2)))) : RaiseD P w K mg base 1 c [f, g] := by
  refine ⟨C, fI, fd, [x, y, z], fun vs H Q E => ∃ a v u, vs = [.ref a, v, u] ∧ H a = some (exo a C none) ∧ ∀ dx, H dx = none → dx ≠ a → Q .non (upd (upd (upd H dx (exd dx [(f, v)])) a (exo a C (some dx))) dx (exd dx [(g, u), (f, v)])), hm, T, hi, hf, hb, ?_, ?_⟩
  · refine F.ok S (fun vs H Q E h => ?_) (fun cdv A fr s H vs Q E hr h => ⟨tSeq (tOst K f (tVar 0) (tVar 1)) (tOst K g (tVar 0) (tVar 2)), ?_, ?_⟩)
    · obtain ⟨a, v, u, rfl, _⟩ := h
      rfl
    · exact hd _ _ _ _ _ _
    · obtain ⟨a, v, u, rfl, ea, hq⟩ := h
      refine ⟨v, rfl, .ref a, rfl, a, C, rfl, T, hno, .inl ⟨ea, fun dx nd ne => ?_⟩⟩
      refine ⟨u, rfl, .ref a, rfl, a, C, rfl, T, hno2, .inr ⟨dx, [(f, v)], upd_same, by rw [upd_ne ne, upd_same], by simp, hq dx nd ne⟩⟩
  · intro a ws H Q E hl ea h
    match ws, hl with
    | [v, u], _ =>
      refine ⟨a, v, u, rfl, ea, fun dx nd ne => h dx _ nd ne ?_ ?_ fun b hba hbd => ?_⟩
      · rw [upd_ne (Ne.symm ne), upd_same]
      · rw [upd_same]; rfl
      · rw [upd_ne hbd, upd_ne hba, upd_ne hbd]
end DL

set_option Elab.async false
set_option linter.all false
set_option maxRecDepth 100000
set_option maxHeartbeats 4000000
set_option autoImplicit false
namespace DL
open PySem PySem.Spec PyProof.Rows L2
/-! ### what does not hang on the caught exception -/
mutual
theorem Rep.ex {K : PySem.W.Frag} {mg : Str → Option Value} {e1 e2 : Option (Addr × Addr × Addr)} {m : List Addr} {E : Hp} : ∀ (d : D) (v : V), Rep ⟨K, mg, e1⟩ m E d v → Rep ⟨K, mg, e2⟩ m E d v
  | .non, v, r => by rw [Rep] at r ⊢; exact r
  | .bl b, v, r => by rw [Rep] at r ⊢; exact r
  | .int i, v, r => by rw [Rep] at r ⊢; exact r
  | .str s, v, r => by rw [Rep] at r ⊢; exact r
  | .ty n, v, r => by rw [Rep] at r ⊢; exact r
  | .cls c, v, r => by rw [Rep] at r ⊢; exact r
  | .tup ds, v, r => by
    rw [Rep] at r ⊢
    obtain ⟨a, vs, e, s, q⟩ := r
    exact ⟨a, vs, e, s, Reps.ex ds vs q⟩
  | .lst ds, v, r => by
    rw [Rep] at r ⊢
    obtain ⟨a, vs, e, s, q⟩ := r
    exact ⟨a, vs, e, s, Reps.ex ds vs q⟩
  | .frl ds, v, r => by
    rw [Rep] at r ⊢
    obtain ⟨a, vs, e, s, q⟩ := r
    exact ⟨a, vs, e, s, Reps.ex ds vs q⟩
  | .obj c ks ds, v, r => by
    rw [Rep] at r ⊢
    obtain ⟨a, C, dx, vs, e, g, s, l, q⟩ := r
    exact ⟨a, C, dx, vs, e, g, s, l, Reps.ex ds vs q⟩
  | .loc n, v, r => by rw [Rep] at r ⊢; exact r
  | .opq o, v, r => by rw [Rep] at r ⊢; exact r
theorem Reps.ex {K : PySem.W.Frag} {mg : Str → Option Value} {e1 e2 : Option (Addr × Addr × Addr)} {m : List Addr} {E : Hp} : ∀ (ds : List D) (vs : List V), Reps ⟨K, mg, e1⟩ m E ds vs → Reps ⟨K, mg, e2⟩ m E ds vs
  | [], vs, r => by rw [Reps] at r ⊢; exact r
  | d :: ds, vs, r => by
    rw [Reps] at r ⊢
    obtain ⟨v, t, e, s, q⟩ := r
    exact ⟨v, t, e, Rep.ex d v s, Reps.ex ds t q⟩
end
section
variable {K : PySem.W.Frag} {mg : Str → Option Value} {e1 e2 : Option (Addr × Addr × Addr)} {Z : Addr → Prop} {m : List Addr} {μ : Mu} {H E : Hp} {σ : L2.St} {ρ : DS}
theorem CellOk.ex {c : Cell} {a : Addr} (h : CellOk ⟨K, mg, e1⟩ m E H c a) : CellOk ⟨K, mg, e2⟩ m E H c a := by
  cases c with
  | lst ds =>
    obtain ⟨vs, h1, h2⟩ := h
    exact ⟨vs, h1, Reps.ex _ _ h2⟩
  | ins c ks ds =>
    obtain ⟨C, dx, vs, h0, h1, hl, h2⟩ := h
    exact ⟨C, dx, vs, h0, h1, hl, Reps.ex _ _ h2⟩
  | pool => exact h
  | dct kvs => exact h
  | dic ks ds =>
    obtain ⟨vs, h1, hl, h2⟩ := h
    exact ⟨vs, h1, hl, Reps.ex _ _ h2⟩
theorem MuOk.ex (M : MuOk ⟨K, mg, e1⟩ Z m μ H) : MuOk ⟨K, mg, e2⟩ Z m μ H := ⟨M.len, M.nd, M.out, M.hw, fun n c a h1 h2 => (M.cell n c a h1 h2).ex⟩
/-- no slot holds an exception -/
def noExn (ρ : DS) : Bool := ρ.all fun s => match s with
  | .exn _ _ _ => false
  | _ => true
theorem noExn_get (h : noExn ρ = true) {i : Nat} {c : Str} {ks : List Str} {ds : List D} : ρ[i]? ≠ some (.exn c ks ds) := fun e => by
  have := List.all_eq_true.mp h _ (List.mem_of_getElem? e)
  cases this
theorem SR.ex (S : SR ⟨K, mg, e1⟩ Z m σ H ρ μ) (hx : ∀ (i : Nat) c ks ds, ρ[i]? ≠ some (Sl.exn c ks ds)) : SR ⟨K, mg, e2⟩ Z m σ H ρ μ := by
  refine ⟨S.len, S.mu.ex, fun i d e => ?_, fun i a c e => ?_, S.dis, fun i c ks ds e => absurd e (hx i c ks ds)⟩
  · obtain ⟨v, h1, h2⟩ := S.val i d e
    exact ⟨v, h1, Rep.ex _ _ h2⟩
  · obtain ⟨h1, h2, h3⟩ := S.own i a c e
    exact ⟨h1, h2, h3.ex⟩
theorem SR.none_exn (S : SR ⟨K, mg, none⟩ Z m σ H ρ μ) {i : Nat} {c : Str} {ks : List Str} {ds : List D} : ρ[i]? ≠ some (.exn c ks ds) := fun e => by
  obtain ⟨_, _, _, _, h, _⟩ := S.exn i c ks ds e
  cases h
/-- a slot is set to what is no thing of its own: anything -/
theorem own_drop {i : Nat} {x : Sl} {σ' : L2.St} (hx : ∀ a c, x ≠ .own a c) {b : Addr} (h : ownW Z σ' (ρ.set i x) b) : ownW Z σ ρ b := by
  rcases h with h | ⟨j, e, h1⟩
  · exact .inl h
  · by_cases hj : i = j
    · subst hj
      rw [List.getElem?_set] at h1
      simp at h1
      exact absurd h1.2 (hx b e)
    · rw [List.getElem?_set_ne hj] at h1; exact .inr ⟨j, e, h1⟩
theorem SR.setX {G : Gx} (S : SR G Z m σ H ρ μ) {i : Nat} {x : Sl} {o : Option V} (hx : ∀ a c, x ≠ .own a c) (hv : ∀ d, x ≠ .v d) (he : ∀ c ks ds, x = .exn c ks ds → ExOk G m (vis (ownW Z σ ρ) m H) (some o) c ks ds) :
    SR G Z m (σ.set i o) H (ρ.set i x) μ ∧ SStep G Z m σ ρ H m (σ.set i o) (ρ.set i x) H := by
  have sub : ∀ b, ownW Z (σ.set i o) (ρ.set i x) b → ownW Z σ ρ b := fun b h => own_drop hx h
  have sm := vis_mono (m := m) (H := H) sub
  have get : ∀ {j : Nat} {y : Sl}, (ρ.set i x)[j]? = some y → (j = i ∧ y = x) ∨ (i ≠ j ∧ ρ[j]? = some y) := fun {j y} h => by
    by_cases hj : i = j
    · subst hj
      rw [List.getElem?_set] at h
      simp at h
      exact .inl ⟨rfl, h.2.symm⟩
    · rw [List.getElem?_set_ne hj] at h; exact .inr ⟨hj, h⟩
  refine ⟨⟨by rw [List.length_set, List.length_set]; exact S.len, S.mu.less sub, fun j d e => ?_, fun j a c e => ?_, fun j k a c c' h1 h2 => ?_, fun j c ks ds e => ?_⟩, List.prefix_refl _, fun _ _ => rfl, sm⟩
  · rcases get e with ⟨_, h⟩ | ⟨hj, h⟩
    · exact absurd h.symm (hv d)
    · obtain ⟨v, h1, h2⟩ := S.val j d h
      exact ⟨v, by rw [List.getElem?_set_ne hj]; exact h1, Rep.mono (List.prefix_refl _) sm _ _ h2⟩
  · rcases get e with ⟨_, h⟩ | ⟨hj, h⟩
    · exact absurd h.symm (hx a c)
    · obtain ⟨h1, h2, h3⟩ := S.own j a c h
      exact ⟨by rw [List.getElem?_set_ne hj]; exact h1, h2, h3.keep (List.prefix_refl _) sm rfl⟩
  · rcases get h1 with ⟨_, h⟩ | ⟨_, h⟩
    · exact absurd h.symm (hx a c)
    · rcases get h2 with ⟨_, h'⟩ | ⟨_, h'⟩
      · exact absurd h'.symm (hx a c')
      · exact S.dis j k a c c' h h'
  · rcases get e with ⟨hj, h⟩ | ⟨hj, h⟩
    · subst hj
      have hl : j < σ.length := by
        rw [← S.len]
        have := (List.getElem?_eq_some_iff.mp e).1
        simpa using this
      rw [List.getElem?_set_self hl]
      exact (he c ks ds h.symm).mono (List.prefix_refl _) sm
    · rw [List.getElem?_set_ne hj]
      exact (S.exn j c ks ds h).mono (List.prefix_refl _) sm
end
/-! ### try: .. except C as e: .. -/
def exOf (a : Addr) (cls : Value) (d : Option Addr) : Option (Addr × Addr × Addr) := match cls, d with
  | .ref C, some dd => some (a, C, dd)
  | _, _ => none
/-- which classes the clause catches -/
def CatchD (K : PySem.W.Frag) (mg : Str → Option Value) (cv : Value) (mt : Str → Option Bool) : Prop := ∀ c b, mt c = some b → ∀ C, mg c = some (.ref C) → PySem.W.exmOne K (.ref C) cv = some b
def suiteE (i : Nat) (E : DEnds) : DEnds := { nx := fun ρ2 μ2 => noExn (ρ2.set i .no) = true ∧ E.nx (ρ2.set i .no) μ2, rt := E.rt, bk := fun ρ2 μ2 => noExn (ρ2.set i .no) = true ∧ E.bk (ρ2.set i .no) μ2, ct := fun ρ2 μ2 => noExn (ρ2.set i .no) = true ∧ E.ct (ρ2.set i .no) μ2 }
def caught (mt : Str → Option Bool) (i : Nat) (wsu : WS) (E : DEnds) : XS := fun c ks es ρ' μ' => match mt c with
  | some true => wsu (suiteE i E) (ρ'.set i (.exn c ks es)) μ'
  | some false => E.xc c ks es ρ' μ'
  | none => False
def sTry (mt : Str → Option Bool) (i : Nat) (wb wsu : WS) : WS := fun E ρ μ => wb { E with xc := caught mt i wsu E } ρ μ
section
variable {W : WX} {X : Cx} {x n : Str} {cv : Value} {i : Nat} {body suite : List Stmt} {b0 : Stmt} {np pos pos' : Pos} {wb wsu : WS} {mt : Str → Option Bool}
theorem ds_try (hs : X.stack = X.env :: X.outer) (hf : X.env.frame = some X.env.locals) (hN : X.N.Nodup) (hi : X.N[i]? = some n) (hln : X.env.kindOf n = some .local) (hc : Names X x cv) (tk : Takes X W) (hm : CatchD X.K X.mg cv mt)
    (hb : ∀ (W2 : WX) (pn : List (Addr × Obj)) (xe : Value → Shared → Prop), Takes (X.tr pn xe) W2 → PassesOwn (model X.prog X.w) X.A X.env xe → DSs none W2 (X.tr pn xe) body wb)
    (hsu : ∀ (a : Addr) (oe : Obj) (cls : Value) (d : Option Addr) (pn : List (Addr × Obj)), Zc cls d oe → (∃ vs, oe.data = .fields vs) → DSs (exOf a cls d) WF (X.suite a ((a, oe) :: pn)) (b0 :: suite) wsu) :
    DSt none W X (.Try body [.ExceptHandler (some (.Name x np)) (some n) (b0 :: suite) pos'] [] [] pos) (sTry mt i wb wsu) := by
  refine ps_weak (ps_try_as (i := i) (c := cv) (tb := fun W2 => liftS (gx X none) W2 wb) (ts := fun a cls d => liftS (gx X (exOf a cls d)) WF wsu) hs hf hN hi hln hc tk hb hsu) fun De σ H q => ?_
  obtain ⟨Z, m, ρ, μ, E, S, q, kn, kr, kb, kc, kx⟩ := q
  refine ⟨Z, m, ρ, μ, { E with xc := caught mt i wsu E }, S, q, kn, kr, kb, kc, fun cls d σ' H' P => ?_⟩
  obtain ⟨m', c, ks, es, ρ', μ', C, dd, vs, S', s', rfl, rfl, hC, hdd, hl, rs, q'⟩ := P
  have hC' : X.mg c = some (.ref C) := hC
  have q2 : caught mt i wsu E c ks es ρ' μ' := q'
  unfold caught at q2
  split at q2
  · rename_i hmt
    refine ⟨true, hm c true hmt C hC', fun _ a na => ?_, fun z => absurd z (by decide)⟩
    have S2 : SR (gx X (some (a, C, dd))) Z m' σ' H' ρ' μ' := S'.ex fun j c2 ks2 ds2 => S'.none_exn
    obtain ⟨S3, s3⟩ := S2.setX (i := i) (x := .exn c ks es) (o := some (.ref a)) (fun _ _ z => nomatch z) (fun _ z => nomatch z) (fun c2 ks2 ds2 e => by
      cases e
      exact ⟨a, C, dd, vs, rfl, hC', rfl, hdd, hl, Reps.ex _ _ rs⟩)
    have t3 : SStep (gx X none) Z m σ ρ H m' (σ'.set i (some (.ref a))) (ρ'.set i (.exn c ks es)) H' := s'.trans ⟨s3.pre, s3.hid, s3.same⟩
    have back : ∀ {Pd : DS → Mu → Prop} {σ2 H2}, SPost (gx X (some (a, C, dd))) Z m' (σ'.set i (some (.ref a))) (ρ'.set i (.exn c ks es)) H' (fun ρ2 μ2 => noExn (ρ2.set i .no) = true ∧ Pd (ρ2.set i .no) μ2) σ2 H2 →
        SPost (gx X none) Z m σ ρ H Pd (σ2.set i none) H2 := fun {Pd σ2 H2} P => by
      obtain ⟨m2, ρ2, μ2, T, t, hno, q⟩ := P
      obtain ⟨T2, t2⟩ := T.setX (i := i) (x := .no) (o := none) (fun _ _ z => nomatch z) (fun _ z => nomatch z) (fun _ _ _ z => nomatch z)
      exact ⟨m2, _, μ2, T2.ex fun j c2 ks2 ds2 => noExn_get hno, t3.trans (SStep.trans ⟨t.pre, t.hid, t.same⟩ ⟨t2.pre, t2.hid, t2.same⟩), q⟩
    refine ⟨Z, m', _, μ', suiteE i E, S3, q2, fun σ2 H2 P => kn _ _ (back P), fun v H2 P => ?_, fun σ2 H2 P => kb _ _ (back P), fun σ2 H2 P => kc _ _ (back P), fun cls2 d2 σ2 H2 P => ?_⟩
    · obtain ⟨m2, d, μ2, h1, h2, h3, h4, h5, h6⟩ := P
      exact kr v H2 (RPost.from t3 ⟨m2, d, μ2, h1, h2, h3.ex, h4, Rep.ex _ _ h5, h6⟩)
    · obtain ⟨_, _, _, _, _, _, _, _, _, _, _, _, _, _, _, _, _, z⟩ := P
      exact z.elim
  · rename_i hmt
    refine ⟨false, hm c false hmt C hC', fun z => absurd z Bool.false_ne_true, fun _ => kx _ _ σ' H' ⟨m', c, ks, es, ρ', μ', C, dd, vs, S', s', rfl, rfl, hC, hdd, hl, rs, q2⟩⟩
  · exact q2.elim
end
/-! in the suite: e.f, isinstance(e, C) -/
def KExn (o : Option Sl) (k : Str → List Str → List D → Prop) : Prop := match o with
  | some (.exn c ks ds) => k c ks ds
  | _ => False
theorem KExn_of {o : Option Sl} {k : Str → List Str → List D → Prop} (h : KExn o k) : ∃ c ks ds, o = some (.exn c ks ds) ∧ k c ks ds := by
  unfold KExn at h
  split at h
  · exact ⟨_, _, _, rfl, h⟩
  · exact h.elim
def getX (cs : List Str) (f : Str) (Q : D → Prop) : Str → List Str → List D → Prop := fun c ks ds => c ∈ cs ∧ match fldOf f ks ds with
  | some d => Q d
  | none => False
def wXf (cs : List Str) (i : Nat) (f : Str) : WE := fun ρ μ Q _ => KExn (ρ[i]?) (getX cs f fun d => Q d μ)
def XfD (K : PySem.W.Frag) (mg : Str → Option Value) (cs : List Str) (f : Str) : Prop := ∀ c ∈ cs, ∀ C, mg c = some (.ref C) → XfC K C ∧ PySem.W.findIn K (.ref C) f = some none
def wIsE (f : TyN → TyN → Option Bool) (i : Nat) (cn : Str) : WE := fun ρ μ Q _ => KExn (ρ[i]?) fun c _ _ => match f (.c c) (.c cn) with
  | some b => Q (.bl b) μ
  | none => False
/-- isinstance of caught exceptions: by a table -/
structure IsxTab (K : PySem.W.Frag) (mg : Str → Option Value) (f : TyN → TyN → Option Bool) : Prop where
  ok : ∀ c u b, f (.c c) (.c u) = some b → ∀ C U, mg c = some (.ref C) → mg u = some (.ref U) → ExcC K C ∧ PySem.W.kitOne K (.ref C) (.ref U) = some b
section
variable {X : Cx} {a : Addr} {oe : Obj} {cls : Value} {d : Option Addr} {pn : List (Addr × Obj)} {pos p1 p2 p3 : Pos} {x n cn : Str} {i : Nat} {cs : List Str}
theorem exOf_some {a a' C dd : Addr} {cls : Value} {d : Option Addr} (h : exOf a cls d = some (a', C, dd)) : a' = a ∧ cls = .ref C ∧ d = some dd := by
  unfold exOf at h
  split at h
  · cases h; exact ⟨rfl, rfl, rfl⟩
  · cases h
theorem de_xf {f : Str} (hz : Zc cls d oe) (hf : ∃ vs, oe.data = .fields vs) (T : XfD X.K X.mg cs f) (hN : X.N[i]? = some x) (hv : Vis X.env.scope x := by first | exact Or.inl rfl | exact Or.inr (Or.inl rfl) | exact Or.inr (Or.inr rfl))
    (hd : (x == ("__debug__" : Str)) = false := by decide) (hcd : (x == ("__classdict__" : Str)) = false := by decide) (hb : attributeBase (.Name x p1) f X.env (eval (.Name x p1) X.env) = eval (.Name x p1) X.env := by rfl) :
    DE (exOf a cls d) WF (X.suite a ((a, oe) :: pn)) (.Attribute (.Name x p1) f pos) (wXf cs i f) := by
  refine ⟨fun pins s σ H Q' I q => ?_⟩
  obtain ⟨Z, m, ρ, μ, Q, Xd, S, q, k, kx⟩ := q
  obtain ⟨c, ks, ds, e, q⟩ := KExn_of q
  obtain ⟨hcs, q⟩ := q
  obtain ⟨a', C, dd, vs, h1, h2, h3, h4, h5, h6⟩ := S.exn i c ks ds e
  obtain ⟨rfl, rfl, rfl⟩ := exOf_some h1
  obtain ⟨T1, T2⟩ := T c hcs C h2
  split at q
  · rename_i dv hdv
    obtain ⟨v, hv1, hv2⟩ := fldOf_rep h6 hdv
    have R := pe_xf (pos := pos) (a := a') (pn := pn) T1 T2 hz hf (pe_var (X := X.suite a' ((a', oe) :: pn)) (i := i) (x := x) (pos := p1) hN hv hd hcd) hb
    exact R.run pins s σ H Q' I ⟨_, h3, rfl, rfl, dd, _, v, rfl, vis_le _ _ h4, hv1, k _ _ (.now S.mu hv2 q)⟩
  · exact q.elim
theorem call_isX {f : TyN → TyN → Option Bool} (T : IsxTab X.K X.mg f) (hz : Zc cls d oe) (hf : ∃ vs, oe.data = .fields vs) : CallR (X.suite a ((a, oe) :: pn)) (.builtin "isinstance") (fun xs H Q => ∃ C U dd fs c u b, xs = [.ref a, .ref U] ∧ cls = .ref C ∧ d = some dd ∧ H dd = some (.xd fs) ∧
    X.mg c = some (.ref C) ∧ X.mg u = some (.ref U) ∧ f (.c c) (.c u) = some b ∧ Q (.bl b) H) := by
  intro pins s σ H xs us Q I r h
  obtain ⟨C, U, dd, fs, c, u, b, rfl, rfl, rfl, hdd, hc, hu, e, q⟩ := h
  obtain ⟨u1, u2, rfl, r1, r2⟩ := vals2 r
  cases (show u1 = Value.ref a from r1)
  cases (show u2 = Value.ref U from r2)
  obtain ⟨hget, _⟩ := I.pin (a, oe) (List.mem_append.mpr (.inl List.mem_cons_self))
  obtain ⟨E, kit⟩ := T.ok c u b e C U hc hu
  obtain ⟨vs, hv⟩ := hf
  obtain ⟨mA, hns, hr⟩ := (show ObjOk X.prog X.w H s.heap dd (.xd fs) from I.hok dd _ hdd)
  obtain ⟨od, ho, hl⟩ := lookIn_ns hns
  have J : PySem.W.InstAt s.heap a oe C (some od) := ⟨hget, hz.1, by unfold PySem.W.notCls; rw [hv] <;> rfl, by rw [hz.2]; exact ho⟩
  have hcl : (PySem.W.clsIn X.K C).isSome = true := by
    obtain ⟨cd, hcd, _⟩ := PySem.W.any_some E.hd
    rw [hcd]; rfl
  exact PySem.W.kia_one (PySem.W.kitx_exc hcl E.hg E.hk E.hs E.ha E.hn E.ht E.hm) I.kIn J kit (fun z => nomatch z) fun tk => ⟨.bl b, H, I.kept (t' := tk) fun _ _ z => z, rfl, q⟩
theorem de_isX {f : TyN → TyN → Option Bool} {C2 : Addr} (T : IsxTab X.K X.mg f) (hz : Zc cls d oe) (hf : ∃ vs, oe.data = .fields vs) (hg : Gl X "isinstance") (hm : X.mg "isinstance" = none) (hN : X.N[i]? = some x) (hg2 : Gl X cn) (hm2 : X.mg cn = some (.ref C2))
    (hv : Vis X.env.scope x := by first | exact Or.inl rfl | exact Or.inr (Or.inl rfl) | exact Or.inr (Or.inr rfl)) (hd : (x == ("__debug__" : Str)) = false := by decide) (hcd : (x == ("__classdict__" : Str)) = false := by decide) (hd2 : (cn == ("__debug__" : Str)) = false := by decide) :
    DE (exOf a cls d) WF (X.suite a ((a, oe) :: pn)) (.Call (.Name "isinstance" p1) [.Name x p2, .Name cn p3] [] pos) (wIsE f i cn) := by
  have A1 : PA (X.suite a ((a, oe) :: pn)) [.Name x p2, .Name cn p3] (tCons (tVar i) (tCons (tC (.ref C2)) tNil)) := pa_cons (pe_var (X := X.suite a ((a, oe) :: pn)) hN hv hd hcd) (pa_cons (pe_glob (X := X.suite a ((a, oe) :: pn)) hg2 hm2 (v := .ref C2) rfl hd2) pa_nil)
  refine pe_weak (pe_callB (X := X.suite a ((a, oe) :: pn)) (call_isX T hz hf) hg hm bt_isinstance A1) fun σ H Q' q => ?_
  obtain ⟨Z, m, ρ, μ, Q, Xd, S, q, k, kx⟩ := q
  obtain ⟨c, ks, ds, e, q⟩ := KExn_of q
  obtain ⟨a', C, dd, vs, h1, h2, h3, h4, h5, h6⟩ := S.exn i c ks ds e
  obtain ⟨rfl, rfl, rfl⟩ := exOf_some h1
  split at q
  · rename_i b hb
    exact ⟨_, h3, C, C2, dd, _, c, cn, b, rfl, rfl, rfl, vis_le _ _ h4, h2, hm2, hb, k _ _ (.now S.mu (by rw [Rep]) q)⟩
  · exact q.elim
end
end DL

set_option Elab.async false
set_option linter.all false
set_option maxRecDepth 100000
set_option maxHeartbeats 4000000
set_option autoImplicit false
namespace DL
open PySem PySem.Spec PyProof.Rows L2
/-! ### repr -/
def reprC : PyData → Prop
  | .none => True
  | .bool _ => True
  | .int i => i.natAbs.log2 < 1920
  | .str x => (reprText x).length ≤ sizeLine
  | .list xs => (PyData.list xs).showable = true ∧ (PyData.list xs).hasDict = false ∧ (PyData.list xs).depth ≤ 50 ∧ (PyData.list xs).shown.length ≤ sizeLine
  | .tuple xs => (PyData.tuple xs).showable = true ∧ (PyData.tuple xs).hasDict = false ∧ (PyData.tuple xs).depth ≤ 50 ∧ (PyData.tuple xs).shown.length ≤ sizeLine
  | _ => False
theorem call_reprD {X : Cx} (hgd : X.A.guards = some []) (hu : X.A.units + 64 < cLine) : CallR X (.builtin "repr") (fun xs H Q => ∃ v p, xs = [v] ∧ Dp X.K H v p ∧ reprC p ∧ Q (.str p.shown) H) := by
  intro pins s σ H xs us Q I r h
  obtain ⟨v, p, rfl, dp, hc, q⟩ := h
  obtain ⟨u, rfl, ru⟩ := r.one
  have box : ∀ {d : PyData} {a : Addr}, Dp X.K H (.ref a) d → d.showable = true → d.hasDict = false → d.depth ≤ 50 → d.shown.length ≤ sizeLine → Q (.str d.shown) H → wpAny (model X.prog X.w) X.A (call (.builtin "repr") [.ref a]) (EP X pins σ Q) X.xe s := fun {d a} dp h1 h2 h3 h4 q => by
    obtain ⟨as, rd⟩ := Dp.reads I d (.ref a) (.ref a) dp rfl
    exact repr_of_reads' rd h1 (fun z => absurd (h2.symm.trans z) Bool.false_ne_true) hgd (by omega) (fun _ _ e => e) (fun h' u tk k => ⟨.str _, H, I.kept k, ⟨_, rfl⟩, q⟩) h4
  cases dp with
  | non =>
    cases (show u = Value.none from ru)
    exact PySem.P.repr_of_none ⟨.str _, H, I.tok _, ⟨_, rfl⟩, q⟩
  | bl b =>
    cases (show u = Value.bool b from ru)
    exact PySem.P.repr_of_bool ⟨.str _, H, I.tok _, ⟨_, rfl⟩, q⟩
  | int i =>
    obtain ⟨t, rfl⟩ := (show ∃ t, u = Value.int i t from ru)
    exact PySem.P.repr_of_int hc ⟨.str _, H, I.tok _, ⟨_, rfl⟩, q⟩
  | str x =>
    obtain ⟨t, rfl⟩ := (show ∃ t, u = Value.str x t from ru)
    exact PySem.P.repr_of_str (hsz := hc) ⟨.str _, H, I.tok _, ⟨_, rfl⟩, q⟩
  | lst s1 s2 =>
    cases (show u = Value.ref _ from ru)
    exact box (.lst s1 s2) hc.1 hc.2.1 hc.2.2.1 hc.2.2.2 q
  | tup s1 s2 =>
    cases (show u = Value.ref _ from ru)
    exact box (.tup s1 s2) hc.1 hc.2.1 hc.2.2.1 hc.2.2.2 q
def fRepr : FN := fun xs μ Q => match xs with
  | [x] => ∃ p, toP x = some p ∧ reprC p ∧ Q (.str p.shown) μ
  | _ => False
theorem sn_repr {G : Gx} : SN G (fun xs H Q => ∃ v p, xs = [v] ∧ Dp G.K H v p ∧ reprC p ∧ Q (.str p.shown) H) fRepr := by
  intro Z m μ H xs us Q Q' M r h k
  unfold fRepr at h
  split at h
  · obtain ⟨p, h1, h2, h3⟩ := h
    obtain ⟨v, t, rfl, r1, r2⟩ := r.uncons
    rw [Reps] at r2
    subst r2
    exact ⟨v, p, rfl, dp_of vis_le _ _ _ r1 h1, h2, k _ _ (.now M (by rw [Rep]) h3)⟩
  · exact h.elim
end DL

set_option Elab.async false
set_option linter.all false
set_option maxRecDepth 100000
set_option maxHeartbeats 4000000
set_option autoImplicit false
namespace DL
open PySem PySem.Spec PyProof.Rows L2
/-! ### what the head tells of exceptions -/
def oexB (K : PySem.W.Frag) (C : Addr) : Bool := (match K.lookup C with
  | some ⟨.type "type", _, .cls cd, sl⟩ => (match cd.mro, sl.toList with
    | .ref C' :: bm, [_, _, _, _, some (.builtin n), _] => decide (C' = C) && (decide (n = "ValueError.__new__") && (cd.hasDict && (!cd.hasDel && PySem.HandSPX.refsVE bm)))
    | _, _ => false)
  | _ => false) && (He.eqO (PySem.W.findIn K (.ref C) "__setattr__") (some (some (.builtin "object.__setattr__"))) && (decide (PySem.W.subIn K (.ref C) (.type "BaseException") = some true) && (decide (PySem.W.typeIn K (.ref C) = some (.type "type")) && PySem.W.keepIn K (.ref C))))
theorem oexB_ok {K : PySem.W.Frag} {C : Addr} (h : oexB K C = true) : OexC K C := by
  obtain ⟨h1, h⟩ := He.ba h
  obtain ⟨h2, h⟩ := He.ba h
  obtain ⟨h3, h⟩ := He.ba h
  obtain ⟨h4, h5⟩ := He.ba h
  refine ⟨?_, He.eqO_ok h2, of_decide_eq_true h3, of_decide_eq_true h4, h5⟩
  split at h1
  · rename_i dd cd sl ho
    split at h1
    · rename_i C' bm k0 k1 k2 k3 n k5 em es
      obtain ⟨g1, h1⟩ := He.ba h1
      obtain ⟨g2, h1⟩ := He.ba h1
      obtain ⟨g3, h1⟩ := He.ba h1
      obtain ⟨g4, g5⟩ := He.ba h1
      have g1 := of_decide_eq_true g1
      have g2 := of_decide_eq_true g2
      rw [Bool.not_eq_true'] at g4
      obtain ⟨nm, bs, mro, ns, qn, hd, sn, sub, ab, col, dl⟩ := cd
      dsimp only at em g3 g4
      subst em g1 g2 g3 g4
      have hsl : sl = #[k0, k1, k2, k3, some (.builtin "ValueError.__new__"), k5] := by
        obtain ⟨l⟩ := sl
        simp only at es
        rw [es]
      subst hsl
      exact ⟨nm, qn, ns, bs, bm, sn, sub, ab, col, dd, k0, k1, k2, k3, k5, ho, g5⟩
    · cases h1
  · cases h1
/-- an exception class with its __init__, which stores the attributes ks -/
def rxB (K : PySem.W.Frag) (c : Str) (ks : List Str) : Bool := (He.Fa.glo c).ok K && (oexB K (He.ga K c) && (He.eqO (PySem.W.findIn K (.ref (He.ga K c)) "__init__") (some (some (.ref (He.ma K (He.ga K c) "__init__")))) &&
  (decide (PySem.W.typeIn K (.ref (He.ma K (He.ga K c) "__init__")) = some (.type "function")) && ks.all fun f => He.eqO (PySem.W.findIn K (.ref (He.ga K c)) f) (some none))))
theorem rxB_ok {K : PySem.W.Frag} {c : Str} {ks : List Str} (h : rxB K c ks = true) : OexC K (He.ga K c) ∧ PySem.W.findIn K (.ref (He.ga K c)) "__init__" = some (some (.ref (He.fAd K (c, some "__init__")))) ∧
    PySem.W.typeIn K (.ref (He.fAd K (c, some "__init__"))) = some (.type "function") ∧ ∀ f ∈ ks, PySem.W.findIn K (.ref (He.ga K c)) f = some none := by
  obtain ⟨h1, h⟩ := He.ba h
  obtain ⟨h2, h⟩ := He.ba h
  obtain ⟨h3, h⟩ := He.ba h
  obtain ⟨h4, h5⟩ := He.ba h
  exact ⟨oexB_ok h2, He.eqO_ok h3, of_decide_eq_true h4, fun f hf => He.eqO_ok (List.all_eq_true.mp h5 f hf)⟩
section
variable {K : PySem.W.Frag} {h : Heap} {mg : Str → Option Value} (X : K.In h) (G : h.Ns mainGlobals mg)
include X G
theorem rx_glo {c : Str} {ks : List Str} (b : rxB K c ks = true) : mg c = some (.ref (He.ga K c)) := He.glo_ok X G (He.ba b).1
end
/-! which exceptions a clause catches -/
def catF (L : List (Str × Bool)) (c : Str) : Option Bool := (L.find? fun e => decide (e.1 = c)).map (·.2)
def catB (K : PySem.W.Frag) (y : Str) (L : List (Str × Bool)) : Bool := (He.Fa.glo y).ok K && L.all fun e => (He.Fa.glo e.1).ok K && decide (PySem.W.exmOne K (.ref (He.ga K e.1)) (.ref (He.ga K y)) = some e.2)
theorem catF_mem {L : List (Str × Bool)} {c : Str} {b : Bool} (h : catF L c = some b) : (c, b) ∈ L := by
  unfold catF at h
  obtain ⟨z, e1, e2⟩ := Option.map_eq_some_iff.mp h
  have m := List.mem_of_find?_eq_some e1
  have p : z.1 = c := by
    have q := List.find?_some e1
    exact of_decide_eq_true q
  obtain ⟨z1, z2⟩ := z
  cases p
  cases e2
  exact m
section
variable {K : PySem.W.Frag} {h : Heap} {mg : Str → Option Value} (X : K.In h) (G : h.Ns mainGlobals mg)
include X G
theorem catchD_of {y : Str} {L : List (Str × Bool)} (c : catB K y L = true) : CatchD K mg (.ref (He.ga K y)) (catF L) ∧ mg y = some (.ref (He.ga K y)) := by
  obtain ⟨c1, c2⟩ := He.ba c
  refine ⟨fun x b hb C hC => ?_, He.glo_ok X G c1⟩
  obtain ⟨q1, q2⟩ := He.ba (List.all_eq_true.mp c2 _ (catF_mem hb))
  rw [He.glo_ok X G q1] at hC
  cases hC
  exact of_decide_eq_true q2
/-! fields, isinstance -/
omit X G in
theorem xfD_of {cs : List Str} {f : Str} (X : K.In h) (G : h.Ns mainGlobals mg) (c : (cs.all fun x => (He.Fa.glo x).ok K && (xfB K (He.ga K x) && He.eqO (PySem.W.findIn K (.ref (He.ga K x)) f) (some none))) = true) : XfD K mg cs f := by
  intro x hx C hC
  obtain ⟨q1, q⟩ := He.ba (List.all_eq_true.mp c x hx)
  obtain ⟨q2, q3⟩ := He.ba q
  rw [He.glo_ok X G q1] at hC
  cases hC
  exact ⟨xfB_ok q2, He.eqO_ok q3⟩
end
def exCB (K : PySem.W.Frag) (D : Addr) : Bool := He.eqO (PySem.W.findIn K (.ref D) "__getattribute__") (some (some (.builtin "BaseException.__getattribute__"))) && (He.eqO (PySem.W.findIn K (.ref D) "__getattr__") (some none) && (decide (PySem.W.subIn K (.ref D) (.type "BaseException") = some true) && (PySem.W.hasDictIn K D &&
  (He.eqO (PySem.W.findIn K (.ref D) "__class__") (some (some (.builtin "object.__class__"))) && (He.eqO (PySem.W.specialIn K (.builtin "object.__class__") "__get__") (some (some (.builtin "getset_descriptor.__get__"))) && (decide (PySem.W.takesIn K (.builtin "object.__class__") = some true) && decide (PySem.W.mroIn K D (.type "object") = some true)))))))
theorem exCB_ok {K : PySem.W.Frag} {D : Addr} (h : exCB K D = true) : ExcC K D := by
  obtain ⟨h1, h⟩ := He.ba h
  obtain ⟨h2, h⟩ := He.ba h
  obtain ⟨h3, h⟩ := He.ba h
  obtain ⟨h4, h⟩ := He.ba h
  obtain ⟨h5, h⟩ := He.ba h
  obtain ⟨h6, h⟩ := He.ba h
  obtain ⟨h7, h8⟩ := He.ba h
  exact ⟨He.eqO_ok h1, He.eqO_ok h2, of_decide_eq_true h3, h4, He.eqO_ok h5, He.eqO_ok h6, of_decide_eq_true h7, of_decide_eq_true h8⟩
abbrev IsxL := List ((Str × Str) × Bool)
def isxF (L : IsxL) (t u : TyN) : Option Bool := match t, u with
  | .c a, .c b => (L.find? fun e => decide (e.1 = (a, b))).map (·.2)
  | _, _ => none
def isxB (K : PySem.W.Frag) (L : IsxL) : Bool := L.all fun e => (He.Fa.glo e.1.1).ok K && ((He.Fa.glo e.1.2).ok K && (exCB K (He.ga K e.1.1) && decide (PySem.W.kitOne K (.ref (He.ga K e.1.1)) (.ref (He.ga K e.1.2)) = some e.2)))
theorem isxTab_of {K : PySem.W.Frag} {h : Heap} {mg : Str → Option Value} (X : K.In h) (G : h.Ns mainGlobals mg) {L : IsxL} (c : isxB K L = true) : IsxTab K mg (isxF L) := by
  refine ⟨fun a u b e C U hC hU => ?_⟩
  have e' : (L.find? fun e => decide (e.1 = (a, u))).map (·.2) = some b := e
  obtain ⟨z, e1, e2⟩ := Option.map_eq_some_iff.mp e'
  have m := List.mem_of_find?_eq_some e1
  have p : z.1 = (a, u) := by
    have q := List.find?_some e1
    exact of_decide_eq_true q
  obtain ⟨z1, z2⟩ := z
  cases p
  cases e2
  obtain ⟨q1, q⟩ := He.ba (List.all_eq_true.mp c _ m)
  obtain ⟨q2, q⟩ := He.ba q
  obtain ⟨q3, q4⟩ := He.ba q
  rw [He.glo_ok X G q1] at hC
  rw [He.glo_ok X G q2] at hU
  cases hC
  cases hU
  exact ⟨exCB_ok q3, of_decide_eq_true q4⟩
end DL

set_option Elab.async false
set_option linter.all false
set_option maxRecDepth 100000
set_option maxHeartbeats 4000000
set_option autoImplicit false
namespace DL
open PySem PySem.Spec PyProof.Rows L2
/-! ### properties -/
structure PropD (P : Program) (w : World) (K : PySem.W.Frag) (mg : Str → Option Value) (base : Heap) (k : Nat) (c f : Str) (ps : List Str) (sp : DSp) : Prop where
  ex : ∃ C p g fd, mg c = some (.ref C) ∧ Cls K C ∧ PropOf K C f p g ∧ Binds K fd ps [] ∧ FnG P w K mg base k g fd ps (toSp ⟨K, mg, none⟩ sp)
def wProp (c : Str) (sp : DSp) (wa : WE) : WE := fun ρ μ Q Xd => wa ρ μ (fun x μ1 => isCls c x μ1 (sp [x] μ1 Q xF)) Xd
section
variable {ex : Option (Addr × Addr × Addr)} {W : WX} {X : Cx} {e : Expr} {wa : WE} {pos : Pos} {k j : Nat} {ps : List Str} {c f : Str} {sp : DSp} {C p g a dx : Addr} {fd : FuncData}
end
/-! from the head's facts -/
/-! ### the Hook: defs at any address, and one Bool more -/
abbrev AlY : Type := He.AlD × Bool
structure SaysY (fa : List He.Fa) (fn : List He5.DefA) (ex : PySem.W.Frag → Bool) (K : PySem.W.Frag) : Prop where
  d : He5.SaysA fa fn K
  more : ex K = true
/-! a module's int -/
theorem de_gintE {ex : Option (Addr × Addr × Addr)} {W : WX} {X : Cx} {x : Str} {i : Int} {pos : Pos} (hg : Gl X x) (hm : ∃ t, X.mg x = some (.int i t)) (hd : (x == ("__debug__" : Str)) = false := by decide) : DE ex W X (.Name x pos) (wC (.int i)) := by
  obtain ⟨t, hm⟩ := hm
  exact de_gint hg hm hd
end DL

set_option Elab.async false
set_option linter.all false
set_option maxRecDepth 100000
set_option maxHeartbeats 4000000
set_option autoImplicit false
namespace DL
open PySem PySem.Spec PyProof.Rows L2
/-! ### == of scalars or of data -/
def atomV : D → Option V
  | .non => some .non
  | .bl b => some (.bl b)
  | .int i => some (.int i)
  | .str s => some (.str s)
  | _ => none
theorem atom_rep {G : Gx} {m : List Addr} {E : Hp} {x : D} {u v : V} (r : Rep G m E x u) (h : atomV x = some v) : u = v := by
  cases x <;> first | (rw [Rep] at r; cases h; exact r) | cases h
def eqU (x y : D) (k : Bool → Prop) : Prop := (∃ u v, atomV x = some u ∧ atomV y = some v ∧ scal u v = true ∧ k (decide (u = v))) ∨ eqD x y k
def fEqU : F2 := fun x y μ Q => eqU x y fun b => Q (.bl b) μ
def fNeU : F2 := fun x y μ Q => eqU x y fun b => Q (.bl (!b)) μ
theorem s2_eqU {G : Gx} : S2 G (fun x y H Q => rEq x y H Q ∨ rEqD G.K x y H Q) fEqU := by
  intro Z m μ H x y u v Q Q' M rx ry h k
  rcases h with ⟨u', v', e1, e2, hs, q⟩ | h
  · cases atom_rep rx e1
    cases atom_rep ry e2
    exact .inl ⟨hs, k _ _ (.now M (by rw [Rep]) q)⟩
  · exact .inr (s2_eqD Z m μ H x y u v Q Q' M rx ry h k)
theorem s2_neU {G : Gx} : S2 G (fun x y H Q => rNe x y H Q ∨ rNeD G.K x y H Q) fNeU := by
  intro Z m μ H x y u v Q Q' M rx ry h k
  rcases h with ⟨u', v', e1, e2, hs, q⟩ | h
  · cases atom_rep rx e1
    cases atom_rep ry e2
    exact .inl ⟨hs, k _ _ (.now M (by rw [Rep]) q)⟩
  · exact .inr (s2_neD Z m μ H x y u v Q Q' M rx ry h k)
theorem op_eqU {X : Cx} (hu : X.A.units + 64 < cLine) : OpR X (compareOp .Eq) (fun x y H Q => rEq x y H Q ∨ rEqD X.K x y H Q) := op_eq.or (op_eqD hu)
theorem op_neU {X : Cx} (hu : X.A.units + 64 < cLine) : OpR X (compareOp .NotEq) (fun x y H Q => rNe x y H Q ∨ rNeD X.K x y H Q) := op_ne.or (op_neD hu)
end DL

set_option Elab.async false
set_option linter.all false
set_option maxRecDepth 100000
set_option maxHeartbeats 4000000
set_option autoImplicit false
namespace DL
open PySem PySem.Spec PyProof.Rows L2
/-! ### sum, max, min, sorted of ints; any, all of truths -/
def lstInts (x : D) (k : List Int → Prop) : Prop := lstOr x fun ds => ∃ ns, intsD ds = some ns ∧ k ns
def boolD : D → Option Bool
  | .bl b => some b
  | _ => none
def boolsD : List D → Option (List Bool)
  | [] => some []
  | d :: ds => match boolD d, boolsD ds with
    | some i, some ns => some (i :: ns)
    | _, _ => none
theorem boolD_of {d : D} {b : Bool} (h : boolD d = some b) : d = .bl b := by
  cases d <;> first | (cases h; done) | (cases h; rfl)
theorem bools_rep {G : Gx} {m : List Addr} {E : Hp} : ∀ {ds : List D} {vs : List V} {bs : List Bool}, Reps G m E ds vs → boolsD ds = some bs → vs = bs.map V.bl
  | [], vs, ns, r, e => by rw [Reps] at r; rw [boolsD] at e; cases e; exact r
  | d :: ds, vs, ns, r, e => by
    obtain ⟨v, t, rfl, r1, r2⟩ := r.uncons
    rw [boolsD] at e
    split at e
    · rename_i i ms h1 h2
      cases e
      have e1 := boolD_of h1
      subst e1
      rw [Rep] at r1
      subst r1
      rw [bools_rep r2 h2]
      rfl
    · cases e
def lstBools (x : D) (k : List Bool → Prop) : Prop := lstOr x fun ds => ∃ bs, boolsD ds = some bs ∧ k bs
theorem lstInts_rep {G : Gx} {m : List Addr} {E : Hp} {d : D} {u : V} {k : List Int → Prop} (h : lstInts d k) (r : Rep G m E d u) : ∃ ns a, u = .ref a ∧ SqL G.K E a (ns.map V.int) ∧ k ns := by
  obtain ⟨ds, a, vs, e, s, rs, ns, hn, q⟩ := lstOr_rep h r
  have := ints_rep rs hn
  subst this
  exact ⟨ns, a, e, s, q⟩
theorem lstBools_rep {G : Gx} {m : List Addr} {E : Hp} {d : D} {u : V} {k : List Bool → Prop} (h : lstBools d k) (r : Rep G m E d u) : ∃ ns a, u = .ref a ∧ SqL G.K E a (ns.map V.bl) ∧ k ns := by
  obtain ⟨ds, a, vs, e, s, rs, ns, hn, q⟩ := lstOr_rep h r
  have := bools_rep rs hn
  subst this
  exact ⟨ns, a, e, s, q⟩
def fMaxL : FN := fun xs μ Q => match xs with
  | [x] => lstInts x fun ns => 0 < ns.length ∧ ∀ m, m ∈ ns → (∀ y, y ∈ ns → y ≤ m) → Q (.int m) μ
  | _ => False
def fMinL : FN := fun xs μ Q => match xs with
  | [x] => lstInts x fun ns => 0 < ns.length ∧ ∀ m, m ∈ ns → (∀ y, y ∈ ns → m ≤ y) → Q (.int m) μ
  | _ => False
def fAll : FN := fun xs μ Q => match xs with
  | [x] => lstBools x fun bs => Q (.bl (bs.all id)) μ
  | _ => False
section
variable {G : Gx}
theorem sn_maxL : SN G (rMax G.K) fMaxL := by
  intro Z m μ H xs us Q Q' M r h k
  unfold fMaxL at h
  split at h
  · obtain ⟨v, t, rfl, r1, r2⟩ := r.uncons
    rw [Reps] at r2
    subst r2
    obtain ⟨ns, a, rfl, s, hl, q⟩ := lstInts_rep h r1
    exact ⟨a, ns, rfl, Same.seq vis_le s, hl, fun z z1 z2 => k _ _ (.now M (by rw [Rep]) (q z z1 z2))⟩
  · exact h.elim
theorem sn_minL : SN G (rMin G.K) fMinL := by
  intro Z m μ H xs us Q Q' M r h k
  unfold fMinL at h
  split at h
  · obtain ⟨v, t, rfl, r1, r2⟩ := r.uncons
    rw [Reps] at r2
    subst r2
    obtain ⟨ns, a, rfl, s, hl, q⟩ := lstInts_rep h r1
    exact ⟨a, ns, rfl, Same.seq vis_le s, hl, fun z z1 z2 => k _ _ (.now M (by rw [Rep]) (q z z1 z2))⟩
  · exact h.elim
theorem sn_all : SN G (rAll G.K) fAll := by
  intro Z m μ H xs us Q Q' M r h k
  unfold fAll at h
  split at h
  · obtain ⟨v, t, rfl, r1, r2⟩ := r.uncons
    rw [Reps] at r2
    subst r2
    obtain ⟨ns, a, rfl, s, q⟩ := lstBools_rep h r1
    exact ⟨a, ns, rfl, Same.seq vis_le s, k _ _ (.now M (by rw [Rep]) q)⟩
  · exact h.elim
end
end DL

set_option Elab.async false
set_option linter.all false
set_option maxRecDepth 100000
set_option maxHeartbeats 4000000
set_option autoImplicit false
namespace DL
open PySem PySem.Spec PyProof.Rows L2


theorem runEq3 {r : PySem.W.OpenRow} {q : Program} {H : PySem.W.Hook} {ob : PySem.W.SharedT → H.α} {M : Nat} {loose : List Str} {w : World}
    (h1 : ∀ os : OsState, (HandSHeadRun.endF (HandSHeadRun.stepQ (HandSHeadRun.denQ HandSHeadRun.tabQ) r.prog w) M r.prog w os).map (fun s => HandSHeadRun.looksF r.prog (PySem.W.boot_heap w.params) s.abs) = some true)
    (h2 : ∀ os : OsState, (HandSHeadRun.endF (HandSHeadRun.stepQ (HandSHeadRun.denQ HandSHeadRun.tabQ) r.prog w) M r.prog w os).map (fun s => HandSHeadRun.seenQ q loose (importedModules r.prog.main.body) (fun s => PySem.W.xlAt q [] s && PySem.W.recOk r.toRowW.records s) s.abs) = some (PySem.W.openGood q loose))
    (h3 : ∀ os : OsState, (HandSHeadRun.endF (HandSHeadRun.stepQ (HandSHeadRun.denQ HandSHeadRun.tabQ) r.prog w) M r.prog w os).map (fun s => ob s) = some (H.val w)) : HandSHeadRun.RunEq r q H ob M loose w := by
  intro os
  have a1 := h1 os
  have a2 := h2 os
  have a3 := h3 os
  generalize HandSHeadRun.endF (HandSHeadRun.stepQ (HandSHeadRun.denQ HandSHeadRun.tabQ) r.prog w) M r.prog w os = e at a1 a2 a3 ⊢
  cases e with
  | none => cases a1
  | some s =>
    rw [Option.map_some] at a1 a2 a3 ⊢
    rw [Option.some.inj a1, Option.some.inj a2, Option.some.inj a3]
/-! ### list(x), tuple(x) -/
def fListOf : FN := fun xs μ Q => match xs with
  | [x] => match itemsD x μ with
    | some ds => Q (.lst ds) μ
    | none => False
  | _ => False
theorem sn_listOf {G : Gx} : SN G (fun xs H Q => ∃ p ys, xs = [.ref p] ∧ (SqL G.K H p ys ∨ SqT G.K H p ys) ∧ ∀ l, H l = none → Q (.ref l) (upd H l (.lst ys))) fListOf := by
  intro Z m μ H xs us Q Q' M r h k
  unfold fListOf at h
  split at h
  · split at h
    · rename_i ds e1
      obtain ⟨v, t, rfl, r1, r2⟩ := r.uncons
      rw [Reps] at r2
      subst r2
      obtain ⟨a, vs, rfl, s, q⟩ := items_rep M r1 e1
      refine ⟨a, vs, rfl, s, fun l nl => k _ _ ?_⟩
      have s4 := Step.laid (o := .lst vs) M nl
      refine ⟨m, _, μ, s4, ?_, h⟩
      rw [Rep]
      refine ⟨l, _, rfl, ?_, Reps.mono s4.pre s4.same _ _ q⟩
      rw [vis_upd M nl, upd_same]
    · exact h.elim
  · exact h.elim
def fTupOf : FN := fun xs μ Q => match xs with
  | [x] => match itemsD x μ with
    | some ds => Q (.tup ds) μ
    | none => False
  | _ => False
theorem sn_tupOf {G : Gx} : SN G (fun xs H Q => ∃ p ys, xs = [.ref p] ∧ ((SqL G.K H p ys ∧ ∀ l, H l = none → Q (.ref l) (upd H l (.tup ys))) ∨ (SqT G.K H p ys ∧ Q (.ref p) H))) fTupOf := by
  intro Z m μ H xs us Q Q' M r h k
  unfold fTupOf at h
  split at h
  · rename_i x
    split at h
    · rename_i ds e1
      obtain ⟨v, t, rfl, r1, r2⟩ := r.uncons
      rw [Reps] at r2
      subst r2
      have laid : ∀ (a : Addr) (vs : List V), v = .ref a → SqL G.K H a vs → Reps G m (vis Z m H) ds vs → ∃ p ys, [v] = [.ref p] ∧ ((SqL G.K H p ys ∧ ∀ l, H l = none → Q' (.ref l) (upd H l (.tup ys))) ∨ (SqT G.K H p ys ∧ Q' (.ref p) H)) := by
        intro a vs e s q
        subst e
        refine ⟨a, vs, rfl, .inl ⟨s, fun l nl => k _ _ ?_⟩⟩
        have s4 := Step.laid (o := .tup vs) M nl
        refine ⟨m, _, μ, s4, ?_, h⟩
        rw [Rep]
        refine ⟨l, _, rfl, .inl (.inl ?_), Reps.mono s4.pre s4.same _ _ q⟩
        rw [vis_upd M nl, upd_same]
      unfold itemsD at e1
      split at e1
      · cases e1
        have r1' := r1
        rw [Rep] at r1
        obtain ⟨a, vs, e, s, q⟩ := r1
        subst e
        exact ⟨a, vs, rfl, .inr ⟨SqT.same vis_le s, k _ _ (.now M r1' h)⟩⟩
      · cases e1
        rw [Rep] at r1
        obtain ⟨a, vs, e, s, q⟩ := r1
        exact laid a vs e (.inl (.inl (vis_le _ _ s))) q
      · cases e1
        rw [Rep] at r1
        obtain ⟨a, vs, e, s, q⟩ := r1
        exact laid a vs e (Same.seq vis_le s) q
      · split at e1
        · rename_i es e2
          cases e1
          rw [Rep] at r1
          obtain ⟨a, e, s⟩ := r1
          obtain ⟨vs, h1, h2⟩ := M.cell _ _ a e2 s
          exact laid a vs e (.inl (.inl h1)) h2
        · cases e1
      · cases e1
    · exact h.elim
  · exact h.elim
/-! ### isinstance(x, (A, B)) -/
def anyT (f : TyN → TyN → Option Bool) (t : TyN) : List D → Option Bool
  | [] => some false
  | c :: cs => match clD c with
    | some u => match f t u with
      | some true => if cs.all (fun d => (clD d).isSome) then some true else none
      | some false => anyT f t cs
      | none => none
    | none => none
def isiDT (f : TyN → TyN → Option Bool) (x : D) (cs : List D) (μ : Mu) : Option Bool := match tyD x μ with
  | some t => match cs with
    | [] => none
    | c :: r => anyT f t (c :: r)
  | none => none
def fIsiT (f : TyN → TyN → Option Bool) : FN := fun xs μ Q => match xs with
  | [x, .tup cs] => match isiDT f x cs μ with
    | some b => Q (.bl b) μ
    | none => False
  | _ => False
/-! ### a dict of one int beside an int -/
def wDictII (i j : Int) : WE := fun _ μ Q _ => Q (.opq (.dK [(.inl i, .int j)])) μ
section
variable {ex : Option (Addr × Addr × Addr)} {W : WX} {X : Cx} {pos p1 p2 : Pos} {n1 n2 : Nat} {i j : Int}
end
end DL

set_option Elab.async false
set_option linter.all false
set_option maxRecDepth 100000
set_option maxHeartbeats 4000000
set_option autoImplicit false
namespace DL
open PySem PySem.Spec PyProof.Rows L2
/-! ### comparisons and `in` by own defs -/
structure CmpFn (K : PySem.W.Frag) (C : Addr) (nm : Str) (f : Addr) : Prop where
  at_ : PySem.W.findIn K (.ref C) nm = some (some (.ref f))
  fn : PySem.W.isFn K (.ref f) = true
/-- the class has no own `__ne__` -/
structure NeFn (K : PySem.W.Frag) (C : Addr) : Prop where
  at_ : PySem.W.findIn K (.ref C) "__ne__" = some (some (.builtin "object.__ne__"))
  top : PySem.W.mroIn K C (.type "object") = some true
section
open PySem.W
variable {prog : Program} {w : World} {A : Around} {E : Value → Shared → Prop} {s : Shared} {K : Frag} {x C g : Addr} {ox : Obj} {od : Option Obj} {b tb : Value}
theorem one_bind (self : Value) : bindSpecial (.builtin "object.__ne__") self = pure (.builtin "object.__ne__", [self]) :=
  (Slot.of (T := "object") (name := "__ne__") (owner := "object") (n := "__ne__") (by rw [typeLookup_type, builtinLookup_eq_fast]; kernel_rfl) (by decide +kernel) (by decide +kernel) (by decide +kernel)
    (.inl (by decide +kernel)) (by rw [isSubtype_type]; kernel_rfl)).bind self
theorem one_plain : plainId "object.__ne__" = true := by decide +kernel
/-- x.__ne__(b) as object has it, by the own `__eq__` -/
theorem call_ne {QQ : Value → Shared → Prop} (hu : A.in1.units < cLine) (X : K.In s.heap) (I : InstAt s.heap x ox C od) (N : NeFn K C) (T : CmpFn K C "__eq__" g)
    (run : wpAny (model prog w) A.in1 (call (.ref g) [.ref x, b]) (fun r s' => ∃ k, r = .bool k ∧ QQ (.bool (!k)) s') E s) : wpAny (model prog w) A (call (.builtin "object.__ne__") [.ref x, b]) QQ E s := by
  have inst : Looks (model prog w) s.heap (isInstance (.ref x) (.type "object")) true := I.type.andThen (looks_mroIn X N.top)
  refine wpAny_call (codeAny_call_builtin one_plain F.cmpEntry_ne (@check_slot (model prog w) _ _ s "object.__ne__" "object" "__ne__" (.ref x) [b] [] _ F.cmpKind_ne F.cmpSplit_ne inst (F.cmpArgs_ne _ _) ?_))
  unfold Builtin.«object.__ne__»
  have seen : wpAny (model prog w) A.in1 (callSpecialIfBound? (.ref x) "__eq__" [b]) (fun r s' => ∃ k, r = some (.bool k) ∧ QQ (.bool (!k)) s') E s :=
    ifBound_K X I T.at_ T.fn (wpAny_mono run (fun r s' hr => by
      obtain ⟨k, rfl, q⟩ := hr
      exact ⟨k, rfl, q⟩) fun _ _ e => e)
  repeat (first
    | with_reducible refine wpAny_cRoomFor hu ?_
    | (refine wpAny_bind (m := callSpecialIfBound? (.ref x) (Str.ofString "__eq__") [b]) (wpAny_mono seen (fun r s' hr => by
        obtain ⟨k, rfl, q⟩ := hr
        repeat (first | exact q | exact wpAny_pure q | exact wpAny_truthy_bool q | (refine wpAny_bind (m := truthy (.bool _)) (wpAny_truthy_bool ?_)) | wp_step)) fun _ _ e => e))
    | wp_step)
/-- x != b by the own `__eq__` -/
theorem ne_own {QQ : Value → Shared → Prop} (hu : A.units + 1 < cLine) (X : K.In s.heap) (I : InstAt s.heap x ox C od) (hb : Looks (model prog w) s.heap (typeOf b) tb) (hn : notFirst K C tb = true) (N : NeFn K C) (T : CmpFn K C "__eq__" g)
    (run : wpAny (model prog w) A.in1 (call (.ref g) [.ref x, b]) (fun r s' => ∃ k, r = .bool k ∧ QQ (.bool (!k)) s') E s) : wpAny (model prog w) A (richCompare .NotEq (.ref x) b) QQ E s := by
  have hu' : A.in1.units < cLine := hu
  have tried : wpAny (model prog w) A (tryCompare (.ref x) "__ne__" b) (fun r s' => ∃ v, r = some v ∧ QQ v s') E s := by
    unfold tryCompare
    simp only [callSpecialIfBound?, bindSpecialIfBound?]
    have ans : wpAny (model prog w) A (call (.builtin "object.__ne__") ([.ref x] ++ [b])) (fun r s' => ∃ k, r = .bool k ∧ QQ (.bool k) s') E s :=
      call_ne (QQ := fun r s' => ∃ k, r = .bool k ∧ QQ (.bool k) s') hu' X I N T (wpAny_mono run (fun r s' hr => by
        obtain ⟨k, rfl, q⟩ := hr
        exact ⟨k, rfl, !k, rfl, q⟩) fun _ _ e => e)
    have rest : wpAny (model prog w) A (call (.builtin "object.__ne__") ([.ref x] ++ [b]) >>= fun v => pure (some v)) (fun r s' => ∃ k, r = some (.bool k) ∧ QQ (.bool k) s') E s :=
      wpAny_bind (wpAny_mono ans (fun r s' hr => by
        obtain ⟨k, rfl, q⟩ := hr
        exact wpAny_pure ⟨k, rfl, q⟩) fun _ _ e => e)
    refine wpAny_bind (wpAny_mono (Q := fun r s' => ∃ k, r = some (.bool k) ∧ QQ (.bool k) s') (E := E) ?_ (fun r s' hr => ?_) fun _ _ e => e)
    · refine wpAny_holding (wpAny_bind (wpAny_bind (wpAny_bind (I.type.here ((looks_findIn X N.at_).here ?_)))))
      refine wpAny_bind (wpAny_askSetting (wpAny_ite ?_))
      have bd : Looks (model prog w) s.heap (bindSpecial (.builtin "object.__ne__") (.ref x)) (.builtin "object.__ne__", [.ref x]) := Looks.of_pure (one_bind _)
      split
      · exact wpAny_bind (bd.here (wpAny_pure (by exact rest)))
      · exact wpAny_tryCatch (wpAny_bind (bd.here (wpAny_pure (by exact rest))))
    · obtain ⟨k, rfl, q⟩ := hr
      exact wpAny_pure ⟨_, rfl, q⟩
  unfold richCompare
  simp only [oneThing_ref]
  refine wpAny_holding (wpAny_bind (wpAny_cRoomFor (Nat.lt_of_succ_lt hu) ?_))
  refine wpAny_bind (I.type.here (wpAny_bind (hb.here ?_)))
  have fin : wpAny (model prog w) A (tryCompare (.ref x) "__ne__" b) (fun r s' => ∃ v, r = some v ∧ QQ v s') E s := tried
  split
  · rename_i q
    have e : subIn K tb (.ref C) = some false := by
      rcases Bool.or_eq_true_iff.mp hn with e | e
      · rw [beq_iff_eq.mp e] at q; simp at q
      · exact beq_iff_eq.mp e
    refine wpAny_bind ((looks_subIn X e).here ?_)
    simp only [Bool.false_eq_true, if_false]
    refine wpAny_bind (wpAny_mono fin (fun r s' z => ?_) fun _ _ e => e)
    obtain ⟨v, rfl, hq⟩ := z
    exact wpAny_pure hq
  · refine wpAny_bind (wpAny_pure ?_)
    simp only [Bool.false_eq_true, if_false]
    refine wpAny_bind (wpAny_mono fin (fun r s' z => ?_) fun _ _ e => e)
    obtain ⟨v, rfl, hq⟩ := z
    exact wpAny_pure hq
end
/-- the other operand: of a listed built-in type or class -/
def othC (Ts : List String) (Cs : List Str) (y : D) (μ : Mu) (Q : Prop) : Prop := match tyD y μ with
  | some (.b T) => T ∈ Ts ∧ Q
  | some (.c c') => c' ∈ Cs ∧ Q
  | none => False
theorem othC_of {Ts : List String} {Cs : List Str} {y : D} {μ : Mu} {Q : Prop} (h : othC Ts Cs y μ Q) : ((∃ T, tyD y μ = some (.b T) ∧ T ∈ Ts) ∨ ∃ c, tyD y μ = some (.c c) ∧ c ∈ Cs) ∧ Q := by
  unfold othC at h
  split at h
  · exact ⟨.inl ⟨_, by assumption, h.1⟩, h.2⟩
  · exact ⟨.inr ⟨_, by assumption, h.1⟩, h.2⟩
  · exact h.elim
structure CmpD (P : Program) (w : World) (K : PySem.W.Frag) (mg : Str → Option Value) (base : Heap) (k : Nat) (c nm : Str) (Ts : List String) (Cs : List Str) (ps : List Str) (sp : DSp) : Prop where
  ex : ∃ C f fd, mg c = some (.ref C) ∧ CmpFn K C nm f ∧ (∀ T ∈ Ts, PySem.W.notFirst K C (.type T) = true) ∧ (∀ c' ∈ Cs, ∀ C', mg c' = some (.ref C') → InsT K C' ∧ PySem.W.notFirst K C (.ref C') = true) ∧ Binds K fd ps [] ∧ FnG P w K mg base k f fd ps (toSp ⟨K, mg, none⟩ sp)
/-- what the operands are, by values -/
def Opd (G : Gx) (c : Str) (Ts : List String) (Cs : List Str) (x y : V) (H : Hp) : Prop := ∃ p C dx fs t, x = .ref p ∧ G.mg c = some (.ref C) ∧ H p = some (.ins C dx fs) ∧ TyX G.K H y t ∧ ((∃ T ∈ Ts, t = .type T) ∨ ∃ c' ∈ Cs, ∃ C', G.mg c' = some (.ref C') ∧ t = .ref C')
def rOwnN (G : Gx) (c : Str) (Ts : List String) (Cs : List Str) (sp : DSp) : R2 := fun x y H Q => Opd G c Ts Cs x y H ∧ ∀ E, toSp G sp [x, y] H (fun v H' => ∃ k, v = .bl k ∧ Q (.bl (!k)) H') E
def fOwn (c : Str) (Ts : List String) (Cs : List Str) (sp : DSp) : F2 := fun x y μ Q => isCls c x μ (othC Ts Cs y μ (sp [x, y] μ Q xF))
def fOwnN (c : Str) (Ts : List String) (Cs : List Str) (sp : DSp) : F2 := fun x y μ Q => isCls c x μ (othC Ts Cs y μ (sp [x, y] μ (fun d μ1 => fBool d fun b => Q (.bl (!b)) μ1) xF))
section
variable {X : Cx} {k j : Nat} {ps : List Str} {c nm : Str} {Ts : List String} {Cs : List Str} {sp : DSp}
theorem opd_of {base : Heap} {P : Program} {w : World} {G : Gx} {Z : Addr → Prop} {m : List Addr} {μ : Mu} {H : Hp} {x y : D} {u v : V} {ks : List Str} {ds : List D} (D : CmpD P w G.K G.mg base k c nm Ts Cs ps sp) (M : MuOk G Z m μ H) (rx : Rep G m (vis Z m H) x u) (ry : Rep G m (vis Z m H) y v)
    (hi : insD x μ = some (c, ks, ds)) (hty : (∃ T, tyD y μ = some (.b T) ∧ T ∈ Ts) ∨ ∃ c', tyD y μ = some (.c c') ∧ c' ∈ Cs) : Opd G c Ts Cs u v H := by
  obtain ⟨C, f, fd, g1, g2, g3, g4, g5, F⟩ := D.ex
  obtain ⟨p, C', dx, vs, rfl, g, hp, l, rs⟩ := ins_rep M rx hi
  rcases hty with ⟨T, e, hT'⟩ | ⟨c', e, hc'⟩
  · obtain ⟨tv, t1, t2⟩ := tyX_of (G := G) M ry e (fun c' z => nomatch z)
    exact ⟨p, C', dx, _, tv, rfl, g, hp, t2, .inl ⟨T, hT', t1⟩⟩
  · obtain ⟨tv, t1, t2⟩ := tyX_of (G := G) M ry e (fun c2 z C2 g2' => by
      cases z
      exact (g4 c' hc' C2 g2').1)
    exact ⟨p, C', dx, _, tv, rfl, g, hp, t2, .inr ⟨c', hc', t1⟩⟩
theorem s2_ownN {base : Heap} {P : Program} {w : World} {G : Gx} (hG : G.ex = none) (D : CmpD P w G.K G.mg base k c nm Ts Cs ps sp) : S2 G (rOwnN G c Ts Cs sp) (fOwnN c Ts Cs sp) := by
  intro Z m μ H x y u v Q Q' M rx ry h kk
  obtain ⟨ks, ds, hi, q3⟩ := isCls_of h
  obtain ⟨hty, q4⟩ := othC_of q3
  refine ⟨opd_of D M rx ry hi hty, fun E => ⟨Z, m, μ, [x, y], _, xF, M, Reps.cons rx (Reps.cons ry Reps.nil), q4, fun z H' P => ?_, fun cls d H' P => (xpF P).elim⟩⟩
  obtain ⟨m', d, μ', s1, r1, q1⟩ := P
  obtain ⟨b, rfl, q2⟩ := fBool_of q1
  rw [Rep] at r1
  exact ⟨b, r1, kk _ _ ⟨m', _, μ', s1, by rw [Rep], q2⟩⟩
theorem op_ownNe (D : CmpD X.prog X.w X.K X.mg X.base k c "__eq__" Ts Cs ps sp) (N : ∀ C, X.mg c = some (.ref C) → NeFn X.K C) (hr : Room j X.A) (hkj : k + 1 ≤ j) (hgd : X.A.guards = some []) : OpR X (compareOp .NotEq) (rOwnN (gx X none) c Ts Cs sp) := by
  intro pins s σ H x y v u Q I rx ry h
  obtain ⟨C, f, fd, g1, g2, g3, g4, g5, F⟩ := D.ex
  obtain ⟨⟨p, C', dx, fs, t, rfl, gm, hp, ty, cs⟩, q⟩ := h
  have gm' : X.mg c = some (.ref C') := gm
  rw [g1] at gm'
  cases gm'
  obtain rfl : v = Value.ref p := rx
  obtain ⟨mA, O2, _⟩ := ins_get I.hok hp
  obtain ⟨od, J, _⟩ := O2.look
  obtain ⟨PP, Z, pp, _⟩ := kit_of I ry ty
  have lk := Z.ty (model X.prog X.w) s.heap I.kIn pp
  have nf : PySem.W.notFirst X.K C t = true := by
    rcases cs with ⟨T, hT, rfl⟩ | ⟨c', hc, C2, g, rfl⟩
    · exact g3 T hT
    · exact (g4 c' hc C2 g).2
  have hr2 := hr.mono hkj
  have hl : [Value.ref p, u].length = ps.length := F.len _ _ _ _ (q fun _ _ _ => False)
  have bd := g5 s [.ref p, u] I.kIn (by simpa using hl)
  rw [List.append_nil] at bd
  refine ne_own (by have := hr.un; omega) I.kIn J lk nf (N C g1) g2 (wpAny_call (codeAny_mono (F.run X.A.in1 X.stack s H ⟨[.ref p, u], []⟩ [.ref p, u] [.ref p, y] _ (fun _ _ _ => False) hr2.in1 hgd I.env0.in1 bd (.cons rfl (.cons ry .nil)) (q _)) fun res s2 out => ?_))
  match res, out with
  | .error er, out =>
    obtain ⟨_, _, _, _, _, _, _, _, _, _, _, _, z⟩ := out
    exact z.elim
  | .ok (.ret w2), out =>
    obtain ⟨v2, H', I3, rv, b, rfl, q3⟩ := I.after out
    obtain rfl : w2 = Value.bool b := rv
    exact ⟨b, rfl, .bl (!b), H', I3, rfl, q3⟩
/-! y in x by x's own `__contains__` -/
def fHas (c : Str) (sp : DSp) : F2 := fun y x μ Q => isCls c x μ (sp [x, y] μ (fun d μ1 => fBool d fun b => Q (.bl b) μ1) xF)
def fHasN (c : Str) (sp : DSp) : F2 := fun y x μ Q => isCls c x μ (sp [x, y] μ (fun d μ1 => fBool d fun b => Q (.bl (!b)) μ1) xF)
structure HasD (P : Program) (w : World) (K : PySem.W.Frag) (mg : Str → Option Value) (base : Heap) (k : Nat) (c : Str) (ps : List Str) (sp : DSp) : Prop where
  ex : ∃ C f fd, mg c = some (.ref C) ∧ CmpFn K C "__contains__" f ∧ Binds K fd ps [] ∧ FnG P w K mg base k f fd ps (toSp ⟨K, mg, none⟩ sp)
end
/-! from the head's facts -/
def cmpB (K : PySem.W.Frag) (c nm : Str) (Ts : List String) (Cs : List Str) : Bool := (He.Fa.glo c).ok K && (He.eqO (PySem.W.findIn K (.ref (He.ga K c)) nm) (some (some (.ref (He.ma K (He.ga K c) nm)))) && (PySem.W.isFn K (.ref (He.ma K (He.ga K c) nm)) &&
  (Ts.all (fun T => PySem.W.notFirst K (He.ga K c) (.type T)) && Cs.all fun c' => (He.Fa.glo c').ok K && (insB K c' && PySem.W.notFirst K (He.ga K c) (.ref (He.ga K c'))))))
theorem cmpD_of {P : Program} {w : World} {K : PySem.W.Frag} {h : Heap} {mg : Str → Option Value} {base : Heap} {k : Nat} {c nm : Str} {Ts : List String} {Cs : List Str} {ps : List Str} {sp : DSp} {fd : FuncData} (X : K.In h) (G : h.Ns mainGlobals mg)
    (B : cmpB K c nm Ts Cs = true) (bi : Binds K fd ps []) (F : FnG P w K mg base k (He.fAd K (c, some nm)) fd ps (toSp ⟨K, mg, none⟩ sp)) : CmpD P w K mg base k c nm Ts Cs ps sp := by
  obtain ⟨h1, B⟩ := He.ba B
  obtain ⟨h2, B⟩ := He.ba B
  obtain ⟨h3, B⟩ := He.ba B
  obtain ⟨h4, h5⟩ := He.ba B
  refine ⟨_, _, fd, He.glo_ok X G h1, ⟨He.eqO_ok h2, h3⟩, fun T hT => List.all_eq_true.mp h4 T hT, fun c' hc C' g => ?_, bi, F⟩
  obtain ⟨q1, q2⟩ := He.ba (List.all_eq_true.mp h5 c' hc)
  obtain ⟨q2, q3⟩ := He.ba q2
  rw [He.glo_ok X G q1] at g
  cases g
  exact ⟨insB_ok q2, q3⟩
def neB (K : PySem.W.Frag) (c : Str) : Bool := (He.Fa.glo c).ok K && (He.eqO (PySem.W.findIn K (.ref (He.ga K c)) "__ne__") (some (some (.builtin "object.__ne__"))) && decide (PySem.W.mroIn K (He.ga K c) (.type "object") = some true))
theorem ne_of {K : PySem.W.Frag} {h : Heap} {mg : Str → Option Value} {c : Str} (X : K.In h) (G : h.Ns mainGlobals mg) (B : neB K c = true) : ∀ C, mg c = some (.ref C) → NeFn K C := by
  obtain ⟨h1, B⟩ := He.ba B
  obtain ⟨h2, h3⟩ := He.ba B
  intro C g
  rw [He.glo_ok X G h1] at g
  cases g
  exact ⟨He.eqO_ok h2, of_decide_eq_true h3⟩
end DL

set_option Elab.async false
set_option linter.all false
set_option maxRecDepth 100000
set_option maxHeartbeats 4000000
set_option autoImplicit false
namespace DL
open PySem PySem.Spec PyProof.Rows L2
/-! ### y op x, y of a built-in type, by x's own `__rop__` -/
structure RfFn (K : PySem.W.Frag) (C : Addr) (op : Operator) (f : Addr) : Prop where
  first : PySem.W.selfFirst K C = true
  at_ : ∃ g : Addr, PySem.W.findIn K (.ref C) (PySem.dunder op.info.2) = some (some (.ref g))
  back : PySem.W.findIn K (.ref C) (PySem.dunderR op.info.2) = some (some (.ref f))
  fn : PySem.W.isFn K (.ref f) = true
/-- what of the built-in type: whether it has the operator itself (l) -/
structure RfTy (K : PySem.W.Frag) (C : Addr) (op : Operator) (T : String) (l : Bool) : Prop where
  ex : ∃ fo ro, PySem.W.findIn K (.type T) (PySem.dunder op.info.2) = some fo ∧ PySem.W.findIn K (.type T) (PySem.dunderR op.info.2) = some ro ∧ ((fo.isSome && !isSeqSlot fo) || (ro.isSome && !isSeqSlot ro)) = l
  sub : PySem.W.subIn K (.ref C) (.type T) = some false
section
open PySem.W
variable {prog : Program} {w : World} {A : Around} {E : Value → Shared → Prop} {s : Shared} {K : Frag} {x C g : Addr} {ox : Obj} {od : Option Obj} {T : String}
end
section
open PySem.W
variable {prog : Program} {w : World} {A : Around} {E : Value → Shared → Prop} {s : Shared}
end
/-- y op x by x's own reflected def -/
structure BackD (P : Program) (w : World) (K : PySem.W.Frag) (mg : Str → Option Value) (base : Heap) (k : Nat) (c : Str) (op : Operator) (T : String) (l : Bool) (ps : List Str) (sp : DSp) : Prop where
  ex : ∃ C f fd, mg c = some (.ref C) ∧ RfFn K C op f ∧ RfTy K C op T l ∧ Binds K fd ps [] ∧ FnG P w K mg base k f fd ps (toSp ⟨K, mg, none⟩ sp)
def isTy (T : String) (y : D) (μ : Mu) (Q : Prop) : Prop := match tyD y μ with
  | some (.b T') => T' = T ∧ Q
  | _ => False
def wBack (c : Str) (T : String) (sp : DSp) (wa wb : WE) : WE := fun ρ μ Q Xd => wa ρ μ (fun y μ1 => wb ρ μ1 (fun x μ2 => isTy T y μ2 (isCls c x μ2 (sp [x, y] μ2 Q Xd))) Xd) Xd
section
variable {W : WX} {X : Cx} {a b : Expr} {wa wb : WE} {pos : Pos} {k j : Nat} {ps : List Str} {c : Str} {sp : DSp} {T : String} {l : Bool}
end
end DL

set_option Elab.async false
set_option linter.all false
set_option maxRecDepth 100000
set_option maxHeartbeats 4000000
set_option autoImplicit false
namespace DL
open PySem PySem.Spec PyProof.Rows L2
/-! ### C.m(), m a staticmethod -/
structure StatD (P : Program) (w : World) (K : PySem.W.Frag) (mg : Str → Option Value) (base : Heap) (k : Nat) (c m : Str) (ps : List Str) (sp : DSp) : Prop where
  ex : ∃ C p g fd, mg c = some (.ref C) ∧ PySem.W.specialIn K (.ref C) "__getattribute__" = some (some (.builtin "type.__getattribute__")) ∧ PySem.W.typeIn K (.ref C) = some (.type "type") ∧ PySem.W.readsIn K C (.type "type") = true ∧
    PySem.W.findCls K (.ref C) (.type "type") m = some (.get (.builtin "staticmethod.__get__") (.ref p) .none (.ref C)) ∧ (∃ rest, PySem.W.recIn K p "staticmethod" = some (.ref g :: rest)) ∧ PySem.W.handedIn (.ref g) = true ∧ PySem.W.keepIn K (.ref g) = true ∧
    Binds K fd ps [] ∧ FnG P w K mg base k g fd ps (toSp ⟨K, mg, none⟩ sp)
def wStat (sp : DSp) : WE := fun _ μ Q Xd => sp [] μ Q Xd
section
variable {W : WX} {X : Cx} {o : Expr} {pos apos : Pos} {k j : Nat} {ps : List Str} {c m : Str} {sp : DSp}
end
/-! ### a list of the def's own -/
section
variable {ex : Option (Addr × Addr × Addr)} {W : WX} {X : Cx} {tg e : Expr} {es : List Expr} {wa : WE} {ws : WA} {pos p0 apos cpos : Pos} {i : Nat} {x : Str}
def appO (i : Nat) (wa : WA) (E : DEnds) (ρ : DS) (μ : Mu) (o : Option Sl) : Prop := match o with
  | some (.own p (.lst ds)) => wa ρ μ (fun xs μ1 => ds.length < 1000000 ∧ ∃ d, xs = [d] ∧ E.nx (ρ.set i (.own p (.lst (ds ++ [d])))) μ1) fun c ks es μ' => E.xc c ks es ρ μ'
  | _ => False
def sAppO (i : Nat) (wa : WA) : WS := fun E ρ μ => appO i wa E ρ μ (ρ[i]?)
/-- .. a list put behind it -/
def extO (i : Nat) (wa : WA) (E : DEnds) (ρ : DS) (μ : Mu) (o : Option Sl) : Prop := match o with
  | some (.own p (.lst ds)) => wa ρ μ (fun xs μ1 => ∃ zs, xs = [.lst zs] ∧ ds.length + zs.length ≤ 1000000 ∧ E.nx (ρ.set i (.own p (.lst (ds ++ zs)))) μ1) fun c ks es μ' => E.xc c ks es ρ μ'
  | _ => False
def sExtO (i : Nat) (wa : WA) : WS := fun E ρ μ => extO i wa E ρ μ (ρ[i]?)
theorem appO_of {wa : WA} {E : DEnds} {ρ : DS} {μ : Mu} {o : Option Sl} {i : Nat} (h : appO i wa E ρ μ o) : ∃ p ds, o = some (.own p (.lst ds)) ∧ wa ρ μ (fun xs μ1 => ds.length < 1000000 ∧ ∃ d, xs = [d] ∧ E.nx (ρ.set i (.own p (.lst (ds ++ [d])))) μ1) fun c ks es μ' => E.xc c ks es ρ μ' := by
  unfold appO at h
  split at h
  · exact ⟨_, _, rfl, h⟩
  · exact h.elim
theorem lt_line {n : Nat} (h : n < 1000000) : n < sizeLine := Nat.lt_of_lt_of_le h (by decide)
theorem ds_appO (hN : X.N[i]? = some x) (ha : DA ex W X [e] ws) (hv : Vis X.env.scope x := by first | exact Or.inl rfl | exact Or.inr (Or.inl rfl) | exact Or.inr (Or.inr rfl)) (hd : (x == ("__debug__" : Str)) = false := by decide) (hcd : (x == ("__classdict__" : Str)) = false := by decide)
    (hbase : attributeBase (.Name x p0) "append" X.env (eval (.Name x p0) X.env) = eval (.Name x p0) X.env := by rfl)
    (hfew : ((backTo cpos (starEach [e] X.env)).all (fun x => !x.1) && (backToKw cpos (keywordEach [] X.env)).all (fun x => x.1.isSome)
      && decide (([e] : List Expr).length + ([] : List Keyword).length + (if ([] : List Keyword).isEmpty then 0 else 1) < 30)) = true := by rfl)
    (hline : (apos.endLine == cpos.line) = true := by rfl) (hs : starEach [e] X.env = (false, eval e X.env) :: starEach [] X.env := by rfl) (hplain : (backTo cpos (starEach [] X.env)).any (·.1) = false := by rfl)
    (hsw : swapsWith (.Call (.Attribute (.Name x p0) "append" apos) [e] [] cpos) none pos.line X.env = pure false := by rfl) :
    DSt ex W X (.Expr (.Call (.Attribute (.Name x p0) "append" apos) [e] [] cpos) pos) (sAppO i ws) :=
  ps_weak (ps_expr (pe_bm PySem.F.plainAttrs_list PySem.F.slot_list_append PySem.F.type_list_append mt_append (pe_var hN hv hd hcd) ha hbase hfew hline hs hplain) hsw) fun De σ H q => by
  obtain ⟨Z, m, ρ, μ, E, S, q, kn, kr, kb, kc, kx⟩ := q
  obtain ⟨p, ds, hi, q⟩ := appO_of q
  obtain ⟨hs, nz, vs0, hp0, rs0⟩ := S.own i p _ hi
  refine ⟨_, hs, .inl ⟨rfl, _, .inl (.inl hp0)⟩, Z, m, ρ, μ, _, _, S, q, fun xs H1 P => ?_, fun cls d H' P => kx cls d σ H' (XSPost.of S P)⟩
  obtain ⟨m1, es, μ1, s1, r1, hl, d, rfl, q1⟩ := P
  obtain ⟨v, t, rfl, r3, r2⟩ := r1.uncons
  rw [Reps] at r2
  subst r2
  have S1 := S.step s1
  obtain ⟨_, _, vs, hp, rs⟩ := S1.own i p _ hi
  refine ⟨p, vs, v, rfl, rfl, hp, by rw [← rs.len]; exact lt_line hl, ?_⟩
  obtain ⟨S2, s2⟩ := S1.putOwn (o := .lst (vs ++ [v])) (c' := .lst (ds ++ [d])) hi ⟨vs ++ [v], upd_same, Reps.append rs (Reps.cons r3 Reps.nil)⟩
  exact kn _ _ ⟨m1, _, μ1, S2, (SStep.of s1).trans s2, q1⟩
/-! read: len(x), x[j], e in x -/
def wOwnLen (i : Nat) : WE := fun ρ μ Q _ => ownL (ρ[i]?) fun ds => Q (.int ds.length) μ
def wOwnIx (i : Nat) (wb : WE) : WE := fun ρ μ Q Xd => ownL (ρ[i]?) fun ds => wb ρ μ (fun y μ1 => intOr y fun j => match atI ds j with
    | some d => Q d μ1
    | none => False) Xd
def ownIn (neg : Bool) (x : D) (ds : List D) (Q : Bool → Prop) : Prop := ∃ p qs, toP x = some p ∧ toPs ds = some qs ∧ SeqAt.shaped p = true ∧ SeqAt.shaped (.list qs) = true ∧ Q (neg ^^ qs.any fun z => PyData.eqv z p)
def wOwnIn (neg : Bool) (i : Nat) (wa : WE) : WE := fun ρ μ Q Xd => ownL (ρ[i]?) fun ds => wa ρ μ (fun x μ1 => ownIn neg x ds fun b => Q (.bl b) μ1) Xd
end
end DL

set_option Elab.async false
set_option linter.all false
set_option maxRecDepth 100000
set_option maxHeartbeats 4000000
set_option autoImplicit false
namespace DL
open PySem PySem.Spec PyProof.Rows L2
/-! ### a dict of the module whose keys are tuples of ints -/
def kdGet (L : List (List Int × Int)) (ks : List Int) : Option Int := (L.find? fun x => decide (x.1 = ks)).map (·.2)
theorem vals_ints {prog : Program} {w : World} : ∀ {ks : List Int} {us : List Value}, Vals (ks.map V.int) us → ItemsAre (intKind prog w) ks us
  | [], us, h => by cases h; exact .nil
  | k :: ks, us, h => by
    cases h with
    | cons r1 r2 =>
      obtain ⟨t, rfl⟩ := r1
      exact .cons (intKind_is prog w k t) (vals_ints r2)
def fKd (L : List (List Int × Int)) : F1 := fun y μ Q => tupOr y fun ds => ∃ ks, intsD ds = some ks ∧ ∃ v, kdGet L ks = some v ∧ Q (.int v) μ
section
variable {ex : Option (Addr × Addr × Addr)} {W : WX} {X : Cx} {b : Expr} {wb : WE} {pos p0 : Pos} {x : Str} {L : List (List Int × Int)} {d : Addr}
end
/-! ### plain data of the module -/
end DL

set_option Elab.async false
set_option linter.all false
set_option maxRecDepth 100000
set_option maxHeartbeats 4000000
set_option autoImplicit false
namespace DL
open PySem PySem.Spec PyProof.Rows L2 RZ
/-! ### zip(a tuple, a list) -/
section
variable {prog : Program} {w : World} {A : Around} {E : Value → Shared → Prop} {s : Shared} {zz pT pO u v m n : Addr} {c1 c2 : Nat} {ps qs : Array Value} {p q a0 b0 : Value}
end
/-! made -/
abbrev mx1 (h : Heap) (m : Addr) : Heap := h.push { cls := .type "tuple_iterator", data := .fields #[.ref m, .int 0 0] }
abbrev mx2 (h : Heap) (m n : Addr) : Heap := (mx1 h m).push { cls := .type "list_iterator", data := .fields #[.ref n, .int 0 0] }
abbrev mx3 (h : Heap) (m n : Addr) : Heap := (mx2 h m n).push { cls := .type "tuple", data := .seq #[.ref h.objs.size, .ref (mx1 h m).objs.size] }
abbrev mx4 (h : Heap) (m n : Addr) : Heap := (mx3 h m n).push { cls := .type "tuple", data := .seq #[.none, .none] }
abbrev mx5 (h : Heap) (m n : Addr) : Heap := (mx4 h m n).push { cls := .type "zip", data := .fields #[.none, .bool false, .bool false, .ref (mx2 h m n).objs.size, .ref (mx3 h m n).objs.size] }
section
variable {prog : Program} {w : World} {A : Around} {E : Value → Shared → Prop} {s : Shared}
end
def zipX2 (ds : List D) (Q : List D → Prop) : Prop := match ds with
  | [a, b] => match a, b with
    | .tup xs, .tup ys => Q (zipD xs ys)
    | .lst xs, .lst ys => Q (zipD xs ys)
    | .frl xs, .lst ys => Q (zipD xs ys)
    | .lst xs, .frl ys => Q (zipD xs ys)
    | .tup xs, .lst ys => Q (zipD xs ys)
    | _, _ => False
  | _ => False
def wiZipX (wa : WA) : WI := fun ρ μ Q Xd => wa ρ μ (fun ds μ1 => zipX2 ds fun es => Q es μ1) Xd
end DL

set_option Elab.async false
set_option linter.all false
set_option maxRecDepth 100000
set_option maxHeartbeats 4000000
set_option autoImplicit false
namespace DL
open PySem PySem.Spec PyProof.Rows L2 RZ
/-! ### enumerate(a tuple) -/
section
variable {prog : Program} {w : World} {A : Around} {E : Value → Shared → Prop} {s : Shared} {en it m : Addr} {i : Nat} {ps : Array Value} {p old : Value}
theorem ent_item {QQ : Value → Shared → Prop} (ke : IsEnum s.heap en it i old) (ki : s.heap.IsTupleIter it m i) (km : s.heap.IsTuple m ps) (hp : ps[i]? = some p) (ne : en ≠ it)
    (out : ∀ h', IsEnumOut h' en it ((i : Int) + 1) p s.heap.objs.size → h'.IsTupleIter it m (i + 1) → h'.get? s.heap.objs.size = some { cls := .type "tuple", data := .seq #[.int i s.toks, p] } → h'.objs.size = s.heap.objs.size + 1 →
      (∀ b o, b ≠ en → b ≠ it → s.heap.get? b = some o → h'.get? b = some o) → QQ (.ref s.heap.objs.size) { s with heap := h', toks := s.toks + 1 }) :
    wpAny (model prog w) A (Builtin.«enumerate.__next__» ⟨[.ref en], []⟩) (fun fin s' => ∃ v, fin = .done (.ret v) ∧ QQ v s') E s := by
  obtain ⟨hp0, g, d, tk, os⟩ := s
  show wpAny _ _ (field (.ref en) 2 >>= _) _ _ _
  refine wpAny_bind (wpAny_field ke rfl (x := .ref it) rfl (wpAny_bind (nextOf_tuple_item ki km hp fun g1 i1 e1 => ?_)))
  replace e1 : Heap.SameBut it hp0 g1 := e1
  have k1 : IsEnum g1 en it i old := (e1.2 en ne).trans ke
  show wpAny _ _ (field (.ref en) 3 >>= _) _ _ ⟨g1, g, d, tk, os⟩
  refine wpAny_bind (wpAny_field k1 rfl (x := rawInt i) rfl ?_)
  show wpAny _ _ (field (.ref en) 4 >>= _) _ _ ⟨g1, g, d, tk, os⟩
  refine wpAny_bind (wpAny_field k1 rfl (x := .none) rfl ?_)
  show wpAny _ _ (mkInt i >>= _) _ _ ⟨g1, g, d, tk, os⟩
  refine wpAny_bind (wpAny_mkInt ?_)
  show wpAny _ _ (setField (.ref en) 3 (rawInt ((i : Int) + 1)) >>= _) _ _ ⟨g1, g, d, tk + 1, os⟩
  refine wpAny_bind (wpAny_setField_rec k1 (by simp) fun g2 k2 e2 => ?_)
  replace e2 : Heap.SameBut en g1 g2 := e2
  replace k2 : IsEnum g2 en it ((i : Int) + 1) old := k2
  show wpAny _ _ (setField (.ref en) 4 .none >>= _) _ _ ⟨g2, g, d, tk + 1, os⟩
  refine wpAny_bind (wpAny_setField_rec k2 (by simp) fun g3 k3 e3 => ?_)
  replace e3 : Heap.SameBut en g2 g3 := e3
  replace k3 : IsEnum g3 en it ((i : Int) + 1) old := k3
  show wpAny _ _ (newTuple [.int i tk, p] >>= _) _ _ ⟨g3, g, d, tk + 1, os⟩
  refine wpAny_bind (wpAny_newTuple ?_)
  have k4 : IsEnum (g3.push { cls := .type "tuple", data := .seq #[.int i tk, p] }) en it ((i : Int) + 1) old := Heap.get?_push_of_some _ k3
  generalize eq4 : g3.push { cls := .type "tuple", data := .seq #[.int i tk, p] } = g4 at k4
  have sz3 : g3.objs.size = hp0.objs.size := by rw [e3.1, e2.1, e1.1]
  have lt : en < hp0.objs.size := Heap.lt_size ke
  have t4 : g4.get? hp0.objs.size = some { cls := .type "tuple", data := .seq #[.int i tk, p] } := by rw [← eq4, ← sz3]; exact Heap.get?_push_size _ rfl
  have sz4 : g4.objs.size = hp0.objs.size + 1 := by rw [← eq4, Heap.size_push, sz3]
  have old4 : ∀ b o, b ≠ en → b ≠ it → hp0.get? b = some o → g4.get? b = some o := fun b o c1 c2 k => by
    rw [← eq4]; exact Heap.get?_push_of_some _ (e3.extBut b o c1 (e2.extBut b o c1 (e1.extBut b o c2 k)))
  have i4 : g4.IsTupleIter it m (i + 1) := by
    rw [← eq4]; exact ((i1.extBut e2.extBut (Ne.symm ne)).extBut e3.extBut (Ne.symm ne)).at fun o k => Heap.get?_push_of_some _ k
  show wpAny _ _ (Builtin.SmallTypes.ownedTupleIsFree (.ref en) >>= _) _ _ ⟨g4, g, d, tk + 1, os⟩
  rw [sz3]
  clear eq4 k3 e3 k2 e2 k1 e1 i1 sz3 g3 g2 g1
  refine wpAny_bind ?_
  unfold Builtin.SmallTypes.ownedTupleIsFree
  refine wpAny_bind (wpAny_field k4 rfl (x := .none) rfl (wpAny_pure ?_))
  simp only [if_true]
  refine wpAny_bind (wpAny_rule (wpAny_bind (wpAny_field k4 rfl (x := old) rfl (wpAny_bind (wpAny_setField_rec k4 (by simp) fun g5 k5 e5 => ?_)))))
  replace e5 : Heap.SameBut en g4 g5 := e5
  replace k5 : IsEnum g5 en it ((i : Int) + 1) p := k5
  show wpAny _ _ (Builtin.SmallTypes.ownedTupleHandOut (.ref en) (.ref hp0.objs.size) >>= _) _ _ ⟨g5, g, d, tk + 1, os⟩
  refine wpAny_bind ?_
  unfold Builtin.SmallTypes.ownedTupleHandOut
  refine wpAny_bind (wpAny_setField_rec k5 (by simp) fun g6 k6 e6 => ?_)
  replace e6 : Heap.SameBut en g5 g6 := e6
  replace k6 : IsEnumOut g6 en it ((i : Int) + 1) p hp0.objs.size := k6
  refine wpAny_setField_rec k6 (by simp) fun g7 k7 e7 => ?_
  replace e7 : Heap.SameBut en g6 g7 := e7
  replace k7 : IsEnumOut g7 en it ((i : Int) + 1) p hp0.objs.size := k7
  refine wpAny_bind (wpAny_letGo (wpAny_pure ⟨_, rfl, out g7 k7 ?_ ?_ ?_ ?_⟩))
  · exact ((i4.extBut e5.extBut (Ne.symm ne)).extBut e6.extBut (Ne.symm ne)).extBut e7.extBut (Ne.symm ne)
  · exact e7.extBut _ _ (Nat.ne_of_gt lt) (e6.extBut _ _ (Nat.ne_of_gt lt) (e5.extBut _ _ (Nat.ne_of_gt lt) t4))
  · rw [e7.1, e6.1, e5.1, sz4]
  · exact fun b o c1 c2 k => e7.extBut b o c1 (e6.extBut b o c1 (e5.extBut b o c1 (old4 b o c1 c2 k)))
theorem ent_next {QQ : Option Value → Shared → Prop} (ke : IsEnum s.heap en it i old) (ki : s.heap.IsTupleIter it m i) (km : s.heap.IsTuple m ps) (hp : ps[i]? = some p) (ne : en ≠ it)
    (out : ∀ h', IsEnumOut h' en it ((i : Int) + 1) p s.heap.objs.size → h'.IsTupleIter it m (i + 1) → h'.get? s.heap.objs.size = some { cls := .type "tuple", data := .seq #[.int i s.toks, p] } → h'.objs.size = s.heap.objs.size + 1 →
      (∀ b o, b ≠ en → b ≠ it → s.heap.get? b = some o → h'.get? b = some o) → QQ (some (.ref s.heap.objs.size)) { s with heap := h', toks := s.toks + 1 }) : wpAny (model prog w) A (pyNext (.ref en)) QQ E s := by
  have ty : s.TypeIs (.ref en) "enumerate" := ⟨_, ke, rfl⟩
  unfold pyNext
  exact wpAny_bind (wpAny_attempt (wpAny_callSpecial?_slot (name := Str.ofString "__next__") ty F.slot_enumerate_next
    (wpAny_call_entry F.slot_enumerate_next ty F.entry_enumerate_next (ent_item ke ki km hp ne fun h' a b c d k => wpAny_pure (out h' a b c d k)) (F.args_enumerate_next_1 _))))
theorem ent_stop {QQ : Option Value → Shared → Prop} (hh : A.handled = none) (ke : IsEnum s.heap en it i old) (ki : s.heap.IsTupleIter it m i) (km : s.heap.IsTuple m ps) (hp : ps[i]? = none)
    (out : ∀ h', Heap.ExtBut it s.heap h' → QQ none { s with heap := h' }) : wpAny (model prog w) A (pyNext (.ref en)) QQ E s := by
  have ty : s.TypeIs (.ref en) "enumerate" := ⟨_, ke, rfl⟩
  unfold pyNext
  refine wpAny_bind (wpAny_attempt (wpAny_callSpecial?_slot (name := Str.ofString "__next__") ty F.slot_enumerate_next (wpAny_call_entry F.slot_enumerate_next ty F.entry_enumerate_next ?_ (F.args_enumerate_next_1 _))))
  show wpAny _ _ (field (.ref en) 2 >>= _) _ _ _
  refine wpAny_bind (wpAny_field ke rfl (x := .ref it) rfl (wpAny_bind (nextOf_tuple_end hh ki km hp fun h' x e1 he => ?_)))
  obtain ⟨o, ho, hc⟩ := he
  exact wpAny_bind (wpAny_isInstance (T := "StopIteration") (b := true) ⟨o, ho, hc⟩ isSubtype_stop (wpAny_pure (out _ e1)))
abbrev en1 (h : Heap) (m : Addr) : Heap := h.push { cls := .type "tuple_iterator", data := .fields #[.ref m, .int 0 0] }
abbrev en2 (h : Heap) (m : Addr) : Heap := (en1 h m).push { cls := .type "enumerate", data := .fields #[.none, .bool false, .ref h.objs.size, rawInt 0, .none, .none] }
theorem ent_new (m : Addr) (dd : Option Addr) (ps : Array Value) (n : Nat) (sl : Array (Option Value)) :
    Meets (Builtin.«enumerate.__new__» ⟨[.type "enumerate", .ref m], []⟩) (fun _ R s => s.heap.get? m = some ⟨.type "tuple", dd, .seq ps n, sl⟩ ∧ R (.ok (.ret (.ref (en1 s.heap m).objs.size))) { s with heap := en2 s.heap m }) :=
  .of_wp fun prog w A R s h => by
    obtain ⟨hp0, g, d, tk, os⟩ := s
    obtain ⟨hm, h⟩ := h
    have hsub := sub_enumerate
    have M1 : Heap.IsTuple (Shared.heap ⟨hp0, g, d, tk, os⟩) m ps := ⟨_, hm, rfl, n, rfl⟩
    wp_walk using wpAny_loadPart' hm
    refine wpAny_stack_any fun st => wpAny_pure ?_
    split
    · rename_i c _ _ _ _ _
      cases (c == Value.type "enumerate")
      · wp_walk using wpAny_loadPart' hm, wpAny_pyIter_tuple M1
        exact ⟨_, rfl, h⟩
      · wp_walk using wpAny_loadPart' hm, wpAny_pyIter_tuple M1
        exact ⟨_, rfl, h⟩
    · wp_walk using wpAny_loadPart' hm, wpAny_pyIter_tuple M1
      exact ⟨_, rfl, h⟩
theorem ent_call {QQ : Value → Shared → Prop} (km : s.heap.IsTuple m ps)
    (out : ∀ h', IsEnum h' (s.heap.objs.size + 1) s.heap.objs.size 0 .none → h'.IsTupleIter s.heap.objs.size m 0 → (∀ b o, s.heap.get? b = some o → h'.get? b = some o) → QQ (.ref (s.heap.objs.size + 1)) { s with heap := h' }) :
    wpAny (model prog w) A (call (.type "enumerate") [.ref m]) QQ E s := by
  obtain ⟨⟨c, dct, dt, sl⟩, hl, hc, n, hd⟩ := km
  simp only at hc hd
  subst hc hd
  refine callType_new F.called_enumerate (by decide) (F.typeCall_enumerate_1 _) (F.newCall_enumerate_1 _) (fun obj => F.args_object_init_2 obj _) F.entry_enumerate_new (ent_new m dct ps n sl) ⟨hl, ?_⟩
  have k1 : (en1 s.heap m).objs.size = s.heap.objs.size + 1 := Heap.size_push ..
  have j2 : (en2 s.heap m).get? (en1 s.heap m).objs.size = some _ := Heap.get?_push_size _ rfl
  have j1 : (en2 s.heap m).get? s.heap.objs.size = some _ := Heap.get?_push_of_some _ (Heap.get?_push_size _ rfl)
  show _ ∧ _
  rw [k1] at j2 ⊢
  exact ⟨⟨_, j2, rfl⟩, out _ j2 ⟨_, j1, rfl, rfl⟩ fun b o x => Heap.get?_push_of_some _ (Heap.get?_push_of_some _ x)⟩
end
/-- the tuple at a as it stands at each turn, each item in a new pair -/
def IteT (K : PySem.W.Frag) (a : Addr) : It :=
  ⟨fun i H => ∃ (xs : List V) (x : V), SqT K H a xs ∧ xs[i]? = some x, fun i H v H' => ∃ T x, v = .ref T ∧ H T = none ∧ H' = upd H T (.tup [.int (i : Nat), x]) ∧ ∀ xs, SqT K H a xs → xs[i]? = some x, fun i H => ∃ xs : List V, SqT K H a xs ∧ xs.length ≤ i⟩
theorem turn_ent {P : Program} {w : World} {K : PySem.W.Frag} {elts : List Expr} {kk : Nat} {tpos : Pos} (a en it : Addr) :
    Turn P w K (.Tuple elts kk tpos) (IteT K a) [en, it] en (fun i h => (∃ old, IsEnum h en it ((i : Nat) : Int) old) ∧ h.IsTupleIter it a i ∧ en ≠ it) where
  mem := by simp
  obj := fun i h st b hb => by
    obtain ⟨⟨old, he⟩, ⟨o, ho, hc, hd⟩, _⟩ := st
    have at_ : b = en ∨ b = it := by simpa using hb
    rcases at_ with rfl | rfl
    · exact ⟨_, he, fun v q => nomatch q⟩
    · exact ⟨o, ho, fun v q => by rw [hd] at q; cases q⟩
  keep := fun i h h' st k => by
    obtain ⟨⟨old, he⟩, hi, ne⟩ := st
    exact ⟨⟨old, k en (by simp) _ he⟩, hi.at fun o q => k it (by simp) o q, ne⟩
  item := by
    intro X hP hw hK hc i pins s σ H E I hf st hg
    subst hP hw hK
    obtain ⟨⟨old, ke⟩, ki, ne⟩ := st
    obtain ⟨xs, x, sx, hx⟩ := hg
    obtain ⟨its, rv, p, _⟩ := I.tuple sx
    obtain ⟨u, hu, ru⟩ := rv.get hx
    have l1 : en < s.heap.objs.size := Heap.lt_size ke
    have l2 : it < s.heap.objs.size := by obtain ⟨_, q, _⟩ := ki; exact Heap.lt_size q
    refine ent_next ke ki (show s.heap.IsTuple a its.toArray from p) (p := u) (by simpa using hu) ne fun h' ho i' hT hsz old' => ?_
    refine ⟨_, rfl, wpAny_letOwnedTupleGo_enum (s := { s with heap := h', toks := s.toks + 1 }) ho fun h2 he2 sb => ?_⟩
    have T2 : h2.get? s.heap.objs.size = some { cls := .type "tuple", data := .seq #[.int i s.toks, u] } := (sb.2 _ (Nat.ne_of_gt l1)).trans hT
    have new : ObjOk X.prog X.w (upd H s.heap.objs.size (.tup [.int (i : Nat), x])) h2 s.heap.objs.size (.tup [.int (i : Nat), x]) := ⟨by show 2 ≤ sizeLine; decide, [.int i s.toks, u], .cons ⟨_, rfl⟩ (.cons ru .nil), ⟨_, T2, rfl, _, rfl⟩⟩
    have I1 : Inv X pins σ (upd H s.heap.objs.size (.tup [.int (i : Nat), x])) { s with heap := h2, toks := s.toks + 1 } := I.turnedNew (ch := [en, it]) (fun b ob hb q => by
      have nb : ∀ d, d ∈ [en, it] → b ≠ d := fun d hd e => hb (e ▸ hd)
      exact (sb.2 b (nb _ (by simp))).trans (old' b ob (nb _ (by simp)) (nb _ (by simp)) q)) hf (Nat.le_refl _) new
    refine ⟨.ref s.heap.objs.size, _, I1, rfl, ⟨_, x, rfl, I.hok.fresh (Nat.le_refl _), rfl, fun ys hy => by rw [I.tuple_inj hy sx]; exact hx⟩, ⟨⟨u, ?_⟩, i'.at fun o q => (sb.2 it (Ne.symm ne)).trans q, ne⟩, fun b hb => ?_⟩
    · rw [show ((i + 1 : Nat) : Int) = (i : Int) + 1 by omega]
      exact he2
    · have lt : b < s.heap.objs.size := by
        have at_ : b = en ∨ b = it := by simpa using hb
        rcases at_ with rfl | rfl
        · exact l1
        · exact l2
      rw [upd_ne (Nat.ne_of_lt lt)]
      exact (hf b hb).1
  done := by
    intro X hP hw hK hc i pins s σ H E I hf st hg
    subst hP hw hK
    obtain ⟨⟨old, ke⟩, ki, ne⟩ := st
    obtain ⟨xs, sx, hx⟩ := hg
    obtain ⟨its, rv, p, _⟩ := I.tuple sx
    obtain ⟨f0, f1, f2, f3, f4, f5⟩ := hf it (by simp)
    have hl := rv.length
    exact ent_stop (I.ok.hd hc) ke ki (show s.heap.IsTuple a its.toArray from p) (by simp; omega) fun h' eb => ⟨rfl, I.turned (t' := s.toks) (fun b o hb q => eb b o hb q) f0 f1 f3 f4 f5⟩
  self := fun A i s Q E st h => by
    obtain ⟨⟨_, he⟩, _⟩ := st
    exact wpAny_pyIter_enum he h
/-- enumerate of a list or a tuple -/
def iEnumX (K : PySem.W.Frag) (ta : TA) : TI := fun σ H R => ta σ H fun vs H1 => ∃ a xs, vs = [.ref a] ∧ ((SqL K H1 a xs ∧ R (Ite K a) H1) ∨ (SqT K H1 a xs ∧ R (IteT K a) H1))
theorem pi_enumX {X : Cx} {e : Expr} {ta : TA} {p pos tpos : Pos} {elts : List Expr} {kk : Nat} (hg : Gl X "enumerate") (hm : X.mg "enumerate" = none) (ha : PA X [e] ta) (hs : starEach [e] X.env = [(false, eval e X.env)] := by rfl) :
    PI X (.Tuple elts kk tpos) (.Call (.Name "enumerate" p) [e] [] pos) (iEnumX X.K ta) := by
  refine ⟨fun pins s σ H R I h => ?_⟩
  refine Call_ (ld_blt I hg hm boot_enumerate (PyProof.Rows.callWith_type1 (thn (ha.run pos pins s σ H _ I h) fun us s1 got => ?_) hs rfl))
  obtain ⟨vs, H1, I1, r1, a, xs, rfl, cs⟩ := got
  obtain ⟨u, rfl, r⟩ := r1.one
  obtain rfl : u = Value.ref a := r
  have fresh2 : ∀ b, b ∈ [s1.heap.objs.size + 1, s1.heap.objs.size] → FpOk X pins H1 b := fun b hb => by
    have hle : s1.heap.objs.size ≤ b := by
      simp only [List.mem_cons, List.not_mem_nil, or_false] at hb
      rcases hb with z | z <;> omega
    exact I1.fpOk hle (I1.hok.fresh hle)
  rcases cs with ⟨sx, q⟩ | ⟨sx, q⟩
  · obtain ⟨its, rv, p', hz⟩ := I1.list sx
    exact call_enumerate_list p'.isList fun h' he hit hsz hk => wpAny_pyIter_enum he ⟨s1.heap.objs.size + 1, [s1.heap.objs.size + 1, s1.heap.objs.size], _, _, H1, rfl, I1.kept (t' := s1.toks) hk, turn_enum a (s1.heap.objs.size + 1) s1.heap.objs.size, ⟨⟨.none, he⟩, hit, Nat.succ_ne_self _⟩, fresh2, q⟩
  · obtain ⟨its, rv, p', hz⟩ := I1.tuple sx
    exact ent_call (show s1.heap.IsTuple a its.toArray from p') fun h' he hit hk => wpAny_pyIter_enum he ⟨s1.heap.objs.size + 1, [s1.heap.objs.size + 1, s1.heap.objs.size], _, _, H1, rfl, I1.kept (t' := s1.toks) hk, turn_ent a (s1.heap.objs.size + 1) s1.heap.objs.size, ⟨⟨.none, he⟩, hit, Nat.succ_ne_self _⟩, fresh2, q⟩
theorem itok_ent {G : Gx} {m : List Addr} {E : Hp} {a : Addr} {vs : List V} {ds : List D} (s : SqT G.K E a vs) (r : Reps G m E ds vs) : ItOk G (IteT G.K a) m E (enumD ds) := by
  have hl : (enumD ds).length = ds.length := by simp [enumD]
  refine ⟨fun i H hi hs => ?_, fun H hs => ⟨vs, SqT.same hs s, by rw [hl, r.len]; exact Nat.le_refl _⟩, fun i H x H3 hi hs y => ?_⟩
  · rw [hl] at hi
    obtain ⟨v, e, _⟩ := r.get (List.getElem?_eq_getElem hi)
    exact ⟨vs, v, SqT.same hs s, e⟩
  · obtain ⟨T, x', e, nT, eH, y⟩ := y
    obtain ⟨d, ed, rd⟩ := r.get' (y vs (SqT.same hs s))
    refine ⟨.tup [.int (i : Nat), d], by simp only [enumD, List.getElem?_mapIdx, ed, Option.map_some], .inr ⟨T, _, nT, eH, fun m' E' hp hE eT => ?_⟩⟩
    rw [Rep]
    exact ⟨T, _, e, .inl (.inl eT), Reps.cons (by rw [Rep]) (Reps.cons (Rep.mono hp hE _ _ rd) Reps.nil)⟩
def enX (ds : List D) (Q : List D → Prop) : Prop := match ds with
  | [.lst es] => Q (enumD es)
  | [.frl es] => Q (enumD es)
  | [.tup es] => Q (enumD es)
  | _ => False
theorem enX_of {ds : List D} {Q : List D → Prop} (h : enX ds Q) : ∃ d es, ds = [d] ∧ ((d = .lst es ∨ d = .frl es) ∨ d = .tup es) ∧ Q (enumD es) := by
  unfold enX at h
  split at h
  · exact ⟨_, _, rfl, .inl (.inl rfl), h⟩
  · exact ⟨_, _, rfl, .inl (.inr rfl), h⟩
  · exact ⟨_, _, rfl, .inr rfl, h⟩
  · exact h.elim
def wiEnumX (wa : WA) : WI := fun ρ μ Q Xd => wa ρ μ (fun ds μ1 => enX ds fun es => Q es μ1) Xd
theorem di_enumX {ex : Option (Addr × Addr × Addr)} {W : WX} {X : Cx} {e : Expr} {elts : List Expr} {kk : Nat} {tpos p pos : Pos} {ws : WA} (hg : Gl X "enumerate") (hm : X.mg "enumerate" = none) (ha : DA ex W X [e] ws) (hs : starEach [e] X.env = [(false, eval e X.env)] := by rfl) :
    DI ex W X (.Tuple elts kk tpos) (.Call (.Name "enumerate" p) [e] [] pos) (wiEnumX ws) := pi_weak (pi_enumX hg hm ha hs) fun σ H R q => by
  obtain ⟨Z, m, ρ, μ, Q, Xd, S, q, k, kx⟩ := q
  refine ⟨Z, m, ρ, μ, _, Xd, S, q, fun vs H1 P => ?_, kx⟩
  obtain ⟨m1, ds, μ1, s1, r1, q1⟩ := P
  obtain ⟨d, es, rfl, h, q2⟩ := enX_of q1
  obtain ⟨v, t, rfl, r2, r3⟩ := r1.uncons
  rw [Reps] at r3
  subst r3
  rcases h with h | rfl
  · obtain ⟨a, va, rfl, sa, ra⟩ := lst_rep' h r2
    exact ⟨a, va, rfl, .inl ⟨Same.seq vis_le sa, k _ _ ⟨m1, _, μ1, s1, itok_enum (G := gx X ex) sa ra, q2⟩⟩⟩
  · rw [Rep] at r2
    obtain ⟨a, va, rfl, sa, ra⟩ := r2
    exact ⟨a, va, rfl, .inr ⟨SqT.same vis_le sa, k _ _ ⟨m1, _, μ1, s1, itok_ent (G := gx X ex) sa ra, q2⟩⟩⟩
end DL

set_option Elab.async false
set_option linter.all false
set_option maxRecDepth 100000
set_option maxHeartbeats 4000000
set_option autoImplicit false
namespace DL
open PySem PySem.Spec PyProof.Rows L2
/-! ### sum of a list or a tuple of ints -/
section
variable {prog : Program} {w : World} {A : Around} {E : Value → Shared → Prop} {s : Shared} {l : Addr}
end
def fSumX : FN := fun xs μ Q => match xs with
  | [.tup ds] => ∃ ns, intsD ds = some ns ∧ Q (.int ns.sum) μ
  | [x] => lstInts x fun ns => Q (.int ns.sum) μ
  | _ => False
end DL

set_option Elab.async false
set_option linter.all false
set_option maxRecDepth 100000
set_option maxHeartbeats 4000000
set_option autoImplicit false
namespace DL
open PySem PySem.Spec PyProof.Rows L2
/-! ### f(e) in an except suite: a def that gets the caught exception -/
abbrev XSp := Str → List Str → List D → Mu → (D → Mu → Prop) → Prop
def startX (N : List Str) (c : Str) (ks : List Str) (es : List D) : DS := (List.replicate N.length Sl.no).set 0 (.exn c ks es)
def toSpX (K : PySem.W.Frag) (mg : Str → Option Value) (a : Addr) (cls : Value) (d : Option Addr) (sp : XSp) (H : Hp) (Q : VK) : Prop :=
  ∃ (Z : Addr → Prop) (m : List Addr) (μ : Mu) (c : Str) (ks : List Str) (es : List D) (C dd : Addr) (vs : List V) (Qd : D → Mu → Prop), MuOk ⟨K, mg, none⟩ Z m μ H ∧ exOf a cls d = some (a, C, dd) ∧ mg c = some (.ref C) ∧ vis Z m H dd = some (.xd (ks.zip vs)) ∧ ks.length = es.length ∧
    Reps ⟨K, mg, none⟩ m (vis Z m H) es vs ∧ sp c ks es μ Qd ∧ ∀ v H', VPost ⟨K, mg, none⟩ Z m H Qd v H' → Q v H'
structure FnX (P : Program) (wd : World) (K : PySem.W.Frag) (mg : Str → Option Value) (bs : Heap) (k : Nat) (f : Addr) (fd : FuncData) (ps : List Str) (sp : XSp) : Prop where
  one : ps.length = 1
  run : ∀ (A : Around) (fr : List Env) (s : Shared) (H : Hp) (args : Args) (a : Addr) (oe : Obj) (cls : Value) (d : Option Addr) (Q : VK), L2H.RoomH k A → A.guards = some [] → A.handled = some (.ref a) → L2H.PinOk fr H s (a, oe) → Zc cls d oe → (∃ vs, oe.data = .fields vs) →
    Env0 P wd K mg bs A fr s H → BindsTo s fd args (ps.zip [.ref a]) → toSpX K mg a cls d sp H Q → codeAny (model P wd) A (.call (.ref f) args) (CR (L2.CX P wd) fr P wd H s Q (fun _ _ _ => False)) s
section
variable {P : Program} {w : World} {K : PySem.W.Frag} {mg : Str → Option Value} {base : Heap}
structure HotD (P : Program) (w : World) (K : PySem.W.Frag) (mg : Str → Option Value) (base : Heap) (k : Nat) (x : Str) (ps : List Str) (sp : XSp) : Prop where
  ex : ∃ f fd, mg x = some (.ref f) ∧ PySem.W.keepIn K (.ref f) = true ∧ Binds K fd ps [] ∧ FnX P w K mg base k f fd ps sp
end
def wHotX (sp : XSp) (i : Nat) : WE := fun ρ μ Q _ => KExn (ρ[i]?) fun c ks es => sp c ks es μ Q
section
variable {X : Cx} {a : Addr} {oe : Obj} {cls : Value} {d : Option Addr} {pn : List (Addr × Obj)} {pos p1 p2 : Pos} {x y : Str} {i j k : Nat} {ps : List Str} {sp : XSp}
end
end DL

set_option Elab.async false
set_option linter.all false
set_option maxRecDepth 100000
set_option maxHeartbeats 4000000
set_option autoImplicit false
namespace DL
open PySem PySem.Spec PyProof.Rows L2
/-! ### xs.index(x), xs.count(x) of data; xs[::-1] -/
def isL (x : D) (k : Prop) : Prop := match x with
  | .lst _ => k
  | .frl _ => k
  | _ => False
theorem isL_of {x : D} {k : Prop} (h : isL x k) : (∃ ds, x = .lst ds ∨ x = .frl ds) ∧ k := by
  unfold isL at h
  split at h
  · exact ⟨⟨_, .inl rfl⟩, h⟩
  · exact ⟨⟨_, .inr rfl⟩, h⟩
  · exact h.elim
def wMb (f : F2) (wo wa : WE) : WE := fun ρ μ Q Xd => wo ρ μ (fun x μ1 => isL x (wa ρ μ1 (fun y μ2 => f x y μ2 Q) Xd)) Xd
def fIdx : F2 := fun x y μ Q => ∃ p qs, toP y = some p ∧ toP x = some (.list qs) ∧ SeqAt.shaped p = true ∧ SeqAt.shaped (.list qs) = true ∧ ∃ (j : Nat) (z : PyData), qs[j]? = some z ∧ PyData.eqv z p = true ∧ (∀ (m : Nat) (z' : PyData), m < j → qs[m]? = some z' → PyData.eqv z' p = false) ∧ Q (.int (j : Nat)) μ
theorem dp_ref {K : PySem.W.Frag} {H : Hp} {u : V} {qs : List PyData} (h : Dp K H u (.list qs)) : ∃ a, u = .ref a := by
  cases h with
  | lst s1 s2 => exact ⟨_, rfl⟩
theorem s2_idx {G : Gx} : S2 G (fun x y H Q => rIndexD G.K x [y] H Q) fIdx := by
  intro Z m μ H x y u v Q Q' M rx ry h k
  obtain ⟨p, qs, e1, e2, s1, s2, j, z, h1, h2, h3, h⟩ := h
  have d := dp_of vis_le _ _ _ rx e2
  obtain ⟨a, rfl⟩ := dp_ref d
  exact ⟨a, v, p, qs, j, z, rfl, rfl, d, dp_of vis_le _ _ _ ry e1, s2, s1, h1, h2, h3, k _ _ (.now M (by rw [Rep]) h)⟩
section
variable {ex : Option (Addr × Addr × Addr)} {W : WX} {X : Cx} {e o : Expr} {wa wo : WE} {pos apos : Pos} {id : String} {name : Str} {r : V → List V → Hp → VK → Prop} {f : F2}
theorem de_mb (slot : Slot "list" name id) (hty : typeOf (.builtin id) = pure (.type "method_descriptor")) (hm : MtR X id r) (hf : S2 (gx X ex) (fun x y H Q => r x [y] H Q) f) (ho : DE ex W X o wo) (ha : DE ex W X e wa)
    (hbase : attributeBase o name X.env (eval o X.env) = eval o X.env := by rfl)
    (hfew : ((backTo pos (starEach [e] X.env)).all (fun x => !x.1) && (backToKw pos (keywordEach [] X.env)).all (fun x => x.1.isSome)
      && decide (([e] : List Expr).length + ([] : List Keyword).length + (if ([] : List Keyword).isEmpty then 0 else 1) < 30)) = true := by rfl)
    (hline : (apos.endLine == pos.line) = true := by rfl) (hs : starEach [e] X.env = (false, eval e X.env) :: starEach [] X.env := by rfl) (hplain : (backTo pos (starEach [] X.env)).any (·.1) = false := by rfl) :
    DE ex W X (.Call (.Attribute o name apos) [e] [] pos) (wMb f wo wa) :=
  pe_weak (pe_bm PySem.F.plainAttrs_list slot hty hm ho (pa_cons ha pa_nil hs) hbase hfew hline hs hplain) fun σ H Q' q => by
  refine lift_bind (f := fun x ρ μ1 Q Xd => isL x (wa ρ μ1 (fun y μ2 => f x y μ2 Q) Xd)) q fun Z m ρ μ Q Xd x v H1 S r1 q1 k kx => ?_
  obtain ⟨⟨ds, hd⟩, q2⟩ := isL_of q1
  obtain ⟨a, vs, rfl, sq, rs⟩ := lst_rep' hd r1
  refine ⟨.inl ⟨rfl, vs, SqL.same' vis_le sq⟩, Z, m, ρ, μ, _, Xd, S, q2, fun u H2 P => ?_, kx⟩
  obtain ⟨m2, y, μ2, s2, r2, q3⟩ := P
  exact hf _ m2 μ2 H2 x y (.ref a) u Q Q' s2.mu (Rep.mono s2.pre s2.same _ _ r1) r2 q3 fun z H' P => k z H' (VPost.from s2 P)
theorem de_idx (hu : X.A.units + 65 < cLine) (ho : DE ex W X o wo) (ha : DE ex W X e wa)
    (hbase : attributeBase o "index" X.env (eval o X.env) = eval o X.env := by rfl)
    (hfew : ((backTo pos (starEach [e] X.env)).all (fun x => !x.1) && (backToKw pos (keywordEach [] X.env)).all (fun x => x.1.isSome)
      && decide (([e] : List Expr).length + ([] : List Keyword).length + (if ([] : List Keyword).isEmpty then 0 else 1) < 30)) = true := by rfl)
    (hline : (apos.endLine == pos.line) = true := by rfl) (hs : starEach [e] X.env = (false, eval e X.env) :: starEach [] X.env := by rfl) (hplain : (backTo pos (starEach [] X.env)).any (·.1) = false := by rfl) :
    DE ex W X (.Call (.Attribute o "index" apos) [e] [] pos) (wMb fIdx wo wa) := de_mb PySem.F.slot_list_index PySem.F.type_list_index (mt_indexD hu) s2_idx ho ha hbase hfew hline hs hplain
/-! xs[::-1] -/
def fRev : F1 := fun x μ Q => lstOr x fun ds => Q (.lst ds.reverse) μ
end
end DL

set_option Elab.async false
set_option linter.all false
set_option maxRecDepth 100000
set_option maxHeartbeats 4000000
set_option autoImplicit false
namespace DL
open PySem PySem.Spec PyProof.Rows L2
/-! ### ==, != of lists whose items have an own `__eq__`, all alike -/
section
variable {prog : Program} {w : World} {A : Around} {R : Result → Shared → Prop}
end
def prsO (c : Str) (sp : DSp) (μ : Mu) (ds es : List D) : Prop := ds.length = es.length ∧ ∀ (i : Nat) d e, ds[i]? = some d → es[i]? = some e → isCls c d μ (isCls c e μ (sp [d, e] μ (fun r μ' => r = .bl true ∧ μ' = μ) xF))
section
variable {X : Cx} {k j : Nat} {ps : List Str} {c : Str} {Ts : List String} {Cs : List Str} {sp : DSp} {r : Bool}
end
end DL

set_option Elab.async false
set_option linter.all false
set_option maxRecDepth 100000
set_option maxHeartbeats 4000000
set_option autoImplicit false
namespace DL
open PySem PySem.Spec PyProof.Rows L2
/-! ### o.m(..) where o is of one of two classes, each with its own m -/
def wMethU (c1 c2 m : Str) (sp1 sp2 : DSp) (wo : WE) (wa : WA) : WE := fun ρ μ Q Xd => wo ρ μ (fun x μ1 => hasCls c1 m x μ1 (wa ρ μ1 (fun ds μ2 => sp1 (x :: ds) μ2 Q Xd) Xd) ∨ hasCls c2 m x μ1 (wa ρ μ1 (fun ds μ2 => sp2 (x :: ds) μ2 Q Xd) Xd)) Xd
section
variable {W : WX} {X : Cx} {e o : Expr} {es : List Expr} {wo : WE} {ws : WA} {pos p apos : Pos} {k1 k2 j : Nat} {ps1 ps2 : List Str} {c1 c2 m : Str} {sp1 sp2 : DSp}
end
end DL

set_option Elab.async false
set_option linter.all false
set_option maxRecDepth 100000
set_option maxHeartbeats 4000000
set_option autoImplicit false
namespace DL
open PySem PySem.Spec PyProof.Rows L2
/-! ### own special methods, of one class or of several with one def: o[i], ~o, o(x), len(o) -/
structure SpcD (P : Program) (w : World) (K : PySem.W.Frag) (mg : Str → Option Value) (base : Heap) (k : Nat) (cs : List Str) (nm : Str) (ps : List Str) (sp : DSp) : Prop where
  ex : ∃ f fd, PySem.W.isFn K (.ref f) = true ∧ PySem.W.fnIn K f = true ∧ (∀ c ∈ cs, ∃ C, mg c = some (.ref C) ∧ PySem.W.findIn K (.ref C) nm = some (some (.ref f)) ∧ PySem.W.noSeq K C = true) ∧ Binds K fd ps [] ∧ FnG P w K mg base k f fd ps (toSp ⟨K, mg, none⟩ sp)
def isClsU (cs : List Str) (d : D) (μ : Mu) (Q : Prop) : Prop := match insD d μ with
  | some (c', _, _) => c' ∈ cs ∧ Q
  | none => False
section
variable {W : WX} {X : Cx} {k : Nat} {f : Addr} {fd : FuncData} {ps : List Str} {sp0 : Sp}
end
section
variable {W : WX} {X : Cx} {k : Nat} {f : Addr} {fd : FuncData} {ps : List Str} {sp0 : Sp}
end
section
variable {W : WX} {X : Cx} {a b : Expr} {wa wb : WE} {ws : WA} {pos p apos : Pos} {k j : Nat} {ps cs : List Str} {nm : Str} {sp : DSp}
/-- o[i] -/
def wIxO (cs : List Str) (sp : DSp) (wa wb : WE) : WE := fun ρ μ Q Xd => wa ρ μ (fun x μ1 => wb ρ μ1 (fun i μ2 => isClsU cs x μ2 (sp [x, i] μ2 Q Xd)) Xd) Xd
/-- ~o -/
def wInv (cs : List Str) (sp : DSp) (wa : WE) : WE := fun ρ μ Q Xd => wa ρ μ (fun x μ1 => isClsU cs x μ1 (sp [x] μ1 Q Xd)) Xd
/-- o(x, ..) -/
def wCallO (cs : List Str) (sp : DSp) (wo : WE) (wa : WA) : WE := fun ρ μ Q Xd => wo ρ μ (fun x μ1 => isClsU cs x μ1 (wa ρ μ1 (fun ds μ2 => isClsU cs x μ2 (sp (x :: ds) μ2 Q Xd)) Xd)) Xd
/-- len(o) -/
def fLenO (cs : List Str) (sp : DSp) : FN := fun xs μ Q => match xs with
  | [x] => isClsU cs x μ (sp [x] μ (fun d μ1 => match d with
    | .int n => 0 ≤ n ∧ n < 2 ^ 62 ∧ Q (.int n) μ1
    | _ => False) xF)
  | _ => False
end
/-! from the head's facts -/
end DL

set_option Elab.async false
set_option linter.all false
set_option maxRecDepth 100000
set_option maxHeartbeats 4000000
set_option autoImplicit false
namespace DL
open PySem PySem.Spec PyProof.Rows L2
/-! ### a comprehension's list, kept as the def's own -/
noncomputable def without (H : Hp) (D : Addr) : Hp := fun b => open Classical in if b = D then none else H b
def sSetLcO (i : Nat) (w : WE) : WS := fun E ρ μ => w ρ μ (fun d μ1 => ∃ acc, d = .lst acc ∧ i < ρ.length ∧ ∀ p, E.nx (ρ.set i (.own p (.lst acc))) μ1) fun c ks es μ' => E.xc c ks es ρ μ'
section
variable {W : WX} {X : Cx} {elt tg iter : Expr} {ifs : List Expr} {scope : Scope} {own : List (Str × Nat)} {pos : Pos} {wi : WI} {g : TG} {k : WG} {tt : WT} {te : WE}
end
end DL

set_option Elab.async false
set_option linter.all false
set_option maxRecDepth 100000
set_option maxHeartbeats 2000000
/-! The Hook over a written list of addresses (no search of the heap in the kernel's run). -/
namespace DL
open PySem PySem.Spec PyProof.Rows L2
def obsL (as : List Addr) (fa : List He.Fa) (fn : List He5.DefA) (ex : PySem.W.Frag → Bool) (g : Addr → Option Obj) : AlY := (He5.obsA fa fn (He.frG g as), ex (He.frG g as))
def hookL (as : List Addr) (fa : List He.Fa) (fn : List He5.DefA) (ex : PySem.W.Frag → Bool) : PySem.W.Hook where
  α := AlY
  obs := fun s => obsL as fa fn ex s.heap.get?
  val := fun _ => (He5.valA fn, true)
  says := fun _ h => ∃ K : PySem.W.Frag, K.In h ∧ SaysY fa fn ex K
  of := fun _ _ e => ⟨_, He.frG_in, congrArg (fun z : AlY => z.1) e, congrArg (fun z : AlY => z.2) e⟩
  keeps := fun _ _ _ hx k => let ⟨K, hK, c⟩ := hx; ⟨K, PySem.W.Frag.In.keeps hK k, c⟩
theorem obsL_eq {as : List Addr} {fa : List He.Fa} {fn : List He5.DefA} {ex : PySem.W.Frag → Bool} {g : Addr → Option Obj} {s : Shared} (h : ∀ a, g a = s.heap.get? a) : obsL as fa fn ex g = (hookL as fa fn ex).obs s := by
  have e : g = s.heap.get? := funext h
  rw [e] <;> rfl
end DL

set_option Elab.async false
set_option linter.all false
set_option maxRecDepth 100000
set_option maxHeartbeats 2000000
/-! A comprehension in a suite (an exception is held). -/
namespace DL
open PySem PySem.Spec PyProof.Rows L2
section
variable {ex : Option (Addr × Addr × Addr)} {W : WX} {X : Cx} {elt tg iter : Expr} {ifs : List Expr} {scope : Scope} {own : List (Str × Nat)} {pos : Pos} {wi : WI} {g : TG} {k : WG} {tt : WT} {te : WE}
abbrev DTsX (ex : Option (Addr × Addr × Addr)) (X : Cx) (ifs : List Expr) (w : WT) : Prop := PTs X ifs (liftT (gx X ex) WF w)
end
end DL

set_option Elab.async false
set_option linter.all false
set_option maxRecDepth 100000
set_option maxHeartbeats 2000000
/-! A store into a list of the def's own: x[i] = v. -/
namespace DL
open PySem PySem.Spec PyProof.Rows L2
section
variable {X : Cx} {ix : Expr} {wi : WE} {pos p0 : Pos} {i : Nat} {x : Str}
def stO (i : Nat) (p : Addr) (ds : List D) (y d : D) (ρ : DS) (k : DS → Prop) : Prop := match y with
  | .int j => match ixN ds.length j with
    | some z => k (ρ.set i (.own p (.lst (ds.set z d))))
    | none => False
  | _ => False
def subO (i : Nat) (wi : WE) (d : D) (ρ : DS) (μ : Mu) (Q : DS → Mu → Prop) (o : Option Sl) : Prop := match o with
  | some (.own p (.lst ds)) => wi ρ μ (fun y μ2 => stO i p ds y d ρ fun ρ' => Q ρ' μ2) xF
  | _ => False
def kSubO (i : Nat) (wi : WE) : WG := fun d ρ μ Q => subO i wi d ρ μ Q (ρ[i]?)
end
end DL

set_option Elab.async false
set_option linter.all false
set_option maxRecDepth 100000
set_option maxHeartbeats 4000000
set_option autoImplicit false
/-! xs.remove(x) of data, of a list of the def's own. -/
namespace DL
open PySem PySem.Spec PyProof.Rows L2
section
variable {ex : Option (Addr × Addr × Addr)} {W : WX} {X : Cx} {e : Expr} {wa : WE} {pos p0 apos cpos : Pos} {i : Nat} {x : Str}
/-- the item that is taken away -/
def remD (ds : List D) (y : D) (k : List D → Prop) : Prop := ∃ p qs, toP y = some p ∧ toPs ds = some qs ∧ SeqAt.shaped p = true ∧ SeqAt.shaped (.list qs) = true ∧ ∃ (j : Nat) (z : PyData), qs[j]? = some z ∧ PyData.eqv z p = true ∧ (∀ (m : Nat) (z' : PyData), m < j → qs[m]? = some z' → PyData.eqv z' p = false) ∧ k (ds.eraseIdx j)
def remO (i : Nat) (wa : WA) (E : DEnds) (ρ : DS) (μ : Mu) (o : Option Sl) : Prop := match o with
  | some (.own p (.lst ds)) => wa ρ μ (fun xs μ1 => ∃ d, xs = [d] ∧ remD ds d fun ds' => E.nx (ρ.set i (.own p (.lst ds'))) μ1) fun c ks es μ' => E.xc c ks es ρ μ'
  | _ => False
def sRemO (i : Nat) (wa : WA) : WS := fun E ρ μ => remO i wa E ρ μ (ρ[i]?)
theorem Reps.erase {G : Gx} {m : List Addr} {E : Hp} : ∀ {ds : List D} {vs : List V} (j : Nat), Reps G m E ds vs → Reps G m E (ds.eraseIdx j) (vs.eraseIdx j)
  | [], vs, j, r => by
    rw [Reps] at r
    subst r
    exact Reps.nil
  | d :: ds, vs, j, r => by
    obtain ⟨v, t, rfl, r1, r2⟩ := r.uncons
    cases j with
    | zero => exact r2
    | succ j => exact Reps.cons r1 (Reps.erase j r2)
end
end DL

set_option Elab.async false
set_option linter.all false
set_option maxRecDepth 100000
set_option maxHeartbeats 4000000
set_option autoImplicit false
/-! xs.pop(i) of a cell. -/
namespace DL
open PySem PySem.Spec PyProof.Rows L2
def isC (x : D) (μ : Mu) (k : Prop) : Prop := match x with
  | .loc n => match μ[n]? with
    | some (.lst _) => k
    | _ => False
  | _ => False
theorem isC_of {x : D} {μ : Mu} {k : Prop} (h : isC x μ k) : ∃ n ds, x = .loc n ∧ μ[n]? = some (.lst ds) ∧ k := by
  unfold isC at h
  split at h
  · split at h
    · exact ⟨_, _, rfl, by assumption, h⟩
    · exact h.elim
  · exact h.elim
def popL (x y : D) (μ : Mu) (Q : D → Mu → Prop) : Prop := match x, y with
  | .loc n, .int j => match μ[n]? with
    | some (.lst ds) => 0 ≤ j ∧ j < 2 ^ 62 ∧ (match ds[j.toNat]? with
      | some d => Q d (μ.set n (.lst (ds.eraseIdx j.toNat)))
      | none => False)
    | _ => False
  | _, _ => False
theorem popL_of {x y : D} {μ : Mu} {Q : D → Mu → Prop} (h : popL x y μ Q) : ∃ n j ds d, x = .loc n ∧ y = .int j ∧ μ[n]? = some (.lst ds) ∧ 0 ≤ j ∧ j < 2 ^ 62 ∧ ds[j.toNat]? = some d ∧ Q d (μ.set n (.lst (ds.eraseIdx j.toNat))) := by
  unfold popL at h
  split at h
  · split at h
    · obtain ⟨h1, h2, h⟩ := h
      split at h
      · exact ⟨_, _, _, _, rfl, rfl, by assumption, h1, h2, by assumption, h⟩
      · exact h.elim
    · exact h.elim
  · exact h.elim
def wPopL (wo wa : WE) : WE := fun ρ μ Q Xd => wo ρ μ (fun x μ1 => isC x μ1 (wa ρ μ1 (fun y μ2 => popL x y μ2 Q) Xd)) Xd
section
variable {W : WX} {X : Cx} {e o : Expr} {wa wo : WE} {pos apos : Pos}
theorem de_popL (ho : DE none W X o wo) (ha : DE none W X e wa)
    (hbase : attributeBase o "pop" X.env (eval o X.env) = eval o X.env := by rfl)
    (hfew : ((backTo pos (starEach [e] X.env)).all (fun x => !x.1) && (backToKw pos (keywordEach [] X.env)).all (fun x => x.1.isSome)
      && decide (([e] : List Expr).length + ([] : List Keyword).length + (if ([] : List Keyword).isEmpty then 0 else 1) < 30)) = true := by rfl)
    (hline : (apos.endLine == pos.line) = true := by rfl) (hs : starEach [e] X.env = (false, eval e X.env) :: starEach [] X.env := by rfl) (hplain : (backTo pos (starEach [] X.env)).any (·.1) = false := by rfl) :
    DE none W X (.Call (.Attribute o "pop" apos) [e] [] pos) (wPopL wo wa) :=
  pe_weak (pe_bm PySem.F.plainAttrs_list PySem.F.slot_list_pop PySem.F.type_list_pop mt_popAt ho (pa_cons ha pa_nil hs) hbase hfew hline hs hplain) fun σ H Q' q => by
  refine lift_bind (f := fun x ρ μ1 Q Xd => isC x μ1 (wa ρ μ1 (fun y μ2 => popL x y μ2 Q) Xd)) q fun Z m ρ μ Q Xd x v H1 S r1 q1 k kx => ?_
  obtain ⟨n, ds0, rfl, en0, q2⟩ := isC_of q1
  rw [Rep] at r1
  obtain ⟨a, rfl, ea⟩ := r1
  obtain ⟨vs0, hv0, rv0⟩ := S.mu.cell n _ a en0 ea
  refine ⟨.inl ⟨rfl, vs0, .inl (.inl hv0)⟩, Z, m, ρ, μ, _, Xd, S, q2, fun u H2 P => ?_, kx⟩
  obtain ⟨m2, y, μ2, s2, r2, q3⟩ := P
  obtain ⟨n', j, ds, d, en', rfl, en, j0, jl, ed, q4⟩ := popL_of q3
  cases en'
  rw [Rep] at r2
  subst r2
  show rPopAt (V.ref a) [V.int j] H2 Q'
  have ea2 : m2[n]? = some a := by
    obtain ⟨t, rfl⟩ := s2.pre
    rw [List.getElem?_append_left (List.getElem?_eq_some_iff.mp ea).1]
    exact ea
  obtain ⟨vs, hv, rv⟩ := s2.mu.cell n _ a en ea2
  obtain ⟨w, hw, rw'⟩ := Reps.get rv ed
  have lt : j.toNat < vs.length := (List.getElem?_eq_some_iff.mp hw).1
  have sx : seqIndex? j vs.length = some j.toNat := by
    have h0 : ¬ j < 0 := by omega
    have h1 : (decide (0 ≤ j) && decide (j < (vs.length : Int))) = true := by
      rw [decide_eq_true j0, decide_eq_true (by omega)]
      rfl
    unfold seqIndex?
    simp only [h0, if_false, h1, if_true]
  refine ⟨a, vs, j, j.toNat, w, rfl, rfl, hv, by omega, by omega, sx, hw, ?_⟩
  have s3 : Step (gx X none) (ownW Z σ ρ) m2 H2 m2 (μ2.set n (.lst (ds.eraseIdx j.toNat))) (upd H2 a (.lst (vs.eraseIdx j.toNat))) := Step.put s2.mu ea2 ⟨_, upd_same, Reps.erase _ rv⟩
  exact k _ _ (VPost.from s2 ⟨_, d, _, s3, Rep.mono s3.pre s3.same _ _ rw', q4⟩)
end
end DL

set_option Elab.async false
set_option linter.all false
set_option maxRecDepth 100000
set_option maxHeartbeats 4000000
set_option autoImplicit false
/-! A comprehension's list kept as a cell. -/
namespace DL
open PySem PySem.Spec PyProof.Rows L2
def cellQ (Q : D → Mu → Prop) : D → Mu → Prop := fun d μ => match d with
  | .lst acc => Q (.loc μ.length) (μ ++ [.lst acc])
  | _ => False
def wLcC (wi : WI) (k : WG) (tt : WT) (te : WE) (vs : List Nat) : WE := fun ρ μ Q Xd => wLc wi k tt te vs ρ μ (cellQ Q) Xd
theorem lift_lcC {G : Gx} {W : WX} {wi : WI} {g : TG} {k : WG} {tt : WT} {te : WE} {vs : List Nat} (hg : LcG G vs g k) {σ : L2.St} {H : Hp} {Q' : VK} (q : lift G W (wLcC wi k tt te vs) σ H Q') :
    tLc (liftIF G W wi) g (liftT G WF tt) (lift G WF te) vs σ H Q' := by
  obtain ⟨Z, m, ρ, μ, Q, Xd, S, q, kq, kx⟩ := q
  refine ⟨Z, m, ρ, μ, _, Xd, S, q, fun J H1 P => ?_, kx⟩
  obtain ⟨m1, ds, μ1, F, s1, hF, ok, no', q1⟩ := P
  have no : noOwn ρ vs := fun v hv a ds => notOwn_of (no' v hv) a ds
  intro D nD
  have S1 := S.step s1
  have E0 := own_wipe' (Z := Z) (σ := σ) (ρ := ρ) (vs := vs) no
  have Sw := S1.wiped (vs := vs) no
  obtain ⟨Mh, sh⟩ := MuOk.hide (o := .lst []) S1.mu nD
  -- the state of a turn
  have base : SR G (addZ Z D) m1 (wipe σ vs) (upd H1 D (.lst [])) (wipeD ρ vs) μ1 := by
    refine ⟨Sw.len, by rw [own_add, E0]; exact Mh, fun i d e => ?_, fun i a es e => ?_, Sw.dis, fun i c ks es e => ?_⟩
    · obtain ⟨v, h1, h2⟩ := Sw.val i d e
      rw [E0] at h2
      exact ⟨v, h1, by rw [own_add, E0]; exact Rep.mono (List.prefix_refl _) sh _ _ h2⟩
    · obtain ⟨h1, h2, h4⟩ := Sw.own i a es e
      rw [E0] at h4
      have na : a ≠ D := fun z => h4.there (by rw [z, nD])
      exact ⟨h1, fun z => z.elim h2 na, by rw [own_add, E0]; exact h4.keep (List.prefix_refl _) sh (upd_ne na)⟩
    · have z := Sw.exn i c ks es e
      rw [E0] at z
      rw [own_add, E0]
      exact z.mono (List.prefix_refl _) sh
  have nDW : ¬ ownW Z σ ρ D := fun z => S1.mu.hw D z nD
  let In : List DL.D → Hp → Prop := fun rest H' => ∃ m' μ' acc us, m1 <+: m' ∧ (∀ z, ownW Z σ ρ z → H' z = H1 z) ∧ SR G (addZ Z D) m' (wipe σ vs) H' (wipeD ρ vs) μ' ∧ Same (vis (ownW Z σ ρ) m1 H1) (vis (addZ (ownW Z σ ρ) D) m' H') ∧
    H' D = some (.lst us) ∧ Reps G m' (vis (addZ (ownW Z σ ρ) D) m' H') acc us ∧ lcL k tt te (wipeD ρ vs) rest acc μ' (cellQ Q)
  refine ⟨fun i n H' => n = ds.length - i ∧ i ≤ ds.length ∧ In (ds.drop i) H', ⟨_, rfl, Nat.zero_le _, m1, μ1, [], [], List.prefix_refl _, fun z hz => upd_ne fun e => nDW (e ▸ hz), base, sh, upd_same, Reps.nil, q1⟩, ?_⟩
  rintro i n H' ⟨rfl, hle, m', μ', acc, us, pm, hid, S', sm, hD, ra, q'⟩
  have vis' : Same (vis (ownW Z σ ρ) m1 H1) H' := sm.trans vis_le
  by_cases hlt : i < ds.length
  · refine .inr ⟨ok.go i H' hlt vis' (hF H' hid), In (ds.drop (i + 1)), fun H2 h2 => ⟨_, (by omega : ds.length - (i + 1) < ds.length - i), rfl, hlt, h2⟩, fun x H3 y => ?_⟩
    obtain ⟨d, ed, hy⟩ := ok.yld i H' x H3 hlt vis' (hF H' hid) y
    obtain ⟨hi', ee⟩ := List.getElem?_eq_some_iff.mp ed
    rw [List.drop_eq_getElem_cons hi', lcL, ee] at q'
    have ow : ownW (addZ Z D) (wipe σ vs) (wipeD ρ vs) = addZ (ownW Z σ ρ) D := by rw [own_add, E0]
    have : SR G (addZ Z D) m' (wipe σ vs) H3 (wipeD ρ vs) μ' ∧ Same (vis (addZ (ownW Z σ ρ) D) m' H') (vis (addZ (ownW Z σ ρ) D) m' H3) ∧ (∀ z, addZ (ownW Z σ ρ) D z → H3 z = H' z) ∧ Rep G m' (vis (addZ (ownW Z σ ρ) D) m' H3) d x := by
      rcases hy with ⟨rfl, rd⟩ | ⟨T, o, nT, rfl, rd⟩
      · exact ⟨S', Same.refl _, fun _ _ => rfl, Rep.mono pm sm _ _ rd⟩
      · have st := Step.laid (o := o) S'.mu nT
        rw [ow] at st
        exact ⟨S'.step (by rw [ow]; exact st), st.same, st.hid, rd _ _ pm (sm.trans st.same) (by rw [vis_upd (ow ▸ S'.mu) nT, upd_same])⟩
    obtain ⟨S3, sm3, hid3, rd⟩ := this
    refine hg (addZ Z D) m' μ' (wipe σ vs) H3 (wipeD ρ vs) d x _ _ S3 (by rw [ow]; exact rd) q' fun σ4 ρ4 S4 ow4 ew q4 => ⟨?_, ?_⟩
    · exact ew.trans (wipe_wipe σ vs)
    · refine ⟨addZ Z D, m', ρ4, μ', _, _, S4, q4, fun b H5 P => ?_, fun cls dd H5 P => (xpF P).elim⟩
      obtain ⟨m5, μ5, s5, q5⟩ := P
      rw [ow4, ow] at s5
      have back : ∀ {m6 μ6 H6}, Step G (addZ (ownW Z σ ρ) D) m' H3 m6 μ6 H6 → SR G (addZ Z D) m6 (wipe σ vs) H6 (wipeD ρ vs) μ6 := fun {m6 μ6 H6} s6 => S3.step (by rw [ow]; exact s6)
      cases b with
      | false =>
        rw [if_neg Bool.false_ne_true] at q5 ⊢
        exact ⟨m5, μ5, acc, us, pm.trans s5.pre, fun z hz => ((s5.hid z (.inl hz)).trans (hid3 z (.inl hz))).trans (hid z hz), back s5, (sm.trans sm3).trans s5.same, ((s5.hid D (.inr rfl)).trans (hid3 D (.inr rfl))).trans hD, Reps.mono s5.pre (sm3.trans s5.same) _ _ ra, q5⟩
      | true =>
        rw [if_pos rfl] at q5 ⊢
        refine ⟨addZ Z D, m5, ρ4, μ5, _, _, S4.step (by rw [ow4, ow]; exact s5), q5, fun u H6 P => ?_, fun cls dd H6 P => (xpF P).elim⟩
        obtain ⟨m6, yd, μ6, s6, r6, hlen, q6⟩ := P
        rw [ow4, ow] at s6 r6
        have s56 := s5.trans s6
        refine ⟨us, ((s56.hid D (.inr rfl)).trans (hid3 D (.inr rfl))).trans hD, by rw [← ra.len]; exact Nat.lt_of_lt_of_le hlen (by decide), ?_⟩
        refine ⟨m6, μ6, acc ++ [yd], us ++ [u], pm.trans s56.pre, fun z hz => ?_, (back s56).hid, ?_, upd_same, ?_, q6⟩
        · have hb : z ≠ D := fun e => nDW (e ▸ hz)
          rw [upd_ne hb]
          exact ((s56.hid z (.inl hz)).trans (hid3 z (.inl hz))).trans (hid z hz)
        · rw [vis_hidden]
          exact (sm.trans sm3).trans s56.same
        · rw [vis_hidden]
          exact Reps.append (Reps.mono s56.pre (sm3.trans s56.same) _ _ ra) (Reps.cons r6 Reps.nil)
  · have e : i = ds.length := by omega
    subst e
    rw [List.drop_length, lcL] at q'
    refine .inl ⟨ok.stop H' vis' (hF H' hid), kq _ _ (VPost.from s1 ?_)⟩
    have ow : ownW (addZ Z D) (wipe σ vs) (wipeD ρ vs) = addZ (ownW Z σ ρ) D := by rw [own_add, E0]
    have M' := S'.mu
    rw [ow] at M'
    have sub : ∀ b, ownW Z σ ρ b → addZ (ownW Z σ ρ) D b := fun b h => .inl h
    have q2 : Q (.loc μ'.length) (μ' ++ [.lst acc]) := q'
    have nDm : D ∉ m' := fun z => M'.out D z (.inr rfl)
    have ev : vis (addZ (ownW Z σ ρ) D) m' H' = vis (ownW Z σ ρ) (m' ++ [D]) H' := by
      funext b
      unfold vis addZ
      congr 1
      apply propext
      rw [List.mem_append, List.mem_singleton]
      constructor
      · rintro ((h | h) | h)
        · exact .inl h
        · exact .inr (.inr h)
        · exact .inr (.inl h)
      · rintro (h | h | h)
        · exact .inl (.inl h)
        · exact .inr h
        · exact .inl (.inr h)
    have pre : m' <+: m' ++ [D] := List.prefix_append _ _
    refine ⟨m' ++ [D], .loc μ'.length, μ' ++ [.lst acc], ⟨pm.trans pre, hid, ⟨by simp [M'.len], ?_, fun a ha => ?_, fun z hz => M'.hw z (.inl hz), fun n c a hd ha => ?_⟩, by rw [← ev]; exact sm⟩, ?_, q2⟩
    · rw [List.nodup_append]
      refine ⟨M'.nd, by simp, fun a ha b hb => ?_⟩
      rw [List.mem_singleton] at hb
      subst hb
      exact fun e => nDm (e ▸ ha)
    · rcases List.mem_append.mp ha with q | q
      · exact fun z => M'.out a q (.inl z)
      · rw [List.mem_singleton] at q
        subst q
        exact nDW
    · rw [← ev]
      by_cases hn : n < m'.length
      · rw [List.getElem?_append_left hn] at ha
        rw [List.getElem?_append_left (by rw [← M'.len]; exact hn)] at hd
        exact (M'.cell n c a hd ha).keep pre (Same.refl _) rfl
      · have hl := (List.getElem?_eq_some_iff.mp ha).1
        rw [List.length_append, List.length_singleton] at hl
        have en : n = m'.length := by omega
        subst en
        rw [List.getElem?_concat_length] at ha
        rw [M'.len, List.getElem?_concat_length] at hd
        cases ha
        cases hd
        exact ⟨us, hD, Reps.mono pre (Same.refl _) _ _ ra⟩
    · rw [Rep]
      exact ⟨D, rfl, by rw [← M'.len]; exact List.getElem?_concat_length⟩
section
variable {W : WX} {X : Cx} {elt tg iter : Expr} {ifs : List Expr} {scope : Scope} {own : List (Str × Nat)} {pos : Pos} {wi : WI} {g : TG} {k : WG} {tt : WT} {te : WE}
theorem de_lcC (hc : X.calm = true) (hN : X.N.Nodup) (hi : DI none W X tg iter wi) (ok : BlkOk X.N X.env.scope scope own) (hk : LcG (gx X none) (own.map (·.2)) g k)
    (hg : ∀ (s : Shared) (H : Hp) (C : Addr) (cl : List (Str × Addr)) (fp : List Addr), PG (X.blk s H scope (compEnvC scope cl C X.env) fp) tg g) (ht : ∀ (s : Shared) (H : Hp) (C : Addr) (cl : List (Str × Addr)) (fp : List Addr), DTs (X.blk s H scope (compEnvC scope cl C X.env) fp) ifs tt)
    (he : ∀ (s : Shared) (H : Hp) (C : Addr) (cl : List (Str × Addr)) (fp : List Addr), DE none WF (X.blk s H scope (compEnvC scope cl C X.env) fp) elt te) (hs : ∀ x, foldedSetIterable iter X.env x = pure x := by intro _; rfl) :
    DE none W X (.ListComp elt [⟨tg, iter, ifs, 0⟩] scope pos) (wLcC wi k tt te (own.map (·.2))) := pe_weak (pe_lc hc hN hi.toF ok hg ht he hs) fun _ _ _ q => lift_lcC hk q
end
end DL

set_option Elab.async false
set_option linter.all false
set_option maxRecDepth 100000
set_option maxHeartbeats 2000000
set_option autoImplicit false
/-! x in found, x not in found of an own list, as tests. -/
namespace DL
open PySem PySem.Spec PyProof.Rows L2
section
variable {ex : Option (Addr × Addr × Addr)} {W : WX} {X : Cx} {e : Expr} {wa : WE} {pos p0 : Pos} {i : Nat} {x : Str}
end
end DL

set_option Elab.async false
set_option linter.all false
set_option maxRecDepth 100000
set_option maxHeartbeats 4000000
set_option autoImplicit false
/-! Changeable instances: attributes stored, property setters; == of tuples of own things; a sum of lists as an own list. -/
namespace DL
open PySem PySem.Spec PyProof.Rows L2
/-! ### o.f = value, o a cell -/
def putL (c f : Str) (x d : D) (μ : Mu) (k : Mu → Prop) : Prop := match x with
  | .loc n => match μ[n]? with
    | some (.ins c' ks ds) => c' = c ∧ ks.length < 1000 ∧ k (μ.set n (.ins c (putK f ks) (putD f d ks ds)))
    | _ => False
  | _ => False
def sFldL (c f : Str) (wo wa : WE) : WS := fun E ρ μ => wa ρ μ (fun d μ1 => wo ρ μ1 (fun x μ2 => putL c f x d μ2 (E.nx ρ)) (fun c ks es μ' => E.xc c ks es ρ μ')) fun c ks es μ' => E.xc c ks es ρ μ'
section
variable {W : WX} {X : Cx} {o value : Expr} {wa wo : WE} {pos pos' : Pos}
/-! ### o.f = value, f a property with a setter -/
structure SetD (P : Program) (w : World) (K : PySem.W.Frag) (mg : Str → Option Value) (base : Heap) (k : Nat) (c f : Str) (ps : List Str) (sp : DSp) : Prop where
  ex : ∃ C p g fd, mg c = some (.ref C) ∧ Cls K C ∧ PySem.W.takerIn K C f = some (some (.ref p)) ∧ PySem.W.typeIn K (.ref p) = some (.type "property") ∧ (∃ a rest, PySem.W.recIn K p "property" = some (a :: .ref g :: rest)) ∧ Binds K fd ps [] ∧ FnG P w K mg base k g fd ps (toSp ⟨K, mg, none⟩ sp)
def sPropS (c : Str) (sp : DSp) (wo wa : WE) : WS := fun E ρ μ => wa ρ μ (fun d μ1 => wo ρ μ1 (fun x μ2 => isCls c x μ2 (sp [x, d] μ2 (fun _ μ3 => E.nx ρ μ3) (fun c ks es μ' => E.xc c ks es ρ μ'))) (fun c ks es μ' => E.xc c ks es ρ μ')) fun c ks es μ' => E.xc c ks es ρ μ'
end
/-! ### == of tuples whose items have an own `__eq__` -/
def tupE (x : D) (k : List D → Prop) : Prop := match x with
  | .tup ds => k ds
  | _ => False
def fEqT (c : Str) (sp : DSp) : F2 := fun x y μ Q => tupE x fun ds => tupE y fun es => prsO c sp μ ds es ∧ Q (.bl true) μ
section
variable {X : Cx} {k j : Nat} {ps : List Str} {c : Str} {Ts : List String} {Cs : List Str} {sp : DSp}
end
/-! ### x = a + b, lists, x the def's own -/
def catO (x y : D) (k : List D → Prop) : Prop := match x, y with
  | .lst a, .lst b => a.length + b.length ≤ 1000 ∧ k (a ++ b)
  | _, _ => False
def sSetCat (i : Nat) (wa wb : WE) : WS := fun E ρ μ => wa ρ μ (fun x μ1 => wb ρ μ1 (fun y μ2 => catO x y fun ds => i < ρ.length ∧ ∀ p, E.nx (ρ.set i (.own p (.lst ds))) μ2) (fun c ks es μ' => E.xc c ks es ρ μ')) fun c ks es μ' => E.xc c ks es ρ μ'
section
variable {W : WX} {X : Cx} {a b : Expr} {wa wb : WE} {pos : Pos}
end
end DL

set_option Elab.async false
set_option linter.all false
set_option maxRecDepth 100000
set_option maxHeartbeats 4000000
set_option autoImplicit false
/-! Loops over lists that may be cells: the cell must stand at each turn. list(x), x.append(v), o[i] = v with cells. -/
namespace DL
open PySem PySem.Spec PyProof.Rows L2
structure ItOkC (G : Gx) (J : It) (m0 : List Addr) (E0 : Hp) (C : Mu → Prop) (ds : List D) : Prop where
  go : ∀ (i : Nat) (Z : Addr → Prop) (m : List Addr) (μ : Mu) H, i < ds.length → m0 <+: m → Same E0 (vis Z m H) → MuOk G Z m μ H → C μ → J.go i H
  stop : ∀ (Z : Addr → Prop) (m : List Addr) (μ : Mu) H, m0 <+: m → Same E0 (vis Z m H) → MuOk G Z m μ H → C μ → J.stop ds.length H
  yld : ∀ (i : Nat) (Z : Addr → Prop) (m : List Addr) (μ : Mu) H x H3, i < ds.length → m0 <+: m → Same E0 (vis Z m H) → MuOk G Z m μ H → C μ → J.yld i H x H3 →
    ∃ d, ds[i]? = some d ∧ ((H3 = H ∧ Rep G m (vis Z m H) d x) ∨ ∃ T o, H T = none ∧ H3 = upd H T o ∧ ∀ E, Same (vis Z m H) E → E T = some o → Rep G m E d x)
theorem ItOk.toC {G : Gx} {J : It} {m0 : List Addr} {E0 : Hp} {ds : List D} (h : ItOk G J m0 E0 ds) : ItOkC G J m0 E0 (fun _ => True) ds :=
  ⟨fun i Z m μ H a _ s _ _ => h.go i H a (s.trans vis_le), fun Z m μ H _ s _ _ => h.stop H (s.trans vis_le), fun i Z m μ H x H3 a p s _ _ y => by
    obtain ⟨d, e, r⟩ := h.yld i H x H3 a (s.trans vis_le) y
    refine ⟨d, e, ?_⟩
    rcases r with ⟨rfl, r⟩ | ⟨T, o, nT, rfl, r⟩
    · exact .inl ⟨rfl, Rep.mono p s _ _ r⟩
    · exact .inr ⟨T, o, nT, rfl, fun E hE eT => r m E p (s.trans hE) eT⟩⟩
abbrev WIC := DS → Mu → (List D → (Mu → Prop) → Mu → Prop) → XD → Prop
def IPostC (G : Gx) (Z : Addr → Prop) (m : List Addr) (H : Hp) (Q : List D → (Mu → Prop) → Mu → Prop) (J : It) (H' : Hp) : Prop :=
  ∃ m' ds μ' C, Step G Z m H m' μ' H' ∧ ItOkC G J m' (vis Z m' H') C ds ∧ Q ds C μ'
def liftIC (G : Gx) (W : WX) (w : WIC) : TI := fun σ H R => ∃ Z m ρ μ Q Xd, SR G Z m σ H ρ μ ∧ w ρ μ Q Xd ∧ (∀ J H', IPostC G (ownW Z σ ρ) m H Q J H' → R J H') ∧ ∀ cls d H', XPost G (ownW Z σ ρ) m H Xd cls d H' → W cls d σ H'
abbrev DIC (ex : Option (Addr × Addr × Addr)) (W : WX) (X : Cx) (tg e : Expr) (w : WIC) : Prop := PI X tg e (liftIC (gx X ex) W w)
/-- a list, shown or a cell -/
def celOr (d : D) (μ : Mu) (k : List D → (Mu → Prop) → Prop) : Prop := match d with
  | .lst ds => k ds fun _ => True
  | .frl ds => k ds fun _ => True
  | .loc n => match μ[n]? with
    | some (.lst ds) => k ds fun μ' => μ'[n]? = some (.lst ds)
    | _ => False
  | _ => False
theorem celOr_of {d : D} {μ : Mu} {k : List D → (Mu → Prop) → Prop} (h : celOr d μ k) : ∃ ds, ((d = .lst ds ∨ d = .frl ds) ∧ k ds fun _ => True) ∨ ∃ n, d = .loc n ∧ μ[n]? = some (.lst ds) ∧ k ds fun μ' => μ'[n]? = some (.lst ds) := by
  unfold celOr at h
  split at h
  · exact ⟨_, .inl ⟨.inl rfl, h⟩⟩
  · exact ⟨_, .inl ⟨.inr rfl, h⟩⟩
  · split at h
    · exact ⟨_, .inr ⟨_, rfl, by assumption, h⟩⟩
    · exact h.elim
  · exact h.elim
theorem cell_at {G : Gx} {Z : Addr → Prop} {m0 m : List Addr} {μ : Mu} {H : Hp} {n : Nat} {a : Addr} {ds : List D} (ha : m0[n]? = some a) (p : m0 <+: m) (M : MuOk G Z m μ H) (c : μ[n]? = some (.lst ds)) : ∃ vs, H a = some (.lst vs) ∧ Reps G m (vis Z m H) ds vs := by
  obtain ⟨t, rfl⟩ := p
  exact M.cell n _ a c (by rw [List.getElem?_append_left (List.getElem?_eq_some_iff.mp ha).1]; exact ha)
theorem itokC_list {G : Gx} {m0 : List Addr} {E0 : Hp} {n : Nat} {a : Addr} {ds : List D} (ha : m0[n]? = some a) : ItOkC G (Itl G.K a) m0 E0 (fun μ => μ[n]? = some (.lst ds)) ds := by
  refine ⟨fun i Z m μ H hi p s M c => ?_, fun Z m μ H p s M c => ?_, fun i Z m μ H x H3 hi p s M c y => ?_⟩
  · obtain ⟨vs, hv, r⟩ := cell_at ha p M c
    obtain ⟨v, e, _⟩ := r.get (List.getElem?_eq_getElem hi)
    exact ⟨vs, v, .inl (.inl hv), e⟩
  · obtain ⟨vs, hv, r⟩ := cell_at ha p M c
    exact ⟨vs, .inl (.inl hv), by rw [r.len]; exact Nat.le_refl _⟩
  · obtain ⟨vs, hv, r⟩ := cell_at ha p M c
    obtain ⟨e, y⟩ := y
    obtain ⟨d, ed, rd⟩ := r.get' (y vs (.inl (.inl hv)))
    exact ⟨d, ed, .inl ⟨e, rd⟩⟩
theorem itokC_enum {G : Gx} {m0 : List Addr} {E0 : Hp} {n : Nat} {a : Addr} {ds : List D} (ha : m0[n]? = some a) : ItOkC G (Ite G.K a) m0 E0 (fun μ => μ[n]? = some (.lst ds)) (enumD ds) := by
  have hl : (enumD ds).length = ds.length := by simp [enumD]
  refine ⟨fun i Z m μ H hi p s M c => ?_, fun Z m μ H p s M c => ?_, fun i Z m μ H x H3 hi p s M c y => ?_⟩
  · rw [hl] at hi
    obtain ⟨vs, hv, r⟩ := cell_at ha p M c
    obtain ⟨v, e, _⟩ := r.get (List.getElem?_eq_getElem hi)
    exact ⟨vs, v, .inl (.inl hv), e⟩
  · obtain ⟨vs, hv, r⟩ := cell_at ha p M c
    exact ⟨vs, .inl (.inl hv), by rw [hl, r.len]; exact Nat.le_refl _⟩
  · obtain ⟨vs, hv, r⟩ := cell_at ha p M c
    obtain ⟨T, x', e, nT, eH, y⟩ := y
    obtain ⟨d, ed, rd⟩ := r.get' (y vs (.inl (.inl hv)))
    refine ⟨.tup [.int (i : Nat), d], ?_, .inr ⟨T, _, nT, eH, fun E hE eT => ?_⟩⟩
    · simp only [enumD, List.getElem?_mapIdx, ed, Option.map_some]
    · rw [Rep]
      exact ⟨T, _, e, .inl (.inl eT), Reps.cons (by rw [Rep]) (Reps.cons (Rep.mono (List.prefix_refl _) hE _ _ rd) Reps.nil)⟩
def wiCel (wa : WE) : WIC := fun ρ μ Q Xd => wa ρ μ (fun d μ1 => celOr d μ1 fun ds C => Q ds C μ1) Xd
def cel1 (ds : List D) (μ : Mu) (k : List D → (Mu → Prop) → Prop) : Prop := match ds with
  | [d] => celOr d μ fun es C => k (enumD es) C
  | _ => False
theorem cel1_of {ds : List D} {μ : Mu} {k : List D → (Mu → Prop) → Prop} (h : cel1 ds μ k) : ∃ d, ds = [d] ∧ celOr d μ fun es C => k (enumD es) C := by
  unfold cel1 at h
  split at h
  · exact ⟨_, rfl, h⟩
  · exact h.elim
def wiEnC (wa : WA) : WIC := fun ρ μ Q Xd => wa ρ μ (fun ds μ1 => cel1 ds μ1 fun es C => Q es C μ1) Xd
section
variable {ex : Option (Addr × Addr × Addr)} {W : WX} {X : Cx} {tg e : Expr} {wa : WE} {ws : WA} {p pos : Pos}
theorem di_cel (h : DE ex W X e wa) : DIC ex W X tg e (wiCel wa) := pi_weak (pi_list h) fun σ H R q => by
  obtain ⟨Z, m, ρ, μ, Q, Xd, S, q, k, kx⟩ := q
  refine ⟨Z, m, ρ, μ, _, Xd, S, q, fun v H1 P => ?_, kx⟩
  obtain ⟨m1, d, μ1, s1, r1, q1⟩ := P
  obtain ⟨ds, ⟨hd, q2⟩ | ⟨n, rfl, en, q2⟩⟩ := celOr_of q1
  · obtain ⟨a, vs, e, sq, rs⟩ := lst_rep' hd r1
    exact ⟨a, e, ⟨vs, Same.seq vis_le sq⟩, k _ _ ⟨m1, ds, μ1, _, s1, (itok_list (G := gx X ex) sq rs).toC, q2⟩⟩
  · rw [Rep] at r1
    obtain ⟨a, rfl, ea⟩ := r1
    obtain ⟨vs, hv, _⟩ := s1.mu.cell n _ a en ea
    exact ⟨a, rfl, ⟨vs, .inl (.inl hv)⟩, k _ _ ⟨m1, ds, μ1, _, s1, itokC_list (G := gx X ex) ea, q2⟩⟩
theorem di_enC {elts : List Expr} {kk : Nat} {tpos : Pos} (hg : Gl X "enumerate") (hm : X.mg "enumerate" = none) (ha : DA ex W X [e] ws) (hs : starEach [e] X.env = [(false, eval e X.env)] := by rfl) :
    DIC ex W X (.Tuple elts kk tpos) (.Call (.Name "enumerate" p) [e] [] pos) (wiEnC ws) := pi_weak (pi_enum hg hm ha hs) fun σ H R q => by
  obtain ⟨Z, m, ρ, μ, Q, Xd, S, q, k, kx⟩ := q
  refine ⟨Z, m, ρ, μ, _, Xd, S, q, fun vs H1 P => ?_, kx⟩
  obtain ⟨m1, ds, μ1, s1, r1, q1⟩ := P
  obtain ⟨d, rfl, q2⟩ := cel1_of q1
  obtain ⟨v, t, rfl, r2, r3⟩ := r1.uncons
  rw [Reps] at r3
  subst r3
  obtain ⟨es, ⟨hd, q2⟩ | ⟨n, rfl, en, q2⟩⟩ := celOr_of q2
  · obtain ⟨a, vs, rfl, sq, rs⟩ := lst_rep' hd r2
    exact ⟨a, vs, rfl, Same.seq vis_le sq, k _ _ ⟨m1, _, μ1, _, s1, (itok_enum (G := gx X ex) sq rs).toC, q2⟩⟩
  · rw [Rep] at r2
    obtain ⟨a, rfl, ea⟩ := r2
    obtain ⟨vs, hv, _⟩ := s1.mu.cell n _ a en ea
    exact ⟨a, vs, rfl, .inl (.inl hv), k _ _ ⟨m1, _, μ1, _, s1, itokC_enum (G := gx X ex) ea, q2⟩⟩
end
/-! ### for -/
def forLC (g : WG) (b : WS) (E : DEnds) (C : Mu → Prop) : List D → DS → Mu → Prop
  | [], ρ, μ => C μ ∧ E.nx ρ μ
  | d :: ds, ρ, μ => C μ ∧ g d ρ μ fun ρ1 μ1 => b { E with nx := forLC g b E C ds, ct := forLC g b E C ds, bk := E.nx } ρ1 μ1
def sForC (wi : WIC) (g : WG) (b : WS) : WS := fun E ρ μ => wi ρ μ (fun ds C μ1 => forLC g b E C ds ρ μ1) fun c ks es μ' => E.xc c ks es ρ μ'
theorem forLC_at {g : WG} {b : WS} {E : DEnds} {C : Mu → Prop} {ds : List D} {ρ : DS} {μ : Mu} (h : forLC g b E C ds ρ μ) : C μ := by
  cases ds with
  | nil => exact h.1
  | cons d ds => exact h.1
theorem forLC_cons {g : WG} {b : WS} {E : DEnds} {C : Mu → Prop} {ds : List D} {i : Nat} {d : D} {ρ : DS} {μ : Mu} (hd : ds[i]? = some d) (h : forLC g b E C (ds.drop i) ρ μ) :
    g d ρ μ fun ρ1 μ1 => b { E with nx := forLC g b E C (ds.drop (i + 1)), ct := forLC g b E C (ds.drop (i + 1)), bk := E.nx } ρ1 μ1 := by
  obtain ⟨hi, e⟩ := List.getElem?_eq_some_iff.mp hd
  rw [List.drop_eq_getElem_cons hi, forLC, e] at h
  exact h.2
section
variable {ex : Option (Addr × Addr × Addr)} {W : WX} {X : Cx} {tg iter : Expr} {body : List Stmt} {wi : WIC} {g : WG} {b : WS} {pos : Pos}
theorem ds_forC (hp : PassesOwn (model X.prog X.w) X.A X.env X.xe) (hc : X.calm = true) (hi : DIC ex W X tg iter wi) (hg : DG ex X tg g) (hb : DSs ex W X body b) (hs : ∀ x, foldedSetIterable iter X.env x = pure x := by intro _; rfl) :
    DSt ex W X (.For tg iter body [] pos) (sForC wi g b) := ps_weak (ps_for hp hc hi hg hb hs) fun De σ H q => by
  obtain ⟨Z, m, ρ, μ, E, S, q, kn, kr, kb, kc, kx⟩ := q
  refine ⟨Z, m, ρ, μ, _, _, S, q, fun J H1 P => ?_, fun cls d H' P => kx cls d σ H' (XSPost.of S P)⟩
  obtain ⟨m1, ds, μ1, C, s1, ok, q1⟩ := P
  have t1 : SStep (gx X ex) Z m σ ρ H m1 σ ρ H1 := SStep.of s1
  refine ⟨fun i n σ' H' => n = ds.length - i ∧ i ≤ ds.length ∧ ∃ m' ρ' μ', SR (gx X ex) Z m' σ' H' ρ' μ' ∧ SStep (gx X ex) Z m1 σ ρ H1 m' σ' ρ' H' ∧ forLC g b E C (ds.drop i) ρ' μ', ⟨_, rfl, Nat.zero_le _, m1, ρ, μ1, S.step s1, .refl, q1⟩, ?_⟩
  rintro i n σ' H' ⟨rfl, hle, m', ρ', μ', S', s', q'⟩
  have hC := forLC_at q'
  by_cases hlt : i < ds.length
  · refine .inr ⟨ok.go i _ m' μ' H' hlt s'.pre s'.same S'.mu hC, fun σ2 H2 => ∃ m2 ρ2 μ2, SR (gx X ex) Z m2 σ2 H2 ρ2 μ2 ∧ SStep (gx X ex) Z m1 σ ρ H1 m2 σ2 ρ2 H2 ∧ forLC g b E C (ds.drop (i + 1)) ρ2 μ2,
      fun σ2 H2 ⟨m2, ρ2, μ2, S2, s2, q2⟩ => ⟨_, (by omega : ds.length - (i + 1) < ds.length - i), rfl, hlt, m2, ρ2, μ2, S2, s2, q2⟩, fun x H3 y => ?_⟩
    obtain ⟨d, ed, hy⟩ := ok.yld i _ m' μ' H' x H3 hlt s'.pre s'.same S'.mu hC y
    have q2 := forLC_cons ed q'
    have : ∃ S3 : SR (gx X ex) Z m' σ' H3 ρ' μ', SStep (gx X ex) Z m1 σ ρ H1 m' σ' ρ' H3 ∧ Rep (gx X ex) m' (vis (ownW Z σ' ρ') m' H3) d x := by
      rcases hy with ⟨rfl, rd⟩ | ⟨T, o, nT, rfl, rd⟩
      · exact ⟨S', s', rd⟩
      · obtain ⟨S3, s3⟩ := S'.laid (o := o) nT
        exact ⟨S3, s'.trans s3, rd _ s3.same (by rw [vis_upd S'.mu nT, upd_same])⟩
    obtain ⟨S3, s3, rd⟩ := this
    refine ⟨Z, m', ρ', μ', d, _, S3, rd, q2, fun σ4 H4 P => ?_⟩
    obtain ⟨m4, ρ4, μ4, S4, s4, q4⟩ := P
    have t4 := s3.trans s4
    refine ⟨Z, m4, ρ4, μ4, _, S4, q4, fun σ5 H5 P => ?_, fun v H5 P => kr v H5 (RPost.from (t1.trans t4) P), fun σ5 H5 P => kn σ5 H5 (SPost.from (t1.trans t4) P), fun σ5 H5 P => ?_, fun cls d σ5 H5 P => kx cls d σ5 H5 (XSPost.from (t1.trans t4) P)⟩
    · obtain ⟨m5, ρ5, μ5, S5, s5, q5⟩ := P
      exact ⟨m5, ρ5, μ5, S5, t4.trans s5, q5⟩
    · obtain ⟨m5, ρ5, μ5, S5, s5, q5⟩ := P
      exact ⟨m5, ρ5, μ5, S5, t4.trans s5, q5⟩
  · have e : i = ds.length := by omega
    subst e
    refine .inl ⟨ok.stop _ m' μ' H' s'.pre s'.same S'.mu hC, kn σ' H' ⟨m', ρ', μ', S', t1.trans s', ?_⟩⟩
    rw [List.drop_length, forLC] at q'
    exact q'.2
end
/-! ### comprehensions -/
def lcLC (g : WG) (tt : WT) (te : WE) (ρw : DS) (C : Mu → Prop) : List D → List D → Mu → (D → Mu → Prop) → Prop
  | [], acc, μ, Q => C μ ∧ Q (.lst acc) μ
  | d :: ds, acc, μ, Q => C μ ∧ g d ρw μ fun ρ2 μ2 => tt ρ2 μ2 (fun b μ3 => if b = true then te ρ2 μ3 (fun y μ4 => acc.length < 1000000 ∧ lcLC g tt te ρw C ds (acc ++ [y]) μ4 Q) xF else lcLC g tt te ρw C ds acc μ3 Q) xF
theorem lcLC_at {g : WG} {tt : WT} {te : WE} {ρw : DS} {C : Mu → Prop} {ds acc : List D} {μ : Mu} {Q : D → Mu → Prop} (h : lcLC g tt te ρw C ds acc μ Q) : C μ := by
  cases ds with
  | nil => exact h.1
  | cons d ds => exact h.1
def wLcU (wi : WIC) (g : WG) (tt : WT) (te : WE) (vs : List Nat) : WE := fun ρ μ Q Xd => wi ρ μ (fun ds C μ1 => (∀ v ∈ vs, notOwn ρ v) ∧ lcLC g tt te (wipeD ρ vs) C ds [] μ1 Q) Xd
theorem lift_lcU {G : Gx} {W : WX} {wi : WIC} {g : TG} {k : WG} {tt : WT} {te : WE} {vs : List Nat} (hg : LcG G vs g k) {σ : L2.St} {H : Hp} {Q' : VK} (q : lift G W (wLcU wi k tt te vs) σ H Q') :
    tLc (liftIC G W wi) g (liftT G WF tt) (lift G WF te) vs σ H Q' := by
  obtain ⟨Z, m, ρ, μ, Q, Xd, S, q, kq, kx⟩ := q
  refine ⟨Z, m, ρ, μ, _, Xd, S, q, fun J H1 P => ?_, kx⟩
  obtain ⟨m1, ds, μ1, C, s1, ok, no', q1⟩ := P
  have no : noOwn ρ vs := fun v hv a ds => notOwn_of (no' v hv) a ds
  intro D nD
  have S1 := S.step s1
  have E0 := own_wipe' (Z := Z) (σ := σ) (ρ := ρ) (vs := vs) no
  have Sw := S1.wiped (vs := vs) no
  obtain ⟨Mh, sh⟩ := MuOk.hide (o := .lst []) S1.mu nD
  have base : SR G (addZ Z D) m1 (wipe σ vs) (upd H1 D (.lst [])) (wipeD ρ vs) μ1 := by
    refine ⟨Sw.len, by rw [own_add, E0]; exact Mh, fun i d e => ?_, fun i a es e => ?_, Sw.dis, fun i c ks es e => ?_⟩
    · obtain ⟨v, h1, h2⟩ := Sw.val i d e
      rw [E0] at h2
      exact ⟨v, h1, by rw [own_add, E0]; exact Rep.mono (List.prefix_refl _) sh _ _ h2⟩
    · obtain ⟨h1, h2, h4⟩ := Sw.own i a es e
      rw [E0] at h4
      have na : a ≠ D := fun z => h4.there (by rw [z, nD])
      exact ⟨h1, fun z => z.elim h2 na, by rw [own_add, E0]; exact h4.keep (List.prefix_refl _) sh (upd_ne na)⟩
    · have z := Sw.exn i c ks es e
      rw [E0] at z
      rw [own_add, E0]
      exact z.mono (List.prefix_refl _) sh
  have nDW : ¬ ownW Z σ ρ D := fun z => S1.mu.hw D z nD
  let In : List DL.D → Hp → Prop := fun rest H' => ∃ m' μ' acc us, m1 <+: m' ∧ (∀ z, ownW Z σ ρ z → H' z = H1 z) ∧ SR G (addZ Z D) m' (wipe σ vs) H' (wipeD ρ vs) μ' ∧ Same (vis (ownW Z σ ρ) m1 H1) (vis (addZ (ownW Z σ ρ) D) m' H') ∧
    H' D = some (.lst us) ∧ Reps G m' (vis (addZ (ownW Z σ ρ) D) m' H') acc us ∧ lcLC k tt te (wipeD ρ vs) C rest acc μ' Q
  refine ⟨fun i n H' => n = ds.length - i ∧ i ≤ ds.length ∧ In (ds.drop i) H', ⟨_, rfl, Nat.zero_le _, m1, μ1, [], [], List.prefix_refl _, fun z hz => upd_ne fun e => nDW (e ▸ hz), base, sh, upd_same, Reps.nil, q1⟩, ?_⟩
  rintro i n H' ⟨rfl, hle, m', μ', acc, us, pm, hid, S', sm, hD, ra, q'⟩
  have hC := lcLC_at q'
  have ow : ownW (addZ Z D) (wipe σ vs) (wipeD ρ vs) = addZ (ownW Z σ ρ) D := by rw [own_add, E0]
  have Mu' : MuOk G (addZ (ownW Z σ ρ) D) m' μ' H' := by rw [← ow]; exact S'.mu
  by_cases hlt : i < ds.length
  · refine .inr ⟨ok.go i _ m' μ' H' hlt pm sm Mu' hC, In (ds.drop (i + 1)), fun H2 h2 => ⟨_, (by omega : ds.length - (i + 1) < ds.length - i), rfl, hlt, h2⟩, fun x H3 y => ?_⟩
    obtain ⟨d, ed, hy⟩ := ok.yld i _ m' μ' H' x H3 hlt pm sm Mu' hC y
    obtain ⟨hi', ee⟩ := List.getElem?_eq_some_iff.mp ed
    rw [List.drop_eq_getElem_cons hi', lcLC, ee] at q'
    replace q' := q'.2
    have : SR G (addZ Z D) m' (wipe σ vs) H3 (wipeD ρ vs) μ' ∧ Same (vis (addZ (ownW Z σ ρ) D) m' H') (vis (addZ (ownW Z σ ρ) D) m' H3) ∧ (∀ z, addZ (ownW Z σ ρ) D z → H3 z = H' z) ∧ Rep G m' (vis (addZ (ownW Z σ ρ) D) m' H3) d x := by
      rcases hy with ⟨rfl, rd⟩ | ⟨T, o, nT, rfl, rd⟩
      · exact ⟨S', Same.refl _, fun _ _ => rfl, rd⟩
      · have st := Step.laid (o := o) S'.mu nT
        rw [ow] at st
        exact ⟨S'.step (by rw [ow]; exact st), st.same, st.hid, rd _ st.same (by rw [vis_upd (ow ▸ S'.mu) nT, upd_same])⟩
    obtain ⟨S3, sm3, hid3, rd⟩ := this
    refine hg (addZ Z D) m' μ' (wipe σ vs) H3 (wipeD ρ vs) d x _ _ S3 (by rw [ow]; exact rd) q' fun σ4 ρ4 S4 ow4 ew q4 => ⟨?_, ?_⟩
    · exact ew.trans (wipe_wipe σ vs)
    · refine ⟨addZ Z D, m', ρ4, μ', _, _, S4, q4, fun b H5 P => ?_, fun cls dd H5 P => (xpF P).elim⟩
      obtain ⟨m5, μ5, s5, q5⟩ := P
      rw [ow4, ow] at s5
      have back : ∀ {m6 μ6 H6}, Step G (addZ (ownW Z σ ρ) D) m' H3 m6 μ6 H6 → SR G (addZ Z D) m6 (wipe σ vs) H6 (wipeD ρ vs) μ6 := fun {m6 μ6 H6} s6 => S3.step (by rw [ow]; exact s6)
      cases b with
      | false =>
        rw [if_neg Bool.false_ne_true] at q5 ⊢
        exact ⟨m5, μ5, acc, us, pm.trans s5.pre, fun z hz => ((s5.hid z (.inl hz)).trans (hid3 z (.inl hz))).trans (hid z hz), back s5, (sm.trans sm3).trans s5.same, ((s5.hid D (.inr rfl)).trans (hid3 D (.inr rfl))).trans hD, Reps.mono s5.pre (sm3.trans s5.same) _ _ ra, q5⟩
      | true =>
        rw [if_pos rfl] at q5 ⊢
        refine ⟨addZ Z D, m5, ρ4, μ5, _, _, S4.step (by rw [ow4, ow]; exact s5), q5, fun u H6 P => ?_, fun cls dd H6 P => (xpF P).elim⟩
        obtain ⟨m6, yd, μ6, s6, r6, hlen, q6⟩ := P
        rw [ow4, ow] at s6 r6
        have s56 := s5.trans s6
        refine ⟨us, ((s56.hid D (.inr rfl)).trans (hid3 D (.inr rfl))).trans hD, by rw [← ra.len]; exact Nat.lt_of_lt_of_le hlen (by decide), ?_⟩
        refine ⟨m6, μ6, acc ++ [yd], us ++ [u], pm.trans s56.pre, fun z hz => ?_, (back s56).hid, ?_, upd_same, ?_, q6⟩
        · have hb : z ≠ D := fun e => nDW (e ▸ hz)
          rw [upd_ne hb]
          exact ((s56.hid z (.inl hz)).trans (hid3 z (.inl hz))).trans (hid z hz)
        · rw [vis_hidden]
          exact (sm.trans sm3).trans s56.same
        · rw [vis_hidden]
          exact Reps.append (Reps.mono s56.pre (sm3.trans s56.same) _ _ ra) (Reps.cons r6 Reps.nil)
  · have e : i = ds.length := by omega
    subst e
    rw [List.drop_length, lcLC] at q'
    refine .inl ⟨ok.stop _ m' μ' H' pm sm Mu' hC, kq _ _ (VPost.from s1 ?_)⟩
    have M' := S'.mu
    rw [ow] at M'
    have sub : ∀ b, ownW Z σ ρ b → addZ (ownW Z σ ρ) D b := fun b h => .inl h
    refine ⟨m', .lst acc, μ', ⟨pm, hid, M'.less sub, sm.trans (vis_mono sub)⟩, ?_, q'.2⟩
    rw [Rep]
    exact ⟨D, us, rfl, vis_some.mpr ⟨nDW, fun z => M'.out D z (.inr rfl), hD⟩, Reps.mono (List.prefix_refl _) (vis_mono sub) _ _ ra⟩
section
variable {W : WX} {X : Cx} {elt tg iter : Expr} {ifs : List Expr} {scope : Scope} {own : List (Str × Nat)} {pos : Pos} {wi : WIC} {g : TG} {k : WG} {tt : WT} {te : WE}
theorem de_lcU (hc : X.calm = true) (hN : X.N.Nodup) (hi : DIC none W X tg iter wi) (ok : BlkOk X.N X.env.scope scope own) (hk : LcG (gx X none) (own.map (·.2)) g k)
    (hg : ∀ (s : Shared) (H : Hp) (C : Addr) (cl : List (Str × Addr)) (fp : List Addr), PG (X.blk s H scope (compEnvC scope cl C X.env) fp) tg g) (ht : ∀ (s : Shared) (H : Hp) (C : Addr) (cl : List (Str × Addr)) (fp : List Addr), DTs (X.blk s H scope (compEnvC scope cl C X.env) fp) ifs tt)
    (he : ∀ (s : Shared) (H : Hp) (C : Addr) (cl : List (Str × Addr)) (fp : List Addr), DE none WF (X.blk s H scope (compEnvC scope cl C X.env) fp) elt te) (hs : ∀ x, foldedSetIterable iter X.env x = pure x := by intro _; rfl) :
    DE none W X (.ListComp elt [⟨tg, iter, ifs, 0⟩] scope pos) (wLcU wi k tt te (own.map (·.2))) := pe_weak (pe_lc hc hN hi ok hg ht he hs) fun _ _ _ q => lift_lcU hk q
end
/-! ### list(x) as a cell; x.append(v) of a cell -/
def fListOfC : FN := fun xs μ Q => match xs with
  | [x] => match itemsD x μ with
    | some ds => Q (.loc μ.length) (μ ++ [.lst ds])
    | none => False
  | _ => False
def appL (x y : D) (μ : Mu) (Q : D → Mu → Prop) : Prop := match x with
  | .loc n => match μ[n]? with
    | some (.lst ds) => ds.length < 1000000 ∧ Q .non (μ.set n (.lst (ds ++ [y])))
    | _ => False
  | _ => False
def wAppL (wo wa : WE) : WE := fun ρ μ Q Xd => wo ρ μ (fun x μ1 => isC x μ1 (wa ρ μ1 (fun y μ2 => appL x y μ2 Q) Xd)) Xd
section
variable {W : WX} {X : Cx} {e o : Expr} {wa wo : WE} {pos apos : Pos}
end
/-! ### o[i] = v by an own `__setitem__` -/
def sSetIx (cs : List Str) (sp : DSp) (wo wi wa : WE) : WS := fun E ρ μ => wa ρ μ (fun d μ1 => wo ρ μ1 (fun x μ2 => wi ρ μ2 (fun y μ3 => isClsU cs x μ3 (sp [x, y, d] μ3 (fun _ μ4 => E.nx ρ μ4) (fun c ks es μ' => E.xc c ks es ρ μ'))) (fun c ks es μ' => E.xc c ks es ρ μ')) (fun c ks es μ' => E.xc c ks es ρ μ')) fun c ks es μ' => E.xc c ks es ρ μ'
section
variable {W : WX} {X : Cx} {o ix value : Expr} {wa wo wi : WE} {pos p1 : Pos} {k j : Nat} {ps cs : List Str} {sp : DSp}
end
end DL

set_option Elab.async false
set_option linter.all false
set_option maxRecDepth 100000
set_option maxHeartbeats 4000000
set_option autoImplicit false
/-! ==, != of lists whose items have an own `__eq__`, either list shown or a cell. -/
namespace DL
open PySem PySem.Spec PyProof.Rows L2
section
variable {X : Cx} {k j : Nat} {ps : List Str} {c : Str} {Ts : List String} {Cs : List Str} {sp : DSp} {r : Bool}
end
end DL

set_option Elab.async false
set_option linter.all false
set_option maxRecDepth 100000
set_option maxHeartbeats 4000000
set_option autoImplicit false
/-! A list, shown or a cell, against the empty list. -/
namespace DL
open PySem PySem.Spec PyProof.Rows L2
section
variable {prog : Program} {w : World} {A : Around}
end
/-- a, b = e, []: the second a list of the def's own -/
def sPar2O (i j : Nat) (wa : WE) : WS := fun E ρ μ => wa ρ μ (fun d μ1 => j < ρ.length ∧ ∀ p, E.nx ((ρ.set j (.own p (.lst []))).set i (.v d)) μ1) fun c ks es μ' => E.xc c ks es ρ μ'
end DL

set_option Elab.async false
set_option linter.all false
set_option maxRecDepth 100000
set_option maxHeartbeats 4000000
set_option autoImplicit false
/-! ==, != of lists of tuples whose items are pairs or things with an own `__eq__`, all alike. -/
namespace DL
open PySem PySem.Spec PyProof.Rows L2
section
variable {X : Cx} {k j : Nat} {ps : List Str} {c : Str} {Ts : List String} {Cs : List Str} {sp : DSp}
end
section
variable {X : Cx} {k j : Nat} {ps : List Str} {c : Str} {Ts : List String} {Cs : List Str} {sp : DSp}
end
end DL

set_option Elab.async false
set_option linter.all false
set_option maxRecDepth 100000
set_option maxHeartbeats 4000000
set_option autoImplicit false
namespace DL
open PySem PySem.Spec PyProof.Rows L2
/-! sorted of ints, any number of them -/
def fSortW : FN := fun xs μ Q => match xs with
  | [x] => lstInts x fun ns => ∀ ns' : List Int, ns'.Perm ns → ns'.Pairwise (· ≤ ·) → Q (.lst (ns'.map D.int)) μ
  | _ => False
theorem sn_sortW {G : Gx} : SN G (rSortedI G.K) fSortW := by
  intro Z m μ H xs us Q Q' M r h k
  unfold fSortW at h
  split at h
  · obtain ⟨v, t, rfl, r1, r2⟩ := r.uncons
    rw [Reps] at r2
    subst r2
    obtain ⟨ns, a, rfl, s, q⟩ := lstInts_rep h r1
    refine ⟨a, ns, rfl, Same.seq vis_le s, fun ns' p h1 h2 np => k _ _ ?_⟩
    have s2 := Step.laid (o := .lst (ns'.map V.int)) M np
    refine ⟨m, _, μ, s2, ?_, q ns' h1 h2⟩
    rw [Rep]
    exact ⟨p, _, rfl, by rw [vis_upd M np, upd_same], reps_ints ns'⟩
  · exact h.elim
theorem sortW_go {ns : List Int} {μ : Mu} {Q : D → Mu → Prop} (h : ∀ ns' : List Int, ns'.Perm ns → ns'.Pairwise (· ≤ ·) → Q (.lst (ns'.map D.int)) μ) : fSortW [.lst (ns.map D.int)] μ Q := by
  have e : intsD (ns.map D.int) = some ns := by
    induction ns with
    | nil => rfl
    | cons a l ih =>
      have hl : intsD (l.map D.int) = some l := by
        clear ih h
        induction l with
        | nil => rfl
        | cons b l ih => rw [List.map_cons, intsD, ih]; rfl
      rw [List.map_cons, intsD, hl]
      rfl
  exact ⟨ns, e, h⟩
end DL

set_option Elab.async false
set_option linter.all false
set_option maxRecDepth 100000
set_option maxHeartbeats 4000000
set_option autoImplicit false
/-! An __init__ that returns early. -/
namespace DL
open PySem PySem.Spec PyProof.Rows L2
/-- its end is a return -/
def liftR (G : Gx) (W : WX) (w : WS) : TS := fun D σ H => ∃ Z m ρ μ E, SR G Z m σ H ρ μ ∧ w E ρ μ ∧ (∀ σ' H', SPost G Z m σ ρ H E.nx σ' H' → D.rt .non H') ∧ (∀ v H', RPost G Z m σ ρ H E.rt v H' → D.rt v H') ∧
  (∀ σ' H', SPost G Z m σ ρ H E.bk σ' H' → D.bk σ' H') ∧ (∀ σ' H', SPost G Z m σ ρ H E.ct σ' H' → D.ct σ' H') ∧ ∀ cls d σ' H', XSPost G Z m σ ρ H E.xc cls d σ' H' → W cls d σ' H'
/-- its end is either -/
def liftIn (G : Gx) (W : WX) (w : WS) : TS := fun D σ H => ∃ Z m ρ μ E, SR G Z m σ H ρ μ ∧ w E ρ μ ∧ (∀ σ' H', SPost G Z m σ ρ H E.nx σ' H' → D.nx σ' H' ∧ D.rt .non H') ∧ (∀ v H', RPost G Z m σ ρ H E.rt v H' → D.rt v H') ∧
  (∀ σ' H', SPost G Z m σ ρ H E.bk σ' H' → D.bk σ' H') ∧ (∀ σ' H', SPost G Z m σ ρ H E.ct σ' H' → D.ct σ' H') ∧ ∀ cls d σ' H', XSPost G Z m σ ρ H E.xc cls d σ' H' → W cls d σ' H'
abbrev DSr (W : WX) (X : Cx) (st : List Stmt) (w : WS) : Prop := PSs X st (liftR (gx X none) W w)
abbrev DSi (W : WX) (X : Cx) (st : List Stmt) (w : WS) : Prop := PSs X st (liftIn (gx X none) W w)
section
variable {W : WX} {X : Cx} {st : Stmt} {rest x : List Stmt} {a b : WS} {t : WT} {pos : Pos} {c : Expr}
theorem dsr_ret : DSr W X [.Return none pos] sNext := pss_weak (pss_one ps_retN) fun D σ H q => by
  obtain ⟨Z, m, ρ, μ, E, S, q, kn, _⟩ := q
  exact kn σ H ⟨m, ρ, μ, S, .refl, q⟩
theorem dsr_cons (h1 : DSt none W X st a) (h2 : DSr W X rest b) : DSr W X (st :: rest) (sSeq a b) := pss_weak (pss_cons h1 h2) fun D σ H q => by
  obtain ⟨Z, m, ρ, μ, E, S, q, kn, kr, kb, kc, kx⟩ := q
  refine ⟨Z, m, ρ, μ, _, S, q, fun σ1 H1 P => ?_, kr, kb, kc, kx⟩
  obtain ⟨m1, ρ1, μ1, S1, s1, q1⟩ := P
  exact ⟨Z, m1, ρ1, μ1, E, S1, q1, fun σ' H' P => kn σ' H' (SPost.from s1 P), fun v H' P => kr v H' (RPost.from s1 P), fun σ' H' P => kb σ' H' (SPost.from s1 P), fun σ' H' P => kc σ' H' (SPost.from s1 P), fun cls d σ' H' P => kx cls d σ' H' (XSPost.from s1 P)⟩
theorem dsi_of (h : DSs none W X rest b) : DSi W X rest b := pss_weak h fun D σ H q => by
  obtain ⟨Z, m, ρ, μ, E, S, q, kn, kr, kb, kc, kx⟩ := q
  exact ⟨Z, m, ρ, μ, E, S, q, fun σ' H' P => (kn σ' H' P).1, kr, kb, kc, kx⟩
/-- if c: .. return -/
theorem dsi_ifr (hc : DT none W X c t) (ha : DSr W X x a) (hb : DSi W X rest b) : DSi W X (.If c x [] pos :: rest) (sIf t a b) := pss_weak (pss_cons (ps_if hc ha pss_nil) hb) fun D σ H q => by
  obtain ⟨Z, m, ρ, μ, E, S, q, kn, kr, kb, kc, kx⟩ := q
  refine ⟨Z, m, ρ, μ, _, _, S, q, fun c H1 P => ?_, fun cls d H' P => kx cls d σ H' (XSPost.of S P)⟩
  obtain ⟨m1, μ1, s1, q1⟩ := P
  have S1 := S.step s1
  have s2 : SStep (gx X none) Z m σ ρ H m1 σ ρ H1 := SStep.of s1
  cases c with
  | true =>
    rw [if_pos rfl] at q1 ⊢
    exact ⟨Z, m1, ρ, μ1, E, S1, q1, fun σ' H' P => (kn σ' H' (SPost.from s2 P)).2, fun v H' P => kr v H' (RPost.from s2 P), fun σ' H' P => kb σ' H' (SPost.from s2 P), fun σ' H' P => kc σ' H' (SPost.from s2 P), fun cls d σ' H' P => kx cls d σ' H' (XSPost.from s2 P)⟩
  | false =>
    rw [if_neg Bool.false_ne_true] at q1 ⊢
    exact ⟨Z, m1, ρ, μ1, E, S1, q1, fun σ' H' P => kn σ' H' (SPost.from s2 P), fun v H' P => kr v H' (RPost.from s2 P), fun σ' H' P => kb σ' H' (SPost.from s2 P), fun σ' H' P => kc σ' H' (SPost.from s2 P), fun cls d σ' H' P => kx cls d σ' H' (XSPost.from s2 P)⟩
end
section
variable {P : Program} {w : World} {K : PySem.W.Frag} {mg : Str → Option Value} {base : Heap}
theorem def_okI2 {x qual : Str} {params : Arguments} {body : List Stmt} {scope : Scope} {dvs : List V} {kws : List (Str × V)} {f : Addr} {fd : FuncData} {N ps : List Str} {k : Nat} {c : Str} {sp : ISp} {wb : WS} (F : FunD K x qual params body scope dvs kws f fd) (S : FnScope N ps scope)
    (len : ∀ ds μ Q Xd, sp ds μ Q Xd → ds.length + 1 = ps.length)
    (hbody : ∀ (cdv : Value) (A : Around) (fr : List Env) (s : Shared) (H : Hp) (E : XK), Room k (A.deeper (envOfC qual scope s.heap.objs.size f cdv)) → (A.deeper (envOfC qual scope s.heap.objs.size f cdv)).guards = some [] →
      DSi (fun cls d _ H' => E cls d H') (cxOf (L2.CX P w) P w K mg base N qual scope f cdv A fr s H E) body wb)
    (hw : ∀ ds μ Q Xd (a : Addr), sp ds μ Q Xd → wb (defI c a Q Xd) (startI N c a ds) μ) : FnG P w K mg base (k + 1) f fd ps (toSpI ⟨K, mg, none⟩ c sp) := by
  refine fnG_of F S (fun vs H Q E h => ?_) (fun cdv A outer s H vs Q E hr hgd h => ?_)
  · obtain ⟨a, us, C, dx, Z, m, μ, ds, Q', Xd, rfl, _, _, _, _, r, q, _⟩ := h
    rw [List.length_cons, ← r.len]
    exact len _ _ _ _ q
  · refine ⟨_, hbody cdv A outer s H E hr hgd, ?_⟩
    obtain ⟨a, us, C, dx, Z, m, μ, ds, Q', Xd, rfl, g, hx, nz, M, r, q, kq, kx⟩ := h
    refine ⟨Z, m, startI N c a ds, μ, defI c a Q' Xd, .startI g hx nz M r, hw ds μ Q' Xd a q, fun σ' H' P => ?_, fun v H' P => ?_, fun σ' H' P => ?_, fun σ' H' P => ?_, fun cls d σ' H' P => ?_⟩
    · obtain ⟨m', ρ', μ', S', s', q'⟩ := P
      obtain ⟨ks, es, h0, q2⟩ := initEnd_of q'
      obtain ⟨_, _, hc⟩ := S'.own 0 a _ h0
      have z := s'.same
      rw [startI_ownW] at z
      have sub : ∀ b, addZ Z a b → ownW Z σ' ρ' b := fun b h => by
        rcases h with h | h
        · exact .inl h
        · subst h; exact .inr ⟨0, _, h0⟩
      have sm := vis_mono (m := m') (H := H') sub
      have fin := kq _ ⟨m', ks, es, μ', s'.pre, s'.hid, S'.mu.less sub, z.trans sm, hc.keep (List.prefix_refl _) sm rfl, q2⟩
      exact ⟨fin, fin⟩
    · obtain ⟨m', d, μ', h1, h2, h3, h4, h5, h6⟩ := P
      exact h6.elim
    · obtain ⟨m', ρ', μ', S', s', q'⟩ := P
      exact q'.elim
    · obtain ⟨m', ρ', μ', S', s', q'⟩ := P
      exact q'.elim
    · obtain ⟨m', c', ks, es, ρ', μ', C', dd, vs', S', s', e1, e2, e3, e4, e5, e6, q'⟩ := P
      have z := s'.same
      rw [startI_ownW] at z
      exact kx _ _ _ ⟨m', c', ks, es, μ', C', dd, vs', s'.pre, s'.hid, S'.mu.out_own, z.trans vis_own, e1, e2, e3, vis_own _ _ e4, e5, Reps.mono (List.prefix_refl _) vis_own _ _ e6, q'⟩
end
end DL

set_option Elab.async false
set_option linter.all false
set_option maxRecDepth 100000
set_option maxHeartbeats 4000000
set_option autoImplicit false
/-! [.. for a, b, c in lists] -/
namespace DL
open PySem PySem.Spec PyProof.Rows L2
end DL

set_option Elab.async false
set_option linter.all false
set_option maxRecDepth 100000
set_option maxHeartbeats 4000000
set_option autoImplicit false
/-! The head's run in four looks (hint split4). -/
namespace DL
open PySem PySem.Spec PyProof.Rows L2
end DL

set_option Elab.async false
set_option linter.all false
set_option maxRecDepth 100000
set_option maxHeartbeats 0
set_option autoImplicit false
namespace K46
open PySem PySem.Spec PyProof.Rows L2 DL
def top (i : Nat) : Stmt := PySem.Challenge.pw_filledonce_k46_snapped_and_unlike.main.body.getD i (.Pass ⟨0, 0, 0, 0⟩)
def fn : List He5.DefA := [
  ⟨fun K => He.fAd K ("is_integer", none), "is_integer", "is_integer", defArgs (top 12), defBody (top 12), defScope (top 12), [], []⟩,
  ⟨fun K => He.fAd K ("is_between", none), "is_between", "is_between", defArgs (top 13), defBody (top 13), defScope (top 13), [], []⟩,
  ⟨fun K => He.fAd K ("numbers_of", none), "numbers_of", "numbers_of", defArgs (top 18), defBody (top 18), defScope (top 18), [], []⟩,
  ⟨fun K => He.fAd K ("Grid", some "__init__"), "__init__", "Grid.__init__", defArgs (inClass (top 29) 0), defBody (inClass (top 29) 0), defScope (inClass (top 29) 0), [], []⟩,
  ⟨fun K => He.fAd K ("check_ahead", none), "check_ahead", "check_ahead", defArgs (top 61), defBody (top 61), defScope (top 61), [], []⟩,
  ⟨fun K => He.fAd K ("common_divisor", none), "common_divisor", "common_divisor", defArgs (top 52), defBody (top 52), defScope (top 52), [], []⟩,
  ⟨fun K => He.fAd K ("lowest_pair", none), "lowest_pair", "lowest_pair", defArgs (top 53), defBody (top 53), defScope (top 53), [], []⟩,
  ⟨fun K => He.fAd K ("way_in", none), "way_in", "way_in", defArgs (top 60), defBody (top 60), defScope (top 60), [], []⟩,
  ⟨fun K => He.fAd K ("Half", some "__init__"), "__init__", "Half.__init__", defArgs (inClass (top 62) 0), defBody (inClass (top 62) 0), defScope (inClass (top 62) 0), [], []⟩,
  ⟨fun K => He.fAd K ("Net", some "__eq__"), "__eq__", "Net.__eq__", defArgs (inClass (top 42) 12), defBody (inClass (top 42) 12), defScope (inClass (top 42) 12), [], []⟩,
  ⟨fun K => He.fAd K ("check_points", none), "check_points", "check_points", defArgs (top 39), defBody (top 39), defScope (top 39), [], []⟩,
  ⟨fun K => He.fAd K ("is_triple", none), "is_triple", "is_triple", defArgs (top 40), defBody (top 40), defScope (top 40), [], []⟩,
  ⟨fun K => He.fAd K ("check_triples", none), "check_triples", "check_triples", defArgs (top 41), defBody (top 41), defScope (top 41), [], []⟩,
  ⟨fun K => He.fAd K ("Net", some "__init__"), "__init__", "Net.__init__", defArgs (inClass (top 42) 0), defBody (inClass (top 42) 0), defScope (inClass (top 42) 0), [], []⟩,
  ⟨fun K => He.fAd K ("Point", some "pair"), "pair", "Point.pair", defArgs (inClass (top 17) 2), defBody (inClass (top 17) 2), defScope (inClass (top 17) 2), [], []⟩,
  ⟨fun K => He.fAd K ("Point", some "__init__"), "__init__", "Point.__init__", defArgs (inClass (top 17) 0), defBody (inClass (top 17) 0), defScope (inClass (top 17) 0), [], []⟩,
  ⟨fun K => He.fAd K ("point_of", none), "point_of", "point_of", defArgs (top 20), defBody (top 20), defScope (top 20), [], []⟩,
  ⟨fun K => He.fAd K ("Samples", some "points"), "points", "Samples.points", defArgs (inClass (top 36) 1), defBody (inClass (top 36) 1), defScope (inClass (top 36) 1), [], []⟩,
  ⟨fun K => He.fAd K ("_law_half_in", none), "_law_half_in", "_law_half_in", defArgs (top 73), defBody (top 73), defScope (top 73), [], []⟩,
  ⟨fun K => He.fAd K ("_law_kind", none), "_law_kind", "_law_kind", defArgs (top 72), defBody (top 72), defScope (top 72), [], []⟩,
  ⟨fun K => He.fAd K ("_law_in", none), "_law_in", "_law_in", defArgs (top 76), defBody (top 76), defScope (top 76), [], []⟩,
  ⟨fun K => He.fAd K ("_law_side", none), "_law_side", "_law_side", defArgs (top 70), defBody (top 70), defScope (top 70), [], []⟩,
  ⟨fun K => He.fAd K ("_law_ways", none), "_law_ways", "_law_ways", defArgs (top 71), defBody (top 71), defScope (top 71), [], []⟩,
  ⟨fun K => He.fAd K ("_law_owns", none), "_law_owns", "_law_owns", defArgs (top 77), defBody (top 77), defScope (top 77), [], []⟩,
  ⟨fun K => He.fAd K ("_law_counted", none), "_law_counted", "_law_counted", defArgs (top 79), defBody (top 79), defScope (top 79), [], []⟩,
  ⟨fun K => He.fAd K ("_law_draw", none), "_law_draw", "_law_draw", defArgs (top 68), defBody (top 68), defScope (top 68), [], []⟩,
  ⟨fun K => He.fAd K ("_law_hand", none), "_law_hand", "_law_hand", defArgs (top 67), defBody (top 67), defScope (top 67), [], []⟩,
  ⟨fun K => He.fAd K ("_law_nearest", none), "_law_nearest", "_law_nearest", defArgs (top 81), defBody (top 81), defScope (top 81), [], []⟩,
  ⟨fun K => He.fAd K ("_law_pair", none), "_law_pair", "_law_pair", defArgs (top 69), defBody (top 69), defScope (top 69), [], []⟩,
  ⟨fun K => He.fAd K ("_law_net", none), "_law_net", "_law_net", defArgs (top 78), defBody (top 78), defScope (top 78), [], []⟩,
  ⟨fun K => He.fAd K ("check_least", none), "check_least", "check_least", defArgs (top 15), defBody (top 15), defScope (top 15), [], []⟩,
  ⟨fun K => He.fAd K ("nearest", none), "nearest", "nearest", defArgs (top 44), defBody (top 44), defScope (top 44), [], []⟩,
  ⟨fun K => He.fAd K ("snapped", none), "snapped", "snapped", defArgs (top 45), defBody (top 45), defScope (top 45), [], []⟩,
  ⟨fun K => He.fAd K ("_law_refused", none), "_law_refused", "_law_refused", defArgs (top 82), defBody (top 82), defScope (top 82), [], []⟩,
  ⟨fun K => He.fAd K ("_law_told_half", none), "_law_told_half", "_law_told_half", defArgs (top 80), defBody (top 80), defScope (top 80), [], []⟩,
  ⟨fun K => He.fAd K ("each_once", none), "each_once", "each_once", defArgs (top 33), defBody (top 33), defScope (top 33), [], []⟩,
  ⟨fun K => He.fAd K ("in_rows", none), "in_rows", "in_rows", defArgs (top 34), defBody (top 34), defScope (top 34), [], []⟩,
  ⟨fun K => He.fAd K ("Samples", some "__init__"), "__init__", "Samples.__init__", defArgs (inClass (top 36) 0), defBody (inClass (top 36) 0), defScope (inClass (top 36) 0), [], []⟩,
  ⟨fun K => He.fAd K ("box_of", none), "box_of", "box_of", defArgs (top 32), defBody (top 32), defScope (top 32), [], []⟩,
  ⟨fun K => He.fAd K ("Net", some "corners_of"), "corners_of", "Net.corners_of", defArgs (inClass (top 42) 7), defBody (inClass (top 42) 7), defScope (inClass (top 42) 7), [], []⟩,
  ⟨fun K => He.fAd K ("cross_of", none), "cross_of", "cross_of", defArgs (top 22), defBody (top 22), defScope (top 22), [], []⟩,
  ⟨fun K => He.fAd K ("Half", some "has"), "has", "Half.has", defArgs (inClass (top 62) 5), defBody (inClass (top 62) 5), defScope (inClass (top 62) 5), [], []⟩,
  ⟨fun K => He.fAd K ("less", none), "less", "less", defArgs (top 21), defBody (top 21), defScope (top 21), [], []⟩,
  ⟨fun K => He.fAd K ("side_of", none), "side_of", "side_of", defArgs (top 23), defBody (top 23), defScope (top 23), [], []⟩,
  ⟨fun K => He.fAd K ("ways_of", none), "ways_of", "ways_of", defArgs (top 25), defBody (top 25), defScope (top 25), [], []⟩,
  ⟨fun K => He.fAd K ("is_owned", none), "is_owned", "is_owned", defArgs (top 26), defBody (top 26), defScope (top 26), [], []⟩,
  ⟨fun K => He.fAd K ("owner_counts", none), "owner_counts", "owner_counts", defArgs (top 43), defBody (top 43), defScope (top 43), [], []⟩,
  ⟨fun K => He.fAd K ("first_from", none), "first_from", "first_from", defArgs (top 30), defBody (top 30), defScope (top 30), [], []⟩,
  ⟨fun K => He.fAd K ("pairs_between", none), "pairs_between", "pairs_between", defArgs (top 31), defBody (top 31), defScope (top 31), [], []⟩,
  ⟨fun K => He.fAd K ("unlike", none), "unlike", "unlike", defArgs (top 46), defBody (top 46), defScope (top 46), [], []⟩,
  ⟨fun K => He.fAd K ("law", none), "law", "law", defArgs (top 83), defBody (top 83), defScope (top 83), [], []⟩,
  ⟨fun K => He.fAd K ("InvalidGrid", some "__init__"), "__init__", "InvalidGrid.__init__", defArgs (inClass (top 8) 0), defBody (inClass (top 8) 0), defScope (inClass (top 8) 0), [], []⟩,
  ⟨fun K => He.fAd K ("InvalidHalf", some "__init__"), "__init__", "InvalidHalf.__init__", defArgs (inClass (top 7) 0), defBody (inClass (top 7) 0), defScope (inClass (top 7) 0), [], []⟩,
  ⟨fun K => He.fAd K ("InvalidNet", some "__init__"), "__init__", "InvalidNet.__init__", defArgs (inClass (top 10) 0), defBody (inClass (top 10) 0), defScope (inClass (top 10) 0), [], []⟩,
  ⟨fun K => He.fAd K ("InvalidNumber", some "__init__"), "__init__", "InvalidNumber.__init__", defArgs (inClass (top 4) 0), defBody (inClass (top 4) 0), defScope (inClass (top 4) 0), [], []⟩,
  ⟨fun K => He.fAd K ("InvalidPoint", some "__init__"), "__init__", "InvalidPoint.__init__", defArgs (inClass (top 3) 0), defBody (inClass (top 3) 0), defScope (inClass (top 3) 0), [], []⟩,
  ⟨fun K => He.fAd K ("InvalidSamples", some "__init__"), "__init__", "InvalidSamples.__init__", defArgs (inClass (top 9) 0), defBody (inClass (top 9) 0), defScope (inClass (top 9) 0), [], []⟩]
def fa : List He.Fa := [.glo "is_integer", .glo "is_between", .glo "numbers_of", .glo "check_ahead", .glo "common_divisor", .glo "lowest_pair", .glo "way_in", .glo "check_points", .glo "is_triple", .glo "check_triples", .glo "point_of", .glo "_law_half_in", .glo "_law_kind", .glo "_law_in", .glo "_law_side", .glo "_law_ways", .glo "_law_owns", .glo "_law_counted", .glo "_law_draw", .glo "_law_hand", .glo "_law_nearest", .glo "_law_pair", .glo "_law_net", .glo "check_least", .glo "nearest", .glo "snapped", .glo "_law_refused", .glo "_law_told_half", .glo "each_once", .glo "in_rows", .glo "box_of", .glo "cross_of", .glo "less", .glo "side_of", .glo "ways_of", .glo "is_owned", .glo "owner_counts", .glo "first_from", .glo "pairs_between", .glo "unlike", .glo "law", .glo "FillError", .glo "InvalidNumber", .glo "InvalidPoint", .glo "Net", .glo "Pairs", .glo "Point", .free "abs", .free "all", .free "bool", .free "enumerate", .free "int", .free "isinstance", .free "len", .free "list", .free "max", .free "min", .free "range", .free "repr", .free "sorted", .free "tuple", .int "MOST_POINTS" (100), .int "MOST_STEP" (1000000000000000000000000000000), .glo "Grid", .cls "Grid", .noat "Grid" "rest", .noat "Grid" "step", .glo "Half", .cls "Half", .noat "Half" "own_ahead", .noat "Half" "own_way", .cls "Net", .noat "Net" "own_triples", .noat "Net" "pairs", .cls "Pairs", .noat "Pairs" "pairs", .cls "Point", .noat "Point" "x", .noat "Point" "y", .glo "Samples", .cls "Samples", .noat "Samples" "pairs", .mkr "Grid", .mkr "Half", .mkr "Net", .mkr "Point", .mkr "Samples", .meth "Point" "pair", .meth "Samples" "points", .meth "Net" "corners_of", .meth "Half" "has"]
def isiL : IsiL := [((.b "int", .b "int"), true), ((.b "bool", .b "int"), true), ((.b "str", .b "int"), false), ((.b "NoneType", .b "int"), false), ((.b "tuple", .b "int"), false), ((.b "list", .b "int"), false), ((.c "Point", .b "int"), false), ((.c "Grid", .b "int"), false), ((.c "Samples", .b "int"), false), ((.c "Net", .b "int"), false), ((.c "Half", .b "int"), false), ((.b "int", .b "bool"), false), ((.b "bool", .b "bool"), true), ((.b "str", .b "bool"), false), ((.b "NoneType", .b "bool"), false), ((.b "tuple", .b "bool"), false), ((.b "list", .b "bool"), false), ((.c "Point", .b "bool"), false), ((.c "Grid", .b "bool"), false), ((.c "Samples", .b "bool"), false), ((.c "Net", .b "bool"), false), ((.c "Half", .b "bool"), false), ((.b "int", .c "Point"), false), ((.b "bool", .c "Point"), false), ((.b "str", .c "Point"), false), ((.b "NoneType", .c "Point"), false), ((.b "tuple", .c "Point"), false), ((.b "list", .c "Point"), false), ((.c "Point", .c "Point"), true), ((.c "Grid", .c "Point"), false), ((.c "Samples", .c "Point"), false), ((.c "Net", .c "Point"), false), ((.c "Half", .c "Point"), false), ((.b "int", .b "tuple"), false), ((.b "bool", .b "tuple"), false), ((.b "str", .b "tuple"), false), ((.b "NoneType", .b "tuple"), false), ((.b "tuple", .b "tuple"), true), ((.b "list", .b "tuple"), false), ((.c "Point", .b "tuple"), false), ((.c "Grid", .b "tuple"), false), ((.c "Samples", .b "tuple"), false), ((.c "Net", .b "tuple"), false), ((.c "Half", .b "tuple"), false), ((.b "int", .c "Net"), false), ((.b "bool", .c "Net"), false), ((.b "str", .c "Net"), false), ((.b "NoneType", .c "Net"), false), ((.b "tuple", .c "Net"), false), ((.b "list", .c "Net"), false), ((.c "Point", .c "Net"), false), ((.c "Grid", .c "Net"), false), ((.c "Samples", .c "Net"), false), ((.c "Net", .c "Net"), true), ((.c "Half", .c "Net"), false), ((.b "int", .b "list"), false), ((.b "bool", .b "list"), false), ((.b "str", .b "list"), false), ((.b "NoneType", .b "list"), false), ((.b "tuple", .b "list"), false), ((.b "list", .b "list"), true), ((.c "Point", .b "list"), false), ((.c "Grid", .b "list"), false), ((.c "Samples", .b "list"), false), ((.c "Net", .b "list"), false), ((.c "Half", .b "list"), false), ((.b "int", .c "Pairs"), false), ((.b "bool", .c "Pairs"), false), ((.b "str", .c "Pairs"), false), ((.b "NoneType", .c "Pairs"), false), ((.b "tuple", .c "Pairs"), false), ((.b "list", .c "Pairs"), false), ((.c "Point", .c "Pairs"), false), ((.c "Grid", .c "Pairs"), false), ((.c "Samples", .c "Pairs"), false), ((.c "Net", .c "Pairs"), false), ((.c "Half", .c "Pairs"), false)]
abbrev isiT : TyN → TyN → Option Bool := isiF isiL
def catL_FillError : List (Str × Bool) := [("InvalidGrid", true), ("InvalidHalf", true), ("InvalidNet", true), ("InvalidNumber", true), ("InvalidPoint", true), ("InvalidSamples", true)]
def xfC_number : List Str := ["InvalidNet", "InvalidNumber", "InvalidSamples"]
def isxL : IsxL := [(("InvalidGrid", "InvalidNumber"), false), (("InvalidGrid", "InvalidPoint"), false), (("InvalidHalf", "InvalidNumber"), false), (("InvalidHalf", "InvalidPoint"), false), (("InvalidNet", "InvalidNumber"), false), (("InvalidNet", "InvalidPoint"), false), (("InvalidNumber", "InvalidNumber"), true), (("InvalidNumber", "InvalidPoint"), false), (("InvalidPoint", "InvalidNumber"), false), (("InvalidPoint", "InvalidPoint"), true), (("InvalidSamples", "InvalidNumber"), false), (("InvalidSamples", "InvalidPoint"), false)]
def exB (K : PySem.W.Frag) : Bool := isiB isiL K && (cmpB K "Net" "__eq__" [] ["Net"] && (neB K "Net" && (rxB K "InvalidGrid" ["part"] && (rxB K "InvalidHalf" ["part"] && (rxB K "InvalidNet" ["part", "number"] && (rxB K "InvalidNumber" ["number"] && (rxB K "InvalidPoint" ["thing"] && (rxB K "InvalidSamples" ["number"] && (catB K "FillError" catL_FillError && ((xfC_number.all fun x => (He.Fa.glo x).ok K && (xfB K (He.ga K x) && He.eqO (PySem.W.findIn K (.ref (He.ga K x)) "number") (some none))) && (isxB K isxL)))))))))))
def loose0 : List PySem.Str := ["_wall", "FillError", "InvalidPoint", "InvalidNumber", "NoDirection", "InvalidTable", "InvalidHalf", "InvalidGrid", "InvalidSamples", "InvalidNet", "is_integer", "is_between", "check_between", "check_least", "Point", "numbers_of", "pair_of", "point_of", "less", "cross_of", "side_of", "ways_of", "is_owned", "MOST_STEP", "Grid", "first_from", "pairs_between", "box_of", "each_once", "in_rows"]
def loose1 : List PySem.Str := ["Pairs", "Samples", "MOST_POINTS", "check_points", "is_triple", "check_triples", "Net", "owner_counts", "nearest", "snapped", "unlike", "KINDS", "sign_of", "direction_of", "kind_of_pair", "common_divisor", "lowest_pair", "AXES", "WAYS", "Rule", "check_truths", "Table", "way_in", "check_ahead", "Half", "corners_of_kind", "kinds_of_half", "is_within", "_law_hand", "_law_draw"]
def loose2 : List PySem.Str := ["_law_pair", "_law_side", "_law_ways", "_law_kind", "_law_half_in", "_law_rule", "_law_made", "_law_in", "_law_owns", "_law_net", "_law_counted", "_law_told_half", "_law_nearest", "_law_refused"]
def loose : List PySem.Str := loose0 ++ loose1 ++ loose2
abbrev R : PySem.W.OpenRow := PySem.W.OpenLaw.row PySem.Challenge.rw_filledonce_k46_snapped_and_unlike
def asL : List Addr := [3, 31, 51, 70, 127, 146, 165, 184, 193, 200, 214, 304, 315, 329, 336, 343, 350, 355, 362, 410, 421, 428, 433, 438, 443, 460, 534, 545, 550, 557, 652, 663, 670, 675, 682, 719, 726, 764, 861, 868, 940, 968, 975, 982, 989, 994, 1001, 1008, 1027, 1034, 1039, 1046, 1053, 1060, 1067, 1072, 30, 50, 69, 126, 145, 164, 183, 192, 199, 213, 303, 314, 328, 335, 342, 349, 354, 361, 409, 420, 427, 432, 437, 442, 459, 533, 544, 549, 556, 651, 662, 669, 674, 681, 718, 725, 763, 860, 867, 939, 967, 974, 981, 988, 993, 1000, 1007, 1026, 1033, 1038, 1045, 1052, 1059, 1066, 1071, 48, 67, 124, 143, 162, 181, 228, 245, 376, 476, 481, 569, 614, 649, 882, 923, 47, 66, 123, 142, 161, 180, 227, 244, 375, 475, 480, 568, 613, 648, 881, 922]
abbrev hk : PySem.W.Hook := hookL asL fa fn exB
def ob (s : PySem.W.SharedT) : AlY := obsL asL fa fn exB (HandSHeadRun.getT s)
theorem ob_eq (s : PySem.W.SharedT) : ob s = hk.obs s.abs := obsL_eq (HandSHeadRun.getT_eq s)
abbrev loose_q : Program := PySem.W.view R.prog [83]
theorem run_l_false (w : World) (os : OsState) : (HandSHeadRun.endF (HandSHeadRun.stepQ (HandSHeadRun.denQ HandSHeadRun.tabQ) R.prog (w.withFollow "special-get-raises" false)) 9000 R.prog (w.withFollow "special-get-raises" false) os).map (fun s => HandSHeadRun.looksF R.prog (PySem.W.boot_heap (w.withFollow "special-get-raises" false).params) s.abs) = some (true) := by
  kernel_rfl
theorem run_s_false (w : World) (os : OsState) : (HandSHeadRun.endF (HandSHeadRun.stepQ (HandSHeadRun.denQ HandSHeadRun.tabQ) R.prog (w.withFollow "special-get-raises" false)) 9000 R.prog (w.withFollow "special-get-raises" false) os).map (fun s => HandSHeadRun.seenQ loose_q loose (importedModules R.prog.main.body) (fun s => PySem.W.xlAt loose_q [] s && PySem.W.recOk R.toRowW.records s) s.abs) = some (PySem.W.openGood loose_q loose) := by
  kernel_rfl
theorem run_o_false (w : World) (os : OsState) : (HandSHeadRun.endF (HandSHeadRun.stepQ (HandSHeadRun.denQ HandSHeadRun.tabQ) R.prog (w.withFollow "special-get-raises" false)) 9000 R.prog (w.withFollow "special-get-raises" false) os).map (fun s => ob s) = some (hk.val (w.withFollow "special-get-raises" false)) := by
  kernel_rfl
theorem run_l_true (w : World) (os : OsState) : (HandSHeadRun.endF (HandSHeadRun.stepQ (HandSHeadRun.denQ HandSHeadRun.tabQ) R.prog (w.withFollow "special-get-raises" true)) 9000 R.prog (w.withFollow "special-get-raises" true) os).map (fun s => HandSHeadRun.looksF R.prog (PySem.W.boot_heap (w.withFollow "special-get-raises" true).params) s.abs) = some (true) := by
  kernel_rfl
theorem run_s_true (w : World) (os : OsState) : (HandSHeadRun.endF (HandSHeadRun.stepQ (HandSHeadRun.denQ HandSHeadRun.tabQ) R.prog (w.withFollow "special-get-raises" true)) 9000 R.prog (w.withFollow "special-get-raises" true) os).map (fun s => HandSHeadRun.seenQ loose_q loose (importedModules R.prog.main.body) (fun s => PySem.W.xlAt loose_q [] s && PySem.W.recOk R.toRowW.records s) s.abs) = some (PySem.W.openGood loose_q loose) := by
  kernel_rfl
theorem run_o_true (w : World) (os : OsState) : (HandSHeadRun.endF (HandSHeadRun.stepQ (HandSHeadRun.denQ HandSHeadRun.tabQ) R.prog (w.withFollow "special-get-raises" true)) 9000 R.prog (w.withFollow "special-get-raises" true) os).map (fun s => ob s) = some (hk.val (w.withFollow "special-get-raises" true)) := by
  kernel_rfl
theorem runs_false (w : World) : HandSHeadRun.RunEq R loose_q hk ob 9000 loose (w.withFollow "special-get-raises" false) := DL.runEq3 (run_l_false w) (run_s_false w) (run_o_false w)
theorem runs_true (w : World) : HandSHeadRun.RunEq R loose_q hk ob 9000 loose (w.withFollow "special-get-raises" true) := DL.runEq3 (run_l_true w) (run_s_true w) (run_o_true w)
theorem run (w : World) : HandSHeadRun.RunEq R loose_q hk ob 9000 loose w := PySem.W.byRow2 "special-get-raises" (P := fun w => HandSHeadRun.RunEq R loose_q hk ob 9000 loose w) runs_false runs_true w
end K46

set_option Elab.async false
set_option linter.all false
set_option maxRecDepth 100000
set_option maxHeartbeats 4000000
set_option autoImplicit false
set_option exponentiation.threshold 3000
namespace DL
open PySem PySem.Spec PyProof.Rows L2
/-! ### plain data: comparisons, bounds, pools -/
theorem eqD_int {i j : Int} {k : Bool → Prop} : eqD (.int i) (.int j) k = k (decide (i = j)) := by
  apply propext
  constructor
  · rintro ⟨p, q, h1, h2, _, _, h⟩
    rw [toP] at h1 h2
    cases h1
    cases h2
    have e : PyData.eqv (.int i) (.int j) = decide (i = j) := by
      rw [Bool.eq_iff_iff]; simp [PyData.eqv]
    rw [← e]; exact h
  · intro h
    refine ⟨.int i, .int j, by rw [toP], by rw [toP], rfl, rfl, ?_⟩
    have e : PyData.eqv (.int i) (.int j) = decide (i = j) := by
      rw [Bool.eq_iff_iff]; simp [PyData.eqv]
    rw [e]; exact h
/-- numbers of at most 200 digits -/
def Bd (i : Int) : Prop := -(10 ^ 200) < i ∧ i < 10 ^ 200
theorem log2_bd {i : Int} (h : Bd i) : i.natAbs.log2 < 700 := by
  by_cases z : i.natAbs = 0
  · rw [z]; decide
  · rw [Nat.log2_lt z]
    have h1 : i.natAbs < 10 ^ 200 := by
      obtain ⟨a, b⟩ := h
      have e : (10 : Int) ^ 200 = ((10 ^ 200 : Nat) : Int) := by decide +kernel
      rw [e] at a b
      omega
    exact Nat.lt_of_lt_of_le h1 (by decide +kernel)
theorem cm_bd {i j : Int} (hi : Bd i) (hj : Bd j) : CM i j := by
  have h1 := log2_bd hi
  have h2 := log2_bd hj
  exact .inr (show i.natAbs.log2 + j.natAbs.log2 < 1000000 by omega)
theorem cd_bd {i j : Int} (h : 0 < j) (hj : Bd j) : CDivW i j := ⟨h, Nat.lt_of_lt_of_le (log2_bd hj) (by decide)⟩
/-- the cells with a pool behind them -/
def pl (μ : Mu) (p q : Int) : Mu := μ ++ [.lst [.int p, .int q]]
theorem pl_get {μ : Mu} {p q : Int} : (pl μ p q)[μ.length]? = some (.lst [.int p, .int q]) := List.getElem?_concat_length
theorem pl_set {μ : Mu} {p q : Int} {c : Cell} : (pl μ p q).set μ.length c = μ ++ [c] := by
  unfold pl
  rw [List.set_append_right _ _ (Nat.le_refl _), Nat.sub_self]
  rfl
theorem pl_fold {μ : Mu} {p q : Int} : μ ++ [Cell.lst [.int p, .int q]] = pl μ p q := rfl
theorem pl_items {μ : Mu} {p q : Int} : itemsD (.loc μ.length) (pl μ p q) = some [.int p, .int q] := by
  show (match (pl μ p q)[μ.length]? with
    | some (.lst ds) => some ds
    | _ => none) = _
  rw [pl_get]
theorem pl_st0 {μ : Mu} {p q : Int} {d : D} {k : Mu → Prop} : stL (.loc μ.length) (.int 0) d (pl μ p q) k = k (μ ++ [.lst [d, .int q]]) := by
  unfold stL
  simp only [pl_get, pl_set]
  rfl
theorem pl_st1 {μ : Mu} {p q : Int} {d : D} {k : Mu → Prop} : stL (.loc μ.length) (.int 1) d (pl μ p q) k = k (μ ++ [.lst [.int p, d]]) := by
  unfold stL
  simp only [pl_get, pl_set]
  rfl
theorem atI_nat {α : Type} {xs : List α} {n : Nat} : atI xs (n : Int) = xs[n]? := by
  unfold atI ixN
  rw [if_pos (Int.natCast_nonneg n)]
  by_cases h : (n : Int) < xs.length
  · rw [if_pos h]
    rfl
  · rw [if_neg h]
    have h2 : xs.length ≤ n := by omega
    rw [List.getElem?_eq_none h2]
    rfl
theorem atI_0 {α : Type} {a : α} {r : List α} : atI (a :: r) 0 = some a := atI_nat (n := 0)
theorem atI_1 {α : Type} {a b : α} {r : List α} : atI (a :: b :: r) 1 = some b := atI_nat (n := 1)
theorem atI_2 {α : Type} {a b c : α} {r : List α} : atI (a :: b :: c :: r) 2 = some c := atI_nat (n := 2)
theorem atI_3 {α : Type} {a b c d : α} {r : List α} : atI (a :: b :: c :: d :: r) 3 = some d := atI_nat (n := 3)
theorem items_tup {ds : List D} {μ : Mu} : itemsD (.tup ds) μ = some ds := rfl
theorem items_lst {ds : List D} {μ : Mu} : itemsD (.lst ds) μ = some ds := rfl
theorem items_frl {ds : List D} {μ : Mu} : itemsD (.frl ds) μ = some ds := rfl
/-! ### loops -/
theorem forL_inv {g : WG} {b : WS} {E : DEnds} (I : DS → Mu → Prop) (fin : ∀ ρ μ, I ρ μ → E.nx ρ μ) : ∀ {ds : List D}, (∀ d ∈ ds, ∀ ρ μ (K : DS → Mu → Prop), I ρ μ → (∀ ρ' μ', I ρ' μ' → K ρ' μ') → g d ρ μ fun ρ1 μ1 => b { E with nx := K, ct := K, bk := E.nx } ρ1 μ1) →
    ∀ {ρ μ}, I ρ μ → forL g b E ds ρ μ
  | [], _, ρ, μ, h => by rw [forL]; exact fin ρ μ h
  | d :: ds, step, ρ, μ, h => by
    rw [forL]
    exact step d (by simp) ρ μ _ h fun ρ' μ' h' => forL_inv I fin (fun d hd => step d (by simp [hd])) h'
theorem mem_range {lo : Int} {n : Nat} {d : D} (h : d ∈ rangeD lo n) : ∃ i : Nat, i < n ∧ d = .int (lo + i) := by
  unfold rangeD at h
  obtain ⟨i, hi, rfl⟩ := List.mem_map.mp h
  exact ⟨i, List.mem_range.mp hi, rfl⟩
/-- the script's k-th cell, or 0 -/
theorem cell_of {ns : List Int} {lo hi : Option Int} : ∃ c, atI (cutD (ns.map D.int) lo hi ++ [.int 0]) 0 = some (.int c) := by
  have h : ∀ l : List D, (∀ d ∈ l, ∃ c, d = .int c) → ∃ c, atI (l ++ [.int 0]) 0 = some (.int c) := by
    intro l hl
    cases l with
    | nil => exact ⟨0, atI_0⟩
    | cons d r =>
      obtain ⟨c, rfl⟩ := hl d (by simp)
      exact ⟨c, atI_0⟩
  refine h _ fun d hd => ?_
  unfold cutD at hd
  have h1 := List.mem_of_mem_take hd
  have h2 := List.mem_of_mem_drop h1
  obtain ⟨c, _, rfl⟩ := List.mem_map.mp h2
  exact ⟨c, rfl⟩
theorem cut_few {ns : List Int} {lo hi : Option Int} (h : ns.length ≤ 63) : (cutD (ns.map D.int) lo hi).length + 1 ≤ sizeLine := by
  unfold cutD
  rw [List.length_take, List.length_drop, List.length_map, sizeLine_eq]
  omega
theorem range_zero {lo : Int} : rangeD lo 0 = [] := rfl
theorem range_succ {lo : Int} {n : Nat} : rangeD lo (n + 1) = .int lo :: rangeD (lo + 1) n := by
  unfold rangeD
  rw [List.range_succ_eq_map, List.map_cons, List.map_map]
  congr 1
  · simp
  · refine List.map_congr_left fun i _ => ?_
    show D.int (lo + ((i + 1 : Nat) : Int)) = D.int (lo + 1 + (i : Int))
    congr 1
    omega
/-- how many turns: at least one, at most eight -/
def turns (n m : Nat) : Int := if (if (m : Int) < n then (m : Int) else n) > 1 then (if (m : Int) < n then (m : Int) else n) else 1
theorem turns_ok {n m : Nat} (hm : m ≤ 1000) : -2 ^ 62 ≤ turns n m ∧ turns n m < 2 ^ 62 ∧ (turns n m).toNat ≤ m + 1 := by
  unfold turns
  split <;> split <;> omega
end DL

set_option Elab.async false
set_option linter.all false
set_option maxRecDepth 100000
set_option maxHeartbeats 4000000
set_option autoImplicit false
set_option exponentiation.threshold 3000
namespace DL
open PySem PySem.Spec PyProof.Rows L2
/-! ### what is read is worked out from the head: frames and their equations -/
def KVar (o : Option Sl) (μ : Mu) (Q : D → Mu → Prop) : Prop := match o with
  | some (.v d) => Q d μ
  | _ => False
theorem r_var {i : Nat} {ρ : DS} {μ : Mu} {Q : D → Mu → Prop} {Xd : XD} : wVar i ρ μ Q Xd = KVar (ρ[i]?) μ Q := propext Iff.rfl
theorem r_var2 {d : D} {μ : Mu} {Q : D → Mu → Prop} : KVar (some (.v d)) μ Q = Q d μ := propext Iff.rfl
theorem r_c {d : D} {ρ : DS} {μ : Mu} {Q : D → Mu → Prop} {Xd : XD} : DL.wC d ρ μ Q Xd = Q d μ := propext Iff.rfl
def K2b (f : F2) (x : D) (Q : D → Mu → Prop) : D → Mu → Prop := fun y μ => f x y μ Q
def K2a (f : F2) (wb : WE) (ρ : DS) (Q : D → Mu → Prop) (Xd : XD) : D → Mu → Prop := fun x μ => wb ρ μ (K2b f x Q) Xd
theorem r_w2 {f : F2} {wa wb : WE} {ρ : DS} {μ : Mu} {Q : D → Mu → Prop} {Xd : XD} : DL.w2 f wa wb ρ μ Q Xd = wa ρ μ (K2a f wb ρ Q Xd) Xd := propext Iff.rfl
theorem r_w2a {f : F2} {wb : WE} {x : D} {ρ : DS} {μ : Mu} {Q : D → Mu → Prop} {Xd : XD} : K2a f wb ρ Q Xd x μ = wb ρ μ (K2b f x Q) Xd := propext Iff.rfl
theorem r_w2b {f : F2} {x y : D} {μ : Mu} {Q : D → Mu → Prop} : K2b f x Q y μ = f x y μ Q := propext Iff.rfl
def K1 (f : F1) (Q : D → Mu → Prop) : D → Mu → Prop := fun x μ => f x μ Q
theorem r_w1 {f : F1} {wa : WE} {ρ : DS} {μ : Mu} {Q : D → Mu → Prop} {Xd : XD} : DL.w1 f wa ρ μ Q Xd = wa ρ μ (K1 f Q) Xd := propext Iff.rfl
theorem r_w1a {f : F1} {x : D} {μ : Mu} {Q : D → Mu → Prop} : K1 f Q x μ = f x μ Q := propext Iff.rfl
def KB (Q : Bool → Mu → Prop) : D → Mu → Prop := fun d μ => fBool d fun b => Q b μ
theorem r_wB {w : WE} {ρ : DS} {μ : Mu} {Q : Bool → Mu → Prop} {Xd : XD} : wB w ρ μ Q Xd = w ρ μ (KB Q) Xd := propext Iff.rfl
theorem r_wBa {b : Bool} {μ : Mu} {Q : Bool → Mu → Prop} : KB Q (.bl b) μ = Q b μ := propext Iff.rfl
def KCh3 (f' : F2) (wc : WE) (y : D) (ρ : DS) (Q : D → Mu → Prop) (Xd : XD) : D → Mu → Prop := fun z μ3 => fBool z fun k => if k = true then wc ρ μ3 (fun w' μ4 => f' y w' μ4 Q) Xd else Q (.bl false) μ3
def KCh2 (f f' : F2) (wc : WE) (x : D) (ρ : DS) (Q : D → Mu → Prop) (Xd : XD) : D → Mu → Prop := fun y μ2 => f x y μ2 (KCh3 f' wc y ρ Q Xd)
def KCh1 (f f' : F2) (wb wc : WE) (ρ : DS) (Q : D → Mu → Prop) (Xd : XD) : D → Mu → Prop := fun x μ1 => wb ρ μ1 (KCh2 f f' wc x ρ Q Xd) Xd
theorem r_ch {f f' : F2} {wa wb wc : WE} {ρ : DS} {μ : Mu} {Q : D → Mu → Prop} {Xd : XD} : wChain f f' wa wb wc ρ μ Q Xd = wa ρ μ (KCh1 f f' wb wc ρ Q Xd) Xd := propext Iff.rfl
theorem r_ch1 {f f' : F2} {wb wc : WE} {x : D} {ρ : DS} {μ : Mu} {Q : D → Mu → Prop} {Xd : XD} : KCh1 f f' wb wc ρ Q Xd x μ = wb ρ μ (KCh2 f f' wc x ρ Q Xd) Xd := propext Iff.rfl
theorem r_ch2 {f f' : F2} {wc : WE} {x y : D} {ρ : DS} {μ : Mu} {Q : D → Mu → Prop} {Xd : XD} : KCh2 f f' wc x ρ Q Xd y μ = f x y μ (KCh3 f' wc y ρ Q Xd) := propext Iff.rfl
theorem r_ch3t {f' : F2} {wc : WE} {y : D} {ρ : DS} {μ : Mu} {Q : D → Mu → Prop} {Xd : XD} : KCh3 f' wc y ρ Q Xd (.bl true) μ = wc ρ μ (K2b f' y Q) Xd := propext Iff.rfl
theorem r_ch3f {f' : F2} {wc : WE} {y : D} {ρ : DS} {μ : Mu} {Q : D → Mu → Prop} {Xd : XD} : KCh3 f' wc y ρ Q Xd (.bl false) μ = Q (.bl false) μ := propext Iff.rfl
def KAnd (u : WT) (ρ : DS) (Q : Bool → Mu → Prop) (Xd : XD) : Bool → Mu → Prop := fun c μ1 => if c = true then u ρ μ1 Q Xd else Q false μ1
def KOr (u : WT) (ρ : DS) (Q : Bool → Mu → Prop) (Xd : XD) : Bool → Mu → Prop := fun c μ1 => if c = true then Q true μ1 else u ρ μ1 Q Xd
def KNot (Q : Bool → Mu → Prop) : Bool → Mu → Prop := fun c μ1 => Q (!c) μ1
theorem r_and {t u : WT} {ρ : DS} {μ : Mu} {Q : Bool → Mu → Prop} {Xd : XD} : wAnd t u ρ μ Q Xd = t ρ μ (KAnd u ρ Q Xd) Xd := propext Iff.rfl
theorem r_andt {u : WT} {ρ : DS} {μ : Mu} {Q : Bool → Mu → Prop} {Xd : XD} : KAnd u ρ Q Xd true μ = u ρ μ Q Xd := propext Iff.rfl
theorem r_andf {u : WT} {ρ : DS} {μ : Mu} {Q : Bool → Mu → Prop} {Xd : XD} : KAnd u ρ Q Xd false μ = Q false μ := propext Iff.rfl
theorem r_or {t u : WT} {ρ : DS} {μ : Mu} {Q : Bool → Mu → Prop} {Xd : XD} : wOr t u ρ μ Q Xd = t ρ μ (KOr u ρ Q Xd) Xd := propext Iff.rfl
theorem r_ort {u : WT} {ρ : DS} {μ : Mu} {Q : Bool → Mu → Prop} {Xd : XD} : KOr u ρ Q Xd true μ = Q true μ := propext Iff.rfl
theorem r_orf {u : WT} {ρ : DS} {μ : Mu} {Q : Bool → Mu → Prop} {Xd : XD} : KOr u ρ Q Xd false μ = u ρ μ Q Xd := propext Iff.rfl
theorem r_not {t : WT} {ρ : DS} {μ : Mu} {Q : Bool → Mu → Prop} {Xd : XD} : DL.wNot t ρ μ Q Xd = t ρ μ (KNot Q) Xd := propext Iff.rfl
theorem r_nota {c : Bool} {μ : Mu} {Q : Bool → Mu → Prop} : KNot Q c μ = Q (!c) μ := propext Iff.rfl
def KIfE (wa wb : WE) (ρ : DS) (Q : D → Mu → Prop) (Xd : XD) : Bool → Mu → Prop := fun k μ1 => if k = true then wa ρ μ1 Q Xd else wb ρ μ1 Q Xd
theorem r_ife {t : WT} {wa wb : WE} {ρ : DS} {μ : Mu} {Q : D → Mu → Prop} {Xd : XD} : wIf t wa wb ρ μ Q Xd = t ρ μ (KIfE wa wb ρ Q Xd) Xd := propext Iff.rfl
theorem r_ifet {wa wb : WE} {ρ : DS} {μ : Mu} {Q : D → Mu → Prop} {Xd : XD} : KIfE wa wb ρ Q Xd true μ = wa ρ μ Q Xd := propext Iff.rfl
theorem r_ifef {wa wb : WE} {ρ : DS} {μ : Mu} {Q : D → Mu → Prop} {Xd : XD} : KIfE wa wb ρ Q Xd false μ = wb ρ μ Q Xd := propext Iff.rfl
def KAndV (wb : WE) (ρ : DS) (Q : D → Mu → Prop) (Xd : XD) : D → Mu → Prop := fun x μ1 => fBool x fun k => if k = true then wb ρ μ1 Q Xd else Q (.bl false) μ1
def KOrV (wb : WE) (ρ : DS) (Q : D → Mu → Prop) (Xd : XD) : D → Mu → Prop := fun x μ1 => fBool x fun k => if k = true then Q (.bl true) μ1 else wb ρ μ1 Q Xd
theorem r_andv {wa wb : WE} {ρ : DS} {μ : Mu} {Q : D → Mu → Prop} {Xd : XD} : wAndV wa wb ρ μ Q Xd = wa ρ μ (KAndV wb ρ Q Xd) Xd := propext Iff.rfl
theorem r_andvt {wb : WE} {ρ : DS} {μ : Mu} {Q : D → Mu → Prop} {Xd : XD} : KAndV wb ρ Q Xd (.bl true) μ = wb ρ μ Q Xd := propext Iff.rfl
theorem r_andvf {wb : WE} {ρ : DS} {μ : Mu} {Q : D → Mu → Prop} {Xd : XD} : KAndV wb ρ Q Xd (.bl false) μ = Q (.bl false) μ := propext Iff.rfl
theorem r_orv {wa wb : WE} {ρ : DS} {μ : Mu} {Q : D → Mu → Prop} {Xd : XD} : wOrV wa wb ρ μ Q Xd = wa ρ μ (KOrV wb ρ Q Xd) Xd := propext Iff.rfl
theorem r_orvt {wb : WE} {ρ : DS} {μ : Mu} {Q : D → Mu → Prop} {Xd : XD} : KOrV wb ρ Q Xd (.bl true) μ = Q (.bl true) μ := propext Iff.rfl
theorem r_orvf {wb : WE} {ρ : DS} {μ : Mu} {Q : D → Mu → Prop} {Xd : XD} : KOrV wb ρ Q Xd (.bl false) μ = wb ρ μ Q Xd := propext Iff.rfl
def KNotV (Q : D → Mu → Prop) : D → Mu → Prop := fun x μ1 => fBool x fun k => Q (.bl (!k)) μ1
theorem r_notv {wa : WE} {ρ : DS} {μ : Mu} {Q : D → Mu → Prop} {Xd : XD} : wNotV wa ρ μ Q Xd = wa ρ μ (KNotV Q) Xd := propext Iff.rfl
theorem r_notva {b : Bool} {μ : Mu} {Q : D → Mu → Prop} : KNotV Q (.bl b) μ = Q (.bl (!b)) μ := propext Iff.rfl
theorem r_nil {ρ : DS} {μ : Mu} {Q : List D → Mu → Prop} {Xd : XD} : DL.wNil ρ μ Q Xd = Q [] μ := propext Iff.rfl
def KA2 (d : D) (Q : List D → Mu → Prop) : List D → Mu → Prop := fun ds μ2 => Q (d :: ds) μ2
def KA1 (wr : WA) (ρ : DS) (Q : List D → Mu → Prop) (Xd : XD) : D → Mu → Prop := fun d μ1 => wr ρ μ1 (KA2 d Q) Xd
theorem r_cons {wa : WE} {wr : WA} {ρ : DS} {μ : Mu} {Q : List D → Mu → Prop} {Xd : XD} : DL.wCons wa wr ρ μ Q Xd = wa ρ μ (KA1 wr ρ Q Xd) Xd := propext Iff.rfl
theorem r_cons1 {wr : WA} {d : D} {ρ : DS} {μ : Mu} {Q : List D → Mu → Prop} {Xd : XD} : KA1 wr ρ Q Xd d μ = wr ρ μ (KA2 d Q) Xd := propext Iff.rfl
theorem r_cons2 {d : D} {ds : List D} {μ : Mu} {Q : List D → Mu → Prop} : KA2 d Q ds μ = Q (d :: ds) μ := propext Iff.rfl
def KTup (Q : D → Mu → Prop) : List D → Mu → Prop := fun ds μ1 => ds.length ≤ 1000 ∧ Q (.tup ds) μ1
theorem r_tup {wa : WA} {ρ : DS} {μ : Mu} {Q : D → Mu → Prop} {Xd : XD} : wTup wa ρ μ Q Xd = wa ρ μ (KTup Q) Xd := propext Iff.rfl
theorem r_tupa {ds : List D} {μ : Mu} {Q : D → Mu → Prop} : KTup Q ds μ = (ds.length ≤ 1000 ∧ Q (.tup ds) μ) := propext Iff.rfl
def KLst (Q : D → Mu → Prop) : List D → Mu → Prop := fun ds μ1 => ds.length ≤ 1000 ∧ Q (.lst ds) μ1
theorem r_lst {wa : WA} {ρ : DS} {μ : Mu} {Q : D → Mu → Prop} {Xd : XD} : wLst wa ρ μ Q Xd = wa ρ μ (KLst Q) Xd := propext Iff.rfl
theorem r_lsta {ds : List D} {μ : Mu} {Q : D → Mu → Prop} : KLst Q ds μ = (ds.length ≤ 1000 ∧ Q (.lst ds) μ) := propext Iff.rfl
def KLstC (Q : D → Mu → Prop) : List D → Mu → Prop := fun ds μ1 => ds.length ≤ 1000 ∧ Q (.loc μ1.length) (μ1 ++ [.lst ds])
theorem r_lstc {wa : WA} {ρ : DS} {μ : Mu} {Q : D → Mu → Prop} {Xd : XD} : wLstC wa ρ μ Q Xd = wa ρ μ (KLstC Q) Xd := propext Iff.rfl
theorem r_lstca {ds : List D} {μ : Mu} {Q : D → Mu → Prop} : KLstC Q ds μ = (ds.length ≤ 1000 ∧ Q (.loc μ.length) (μ ++ [.lst ds])) := propext Iff.rfl
def KN (f : FN) (Q : D → Mu → Prop) : List D → Mu → Prop := fun ds μ1 => f ds μ1 Q
theorem r_wn {f : FN} {wa : WA} {ρ : DS} {μ : Mu} {Q : D → Mu → Prop} {Xd : XD} : DL.wN f wa ρ μ Q Xd = wa ρ μ (KN f Q) Xd := propext Iff.rfl
theorem r_wna {f : FN} {ds : List D} {μ : Mu} {Q : D → Mu → Prop} : KN f Q ds μ = f ds μ Q := propext Iff.rfl
def KCall (sp : DSp) (Q : D → Mu → Prop) (Xd : XD) : List D → Mu → Prop := fun ds μ1 => sp ds μ1 Q Xd
theorem r_call {sp : DSp} {wa : WA} {ρ : DS} {μ : Mu} {Q : D → Mu → Prop} {Xd : XD} : wCall sp wa ρ μ Q Xd = wa ρ μ (KCall sp Q Xd) Xd := propext Iff.rfl
theorem r_calla {sp : DSp} {ds : List D} {μ : Mu} {Q : D → Mu → Prop} {Xd : XD} : KCall sp Q Xd ds μ = sp ds μ Q Xd := propext Iff.rfl
def KMk2 (c : Str) (Q : D → Mu → Prop) : List Str → List D → Mu → Prop := fun ks es μ2 => Q (.obj c ks es) μ2
def KMk1 (c : Str) (sp : ISp) (Q : D → Mu → Prop) (Xd : XD) : List D → Mu → Prop := fun ds μ1 => sp ds μ1 (KMk2 c Q) Xd
theorem r_mk {c : Str} {sp : ISp} {wa : WA} {ρ : DS} {μ : Mu} {Q : D → Mu → Prop} {Xd : XD} : wMake c sp wa ρ μ Q Xd = wa ρ μ (KMk1 c sp Q Xd) Xd := propext Iff.rfl
theorem r_mk1 {c : Str} {sp : ISp} {ds : List D} {μ : Mu} {Q : D → Mu → Prop} {Xd : XD} : KMk1 c sp Q Xd ds μ = sp ds μ (KMk2 c Q) Xd := propext Iff.rfl
theorem r_mk2 {c : Str} {ks : List Str} {es : List D} {μ : Mu} {Q : D → Mu → Prop} : KMk2 c Q ks es μ = Q (.obj c ks es) μ := propext Iff.rfl
def KMkC2 (c : Str) (Q : D → Mu → Prop) : List Str → List D → Mu → Prop := fun ks es μ2 => Q (.loc μ2.length) (μ2 ++ [.ins c ks es])
def KMkC1 (c : Str) (sp : ISp) (Q : D → Mu → Prop) (Xd : XD) : List D → Mu → Prop := fun ds μ1 => sp ds μ1 (KMkC2 c Q) Xd
theorem r_mkc {c : Str} {sp : ISp} {wa : WA} {ρ : DS} {μ : Mu} {Q : D → Mu → Prop} {Xd : XD} : wMakeC c sp wa ρ μ Q Xd = wa ρ μ (KMkC1 c sp Q Xd) Xd := propext Iff.rfl
theorem r_mkc1 {c : Str} {sp : ISp} {ds : List D} {μ : Mu} {Q : D → Mu → Prop} {Xd : XD} : KMkC1 c sp Q Xd ds μ = sp ds μ (KMkC2 c Q) Xd := propext Iff.rfl
theorem r_mkc2 {c : Str} {ks : List Str} {es : List D} {μ : Mu} {Q : D → Mu → Prop} : KMkC2 c Q ks es μ = Q (.loc μ.length) (μ ++ [.ins c ks es]) := propext Iff.rfl
def KMe2 (sp : DSp) (x : D) (Q : D → Mu → Prop) (Xd : XD) : List D → Mu → Prop := fun ds μ2 => sp (x :: ds) μ2 Q Xd
def KMe1 (c m : Str) (sp : DSp) (wa : WA) (ρ : DS) (Q : D → Mu → Prop) (Xd : XD) : D → Mu → Prop := fun x μ1 => hasCls c m x μ1 (wa ρ μ1 (KMe2 sp x Q Xd) Xd)
theorem r_me {c m : Str} {sp : DSp} {wo : WE} {wa : WA} {ρ : DS} {μ : Mu} {Q : D → Mu → Prop} {Xd : XD} : wMeth c m sp wo wa ρ μ Q Xd = wo ρ μ (KMe1 c m sp wa ρ Q Xd) Xd := propext Iff.rfl
theorem r_me1 {c m : Str} {sp : DSp} {wa : WA} {x : D} {ρ : DS} {μ : Mu} {Q : D → Mu → Prop} {Xd : XD} : KMe1 c m sp wa ρ Q Xd x μ = hasCls c m x μ (wa ρ μ (KMe2 sp x Q Xd) Xd) := propext Iff.rfl
theorem r_me2 {sp : DSp} {x : D} {ds : List D} {μ : Mu} {Q : D → Mu → Prop} {Xd : XD} : KMe2 sp x Q Xd ds μ = sp (x :: ds) μ Q Xd := propext Iff.rfl
def KBo2 (c : Str) (Ts : List String) (sp : DSp) (x : D) (Q : D → Mu → Prop) (Xd : XD) : D → Mu → Prop := fun y μ2 => isCls c x μ2 (othTy c Ts y μ2 (sp [x, y] μ2 Q Xd))
def KBo1 (c : Str) (Ts : List String) (sp : DSp) (wb : WE) (ρ : DS) (Q : D → Mu → Prop) (Xd : XD) : D → Mu → Prop := fun x μ1 => wb ρ μ1 (KBo2 c Ts sp x Q Xd) Xd
theorem r_bo {c : Str} {Ts : List String} {sp : DSp} {wa wb : WE} {ρ : DS} {μ : Mu} {Q : D → Mu → Prop} {Xd : XD} : wBinO c Ts sp wa wb ρ μ Q Xd = wa ρ μ (KBo1 c Ts sp wb ρ Q Xd) Xd := propext Iff.rfl
theorem r_bo1 {c : Str} {Ts : List String} {sp : DSp} {wb : WE} {x : D} {ρ : DS} {μ : Mu} {Q : D → Mu → Prop} {Xd : XD} : KBo1 c Ts sp wb ρ Q Xd x μ = wb ρ μ (KBo2 c Ts sp x Q Xd) Xd := propext Iff.rfl
theorem r_bo2 {c : Str} {Ts : List String} {sp : DSp} {x y : D} {μ : Mu} {Q : D → Mu → Prop} {Xd : XD} : KBo2 c Ts sp x Q Xd y μ = isCls c x μ (othTy c Ts y μ (sp [x, y] μ Q Xd)) := propext Iff.rfl
theorem r_onone {ρ : DS} {μ : Mu} {Q : Option Int → Mu → Prop} {Xd : XD} : oNone ρ μ Q Xd = Q none μ := propext Iff.rfl
def KOs (Q : Option Int → Mu → Prop) : D → Mu → Prop := fun d μ1 => intOr d fun i => Q (some i) μ1
theorem r_osome {wa : WE} {ρ : DS} {μ : Mu} {Q : Option Int → Mu → Prop} {Xd : XD} : oSome wa ρ μ Q Xd = wa ρ μ (KOs Q) Xd := propext Iff.rfl
theorem r_osomea {i : Int} {μ : Mu} {Q : Option Int → Mu → Prop} : KOs Q (.int i) μ = Q (some i) μ := propext Iff.rfl
def KSl3 (x : D) (l : Option Int) (Q : D → Mu → Prop) : Option Int → Mu → Prop := fun u μ3 => lstOr x fun ds => Q (.lst (DL.cutD ds l u)) μ3
def KSl2 (hi : WO) (x : D) (ρ : DS) (Q : D → Mu → Prop) (Xd : XD) : Option Int → Mu → Prop := fun l μ2 => hi ρ μ2 (KSl3 x l Q) Xd
def KSl1 (lo hi : WO) (ρ : DS) (Q : D → Mu → Prop) (Xd : XD) : D → Mu → Prop := fun x μ1 => lo ρ μ1 (KSl2 hi x ρ Q Xd) Xd
theorem r_sl {wa : WE} {lo hi : WO} {ρ : DS} {μ : Mu} {Q : D → Mu → Prop} {Xd : XD} : wSl wa lo hi ρ μ Q Xd = wa ρ μ (KSl1 lo hi ρ Q Xd) Xd := propext Iff.rfl
theorem r_sl1 {lo hi : WO} {x : D} {ρ : DS} {μ : Mu} {Q : D → Mu → Prop} {Xd : XD} : KSl1 lo hi ρ Q Xd x μ = lo ρ μ (KSl2 hi x ρ Q Xd) Xd := propext Iff.rfl
theorem r_sl2 {hi : WO} {x : D} {l : Option Int} {ρ : DS} {μ : Mu} {Q : D → Mu → Prop} {Xd : XD} : KSl2 hi x ρ Q Xd l μ = hi ρ μ (KSl3 x l Q) Xd := propext Iff.rfl
theorem r_sl3 {ds : List D} {l u : Option Int} {μ : Mu} {Q : D → Mu → Prop} : KSl3 (.lst ds) l Q u μ = Q (.lst (DL.cutD ds l u)) μ := propext Iff.rfl
theorem r_sl3f {ds : List D} {l u : Option Int} {μ : Mu} {Q : D → Mu → Prop} : KSl3 (.frl ds) l Q u μ = Q (.lst (DL.cutD ds l u)) μ := propext Iff.rfl
theorem r_ii {C : Int → Int → Prop} {g : Int → Int → Int} {i j : Int} {μ : Mu} {Q : D → Mu → Prop} : fII C g (.int i) (.int j) μ Q = (C i j ∧ Q (.int (g i j)) μ) := propext Iff.rfl
theorem r_ii0 {g : Int → Int → Int} {i j : Int} {μ : Mu} {Q : D → Mu → Prop} : fII0 g (.int i) (.int j) μ Q = Q (.int (g i j)) μ := propext Iff.rfl
theorem r_ib {g : Int → Int → Bool} {i j : Int} {μ : Mu} {Q : D → Mu → Prop} : fIB g (.int i) (.int j) μ Q = Q (.bl (g i j)) μ := propext Iff.rfl
theorem r_i1 {g : Int → Int} {i : Int} {μ : Mu} {Q : D → Mu → Prop} : fI g (.int i) μ Q = Q (.int (g i)) μ := propext Iff.rfl
theorem r_plus {i j : Int} {μ : Mu} {Q : D → Mu → Prop} : fPlus (.int i) (.int j) μ Q = Q (.int (i + j)) μ := propext Iff.rfl
theorem r_plusl {a b : List D} {μ : Mu} {Q : D → Mu → Prop} : fPlus (.lst a) (.lst b) μ Q = (a.length + b.length ≤ sizeLine ∧ Q (.lst (a ++ b)) μ) := propext Iff.rfl
theorem r_times {i j : Int} {μ : Mu} {Q : D → Mu → Prop} : fTimes (.int i) (.int j) μ Q = (CM i j ∧ Q (.int (i * j)) μ) := propext Iff.rfl
theorem r_timesl {a : List D} {n : Int} {μ : Mu} {Q : D → Mu → Prop} : fTimes (.lst a) (.int n) μ Q = (-(2 ^ 63) ≤ n ∧ n < 2 ^ 63 ∧ a.length * n.toNat ≤ sizeLine ∧ Q (.lst (List.replicate n.toNat a).flatten) μ) := propext Iff.rfl
theorem r_isn {x : D} {μ : Mu} {Q : D → Mu → Prop} : fIsN x .non μ Q = Q (.bl (DL.isNon x)) μ := propext Iff.rfl
theorem r_notn {x : D} {μ : Mu} {Q : D → Mu → Prop} : fNotN x .non μ Q = Q (.bl (!DL.isNon x)) μ := propext Iff.rfl
theorem r_eqd {x y : D} {μ : Mu} {Q : D → Mu → Prop} : fEqD x y μ Q = eqD x y fun b => Q (.bl b) μ := propext Iff.rfl
theorem r_ned {x y : D} {μ : Mu} {Q : D → Mu → Prop} : fNeD x y μ Q = eqD x y fun b => Q (.bl (!b)) μ := propext Iff.rfl
theorem r_int1 {i : Int} {μ : Mu} {Q : D → Mu → Prop} : fInt1 [.int i] μ Q = Q (.int i) μ := propext Iff.rfl
theorem r_int1b {b : Bool} {μ : Mu} {Q : D → Mu → Prop} : fInt1 [.bl b] μ Q = Q (.int (if b then 1 else 0)) μ := propext Iff.rfl
theorem r_max2 {i j : Int} {μ : Mu} {Q : D → Mu → Prop} : fMax2 [.int i, .int j] μ Q = Q (.int (if j > i then j else i)) μ := propext Iff.rfl
theorem r_min2 {i j : Int} {μ : Mu} {Q : D → Mu → Prop} : fMin2 [.int i, .int j] μ Q = Q (.int (if j < i then j else i)) μ := propext Iff.rfl
theorem r_abs {i : Int} {μ : Mu} {Q : D → Mu → Prop} : fAbs [.int i] μ Q = Q (.int (if i < 0 then -i else i)) μ := propext Iff.rfl
def KIx (o : Option (List D)) (i : Int) (μ : Mu) (Q : D → Mu → Prop) : Prop := match o with
  | some ds => (match atI ds i with
    | some d => Q d μ
    | none => False)
  | none => False
theorem r_ix {x : D} {i : Int} {μ : Mu} {Q : D → Mu → Prop} : fIx x (.int i) μ Q = KIx (itemsD x μ) i μ Q := by
  unfold fIx KIx
  cases itemsD x μ <;> exact propext Iff.rfl
def KIx2 (o : Option D) (μ : Mu) (Q : D → Mu → Prop) : Prop := match o with
  | some d => Q d μ
  | none => False
theorem r_ix2 {ds : List D} {i : Int} {μ : Mu} {Q : D → Mu → Prop} : KIx (some ds) i μ Q = KIx2 (atI ds i) μ Q := propext Iff.rfl
theorem r_ix3 {d : D} {μ : Mu} {Q : D → Mu → Prop} : KIx2 (some d) μ Q = Q d μ := propext Iff.rfl
def KLen (o : Option (List D)) (μ : Mu) (Q : D → Mu → Prop) : Prop := match o with
  | some ds => Q (.int ds.length) μ
  | none => False
theorem r_len {x : D} {μ : Mu} {Q : D → Mu → Prop} : fLen [x] μ Q = KLen (itemsD x μ) μ Q := propext Iff.rfl
theorem r_len2 {ds : List D} {μ : Mu} {Q : D → Mu → Prop} : KLen (some ds) μ Q = Q (.int ds.length) μ := propext Iff.rfl
def KIsi (o : Option Bool) (μ : Mu) (Q : D → Mu → Prop) : Prop := match o with
  | some b => Q (.bl b) μ
  | none => False
theorem r_isi {f : TyN → TyN → Option Bool} {x c : D} {μ : Mu} {Q : D → Mu → Prop} : fIsi f [x, c] μ Q = KIsi (isiD f x c μ) μ Q := propext Iff.rfl
theorem r_isi2 {b : Bool} {μ : Mu} {Q : D → Mu → Prop} : KIsi (some b) μ Q = Q (.bl b) μ := propext Iff.rfl
def KFld2 (o : Option D) (μ : Mu) (Q : D → Mu → Prop) : Prop := match o with
  | some d => Q d μ
  | none => False
def KFld (c f : Str) (o : Option (Str × List Str × List D)) (μ : Mu) (Q : D → Mu → Prop) : Prop := match o with
  | some (c', ks, ds) => c' = c ∧ KFld2 (fldOf f ks ds) μ Q
  | none => False
theorem r_fld {c f : Str} {x : D} {μ : Mu} {Q : D → Mu → Prop} : fFld c f x μ Q = KFld c f (insD x μ) μ Q := by
  unfold fFld KFld KFld2
  exact propext Iff.rfl
theorem r_fld2 {c f c' : Str} {ks : List Str} {ds : List D} {μ : Mu} {Q : D → Mu → Prop} : KFld c f (some (c', ks, ds)) μ Q = (c' = c ∧ KFld2 (fldOf f ks ds) μ Q) := propext Iff.rfl
theorem r_fld3 {d : D} {μ : Mu} {Q : D → Mu → Prop} : KFld2 (some d) μ Q = Q d μ := propext Iff.rfl
theorem r_insobj {c : Str} {ks : List Str} {ds : List D} {μ : Mu} : insD (.obj c ks ds) μ = some (c, ks, ds) := rfl
def KX (E : DEnds) (ρ : DS) : XD := fun c ks es μ => E.xc c ks es ρ μ
theorem r_kx {c : Str} {ks : List Str} {es : List D} {E : DEnds} {ρ : DS} {μ : Mu} : KX E ρ c ks es μ = E.xc c ks es ρ μ := propext Iff.rfl
theorem r_next {E : DEnds} {ρ : DS} {μ : Mu} : sNext E ρ μ = E.nx ρ μ := propext Iff.rfl
theorem r_never {E : DEnds} {ρ : DS} {μ : Mu} : sNever E ρ μ = False := propext Iff.rfl
def KSeq (b : WS) (E : DEnds) : DS → Mu → Prop := fun ρ μ => b E ρ μ
theorem r_seq {a b : WS} {E : DEnds} {ρ : DS} {μ : Mu} : sSeq a b E ρ μ = a { E with nx := KSeq b E } ρ μ := propext Iff.rfl
theorem r_seqa {b : WS} {E : DEnds} {ρ : DS} {μ : Mu} : KSeq b E ρ μ = b E ρ μ := propext Iff.rfl
def KIf (a b : WS) (E : DEnds) (ρ : DS) : Bool → Mu → Prop := fun c μ1 => if c = true then a E ρ μ1 else b E ρ μ1
theorem r_if {t : WT} {a b : WS} {E : DEnds} {ρ : DS} {μ : Mu} : sIf t a b E ρ μ = t ρ μ (KIf a b E ρ) (KX E ρ) := propext Iff.rfl
theorem r_ift {a b : WS} {E : DEnds} {ρ : DS} {μ : Mu} : KIf a b E ρ true μ = a E ρ μ := propext Iff.rfl
theorem r_iff {a b : WS} {E : DEnds} {ρ : DS} {μ : Mu} : KIf a b E ρ false μ = b E ρ μ := propext Iff.rfl
theorem r_ret {wa : WE} {E : DEnds} {ρ : DS} {μ : Mu} : sRet wa E ρ μ = wa ρ μ E.rt (KX E ρ) := propext Iff.rfl
theorem r_retn {E : DEnds} {ρ : DS} {μ : Mu} : sRetN E ρ μ = E.rt .non μ := propext Iff.rfl
theorem r_brk {E : DEnds} {ρ : DS} {μ : Mu} : sBreak E ρ μ = E.bk ρ μ := propext Iff.rfl
theorem r_cnt {E : DEnds} {ρ : DS} {μ : Mu} : sCont E ρ μ = E.ct ρ μ := propext Iff.rfl
def KDrop (E : DEnds) (ρ : DS) : D → Mu → Prop := fun _ μ1 => E.nx ρ μ1
theorem r_drop {wa : WE} {E : DEnds} {ρ : DS} {μ : Mu} : sDrop wa E ρ μ = wa ρ μ (KDrop E ρ) (KX E ρ) := propext Iff.rfl
theorem r_dropa {d : D} {E : DEnds} {ρ : DS} {μ : Mu} : KDrop E ρ d μ = E.nx ρ μ := propext Iff.rfl
def KSet (i : Nat) (E : DEnds) (ρ : DS) : D → Mu → Prop := fun d μ1 => E.nx (ρ.set i (.v d)) μ1
theorem r_set {i : Nat} {wa : WE} {E : DEnds} {ρ : DS} {μ : Mu} : sSet i wa E ρ μ = wa ρ μ (KSet i E ρ) (KX E ρ) := propext Iff.rfl
theorem r_seta {i : Nat} {d : D} {E : DEnds} {ρ : DS} {μ : Mu} : KSet i E ρ d μ = E.nx (ρ.set i (.v d)) μ := propext Iff.rfl
def KAsg (g : WG) (E : DEnds) (ρ : DS) : D → Mu → Prop := fun d μ1 => g d ρ μ1 E.nx
theorem r_asg {g : WG} {wa : WE} {E : DEnds} {ρ : DS} {μ : Mu} : sAsg wa g E ρ μ = wa ρ μ (KAsg g E ρ) (KX E ρ) := propext Iff.rfl
theorem r_asga {g : WG} {d : D} {E : DEnds} {ρ : DS} {μ : Mu} : KAsg g E ρ d μ = g d ρ μ E.nx := propext Iff.rfl
theorem r_name {i : Nat} {d : D} {ρ : DS} {μ : Mu} {Q : DS → Mu → Prop} : kName i d ρ μ Q = Q (ρ.set i (.v d)) μ := propext Iff.rfl
theorem r_namec {i : Nat} {d : D} {ρ : DS} {μ : Mu} {Q : DS → Mu → Prop} : kNameC i d ρ μ Q = (notOwn ρ i ∧ Q (ρ.set i (.v d)) μ) := propext Iff.rfl
theorem r_ktup {n : Nat} {gs : WGs} {ds : List D} {ρ : DS} {μ : Mu} {Q : DS → Mu → Prop} : kTup n gs (.tup ds) ρ μ Q = (ds.length = n ∧ gs ds ρ μ Q) := propext Iff.rfl
theorem r_kunl {n : Nat} {gs : WGs} {ds : List D} {ρ : DS} {μ : Mu} {Q : DS → Mu → Prop} : kUnl n gs (.lst ds) ρ μ Q = (ds.length = n ∧ gs ds ρ μ Q) := propext Iff.rfl
def KCs (gs : WGs) (r : List D) (Q : DS → Mu → Prop) : DS → Mu → Prop := fun ρ1 μ1 => gs r ρ1 μ1 Q
theorem r_kcons {g : WG} {gs : WGs} {d : D} {r : List D} {ρ : DS} {μ : Mu} {Q : DS → Mu → Prop} : kCons g gs (d :: r) ρ μ Q = g d ρ μ (KCs gs r Q) := propext Iff.rfl
theorem r_kcs {gs : WGs} {r : List D} {ρ : DS} {μ : Mu} {Q : DS → Mu → Prop} : KCs gs r Q ρ μ = gs r ρ μ Q := propext Iff.rfl
theorem r_knil {ρ : DS} {μ : Mu} {Q : DS → Mu → Prop} : kNil [] ρ μ Q = Q ρ μ := propext Iff.rfl
theorem r_par2 {i j : Nat} {wa : WA} {E : DEnds} {ρ : DS} {μ : Mu} : sPar2 i j wa E ρ μ = wa ρ μ (kPar2 i j E ρ) (KX E ρ) := propext Iff.rfl
theorem r_par2a {i j : Nat} {a b : D} {E : DEnds} {ρ : DS} {μ : Mu} : kPar2 i j E ρ [a, b] μ = E.nx ((ρ.set i (.v a)).set j (.v b)) μ := propext Iff.rfl
theorem r_par3 {i j l : Nat} {wa : WA} {E : DEnds} {ρ : DS} {μ : Mu} : sPar3 i j l wa E ρ μ = wa ρ μ (kPar3 i j l E ρ) (KX E ρ) := propext Iff.rfl
theorem r_par3a {i j l : Nat} {a b c : D} {E : DEnds} {ρ : DS} {μ : Mu} : kPar3 i j l E ρ [a, b, c] μ = E.nx (((ρ.set i (.v a)).set j (.v b)).set l (.v c)) μ := propext Iff.rfl
def KAug2 (i : Nat) (E : DEnds) (ρ : DS) : D → Mu → Prop := fun z μ2 => E.nx (ρ.set i (.v z)) μ2
def KAug1 (i : Nat) (f : F2) (x : D) (E : DEnds) (ρ : DS) : D → Mu → Prop := fun y μ1 => f x y μ1 (KAug2 i E ρ)
def KAug (o : Option Sl) (i : Nat) (f : F2) (wa : WE) (E : DEnds) (ρ : DS) (μ : Mu) : Prop := match o with
  | some (.v x) => wa ρ μ (KAug1 i f x E ρ) (KX E ρ)
  | _ => False
theorem r_aug {i : Nat} {f : F2} {wa : WE} {E : DEnds} {ρ : DS} {μ : Mu} : sAug i f wa E ρ μ = KAug (ρ[i]?) i f wa E ρ μ := propext Iff.rfl
theorem r_auga {x : D} {i : Nat} {f : F2} {wa : WE} {E : DEnds} {ρ : DS} {μ : Mu} : KAug (some (.v x)) i f wa E ρ μ = wa ρ μ (KAug1 i f x E ρ) (KX E ρ) := propext Iff.rfl
theorem r_augb {x y : D} {i : Nat} {f : F2} {E : DEnds} {ρ : DS} {μ : Mu} : KAug1 i f x E ρ y μ = f x y μ (KAug2 i E ρ) := propext Iff.rfl
theorem r_augc {d : D} {i : Nat} {E : DEnds} {ρ : DS} {μ : Mu} : KAug2 i E ρ d μ = E.nx (ρ.set i (.v d)) μ := propext Iff.rfl
def KFor (g : WG) (b : WS) (E : DEnds) (ρ : DS) : List D → Mu → Prop := fun ds μ1 => forL g b E ds ρ μ1
theorem r_for {wi : WI} {g : WG} {b : WS} {E : DEnds} {ρ : DS} {μ : Mu} : sFor wi g b E ρ μ = wi ρ μ (KFor g b E ρ) (KX E ρ) := propext Iff.rfl
theorem r_fora {g : WG} {b : WS} {ds : List D} {E : DEnds} {ρ : DS} {μ : Mu} : KFor g b E ρ ds μ = forL g b E ds ρ μ := propext Iff.rfl
def KNx (E : DEnds) (μ : Mu) : DS → Prop := fun ρ => E.nx ρ μ
theorem r_knx {E : DEnds} {ρ : DS} {μ : Mu} : KNx E μ ρ = E.nx ρ μ := propext Iff.rfl
def KPut (c : Str) (i : Nat) (f : Str) (d : D) (ρ : DS) (k : DS → Prop) (o : Option Sl) : Prop := match o with
  | some (.own a (.ins c' ks ds)) => c' = c ∧ ks.length < 1000 ∧ k (ρ.set i (.own a (.ins c' (DL.putK f ks) (DL.putD f d ks ds))))
  | _ => False
def KFldO (c : Str) (i : Nat) (f : Str) (E : DEnds) (ρ : DS) : D → Mu → Prop := fun d μ1 => putOwnI c i f d ρ (KNx E μ1)
theorem r_fldo {c : Str} {i : Nat} {f : Str} {wa : WE} {E : DEnds} {ρ : DS} {μ : Mu} : sFldO c i f wa E ρ μ = wa ρ μ (KFldO c i f E ρ) (KX E ρ) := propext Iff.rfl
theorem r_fldoa {c : Str} {i : Nat} {f : Str} {d : D} {E : DEnds} {ρ : DS} {μ : Mu} : KFldO c i f E ρ d μ = KPut c i f d ρ (KNx E μ) (ρ[i]?) := by
  unfold KFldO putOwnI KPut
  exact propext Iff.rfl
theorem r_put {c c' : Str} {i : Nat} {f : Str} {d : D} {a : Addr} {ks : List Str} {ds : List D} {k : DS → Prop} {ρ : DS} : KPut c i f d ρ k (some (.own a (.ins c' ks ds))) = (c' = c ∧ ks.length < 1000 ∧ k (ρ.set i (.own a (.ins c' (DL.putK f ks) (DL.putD f d ks ds))))) := propext Iff.rfl
def KFrz2 (i : Nat) (ρ : DS) (k : DS → Prop) (o : Option D) : Prop := match o with
  | some d => k (ρ.set i (.v d))
  | none => False
def KFrz (i : Nat) (ρ : DS) (k : DS → Prop) (o : Option Sl) : Prop := match o with
  | some (.own _ c) => KFrz2 i ρ k (cellD c)
  | _ => False
def KFz (w : WS) (E : DEnds) (μ : Mu) : DS → Prop := fun ρ => w E ρ μ
theorem r_frz {i : Nat} {w : WS} {E : DEnds} {ρ : DS} {μ : Mu} : sFrz i w E ρ μ = KFrz i ρ (KFz w E μ) (ρ[i]?) := by
  unfold sFrz frz KFrz KFrz2
  exact propext Iff.rfl
theorem r_frz2 {i : Nat} {a : Addr} {c : Cell} {k : DS → Prop} {ρ : DS} : KFrz i ρ k (some (.own a c)) = KFrz2 i ρ k (cellD c) := propext Iff.rfl
theorem r_frz3 {i : Nat} {d : D} {k : DS → Prop} {ρ : DS} : KFrz2 i ρ k (some d) = k (ρ.set i (.v d)) := propext Iff.rfl
theorem r_frz4 {w : WS} {E : DEnds} {ρ : DS} {μ : Mu} : KFz w E μ ρ = w E ρ μ := propext Iff.rfl
theorem r_cl {ds : List D} : cellD (.lst ds) = some (.lst ds) := rfl
def KSetO (i : Nat) (E : DEnds) (ρ : DS) : List D → Mu → Prop := fun ds μ1 => ds.length ≤ 1000 ∧ i < ρ.length ∧ ∀ p, E.nx (ρ.set i (.own p (.lst ds))) μ1
theorem r_seto {i : Nat} {wa : WA} {E : DEnds} {ρ : DS} {μ : Mu} : sSetO i wa E ρ μ = wa ρ μ (KSetO i E ρ) (KX E ρ) := propext Iff.rfl
theorem r_setoa {i : Nat} {ds : List D} {E : DEnds} {ρ : DS} {μ : Mu} : KSetO i E ρ ds μ = (ds.length ≤ 1000 ∧ i < ρ.length ∧ ∀ p, E.nx (ρ.set i (.own p (.lst ds))) μ) := propext Iff.rfl
def KWil (Q : List D → Mu → Prop) : D → Mu → Prop := fun d μ1 => lstOr d fun ds => Q ds μ1
theorem r_wil {wa : WE} {ρ : DS} {μ : Mu} {Q : List D → Mu → Prop} {Xd : XD} : wiL wa ρ μ Q Xd = wa ρ μ (KWil Q) Xd := propext Iff.rfl
theorem r_wila {ds : List D} {μ : Mu} {Q : List D → Mu → Prop} : KWil Q (.lst ds) μ = Q ds μ := propext Iff.rfl
theorem r_wilf {ds : List D} {μ : Mu} {Q : List D → Mu → Prop} : KWil Q (.frl ds) μ = Q ds μ := propext Iff.rfl
def KWit (Q : List D → Mu → Prop) : D → Mu → Prop := fun d μ1 => tupOr d fun ds => Q ds μ1
theorem r_wit {wa : WE} {ρ : DS} {μ : Mu} {Q : List D → Mu → Prop} {Xd : XD} : wiT wa ρ μ Q Xd = wa ρ μ (KWit Q) Xd := propext Iff.rfl
theorem r_wita {ds : List D} {μ : Mu} {Q : List D → Mu → Prop} : KWit Q (.tup ds) μ = Q ds μ := propext Iff.rfl
def KWi1 (Q : List D → Mu → Prop) : List D → Mu → Prop := fun ds μ1 => rg1 ds fun es => Q es μ1
theorem r_wi1 {wa : WA} {ρ : DS} {μ : Mu} {Q : List D → Mu → Prop} {Xd : XD} : wiR1 wa ρ μ Q Xd = wa ρ μ (KWi1 Q) Xd := propext Iff.rfl
theorem r_wi1a {j : Int} {μ : Mu} {Q : List D → Mu → Prop} : KWi1 Q [.int j] μ = rg1 [.int j] fun es => Q es μ := propext Iff.rfl
def KWi2 (Q : List D → Mu → Prop) : List D → Mu → Prop := fun ds μ1 => rg2 ds fun es => Q es μ1
theorem r_wi2 {wa : WA} {ρ : DS} {μ : Mu} {Q : List D → Mu → Prop} {Xd : XD} : wiR2 wa ρ μ Q Xd = wa ρ μ (KWi2 Q) Xd := propext Iff.rfl
theorem r_wi2a {i j : Int} {μ : Mu} {Q : List D → Mu → Prop} : KWi2 Q [.int i, .int j] μ = rg2 [.int i, .int j] fun es => Q es μ := propext Iff.rfl
def KWie (Q : List D → Mu → Prop) : List D → Mu → Prop := fun ds μ1 => lst1 ds fun es => Q (enumD es) μ1
theorem r_wie {wa : WA} {ρ : DS} {μ : Mu} {Q : List D → Mu → Prop} {Xd : XD} : wiEnum wa ρ μ Q Xd = wa ρ μ (KWie Q) Xd := propext Iff.rfl
theorem r_wiea {ds : List D} {μ : Mu} {Q : List D → Mu → Prop} : KWie Q [.lst ds] μ = Q (enumD ds) μ := propext Iff.rfl
def KWiz (Q : List D → Mu → Prop) : List D → Mu → Prop := fun ds μ1 => zip2 ds fun es => Q es μ1
theorem r_wiz {wa : WA} {ρ : DS} {μ : Mu} {Q : List D → Mu → Prop} {Xd : XD} : wiZip wa ρ μ Q Xd = wa ρ μ (KWiz Q) Xd := propext Iff.rfl
theorem r_wiza {a b : List D} {μ : Mu} {Q : List D → Mu → Prop} : KWiz Q [.lst a, .lst b] μ = Q (zipD a b) μ := propext Iff.rfl
theorem r_wizt {a b : List D} {μ : Mu} {Q : List D → Mu → Prop} : KWiz Q [.tup a, .tup b] μ = Q (zipD a b) μ := propext Iff.rfl
def KLc3 (g : WG) (tt : WT) (te : WE) (ρw : DS) (ds acc : List D) (Q : D → Mu → Prop) : D → Mu → Prop := fun y μ4 => acc.length < 1000000 ∧ lcL g tt te ρw ds (acc ++ [y]) μ4 Q
def KLc2 (g : WG) (tt : WT) (te : WE) (ρw : DS) (ρ2 : DS) (ds acc : List D) (Q : D → Mu → Prop) : Bool → Mu → Prop := fun b μ3 => if b = true then te ρ2 μ3 (KLc3 g tt te ρw ds acc Q) xF else lcL g tt te ρw ds acc μ3 Q
def KLc1 (g : WG) (tt : WT) (te : WE) (ρw : DS) (ds acc : List D) (Q : D → Mu → Prop) : DS → Mu → Prop := fun ρ2 μ2 => tt ρ2 μ2 (KLc2 g tt te ρw ρ2 ds acc Q) xF
def KLc0 (g : WG) (tt : WT) (te : WE) (vs : List Nat) (ρ : DS) (Q : D → Mu → Prop) : List D → Mu → Prop := fun ds μ1 => (∀ v ∈ vs, notOwn ρ v) ∧ lcL g tt te (DL.wipeD ρ vs) ds [] μ1 Q
theorem r_lc {wi : WI} {g : WG} {tt : WT} {te : WE} {vs : List Nat} {ρ : DS} {μ : Mu} {Q : D → Mu → Prop} {Xd : XD} : wLc wi g tt te vs ρ μ Q Xd = wi ρ μ (KLc0 g tt te vs ρ Q) Xd := propext Iff.rfl
theorem r_lc0 {g : WG} {tt : WT} {te : WE} {vs : List Nat} {ds : List D} {ρ : DS} {μ : Mu} {Q : D → Mu → Prop} : KLc0 g tt te vs ρ Q ds μ = ((∀ v ∈ vs, notOwn ρ v) ∧ lcL g tt te (DL.wipeD ρ vs) ds [] μ Q) := propext Iff.rfl
theorem r_lcn {g : WG} {tt : WT} {te : WE} {ρw : DS} {acc : List D} {μ : Mu} {Q : D → Mu → Prop} : lcL g tt te ρw [] acc μ Q = Q (.lst acc) μ := propext Iff.rfl
theorem r_lcc {g : WG} {tt : WT} {te : WE} {ρw : DS} {d : D} {ds acc : List D} {μ : Mu} {Q : D → Mu → Prop} : lcL g tt te ρw (d :: ds) acc μ Q = g d ρw μ (KLc1 g tt te ρw ds acc Q) := by
  rw [lcL]
  exact propext Iff.rfl
theorem r_lc1 {g : WG} {tt : WT} {te : WE} {ρw : DS} {ds acc : List D} {ρ : DS} {μ : Mu} {Q : D → Mu → Prop} : KLc1 g tt te ρw ds acc Q ρ μ = tt ρ μ (KLc2 g tt te ρw ρ ds acc Q) xF := propext Iff.rfl
theorem r_lc2t {g : WG} {tt : WT} {te : WE} {ρw : DS} {ds acc : List D} {ρ : DS} {μ : Mu} {Q : D → Mu → Prop} : KLc2 g tt te ρw ρ ds acc Q true μ = te ρ μ (KLc3 g tt te ρw ds acc Q) xF := propext Iff.rfl
theorem r_lc2f {g : WG} {tt : WT} {te : WE} {ρw : DS} {ds acc : List D} {ρ : DS} {μ : Mu} {Q : D → Mu → Prop} : KLc2 g tt te ρw ρ ds acc Q false μ = lcL g tt te ρw ds acc μ Q := propext Iff.rfl
theorem r_lc3 {g : WG} {tt : WT} {te : WE} {ρw : DS} {ds acc : List D} {y : D} {μ : Mu} {Q : D → Mu → Prop} : KLc3 g tt te ρw ds acc Q y μ = (acc.length < 1000000 ∧ lcL g tt te ρw ds (acc ++ [y]) μ Q) := propext Iff.rfl
theorem r_yes {ρ : DS} {μ : Mu} {Q : Bool → Mu → Prop} {Xd : XD} : wYes ρ μ Q Xd = Q true μ := propext Iff.rfl
def KSub3 (ρ : DS) (Q : DS → Mu → Prop) : Mu → Prop := fun μ3 => Q ρ μ3
def KSub2 (x d : D) (ρ : DS) (Q : DS → Mu → Prop) : D → Mu → Prop := fun y μ2 => stL x y d μ2 (KSub3 ρ Q)
def KSub1 (wi : WE) (d : D) (ρ : DS) (Q : DS → Mu → Prop) : D → Mu → Prop := fun x μ1 => wi ρ μ1 (KSub2 x d ρ Q) xF
theorem r_sub {wo wi : WE} {d : D} {ρ : DS} {μ : Mu} {Q : DS → Mu → Prop} : kSub wo wi d ρ μ Q = wo ρ μ (KSub1 wi d ρ Q) xF := propext Iff.rfl
theorem r_sub1 {wi : WE} {x d : D} {ρ : DS} {μ : Mu} {Q : DS → Mu → Prop} : KSub1 wi d ρ Q x μ = wi ρ μ (KSub2 x d ρ Q) xF := propext Iff.rfl
theorem r_sub2 {x y d : D} {ρ : DS} {μ : Mu} {Q : DS → Mu → Prop} : KSub2 x d ρ Q y μ = stL x y d μ (KSub3 ρ Q) := propext Iff.rfl
theorem r_sub3 {ρ : DS} {μ : Mu} {Q : DS → Mu → Prop} : KSub3 ρ Q μ = Q ρ μ := propext Iff.rfl
theorem r_dnx {Q : D → Mu → Prop} {Xd : XD} {ρ : DS} {μ : Mu} : (defE Q Xd).nx ρ μ = Q .non μ := propext Iff.rfl
theorem r_drt {Q : D → Mu → Prop} {Xd : XD} : (defE Q Xd).rt = Q := rfl
theorem r_dxc {c : Str} {ks : List Str} {es : List D} {Q : D → Mu → Prop} {Xd : XD} {ρ : DS} {μ : Mu} : (defE Q Xd).xc c ks es ρ μ = Xd c ks es μ := propext Iff.rfl
def KInit (Q : List Str → List D → Mu → Prop) (μ : Mu) : List Str → List D → Prop := fun ks ds => Q ks ds μ
theorem r_inx {c : Str} {a : Addr} {Q : List Str → List D → Mu → Prop} {Xd : XD} {ρ : DS} {μ : Mu} : (defI c a Q Xd).nx ρ μ = initEnd c a (KInit Q μ) ρ := propext Iff.rfl
theorem r_init {ks : List Str} {ds : List D} {Q : List Str → List D → Mu → Prop} {μ : Mu} : KInit Q μ ks ds = Q ks ds μ := propext Iff.rfl
theorem r_ixc {n c : Str} {a : Addr} {ks : List Str} {es : List D} {Q : List Str → List D → Mu → Prop} {Xd : XD} {ρ : DS} {μ : Mu} : (defI n a Q Xd).xc c ks es ρ μ = Xd c ks es μ := propext Iff.rfl
end DL

set_option Elab.async false
set_option linter.all false
set_option maxRecDepth 100000
set_option maxHeartbeats 4000000
set_option autoImplicit false
set_option exponentiation.threshold 3000
namespace DL
open PySem PySem.Spec PyProof.Rows L2
/-! ### frames of exceptions, properties, while -/
section
variable {E : DEnds} {ρ : DS} {μ : Mu} {Q : D → Mu → Prop} {Xd : XD} {c : Str} {ks : List Str} {ds es : List D} {i : Nat}
def KRaise (c : Str) (ks : List Str) (E : DEnds) (ρ : DS) : List D → Mu → Prop := fun ds μ1 => ds.length ≤ 1000 ∧ ds.length = ks.length ∧ E.xc c ks.reverse ds.reverse ρ μ1
theorem t_raise {wa : WA} : sRaise c ks wa E ρ μ = wa ρ μ (KRaise c ks E ρ) (KX E ρ) := propext Iff.rfl
theorem t_raise2 : KRaise c ks E ρ ds μ = (ds.length ≤ 1000 ∧ ds.length = ks.length ∧ E.xc c ks.reverse ds.reverse ρ μ) := propext Iff.rfl
theorem t_try {mt : Str → Option Bool} {wb wsu : WS} : sTry mt i wb wsu E ρ μ = wb { E with xc := caught mt i wsu E } ρ μ := propext Iff.rfl
def KCat (o : Option Bool) (i : Nat) (wsu : WS) (E : DEnds) (c : Str) (ks : List Str) (es : List D) (ρ : DS) (μ : Mu) : Prop := match o with
  | some true => wsu (suiteE i E) (ρ.set i (.exn c ks es)) μ
  | some false => E.xc c ks es ρ μ
  | none => False
theorem t_cat {mt : Str → Option Bool} {wsu : WS} : caught mt i wsu E c ks es ρ μ = KCat (mt c) i wsu E c ks es ρ μ := propext Iff.rfl
theorem t_catt {wsu : WS} : KCat (some true) i wsu E c ks es ρ μ = wsu (suiteE i E) (ρ.set i (.exn c ks es)) μ := propext Iff.rfl
theorem t_catf {wsu : WS} : KCat (some false) i wsu E c ks es ρ μ = E.xc c ks es ρ μ := propext Iff.rfl
theorem t_sunx : (suiteE i E).nx ρ μ = (noExn (ρ.set i .no) = true ∧ E.nx (ρ.set i .no) μ) := propext Iff.rfl
theorem t_surt : (suiteE i E).rt = E.rt := rfl
theorem t_nx0 : noExn [] = true := rfl
theorem t_nx1 : noExn (.no :: ρ) = noExn ρ := rfl
theorem t_nx2 {d : D} : noExn (.v d :: ρ) = noExn ρ := rfl
theorem t_nx3 {a : Addr} {c : Cell} : noExn (.own a c :: ρ) = noExn ρ := rfl
def KProp (c : Str) (sp : DSp) (Q : D → Mu → Prop) : D → Mu → Prop := fun x μ1 => isCls c x μ1 (sp [x] μ1 Q xF)
theorem t_prop {sp : DSp} {wa : WE} : wProp c sp wa ρ μ Q Xd = wa ρ μ (KProp c sp Q) Xd := propext Iff.rfl
theorem t_prop2 {sp : DSp} {x : D} : KProp c sp Q x μ = isCls c x μ (sp [x] μ Q xF) := propext Iff.rfl
def KXf (o : Option Sl) (cs : List Str) (f : Str) (μ : Mu) (Q : D → Mu → Prop) : Prop := match o with
  | some (.exn c ks ds) => c ∈ cs ∧ KFld2 (fldOf f ks ds) μ Q
  | _ => False
theorem t_xf {cs : List Str} {f : Str} : wXf cs i f ρ μ Q Xd = KXf (ρ[i]?) cs f μ Q := by
  unfold wXf KXf KExn getX KFld2
  exact propext Iff.rfl
theorem t_xf2 {cs : List Str} {f : Str} : KXf (some (.exn c ks ds)) cs f μ Q = (c ∈ cs ∧ KFld2 (fldOf f ks ds) μ Q) := propext Iff.rfl
def KIsX (o : Option Sl) (f : TyN → TyN → Option Bool) (cn : Str) (μ : Mu) (Q : D → Mu → Prop) : Prop := match o with
  | some (.exn c _ _) => KIsi (f (.c c) (.c cn)) μ Q
  | _ => False
theorem t_isx {f : TyN → TyN → Option Bool} {cn : Str} : wIsE f i cn ρ μ Q Xd = KIsX (ρ[i]?) f cn μ Q := by
  unfold wIsE KIsX KExn KIsi
  exact propext Iff.rfl
theorem t_isx2 {f : TyN → TyN → Option Bool} {cn : Str} : KIsX (some (.exn c ks ds)) f cn μ Q = KIsi (f (.c c) (.c cn)) μ Q := propext Iff.rfl
def KWh (b : WS) (K : DS → Mu → Prop) (E : DEnds) (ρ : DS) : Bool → Mu → Prop := fun k μ1 => if k = true then b { E with nx := K, ct := K, bk := E.nx } ρ μ1 else E.nx ρ μ1
theorem t_wht {b : WS} {K : DS → Mu → Prop} : KWh b K E ρ true μ = b { E with nx := K, ct := K, bk := E.nx } ρ μ := propext Iff.rfl
theorem t_whf {b : WS} {K : DS → Mu → Prop} : KWh b K E ρ false μ = E.nx ρ μ := propext Iff.rfl
/-- a while loop: a measure falls -/
theorem while_ind {t : WT} {b : WS} (I : Nat → DS → Mu → Prop) (step : ∀ n ρ μ (K : DS → Mu → Prop), I n ρ μ → (∀ m ρ' μ', m < n → I m ρ' μ' → K ρ' μ') → t ρ μ (KWh b K E ρ) (KX E ρ)) {n : Nat} (h : I n ρ μ) : sWhile t b E ρ μ := by
  have all : ∀ n ρ μ, I n ρ μ → ∀ N, n < N → whileL t b E N ρ μ := by
    intro n
    induction n using Nat.strongRecOn with
    | _ n ih =>
      intro ρ μ h N hN
      cases N with
      | zero => exact absurd hN (Nat.not_lt_zero _)
      | succ N => exact step n ρ μ (whileL t b E N) h fun m ρ' μ' hm hi => ih m hm ρ' μ' hi N (by omega)
  exact ⟨n + 1, all n ρ μ h _ (Nat.lt_succ_self n)⟩
end
theorem t_equ {x y : D} {μ : Mu} {Q : D → Mu → Prop} : fEqU x y μ Q = eqU x y fun b => Q (.bl b) μ := propext Iff.rfl
theorem t_neu {x y : D} {μ : Mu} {Q : D → Mu → Prop} : fNeU x y μ Q = eqU x y fun b => Q (.bl (!b)) μ := propext Iff.rfl
/-! ### comparisons of texts and lists -/
theorem atoms_no {x y : D} {k : Bool → Prop} {u v : V} (h1 : atomV x = some u) (h2 : atomV y = some v) (hs : scal u v = true) (hd : ∀ k', eqD x y k' → k' (decide (u = v))) : eqU x y k = k (decide (u = v)) := by
  apply propext
  constructor
  · rintro (⟨u', v', e1, e2, _, h⟩ | h)
    · rw [h1] at e1
      rw [h2] at e2
      cases e1
      cases e2
      exact h
    · exact hd k h
  · intro h
    exact .inl ⟨u, v, h1, h2, hs, h⟩
theorem eqU_int {i j : Int} {k : Bool → Prop} : eqU (.int i) (.int j) k = k (decide (i = j)) := by
  have e : decide (V.int i = V.int j) = decide (i = j) := by rw [dec_int, Bool.beq_eq_decide_eq]
  rw [atoms_no (x := .int i) (y := .int j) rfl rfl rfl fun k' h => by rw [eqD_int] at h; rw [e]; exact h, e]
theorem eqU_str {a b : Str} {k : Bool → Prop} : eqU (.str a) (.str b) k = k (decide (a = b)) := by
  have e : decide (V.str a = V.str b) = decide (a = b) := by
    rw [Bool.eq_iff_iff]
    simp
  rw [atoms_no (x := .str a) (y := .str b) rfl rfl rfl fun k' h => by
    obtain ⟨p, q, h1, h2, _, _, h⟩ := h
    rw [toP] at h1 h2
    cases h1
    cases h2
    have e' : PyData.eqv (.str a) (.str b) = decide (a = b) := by
      rw [Bool.eq_iff_iff]; simp [PyData.eqv]
    rw [e, ← e']; exact h, e]
theorem eqU_bl {a b : Bool} {k : Bool → Prop} : eqU (.bl a) (.bl b) k = k (a == b) := by
  have e : decide (V.bl a = V.bl b) = (a == b) := by cases a <;> cases b <;> decide
  rw [atoms_no (x := .bl a) (y := .bl b) rfl rfl rfl fun k' h => by
    obtain ⟨p, q, h1, h2, _, _, h⟩ := h
    rw [toP] at h1 h2
    cases h1
    cases h2
    have e' : PyData.eqv (.bool a) (.bool b) = (a == b) := by cases a <;> cases b <;> rfl
    rw [e, ← e']; exact h, e]
/-! ### a comprehension that tells of each item -/
def KEl (te : WE) (K : D → Mu → Prop) : DS → Mu → Prop := fun ρ2 μ2 => te ρ2 μ2 K xF
theorem t_el {te : WE} {K : D → Mu → Prop} {ρ : DS} {μ : Mu} : KEl te K ρ μ = te ρ μ K xF := propext Iff.rfl
end DL

set_option Elab.async false
set_option linter.all false
set_option maxRecDepth 100000
set_option maxHeartbeats 4000000
set_option autoImplicit false
set_option exponentiation.threshold 3000
namespace DL
open PySem PySem.Spec PyProof.Rows L2
/-! frames of DX8 to DX11 -/
section
variable {Q : D → Mu → Prop} {Xd : XD} {ρ : DS} {μ : Mu} {E : DEnds}
def KLof (o : Option (List D)) (μ : Mu) (Q : D → Mu → Prop) : Prop := match o with
  | some ds => Q (.lst ds) μ
  | none => False
def KTof (o : Option (List D)) (μ : Mu) (Q : D → Mu → Prop) : Prop := match o with
  | some ds => Q (.tup ds) μ
  | none => False
theorem u_lof {x : D} : fListOf [x] μ Q = KLof (itemsD x μ) μ Q := propext Iff.rfl
theorem u_lof2 {ds : List D} : KLof (some ds) μ Q = Q (.lst ds) μ := propext Iff.rfl
theorem u_tof {x : D} : fTupOf [x] μ Q = KTof (itemsD x μ) μ Q := propext Iff.rfl
theorem u_tof2 {ds : List D} : KTof (some ds) μ Q = Q (.tup ds) μ := propext Iff.rfl
theorem u_isiT {f : TyN → TyN → Option Bool} {x : D} {cs : List D} : fIsiT f [x, .tup cs] μ Q = KIsi (isiDT f x cs μ) μ Q := propext Iff.rfl
theorem u_dict {i j : Int} : wDictII i j ρ μ Q Xd = Q (.opq (.dK [(.inl i, .int j)])) μ := propext Iff.rfl
/-! own comparisons -/
def KBl (neg : Bool) (Q : D → Mu → Prop) : D → Mu → Prop := fun d μ1 => fBool d fun b => Q (.bl (neg ^^ b)) μ1
theorem u_bl {neg b : Bool} : KBl neg Q (.bl b) μ = Q (.bl (neg ^^ b)) μ := propext Iff.rfl
theorem u_own {c : Str} {Ts : List String} {Cs : List Str} {sp : DSp} {x y : D} : fOwn c Ts Cs sp x y μ Q = isCls c x μ (othC Ts Cs y μ (sp [x, y] μ Q xF)) := propext Iff.rfl
theorem u_ownN {c : Str} {Ts : List String} {Cs : List Str} {sp : DSp} {x y : D} : fOwnN c Ts Cs sp x y μ Q = isCls c x μ (othC Ts Cs y μ (sp [x, y] μ (KBl true Q) xF)) := by
  unfold fOwnN KBl
  simp only [Bool.true_xor]
theorem u_has {c : Str} {sp : DSp} {x y : D} : fHas c sp y x μ Q = isCls c x μ (sp [x, y] μ (KBl false Q) xF) := by
  unfold fHas KBl
  simp only [Bool.false_xor]
theorem u_hasN {c : Str} {sp : DSp} {x y : D} : fHasN c sp y x μ Q = isCls c x μ (sp [x, y] μ (KBl true Q) xF) := by
  unfold fHasN KBl
  simp only [Bool.true_xor]
/-! reflected, static -/
def KBk2 (c T : Str) (T' : String) (sp : DSp) (y : D) (Q : D → Mu → Prop) (Xd : XD) : D → Mu → Prop := fun x μ2 => isTy T' y μ2 (isCls c x μ2 (sp [x, y] μ2 Q Xd))
def KBk1 (c : Str) (T : String) (sp : DSp) (wb : WE) (ρ : DS) (Q : D → Mu → Prop) (Xd : XD) : D → Mu → Prop := fun y μ1 => wb ρ μ1 (KBk2 c c T sp y Q Xd) Xd
theorem u_bk {c : Str} {T : String} {sp : DSp} {wa wb : WE} : wBack c T sp wa wb ρ μ Q Xd = wa ρ μ (KBk1 c T sp wb ρ Q Xd) Xd := propext Iff.rfl
theorem u_bk1 {c : Str} {T : String} {sp : DSp} {wb : WE} {y : D} : KBk1 c T sp wb ρ Q Xd y μ = wb ρ μ (KBk2 c c T sp y Q Xd) Xd := propext Iff.rfl
theorem u_bk2 {c c' : Str} {T : String} {sp : DSp} {x y : D} : KBk2 c c' T sp y Q Xd x μ = isTy T y μ (isCls c x μ (sp [x, y] μ Q Xd)) := propext Iff.rfl
theorem u_stat {sp : DSp} : wStat sp ρ μ Q Xd = sp [] μ Q Xd := propext Iff.rfl
/-! own lists -/
def KAp (i : Nat) (p : Addr) (ds : List D) (E : DEnds) (ρ : DS) : List D → Mu → Prop := fun xs μ1 => ds.length < 1000000 ∧ ∃ d, xs = [d] ∧ E.nx (ρ.set i (.own p (.lst (ds ++ [d])))) μ1
theorem u_ap {i : Nat} {wa : WA} : sAppO i wa E ρ μ = appO i wa E ρ μ (ρ[i]?) := propext Iff.rfl
theorem u_ap1 {i : Nat} {wa : WA} {p : Addr} {ds : List D} : appO i wa E ρ μ (some (.own p (.lst ds))) = wa ρ μ (KAp i p ds E ρ) (KX E ρ) := propext Iff.rfl
theorem u_ap2 {i : Nat} {p : Addr} {ds : List D} {d : D} : KAp i p ds E ρ [d] μ = (ds.length < 1000000 ∧ E.nx (ρ.set i (.own p (.lst (ds ++ [d])))) μ) := by
  apply propext
  constructor
  · rintro ⟨h, d', e, q⟩
    cases e
    exact ⟨h, q⟩
  · rintro ⟨h, q⟩
    exact ⟨h, d, rfl, q⟩
def KEx (i : Nat) (p : Addr) (ds : List D) (E : DEnds) (ρ : DS) : List D → Mu → Prop := fun xs μ1 => ∃ zs, xs = [.lst zs] ∧ ds.length + zs.length ≤ 1000000 ∧ E.nx (ρ.set i (.own p (.lst (ds ++ zs)))) μ1
theorem u_ex {i : Nat} {wa : WA} : sExtO i wa E ρ μ = extO i wa E ρ μ (ρ[i]?) := propext Iff.rfl
theorem u_ex1 {i : Nat} {wa : WA} {p : Addr} {ds : List D} : extO i wa E ρ μ (some (.own p (.lst ds))) = wa ρ μ (KEx i p ds E ρ) (KX E ρ) := propext Iff.rfl
theorem u_ex2 {i : Nat} {p : Addr} {ds zs : List D} : KEx i p ds E ρ [.lst zs] μ = (ds.length + zs.length ≤ 1000000 ∧ E.nx (ρ.set i (.own p (.lst (ds ++ zs)))) μ) := by
  apply propext
  constructor
  · rintro ⟨zs', e, h, q⟩
    cases e
    exact ⟨h, q⟩
  · rintro ⟨h, q⟩
    exact ⟨zs, rfl, h, q⟩
theorem u_kd {L : List (List Int × Int)} {ds : List D} : fKd L (.tup ds) μ Q = ∃ ks, intsD ds = some ks ∧ ∃ v, kdGet L ks = some v ∧ Q (.int v) μ := propext Iff.rfl
def KWizX (Q : List D → Mu → Prop) : List D → Mu → Prop := fun ds μ1 => zipX2 ds fun es => Q es μ1
theorem u_wzx {wa : WA} {Q : List D → Mu → Prop} : wiZipX wa ρ μ Q Xd = wa ρ μ (KWizX Q) Xd := propext Iff.rfl
theorem u_wzl {a b : List D} {Q : List D → Mu → Prop} : KWizX Q [.lst a, .lst b] μ = Q (zipD a b) μ := propext Iff.rfl
theorem u_wzt {a b : List D} {Q : List D → Mu → Prop} : KWizX Q [.tup a, .tup b] μ = Q (zipD a b) μ := propext Iff.rfl
theorem u_wzm {a b : List D} {Q : List D → Mu → Prop} : KWizX Q [.tup a, .lst b] μ = Q (zipD a b) μ := propext Iff.rfl
theorem u_zd {a b : List D} {x y : D} : zipD (x :: a) (y :: b) = .tup [x, y] :: zipD a b := rfl
theorem u_zd0 {b : List D} : zipD [] b = [] := rfl
def KWeX (Q : List D → Mu → Prop) : List D → Mu → Prop := fun ds μ1 => enX ds fun es => Q es μ1
theorem u_wex {wa : WA} {Q : List D → Mu → Prop} : wiEnumX wa ρ μ Q Xd = wa ρ μ (KWeX Q) Xd := propext Iff.rfl
theorem u_wel {a : List D} {Q : List D → Mu → Prop} : KWeX Q [.lst a] μ = Q (enumD a) μ := propext Iff.rfl
theorem u_wef {a : List D} {Q : List D → Mu → Prop} : KWeX Q [.frl a] μ = Q (enumD a) μ := propext Iff.rfl
theorem u_wet {a : List D} {Q : List D → Mu → Prop} : KWeX Q [.tup a] μ = Q (enumD a) μ := propext Iff.rfl
def enN : Nat → List D → List D
  | _, [] => []
  | n, d :: ds => .tup [.int n, d] :: enN (n + 1) ds
theorem enN_eq : ∀ (ds : List D) (n : Nat), ds.mapIdx (fun i d => D.tup [.int ((n + i : Nat) : Int), d]) = enN n ds
  | [], n => rfl
  | d :: ds, n => by
    rw [List.mapIdx_cons, enN, ← enN_eq ds (n + 1)]
    congr 1
    refine List.ext_getElem? fun i => ?_
    rw [List.getElem?_mapIdx, List.getElem?_mapIdx]
    have e : n + (i + 1) = n + 1 + i := by omega
    rw [e]
theorem u_en {d : D} {ds : List D} : enumD (d :: ds) = enN 0 (d :: ds) := by
  rw [← enN_eq]
  unfold enumD
  refine List.ext_getElem? fun i => ?_
  rw [List.getElem?_mapIdx, List.getElem?_mapIdx, Nat.zero_add]
theorem u_en0 : enumD [] = [] := rfl
theorem u_enc {n : Nat} {d : D} {ds : List D} : enN n (d :: ds) = .tup [.int n, d] :: enN (n + 1) ds := rfl
theorem u_enn {n : Nat} : enN n [] = [] := rfl
theorem u_ownL {p : Addr} {ds : List D} {k : List D → Prop} : ownL (some (.own p (.lst ds))) k = k ds := propext Iff.rfl
theorem u_olen {i : Nat} : wOwnLen i ρ μ Q Xd = ownL (ρ[i]?) fun ds => Q (.int ds.length) μ := propext Iff.rfl
def KOx (ds : List D) (Q : D → Mu → Prop) : D → Mu → Prop := fun y μ1 => intOr y fun j => KIx2 (atI ds j) μ1 Q
theorem u_oix {i : Nat} {wb : WE} : wOwnIx i wb ρ μ Q Xd = ownL (ρ[i]?) fun ds => wb ρ μ (KOx ds Q) Xd := propext Iff.rfl
theorem u_oix1 {ds : List D} {j : Int} : KOx ds Q (.int j) μ = KIx2 (atI ds j) μ Q := propext Iff.rfl
def KOi (neg : Bool) (ds : List D) (Q : D → Mu → Prop) : D → Mu → Prop := fun x μ1 => ownIn neg x ds fun b => Q (.bl b) μ1
theorem u_oin {neg : Bool} {i : Nat} {wa : WE} : wOwnIn neg i wa ρ μ Q Xd = ownL (ρ[i]?) fun ds => wa ρ μ (KOi neg ds Q) Xd := propext Iff.rfl
def KHotX (sp : XSp) (o : Option Sl) (μ : Mu) (Q : D → Mu → Prop) : Prop := KExn o fun c ks es => sp c ks es μ Q
theorem u_hot {sp : XSp} {i : Nat} : wHotX sp i ρ μ Q Xd = KHotX sp (ρ[i]?) μ Q := propext Iff.rfl
theorem u_hot1 {sp : XSp} {c : Str} {ks : List Str} {es : List D} : KHotX sp (some (.exn c ks es)) μ Q = sp c ks es μ Q := propext Iff.rfl
def KMb2 (f : F2) (x : D) (Q : D → Mu → Prop) : D → Mu → Prop := fun y μ2 => f x y μ2 Q
def KMb (f : F2) (wa : WE) (ρ : DS) (Q : D → Mu → Prop) (Xd : XD) : D → Mu → Prop := fun x μ1 => isL x (wa ρ μ1 (KMb2 f x Q) Xd)
theorem u_mb {f : F2} {wo wa : WE} : wMb f wo wa ρ μ Q Xd = wo ρ μ (KMb f wa ρ Q Xd) Xd := propext Iff.rfl
theorem u_mb1 {f : F2} {wa : WE} {ds : List D} : KMb f wa ρ Q Xd (.lst ds) μ = wa ρ μ (KMb2 f (.lst ds) Q) Xd := propext Iff.rfl
theorem u_mb1f {f : F2} {wa : WE} {ds : List D} : KMb f wa ρ Q Xd (.frl ds) μ = wa ρ μ (KMb2 f (.frl ds) Q) Xd := propext Iff.rfl
theorem u_mb2 {f : F2} {x y : D} : KMb2 f x Q y μ = f x y μ Q := propext Iff.rfl
theorem u_rev {ds : List D} : fRev (.lst ds) μ Q = Q (.lst ds.reverse) μ := propext Iff.rfl
theorem u_revf {ds : List D} : fRev (.frl ds) μ Q = Q (.lst ds.reverse) μ := propext Iff.rfl
def KMu (c1 c2 m : Str) (sp1 sp2 : DSp) (wa : WA) (ρ : DS) (Q : D → Mu → Prop) (Xd : XD) : D → Mu → Prop := fun x μ1 => hasCls c1 m x μ1 (wa ρ μ1 (KMe2 sp1 x Q Xd) Xd) ∨ hasCls c2 m x μ1 (wa ρ μ1 (KMe2 sp2 x Q Xd) Xd)
theorem u_mu {c1 c2 m : Str} {sp1 sp2 : DSp} {wo : WE} {wa : WA} : wMethU c1 c2 m sp1 sp2 wo wa ρ μ Q Xd = wo ρ μ (KMu c1 c2 m sp1 sp2 wa ρ Q Xd) Xd := propext Iff.rfl
theorem u_mu1 {c1 c2 m : Str} {sp1 sp2 : DSp} {wa : WA} {x : D} : KMu c1 c2 m sp1 sp2 wa ρ Q Xd x μ = (hasCls c1 m x μ (wa ρ μ (KMe2 sp1 x Q Xd) Xd) ∨ hasCls c2 m x μ (wa ρ μ (KMe2 sp2 x Q Xd) Xd)) := propext Iff.rfl
theorem u_sumT {ds : List D} : fSumX [.tup ds] μ Q = ∃ ns, intsD ds = some ns ∧ Q (.int ns.sum) μ := propext Iff.rfl
theorem u_sumL {ds : List D} : fSumX [.lst ds] μ Q = ∃ ns, intsD ds = some ns ∧ Q (.int ns.sum) μ := propext Iff.rfl
theorem u_wio {i : Nat} {Q : List D → Mu → Prop} : wiOwn i ρ μ Q Xd = ownL (ρ[i]?) fun ds => Q ds μ := propext Iff.rfl
end
end DL

set_option Elab.async false
set_option linter.all false
set_option maxRecDepth 100000
set_option maxHeartbeats 4000000
set_option autoImplicit false
set_option exponentiation.threshold 3000
namespace DL
open PySem PySem.Spec PyProof.Rows L2
/-! ### == of plain data, by recursion -/
def P0 : D → Bool
  | .non => true
  | .bl _ => true
  | .int _ => true
  | .str s => PyData.strOk s
  | _ => false
def Pn (p : D → Bool) : D → Bool
  | .tup ds => ds.all p
  | .lst ds => ds.all p
  | .frl ds => ds.all p
  | d => P0 d
abbrev P5 : D → Bool := Pn (Pn (Pn (Pn (Pn P0))))
mutual
def deq : D → D → Bool
  | .non, .non => true
  | .bl a, .bl b => a == b
  | .bl a, .int j => decide ((if a then 1 else 0) = j)
  | .int i, .bl b => decide (i = (if b then 1 else 0))
  | .int i, .int j => decide (i = j)
  | .str a, .str b => decide (a = b)
  | .tup a, .tup b => deqs a b
  | .lst a, .lst b => deqs a b
  | .lst a, .frl b => deqs a b
  | .frl a, .lst b => deqs a b
  | .frl a, .frl b => deqs a b
  | _, _ => false
def deqs : List D → List D → Bool
  | [], [] => true
  | x :: xs, y :: ys => deq x y && deqs xs ys
  | _, _ => false
end
/-- data of depth n -/
structure Lay (n : Nat) (d : D) (p : PyData) : Prop where
  to : toP d = some p
  lay : p.canLay0 = true
  dep : p.depth ≤ n
theorem P0_lay {d : D} (h : P0 d = true) : ∃ p, Lay 0 d p := by
  cases d <;> first | (cases h; done) | skip
  · exact ⟨.none, ⟨by rw [toP], rfl, Nat.le_refl _⟩⟩
  · exact ⟨.bool _, ⟨by rw [toP], rfl, Nat.le_refl _⟩⟩
  · exact ⟨.int _, ⟨by rw [toP], rfl, Nat.le_refl _⟩⟩
  · exact ⟨.str _, ⟨by rw [toP], h, Nat.le_refl _⟩⟩
theorem lays {p : D → Bool} {n : Nat} (hp : ∀ d, p d = true → ∃ q, Lay n d q) : ∀ ds : List D, ds.all p = true → ∃ qs, toPs ds = some qs ∧ PyData.canLayAll0 qs = true ∧ PyData.depthAll qs ≤ n
  | [], _ => ⟨[], by rw [toPs], rfl, Nat.zero_le _⟩
  | d :: ds, h => by
    rw [List.all_cons, Bool.and_eq_true_iff] at h
    obtain ⟨q, h1⟩ := hp d h.1
    obtain ⟨qs, h2, h3, h4⟩ := lays hp ds h.2
    refine ⟨q :: qs, by rw [toPs, h1.to, h2], ?_, ?_⟩
    · rw [PyData.canLayAll0, h1.lay, h3]
      rfl
    · rw [PyData.depthAll]
      exact Nat.max_le.mpr ⟨h1.dep, h4⟩
theorem Pn_lay {p : D → Bool} {n : Nat} (hp : ∀ d, p d = true → ∃ q, Lay n d q) {d : D} (h : Pn p d = true) : ∃ q, Lay (n + 1) d q := by
  have low : P0 d = true → ∃ q, Lay (n + 1) d q := fun h => by
    obtain ⟨q, h1⟩ := P0_lay h
    exact ⟨q, h1.to, h1.lay, by have := h1.dep; omega⟩
  cases d with
  | tup ds =>
    obtain ⟨qs, h2, h3, h4⟩ := lays hp ds h
    exact ⟨.tuple qs, by rw [toP, h2]; rfl, h3, Nat.succ_le_succ h4⟩
  | lst ds =>
    obtain ⟨qs, h2, h3, h4⟩ := lays hp ds h
    exact ⟨.list qs, by rw [toP, h2]; rfl, h3, Nat.succ_le_succ h4⟩
  | frl ds =>
    obtain ⟨qs, h2, h3, h4⟩ := lays hp ds h
    exact ⟨.list qs, by rw [toP, h2]; rfl, h3, Nat.succ_le_succ h4⟩
  | non => exact low h
  | bl b => exact low h
  | int i => exact low h
  | str z => exact low h
  | obj c ks ds => exact low h
  | loc n => exact low h
  | ty n => exact low h
  | cls c => exact low h
  | opq o => exact low h
theorem P5_lay {d : D} (h : P5 d = true) : ∃ q, Lay 5 d q := Pn_lay (fun _ h => Pn_lay (fun _ h => Pn_lay (fun _ h => Pn_lay (fun _ h => Pn_lay (fun _ h => P0_lay h) h) h) h) h) h
mutual
theorem deq_eqv : ∀ (x y : D) (p q : PyData), toP x = some p → toP y = some q → PyData.eqv p q = deq x y := by
  intro x y p q hx hy
  cases x <;> simp only [toP, Option.map_eq_some_iff, Option.some.injEq, reduceCtorEq] at hx <;> cases y <;> simp only [toP, Option.map_eq_some_iff, Option.some.injEq, reduceCtorEq] at hy
  all_goals first
    | (subst hx hy; simp [PyData.eqv, deq]; done)
    | (subst hx hy; rw [PyData.eqv, deq, Bool.beq_eq_decide_eq]; done)
    | (obtain ⟨ps, hx, rfl⟩ := hx; obtain ⟨qs, hy, rfl⟩ := hy; rw [PyData.eqv, deq]; exact deqs_eqv _ _ _ _ hx hy)
    | (obtain ⟨ps, hx, rfl⟩ := hx; subst hy; simp [PyData.eqv, deq]; done)
    | (obtain ⟨qs, hy, rfl⟩ := hy; subst hx; simp [PyData.eqv, deq]; done)
    | (obtain ⟨ps, hx, rfl⟩ := hx; obtain ⟨qs, hy, rfl⟩ := hy; simp [PyData.eqv, deq]; done)
theorem deqs_eqv : ∀ (xs ys : List D) (ps qs : List PyData), toPs xs = some ps → toPs ys = some qs → PyData.eqvAll ps qs = deqs xs ys := by
  intro xs ys ps qs hx hy
  cases xs with
  | nil =>
    rw [toPs] at hx
    cases hx
    cases ys with
    | nil => rw [toPs] at hy; cases hy; rfl
    | cons y ys =>
      rw [toPs] at hy
      split at hy
      · cases hy; simp [PyData.eqvAll, deqs]
      · cases hy
  | cons x xs =>
    rw [toPs] at hx
    split at hx
    · rename_i p ps' h1 h2
      cases hx
      cases ys with
      | nil => rw [toPs] at hy; cases hy; simp [PyData.eqvAll, deqs]
      | cons y ys =>
        rw [toPs] at hy
        split at hy
        · rename_i q qs' h3 h4
          cases hy
          rw [PyData.eqvAll, deqs, deq_eqv x y _ _ h1 h3, deqs_eqv xs ys _ _ h2 h4]
        · cases hy
    · cases hx
end
theorem eqU_pl {x y : D} (hx : P5 x = true) (hy : P5 y = true) {k : Bool → Prop} : eqU x y k = k (deq x y) := by
  apply propext
  constructor
  · rintro (⟨u, v, h1, h2, hs, h⟩ | ⟨p, q, h1, h2, _, _, h⟩)
    · have e : decide (u = v) = deq x y := by
        cases x <;> cases h1 <;> cases y <;> cases h2 <;> first
          | (cases hs; done)
          | (simp [deq]; done)
          | (simp only [deq]; rw [Bool.eq_iff_iff]; simp)
      rw [← e]
      exact h
    · rw [← deq_eqv x y p q h1 h2]
      exact h
  · intro h
    obtain ⟨p, a1, a2, a3⟩ := P5_lay hx
    obtain ⟨q, b1, b2, b3⟩ := P5_lay hy
    refine .inr ⟨p, q, a1, b1, ?_, ?_, ?_⟩
    · unfold SeqAt.shaped
      rw [a2]
      exact decide_eq_true (by omega)
    · unfold SeqAt.shaped
      rw [b2]
      exact decide_eq_true (by omega)
    · rw [deq_eqv x y p q a1 b1]
      exact h
/-! count, index of plain data -/
/-! simp lemmas -/
section
variable {p : D → Bool}
theorem p_int {i : Int} : Pn p (.int i) = true := rfl
theorem p_bl {i : Bool} : Pn p (.bl i) = true := rfl
theorem p_non : Pn p .non = true := rfl
theorem p_tup {ds : List D} : Pn p (.tup ds) = ds.all p := rfl
theorem p_lst {ds : List D} : Pn p (.lst ds) = ds.all p := rfl
theorem p_frl {ds : List D} : Pn p (.frl ds) = ds.all p := rfl
theorem p0_int {i : Int} : P0 (.int i) = true := rfl
theorem p0_bl {i : Bool} : P0 (.bl i) = true := rfl
theorem p0_non : P0 .non = true := rfl
theorem all_map {α : Type} {f : α → D} {l : List α} (h : ∀ x, p (f x) = true) : (l.map f).all p = true := by
  rw [List.all_eq_true]
  intro d hd
  obtain ⟨x, _, rfl⟩ := List.mem_map.mp hd
  exact h x
end
/-- lists of data that are told by values -/
theorem deqs_map {α : Type} [DecidableEq α] {f : α → D} (h : ∀ a b, deq (f a) (f b) = decide (a = b)) : ∀ xs ys : List α, deqs (xs.map f) (ys.map f) = decide (xs = ys)
  | [], [] => rfl
  | [], y :: ys => by simp [deqs]
  | x :: xs, [] => by simp [deqs]
  | x :: xs, y :: ys => by
    rw [List.map_cons, List.map_cons, deqs, h, deqs_map h xs ys, Bool.eq_iff_iff]
    simp
theorem b_go {b v : Bool} {F : Bool → Mu → Prop} {μ : Mu} (e : b = v) (h : F v μ) : F b μ := e ▸ h
end DL

set_option Elab.async false
set_option linter.all false
set_option maxRecDepth 100000
set_option maxHeartbeats 4000000
set_option autoImplicit false
set_option exponentiation.threshold 3000
namespace DL
open PySem PySem.Spec PyProof.Rows L2
/-! loops and comprehensions over lists that are told by values -/
section
variable {α : Type} {g : WG} {tt : WT} {te : WE} {ρw : DS} {b : WS} {E : DEnds} {ρ : DS} {μ : Mu} {Q : D → Mu → Prop}
theorem lc_ind {f : α → D} (h : α → Option D) : ∀ {l : List α} {acc : List D}, (∀ a ∈ l, ∀ ds acc, acc.length < 1000000 → lcL g tt te ρw ds (acc ++ (h a).toList) μ Q → g (f a) ρw μ (KLc1 g tt te ρw ds acc Q)) → acc.length + l.length ≤ 1000000 →
    Q (.lst (acc ++ l.filterMap h)) μ → lcL g tt te ρw (l.map f) acc μ Q
  | [], acc, step, hl, fin => by
    rw [List.map_nil, lcL]
    simpa using fin
  | a :: l, acc, step, hl, fin => by
    rw [List.map_cons, r_lcc]
    rw [List.length_cons] at hl
    refine step a List.mem_cons_self (l.map f) acc (by omega) (lc_ind h (fun a' ha => step a' (List.mem_cons_of_mem _ ha)) ?_ ?_)
    · rw [List.length_append]
      cases h a
      · simp; omega
      · simp; omega
    · have e : acc ++ (h a).toList ++ l.filterMap h = acc ++ (a :: l).filterMap h := by
        rw [List.filterMap_cons]
        cases h a <;> simp
      rw [e]
      exact fin
theorem lc_mp {f : α → D} (h : α → D) {l : List α} (step : ∀ a ∈ l, ∀ ds acc, acc.length < 1000000 → lcL g tt te ρw ds (acc ++ [h a]) μ Q → g (f a) ρw μ (KLc1 g tt te ρw ds acc Q)) (hl : l.length ≤ 1000000) (fin : Q (.lst (l.map h)) μ) :
    lcL g tt te ρw (l.map f) [] μ Q := lc_ind (fun a => some (h a)) step (by simpa using hl) (by simpa [List.filterMap_eq_map] using fin)
theorem fm_filter {c : α → Bool} {h : α → D} : ∀ {l : List α}, l.filterMap (fun a => if c a then some (h a) else none) = (l.filter c).map h
  | [] => rfl
  | a :: l => by
    rw [List.filterMap_cons, List.filter_cons, fm_filter]
    cases c a <;> rfl
theorem lc_filter {f : α → D} (c : α → Bool) (h : α → D) {l : List α} (step : ∀ a ∈ l, ∀ ds acc, acc.length < 1000000 → (c a = true → lcL g tt te ρw ds (acc ++ [h a]) μ Q) → (c a = false → lcL g tt te ρw ds acc μ Q) → g (f a) ρw μ (KLc1 g tt te ρw ds acc Q)) (hl : l.length ≤ 1000000)
    (fin : Q (.lst ((l.filter c).map h)) μ) : lcL g tt te ρw (l.map f) [] μ Q := by
  refine lc_ind (fun a => if c a then some (h a) else none) (fun a ha ds acc hacc hK => step a ha ds acc hacc (fun e => ?_) fun e => ?_) (by simpa using hl) ?_
  · rw [e] at hK
    simpa using hK
  · rw [e] at hK
    simpa using hK
  · rw [fm_filter]
    simpa using fin
/-- elements that draw from the pool -/
theorem lc_pool {f : α → D} (P : Nat → α → Prop) {lo : Int} {n : Nat} (hn : n ≤ 1000000)
    (step : ∀ i, i < n → ∀ p q, PoolOk p q → ∀ K : D → Mu → Prop, (∀ a p' q', PoolOk p' q' → P i a → K (f a) (pl μ p' q')) → g (.int (lo + (i : Nat))) ρw (pl μ p q) (KEl te K))
    (fin : ∀ l : List α, l.length = n → (∀ i a, l[i]? = some a → P i a) → ∀ p q, PoolOk p q → Q (.lst (l.map f)) (pl μ p q)) {p q : Int} (ok : PoolOk p q) : lcL g wYes te ρw (rangeD lo n) [] (pl μ p q) Q := by
  have all : ∀ k i, i + k = n → ∀ (l : List α), l.length = i → (∀ j a, l[j]? = some a → P j a) → ∀ p q, PoolOk p q → lcL g wYes te ρw ((List.range' i k).map fun j => D.int (lo + (j : Nat))) (l.map f) (pl μ p q) Q := by
    intro k
    induction k with
    | zero =>
      intro i hi l hl hP p q ok
      rw [List.range'_zero, List.map_nil, r_lcn]
      exact fin l (by omega) hP p q ok
    | succ k ih =>
      intro i hi l hl hP p q ok
      rw [List.range'_succ, List.map_cons, r_lcc]
      have e : KLc1 g wYes te ρw ((List.range' (i + 1) k).map fun j => D.int (lo + (j : Nat))) (l.map f) Q = KEl te (KLc3 g wYes te ρw ((List.range' (i + 1) k).map fun j => D.int (lo + (j : Nat))) (l.map f) Q) := by
        funext ρ2 μ2
        rw [r_lc1, r_yes, r_lc2t, t_el]
      rw [e]
      refine step i (by omega) p q ok _ fun a p' q' ok' ha => ?_
      rw [r_lc3]
      refine ⟨by rw [List.length_map]; omega, ?_⟩
      have e2 : l.map f ++ [f a] = (l ++ [a]).map f := by simp
      rw [e2]
      refine ih (i + 1) (by omega) (l ++ [a]) (by rw [List.length_append, List.length_singleton, hl]) (fun j b hb => ?_) p' q' ok'
      by_cases hj : j < l.length
      · rw [List.getElem?_append_left hj] at hb
        exact hP j b hb
      · rw [List.getElem?_append_right (by omega)] at hb
        have hj0 : j - l.length = 0 := by
          by_cases c : j - l.length = 0
          · exact c
          · rw [List.getElem?_eq_none (by rw [List.length_singleton]; omega)] at hb
            cases hb
        rw [hj0] at hb
        cases hb
        have : j = i := by omega
        subst this
        exact ha
  have e : rangeD lo n = (List.range' 0 n).map fun j => D.int (lo + (j : Nat)) := by
    unfold rangeD
    rw [List.range_eq_range']
  rw [e]
  exact all n 0 (by omega) [] rfl (fun j a h => by simp at h) p q ok
/-- over range(lo, lo + n) -/
theorem forL_rng {lo : Int} {n : Nat} (I : Nat → DS → Mu → Prop) (step : ∀ i, i < n → ∀ ρ μ (K : DS → Mu → Prop), I i ρ μ → (∀ ρ' μ', I (i + 1) ρ' μ' → K ρ' μ') → g (.int (lo + (i : Nat))) ρ μ fun ρ1 μ1 => b { E with nx := K, ct := K, bk := E.nx } ρ1 μ1)
    (fin : ∀ ρ μ, I n ρ μ → E.nx ρ μ) (h : I 0 ρ μ) : forL g b E (rangeD lo n) ρ μ := by
  have all : ∀ k i, i + k = n → ∀ ρ μ, I i ρ μ → forL g b E ((List.range' i k).map fun j => D.int (lo + (j : Nat))) ρ μ := by
    intro k
    induction k with
    | zero =>
      intro i hi ρ μ h
      have e : i = n := by omega
      subst e
      rw [List.range'_zero, List.map_nil, forL]
      exact fin _ _ h
    | succ k ih =>
      intro i hi ρ μ h
      rw [List.range'_succ, List.map_cons, forL]
      exact step i (by omega) ρ μ _ h fun ρ' μ' h' => ih (i + 1) (by omega) ρ' μ' h'
  have e : rangeD lo n = (List.range' 0 n).map fun j => D.int (lo + (j : Nat)) := by
    unfold rangeD
    rw [List.range_eq_range']
  rw [e]
  exact all n 0 (by omega) ρ μ h
/-- over data told by values, with what has been gone through -/
theorem forL_pre {f : α → D} {l : List α} (I : List α → DS → Mu → Prop) (step : ∀ pre a post, l = pre ++ a :: post → ∀ ρ μ (K : DS → Mu → Prop), I pre ρ μ → (∀ ρ' μ', I (pre ++ [a]) ρ' μ' → K ρ' μ') → g (f a) ρ μ fun ρ1 μ1 => b { E with nx := K, ct := K, bk := E.nx } ρ1 μ1)
    (fin : ∀ ρ μ, I l ρ μ → E.nx ρ μ) (h : I [] ρ μ) : forL g b E (l.map f) ρ μ := by
  have all : ∀ post pre, l = pre ++ post → ∀ ρ μ, I pre ρ μ → forL g b E (post.map f) ρ μ := by
    intro post
    induction post with
    | nil =>
      intro pre e ρ μ h
      rw [List.append_nil] at e
      subst e
      rw [List.map_nil, forL]
      exact fin _ _ h
    | cons a post ih =>
      intro pre e ρ μ h
      rw [List.map_cons, forL]
      exact step pre a post e ρ μ _ h fun ρ' μ' h' => ih (pre ++ [a]) (by rw [e]; simp) ρ' μ' h'
  exact all l [] rfl ρ μ h
end
end DL

set_option Elab.async false
set_option linter.all false
set_option maxRecDepth 100000
set_option maxHeartbeats 4000000
set_option autoImplicit false
set_option exponentiation.threshold 3000
namespace DL
open PySem PySem.Spec PyProof.Rows L2
/-! frames of DX20 -/
section
variable {Q : D → Mu → Prop} {Xd : XD} {ρ : DS} {μ : Mu} {E : DEnds} {cs : List Str} {sp : DSp} {wa wb wo : WE} {ws : WA} {x y : D}
def KIxO2 (cs : List Str) (sp : DSp) (x : D) (Q : D → Mu → Prop) (Xd : XD) : D → Mu → Prop := fun i μ2 => isClsU cs x μ2 (sp [x, i] μ2 Q Xd)
def KIxO1 (cs : List Str) (sp : DSp) (wb : WE) (ρ : DS) (Q : D → Mu → Prop) (Xd : XD) : D → Mu → Prop := fun x μ1 => wb ρ μ1 (KIxO2 cs sp x Q Xd) Xd
theorem v_ix : wIxO cs sp wa wb ρ μ Q Xd = wa ρ μ (KIxO1 cs sp wb ρ Q Xd) Xd := propext Iff.rfl
theorem v_ix1 : KIxO1 cs sp wb ρ Q Xd x μ = wb ρ μ (KIxO2 cs sp x Q Xd) Xd := propext Iff.rfl
theorem v_ix2 : KIxO2 cs sp x Q Xd y μ = isClsU cs x μ (sp [x, y] μ Q Xd) := propext Iff.rfl
def KInv (cs : List Str) (sp : DSp) (Q : D → Mu → Prop) (Xd : XD) : D → Mu → Prop := fun x μ1 => isClsU cs x μ1 (sp [x] μ1 Q Xd)
theorem v_inv : wInv cs sp wa ρ μ Q Xd = wa ρ μ (KInv cs sp Q Xd) Xd := propext Iff.rfl
theorem v_inv1 : KInv cs sp Q Xd x μ = isClsU cs x μ (sp [x] μ Q Xd) := propext Iff.rfl
def KCo2 (cs : List Str) (sp : DSp) (x : D) (Q : D → Mu → Prop) (Xd : XD) : List D → Mu → Prop := fun ds μ2 => isClsU cs x μ2 (sp (x :: ds) μ2 Q Xd)
def KCo1 (cs : List Str) (sp : DSp) (ws : WA) (ρ : DS) (Q : D → Mu → Prop) (Xd : XD) : D → Mu → Prop := fun x μ1 => isClsU cs x μ1 (ws ρ μ1 (KCo2 cs sp x Q Xd) Xd)
theorem v_co : wCallO cs sp wo ws ρ μ Q Xd = wo ρ μ (KCo1 cs sp ws ρ Q Xd) Xd := propext Iff.rfl
theorem v_co1 : KCo1 cs sp ws ρ Q Xd x μ = isClsU cs x μ (ws ρ μ (KCo2 cs sp x Q Xd) Xd) := propext Iff.rfl
theorem v_co2 {ds : List D} : KCo2 cs sp x Q Xd ds μ = isClsU cs x μ (sp (x :: ds) μ Q Xd) := propext Iff.rfl
def KLnO (Q : D → Mu → Prop) : D → Mu → Prop := fun d μ1 => match d with
    | .int n => 0 ≤ n ∧ n < 2 ^ 62 ∧ Q (.int n) μ1
    | _ => False
theorem v_len : fLenO cs sp [x] μ Q = isClsU cs x μ (sp [x] μ (KLnO Q) xF) := propext Iff.rfl
theorem v_len1 {n : Int} : KLnO Q (.int n) μ = (0 ≤ n ∧ n < 2 ^ 62 ∧ Q (.int n) μ) := propext Iff.rfl
def KSlo (i : Nat) (E : DEnds) (ρ : DS) : D → Mu → Prop := fun d μ1 => ∃ acc, d = .lst acc ∧ i < ρ.length ∧ ∀ p, E.nx (ρ.set i (.own p (.lst acc))) μ1
theorem v_slo {i : Nat} {w : WE} : sSetLcO i w E ρ μ = w ρ μ (KSlo i E ρ) (KX E ρ) := propext Iff.rfl
theorem v_slo1 {i : Nat} {acc : List D} : KSlo i E ρ (.lst acc) μ = (i < ρ.length ∧ ∀ p, E.nx (ρ.set i (.own p (.lst acc))) μ) := by
  apply propext
  constructor
  · rintro ⟨acc', e, h⟩
    cases e
    exact h
  · intro h
    exact ⟨acc, rfl, h⟩
theorem v_f2or {f g : F2} : F2.or f g x y μ Q = (f x y μ Q ∨ g x y μ Q) := propext Iff.rfl
end
theorem w_ff : (false == false) = true := rfl
theorem w_ft : (false == true) = false := rfl
theorem w_tf : (true == false) = false := rfl
theorem w_tt : (true == true) = true := rfl
/-! in, by data -/
end DL

set_option Elab.async false
set_option linter.all false
set_option maxRecDepth 100000
set_option maxHeartbeats 2000000
/-! Frames: stores into own lists. -/
namespace DL
open PySem PySem.Spec PyProof.Rows L2
section
variable {i : Nat} {wi : WE} {d : D} {ρ : DS} {μ : Mu} {Q : DS → Mu → Prop} {p : Addr} {ds : List D} {j : Int}
def KSubO (i : Nat) (p : Addr) (ds : List D) (d : D) (ρ : DS) (Q : DS → Mu → Prop) : D → Mu → Prop := fun y μ2 => stO i p ds y d ρ fun ρ' => Q ρ' μ2
theorem x_subO : kSubO i wi d ρ μ Q = subO i wi d ρ μ Q (ρ[i]?) := propext Iff.rfl
theorem x_subO1 : subO i wi d ρ μ Q (some (.own p (.lst ds))) = wi ρ μ (KSubO i p ds d ρ Q) xF := propext Iff.rfl
theorem x_subO2 : KSubO i p ds d ρ Q (.int j) μ = (match ixN ds.length j with
    | some z => Q (ρ.set i (.own p (.lst (ds.set z d)))) μ
    | none => False) := propext Iff.rfl
end
end DL

set_option Elab.async false
set_option linter.all false
set_option maxRecDepth 100000
set_option maxHeartbeats 2000000
/-! Frames: remove, pop, comprehensions kept as cells. -/
namespace DL
open PySem PySem.Spec PyProof.Rows L2
section
variable {i n : Nat} {wa wo : WE} {ws : WA} {wi : WI} {k : WG} {tt : WT} {te : WE} {vs : List Nat} {d x : D} {ρ : DS} {μ : Mu} {E : DEnds} {Q : D → Mu → Prop} {Xd : XD} {p : Addr} {ds acc : List D} {j : Int}
def KPop2 (x : D) (Q : D → Mu → Prop) : D → Mu → Prop := fun y μ2 => popL x y μ2 Q
def KPop1 (wa : WE) (ρ : DS) (Q : D → Mu → Prop) (Xd : XD) : D → Mu → Prop := fun x μ1 => isC x μ1 (wa ρ μ1 (KPop2 x Q) Xd)
theorem y_pop : wPopL wo wa ρ μ Q Xd = wo ρ μ (KPop1 wa ρ Q Xd) Xd := propext Iff.rfl
theorem y_pop1 : KPop1 wa ρ Q Xd x μ = isC x μ (wa ρ μ (KPop2 x Q) Xd) := propext Iff.rfl
theorem y_pop2 : KPop2 x Q d μ = popL x d μ Q := propext Iff.rfl
theorem y_lcC : wLcC wi k tt te vs ρ μ Q Xd = wLc wi k tt te vs ρ μ (cellQ Q) Xd := propext Iff.rfl
theorem y_cell : cellQ Q (.lst acc) μ = Q (.loc μ.length) (μ ++ [.lst acc]) := propext Iff.rfl
def KRem (i : Nat) (p : Addr) (ds : List D) (E : DEnds) (ρ : DS) : List D → Mu → Prop := fun xs μ1 => ∃ d, xs = [d] ∧ remD ds d fun ds' => E.nx (ρ.set i (.own p (.lst ds'))) μ1
theorem y_rem : sRemO i ws E ρ μ = remO i ws E ρ μ (ρ[i]?) := propext Iff.rfl
theorem y_rem1 : remO i ws E ρ μ (some (.own p (.lst ds))) = ws ρ μ (KRem i p ds E ρ) (KX E ρ) := propext Iff.rfl
theorem y_rem2 : KRem i p ds E ρ [d] μ = remD ds d fun ds' => E.nx (ρ.set i (.own p (.lst ds'))) μ := by
  apply propext
  constructor
  · rintro ⟨d', e, h⟩
    cases e
    exact h
  · exact fun h => ⟨d, rfl, h⟩
end
end DL

set_option Elab.async false
set_option linter.all false
set_option maxRecDepth 100000
set_option maxHeartbeats 2000000
/-! Frames: changeable instances, setters, own sums of lists, == of tuples. -/
namespace DL
open PySem PySem.Spec PyProof.Rows L2
section
variable {i n : Nat} {c f : Str} {sp : DSp} {wa wb wo : WE} {d x y : D} {ρ : DS} {μ : Mu} {E : DEnds} {Q : D → Mu → Prop} {ds es : List D}
def KFl2 (c f : Str) (d : D) (E : DEnds) (ρ : DS) : D → Mu → Prop := fun x μ2 => putL c f x d μ2 (E.nx ρ)
def KFl1 (c f : Str) (wo : WE) (E : DEnds) (ρ : DS) : D → Mu → Prop := fun d μ1 => wo ρ μ1 (KFl2 c f d E ρ) (KX E ρ)
theorem z_fl : sFldL c f wo wa E ρ μ = wa ρ μ (KFl1 c f wo E ρ) (KX E ρ) := propext Iff.rfl
theorem z_fl1 : KFl1 c f wo E ρ d μ = wo ρ μ (KFl2 c f d E ρ) (KX E ρ) := propext Iff.rfl
theorem z_fl2 : KFl2 c f d E ρ x μ = putL c f x d μ (E.nx ρ) := propext Iff.rfl
def KPs3 (E : DEnds) (ρ : DS) : D → Mu → Prop := fun _ μ3 => E.nx ρ μ3
def KPs2 (c : Str) (sp : DSp) (d : D) (E : DEnds) (ρ : DS) : D → Mu → Prop := fun x μ2 => isCls c x μ2 (sp [x, d] μ2 (KPs3 E ρ) (KX E ρ))
def KPs1 (c : Str) (sp : DSp) (wo : WE) (E : DEnds) (ρ : DS) : D → Mu → Prop := fun d μ1 => wo ρ μ1 (KPs2 c sp d E ρ) (KX E ρ)
theorem z_ps : sPropS c sp wo wa E ρ μ = wa ρ μ (KPs1 c sp wo E ρ) (KX E ρ) := propext Iff.rfl
theorem z_ps1 : KPs1 c sp wo E ρ d μ = wo ρ μ (KPs2 c sp d E ρ) (KX E ρ) := propext Iff.rfl
theorem z_ps2 : KPs2 c sp d E ρ x μ = isCls c x μ (sp [x, d] μ (KPs3 E ρ) (KX E ρ)) := propext Iff.rfl
theorem z_ps3 : KPs3 E ρ d μ = E.nx ρ μ := propext Iff.rfl
theorem z_eqT : fEqT c sp (.tup ds) (.tup es) μ Q = (prsO c sp μ ds es ∧ Q (.bl true) μ) := propext Iff.rfl
def KCat2 (i : Nat) (x : D) (E : DEnds) (ρ : DS) : D → Mu → Prop := fun y μ2 => catO x y fun ds => i < ρ.length ∧ ∀ p, E.nx (ρ.set i (.own p (.lst ds))) μ2
def KCat1 (i : Nat) (wb : WE) (E : DEnds) (ρ : DS) : D → Mu → Prop := fun x μ1 => wb ρ μ1 (KCat2 i x E ρ) (KX E ρ)
theorem z_cat : sSetCat i wa wb E ρ μ = wa ρ μ (KCat1 i wb E ρ) (KX E ρ) := propext Iff.rfl
theorem z_cat1 : KCat1 i wb E ρ x μ = wb ρ μ (KCat2 i x E ρ) (KX E ρ) := propext Iff.rfl
theorem z_cat2 {a b : List D} : KCat2 i (.lst a) E ρ (.lst b) μ = (a.length + b.length ≤ 1000 ∧ i < ρ.length ∧ ∀ p, E.nx (ρ.set i (.own p (.lst (a ++ b)))) μ) := propext Iff.rfl
end
end DL

set_option Elab.async false
set_option linter.all false
set_option maxRecDepth 100000
set_option maxHeartbeats 2000000
set_option autoImplicit false
/-! Frames: loops over cells, list(x) as a cell, append, o[i] = v. -/
namespace DL
open PySem PySem.Spec PyProof.Rows L2
section
variable {i n : Nat} {c f : Str} {cs : List Str} {sp : DSp} {wa wb wo wi : WE} {ws : WA} {wc : WIC} {g : WG} {b : WS} {tt : WT} {te : WE} {vs : List Nat} {d x y : D} {ρ ρw : DS} {μ : Mu} {E : DEnds} {Q : D → Mu → Prop} {Qc : List D → (Mu → Prop) → Mu → Prop} {Xd : XD} {ds es acc : List D} {C : Mu → Prop}
def KWic (Q : List D → (Mu → Prop) → Mu → Prop) : D → Mu → Prop := fun d μ1 => celOr d μ1 fun ds C => Q ds C μ1
theorem c_wi : wiCel wa ρ μ Qc Xd = wa ρ μ (KWic Qc) Xd := propext Iff.rfl
def KEnC (Q : List D → (Mu → Prop) → Mu → Prop) : List D → Mu → Prop := fun ds μ1 => cel1 ds μ1 fun es C => Q es C μ1
theorem c_en : wiEnC ws ρ μ Qc Xd = ws ρ μ (KEnC Qc) Xd := propext Iff.rfl
theorem c_en1 : KEnC Qc [d] μ = KWic (fun es C μ => Qc (enumD es) C μ) d μ := propext Iff.rfl
def KForC (g : WG) (b : WS) (E : DEnds) (ρ : DS) : List D → (Mu → Prop) → Mu → Prop := fun ds C μ1 => forLC g b E C ds ρ μ1
theorem c_for : sForC wc g b E ρ μ = wc ρ μ (KForC g b E ρ) (KX E ρ) := propext Iff.rfl
theorem c_for1 : KForC g b E ρ ds C μ = forLC g b E C ds ρ μ := propext Iff.rfl
def KLcU (g : WG) (tt : WT) (te : WE) (vs : List Nat) (ρ : DS) (Q : D → Mu → Prop) : List D → (Mu → Prop) → Mu → Prop := fun ds C μ1 => (∀ v ∈ vs, notOwn ρ v) ∧ lcLC g tt te (wipeD ρ vs) C ds [] μ1 Q
theorem c_lc : wLcU wc g tt te vs ρ μ Q Xd = wc ρ μ (KLcU g tt te vs ρ Q) Xd := propext Iff.rfl
theorem c_lc1 : KLcU g tt te vs ρ Q ds C μ = ((∀ v ∈ vs, notOwn ρ v) ∧ lcLC g tt te (wipeD ρ vs) C ds [] μ Q) := propext Iff.rfl
def KLofC (o : Option (List D)) (μ : Mu) (Q : D → Mu → Prop) : Prop := match o with
  | some ds => Q (.loc μ.length) (μ ++ [.lst ds])
  | none => False
theorem c_lof : fListOfC [x] μ Q = KLofC (itemsD x μ) μ Q := propext Iff.rfl
theorem c_lof1 : KLofC (some ds) μ Q = Q (.loc μ.length) (μ ++ [.lst ds]) := propext Iff.rfl
def KAL2 (x : D) (Q : D → Mu → Prop) : D → Mu → Prop := fun y μ2 => appL x y μ2 Q
def KAL1 (wa : WE) (ρ : DS) (Q : D → Mu → Prop) (Xd : XD) : D → Mu → Prop := fun x μ1 => isC x μ1 (wa ρ μ1 (KAL2 x Q) Xd)
theorem c_ap : wAppL wo wa ρ μ Q Xd = wo ρ μ (KAL1 wa ρ Q Xd) Xd := propext Iff.rfl
theorem c_ap1 : KAL1 wa ρ Q Xd x μ = isC x μ (wa ρ μ (KAL2 x Q) Xd) := propext Iff.rfl
theorem c_ap2 : KAL2 x Q y μ = appL x y μ Q := propext Iff.rfl
def KSi3 (cs : List Str) (sp : DSp) (d x : D) (E : DEnds) (ρ : DS) : D → Mu → Prop := fun y μ3 => isClsU cs x μ3 (sp [x, y, d] μ3 (KPs3 E ρ) (KX E ρ))
def KSi2 (cs : List Str) (sp : DSp) (wi : WE) (d : D) (E : DEnds) (ρ : DS) : D → Mu → Prop := fun x μ2 => wi ρ μ2 (KSi3 cs sp d x E ρ) (KX E ρ)
def KSi1 (cs : List Str) (sp : DSp) (wo wi : WE) (E : DEnds) (ρ : DS) : D → Mu → Prop := fun d μ1 => wo ρ μ1 (KSi2 cs sp wi d E ρ) (KX E ρ)
theorem c_si : sSetIx cs sp wo wi wa E ρ μ = wa ρ μ (KSi1 cs sp wo wi E ρ) (KX E ρ) := propext Iff.rfl
theorem c_si1 : KSi1 cs sp wo wi E ρ d μ = wo ρ μ (KSi2 cs sp wi d E ρ) (KX E ρ) := propext Iff.rfl
theorem c_si2 : KSi2 cs sp wi d E ρ x μ = wi ρ μ (KSi3 cs sp d x E ρ) (KX E ρ) := propext Iff.rfl
theorem c_si3 : KSi3 cs sp d x E ρ y μ = isClsU cs x μ (sp [x, y, d] μ (KPs3 E ρ) (KX E ρ)) := propext Iff.rfl
/-- a list, shown or a cell -/
def IsL (μ : Mu) (d : D) (ds : List D) : Prop := d = .lst ds ∨ ∃ n, d = .loc n ∧ μ[n]? = some (.lst ds)
theorem isL_l {μ : Mu} {ds : List D} : IsL μ (.lst ds) ds := .inl rfl
theorem KWic_go (hd : IsL μ d ds) (h : ∀ C : Mu → Prop, C μ → Qc ds C μ) : KWic Qc d μ := by
  rcases hd with rfl | ⟨n, rfl, e⟩
  · exact h _ trivial
  · unfold KWic celOr
    simp only [e]
    exact h _ e
theorem isL_items (hd : IsL μ d ds) : itemsD d μ = some ds := by
  rcases hd with rfl | ⟨n, rfl, e⟩
  · rfl
  · unfold itemsD
    simp only [e]
theorem forLC_inv {g : WG} {b : WS} {E : DEnds} {C : Mu → Prop} (I : DS → Mu → Prop) (hC : ∀ ρ μ, I ρ μ → C μ) (fin : ∀ ρ μ, I ρ μ → E.nx ρ μ) : ∀ {ds : List D}, (∀ d ∈ ds, ∀ ρ μ (K : DS → Mu → Prop), I ρ μ → (∀ ρ' μ', I ρ' μ' → K ρ' μ') → g d ρ μ fun ρ1 μ1 => b { E with nx := K, ct := K, bk := E.nx } ρ1 μ1) →
    ∀ {ρ μ}, I ρ μ → forLC g b E C ds ρ μ
  | [], _, ρ, μ, h => by rw [forLC]; exact ⟨hC ρ μ h, fin ρ μ h⟩
  | d :: ds, step, ρ, μ, h => by
    rw [forLC]
    exact ⟨hC ρ μ h, step d (by simp) ρ μ _ h fun ρ' μ' h' => forLC_inv I hC fin (fun d hd => step d (by simp [hd])) h'⟩
/-- a comprehension that leaves the cells as they are -/
def KLu3 (g : WG) (tt : WT) (te : WE) (ρw : DS) (C : Mu → Prop) (ds acc : List D) (Q : D → Mu → Prop) : D → Mu → Prop := fun y μ4 => acc.length < 1000000 ∧ lcLC g tt te ρw C ds (acc ++ [y]) μ4 Q
def KLu2 (g : WG) (tt : WT) (te : WE) (ρw : DS) (C : Mu → Prop) (ds acc : List D) (Q : D → Mu → Prop) (ρ2 : DS) : Bool → Mu → Prop := fun b μ3 => if b = true then te ρ2 μ3 (KLu3 g tt te ρw C ds acc Q) xF else lcLC g tt te ρw C ds acc μ3 Q
def KLu1 (g : WG) (tt : WT) (te : WE) (ρw : DS) (C : Mu → Prop) (ds acc : List D) (Q : D → Mu → Prop) : DS → Mu → Prop := fun ρ2 μ2 => tt ρ2 μ2 (KLu2 g tt te ρw C ds acc Q ρ2) xF
theorem c_lu1 : KLu1 g tt te ρw C ds acc Q ρ μ = tt ρ μ (KLu2 g tt te ρw C ds acc Q ρ) xF := propext Iff.rfl
theorem c_lu2 : KLu2 g tt te ρw C ds acc Q ρ true μ = te ρ μ (KLu3 g tt te ρw C ds acc Q) xF := propext (by unfold KLu2; rw [if_pos rfl])
theorem c_lu3 : KLu3 g tt te ρw C ds acc Q d μ = (acc.length < 1000000 ∧ lcLC g tt te ρw C ds (acc ++ [d]) μ Q) := propext Iff.rfl
theorem lcLC_mp {α : Type} {f : α → D} (h : α → D) {l : List α} (hC : C μ) (step : ∀ a ∈ l, ∀ K : D → Mu → Prop, K (h a) μ → g (f a) ρw μ fun ρ2 μ2 => te ρ2 μ2 K xF) (hl : l.length ≤ 1000000) (fin : Q (.lst (l.map h)) μ) :
    lcLC g wYes te ρw C (l.map f) [] μ Q := by
  have all : ∀ (l' : List α) (acc : List D), (∀ a ∈ l', a ∈ l) → acc.length + l'.length ≤ 1000000 → Q (.lst (acc ++ l'.map h)) μ → lcLC g wYes te ρw C (l'.map f) acc μ Q := by
    intro l'
    induction l' with
    | nil =>
      intro acc _ _ q
      rw [List.map_nil, lcLC]
      rw [List.map_nil, List.append_nil] at q
      exact ⟨hC, q⟩
    | cons a l' ih =>
      intro acc hm hlen q
      rw [List.length_cons] at hlen
      rw [List.map_cons, lcLC]
      refine ⟨hC, ?_⟩
      have e : (fun (ρ2 : DS) (μ2 : Mu) => wYes ρ2 μ2 (fun b μ3 => if b = true then te ρ2 μ3 (fun y μ4 => acc.length < 1000000 ∧ lcLC g wYes te ρw C (l'.map f) (acc ++ [y]) μ4 Q) xF else lcLC g wYes te ρw C (l'.map f) acc μ3 Q) xF) = fun ρ2 μ2 => te ρ2 μ2 (fun y μ4 => acc.length < 1000000 ∧ lcLC g wYes te ρw C (l'.map f) (acc ++ [y]) μ4 Q) xF := by
        funext ρ2 μ2
        unfold wYes
        simp only [if_true]
      rw [e]
      refine step a (hm a List.mem_cons_self) _ ⟨by omega, ih (acc ++ [h a]) (fun b hb => hm b (List.mem_cons_of_mem _ hb)) (by rw [List.length_append, List.length_singleton]; omega) ?_⟩
      rw [List.append_assoc]
      exact q
  exact all l [] (fun _ h => h) (by simpa using hl) (by simpa using fin)
end
end DL

set_option Elab.async false
set_option linter.all false
set_option maxRecDepth 100000
set_option maxHeartbeats 2000000
set_option autoImplicit false
/-! Frames: == of lists with own items, shown or cells. -/
namespace DL
open PySem PySem.Spec PyProof.Rows L2
end DL

set_option Elab.async false
set_option linter.all false
set_option maxRecDepth 100000
set_option maxHeartbeats 2000000
set_option autoImplicit false
/-! Frames: a list against the empty list, a, b = e, []. -/
namespace DL
open PySem PySem.Spec PyProof.Rows L2
def KP2O (i j : Nat) (E : DEnds) (ρ : DS) : D → Mu → Prop := fun d μ1 => j < ρ.length ∧ ∀ p, E.nx ((ρ.set j (.own p (.lst []))).set i (.v d)) μ1
theorem y_p2 {i j : Nat} {wa : WE} {E : DEnds} {ρ : DS} {μ : Mu} : sPar2O i j wa E ρ μ = wa ρ μ (KP2O i j E ρ) (KX E ρ) := propext Iff.rfl
theorem y_p21 {i j : Nat} {d : D} {E : DEnds} {ρ : DS} {μ : Mu} : KP2O i j E ρ d μ = (j < ρ.length ∧ ∀ p, E.nx ((ρ.set j (.own p (.lst []))).set i (.v d)) μ) := propext Iff.rfl
end DL

set_option Elab.async false
set_option linter.all false
set_option maxRecDepth 100000
set_option maxHeartbeats 4000000
set_option autoImplicit false
/-! A sleeping generator stays as it is while other code runs: what a run reads of it is but where it stands. -/
namespace DL
open PySem

def badK : Resume → Sem Fin := fun _ => .unsupported "asleep"
/-- the same generator as others see it, which none can wake -/
def mute : GenState → GenState
  | .suspended _ l c p fs cl => .suspended badK l c p fs cl
  | x => x
def asleep : GenState → Bool
  | .suspended .. => true
  | _ => false
def NG : GenState → Prop
  | .suspended _ _ _ _ fs _ => splitAtGen fs = none
  | _ => True
theorem mute_seen (x : GenState) : (mute x).seen = x.seen := by cases x <;> rfl
theorem mute_bare (x : GenState) : (mute x).bare = x.bare := by cases x <;> rfl
theorem no_bad {M : Model} {Γ : Ctx} {p : Pos} {fs : List Frame} {s s' : Shared} {e : End} {w : String} {t : Sem Fin} (h : Runs M Γ p t fs s e s') : t ≠ .unsupported w := by
  induction h <;> first | (intro z; cases z; done) | assumption
/-- which of them are held asleep -/
abbrev Sleepers := Nat → Option GenState
/-- g: the generators as they are; g2: those held asleep muted -/
structure Rl (B : Sleepers) (g2 g : Array GenState) : Prop where
  size : g2.size = g.size
  free : ∀ i, B i = none → g[i]? = g2[i]? ∧ ∀ x, g[i]? = some x → NG x
  held : ∀ i x, B i = some x → g[i]? = some x ∧ g2[i]? = some (mute x) ∧ asleep x = true
theorem Rl.awake {B : Sleepers} {g2 g : Array GenState} (r : Rl B g2 g) {i : Nat} {y : GenState} (q : g2[i]? = some y) (hy : asleep y = false) : B i = none := by
  cases hB : B i with
  | none => rfl
  | some x =>
    obtain ⟨_, h2, h3⟩ := r.held i x hB
    rw [q] at h2
    obtain rfl := Option.some.inj h2
    cases x with
    | suspended => cases hy
    | fresh => cases h3
    | running => cases h3
    | finished => cases h3
theorem Rl.seen {B : Sleepers} {g2 g : Array GenState} (r : Rl B g2 g) {i : Nat} {y : GenState} (q : g2[i]? = some y) : ∃ x, g[i]? = some x ∧ x.seen = y.seen := by
  cases hB : B i with
  | none => exact ⟨y, (r.free i hB).1.trans q, rfl⟩
  | some x =>
    obtain ⟨h1, h2, _⟩ := r.held i x hB
    rw [q] at h2
    obtain rfl := Option.some.inj h2
    exact ⟨x, h1, (mute_seen x).symm⟩
theorem Rl.set {B : Sleepers} {g2 g : Array GenState} (r : Rl B g2 g) {i : Nat} {x : GenState} (hi : B i = none) (hx : NG x) : Rl B (g2.setIfInBounds i x) (g.setIfInBounds i x) where
  size := by simp [r.size]
  free := fun j hj => by
    obtain ⟨e, n⟩ := r.free j hj
    by_cases h : i = j
    · subst h
      simp only [Array.getElem?_setIfInBounds_self, r.size]
      refine ⟨trivial, fun y hy => ?_⟩
      split at hy
      · cases hy; exact hx
      · cases hy
    · rw [Array.getElem?_setIfInBounds_ne h, Array.getElem?_setIfInBounds_ne h]
      exact ⟨e, n⟩
  held := fun j y hj => by
    have h : i ≠ j := fun z => by rw [z, hj] at hi; cases hi
    rw [Array.getElem?_setIfInBounds_ne h, Array.getElem?_setIfInBounds_ne h]
    exact r.held j y hj
theorem Rl.push {B : Sleepers} {g2 g : Array GenState} (r : Rl B g2 g) {c : Code} : Rl B (g2.push (.fresh c)) (g.push (.fresh c)) where
  size := by simp [r.size]
  free := fun j hj => by
    obtain ⟨e, n⟩ := r.free j hj
    simp only [Array.getElem?_push, r.size]
    split
    · exact ⟨rfl, fun x hx => by cases hx; trivial⟩
    · exact ⟨e, n⟩
  held := fun j y hj => by
    obtain ⟨h1, h2, h3⟩ := r.held j y hj
    have l1 : j < g.size := (Array.getElem?_eq_some_iff.mp h1).1
    have l2 : j < g2.size := by rw [r.size]; exact l1
    simp only [Array.getElem?_push]
    rw [if_neg (Nat.ne_of_lt l1), if_neg (Nat.ne_of_lt l2)]
    exact ⟨h1, h2, h3⟩
/-- an end that keeps no generator's frame -/
def NGE : End → Prop
  | .susp _ _ _ _ _ _ fs => splitAtGen fs = none
  | _ => True
theorem NGE.gen {e : End} (h : NGE e) : NG e.genState := by
  cases e with
  | ret _ => trivial
  | susp v g l k c p fs => exact h
theorem split_app {a b : List Frame} (ha : splitAtGen a = none) (hb : splitAtGen b = none) : splitAtGen (a ++ b) = none := by
  induction a with
  | nil => exact hb
  | cons F a ih =>
    cases F with
    | gen g k l c p => rw [splitAtGen_gen] at ha; cases ha
    | ret k h g l c p kp =>
      rw [List.cons_append, splitAtGen_ret]
      rw [splitAtGen_ret] at ha
      have ha' : splitAtGen a = none := by
        cases q : splitAtGen a with
        | none => rfl
        | some v => rw [q] at ha; cases ha
      rw [ih ha']
      rfl
theorem split_tail {F : Frame} {fs : List Frame} (h : splitAtGen (F :: fs) = none) : splitAtGen fs = none := by
  cases F with
  | gen g k l c p => rw [splitAtGen_gen] at h; cases h
  | ret k h' g l c p kp =>
    rw [splitAtGen_ret] at h
    cases q : splitAtGen fs with
    | none => rfl
    | some v => rw [q] at h; cases h
abbrev withG (s : Shared) (g : Array GenState) : Shared := { s with gens := g }
/-- the same run over the generators as they are -/
def SameRun (M : Model) (B : Sleepers) (Γ : Ctx) (p : Pos) (t : Sem Fin) (fs : List Frame) (s : Shared) (e : End) (s' : Shared) : Prop :=
  splitAtGen fs = none → ∀ g, Rl B s.gens g → ∃ g', Runs M Γ p t fs (withG s g) e (withG s' g') ∧ Rl B s'.gens g' ∧ NGE e
theorem runs_mute {M : Model} {B : Sleepers} {Γ : Ctx} {p : Pos} {t : Sem Fin} {fs : List Frame} {s s' : Shared} {e : End} (h : Runs M Γ p t fs s e s') : SameRun M B Γ p t fs s e s' := by
  induction h with
  | done => exact fun _ g r => ⟨g, .done, r, trivial⟩
  | raise => exact fun _ g r => ⟨g, .raise, r, trivial⟩
  | again q _ ih => exact fun f g r => let ⟨g', a, b, c⟩ := ih f g r; ⟨g', .again q a, b, c⟩
  | rule _ ih => exact fun f g r => let ⟨g', a, b, c⟩ := ih f g r; ⟨g', .rule a, b, c⟩
  | «at» _ ih => exact fun f g r => let ⟨g', a, b, c⟩ := ih f g r; ⟨g', .at a, b, c⟩
  | load q _ ih => exact fun f g r => let ⟨g', a, b, c⟩ := ih f g r; ⟨g', .load q a, b, c⟩
  | update q _ ih => exact fun f g r => let ⟨g', a, b, c⟩ := ih f g r; ⟨g', .update q a, b, c⟩
  | loadIfAlive _ ih => exact fun f g r => let ⟨g', a, b, c⟩ := ih f g r; ⟨g', .loadIfAlive a, b, c⟩
  | point _ ih => exact fun f g r => let ⟨g', a, b, c⟩ := ih f g r; ⟨g', .point a, b, c⟩
  | alloc _ ih => exact fun f g r => let ⟨g', a, b, c⟩ := ih f g r; ⟨g', .alloc a, b, c⟩
  | fresh _ ih => exact fun f g r => let ⟨g', a, b, c⟩ := ih f g r; ⟨g', .fresh a, b, c⟩
  | ask _ ih => exact fun f g r => let ⟨g', a, b, c⟩ := ih f g r; ⟨g', .ask a, b, c⟩
  | choose q _ ih => exact fun f g r => let ⟨g', a, b, c⟩ := ih f g r; ⟨g', .choose q a, b, c⟩
  | os _ ih => exact fun f g r => let ⟨g', a, b, c⟩ := ih f g r; ⟨g', .os a, b, c⟩
  | handled _ ih => exact fun f g r => let ⟨g', a, b, c⟩ := ih f g r; ⟨g', .handled a, b, c⟩
  | genState q _ ih =>
    intro f g r
    obtain ⟨g', a, b, c⟩ := ih f g r
    obtain ⟨x, q', hs⟩ := r.seen q
    rw [← hs] at a
    exact ⟨g', .genState q' a, b, c⟩
  | stack _ ih => exact fun f g r => let ⟨g', a, b, c⟩ := ih f g r; ⟨g', .stack a, b, c⟩
  | thread _ ih => exact fun f g r => let ⟨g', a, b, c⟩ := ih f g r; ⟨g', .thread a, b, c⟩
  | newGen _ ih =>
    intro f g r
    obtain ⟨g', a, b, c⟩ := ih f _ (r.push)
    rw [r.size] at a
    exact ⟨g', .newGen a, b, c⟩
  | call _ _ ih1 ih2 =>
    intro f g r
    obtain ⟨g1, a1, b1, _⟩ := ih1 rfl g r
    obtain ⟨g2, a2, b2, c2⟩ := ih2 f g1 b1
    exact ⟨g2, .call a1 a2, b2, c2⟩
  | callSusp _ ih =>
    intro f g r
    obtain ⟨g1, a1, b1, c1⟩ := ih rfl g r
    exact ⟨g1, .callSusp a1, b1, split_app c1 rfl⟩
  | yield => exact fun _ g r => ⟨g, .yield, r, rfl⟩
  | @resumeFresh Γ p gn l k s c e1 s1 e s' q _ hq _ ih1 ih2 =>
    intro f g r
    have hB := r.awake q rfl
    obtain ⟨g1, a1, b1, c1⟩ := ih1 rfl _ (r.set (x := .running) hB trivial)
    obtain ⟨g2, a2, b2, c2⟩ := ih2 f _ (b1.set hB c1.gen)
    exact ⟨g2, .resumeFresh ((r.free gn hB).1.trans q) a1 hq a2, b2, c2⟩
  | @resumeSuspended Γ p gn rr l k s k0 l0 c0 p0 fs0 cl e1 s1 e s' q h1 hq _ ih1 ih2 =>
    intro f g r
    cases hB : B gn with
    | none =>
      obtain ⟨e0, n0⟩ := r.free gn hB
      have q' := e0.trans q
      obtain ⟨g1, a1, b1, c1⟩ := ih1 (n0 _ q') _ (r.set (x := .running) hB trivial)
      obtain ⟨g2, a2, b2, c2⟩ := ih2 f _ (b1.set hB c1.gen)
      exact ⟨g2, .resumeSuspended q' a1 hq a2, b2, c2⟩
    | some x =>
      obtain ⟨_, h2, h3⟩ := r.held gn x hB
      rw [q] at h2
      cases x <;> first | cases h3 | skip
      cases h2
      exact absurd rfl (no_bad h1)
  | resumeJustStarted q hv _ ih =>
    intro f g r
    obtain ⟨g', a, b, cc⟩ := ih f g r
    have hB := r.awake q rfl
    exact ⟨g', .resumeJustStarted ((r.free _ hB).1.trans q) hv a, b, cc⟩
  | resumeThrowFresh q _ ih =>
    intro f g r
    have hB := r.awake q rfl
    obtain ⟨g', a, b, cc⟩ := ih f _ (r.set (x := .finished) hB trivial)
    exact ⟨g', .resumeThrowFresh ((r.free _ hB).1.trans q) a, b, cc⟩
  | resumeRunning q _ ih =>
    intro f g r
    have hB := r.awake q rfl
    obtain ⟨g', a, b, cc⟩ := ih f g r
    exact ⟨g', .resumeRunning ((r.free _ hB).1.trans q) a, b, cc⟩
  | resumeFinished q _ ih =>
    intro f g r
    have hB := r.awake q rfl
    obtain ⟨g', a, b, cc⟩ := ih f g r
    exact ⟨g', .resumeFinished ((r.free _ hB).1.trans q) a, b, cc⟩
  | segRet _ _ ih1 ih2 =>
    intro f g r
    obtain ⟨g1, a1, b1, _⟩ := ih1 rfl g r
    obtain ⟨g2, a2, b2, c2⟩ := ih2 (split_tail f) g1 b1
    exact ⟨g2, .segRet a1 a2, b2, c2⟩
  | segGen => exact fun f => by rw [splitAtGen_gen] at f; cases f
  | segSuspOut h _ ih =>
    intro f g r
    obtain ⟨g1, a1, b1, c1⟩ := ih rfl g r
    exact ⟨g1, .segSuspOut h a1, b1, split_app c1 h⟩
  | segSuspGen h => exact fun f => by rw [h] at f; cases f
end DL

set_option Elab.async false
set_option linter.all false
set_option maxRecDepth 100000
set_option maxHeartbeats 4000000
set_option autoImplicit false
namespace DL
open PySem PySem.Spec PyProof.Rows
open Sem (wp)

theorem wakes_mute {M : Model} {B : Sleepers} {Γ : PySem.Ctx} {p : Pos} {gn : Nat} {r : Resume} {s s' : Shared} {res : GenResult} (h : Wakes M Γ p gn r s res s') {g : Array GenState} (rl : Rl B s.gens g) :
    ∃ g', Wakes M Γ p gn r (withG s g) res (withG s' g') ∧ Rl B s'.gens g' := by
  unfold Wakes at h ⊢
  split at h
  · exact h.elim
  · rename_i c q
    have hB := rl.awake q rfl
    have q' : (withG s g).gens[gn]? = some (.fresh c) := (rl.free _ hB).1.trans q
    rw [q']
    cases r with
    | throw x =>
      obtain ⟨h1, rfl⟩ := h
      exact ⟨_, ⟨h1, rfl⟩, rl.set hB trivial⟩
    | send v =>
      cases v with
      | none =>
        obtain ⟨e1, s1, hr, hq, h1, rfl⟩ := h
        obtain ⟨g1, a1, b1, c1⟩ := runs_mute hr rfl _ (rl.set (x := .running) hB trivial)
        exact ⟨_, ⟨e1, _, a1, hq, h1, rfl⟩, b1.set hB c1.gen⟩
      | _ =>
        obtain ⟨h1, rfl⟩ := h
        exact ⟨_, ⟨h1, rfl⟩, rl⟩
  · rename_i k l c p0 fs cl q
    cases hB : B gn with
    | none =>
      obtain ⟨e0, n0⟩ := rl.free gn hB
      have q' : (withG s g).gens[gn]? = some (.suspended k l c p0 fs cl) := e0.trans q
      rw [q']
      obtain ⟨e1, s1, hr, hq, h1, rfl⟩ := h
      obtain ⟨g1, a1, b1, c1⟩ := runs_mute hr (n0 _ q') _ (rl.set (x := .running) hB trivial)
      exact ⟨_, ⟨e1, _, a1, hq, h1, rfl⟩, b1.set hB c1.gen⟩
    | some x =>
      obtain ⟨e1, s1, hr, _⟩ := h
      obtain ⟨_, h2, h3⟩ := rl.held gn x hB
      rw [q] at h2
      cases x with
      | suspended => cases h2; exact absurd rfl (no_bad hr)
      | fresh => cases h3
      | running => cases h3
      | finished => cases h3
  · rename_i q
    have q' : (withG s g).gens[gn]? = some .running := (rl.free _ (rl.awake q rfl)).1.trans q
    rw [q']
    obtain ⟨h1, rfl⟩ := h
    exact ⟨_, ⟨h1, rfl⟩, rl⟩
  · rename_i q
    have q' : (withG s g).gens[gn]? = some .finished := (rl.free _ (rl.awake q rfl)).1.trans q
    rw [q']
    obtain ⟨h1, rfl⟩ := h
    exact ⟨_, ⟨h1, rfl⟩, rl⟩
/-- what holds over muted generators, of the generators as they are -/
def Lift {β : Type} (B : Sleepers) (Q : β → Shared → Prop) : β → Shared → Prop := fun a s' => ∃ s2 g', s' = withG s2 g' ∧ Rl B s2.gens g' ∧ Q a s2
theorem wp_mute {α : Type} (M : Model) (B : Sleepers) (Γ : PySem.Ctx) (t : Sem α) : ∀ (Q : α → Pos → Shared → Prop) (E : Value → Pos → Shared → Prop) (p : Pos) (s : Shared) (g : Array GenState), Rl B s.gens g → wp M Γ t Q E p s →
    wp M Γ t (fun a p' s' => ∃ s2 g', s' = withG s2 g' ∧ Rl B s2.gens g' ∧ Q a p' s2) (fun e p' s' => ∃ s2 g', s' = withG s2 g' ∧ Rl B s2.gens g' ∧ E e p' s2) p (withG s g) := by
  induction t with
  | pure a => exact fun Q E p s g r h => ⟨s, g, rfl, r, h⟩
  | raise e => exact fun Q E p s g r h => ⟨s, g, rfl, r, h⟩
  | unsupported _ => exact fun Q E p s g r h => h
  | finish _ => exact fun Q E p s g r h => h
  | rule _ k ih => exact fun Q E p s g r h => ih () Q E p s g r h
  | «at» p' k ih => exact fun Q E p s g r h => ih () Q E p' s g r h
  | load a _ k ih => exact fun Q E p s g r ⟨o, ho, h⟩ => ⟨o, ho, ih o Q E p s g r h⟩
  | update a _ f k ih => exact fun Q E p s g r ⟨ha, h⟩ => ⟨ha, ih () Q E p _ g (by exact r) h⟩
  | loadIfAlive a k ih => exact fun Q E p s g r h => ih _ Q E p s g r h
  | point _ k ih => exact fun Q E p s g r h => ih () Q E p s g r h
  | register _ _ => exact fun Q E p s g r h => h
  | alloc o k ih => exact fun Q E p s g r h => ih _ Q E p _ g (by exact r) h
  | fresh k ih => exact fun Q E p s g r h => ih _ Q E p _ g (by exact r) h
  | ask k ih => exact fun Q E p s g r h => ih _ Q E p s g r h
  | choose src m k ih => exact fun Q E p s g r ⟨hn, h⟩ => ⟨hn, ih _ Q E p _ g (by exact r) h⟩
  | os q _ k ih => exact fun Q E p s g r h => ih _ Q E p _ g (by exact r) h
  | call c hd _ _ k ih =>
    intro Q E p s g r h
    obtain ⟨res, s1, hr, h⟩ := h
    obtain ⟨g1, a1, b1, _⟩ := runs_mute hr rfl g r
    exact ⟨res, _, a1, ih res Q E p s1 g1 b1 h⟩
  | handled own k ih => exact fun Q E p s g r h => ih _ Q E p s g r h
  | genState gn k ih =>
    intro Q E p s g r h
    obtain ⟨st, hs, h⟩ := h
    obtain ⟨x, q', e⟩ := r.seen hs
    rw [← e] at h
    exact ⟨x, q', ih _ Q E p s g r h⟩
  | newGen c k ih =>
    intro Q E p s g r h
    have z := ih _ Q E p _ _ (r.push (c := c)) h
    rw [r.size] at z
    exact z
  | resume gn rs _ k ih =>
    intro Q E p s g r h
    obtain ⟨res, s1, hw, h⟩ := h
    obtain ⟨g1, a1, b1⟩ := wakes_mute hw r
    exact ⟨res, _, a1, ih res Q E p s1 g1 b1 h⟩
  | yield _ _ _ _ => exact fun Q E p s g r h => h
  | stack k ih => exact fun Q E p s g r h => ih _ Q E p s g r h
  | fork _ _ => exact fun Q E p s g r h => h
  | thread k ih => exact fun Q E p s g r h => ih _ Q E p s g r h
  | await _ _ _ _ _ => exact fun Q E p s g r h => h
theorem any_mute {α : Type} {M : Model} {A : Around} {B : Sleepers} {t : Sem α} {Q : α → Shared → Prop} {E : Value → Shared → Prop} {s : Shared} {g : Array GenState} (r : Rl B s.gens g) (h : wpAny M A t Q E s) :
    wpAny M A t (Lift B Q) (Lift B E) (withG s g) := fun Γ p hΓ => wp_mute M B Γ t _ _ p s g r (h Γ p hΓ)
/-- all that sleep -/
def sleepers (g : Array GenState) : Sleepers := fun i => match g[i]? with
  | some x => if asleep x = true then some x else none
  | none => none
theorem rl_mute (g : Array GenState) : Rl (sleepers g) (g.map mute) g where
  size := by simp
  free := fun i hi => by
    unfold sleepers at hi
    rw [Array.getElem?_map]
    cases q : g[i]? with
    | none => exact ⟨rfl, fun x hx => by cases hx⟩
    | some x =>
      rw [q] at hi
      have hs : asleep x = false := by
        cases e : asleep x with
        | false => rfl
        | true => simp [e] at hi
      cases x with
      | suspended => cases hs
      | fresh => exact ⟨rfl, fun y hy => by cases hy; trivial⟩
      | running => exact ⟨rfl, fun y hy => by cases hy; trivial⟩
      | finished => exact ⟨rfl, fun y hy => by cases hy; trivial⟩
  held := fun i x hi => by
    unfold sleepers at hi
    rw [Array.getElem?_map]
    cases q : g[i]? with
    | none => rw [q] at hi; cases hi
    | some y =>
      rw [q] at hi
      simp only at hi
      split at hi
      · rename_i hs
        cases hi
        exact ⟨rfl, rfl, hs⟩
      · cases hi
theorem mute_allBare {g : Array GenState} (h : AllBare g) : AllBare (g.map mute) := fun y hy => by
  obtain ⟨x, hx, rfl⟩ := Array.mem_map.mp hy
  rw [mute_bare]
  exact h x hx
theorem Rl.bare {B : Sleepers} {g2 g : Array GenState} (r : Rl B g2 g) (h : AllBare g2) : AllBare g := fun y hy => by
  obtain ⟨i, hi, e⟩ := Array.mem_iff_getElem.mp hy
  have q : g[i]? = some y := by rw [Array.getElem?_eq_getElem hi, e]
  cases hB : B i with
  | none =>
    have q2 := (r.free i hB).1.symm.trans q
    exact h y (Array.mem_of_getElem? q2)
  | some x =>
    obtain ⟨h1, h2, _⟩ := r.held i x hB
    rw [q] at h1
    cases h1
    have z := h _ (Array.mem_of_getElem? h2)
    rw [mute_bare] at z
    exact z
/-- THE RULE: code that runs over muted generators runs, and those that sleep sleep on -/
theorem any_asleep {α : Type} {M : Model} {A : Around} {t : Sem α} {Q : α → Shared → Prop} {E : Value → Shared → Prop} {s : Shared} (h : wpAny M A t Q E (withG s (s.gens.map mute))) :
    wpAny M A t (Lift (sleepers s.gens) Q) (Lift (sleepers s.gens) E) s := any_mute (s := withG s (s.gens.map mute)) (rl_mute s.gens) h
theorem sleepers_at {g : Array GenState} {i : Nat} {x : GenState} (q : g[i]? = some x) (h : asleep x = true) : sleepers g i = some x := by
  unfold sleepers
  rw [q]
  simp [h]
section
open L2
variable {X : Cx} {pins : List (Addr × Obj)} {σ : List (Option V)} {H : Hp} {s : Shared}
theorem Inv.gens {g : Array GenState} (I : Inv X pins σ H s) (hg : AllBare g) : Inv X pins σ H (withG s g) :=
  ⟨I.ok, I.os, hg, I.base, I.loc, I.cell, I.free, I.freeC, I.pin, I.hok, I.len⟩
end
end DL

set_option Elab.async false
set_option linter.all false
set_option maxRecDepth 100000
set_option maxHeartbeats 4000000
set_option autoImplicit false
namespace DL
open PySem PySem.Spec PyProof.Rows L2

/-! ### a heap's first L things -/
def cutH (h : Heap) (L : Addr) : Heap := ⟨h.objs.extract 0 L, h.life⟩
theorem cut_get {h : Heap} {L b : Addr} : (cutH h L).get? b = if b < L then h.get? b else none := by
  unfold cutH Heap.get?
  have e : (h.objs.extract 0 L)[b]? = if b < L then h.objs[b]? else none := by
    rw [Array.getElem?_extract]
    simp only [Nat.zero_add, Nat.sub_zero]
    by_cases hb : b < L
    · rw [if_pos hb]
      by_cases hs : b < h.objs.size
      · rw [if_pos (Nat.lt_min.mpr ⟨hb, hs⟩)]
      · rw [if_neg (fun z => hs (Nat.lt_min.mp z).2), Array.getElem?_eq_none (Nat.le_of_not_lt hs)]
    · rw [if_neg hb, if_neg (fun z => hb (Nat.lt_min.mp z).1)]
  rw [e]
  by_cases hb : b < L
  · rw [if_pos hb, if_pos hb]
  · rw [if_neg hb, if_neg hb]
theorem cut_size {h : Heap} {L : Addr} : (cutH h L).objs.size ≤ L := by
  unfold cutH
  simp only [Array.size_extract]
  omega
theorem cut_some {h : Heap} {L b : Addr} {o : Obj} (e : (cutH h L).get? b = some o) : b < L ∧ h.get? b = some o := by
  rw [cut_get] at e
  by_cases hb : b < L
  · rw [if_pos hb] at e; exact ⟨hb, e⟩
  · rw [if_neg hb] at e; cases e
theorem cut_lt {h : Heap} {L b : Addr} (hb : b < L) : (cutH h L).get? b = h.get? b := by rw [cut_get, if_pos hb]
theorem funs_cut {h base : Heap} {L : Addr} : ∀ {l : List Env}, (∀ b ∈ frs l, b < L) → h.FunFrames base l → (cutH h L).FunFrames base l
  | [], _, _ => trivial
  | env :: r, hs, hl => by
    obtain ⟨hk, ⟨F, o, hf, hn, ho, hd⟩, hr⟩ := hl
    have hm : ∀ b, b ∈ frs r → b ∈ frs (env :: r) := fun b hb => by
      unfold frs at hb ⊢
      rw [List.filterMap_cons, hf]
      exact List.mem_cons_of_mem _ hb
    have hF : F ∈ frs (env :: r) := by
      unfold frs
      rw [List.filterMap_cons, hf]
      exact List.mem_cons_self
    exact ⟨hk, ⟨F, o, hf, hn, (cut_lt (hs F hF)).trans ho, hd⟩, funs_cut (fun b hb => hs b (hm b hb)) hr⟩
/-! ### a generator's frame -/
structure GE where
  prog : Program
  w : World
  K : PySem.W.Frag
  mg : Str → Option Value
  base : Heap
  /-- around the one who wakes it -/
  A : Around
  N : List Str
  env : Env
  outer : List Env
abbrev GE.L (g : GE) : Addr := g.env.locals
abbrev GE.gx (g : GE) : Gx := ⟨g.K, g.mg, none⟩
/-- its context from one waking to the next sleep -/
abbrev GE.cx (g : GE) (s0 : Shared) (H0 : Hp) (pn : List (Addr × Obj)) : Cx where
  prog := g.prog
  w := g.w
  K := g.K
  mg := g.mg
  base := g.base
  A := g.A.deeper g.env
  N := g.N
  s_0 := s0
  H_0 := H0
  env := g.env
  outer := g.outer
  stack := g.env :: g.outer
  ex := []
  fn := fun _ => true
  calm := true
  pn := pn
  xe := fun _ _ => False
structure GE.Ok (g : GE) : Prop where
  mod : Mod g.K g.mg g.base
  kind : g.env.scope.kind = .function
  glob : g.env.globals = mainGlobals
  blt : g.env.builtins = builtinsNs
  cells : ∀ x, g.env.cells.lookup x = none
  has : ∀ x, ¬ (g.env.kindOf x = some .cell ∨ g.env.kindOf x = some .free)
  hd : g.A.handled = none
  frames : g.A.frames = some g.outer
  frame : g.env.frame = some g.env.locals
  bsz : g.base.objs.size ≤ g.L
  old : ∀ b ∈ frs g.outer, b < g.L
/-- the slots as they stand in the frame's own dict -/
def SlotsAt (g : GE) (lo : Obj) (σ : L2.St) : Prop := ∀ h : Heap, h.get? g.L = some lo → ∃ m, h.Ns g.L m ∧ ∀ (i : Nat) (x : Str) (v : V), g.N[i]? = some x → σ[i]? = some (some v) → Vis g.env.scope x → ∃ u, RelV v u ∧ g.env.kindOf x = some .local ∧ m x = some u
/-- who wakes it -/
structure Cons (g : GE) (a : Addr) (go : Obj) (X : Cx) (pins : List (Addr × Obj)) (σ : L2.St) (H : Hp) (Z : Addr → Prop) (m : List Addr) (μ : Mu) (s : Shared) (lo : Obj) : Prop where
  inv : Inv X pins σ H s
  prog : X.prog = g.prog
  w : X.w = g.w
  K : X.K = g.K
  mg : X.mg = g.mg
  base : X.base = g.base
  stack : X.stack = g.outer
  elo : s.heap.get? g.L = some lo
  ego : s.heap.get? a = some go
  goc : ∀ v, go.data ≠ .cell v
  fL : FpOk X pins H g.L
  fa : FpOk X pins H a
  ne : a ≠ g.L
  mu : MuOk g.gx Z m μ H
  sz : X.s_0.heap.objs.size ≤ g.L
  cl : ∀ x c, X.env.cells.lookup x = some c → c < g.L
def cutA (H : Hp) (L : Addr) : Hp := fun b => if b < L then H b else none
/-- the waker's own block, if it is younger -/
def blkPin (g : GE) (X : Cx) (h : Heap) : List (Addr × Obj) := if X.env.locals < g.L then [] else pinsAt [X.env.locals] h
def wakePins (g : GE) (a : Addr) (go : Obj) (X : Cx) (pins : List (Addr × Obj)) (h : Heap) : List (Addr × Obj) := (a, go) :: blkPin g X h ++ (X.pn ++ pins)
section
variable {g : GE} {a : Addr} {go lo : Obj} {X : Cx} {pins : List (Addr × Obj)} {σ σg : L2.St} {H : Hp} {Z : Addr → Prop} {m : List Addr} {μ : Mu} {s : Shared}
theorem Cons.stk (c : Cons g a go X pins σ H Z m μ s lo) : ∀ b, b ∈ frs g.outer → b = X.env.locals ∨ b ∈ X.fs := fun b hb => by
  rw [← c.stack] at hb
  exact List.mem_cons.mp (c.inv.stkSub b hb)
theorem wake_inv (ok : g.Ok) (c : Cons g a go X pins σ H Z m μ s lo) (sl : SlotsAt g lo σg) (hl : σg.length = g.N.length) :
    Inv (g.cx { s with heap := cutH s.heap g.L } (cutA H g.L) (wakePins g a go X pins s.heap)) [] σg H s := by
  have I := c.inv
  have bs : ∀ b o, g.base.get? b = some o → s.heap.get? b = some o ∧ H b = none := by rw [← c.base]; exact I.bs
  have blt : ∀ b o, g.base.get? b = some o → b < g.L := fun b o e => Nat.lt_of_lt_of_le (Heap.lt_size e) ok.bsz
  have fsn : ∀ b, b ∈ frs g.outer → H b = none := fun b hb => by rw [← c.stack] at hb; exact I.stkFree b hb
  refine ⟨⟨ok.mod, ok.kind, ok.glob, ok.blt, cut_size, fun x y d e => ?_, fun x h => absurd h (ok.has x), fun x d _ e => ?_, fun _ => ok.hd, Around.frames_deeper ok.frames, .inr ⟨rfl, ok.frame⟩, fun b hb => absurd (show b ∈ ([] : List Addr) from hb) (by simp),
    fun b o e => ?_, ?_, fun b o _ hb => absurd (show b ∈ ([] : List Addr) from hb) (by simp), fun b hb => absurd (show b ∈ ([] : List Addr) from hb) (by simp), ?_, fun b hb => ?_⟩, rfl, I.bare, ?_, ?_, fun x d e => ?_, c.fL.1, fun x d e => ?_, fun p hp => ?_, ?_, hl⟩
  · have e : g.env.cells.lookup x = some d := e
    rw [ok.cells x] at e; cases e
  · have e : g.env.cells.lookup x = some d := e
    rw [ok.cells x] at e; cases e
  · obtain ⟨h1, h2⟩ := bs b o e
    refine ⟨(cut_lt (blt b o e)).trans h1, ?_⟩
    show cutA H g.L b = none
    unfold cutA
    rw [if_pos (blt b o e)]
    exact h2
  · show g.base.objs.size ≤ (cutH s.heap g.L).objs.size
    unfold cutH
    simp only [Array.size_extract]
    have h1 : g.env.locals < s.heap.objs.size := Heap.lt_size c.elo
    have h2 : g.base.objs.size ≤ g.env.locals := ok.bsz
    show g.base.objs.size ≤ min g.env.locals s.heap.objs.size - 0
    rw [Nat.sub_zero]
    exact Nat.le_min.mpr ⟨h2, Nat.le_trans h2 (Nat.le_of_lt h1)⟩
  · have z := I.stack
    rw [c.stack, c.base] at z
    exact funs_cut ok.old z
  · show cutA H g.L b = none
    unfold cutA
    split
    · exact fsn b hb
    · rfl
  · refine ⟨fun b o e n _ _ => (cut_some e).2, fun b o e n _ _ => ⟨o.slots, (cut_some e).2⟩, fun b o e n _ => ?_, fun b o e _ => ⟨o, (cut_some e).2⟩, fun b xs e => ?_, fun b o u e => ?_, fun b ps e => ⟨#[], ?_⟩⟩
    · have hb := (cut_some e).1
      have n : cutA H g.L b = none := n
      unfold cutA at n
      rw [if_pos hb] at n
      exact n
    · have e : cutA H g.L b = _ := e
      unfold cutA at e
      split at e
      · exact e
      · cases e
    · have e : cutA H g.L b = _ := e
      unfold cutA at e
      split at e
      · exact e
      · cases e
    · have e : cutA H g.L b = _ := e
      unfold cutA at e
      split at e
      · rw [e]; simp
      · cases e
  · obtain ⟨mm, h1, h2⟩ := sl s.heap c.elo
    exact ⟨mm, h1, fun i x v e1 e2 e3 => let ⟨u, r, k, q⟩ := h2 i x v e1 e2 e3; ⟨u, r, .inl ⟨k, q⟩⟩⟩
  · have e : g.env.cells.lookup x = some d := e
    rw [ok.cells x] at e; cases e
  · have e : g.env.cells.lookup x = some d := e
    rw [ok.cells x] at e; cases e
  · have hp : p ∈ wakePins g a go X pins s.heap ++ [] := hp
    rw [List.append_nil] at hp
    unfold wakePins at hp
    rcases List.mem_append.mp hp with hp | hp
    · rcases List.mem_cons.mp hp with rfl | hp
      · refine ⟨c.ego, c.fa.1, c.ne, fun hb => ?_, c.goc⟩
        rcases c.stk a hb with z | z
        · exact c.fa.2.1 z
        · exact c.fa.2.2.1 z
      · unfold blkPin at hp
        split at hp
        · cases hp
        · rename_i hy
          obtain ⟨h1, h2⟩ := of_pinsAt hp
          have e1 := List.mem_singleton.mp h1
          obtain ⟨mm, ⟨o', es, ep, ho, hd, _⟩, _⟩ := I.loc
          refine ⟨h2, by rw [e1]; exact I.free, fun z => c.fL.2.1 (z.symm.trans e1), fun hb => ?_, fun v q => ?_⟩
          · have := ok.old _ hb
            rw [e1] at this
            exact hy this
          · rw [e1, ho] at h2
            cases h2
            rw [hd] at q
            cases q
    · obtain ⟨h1, h2, h3, h4, h5⟩ := I.pin p hp
      refine ⟨h1, h2, c.fL.2.2.2.2.2 p hp, fun hb => ?_, h5⟩
      rcases c.stk p.1 hb with z | z
      · exact h3 z
      · exact h4 z
  · have z := I.hok
    rw [c.prog, c.w] at z
    exact z

open Classical in
/-- what may have changed, for the waker: the young that are not pinned -/
noncomputable def young (g : GE) (P : List (Addr × Obj)) (h : Heap) : List Addr := (List.range h.objs.size).filter fun b => decide (g.L ≤ b ∧ ∀ p ∈ P, p.1 ≠ b)
theorem young_mem {g : GE} {P : List (Addr × Obj)} {h : Heap} {b : Addr} : b ∈ young g P h ↔ (b < h.objs.size ∧ g.L ≤ b ∧ ∀ p ∈ P, p.1 ≠ b) := by
  unfold young
  simp [List.mem_filter, List.mem_range]
/-- what a step leaves: the tuples and what is known -/
theorem Step.stays {G : Gx} {W : Addr → Prop} {m m' : List Addr} {μ μ' : Mu} {H H' : Hp} (M : MuOk G W m μ H) (st : Step G W m H m' μ' H') {b : Addr} {o : HO} (e : H b = some o) (h : ∀ c, CellOk G m (vis W m H) H c b → False) : H' b = some o := by
  by_cases hW : W b
  · rw [st.hid b hW]; exact e
  · by_cases hm : b ∈ m
    · obtain ⟨n, hn, q⟩ := List.mem_iff_getElem.mp hm
      have hn' : n < μ.length := by rw [← M.len]; exact hn
      exact (h _ (M.cell n μ[n] b (List.getElem?_eq_getElem hn') (by rw [List.getElem?_eq_getElem hn, q]))).elim
    · exact (vis_some.mp (st.same b o (vis_some.mpr ⟨hW, hm, e⟩))).2.2
theorem cell_tup {G : Gx} {m : List Addr} {E H : Hp} {c : Cell} {b : Addr} {o : HO} (h : CellOk G m E H c b) (e : H b = some o) : (∃ xs, o = .lst xs) ∨ (∃ C dx fs, o = .ins C dx fs) ∨ ∃ k, o = .dK k := by
  cases c with
  | lst ds => obtain ⟨vs, h1, _⟩ := h; rw [e] at h1; cases h1; exact .inl ⟨_, rfl⟩
  | ins c ks ds => obtain ⟨C, dx, vs, _, h1, _⟩ := h; rw [e] at h1; cases h1; exact .inr (.inl ⟨_, _, _, rfl⟩)
  | pool => obtain ⟨p, q, _, h1⟩ := h; rw [e] at h1; cases h1; exact .inl ⟨_, rfl⟩
  | dct kvs => exact .inr (.inr ⟨_, Option.some.inj (e.symm.trans h)⟩)
  | dic ks ds => obtain ⟨vs, h1, _⟩ := h; rw [e] at h1; cases h1; exact .inr (.inr ⟨_, rfl⟩)
theorem back_inv {s1 : Shared} {H' : Hp} {m' : List Addr} {μ' : Mu} (ok : g.Ok) (c : Cons g a go X pins σ H Z m μ s lo) (J : Inv (g.cx { s with heap := cutH s.heap g.L } (cutA H g.L) (wakePins g a go X pins s.heap)) [] σg H' s1) (st : Step g.gx Z m H m' μ' H') :
    Inv X pins σ H' s1 ∧ FpOk X pins H' g.L ∧ FpOk X pins H' a ∧ s1.heap.get? a = some go := by
  have I := c.inv
  have jp : ∀ p ∈ wakePins g a go X pins s.heap, s1.heap.get? p.1 = some p.2 ∧ H' p.1 = none := fun p hp =>
    let z := J.pin p (List.mem_append_left _ hp)
    ⟨z.1, z.2.1⟩
  have hc0 : ∀ b, b < g.L → cutA H g.L b = H b := fun b hb => by unfold cutA; rw [if_pos hb]
  have pinned : ∀ b o, g.L ≤ b → s.heap.get? b = some o → b ∉ young g (wakePins g a go X pins s.heap) s.heap → s1.heap.get? b = some o ∧ H' b = none := fun b o hb e nx => by
    have hz : b < s.heap.objs.size := Heap.lt_size e
    have : ¬ ∀ p ∈ wakePins g a go X pins s.heap, p.1 ≠ b := fun z => nx (young_mem.mpr ⟨hz, hb, z⟩)
    simp only [Classical.not_forall, Classical.not_not] at this
    obtain ⟨p, hp, rfl⟩ := this
    obtain ⟨h1, h2⟩ := jp p hp
    have hs : s.heap.get? p.1 = some p.2 := by
      have J0 : ∀ p ∈ wakePins g a go X pins s.heap, s.heap.get? p.1 = some p.2 := fun p hp => by
        unfold wakePins at hp
        rcases List.mem_append.mp hp with hp | hp
        · rcases List.mem_cons.mp hp with rfl | hp
          · exact c.ego
          · unfold blkPin at hp
            split at hp
            · cases hp
            · exact (of_pinsAt hp).2
        · exact (I.pin p hp).1
      exact J0 p hp
    rw [e] at hs
    cases hs
    exact ⟨h1, h2⟩
  have un : Un (frs X.stack) (young g (wakePins g a go X pins s.heap) s.heap) H H' s.heap s1.heap := by
    have U := J.base
    have fsE : frs X.stack = frs g.outer := by rw [c.stack]
    refine ⟨fun b o e n hf nx => ?_, fun b o e n hf nx => ?_, fun b o e n nx => ?_, fun b o e nx => ?_, fun b xs e => ?_, fun b o u e => ?_, fun b ps e => ⟨#[], ?_⟩⟩
    · have hf : ¬ b ∈ frs g.outer := fsE ▸ hf
      by_cases hb : b < g.L
      · exact U.keep b o ((cut_lt hb).trans e) ((hc0 b hb).trans n) hf (fun z => absurd (show b ∈ ([] : List Addr) from z) (by simp))
      · exact (pinned b o (Nat.le_of_not_lt hb) e nx).1
    · have hf : b ∈ frs g.outer := fsE ▸ hf
      have hb : b < g.L := ok.old b hf
      exact U.slot b o ((cut_lt hb).trans e) ((hc0 b hb).trans n) hf (fun z => absurd (show b ∈ ([] : List Addr) from z) (by simp))
    · by_cases hb : b < g.L
      · exact U.free b o ((cut_lt hb).trans e) ((hc0 b hb).trans n) (fun z => absurd (show b ∈ ([] : List Addr) from z) (by simp))
      · exact (pinned b o (Nat.le_of_not_lt hb) e nx).2
    · by_cases hb : b < g.L
      · exact U.there b o ((cut_lt hb).trans e) (fun z => absurd (show b ∈ ([] : List Addr) from z) (by simp))
      · exact ⟨o, (pinned b o (Nat.le_of_not_lt hb) e nx).1⟩
    · refine st.stays c.mu e fun d h => ?_
      rcases cell_tup h e with ⟨_, q⟩ | ⟨_, _, _, q⟩ | ⟨_, q⟩ <;> cases q
    · refine st.stays c.mu e fun d h => ?_
      rcases cell_tup h e with ⟨_, q⟩ | ⟨_, _, _, q⟩ | ⟨_, q⟩ <;> cases q
    · rw [Array.append_empty]
      refine st.stays c.mu e fun d h => ?_
      rcases cell_tup h e with ⟨_, q⟩ | ⟨_, _, _, q⟩ | ⟨_, q⟩ <;> cases q
  have hok : HOk X.prog X.w H' s1.heap := by
    have z := J.hok
    rw [c.prog, c.w]
    exact z
  have I' : Inv X pins σ H' s1 := by
    refine I.call' (ch := young g (wakePins g a go X pins s.heap) s.heap) J.os un hok J.bare fun b hb => ?_
    obtain ⟨h1, h2, h3⟩ := young_mem.mp hb
    refine ⟨.inr (Nat.le_trans c.sz h2), fun z => ?_, fun x d e z => ?_, fun p hp z => ?_⟩
    · obtain ⟨mm, ⟨o', es, ep, ho, hd, _⟩, _⟩ := I.loc
      refine h3 (X.env.locals, o') (List.mem_append_left _ (List.mem_cons_of_mem _ ?_)) z.symm
      unfold blkPin
      rw [if_neg (by rw [← z]; exact Nat.not_lt.mpr h2)]
      exact mem_pinsAt (List.mem_singleton.mpr rfl) ho
    · have := c.cl x d e
      rw [z] at this
      exact absurd this (Nat.not_lt.mpr h2)
    · exact h3 p (List.mem_append_right _ hp) z
  have hL : H' g.L = none := J.free
  have ha := jp (a, go) (List.mem_append_left _ List.mem_cons_self)
  exact ⟨I', ⟨hL, c.fL.2⟩, ⟨ha.2, c.fa.2⟩, ha.1⟩
end
end DL

set_option Elab.async false
set_option linter.all false
set_option maxRecDepth 100000
set_option maxHeartbeats 4000000
set_option autoImplicit false
/-! A generator's code from one waking to the next sleep. -/
namespace DL
open PySem PySem.Spec PyProof.Rows L2 GenW
open Sem (wp)

def Sg (M : Model) (A : Around) (Φ : End → Shared → Prop) (c : Code) (t : Sem PySem.Fin) (fs : List Frame) (s : Shared) : Prop :=
  ∀ (Γ : PySem.Ctx) (p : Pos), Γ.code = c → Γ.Woken A → ∃ e s', Runs M Γ p t fs s e s' ∧ Φ e s'
section
variable {M : Model} {A : Around} {Φ : End → Shared → Prop} {c : Code} {fs : List Frame} {s : Shared}
theorem sg_wrap {α : Type} {m : Sem α} {K : α → Sem PySem.Fin} {J : Value → Sem PySem.Fin} {gd : Bool → Bool} {lv : List Value → List Value} (h : wpAny M (A.over c fs) m (fun a s' => Sg M A Φ c (K a) fs s') (fun x s' => Sg M A Φ c (J x) fs s') s) :
    Sg M A Φ c (m.wrap K J gd lv) fs s := by
  rintro Γ p rfl hw
  exact runs_wrap_of_wp K J gd lv m (h (Γ.over fs) p (hw.over fs)) (fun _ p' _ q => q Γ p' rfl hw) fun _ p' _ q => q Γ p' rfl hw
theorem sg_at {p' : Pos} {k : Unit → Sem PySem.Fin} (h : Sg M A Φ c (k ()) fs s) : Sg M A Φ c (.at p' k) fs s := sg_wrap (m := standAt p') (K := k) (J := .raise) (gd := id) (lv := id) (wpAny_standAt h)
theorem sg_point {l : List Value} {k : Unit → Sem PySem.Fin} (h : Sg M A Φ c (k ()) fs s) : Sg M A Φ c (.point l k) fs s := sg_wrap (m := point) (K := k) (J := .raise) (gd := id) (lv := fun _ => l) (wpAny_point h)
theorem sg_call {c' : Code} {h : Option Value} {g : Bool} {l : List Value} {k : Result → Sem PySem.Fin} (hc : ∀ p, Sg M A Φ c' (M.den c') (.ret k h g l c p [] :: fs) s) : Sg M A Φ c (.call c' h g l k) fs s := by
  rintro Γ p rfl hw
  obtain ⟨e, s', hr, he⟩ := hc p (Γ.goto c') p rfl (hw.goto c')
  exact ⟨e, s', runs_call_seg hr, he⟩
theorem sg_leaf {k : Result → Sem PySem.Fin} {h : Option Value} {g : Bool} {l kp : List Value} {c₁ : Code} {p₁ : Pos} (r : Result) (hk : Sg M A Φ c₁ (k r) fs s) : Sg M A Φ c (leafOf r) (.ret k h g l c₁ p₁ kp :: fs) s := by
  rintro Γ p rfl hw
  obtain ⟨e, s', hr, he⟩ := hk (Γ.goto c₁) p₁ rfl (hw.goto c₁)
  exact ⟨e, s', Runs.pop r hr, he⟩
theorem sg_again {c' : Code} (hq : c'.quiet = true) (hc : Sg M A Φ c' (M.den c') fs s) : Sg M A Φ c (.pure (.again c')) fs s := by
  rintro Γ p rfl hw
  obtain ⟨e, s', hr, he⟩ := hc (Γ.goto c') p rfl (hw.goto c')
  exact ⟨e, s', Runs.head (c₁ := c') (fun _ _ z => .again hq z) hr, he⟩
theorem sg_end (r : Result) (h : Φ (.ret r) s) : Sg M A Φ c (leafOf r) [] s := by
  rintro Γ p rfl _
  exact ⟨_, s, Runs.leaf r, h⟩
theorem sg_yield {v : Value} {g : Bool} {l : List Value} {k : Resume → Sem PySem.Fin} (hfs : splitAtGen fs = none) (h : ∀ p, Φ (.susp v g l k c p fs) s) : Sg M A Φ c (.yield v g l k) fs s := by
  rintro Γ p rfl _
  exact ⟨_, s, Runs.yield' fs hfs, h p⟩
end
/-- a sleeping generator, woken: what comes of it -/
def GoesS (M : Model) (A : Around) (gs : GenState) (Φ : End → Shared → Prop) (s : Shared) : Prop := match gs with
  | .fresh c => Sg M A Φ c (M.den c) [] s
  | .suspended k _ c _ fs _ => Sg M A Φ c (k (.send .none)) fs s
  | _ => False
section
variable {prog : Program} {w : World} {A : Around} {Φ : End → Shared → Prop} {s : Shared} {E : Value → Shared → Prop}
theorem resume_own {M : Model} {gn : Nat} {gs : GenState} {l : List Value} {α : Type} {k : GenResult → Sem α} {Q : α → Shared → Prop} (hg : s.gens[gn]? = some gs) (hgo : GoesS M A gs Φ (s.setGen gn .running))
    (hE : ∀ e s1, Φ e s1 → e.quiet = true ∧ wpAny M A (k e.result) Q E (s1.setGen gn e.genState)) : wpAny M A (.resume gn (.send .none) l k) Q E s := by
  intro Γ p hΓ
  rw [Sem.wp_resume]
  cases gs with
  | fresh c =>
    obtain ⟨e, s1, hr, he⟩ := hgo (Γ.wake c p) p rfl (hΓ.wake c p)
    obtain ⟨q1, q2⟩ := hE e s1 he
    refine ⟨e.result, _, ?_, q2 Γ p hΓ⟩
    unfold Wakes
    rw [hg]
    exact ⟨e, s1, hr, q1, rfl, rfl⟩
  | suspended k0 l0 c p0 fs cl =>
    obtain ⟨e, s1, hr, he⟩ := hgo (Γ.wake c p) p0 rfl (hΓ.wake c p)
    obtain ⟨q1, q2⟩ := hE e s1 he
    refine ⟨e.result, _, ?_, q2 Γ p hΓ⟩
    unfold Wakes
    rw [hg]
    exact ⟨e, s1, hr, q1, rfl, rfl⟩
  | running => exact hgo.elim
  | finished => exact hgo.elim
/-- next of a generator -/
theorem next_own {a : Addr} {gn : Nat} {gs : GenState} {Q : Option Value → Shared → Prop} (hh : A.handled = none) (hl : s.heap.NoLimit) (hroom : A.depth < recursionLimit) (hgn : s.heap.IsGen a gn) (hgs : s.gens[gn]? = some gs)
    (hgo : GoesS (model prog w) A.in1 gs Φ (s.setGen gn .running))
    (hY : ∀ v g l k c p fs s1, Φ (.susp v g l k c p fs) s1 → (End.susp v g l k c p fs).quiet = true ∧ Q (some v) (s1.setGen gn (End.susp v g l k c p fs).genState))
    (hP : ∀ r s1, Φ (.ret r) s1 → (r = .ok (.ret .none) ∨ r = .ok .next) ∧ ∀ h', (∀ b o, s1.heap.get? b = some o → h'.get? b = some o) → Q none { s1.setGen gn .finished with heap := h' }) :
    wpAny (model prog w) A (pyNext (.ref a)) Q E s := by
  unfold pyNext
  refine wpAny_bind (wpAny_attempt (wpAny_callSpecial?_slot (name := Str.ofString "__next__") hgn.typeIs slot_gen_next (wpAny_call_entry slot_gen_next hgn.typeIs entry_gen_next ?_ (args_gen_next _))))
  show wpAny (model prog w) A.in1 (Builtin.Generator.genWake (.ref a) (.send .none)) _ _ s
  unfold Builtin.Generator.genWake
  refine wpAny_bind (wpAny_holding (wpAny_genNumber hgn (wpAny_bind (wpAny_genState hgs ?_))))
  cases gs with
  | running => exact hgo.elim
  | finished => exact hgo.elim
  | _ =>
    refine wpAny_bind (wpAny_roomToWake hl hroom ?_)
    show wpAny (model prog w) A.in1 (.resume gn (.send .none) [] _) _ _ s
    refine resume_own hgs hgo fun e s1 he => ?_
    cases e with
    | susp v g l k c p fs =>
      obtain ⟨q1, q2⟩ := hY v g l k c p fs s1 he
      exact ⟨q1, wpAny_pure ⟨v, rfl, wpAny_pure q2⟩⟩
    | ret r =>
      obtain ⟨hr, hp⟩ := hP r s1 he
      refine ⟨rfl, ?_⟩
      have hres : (End.ret r).result = .returned .none := by rcases hr with rfl | rfl <;> rfl
      rw [hres]
      show wpAny (model prog w) A.in1 (newExc (.type "StopIteration") [] >>= _) _ _ _
      simp only [newExc, newTuple]
      refine wpAny_bind (wpAny_bind (wpAny_newObj_type ?_ (by size_fits)))
      refine wpAny_bind (m := firstArgMember _ _) (wpAny_of_eq (a := Value.none) (by first | rfl | (simp only [firstArgMember]; rfl)) (wpAny_newObj_type ?_ (by size_fits)))
      simp only [raiseNew]
      refine wpAny_bind (wpAny_bind (wpAny_handled ?_))
      rw [show A.in1.handled = none from hh]
      refine wpAny_throw (wpAny_bind (wpAny_isInstance (T := "StopIteration") (b := true) ⟨_, Heap.get?_push_size _ rfl, rfl⟩ isSubtype_stop ?_))
      exact wpAny_pure (hp _ fun b o hb => Heap.get?_push_of_some _ (Heap.get?_push_of_some _ hb))
end
end DL

set_option Elab.async false
set_option linter.all false
set_option maxRecDepth 100000
set_option maxHeartbeats 4000000
set_option autoImplicit false
/-! A generator's body, told by data: the data it hands out. -/
namespace DL
open PySem PySem.Spec PyProof.Rows L2 GenW
open Sem (wp)

/-- the waker: all that is fixed from one waking to the next sleep -/
structure Wk where
  X : Cx
  pins : List (Addr × Obj)
  σ : L2.St
  H : Hp
  Z : Addr → Prop
  m : List Addr
  μ : Mu
  s : Shared
def AftE (g : GE) (a : Addr) (go : Obj) (k : Wk) (e : End) (s1 : Shared) : Prop :=
  (∃ r, e = .ret r ∧ (r = .ok (.ret .none) ∨ r = .ok .next)) ∧ ∃ m' H', Inv k.X k.pins k.σ H' s1 ∧ Step g.gx k.Z k.m k.H m' k.μ H' ∧ H' g.L = none ∧ H' a = none
def AftY (g : GE) (a : Addr) (go : Obj) (k : Wk) (d : D) (P : List Addr → Hp → Obj → GenState → Prop) (e : End) (s1 : Shared) : Prop :=
  ∃ v gd l kk c p fs x m' H' lo', e = .susp v gd l kk c p fs ∧ e.quiet = true ∧ RelV x v ∧ Inv k.X k.pins k.σ H' s1 ∧ Step g.gx k.Z k.m k.H m' k.μ H' ∧ Rep g.gx m' (vis k.Z m' H') d x ∧ s1.heap.get? g.L = some lo' ∧ (∀ v, lo'.data ≠ .cell v) ∧ s1.heap.get? a = some go ∧
    H' g.L = none ∧ H' a = none ∧ P m' (vis k.Z m' H') lo' e.genState
/-- a generator that hands out just these -/
def GenP (g : GE) (a : Addr) (go : Obj) : List D → List Addr → Hp → Obj → GenState → Prop
  | [], m0, E0, lo, gs => ∀ k : Wk, Cons g a go k.X k.pins k.σ k.H k.Z k.m k.μ k.s lo → m0 <+: k.m → Same E0 (vis k.Z k.m k.H) → GoesS (model g.prog g.w) g.A gs (AftE g a go k) k.s
  | d :: ds, m0, E0, lo, gs => ∀ k : Wk, Cons g a go k.X k.pins k.σ k.H k.Z k.m k.μ k.s lo → m0 <+: k.m → Same E0 (vis k.Z k.m k.H) → GoesS (model g.prog g.w) g.A gs (AftY g a go k d (GenP g a go ds)) k.s
def FinP (g : GE) (a : Addr) (go : Obj) (k : Wk) : List D → End → Shared → Prop
  | [] => AftE g a go k
  | d :: ds => AftY g a go k d (GenP g a go ds)
theorem genP_iff {g : GE} {a : Addr} {go : Obj} {ds : List D} {m0 : List Addr} {E0 : Hp} {lo : Obj} {gs : GenState} :
    GenP g a go ds m0 E0 lo gs ↔ ∀ k : Wk, Cons g a go k.X k.pins k.σ k.H k.Z k.m k.μ k.s lo → m0 <+: k.m → Same E0 (vis k.Z k.m k.H) → GoesS (model g.prog g.w) g.A gs (FinP g a go k ds) k.s := by
  cases ds <;> rfl
def NoOwn (ρ : DS) : Prop := ∀ (i : Nat) (b : Addr) (c : Cell), ρ[i]? ≠ some (.own b c)
theorem noOwn_W {ρ : DS} {Z : Addr → Prop} {σ : L2.St} (h : NoOwn ρ) : ownW Z σ ρ = Z := by
  funext b
  refine propext ⟨fun z => ?_, .inl⟩
  rcases z with z | ⟨i, c, e⟩
  · exact z
  · exact (h i b c e).elim
/-- it runs, its slots are ρ -/
def RunG (g : GE) (a : Addr) (go : Obj) (k : Wk) (ρ : DS) (s : Shared) : Prop :=
  ∃ lo0 σg H m, Cons g a go k.X k.pins k.σ k.H k.Z k.m k.μ k.s lo0 ∧ Inv (g.cx { k.s with heap := cutH k.s.heap g.L } (cutA k.H g.L) (wakePins g a go k.X k.pins k.s.heap)) [] σg H s ∧ Step g.gx k.Z k.m k.H m k.μ H ∧
    SR g.gx k.Z m σg H ρ k.μ ∧ NoOwn ρ ∧ ∀ (i : Nat) c ks ds, ρ[i]? ≠ some (.exn c ks ds)
structure GD where
  nx : List D → DS → Prop
abbrev TGen := GD → List D → DS → Prop
/-- where its code stands -/
structure At (g : GE) (c : Code) (fs : List Frame) (gd : Bool → Bool) : Prop where
  over : g.A.over c fs = g.A.deeper g.env
  split : splitAtGen fs = none
  guard : fs.any Frame.guarded = false
  gd : gd false = false
/-- what follows -/
def Goes (g : GE) (a : Addr) (go : Obj) (D0 : GD) (c : Code) (fs : List Frame) (K : Flow → Sem PySem.Fin) : Prop :=
  ∀ (k : Wk) (ds : List D) (ρ : DS) (s : Shared), RunG g a go k ρ s → D0.nx ds ρ → Sg (model g.prog g.w) g.A (FinP g a go k ds) c (K .next) fs s
structure GSt (g : GE) (st : Stmt) (t : TGen) : Prop where
  run : ∀ (a : Addr) (go : Obj) (c : Code) (fs : List Frame) (K : Flow → Sem PySem.Fin) (J : Value → Sem PySem.Fin) (gd : Bool → Bool) (lv : List Value → List Value) (D0 : GD), At g c fs gd → Goes g a go D0 c fs K →
    ∀ (k : Wk) (ds : List D) (ρ : DS) (s : Shared), RunG g a go k ρ s → t D0 ds ρ → Sg (model g.prog g.w) g.A (FinP g a go k ds) c ((exec st g.env).wrap K J gd lv) fs s
structure GSts (g : GE) (sts : List Stmt) (t : TGen) : Prop where
  run : ∀ (a : Addr) (go : Obj) (c : Code) (fs : List Frame) (K : Flow → Sem PySem.Fin) (J : Value → Sem PySem.Fin) (gd : Bool → Bool) (lv : List Value → List Value) (D0 : GD), At g c fs gd → Goes g a go D0 c fs K →
    ∀ (k : Wk) (ds : List D) (ρ : DS) (s : Shared), RunG g a go k ρ s → t D0 ds ρ → Sg (model g.prog g.w) g.A (FinP g a go k ds) c ((execs sts g.env).wrap K J gd lv) fs s
section
variable {g : GE} {st : Stmt} {rest body : List Stmt} {t u : TGen} {pos : Pos}
def tgNext : TGen := fun D0 ds ρ => D0.nx ds ρ
def tgSeq (t u : TGen) : TGen := fun D0 ds ρ => t ⟨fun ds' ρ' => u D0 ds' ρ'⟩ ds ρ
theorem gst_nil : GSts g [] tgNext := ⟨fun a go c fs K J gd lv D0 ha hk k ds ρ s hr ht => hk k ds ρ s hr ht⟩
theorem gst_cons (h1 : GSt g st t) (h2 : GSts g rest u) : GSts g (st :: rest) (tgSeq t u) := by
  refine ⟨fun a go c fs K J gd lv D0 ha hk k ds ρ s hr ht => ?_⟩
  rw [execs_cons_wrap]
  refine h1.run a go c fs _ J gd lv ⟨fun ds' ρ' => u D0 ds' ρ'⟩ ha (fun k' ds' ρ' s' hr' hn => ?_) k ds ρ s hr ht
  exact h2.run a go c fs K J gd lv D0 ha hk k' ds' ρ' s' hr' hn
/-- it hands out nothing -/
def tgPlain (ws : WS) : TGen := fun D0 ds ρ => ∀ μ, ws { nx := fun ρ' μ' => μ' = μ ∧ NoOwn ρ' ∧ (∀ (i : Nat) c ks ds, ρ'[i]? ≠ some (.exn c ks ds)) ∧ D0.nx ds ρ', rt := fun _ _ => False } ρ μ
theorem gst_plain {ws : WS} (h : ∀ s0 H0 pn, DSt none WF (g.cx s0 H0 pn) st ws) : GSt g st (tgPlain ws) := by
  refine ⟨fun a go c fs K J gd lv D0 ha hk k ds ρ s hr ht => sg_wrap ?_⟩
  obtain ⟨lo0, σg, H, m, C, I, st1, S, no, nx⟩ := hr
  rw [ha.over]
  have hrun := (h { k.s with heap := cutH k.s.heap g.L } (cutA k.H g.L) (wakePins g a go k.X k.pins k.s.heap)).run [] s σg H
    { nx := fun σ' H' => ∃ m' ρ', SR g.gx k.Z m' σ' H' ρ' k.μ ∧ Step g.gx k.Z k.m k.H m' k.μ H' ∧ NoOwn ρ' ∧ (∀ (i : Nat) c ks ds, ρ'[i]? ≠ some (.exn c ks ds)) ∧ D0.nx ds ρ', rt := fun _ _ => False } I
    ⟨k.Z, m, ρ, k.μ, _, S, ht k.μ, fun σ' H' P => ?_, fun v H' P => ?_, fun σ' H' P => ?_, fun σ' H' P => ?_, fun cls d σ' H' P => ?_⟩
  · refine wpAny_mono hrun (fun f s' q => ?_) fun x s' q => q.elim
    cases f with
    | next =>
      obtain ⟨σ', H', I', m', ρ', S', st', no', nx', q'⟩ := q
      exact hk k ds ρ' s' ⟨lo0, σ', H', m', C, I', st', S', no', nx'⟩ q'
    | brk => obtain ⟨_, _, _, q⟩ := q; exact q.elim
    | cont => obtain ⟨_, _, _, q⟩ := q; exact q.elim
    | ret v => obtain ⟨_, _, _, _, _, q⟩ := q; exact q.elim
  · obtain ⟨m', ρ', μ', S', s', e, no', nx', q'⟩ := P
    subst e
    refine ⟨m', ρ', S', ?_, no', nx', q'⟩
    have z := s'.same
    have M := S'.mu
    rw [noOwn_W no] at z
    rw [noOwn_W no'] at z M
    exact st1.trans ⟨s'.pre, s'.hid, M, z⟩
  · obtain ⟨m', d, μ', _, _, _, _, _, q⟩ := P; exact q
  · obtain ⟨m', ρ', μ', _, _, q⟩ := P; exact q.elim
  · obtain ⟨m', ρ', μ', _, _, q⟩ := P; exact q.elim
  · obtain ⟨m', c, ks, es, ρ', μ', C, dd, vs, _, _, _, _, _, _, _, _, q⟩ := P; exact q.elim
end
end DL

set_option Elab.async false
set_option linter.all false
set_option maxRecDepth 100000
set_option maxHeartbeats 4000000
set_option autoImplicit false
namespace DL
open PySem PySem.Spec PyProof.Rows L2 GenW
open Sem (wp)
section
variable {g : GE} {st : Stmt} {rest body : List Stmt} {t u : TGen} {pos : Pos}
theorem slots_of {s0 s : Shared} {H0 H : Hp} {pn : List (Addr × Obj)} {σ : L2.St} {lo : Obj} (ok : g.Ok) (I : Inv (g.cx s0 H0 pn) [] σ H s) (e : s.heap.get? g.L = some lo) : SlotsAt g lo σ := fun h eh => by
  obtain ⟨mm, hn, hl⟩ := I.loc
  refine ⟨mm, ?_, fun i x v e1 e2 e3 => ?_⟩
  · obtain ⟨o, es, ep, ho, r⟩ := hn
    have : o = lo := by
      have z : s.heap.get? g.L = some o := ho
      rw [e] at z; exact (Option.some.inj z).symm
    subst this
    exact ⟨o, es, ep, eh, r⟩
  · obtain ⟨u, r, hk⟩ := hl i x v e1 e2 e3
    rcases hk with ⟨k1, k2⟩ | ⟨k1, _⟩
    · exact ⟨u, r, k1, k2⟩
    · exact absurd k1 (ok.has x)
/-- woken with the slots that it had -/
theorem run_woken {a : Addr} {go lo : Obj} {k : Wk} {m0 : List Addr} {E0 : Hp} {σ : L2.St} {ρ : DS} (ok : g.Ok) (sl : SlotsAt g lo σ) (hl : σ.length = g.N.length) (hρ : ρ.length = σ.length)
    (hv : ∀ (i : Nat) d, ρ[i]? = some (Sl.v d) → ∃ v, σ[i]? = some (some v) ∧ Rep g.gx m0 E0 d v) (no : NoOwn ρ) (nx : ∀ (i : Nat) c ks ds, ρ[i]? ≠ some (.exn c ks ds))
    (C : Cons g a go k.X k.pins k.σ k.H k.Z k.m k.μ k.s lo) (pre : m0 <+: k.m) (same : Same E0 (vis k.Z k.m k.H)) : RunG g a go k ρ k.s := by
  refine ⟨lo, σ, k.H, k.m, C, wake_inv ok C sl hl, .refl C.mu, ⟨hρ, ?_, fun i d e => ?_, fun i b c e => (no i b c e).elim, fun i j b c c' e => (no i b c e).elim, fun i c ks ds e => (nx i c ks ds e).elim⟩, no, nx⟩
  · rw [noOwn_W no]; exact C.mu
  · obtain ⟨v, e1, r⟩ := hv i d e
    rw [noOwn_W no]
    exact ⟨v, e1, Rep.mono pre same _ _ r⟩
def tgYield (we : WE) : TGen := fun D0 ds ρ => ∃ d ds', ds = d :: ds' ∧ ∀ μ, we ρ μ (fun x μ' => μ' = μ ∧ x = d ∧ D0.nx ds' ρ) (fun _ _ _ _ => False)
theorem gst_yield {e : Expr} {yp : Pos} {we : WE} (ok : g.Ok) (h : ∀ s0 H0 pn, DE none WF (g.cx s0 H0 pn) e we) (hco : g.env.scope.isCoroutine = false) (hi : interactive g.env = false) : GSt g (.Expr (.Yield (some e) yp) pos) (tgYield we) := by
  refine ⟨fun a go c fs K J gd lv D0 ha hk k ds ρ s hr ht => ?_⟩
  obtain ⟨d, ds', rfl, ht⟩ := ht
  obtain ⟨lo0, σg, H, m, C, I, st1, S, no, nx⟩ := hr
  rw [exec_Expr g.env _ pos hi rfl]
  show Sg _ _ _ c (.at pos fun _ => ((eval e g.env >>= fun v => (standAt yp >>= fun _ => yieldOut g.env v)) >>= fun x => dropValue (.Yield (some e) yp) pos x).wrap K J gd lv) fs s
  have hy : ∀ v, yieldOut g.env v = yieldValue v := fun v => by simp only [yieldOut, hco, Bool.false_eq_true, if_false]
  simp only [hy]
  refine sg_at ?_
  rw [Sem.bind_eq_wrap', Sem.bind_eq_wrap', Sem.wrap_wrap, Sem.wrap_wrap]
  refine sg_wrap ?_
  rw [ha.over]
  have hrun := (h { k.s with heap := cutH k.s.heap g.L } (cutA k.H g.L) (wakePins g a go k.X k.pins k.s.heap)).run [] s σg H
    (fun x H' => ∃ m', Step g.gx k.Z k.m k.H m' k.μ H' ∧ Step g.gx k.Z m H m' k.μ H' ∧ Rep g.gx m' (vis k.Z m' H') d x ∧ D0.nx ds' ρ) I
    ⟨k.Z, m, ρ, k.μ, _, _, S, ht k.μ, fun v H' P => ?_, fun cls dd H' P => ?_⟩
  · refine wpAny_mono hrun (fun v s1 q => ?_) fun x s' q => q.elim
    obtain ⟨x, H2, I2, rv, m2, st2, st3, rd, hn⟩ := q
    refine sg_at (sg_yield ha.split fun p => ?_)
    obtain ⟨J1, f1, f2, ea⟩ := back_inv ok C I2 st2
    obtain ⟨mm, ⟨o, es, ep, ho, hd, r⟩, hl⟩ := I2.loc
    have elo : s1.heap.get? g.L = some o := ho
    refine ⟨v, _, _, _, _, _, _, x, m2, H2, o, rfl, ?_, rv, J1, st2, rd, elo, fun v q => (by rw [hd] at q; cases q), ea, f1.1, f2.1, ?_⟩
    · show (!(gd false || fs.any Frame.guarded)) = true
      rw [ha.gd, ha.guard]; rfl
    · show GenP g a go ds' m2 (vis k.Z m2 H2) o (.suspended _ _ c p fs _)
      rw [genP_iff]
      intro k' C' pre same
      have R : RunG g a go k' ρ k'.s := run_woken ok (slots_of ok I2 elo) I2.len S.len (fun i d' e' => by
        obtain ⟨v', e1, r1⟩ := S.val i d' e'
        rw [noOwn_W no] at r1
        exact ⟨v', e1, Rep.mono st3.pre st3.same _ _ r1⟩) no nx C' pre same
      exact hk k' ds' ρ k'.s R hn
  · obtain ⟨m', x, μ', s', r, e1, e2, q⟩ := P
    subst e1 e2
    rw [noOwn_W no] at s' r
    exact ⟨m', st1.trans s', s', r, q⟩
  · obtain ⟨m', c, ks, es, μ', C, dd, vs, _, _, _, _, _, _, _, q⟩ := P; exact q.elim
/-! ### while -/
theorem sg_turn {prog : Program} {w : World} {A : Around} {Φ : End → Shared → Prop} {fs : List Frame} {s : Shared} {env : Env} {test : Expr} {body : List Stmt}
    (h : ∀ J : Value → Sem PySem.Fin, wpAny (model prog w) (A.over (.whileLoop test body [] env) fs) (isTrue test env (eval test env)) (fun b s' => if b = true then
        Sg (model prog w) A Φ (.whileLoop test body [] env) ((execs body env).wrap (fun f => match f with
          | .next | .cont => .pure (.again (.whileLoop test body [] env))
          | .brk => .pure (.done .next)
          | .ret v => .pure (.done (.ret v))) J id id) fs s'
      else Sg (model prog w) A Φ (.whileLoop test body [] env) (.pure (.done .next)) fs s') (fun _ _ => False) s) :
    Sg (model prog w) A Φ (.whileLoop test body [] env) ((model prog w).den (.whileLoop test body [] env)) fs s := by
  show Sg _ A Φ _ ((whileTurn test body [] env).onRaise (fun x => do noteFrame x env; theTreesLotGoes x)) fs s
  unfold whileTurn
  rw [Sem.onRaise_eq_wrap, Sem.bind_eq_wrap', Sem.wrap_wrap]
  refine sg_wrap (wpAny_mono (h fun e => ((do noteFrame e env; theTreesLotGoes e : Sem Unit).bind fun _ => .raise e)) (fun b s' hb => ?_) fun x s' hx => hx.elim)
  cases b with
  | true =>
    rw [if_pos rfl] at hb
    show Sg _ A Φ _ (Sem.wrap _ _ _ _ (if true = true then _ else _)) fs s'
    rw [if_pos rfl, Sem.bind_eq_wrap', Sem.wrap_wrap]
    rw [Sem.wrap_congr (execs body env) _ _ (K' := fun f => match f with
          | .next | .cont => .pure (.again (.whileLoop test body [] env))
          | .brk => .pure (.done .next)
          | .ret v => .pure (.done (.ret v))) (fun f => by cases f <;> rfl) fun _ => rfl]
    exact hb
  | false =>
    rw [if_neg Bool.false_ne_true] at hb
    exact hb
def tgWhile (wc : WT) (tb : TGen) : TGen := fun D0 ds ρ => ∃ W : Nat → List D → DS → Prop, (∃ n, W n ds ρ) ∧ ∀ n ds ρ, W n ds ρ → ∀ μ, wc ρ μ (fun b μ' => μ' = μ ∧ if b = true then tb ⟨fun ds' ρ' => ∃ n', n' < n ∧ W n' ds' ρ'⟩ ds ρ else D0.nx ds ρ) (fun _ _ _ _ => False)
theorem At.loop {c c' : Code} {fs : List Frame} {gd : Bool → Bool} {k : Result → Sem PySem.Fin} {l kp : List Value} {p : Pos} (ha : At g c fs gd) (hw : c'.weight = 0) (hu : c'.cUnits = 0) : At g c' (.ret k none (gd false) l c p kp :: fs) id where
  over := (over_loop hw hu).trans ha.over
  split := by
    rw [splitAtGen_ret, ha.split]; rfl
  guard := by
    show (gd false || fs.any Frame.guarded) = false
    rw [ha.gd, ha.guard]; rfl
  gd := rfl
theorem gst_while {test : Expr} {wc : WT} (hc : ∀ s0 H0 pn, DT none WF (g.cx s0 H0 pn) test wc) (hb : GSts g body t) : GSt g (.While test body [] pos) (tgWhile wc t) := by
  refine ⟨fun a go c fs K J gd lv D0 ha hk k ds ρ s hr ht => ?_⟩
  obtain ⟨W, ⟨n0, w0⟩, turn⟩ := ht
  refine sg_at (sg_call fun p => ?_)
  have loop : ∀ (n : Nat) (k : Wk) (ds : List D) (ρ : DS) (s : Shared), RunG g a go k ρ s → W n ds ρ → Sg (model g.prog g.w) g.A (FinP g a go k ds) (.whileLoop test body [] g.env) ((model g.prog g.w).den (.whileLoop test body [] g.env))
      (.ret (fun r => ((match r with | .ok f => (.pure f : Sem Flow) | .error e => .raise e).onRaise fun (x : Value) => do
        if (← field x 1) == Value.none then unsupported "frame.own-activation:exception-without-traceback"
        setFlight x g.env.frame).wrap K J gd lv) none (gd false) (lv []) c p [] :: fs) s := by
    intro n
    induction n using Nat.strongRecOn with
    | ind n ih =>
      intro k ds ρ s hr hw
      refine sg_turn fun J2 => ?_
      have ha2 := At.loop (c' := .whileLoop test body [] g.env) (p := p) (kp := []) (l := lv []) (k := fun r => ((match r with | .ok f => (.pure f : Sem Flow) | .error e => .raise e).onRaise fun (x : Value) => do
        if (← field x 1) == Value.none then unsupported "frame.own-activation:exception-without-traceback"
        setFlight x g.env.frame).wrap K J gd lv) ha rfl rfl
      rw [ha2.over]
      obtain ⟨lo0, σg, H, m, C, I, st1, S, no, nx⟩ := hr
      have hrun := (hc { k.s with heap := cutH k.s.heap g.L } (cutA k.H g.L) (wakePins g a go k.X k.pins k.s.heap)).run [] s σg H
        (fun b H' => ∃ m', Step g.gx k.Z m H m' k.μ H' ∧ if b = true then t ⟨fun ds' ρ' => ∃ n', n' < n ∧ W n' ds' ρ'⟩ ds ρ else D0.nx ds ρ) I
        ⟨k.Z, m, ρ, k.μ, _, _, S, turn n ds ρ hw k.μ, fun b H' P => ?_, fun cls dd H' P => ?_⟩
      · refine wpAny_mono hrun (fun b s1 q => ?_) fun x s' q => q.elim
        obtain ⟨H2, I2, m2, st2, q⟩ := q
        have S2 : SR g.gx k.Z m2 σg H2 ρ k.μ := S.step (by rw [noOwn_W no]; exact st2)
        have R2 : RunG g a go k ρ s1 := ⟨lo0, σg, H2, m2, C, I2, st1.trans st2, S2, no, nx⟩
        cases b with
        | true =>
          rw [if_pos rfl] at q ⊢
          refine hb.run a go _ _ _ J2 id id _ ha2 (fun k' ds' ρ' s' hr' hn => ?_) k ds ρ s1 R2 q
          obtain ⟨n', hl, hw'⟩ := hn
          exact sg_again rfl (ih n' hl k' ds' ρ' s' hr' hw')
        | false =>
          rw [if_neg Bool.false_ne_true] at q ⊢
          exact sg_leaf (.ok .next) (hk k ds ρ s1 R2 q)
      · obtain ⟨m', μ', s', e1, q⟩ := P
        subst e1
        rw [noOwn_W no] at s'
        exact ⟨m', s', q⟩
      · obtain ⟨m', c, ks, es, μ', C, dd, vs, _, _, _, _, _, _, _, q⟩ := P; exact q.elim
  exact loop n0 k ds ρ s hr w0
/-! ### the whole body -/
theorem sg_func {prog : Program} {w : World} {A : Around} {Φ : End → Shared → Prop} {fs : List Frame} {s : Shared} {env : Env} {body : List Stmt}
    (h : ∀ J : Value → Sem PySem.Fin, Sg (model prog w) A Φ (.func body env) ((execs body env).wrap (fun f => .pure (.done (.ret (match f with | .ret v => v | _ => .none)))) J id id) fs s) :
    Sg (model prog w) A Φ (.func body env) ((model prog w).den (.func body env)) fs s := by
  show Sg _ A Φ _ (.point [] fun _ => ((execs body env).onRaise (leaving env)) >>= _) fs s
  refine sg_point ?_
  rw [Sem.onRaise_eq_wrap, Sem.bind_eq_wrap', Sem.wrap_wrap]
  rw [Sem.wrap_congr (execs body env) _ _ (K' := fun f => .pure (.done (.ret (match f with | .ret v => v | _ => .none)))) (fun f => by cases f <;> rfl) fun _ => rfl]
  exact h _
theorem body_goes {a : Addr} {go : Obj} (hb : GSts g body t) (hA : g.A.over (.func body g.env) [] = g.A.deeper g.env) {k : Wk} {ds : List D} {ρ : DS} {s : Shared} (hr : RunG g a go k ρ s) (ok : g.Ok) (ht : t ⟨fun ds' _ => ds' = []⟩ ds ρ) :
    Sg (model g.prog g.w) g.A (FinP g a go k ds) (.func body g.env) ((model g.prog g.w).den (.func body g.env)) [] s := by
  refine sg_func fun J => ?_
  refine hb.run a go _ [] _ J id id _ ⟨hA, rfl, rfl, rfl⟩ (fun k' ds' ρ' s' hr' hn => ?_) k ds ρ s hr ht
  subst hn
  refine sg_end (.ok (.ret .none)) ?_
  obtain ⟨lo0, σg, H, m, C, I, st1, S, no, nx⟩ := hr'
  obtain ⟨J1, f1, f2, ea⟩ := back_inv ok C I st1
  exact ⟨⟨_, rfl, .inl rfl⟩, m, H, J1, st1, f1.1, f2.1⟩
end
end DL

set_option Elab.async false
set_option linter.all false
set_option maxRecDepth 100000
set_option maxHeartbeats 4000000
set_option autoImplicit false
/-! A generator def: what a call of it makes. -/
namespace DL
open PySem PySem.Spec PyProof.Rows L2 GenW
theorem startD_at {N : List Str} {ds : List D} {i : Nat} {x : Sl} (e : (startD N ds)[i]? = some x) : x = .no ∨ ∃ d, x = .v d := by
  have hx := List.mem_of_getElem? e
  unfold startD at hx
  rcases List.mem_append.mp hx with h | h
  · obtain ⟨d, _, rfl⟩ := List.mem_map.mp h
    exact .inr ⟨d, rfl⟩
  · exact .inl (List.eq_of_mem_replicate h)
theorem cells_none {n : Nat} : ∀ {names : List (Str × NameKind)} {acc : List (Str × Addr)}, (names.all fun y => !(y.2 == .cell)) = true → cellsFrom n names acc = acc
  | [], _, _ => rfl
  | (nm, kd) :: r, acc, h => by
    simp only [List.all_cons, Bool.and_eq_true] at h
    unfold cellsFrom
    rw [if_neg (by have := h.1; simp at this ⊢; exact this)]
    exact cells_none h.2
/-- what the waker has of a generator that was just made -/
structure Born (P : Program) (w : World) (K : PySem.W.Frag) (mg : Str → Option Value) (base : Heap) (kk : Nat) (fr : List Env) (g : GE) (a gn : Nat) (go lo : Obj) (gs : GenState) (H : Hp) (s s' : Shared) : Prop where
  keep : ∀ b o, s.heap.get? b = some o → s'.heap.get? b = some o
  os : s'.os = s.os
  bare : AllBare s'.gens
  prog : g.prog = P
  w : g.w = w
  K : g.K = K
  mg : g.mg = mg
  base : g.base = base
  fr : g.outer = fr
  la : s.heap.objs.size ≤ a
  lL : s.heap.objs.size ≤ g.L
  ne : a ≠ g.L
  isg : ∀ h : Heap, h.get? a = some go → h.IsGen a gn
  goc : ∀ v, go.data ≠ .cell v
  loc : ∀ v, lo.data ≠ .cell v
  ego : s'.heap.get? a = some go
  elo : s'.heap.get? g.L = some lo
  egs : s'.gens[gn]? = some gs
  gnew : s.gens.size ≤ gn
abbrev GE.wake (g : GE) (A : Around) : GE := { g with A := A }
/-- for whoever wakes it: the data -/
def Gives (kk : Nat) (fr : List Env) (g : GE) (a : Nat) (go lo : Obj) (gs : GenState) (ys : List D) (m : List Addr) (E0 : Hp) : Prop :=
  ∀ A : Around, Room kk A → A.guards = some [] → A.frames = some fr → (g.wake A).Ok ∧ GenP (g.wake A) a go ys m E0 lo gs
abbrev GSp := List D → List D → Prop
structure GenD (P : Program) (w : World) (K : PySem.W.Frag) (mg : Str → Option Value) (base : Heap) (k : Nat) (f : Addr) (fd : FuncData) (ps : List Str) (sp : GSp) : Prop where
  len : ∀ ds ys, sp ds ys → ds.length = ps.length
  run : ∀ (A : Around) (fr : List Env) (s : Shared) (H : Hp) (args : Args) (us : List Value) (vs : List V) (Z : Addr → Prop) (m : List Addr) (μ : Mu) (ds ys : List D), Room k A → A.guards = some [] → Env0 P w K mg base A fr s H → BindsTo s fd args (ps.zip us) → Vals vs us →
    MuOk ⟨K, mg, none⟩ Z m μ H → Reps ⟨K, mg, none⟩ m (vis Z m H) ds vs → sp ds ys →
    codeAny (model P w) A (.call (.ref f) args) (fun r s' => ∃ g a gn go lo gs, r = .ok (.ret (.ref a)) ∧ Born P w K mg base k fr g a gn go lo gs H s s' ∧ Gives k fr g a go lo gs ys m (vis Z m H)) s
/-- THE RULE for a generator def -/
theorem gen_ok {P : Program} {w : World} {K : PySem.W.Frag} {mg : Str → Option Value} {base : Heap} {x qual : Str} {params : Arguments} {body : List Stmt} {scope : Scope} {f : Addr} {fd : FuncData} {N ps : List Str} {k : Nat} {sp : GSp} {tb : TGen}
    (F : FunD K x qual params body scope [] [] f fd) (S : GScope N ps scope) (nc : (scope.names.all fun y => !(y.2 == .cell)) = true) (len : ∀ ds ys, sp ds ys → ds.length = ps.length)
    (hbody : ∀ (cdv : Value) (A : Around) (fr : List Env) (s : Shared), Room k (A.deeper (envOfC qual scope s.heap.objs.size f cdv)) → (A.deeper (envOfC qual scope s.heap.objs.size f cdv)).guards = some [] →
      (GE.Ok ⟨P, w, K, mg, base, A, N, envOfC qual scope s.heap.objs.size f cdv, fr⟩) → GSts ⟨P, w, K, mg, base, A, N, envOfC qual scope s.heap.objs.size f cdv, fr⟩ body tb)
    (hw : ∀ ds ys, sp ds ys → tb ⟨fun ds' _ => ds' = []⟩ ys (startD N ds)) : GenD P w K mg base (k + 1) f fd ps sp := by
  refine ⟨len, fun A fr s H args us vs Z m μ ds ys hr hgd e0 hb r M rd hsp => ?_⟩
  obtain ⟨oc, od, dV, kV, doc, pm, an, cdv, ct, osl, rfl, lk, hcd, _, _⟩ := F.ex
  have hl : vs.length = ps.length := by rw [← rd.len]; exact len _ _ hsp
  have KX : K.In s.heap := e0.mod.kin.keeps fun b o e => (e0.bs b o e).1
  have lim : s.heap.NoLimit := e0.mod.nolimit.keeps fun b o e => (e0.bs b o e).1
  have ncell : ∀ x, scope.names.lookup x ≠ some .cell := fun x e => by
    have := List.all_eq_true.mp nc _ (PySem.mem_of_lookup e)
    simp at this
  refine codeAny_call_generator hr.depth (KX _ _ lk) rfl S.co S.gen rfl (PySem.W.codeRec_of KX hcd) (hb _ _ _ _ ?_)
  refine wpAny_newFunctionEnv_cells S.kind (fun ⟨n, v⟩ hy => ?_) fun env he s1 ix => ?_
  · rcases S.par n (List.of_mem_zip hy).1 with q | q
    · exact .inl q
    · exact (ncell n q).elim
  subst he
  have lim1 : s1.heap.NoLimit := lim.keeps ix.toInCall.keep
  refine ⟨lim1, ?_⟩
  obtain ⟨h1, tk, es1, hk1⟩ := ix.done
  have lt1 : s.heap.objs.size < s1.heap.objs.size := ix.toInCall.ns.lt
  have kp1 : ∀ b o, s.heap.get? b = some o → s1.heap.get? b = some o := ix.toInCall.keep
  -- the frame's own dict
  obtain ⟨lo, les, lep, helo, hld, _⟩ := ix.toInCall.ns
  generalize hgo : ({ cls := .type "generator", data := .fields #[.int s1.gens.size 0, .str x s1.toks, .str qual (s1.toks + 1)] } : Obj) = go
  have hgc : go.cls = .type "generator" := by rw [← hgo]
  have hgd0 : go.data = .fields #[.int s1.gens.size 0, .str x s1.toks, .str qual (s1.toks + 1)] := by rw [← hgo]
  have hgs : go.slots = #[] := by rw [← hgo]
  have pushed : (s1.heap.push go).get? s1.heap.objs.size = some go := Heap.get?_push_size _ (by rw [← hgo]; rfl)
  have kp2 : ∀ b o, s1.heap.get? b = some o → (s1.heap.push go).get? b = some o := fun b o e => Heap.get?_push_of_some _ e
  refine ⟨⟨P, w, K, mg, base, A, N, envOfC qual scope s.heap.objs.size f cdv, fr⟩, s1.heap.objs.size, s1.gens.size, go, lo, .fresh (.func body (envOfC qual scope s.heap.objs.size f cdv)), rfl, ?_, fun Aw hrw hgw hfw => ?_⟩
  · refine ⟨fun b o e => ?_, by rw [es1], ?_, rfl, rfl, rfl, rfl, rfl, rfl, Nat.le_of_lt lt1, Nat.le_refl _, Nat.ne_of_gt lt1, fun h e => ⟨go, _, _, e, hgc, hgd0, hgs⟩, fun v q => (by rw [hgd0] at q; cases q), fun v q => (by rw [hld] at q; cases q), ?_, ?_, ?_, by rw [es1]; exact Nat.le_refl _⟩
    · exact Heap.get?_push_of_some _ (kp1 b o e)
    · refine AllBare.push ?_ rfl
      rw [es1]
      exact e0.bare
    · exact hgo ▸ pushed
    · exact Heap.get?_push_of_some _ helo
    · exact Array.getElem?_push_size ..
  · have ok : (GE.wake ⟨P, w, K, mg, base, A, N, envOfC qual scope s.heap.objs.size f cdv, fr⟩ Aw).Ok := by
      refine ⟨e0.mod, S.kind, rfl, rfl, fun y => ?_, fun y h => ?_, hrw.hd, hfw, rfl, e0.bsz, fun b hb => ?_⟩
      · show (cellsFrom (s.heap.objs.size + 1) scope.names []).lookup y = none
        rw [cells_none nc]; rfl
      · rcases h with h | h
        · exact ncell y h
        · exact S.nofree _ (PySem.mem_of_lookup h) rfl
      · obtain ⟨_, o, ho, _⟩ := e0.funs.mem hb
        exact Heap.lt_size ho
    refine ⟨ok, genP_iff.mpr fun kw C pre same => ?_⟩
    have e0w : Env0 P w K mg base Aw fr s H := ⟨hfw, e0.mod, e0.bs, e0.bsz, e0.funs, e0.frf, e0.hok, e0.bare⟩
    have I1 := inv_startG (E := fun _ _ _ => False) (qual := qual) (scope := scope) (f := f) (cd := cdv) (N := N) S hrw.hd e0w hl r ix
    have sl : SlotsAt (GE.wake ⟨P, w, K, mg, base, A, N, envOfC qual scope s.heap.objs.size f cdv, fr⟩ Aw) lo (L2.start N vs) := fun h eh => by
      obtain ⟨mm, hn, hl2⟩ := I1.loc
      refine ⟨mm, ?_, fun i y v e1 e2 e3 => ?_⟩
      · obtain ⟨o, es, ep, ho, rr⟩ := hn
        have : o = lo := by
          have z : s1.heap.get? s.heap.objs.size = some o := ho
          have z2 : s1.heap.get? s.heap.objs.size = some lo := helo
          rw [z2] at z; exact (Option.some.inj z).symm
        subst this
        exact ⟨o, es, ep, eh, rr⟩
      · obtain ⟨u, ru, hk⟩ := hl2 i y v e1 e2 e3
        rcases hk with ⟨k1, k2⟩ | ⟨k1, _⟩
        · exact ⟨u, ru, k1, k2⟩
        · exact absurd k1 (ok.has y)
    have S0 := SR.start (N := N) M rd
    refine body_goes (hbody cdv Aw fr s (hrw.deeper _) ?_ ok) over_func (run_woken ok sl I1.len S0.len (fun i d e => ?_) (fun i b c e => ?_) (fun i c ks ds e => ?_) C pre same) ok (hw ds ys hsp)
    · have e2 : (Aw.deeper (envOfC qual scope s.heap.objs.size f cdv)).guards = Aw.guards := by
        first | rfl | (obtain ⟨hd', d', fr', gs', u'⟩ := Aw; simp [Around.deeper])
      rw [e2]; exact hgw
    · obtain ⟨v, e1, r1⟩ := S0.val i d e
      rw [start_own] at r1
      exact ⟨v, e1, r1⟩
    · rcases startD_at e with z | ⟨d, z⟩ <;> cases z
    · rcases startD_at e with z | ⟨d, z⟩ <;> cases z
end DL

set_option Elab.async false
set_option linter.all false
set_option maxRecDepth 100000
set_option maxHeartbeats 4000000
set_option autoImplicit false
/-! Who walks a generator. -/
namespace DL
open PySem PySem.Spec PyProof.Rows L2 GenW
/-- what is wanted of exceptions does not hang on the generators -/
def XeG (X : Cx) : Prop := ∀ (B : Sleepers) (e : Value) (s : Shared) (g : Array GenState), Rl B s.gens g → X.xe e s → X.xe e (withG s g)
theorem cx_gens {P : Program} {w : World} {outer : List Env} {H : Hp} {s s' : Shared} {E : XK} {u : Value} {g : Array GenState} (hg : AllBare g) (h : L2.CX P w outer H s E u s') : L2.CX P w outer H s E u (withG s' g) := by
  obtain ⟨a, B, H', cls, d, h1, h2, h3, h4, h5, h6, h7, h8⟩ := h
  exact ⟨a, B, H', cls, d, h1, h2, h3, h4, h5, h6, hg, h8⟩
theorem cx_bare {P : Program} {w : World} {outer : List Env} {H : Hp} {s s' : Shared} {E : XK} {u : Value} (h : L2.CX P w outer H s E u s') : AllBare s'.gens := by
  obtain ⟨a, B, H', cls, d, h1, h2, h3, h4, h5, h6, h7, h8⟩ := h
  exact h7
theorem xeG_def {P : Program} {w : World} {K : PySem.W.Frag} {mg : Str → Option Value} {base : Heap} {N : List Str} {qual : Str} {scope : Scope} {f : Addr} {cd : Value} {A : Around} {outer : List Env} {s : Shared} {H : Hp} {E : XK} :
    XeG (cxOf (L2.CX P w) P w K mg base N qual scope f cd A outer s H E) := fun B e s2 g r h => by
  refine wpAny_mono (any_mute r h) (fun _ s3 q => ?_) fun _ s3 q => ?_
  · obtain ⟨s4, g4, rfl, r4, q⟩ := q
    exact cx_gens (r4.bare (cx_bare q)) q
  · obtain ⟨s4, g4, rfl, r4, q⟩ := q
    exact cx_gens (r4.bare (cx_bare q)) q
/-- a generator that X walks -/
abbrev gw (X : Cx) (N : List Str) (env : Env) : GE := ⟨X.prog, X.w, X.K, X.mg, X.base, X.A.in1, N, env, X.stack⟩
abbrev gx0 (X : Cx) : Gx := ⟨X.K, X.mg, none⟩
structure Walk (X : Cx) (env : Env) (a gn : Nat) (go : Obj) : Prop where
  ne : a ≠ env.locals
  isg : ∀ h : Heap, h.get? a = some go → h.IsGen a gn
  goc : ∀ v, go.data ≠ .cell v
  sz : X.s_0.heap.objs.size ≤ env.locals
  cl : ∀ x c, X.env.cells.lookup x = some c → c < env.locals
/-- the generator sleeps (or has not begun), ys are left -/
structure Rest (X : Cx) (N : List Str) (env : Env) (a gn : Nat) (go : Obj) (ys : List D) (Z : Addr → Prop) (m : List Addr) (H : Hp) (s : Shared) : Prop where
  ex : ∃ lo gs m0 E0, s.heap.get? env.locals = some lo ∧ (∀ v, lo.data ≠ .cell v) ∧ s.heap.get? a = some go ∧ H env.locals = none ∧ H a = none ∧ s.gens[gn]? = some gs ∧ m0 <+: m ∧ Same E0 (vis Z m H) ∧ GenP (gw X N env) a go ys m0 E0 lo gs
def NextP (X : Cx) (N : List Str) (env : Env) (a gn : Nat) (go : Obj) (pins : List (Addr × Obj)) (σ : L2.St) (Z : Addr → Prop) (m : List Addr) (μ : Mu) (H : Hp) : List D → Option Value → Shared → Prop
  | [], r, s1 => r = none ∧ ∃ m' H', Inv X pins σ H' s1 ∧ Step (gx0 X) Z m H m' μ H'
  | d :: ys, r, s1 => ∃ v x m' H', r = some v ∧ RelV x v ∧ Inv X pins σ H' s1 ∧ Step (gx0 X) Z m H m' μ H' ∧ Rep (gx0 X) m' (vis Z m' H') d x ∧ Rest X N env a gn go ys Z m' H' s1 ∧ ∃ gs, s1.gens[gn]? = some gs ∧ asleep gs = true
theorem gen_next {X : Cx} {N : List Str} {env : Env} {a gn : Nat} {go : Obj} {pins : List (Addr × Obj)} {σ : L2.St} {Z : Addr → Prop} {m : List Addr} {μ : Mu} {H : Hp} {s : Shared} {ys : List D} {E : Value → Shared → Prop} (W : Walk X env a gn go) (ok : (gw X N env).Ok) (hh : X.A.handled = none) (hd : X.A.depth < recursionLimit)
    (I : Inv X pins σ H s) (M : MuOk (gx0 X) Z m μ H) (fL : FpOk X pins H env.locals) (fa : FpOk X pins H a) (R : Rest X N env a gn go ys Z m H s) :
    wpAny (model X.prog X.w) X.A (pyNext (.ref a)) (NextP X N env a gn go pins σ Z m μ H ys) E s := by
  obtain ⟨lo, gs, m0, E0, elo, lc, ego, hL, ha, egs, pre, same, gp⟩ := R.ex
  have hgn : gn < s.gens.size := (Array.getElem?_eq_some_iff.mp egs).1
  have bare : AllBare (s.setGen gn .running).gens := allBare_setGen I.bare rfl
  have C : Cons (gw X N env) a go X pins σ H Z m μ (s.setGen gn .running) lo := ⟨Inv.gens I bare, rfl, rfl, rfl, rfl, rfl, rfl, elo, ego, W.goc, fL, fa, W.ne, M, W.sz, W.cl⟩
  have go1 := genP_iff.mp gp ⟨X, pins, σ, H, Z, m, μ, s.setGen gn .running⟩ C pre same
  refine wpAny_gsz (n := gn + 1) hgn (next_own hh I.nolimit hd (W.isg _ ego) egs go1 (fun v g l kk c p fs s1 q => ?_) fun r s1 q => ?_)
  · cases ys with
    | nil => obtain ⟨⟨r, e, _⟩, _⟩ := q; cases e
    | cons d ys =>
      obtain ⟨v', gd', l', kk', c', p', fs', x, m', H', lo', e, hq, rv, I1, st, rd, elo', lc', ego', hL', ha', gp'⟩ := q
      cases e
      refine ⟨hq, fun hsz => ⟨v, x, m', H', rfl, rv, Inv.gens I1 (allBare_setGen I1.bare (End.bare_of_quiet hq)), st, rd, ⟨lo', _, m', _, elo', lc', ego', hL', ha', setGen_at (by have e := setGen_size s1 gn (End.susp v g l kk c p fs).genState; omega), List.prefix_refl _, Same.refl _, gp'⟩, _, setGen_at (by have e := setGen_size s1 gn (End.susp v g l kk c p fs).genState; omega), rfl⟩⟩
  · cases ys with
    | cons d ys => obtain ⟨_, _, _, _, _, _, _, _, _, _, _, e, _⟩ := q; cases e
    | nil =>
      obtain ⟨⟨r', e, hr⟩, m', H', I1, st, hL', ha'⟩ := q
      cases e
      refine ⟨hr, fun h' hk _ => ⟨rfl, m', H', ?_, st⟩⟩
      have I2 : Inv X pins σ H' (s1.setGen gn .finished) := Inv.gens I1 (allBare_setGen I1.bare rfl)
      exact I2.kept (t' := s1.toks) hk
/-! ### over other code -/
theorem Rest.after {X : Cx} {N : List Str} {env : Env} {a gn : Nat} {go : Obj} {pins : List (Addr × Obj)} {σ' : L2.St} {Z Z' : Addr → Prop} {m m' : List Addr} {H H' : Hp} {s s' : Shared} {ys : List D} (R : Rest X N env a gn go ys Z m H s) (I : Inv X (pins ++ pinsAt [a, env.locals] s.heap) σ' H' s')
    (hg : s'.gens[gn]? = s.gens[gn]?) (pre : m <+: m') (same : Same (vis Z m H) (vis Z' m' H')) : Rest X N env a gn go ys Z' m' H' s' := by
  obtain ⟨lo, gs, m0, E0, elo, lc, ego, hL, ha, egs, pre0, same0, gp⟩ := R.ex
  have p1 := I.pin (env.locals, lo) (List.mem_append_right _ (List.mem_append_right _ (mem_pinsAt (by simp) elo)))
  have p2 := I.pin (a, go) (List.mem_append_right _ (List.mem_append_right _ (mem_pinsAt (by simp) ego)))
  exact ⟨lo, gs, m0, E0, p1.1, lc, p2.1, p1.2.1, p2.2.1, hg.trans egs, pre0.trans pre, same0.trans same, gp⟩
theorem Rest.pin {X : Cx} {N : List Str} {env : Env} {a gn : Nat} {go : Obj} {pins : List (Addr × Obj)} {σ : L2.St} {Z : Addr → Prop} {m : List Addr} {H : Hp} {s : Shared} {ys : List D} (R : Rest X N env a gn go ys Z m H s) (gc : ∀ v, go.data ≠ .cell v) (I : Inv X pins σ H s) (fL : FpOk X pins H env.locals) (fa : FpOk X pins H a) :
    Inv X (pins ++ pinsAt [a, env.locals] s.heap) σ H s := by
  obtain ⟨lo, gs, m0, E0, elo, lc, ego, hL, ha, egs, pre0, same0, gp⟩ := R.ex
  refine I.pinned (fun b hb => ?_) fun b hb => ?_
  · rcases List.mem_cons.mp hb with rfl | hb
    · exact fa
    · rw [List.mem_singleton.mp hb]; exact fL
  · rcases List.mem_cons.mp hb with rfl | hb
    · exact ⟨go, ego, gc⟩
    · rw [List.mem_singleton.mp hb]; exact ⟨lo, elo, lc⟩
end DL

set_option Elab.async false
set_option linter.all false
set_option maxRecDepth 100000
set_option maxHeartbeats 4000000
set_option autoImplicit false
namespace DL
open PySem PySem.Spec PyProof.Rows L2 GenW
/-- an expression that makes a generator -/
structure DGn (W : WX) (X : Cx) (kk : Nat) (e : Expr) (wi : WI) : Prop where
  run : ∀ (pins : List (Addr × Obj)) (s : Shared) (σ : L2.St) (H : Hp) (Z : Addr → Prop) (m : List Addr) (ρ : DS) (μ : Mu) (Q : List D → Mu → Prop) (Xd : XD), Inv X pins σ H s → SR (gx0 X) Z m σ H ρ μ → wi ρ μ Q Xd →
    (∀ cls d H', XPost (gx0 X) (ownW Z σ ρ) m H Xd cls d H' → W cls d σ H') →
    wpAny (model X.prog X.w) X.A (eval e X.env) (fun v s2 => ∃ g a gn go lo gs ys s1 H1 m1 μ1, v = .ref a ∧ Inv X pins σ H1 s1 ∧ Born X.prog X.w X.K X.mg X.base kk X.stack g a gn go lo gs H1 s1 s2 ∧ Step (gx0 X) (ownW Z σ ρ) m H m1 μ1 H1 ∧
      Gives kk X.stack g a go lo gs ys m1 (vis (ownW Z σ ρ) m1 H1) ∧ s.gens.size ≤ gn ∧ Q ys μ1) X.xe s
def wGen (sp : GSp) (wa : WA) : WI := fun ρ μ Q Xd => wa ρ μ (fun ds μ1 => ∃ ys, sp ds ys ∧ Q ys μ1) Xd
section
variable {W : WX} {X : Cx} {e : Expr} {es : List Expr} {wa : WE} {ws : WA} {pos : Pos} {k : Nat} {f : Addr} {fd : FuncData} {ps : List Str} {sp : GSp}
theorem run_gen {pins : List (Addr × Obj)} {s : Shared} {σ : L2.St} {H : Hp} {m : List Addr} {Z : Addr → Prop} {μ : Mu} {us : List Value} {vs : List V} {ds ys : List D} (F : GenD X.prog X.w X.K X.mg X.base k f fd ps sp) (hr : Room k X.A) (hgd : X.A.guards = some []) (hb : Binds X.K fd ps [])
    (I : Inv X pins σ H s) (rv : Vals vs us) (M : MuOk (gx0 X) Z m μ H) (rd : Reps (gx0 X) m (vis Z m H) ds vs) (h : sp ds ys) :
    wpAny (model X.prog X.w) X.A (call (.ref f) us) (fun v s2 => ∃ g a gn go lo gs, v = .ref a ∧ Born X.prog X.w X.K X.mg X.base k X.stack g a gn go lo gs H s s2 ∧ Gives k X.stack g a go lo gs ys m (vis Z m H)) X.xe s := by
  have e0 : us.length = ps.length := (rd.len.trans rv.length).symm.trans (F.len _ _ h)
  have bd : BindsTo s fd ⟨us, []⟩ (ps.zip us) := by simpa using hb s us I.kIn (by simpa using e0)
  refine wpAny_call (codeAny_mono (F.run X.A X.stack s H ⟨us, []⟩ us vs Z m μ ds ys hr hgd I.env0 bd rv M rd h) fun res s2 hres => ?_)
  obtain ⟨g, a, gn, go, lo, gs, rfl, r1, r2⟩ := hres
  exact ⟨g, a, gn, go, lo, gs, rfl, r1, r2⟩
theorem dgn_call {x : Str} {p : Pos} (F : GenD X.prog X.w X.K X.mg X.base k f fd ps sp) (hr : Room k X.A) (hgd : X.A.guards = some []) (hg : Gl X x) (hm : X.mg x = some (.ref f)) (hk : PySem.W.keepIn X.K (.ref f) = true) (hb : Binds X.K fd ps []) (ha : DA none W X (e :: es) ws)
    (hdb : (x == ("__debug__" : Str)) = false := by decide) (he : starEach (e :: es) X.env = (false, eval e X.env) :: starEach es X.env := by rfl) (hpl : (backTo pos (starEach es X.env)).any (·.1) = false := by rfl) :
    DGn W X k (.Call (.Name x p) (e :: es) [] pos) (wGen sp ws) := by
  refine ⟨fun pins s σ H Z m ρ μ Q Xd I S q kx => ?_⟩
  refine wpAny_Call_Name_kw (ld_glob I hg hm ?_ hdb)
  refine PySem.W.callWith_K (h₀ := X.base) I.ok.mod.kin hk (wpAny_gsz (Nat.le_refl s.gens.size) (wpAny_mono (ha.run pos pins s σ H (fun vs H1 => APost (gx0 X) (ownW Z σ ρ) m H (fun ds μ1 => ∃ ys, sp ds ys ∧ Q ys μ1) vs H1) I ⟨Z, m, ρ, μ, _, Xd, S, q, fun vs H' P => P, kx⟩) (fun us s1 hx hsz => ?_) fun _ _ z _ => z)) he hpl
  obtain ⟨vs, H1, I1, rv, m1, ds, μ1, st, rd, ys, hsp, hq⟩ := hx
  refine ⟨I1.kIn, thn (run_gen F hr hgd hb I1 rv st.mu rd hsp) fun v s2 hv => ?_⟩
  obtain ⟨g, a, gn, go, lo, gs, e1, r1, r2⟩ := hv
  exact ⟨g, a, gn, go, lo, gs, ys, s1, H1, m1, μ1, e1, I1, r1, st, r2, Nat.le_trans hsz r1.gnew, hq⟩
end
section
variable {W : WX} {X : Cx} {tg iter : Expr} {body : List Stmt} {wi : WI} {g : WG} {b : WS} {pos : Pos} {kk : Nat}
theorem in1_guards {A : Around} (h : A.guards = some []) : A.in1.guards = some [] := by
  first | exact h | (obtain ⟨hd', d', fr', gs', u'⟩ := A; simpa [Around.in1] using h)
/-- for .. in g(..) -/
theorem ds_forG (hr : Room (kk + 1) X.A) (hgd : X.A.guards = some []) (hp : PassesOwn (model X.prog X.w) X.A X.env X.xe) (hxe : XeG X) (hi : DGn W X kk iter wi) (hg : DG none X tg g) (hb : DSs none W X body b) (hs : ∀ x, foldedSetIterable iter X.env x = pure x := by intro _; rfl) :
    DSt none W X (.For tg iter body [] pos) (sFor wi g b) := by
  refine ⟨fun pins s σ H De I h => ?_⟩
  obtain ⟨Z, m, ρ, μ, E, S, q, kn, kr, kb, kc, kx⟩ := h
  refine wpAny_For (thn (hi.run pins s σ H Z m ρ μ _ _ I S q fun cls d H' P => kx cls d σ H' (XSPost.of S P)) fun v s2 hv => ?_) hs
  obtain ⟨G, a, gn, go, lo, gs, ys, s1, H1, m1, μ1, rfl, I1, B, st, gv, _, hq⟩ := hv
  obtain ⟨gP, gwo, gK, gmg, gbase, gA, gN, env, gfr⟩ := G
  obtain rfl : gP = X.prog := B.prog
  obtain rfl : gwo = X.w := B.w
  obtain rfl : gK = X.K := B.K
  obtain rfl : gmg = X.mg := B.mg
  obtain rfl : gbase = X.base := B.base
  obtain rfl : gfr = X.stack := B.fr
  obtain ⟨ok, gp⟩ := gv X.A.in1 hr.in1 (in1_guards hgd) I.ok.frames
  have I2 : Inv X pins σ H1 s2 := I1.call' (ch := []) B.os (Un.kept B.keep) (I1.hok.kept B.keep) B.bare fun b z => absurd z (by simp)
  have fL : FpOk X pins H1 env.locals := I1.fpOk B.lL (I1.hok.fresh B.lL)
  have fa : FpOk X pins H1 a := I1.fpOk B.la (I1.hok.fresh B.la)
  have Wk0 : Walk X env a gn go := ⟨B.ne, B.isg, B.goc, Nat.le_trans I1.sz B.lL, fun x c e => by
    obtain ⟨v, o, ho, _⟩ := I1.cell x c e
    exact Nat.lt_of_lt_of_le (Heap.lt_size ho) B.lL⟩
  have R0 : Rest X gN env a gn go ys (ownW Z σ ρ) m1 H1 s2 := ⟨lo, gs, m1, _, B.elo, B.loc, B.ego, fL.1, fa.1, B.egs, List.prefix_refl _, Same.refl _, gp⟩
  have t1 : SStep (gx0 X) Z m σ ρ H m1 σ ρ H1 := SStep.of st
  refine wpAny_pyIter_gen (Wk0.isg _ B.ego) ?_
  refine codeAny_forLoop_any (fun n s' => ∃ i σ' H' m' ρ' μ', n = ys.length - i ∧ i ≤ ys.length ∧ Inv X pins σ' H' s' ∧ SR (gx0 X) Z m' σ' H' ρ' μ' ∧ SStep (gx0 X) Z m1 σ ρ H1 m' σ' ρ' H' ∧ Rest X gN env a gn go (ys.drop i) (ownW Z σ' ρ') m' H' s' ∧ forL g b E (ys.drop i) ρ' μ') ?_
    ys.length ⟨0, σ, H1, m1, ρ, μ1, rfl, Nat.zero_le _, I2, S.step st, .refl, R0, hq⟩
  rintro n s3 ⟨i, σ3, H3, m3, ρ3, μ3, rfl, hle, I3, S3, s3', R3, q3⟩
  obtain ⟨_, _, _, _, _, _, _, hL3, ha3, _⟩ := R3.ex
  have nx := gen_next (E := X.xe) Wk0 ok hr.hd hr.depth I3 S3.mu ⟨hL3, fL.2⟩ ⟨ha3, fa.2⟩ R3
  refine wpAny_passesOwn hp (thn nx fun r s4 h4 => ?_)
  by_cases hlt : i < ys.length
  · have hd : ys.drop i = ys[i] :: ys.drop (i + 1) := List.drop_eq_getElem_cons hlt
    rw [hd] at h4
    obtain ⟨u, x, m4, H4, rfl, ru, I4, st4, rd, R4, gs4, egs4, as4⟩ := h4
    obtain ⟨_, _, _, _, _, _, ego4, hL4, ha4, _⟩ := R4.ex
    obtain ⟨o, nm, qn, ho, hc, hdd, _⟩ := Wk0.isg _ ego4
    refine go_of ho hc hdd (by decide +kernel) ?_
    have S4 := S3.step st4
    have q4 := forL_cons (List.getElem?_eq_getElem hlt) q3
    have t4 : SStep (gx0 X) Z m1 σ ρ H1 m4 σ3 ρ3 H4 := s3'.trans (SStep.of st4)
    have J4 := Rest.pin R4 Wk0.goc I4 ⟨hL4, fL.2⟩ ⟨ha4, fa.2⟩
    have bare4 : AllBare (s4.gens.map mute) := mute_allBare I4.bare
    -- the target
    have hasg := hg.run (pins ++ pinsAt [a, env.locals] s4.heap) (withG s4 (s4.gens.map mute)) σ3 H4 x u
      (fun σ5 H5 => ∃ m5 ρ5 μ5, SR (gx0 X) Z m5 σ5 H5 ρ5 μ5 ∧ SStep (gx0 X) Z m4 σ3 ρ3 H4 m5 σ5 ρ5 H5 ∧ b { E with nx := forL g b E (ys.drop (i + 1)), ct := forL g b E (ys.drop (i + 1)), bk := E.nx } ρ5 μ5) (Inv.gens J4 bare4) ru
      ⟨Z, m4, ρ3, μ3, _, _, S4, rd, q4, fun σ5 H5 P => P⟩
    refine wpAny_passesOwn hp (wpAny_mono (any_asleep hasg) (fun _ s5 h5 => ?_) fun x s5 h5 => ?_)
    · obtain ⟨s5m, g5, rfl, r5, σ5, H5, J5, m5, ρ5, μ5, S5, s5', q5⟩ := h5
      have t5 := t4.trans s5'
      have T5 := t1.trans t5
      have hbody := hb.run _ s5m σ5 H5
        { nx := fun σ6 H6 => ∃ m6 ρ6 μ6, SR (gx0 X) Z m6 σ6 H6 ρ6 μ6 ∧ SStep (gx0 X) Z m5 σ5 ρ5 H5 m6 σ6 ρ6 H6 ∧ forL g b E (ys.drop (i + 1)) ρ6 μ6
          rt := De.rt
          bk := De.nx
          ct := fun σ6 H6 => ∃ m6 ρ6 μ6, SR (gx0 X) Z m6 σ6 H6 ρ6 μ6 ∧ SStep (gx0 X) Z m5 σ5 ρ5 H5 m6 σ6 ρ6 H6 ∧ forL g b E (ys.drop (i + 1)) ρ6 μ6 } J5
        ⟨Z, m5, ρ5, μ5, _, S5, q5, fun σ6 H6 P => P, fun v H6 P => kr v H6 (RPost.from T5 P), fun σ6 H6 P => kn σ6 H6 (SPost.from T5 P), fun σ6 H6 P => P, fun cls d σ6 H6 P => kx cls d σ6 H6 (XSPost.from T5 P)⟩
      refine wpAny_passesOwn hp (wpAny_mono (any_mute r5 hbody) (fun f s6 h6 => ?_) fun x s6 h6 => ?_)
      · obtain ⟨s6m, g6, rfl, r6, h6⟩ := h6
        have gk : g6[gn]? = s4.gens[gn]? := ((r6.held gn gs4 (sleepers_at egs4 as4)).1).trans egs4.symm
        have again : ∀ {σ6 : L2.St} {H6 : Hp}, Inv X (pins ++ pinsAt [a, env.locals] s4.heap) σ6 H6 s6m → (∃ m6 ρ6 μ6, SR (gx0 X) Z m6 σ6 H6 ρ6 μ6 ∧ SStep (gx0 X) Z m5 σ5 ρ5 H5 m6 σ6 ρ6 H6 ∧ forL g b E (ys.drop (i + 1)) ρ6 μ6) →
            ∃ n, n < ys.length - i ∧ ∃ i σ' H' m' ρ' μ', n = ys.length - i ∧ i ≤ ys.length ∧ Inv X pins σ' H' (withG s6m g6) ∧ SR (gx0 X) Z m' σ' H' ρ' μ' ∧ SStep (gx0 X) Z m1 σ ρ H1 m' σ' ρ' H' ∧ Rest X gN env a gn go (ys.drop i) (ownW Z σ' ρ') m' H' (withG s6m g6) ∧ forL g b E (ys.drop i) ρ' μ' := fun {σ6 H6} J6 ⟨m6, ρ6, μ6, S6, s6', q6⟩ => by
          have J6' := Inv.gens J6 (r6.bare J6.bare)
          refine ⟨_, (by omega : ys.length - (i + 1) < ys.length - i), i + 1, σ6, H6, m6, ρ6, μ6, rfl, hlt, J6'.unpinned, S6, t5.trans s6', ?_, q6⟩
          have R4' : Rest X gN env a gn go (ys.drop (i + 1)) (ownW Z σ3 ρ3) m4 H4 s4 := R4
          exact Rest.after R4' J6' gk (s5'.trans s6').pre (s5'.trans s6').same
        have rb : AllBare s6m.gens → AllBare g6 := r6.bare
        cases f with
        | next => obtain ⟨σ6, H6, J6, n6⟩ := h6; exact again J6 n6
        | cont => obtain ⟨σ6, H6, J6, n6⟩ := h6; exact again J6 n6
        | brk => obtain ⟨σ6, H6, J6, n6⟩ := h6; exact ⟨σ6, H6, (Inv.gens J6 (rb J6.bare)).unpinned, n6⟩
        | ret v => obtain ⟨x6, σ6, H6, J6, rv6, n6⟩ := h6; exact ⟨x6, σ6, H6, (Inv.gens J6 (rb J6.bare)).unpinned, rv6, n6⟩
      · obtain ⟨s6m, g6, rfl, r6, h6⟩ := h6
        exact hxe _ _ _ _ r6 h6
    · obtain ⟨s5m, g5, rfl, r5, h5⟩ := h5
      exact hxe _ _ _ _ r5 h5
  · have hi' : i = ys.length := by omega
    subst hi'
    rw [List.drop_length] at h4 q3
    obtain ⟨rfl, m4, H4, I4, st4⟩ := h4
    exact wpAny_execs_nil ⟨σ3, H4, I4, kn σ3 H4 ⟨m4, ρ3, μ3, S3.step st4, (t1.trans s3').trans (SStep.of st4), q3⟩⟩
end
end DL

set_option Elab.async false
set_option linter.all false
set_option maxRecDepth 100000
set_option maxHeartbeats 4000000
set_option autoImplicit false
/-! A comprehension over a generator. -/
namespace DL
open PySem PySem.Spec PyProof.Rows L2 GenW
section
variable {W : WX} {X : Cx} {elt tg iter : Expr} {ifs : List Expr} {scope : Scope} {own : List (Str × Nat)} {pos pos' : Pos} {wi : WI} {g : L2.TG} {k : WG} {tt : WT} {te : WE} {kk : Nat}
end
end DL

set_option Elab.async false
set_option linter.all false
set_option maxRecDepth 100000
set_option maxHeartbeats 4000000
set_option autoImplicit false
/-! Generator defs by name; frames. -/
namespace DL
open PySem PySem.Spec PyProof.Rows L2 GenW
structure GenC (P : Program) (w : World) (K : PySem.W.Frag) (mg : Str → Option Value) (base : Heap) (k : Nat) (x : Str) (ps : List Str) (sp : GSp) : Prop where
  ex : ∃ f fd, mg x = some (.ref f) ∧ PySem.W.keepIn K (.ref f) = true ∧ Binds K fd ps [] ∧ GenD P w K mg base k f fd ps sp
section
variable {W : WX} {X : Cx} {e : Expr} {es : List Expr} {ws : WA} {pos p : Pos} {k j : Nat} {ps : List Str} {sp : GSp} {x : Str}
theorem dgn_callD (C : GenC X.prog X.w X.K X.mg X.base k x ps sp) (hr : Room j X.A) (hkj : k ≤ j) (hgd : X.A.guards = some []) (hg : Gl X x) (ha : DA none W X (e :: es) ws) (hdb : (x == ("__debug__" : Str)) = false := by decide)
    (he : starEach (e :: es) X.env = (false, eval e X.env) :: starEach es X.env := by rfl) (hpl : (backTo pos (starEach es X.env)).any (·.1) = false := by rfl) : DGn W X k (.Call (.Name x p) (e :: es) [] pos) (wGen sp ws) := by
  obtain ⟨f, fd, h1, h2, h3, F⟩ := C.ex
  exact dgn_call F (hr.mono hkj) hgd hg h1 h2 h3 ha hdb he hpl
end
section
variable {W : WX} {X : Cx} {tg iter : Expr} {body : List Stmt} {wi : WI} {g : WG} {b : WS} {pos : Pos} {k j : Nat}
theorem ds_forGD (hr : Room j X.A) (hj : k + 1 ≤ j) (hgd : X.A.guards = some []) (hp : PassesOwn (model X.prog X.w) X.A X.env X.xe) (hxe : XeG X) (hi : DGn W X k iter wi) (hg : DG none X tg g) (hb : DSs none W X body b) (hs : ∀ x, foldedSetIterable iter X.env x = pure x := by intro _; rfl) :
    DSt none W X (.For tg iter body [] pos) (sFor wi g b) := ds_forG (hr.mono hj) hgd hp hxe hi hg hb hs
end
section
variable {W : WX} {X : Cx} {elt tg iter : Expr} {ifs : List Expr} {scope : Scope} {own : List (Str × Nat)} {pos : Pos} {wi : WI} {g : L2.TG} {k : WG} {tt : WT} {te : WE} {kk j : Nat}
end
/-! ### frames -/
def KGen (sp : GSp) (Q : List D → Mu → Prop) : List D → Mu → Prop := fun ds μ => ∃ ys, sp ds ys ∧ Q ys μ
theorem g_gen {sp : GSp} {wa : WA} {ρ : DS} {μ : Mu} {Q : List D → Mu → Prop} {Xd : XD} : wGen sp wa ρ μ Q Xd = wa ρ μ (KGen sp Q) Xd := propext Iff.rfl
theorem gen_go {sp : GSp} {ds ys : List D} {μ : Mu} {Q : List D → Mu → Prop} (h : sp ds ys) (q : Q ys μ) : KGen sp Q ds μ := ⟨ys, h, q⟩
end DL

set_option Elab.async false
set_option linter.all false
set_option maxRecDepth 100000
set_option maxHeartbeats 4000000
set_option autoImplicit false
/-! list(g(..)): a generator drained into a new list. -/
namespace DL
open PySem PySem.Spec PyProof.Rows L2 GenW
/-- the same def, under other surroundings -/
abbrev Cx.under (X : Cx) (A : Around) : Cx := { X with A := A }
def wLoG (wi : WI) : WE := fun ρ μ Q Xd => wi ρ μ (fun ds μ1 => ds.length ≤ 1000000 ∧ Q (.lst ds) μ1) Xd
def KLoG (Q : D → Mu → Prop) : List D → Mu → Prop := fun ds μ1 => ds.length ≤ 1000000 ∧ Q (.lst ds) μ1
theorem g_log {wi : WI} {ρ : DS} {μ : Mu} {Q : D → Mu → Prop} {Xd : XD} : wLoG wi ρ μ Q Xd = wi ρ μ (KLoG Q) Xd := propext Iff.rfl
section
variable {W : WX} {X : Cx} {e : Expr} {wi : WI} {pos p : Pos} {kk : Nat} {nm : Str}
end
end DL

set_option Elab.async false
set_option linter.all false
set_option maxRecDepth 100000
set_option maxHeartbeats 4000000
set_option autoImplicit false
/-! A generator that walks another generator. -/
namespace DL
open PySem PySem.Spec PyProof.Rows L2 GenW
open Sem (wp)
/-- what sleeps along with a generator: records that stay, and the generators that it walks; the data that it was told of -/
structure Ext where
  px : List (Addr × Obj)
  sx : List (Nat × GenState)
  m0 : List Addr
  E0 : Hp
structure ExtAt (g : GE) (a gn : Nat) (X : Cx) (pins : List (Addr × Obj)) (Z : Addr → Prop) (m : List Addr) (H : Hp) (s : Shared) (E : Ext) : Prop where
  px : ∀ p ∈ E.px, s.heap.get? p.1 = some p.2 ∧ FpOk X pins H p.1 ∧ (∀ v, p.2.data ≠ .cell v) ∧ g.L < p.1 ∧ p.1 ≠ a
  sx : ∀ q ∈ E.sx, s.gens[q.1]? = some q.2 ∧ asleep q.2 = true ∧ q.1 ≠ gn
  gn : gn < s.gens.size
  pre : E.m0 <+: m
  same : Same E.E0 (vis Z m H)
def AftY1 (g : GE) (a gn : Nat) (go : Obj) (k : Wk) (d : D) (P : Ext → Obj → GenState → Prop) (e : End) (s1 : Shared) : Prop :=
  ∃ v gd l kk c p fs x m' H' lo' E', e = .susp v gd l kk c p fs ∧ e.quiet = true ∧ RelV x v ∧ Inv k.X k.pins k.σ H' s1 ∧ Step g.gx k.Z k.m k.H m' k.μ H' ∧ Rep g.gx m' (vis k.Z m' H') d x ∧ s1.heap.get? g.L = some lo' ∧ (∀ v, lo'.data ≠ .cell v) ∧ s1.heap.get? a = some go ∧
    H' g.L = none ∧ H' a = none ∧ ExtAt g a gn k.X k.pins k.Z m' H' s1 E' ∧ P E' lo' e.genState
def GenP1 (g : GE) (a gn : Nat) (go : Obj) : List D → Ext → Obj → GenState → Prop
  | [], E, lo, gs => ∀ k : Wk, Cons g a go k.X k.pins k.σ k.H k.Z k.m k.μ k.s lo → ExtAt g a gn k.X k.pins k.Z k.m k.H k.s E → GoesS (model g.prog g.w) g.A gs (AftE g a go k) k.s
  | d :: ds, E, lo, gs => ∀ k : Wk, Cons g a go k.X k.pins k.σ k.H k.Z k.m k.μ k.s lo → ExtAt g a gn k.X k.pins k.Z k.m k.H k.s E → GoesS (model g.prog g.w) g.A gs (AftY1 g a gn go k d (GenP1 g a gn go ds)) k.s
def FinP1 (g : GE) (a gn : Nat) (go : Obj) (k : Wk) : List D → End → Shared → Prop
  | [] => AftE g a go k
  | d :: ds => AftY1 g a gn go k d (GenP1 g a gn go ds)
def NoExn (ρ : DS) : Prop := ∀ (i : Nat) c ks ds, ρ[i]? ≠ some (.exn c ks ds)
/-- it runs, its slots are ρ -/
def RunG1 (g : GE) (a gn : Nat) (go : Obj) (E : Ext) (k : Wk) (ρ : DS) (s : Shared) : Prop :=
  ∃ lo0 σg H m, Cons g a go k.X k.pins k.σ k.H k.Z k.m k.μ k.s lo0 ∧ Inv (g.cx { k.s with heap := cutH k.s.heap g.L } (cutA k.H g.L) (wakePins g a go k.X k.pins k.s.heap)) E.px σg H s ∧ Step g.gx k.Z k.m k.H m k.μ H ∧
    SR g.gx k.Z m σg H ρ k.μ ∧ NoOwn ρ ∧ NoExn ρ ∧ ExtAt g a gn k.X k.pins k.Z m H s E
def Goes1 (g : GE) (a gn : Nat) (go : Obj) (E : Ext) (D0 : GD) (c : Code) (fs : List Frame) (K : Flow → Sem PySem.Fin) : Prop :=
  ∀ (k : Wk) (ds : List D) (ρ : DS) (s : Shared), RunG1 g a gn go E k ρ s → D0.nx ds ρ → Sg (model g.prog g.w) g.A (FinP1 g a gn go k ds) c (K .next) fs s
structure GSt1 (g : GE) (P : Ext → Prop) (st : Stmt) (t : TGen) : Prop where
  run : ∀ (E : Ext), P E → ∀ (a gn : Nat) (go : Obj) (c : Code) (fs : List Frame) (K : Flow → Sem PySem.Fin) (J : Value → Sem PySem.Fin) (gd : Bool → Bool) (lv : List Value → List Value) (D0 : GD), At g c fs gd → Goes1 g a gn go E D0 c fs K →
    ∀ (k : Wk) (ds : List D) (ρ : DS) (s : Shared), RunG1 g a gn go E k ρ s → t D0 ds ρ → Sg (model g.prog g.w) g.A (FinP1 g a gn go k ds) c ((exec st g.env).wrap K J gd lv) fs s
structure GSts1 (g : GE) (P : Ext → Prop) (sts : List Stmt) (t : TGen) : Prop where
  run : ∀ (E : Ext), P E → ∀ (a gn : Nat) (go : Obj) (c : Code) (fs : List Frame) (K : Flow → Sem PySem.Fin) (J : Value → Sem PySem.Fin) (gd : Bool → Bool) (lv : List Value → List Value) (D0 : GD), At g c fs gd → Goes1 g a gn go E D0 c fs K →
    ∀ (k : Wk) (ds : List D) (ρ : DS) (s : Shared), RunG1 g a gn go E k ρ s → t D0 ds ρ → Sg (model g.prog g.w) g.A (FinP1 g a gn go k ds) c ((execs sts g.env).wrap K J gd lv) fs s
theorem ExtAt.next {g : GE} {a gn : Nat} {X Y : Cx} {pins : List (Addr × Obj)} {Z : Addr → Prop} {m m' : List Addr} {H H' : Hp} {s s' : Shared} {E : Ext} {σ : L2.St} {G : Gx} {μ : Mu} (x : ExtAt g a gn X pins Z m H s E) (J : Inv Y E.px σ H' s') (hg : ∀ q ∈ E.sx, s'.gens[q.1]? = some q.2) (hn : gn < s'.gens.size) (st : Step G Z m H m' μ H') :
    ExtAt g a gn X pins Z m' H' s' E where
  px := fun p hp => let z := J.pin p (List.mem_append_right _ hp); ⟨z.1, ⟨z.2.1, (x.px p hp).2.1.2⟩, (x.px p hp).2.2⟩
  sx := fun q hq => ⟨hg q hq, (x.sx q hq).2⟩
  gn := hn
  pre := x.pre.trans st.pre
  same := x.same.trans st.same
section
variable {g : GE} {P : Ext → Prop} {st : Stmt} {rest body : List Stmt} {t u : TGen} {pos : Pos}
end
end DL

set_option Elab.async false
set_option linter.all false
set_option maxRecDepth 100000
set_option maxHeartbeats 4000000
set_option autoImplicit false
/-! `for x in h(..): ..` within a generator. -/
namespace DL
open PySem PySem.Spec PyProof.Rows L2 GenW
open Sem (wp)
section
variable {prog : Program} {w : World} {A : Around} {Φ : End → Shared → Prop} {c : Code} {fs : List Frame} {s : Shared} {env : Env} {K : Flow → Sem PySem.Fin} {J : Value → Sem PySem.Fin} {gd : Bool → Bool} {lv : List Value → List Value} {tg iter : Expr} {body : List Stmt} {pos : Pos} {it : Value}
end
end DL

set_option Elab.async false
set_option linter.all false
set_option maxRecDepth 100000
set_option maxHeartbeats 4000000
set_option autoImplicit false
namespace DL
open PySem PySem.Spec PyProof.Rows L2 GenW
open Sem (wp)
section
variable {g : GE} {body : List Stmt} {tb : TGen} {pos : Pos} {tg iter : Expr} {wi : WI} {gW : WG} {kk : Nat}
end
end DL

set_option Elab.async false
set_option linter.all false
set_option maxRecDepth 100000
set_option maxHeartbeats 4000000
set_option autoImplicit false
/-! A def whose generators walk other generators; a method of this kind, called. -/
namespace DL
open PySem PySem.Spec PyProof.Rows L2 GenW
open Sem (wp)
/-- for whoever wakes it: the data -/
def Gives1 (kk : Nat) (fr : List Env) (g : GE) (a gn : Nat) (go lo : Obj) (gs : GenState) (ys : List D) (m : List Addr) (E0 : Hp) : Prop :=
  ∀ A : Around, Room kk A → A.guards = some [] → A.frames = some fr → (g.wake A).Ok ∧ GenP1 (g.wake A) a gn go ys ⟨[], [], m, E0⟩ lo gs
structure GenD1 (P : Program) (w : World) (K : PySem.W.Frag) (mg : Str → Option Value) (base : Heap) (k : Nat) (f : Addr) (fd : FuncData) (ps : List Str) (sp : GSp) : Prop where
  len : ∀ ds ys, sp ds ys → ds.length = ps.length
  run : ∀ (A : Around) (fr : List Env) (s : Shared) (H : Hp) (args : Args) (us : List Value) (vs : List V) (Z : Addr → Prop) (m : List Addr) (μ : Mu) (ds ys : List D), Room k A → A.guards = some [] → Env0 P w K mg base A fr s H → BindsTo s fd args (ps.zip us) → Vals vs us →
    MuOk ⟨K, mg, none⟩ Z m μ H → Reps ⟨K, mg, none⟩ m (vis Z m H) ds vs → sp ds ys →
    codeAny (model P w) A (.call (.ref f) args) (fun r s' => ∃ g a gn go lo gs, r = .ok (.ret (.ref a)) ∧ Born P w K mg base k fr g a gn go lo gs H s s' ∧ Gives1 k fr g a gn go lo gs ys m (vis Z m H)) s
structure DGn1 (W : WX) (X : Cx) (kk : Nat) (e : Expr) (wi : WI) : Prop where
  run : ∀ (pins : List (Addr × Obj)) (s : Shared) (σ : L2.St) (H : Hp) (Z : Addr → Prop) (m : List Addr) (ρ : DS) (μ : Mu) (Q : List D → Mu → Prop) (Xd : XD), Inv X pins σ H s → SR (gx0 X) Z m σ H ρ μ → wi ρ μ Q Xd →
    (∀ cls d H', XPost (gx0 X) (ownW Z σ ρ) m H Xd cls d H' → W cls d σ H') →
    wpAny (model X.prog X.w) X.A (eval e X.env) (fun v s2 => ∃ g a gn go lo gs ys s1 H1 m1 μ1, v = .ref a ∧ Inv X pins σ H1 s1 ∧ Born X.prog X.w X.K X.mg X.base kk X.stack g a gn go lo gs H1 s1 s2 ∧ Step (gx0 X) (ownW Z σ ρ) m H m1 μ1 H1 ∧
      Gives1 kk X.stack g a gn go lo gs ys m1 (vis (ownW Z σ ρ) m1 H1) ∧ Q ys μ1) X.xe s
section
variable {W : WX} {X : Cx} {e o : Expr} {es : List Expr} {wo : WE} {ws : WA} {pos apos : Pos} {k : Nat} {f C : Addr} {fd : FuncData} {ps : List Str} {sp : GSp} {c mn : Str}
/-- o.m(..) that makes a generator -/
def wGenM (c m : Str) (sp : GSp) (wo : WE) (wa : WA) : WI := fun ρ μ Q Xd => wo ρ μ (fun x μ1 => hasCls c m x μ1 (wa ρ μ1 (fun ds μ2 => ∃ ys, sp (x :: ds) ys ∧ Q ys μ2) Xd)) Xd
end
end DL

set_option Elab.async false
set_option linter.all false
set_option maxRecDepth 100000
set_option maxHeartbeats 4000000
set_option autoImplicit false
/-! Who walks a generator that walks another one. -/
namespace DL
open PySem PySem.Spec PyProof.Rows L2 GenW
structure Rest1 (X : Cx) (N : List Str) (env : Env) (a gn : Nat) (go : Obj) (pins : List (Addr × Obj)) (ys : List D) (Z : Addr → Prop) (m : List Addr) (H : Hp) (s : Shared) : Prop where
  ex : ∃ lo gs E, s.heap.get? env.locals = some lo ∧ (∀ v, lo.data ≠ .cell v) ∧ s.heap.get? a = some go ∧ H env.locals = none ∧ H a = none ∧ s.gens[gn]? = some gs ∧ ExtAt (gw X N env) a gn X pins Z m H s E ∧ GenP1 (gw X N env) a gn go ys E lo gs
/-- pins at the same places -/
theorem Rest1.pins {X : Cx} {N : List Str} {env : Env} {a gn : Nat} {go : Obj} {pins pins' : List (Addr × Obj)} {ys : List D} {Z : Addr → Prop} {m : List Addr} {H : Hp} {s : Shared} (R : Rest1 X N env a gn go pins ys Z m H s) (h : ∀ p ∈ pins', ∃ p0 ∈ pins, p0.1 = p.1) : Rest1 X N env a gn go pins' ys Z m H s := by
  obtain ⟨lo, gs, E, q1, q2, q3, q4, q5, q6, q7, q8⟩ := R.ex
  refine ⟨lo, gs, E, q1, q2, q3, q4, q5, q6, ⟨fun p hp => ?_, q7.sx, q7.gn, q7.pre, q7.same⟩, q8⟩
  obtain ⟨h1, h2, h3⟩ := q7.px p hp
  refine ⟨h1, ⟨h2.1, h2.2.1, h2.2.2.1, h2.2.2.2.1, h2.2.2.2.2.1, fun p0 hp0 => ?_⟩, h3⟩
  rcases List.mem_append.mp hp0 with hp0 | hp0
  · exact h2.2.2.2.2.2 p0 (List.mem_append_left _ hp0)
  · obtain ⟨p1, hp1, e⟩ := h p0 hp0
    rw [← e]
    exact h2.2.2.2.2.2 p1 (List.mem_append_right _ hp1)
section
variable {W : WX} {X : Cx} {e : Expr} {wi : WI} {pos p : Pos} {kk : Nat} {nm : Str}
end
end DL

set_option Elab.async false
set_option linter.all false
set_option maxRecDepth 100000
set_option maxHeartbeats 4000000
set_option autoImplicit false
/-! A comprehension over a generator that walks another one. -/
namespace DL
open PySem PySem.Spec PyProof.Rows L2 GenW
structure RestE (X : Cx) (N : List Str) (env : Env) (a gn : Nat) (go : Obj) (pins : List (Addr × Obj)) (E : Ext) (ys : List D) (Z : Addr → Prop) (m : List Addr) (H : Hp) (s : Shared) : Prop where
  ex : ∃ lo gs, s.heap.get? env.locals = some lo ∧ (∀ v, lo.data ≠ .cell v) ∧ s.heap.get? a = some go ∧ H env.locals = none ∧ H a = none ∧ s.gens[gn]? = some gs ∧ ExtAt (gw X N env) a gn X pins Z m H s E ∧ GenP1 (gw X N env) a gn go ys E lo gs
section
variable {X : Cx} {N : List Str} {env : Env} {a gn : Nat} {go : Obj} {pins : List (Addr × Obj)} {E : Ext} {ys : List D} {Z Z' : Addr → Prop} {m m' : List Addr} {H H' : Hp} {s s' : Shared} {σ σ' : L2.St}
theorem RestE.pin (R : RestE X N env a gn go pins E ys Z m H s) (gc : ∀ v, go.data ≠ .cell v) (I : Inv X pins σ H s) (fL : FpOk X pins H env.locals) (fa : FpOk X pins H a) : Inv X (pins ++ (pinsAt [a, env.locals] s.heap ++ E.px)) σ H s := by
  obtain ⟨lo, gs, elo, lc, ego, hL, ha, egs, xt, gp⟩ := R.ex
  refine I.pins_of fun p hp => ?_
  rcases List.mem_append.mp hp with hp | hp
  · exact I.pin p (List.mem_append_right _ hp)
  rcases List.mem_append.mp hp with hp | hp
  · obtain ⟨hm, e⟩ := of_pinsAt hp
    rcases List.mem_cons.mp hm with z | hm
    · rw [z] at e ⊢
      rw [ego] at e
      exact ⟨by rw [ego]; exact e, fa.1, fa.2.1, fa.2.2.1, fun v => by rw [← Option.some.inj e]; exact gc v⟩
    · have z := List.mem_singleton.mp hm
      rw [z] at e ⊢
      rw [elo] at e
      exact ⟨by rw [elo]; exact e, fL.1, fL.2.1, fL.2.2.1, fun v => by rw [← Option.some.inj e]; exact lc v⟩
  · obtain ⟨h1, h2, h3, _⟩ := xt.px p hp
    exact ⟨h1, h2.1, h2.2.1, h2.2.2.1, h3⟩
theorem RestE.after (R : RestE X N env a gn go pins E ys Z m H s) (I : Inv X (pins ++ (pinsAt [a, env.locals] s.heap ++ E.px)) σ' H' s') (hg : s'.gens[gn]? = s.gens[gn]?) (hx : ∀ q ∈ E.sx, s'.gens[q.1]? = some q.2) (pre : m <+: m') (same : Same (vis Z m H) (vis Z' m' H')) :
    Rest1 X N env a gn go pins ys Z' m' H' s' := by
  obtain ⟨lo, gs, elo, lc, ego, hL, ha, egs, xt, gp⟩ := R.ex
  have at_ : ∀ p ∈ pinsAt [a, env.locals] s.heap ++ E.px, s'.heap.get? p.1 = some p.2 ∧ H' p.1 = none := fun p hp => let z := I.pin p (List.mem_append_right _ (List.mem_append_right _ hp)); ⟨z.1, z.2.1⟩
  have p1 := at_ (env.locals, lo) (List.mem_append_left _ (mem_pinsAt (by simp) elo))
  have p2 := at_ (a, go) (List.mem_append_left _ (mem_pinsAt (by simp) ego))
  have eg := hg.trans egs
  exact ⟨lo, gs, E, p1.1, lc, p2.1, p1.2, p2.2, eg, ⟨fun p hp => ⟨(at_ p (List.mem_append_right _ hp)).1, ⟨(at_ p (List.mem_append_right _ hp)).2, (xt.px p hp).2.1.2⟩, (xt.px p hp).2.2⟩, fun q hq => ⟨hx q hq, (xt.sx q hq).2⟩, (Array.getElem?_eq_some_iff.mp eg).1, xt.pre.trans pre, xt.same.trans same⟩, gp⟩
end
section
variable {W : WX} {X : Cx} {elt tg iter : Expr} {ifs : List Expr} {scope : Scope} {own : List (Str × Nat)} {pos pos' : Pos} {wi : WI} {g : L2.TG} {k : WG} {tt : WT} {te : WE} {kk : Nat}
end
end DL

set_option Elab.async false
set_option linter.all false
set_option maxRecDepth 100000
set_option maxHeartbeats 4000000
set_option autoImplicit false
/-! Generator methods by name; frames. -/
namespace DL
open PySem PySem.Spec PyProof.Rows L2 GenW
structure GenM (P : Program) (w : World) (K : PySem.W.Frag) (mg : Str → Option Value) (base : Heap) (k : Nat) (c m : Str) (ps : List Str) (sp : GSp) : Prop where
  ex : ∃ C f fd, mg c = some (.ref C) ∧ Cls K C ∧ Meth K C m f ∧ Binds K fd ps [] ∧ GenD1 P w K mg base k f fd ps sp
section
variable {W : WX} {X : Cx} {e o : Expr} {es : List Expr} {wo : WE} {ws : WA} {pos apos : Pos} {k j : Nat} {ps : List Str} {sp : GSp} {c m : Str}
end
section
variable {W : WX} {X : Cx} {e : Expr} {wi : WI} {pos p : Pos} {kk j : Nat} {nm : Str}
end
section
variable {W : WX} {X : Cx} {elt tg iter : Expr} {ifs : List Expr} {scope : Scope} {own : List (Str × Nat)} {pos : Pos} {wi : WI} {g : L2.TG} {k : WG} {tt : WT} {te : WE} {kk j : Nat}
end
section
variable {g : GE} {body : List Stmt} {tb : TGen} {pos : Pos} {tg iter : Expr} {wi : WI} {gW : WG} {kk j : Nat}
end
/-! ### frames -/
def KGM2 (sp : GSp) (x : D) (Q : List D → Mu → Prop) : List D → Mu → Prop := fun ds μ => ∃ ys, sp (x :: ds) ys ∧ Q ys μ
def KGM1 (c m : Str) (sp : GSp) (wa : WA) (ρ : DS) (Q : List D → Mu → Prop) (Xd : XD) : D → Mu → Prop := fun x μ1 => hasCls c m x μ1 (wa ρ μ1 (KGM2 sp x Q) Xd)
theorem g_genm {c m : Str} {sp : GSp} {wo : WE} {wa : WA} {ρ : DS} {μ : Mu} {Q : List D → Mu → Prop} {Xd : XD} : wGenM c m sp wo wa ρ μ Q Xd = wo ρ μ (KGM1 c m sp wa ρ Q Xd) Xd := propext Iff.rfl
theorem g_genm1 {c m : Str} {sp : GSp} {wa : WA} {x : D} {ρ : DS} {μ : Mu} {Q : List D → Mu → Prop} {Xd : XD} : KGM1 c m sp wa ρ Q Xd x μ = hasCls c m x μ (wa ρ μ (KGM2 sp x Q) Xd) := propext Iff.rfl
end DL

set_option Elab.async false
set_option linter.all false
set_option maxRecDepth 100000
set_option maxHeartbeats 4000000
set_option autoImplicit false
/-! Ordinary loops and tests that hold a yield. -/
namespace DL
open PySem PySem.Spec PyProof.Rows L2 GenW
open Sem (wp)
/-! ### a test may leave cells behind: they are forgotten -/
section
variable {g : GE} {body : List Stmt} {tb : TGen} {pos : Pos} {tg iter : Expr} {wi : WI} {gW : WG}
end
end DL

set_option Elab.async false
set_option linter.all false
set_option maxRecDepth 100000
set_option maxHeartbeats 4000000
set_option autoImplicit false
/-! Generators that hand out things which can be changed (cells). -/
namespace DL
open PySem PySem.Spec PyProof.Rows L2 GenW
open Sem (wp)
/-- what is handed out: where so many cells stand, a datum and the cells that come with it -/
structure GI where
  dat : Nat → D
  cel : Nat → Mu
structure GDC where
  nx : List GI → DS → Prop
abbrev TGC := GDC → List GI → DS → Prop
abbrev GSpC := List D → List GI → Prop
def AftYC (g : GE) (a gn : Nat) (go : Obj) (k : Wk) (y : GI) (P : Ext → Obj → GenState → Prop) (e : End) (s1 : Shared) : Prop :=
  ∃ v gd l kk c p fs x m' H' lo' E', e = .susp v gd l kk c p fs ∧ e.quiet = true ∧ RelV x v ∧ Inv k.X k.pins k.σ H' s1 ∧ Step g.gx k.Z k.m k.H m' (k.μ ++ y.cel k.μ.length) H' ∧ Rep g.gx m' (vis k.Z m' H') (y.dat k.μ.length) x ∧ s1.heap.get? g.L = some lo' ∧ (∀ v, lo'.data ≠ .cell v) ∧ s1.heap.get? a = some go ∧
    H' g.L = none ∧ H' a = none ∧ ExtAt g a gn k.X k.pins k.Z m' H' s1 E' ∧ P E' lo' e.genState
def GenPC (g : GE) (a gn : Nat) (go : Obj) : List GI → Ext → Obj → GenState → Prop
  | [], E, lo, gs => ∀ k : Wk, Cons g a go k.X k.pins k.σ k.H k.Z k.m k.μ k.s lo → ExtAt g a gn k.X k.pins k.Z k.m k.H k.s E → GoesS (model g.prog g.w) g.A gs (AftE g a go k) k.s
  | d :: ds, E, lo, gs => ∀ k : Wk, Cons g a go k.X k.pins k.σ k.H k.Z k.m k.μ k.s lo → ExtAt g a gn k.X k.pins k.Z k.m k.H k.s E → GoesS (model g.prog g.w) g.A gs (AftYC g a gn go k d (GenPC g a gn go ds)) k.s
def FinPC (g : GE) (a gn : Nat) (go : Obj) (k : Wk) : List GI → End → Shared → Prop
  | [] => AftE g a go k
  | d :: ds => AftYC g a gn go k d (GenPC g a gn go ds)
def GoesC (g : GE) (a gn : Nat) (go : Obj) (E : Ext) (D0 : GDC) (c : Code) (fs : List Frame) (K : Flow → Sem PySem.Fin) : Prop :=
  ∀ (k : Wk) (ds : List GI) (ρ : DS) (s : Shared), RunG1 g a gn go E k ρ s → D0.nx ds ρ → Sg (model g.prog g.w) g.A (FinPC g a gn go k ds) c (K .next) fs s
structure GStC (g : GE) (P : Ext → Prop) (st : Stmt) (t : TGC) : Prop where
  run : ∀ (E : Ext), P E → ∀ (a gn : Nat) (go : Obj) (c : Code) (fs : List Frame) (K : Flow → Sem PySem.Fin) (J : Value → Sem PySem.Fin) (gd : Bool → Bool) (lv : List Value → List Value) (D0 : GDC), At g c fs gd → GoesC g a gn go E D0 c fs K →
    ∀ (k : Wk) (ds : List GI) (ρ : DS) (s : Shared), RunG1 g a gn go E k ρ s → t D0 ds ρ → Sg (model g.prog g.w) g.A (FinPC g a gn go k ds) c ((exec st g.env).wrap K J gd lv) fs s
structure GStsC (g : GE) (P : Ext → Prop) (sts : List Stmt) (t : TGC) : Prop where
  run : ∀ (E : Ext), P E → ∀ (a gn : Nat) (go : Obj) (c : Code) (fs : List Frame) (K : Flow → Sem PySem.Fin) (J : Value → Sem PySem.Fin) (gd : Bool → Bool) (lv : List Value → List Value) (D0 : GDC), At g c fs gd → GoesC g a gn go E D0 c fs K →
    ∀ (k : Wk) (ds : List GI) (ρ : DS) (s : Shared), RunG1 g a gn go E k ρ s → t D0 ds ρ → Sg (model g.prog g.w) g.A (FinPC g a gn go k ds) c ((execs sts g.env).wrap K J gd lv) fs s
section
variable {g : GE} {P : Ext → Prop} {st : Stmt} {rest body : List Stmt} {t u : TGC} {pos : Pos}
end
section
variable {g : GE} {body : List Stmt} {tb : TGC} {pos : Pos} {tg iter : Expr} {wi : WI} {gW : WG}
end
end DL

set_option Elab.async false
set_option linter.all false
set_option maxRecDepth 100000
set_option maxHeartbeats 4000000
set_option autoImplicit false
namespace DL
open PySem PySem.Spec PyProof.Rows L2 GenW

open Sem (wp)
/-- for whoever wakes it: the data -/
def GivesC (kk : Nat) (fr : List Env) (g : GE) (a gn : Nat) (go lo : Obj) (gs : GenState) (ys : List GI) (m : List Addr) (E0 : Hp) : Prop :=
  ∀ A : Around, Room kk A → A.guards = some [] → A.frames = some fr → (g.wake A).Ok ∧ GenPC (g.wake A) a gn go ys ⟨[], [], m, E0⟩ lo gs
structure GenDC (P : Program) (w : World) (K : PySem.W.Frag) (mg : Str → Option Value) (base : Heap) (k : Nat) (f : Addr) (fd : FuncData) (ps : List Str) (sp : GSpC) : Prop where
  len : ∀ ds ys, sp ds ys → ds.length = ps.length
  run : ∀ (A : Around) (fr : List Env) (s : Shared) (H : Hp) (args : Args) (us : List Value) (vs : List V) (Z : Addr → Prop) (m : List Addr) (μ : Mu) (ds : List D) (ys : List GI), Room k A → A.guards = some [] → Env0 P w K mg base A fr s H → BindsTo s fd args (ps.zip us) → Vals vs us →
    MuOk ⟨K, mg, none⟩ Z m μ H → Reps ⟨K, mg, none⟩ m (vis Z m H) ds vs → sp ds ys →
    codeAny (model P w) A (.call (.ref f) args) (fun r s' => ∃ g a gn go lo gs, r = .ok (.ret (.ref a)) ∧ Born P w K mg base k fr g a gn go lo gs H s s' ∧ GivesC k fr g a gn go lo gs ys m (vis Z m H)) s
abbrev WIG := DS → Mu → (List GI → Mu → Prop) → XD → Prop
structure DGnC (W : WX) (X : Cx) (kk : Nat) (e : Expr) (wi : WIG) : Prop where
  run : ∀ (pins : List (Addr × Obj)) (s : Shared) (σ : L2.St) (H : Hp) (Z : Addr → Prop) (m : List Addr) (ρ : DS) (μ : Mu) (Q : List GI → Mu → Prop) (Xd : XD), Inv X pins σ H s → SR (gx0 X) Z m σ H ρ μ → wi ρ μ Q Xd →
    (∀ cls d H', XPost (gx0 X) (ownW Z σ ρ) m H Xd cls d H' → W cls d σ H') →
    wpAny (model X.prog X.w) X.A (eval e X.env) (fun v s2 => ∃ g a gn go lo gs ys s1 H1 m1 μ1, v = .ref a ∧ Inv X pins σ H1 s1 ∧ Born X.prog X.w X.K X.mg X.base kk X.stack g a gn go lo gs H1 s1 s2 ∧ Step (gx0 X) (ownW Z σ ρ) m H m1 μ1 H1 ∧
      GivesC kk X.stack g a gn go lo gs ys m1 (vis (ownW Z σ ρ) m1 H1) ∧ Q ys μ1) X.xe s
section
variable {W : WX} {X : Cx} {e o : Expr} {es : List Expr} {wo : WE} {ws : WA} {pos apos : Pos} {k : Nat} {f C : Addr} {fd : FuncData} {ps : List Str} {sp : GSpC} {c mn x : Str} {p : Pos}
/-- g() by name -/
def wGenC0 (sp : GSpC) : WIG := fun _ μ Q _ => ∃ ys, sp [] ys ∧ Q ys μ
end
end DL

set_option Elab.async false
set_option linter.all false
set_option maxRecDepth 100000
set_option maxHeartbeats 4000000
set_option autoImplicit false
/-! list(g()) of a generator that hands out cells. -/
namespace DL
open PySem PySem.Spec PyProof.Rows L2 GenW
def dats : List GI → Nat → List D
  | [], _ => []
  | y :: ys, n => y.dat n :: dats ys (n + (y.cel n).length)
def cels : List GI → Nat → Mu
  | [], _ => []
  | y :: ys, n => y.cel n ++ cels ys (n + (y.cel n).length)
def wLoGC (wi : WIG) : WE := fun ρ μ Q Xd => wi ρ μ (fun ys μ1 => ys.length ≤ 1000000 ∧ Q (.lst (dats ys μ1.length)) (μ1 ++ cels ys μ1.length)) Xd
structure RestC (X : Cx) (N : List Str) (env : Env) (a gn : Nat) (go : Obj) (pins : List (Addr × Obj)) (ys : List GI) (Z : Addr → Prop) (m : List Addr) (H : Hp) (s : Shared) : Prop where
  ex : ∃ lo gs E, s.heap.get? env.locals = some lo ∧ (∀ v, lo.data ≠ .cell v) ∧ s.heap.get? a = some go ∧ H env.locals = none ∧ H a = none ∧ s.gens[gn]? = some gs ∧ ExtAt (gw X N env) a gn X pins Z m H s E ∧ GenPC (gw X N env) a gn go ys E lo gs
/-- pins at the same places -/
theorem RestC.pins {X : Cx} {N : List Str} {env : Env} {a gn : Nat} {go : Obj} {pins pins' : List (Addr × Obj)} {ys : List GI} {Z : Addr → Prop} {m : List Addr} {H : Hp} {s : Shared} (R : RestC X N env a gn go pins ys Z m H s) (h : ∀ p ∈ pins', ∃ p0 ∈ pins, p0.1 = p.1) : RestC X N env a gn go pins' ys Z m H s := by
  obtain ⟨lo, gs, E, q1, q2, q3, q4, q5, q6, q7, q8⟩ := R.ex
  refine ⟨lo, gs, E, q1, q2, q3, q4, q5, q6, ⟨fun p hp => ?_, q7.sx, q7.gn, q7.pre, q7.same⟩, q8⟩
  obtain ⟨h1, h2, h3⟩ := q7.px p hp
  refine ⟨h1, ⟨h2.1, h2.2.1, h2.2.2.1, h2.2.2.2.1, h2.2.2.2.2.1, fun p0 hp0 => ?_⟩, h3⟩
  rcases List.mem_append.mp hp0 with hp0 | hp0
  · exact h2.2.2.2.2.2 p0 (List.mem_append_left _ hp0)
  · obtain ⟨p1, hp1, e⟩ := h p0 hp0
    rw [← e]
    exact h2.2.2.2.2.2 p1 (List.mem_append_right _ hp1)
section
variable {W : WX} {X : Cx} {e : Expr} {wi : WIG} {pos p : Pos} {kk : Nat} {nm : Str}
end
end DL

set_option Elab.async false
set_option linter.all false
set_option maxRecDepth 100000
set_option maxHeartbeats 4000000
set_option autoImplicit false
/-! A generator of cells by its name, called without arguments; list() of it; frames. -/
namespace DL
open PySem PySem.Spec PyProof.Rows L2 GenW
structure GenCC (P : Program) (w : World) (K : PySem.W.Frag) (mg : Str → Option Value) (base : Heap) (k : Nat) (x : Str) (ps : List Str) (sp : GSpC) : Prop where
  ex : ∃ f fd, mg x = some (.ref f) ∧ PySem.W.keepIn K (.ref f) = true ∧ Binds K fd ps [] ∧ GenDC P w K mg base k f fd ps sp
section
variable {W : WX} {X : Cx} {pos p : Pos} {k j kk : Nat} {ps : List Str} {sp : GSpC} {x nm : Str} {e : Expr} {wi : WIG}
end
/-! ### frames -/
theorem g_logC {sp : GSpC} {ρ : DS} {μ : Mu} {Q : D → Mu → Prop} {Xd : XD} : wLoGC (wGenC0 sp) ρ μ Q Xd = ∃ ys, sp [] ys ∧ ys.length ≤ 1000000 ∧ Q (.lst (dats ys μ.length)) (μ ++ cels ys μ.length) := propext Iff.rfl
end DL

set_option Elab.async false
set_option linter.all false
set_option maxRecDepth 100000
set_option maxHeartbeats 4000000
set_option autoImplicit false
/-! f(a, .., k = v, ..) -/
namespace DL
open PySem PySem.Spec PyProof.Rows L2
/-- how the values lie: written ones, keywords' ones -/
def GOk (gD : List D → List D → List D) (gV : List V → List V → List V) : Prop := ∀ {G : Gx} {m : List Addr} {E : Hp} {ds zs : List D} {vs ws : List V}, Reps G m E ds vs → Reps G m E zs ws → Reps G m E (gD ds zs) (gV vs ws)
/-- a def called with n written values and keywords ks -/
structure KwC (P : Program) (w : World) (K : PySem.W.Frag) (mg : Str → Option Value) (base : Heap) (k : Nat) (x : Str) (ps : List Str) (n : Nat) (ks : List Str) (gD : List D → List D → List D) (sp : DSp) : Prop where
  ex : ∃ f fd g gV, mg x = some (.ref f) ∧ PySem.W.keepIn K (.ref f) = true ∧ KBn K fd ps n ks g gV ∧ GOk gD gV ∧ FnG P w K mg base k f fd ps (toSp ⟨K, mg, none⟩ sp)
def wKw (n m : Nat) (gD : List D → List D → List D) (sp : DSp) (wa wz : WA) : WE := fun ρ μ Q Xd => wa ρ μ (fun ds μ1 => wz ρ μ1 (fun zs μ2 => ds.length = n ∧ zs.length = m ∧ sp (gD ds zs) μ2 Q Xd) Xd) Xd
abbrev DK (ex : Option (Addr × Addr × Addr)) (W : WX) (X : Cx) (kws : List Keyword) (w : WA) : Prop := PK X kws (liftA (gx X ex) W w)
section
variable {ex : Option (Addr × Addr × Addr)} {W : WX} {X : Cx} {e : Expr} {es : List Expr} {kws : List Keyword} {wa : WE} {ws wz : WA} {pos p : Pos} {nm : Option Str} {kpos : Pos} {k n : Nat} {x : Str} {ps ks : List Str} {sp : DSp} {gD : List D → List D → List D}
def wKw0 (n : Nat) (gD : List D → List D → List D) (sp : DSp) (wa : WA) : WE := fun ρ μ Q Xd => wa ρ μ (fun ds μ1 => ds.length = n ∧ sp (gD ds []) μ1 Q Xd) Xd
end
section
variable {gD : List D → List D → List D} {sp : DSp} {wa wz : WA} {n k : Nat} {ρ : DS} {μ : Mu} {Q : D → Mu → Prop} {Xd : XD}
def KKw1 (n m : Nat) (gD : List D → List D → List D) (sp : DSp) (wz : WA) (ρ : DS) (Q : D → Mu → Prop) (Xd : XD) : List D → Mu → Prop := fun ds μ1 => wz ρ μ1 (fun zs μ2 => ds.length = n ∧ zs.length = m ∧ sp (gD ds zs) μ2 Q Xd) Xd
def KKw2 (n m : Nat) (gD : List D → List D → List D) (sp : DSp) (ds : List D) (Q : D → Mu → Prop) (Xd : XD) : List D → Mu → Prop := fun zs μ2 => ds.length = n ∧ zs.length = m ∧ sp (gD ds zs) μ2 Q Xd
def KKw0 (n : Nat) (gD : List D → List D → List D) (sp : DSp) (Q : D → Mu → Prop) (Xd : XD) : List D → Mu → Prop := fun ds μ1 => ds.length = n ∧ sp (gD ds []) μ1 Q Xd
theorem r_kw {m : Nat} : wKw n m gD sp wa wz ρ μ Q Xd = wa ρ μ (KKw1 n m gD sp wz ρ Q Xd) Xd := propext Iff.rfl
theorem r_kw1 {m : Nat} {ds : List D} : KKw1 n m gD sp wz ρ Q Xd ds μ = wz ρ μ (KKw2 n m gD sp ds Q Xd) Xd := propext Iff.rfl
theorem r_kw2 {m : Nat} {ds zs : List D} : KKw2 n m gD sp ds Q Xd zs μ = (ds.length = n ∧ zs.length = m ∧ sp (gD ds zs) μ Q Xd) := propext Iff.rfl
theorem r_kw0 : wKw0 n gD sp wa ρ μ Q Xd = wa ρ μ (KKw0 n gD sp Q Xd) Xd := propext Iff.rfl
theorem r_kw00 {ds : List D} : KKw0 n gD sp Q Xd ds μ = (ds.length = n ∧ sp (gD ds []) μ Q Xd) := propext Iff.rfl
end
end DL

set_option Elab.async false
set_option linter.all false
set_option maxRecDepth 100000
set_option maxHeartbeats 4000000
set_option autoImplicit false
/-! a, b = [], []: both lists of the def's own. -/
namespace DL
open PySem PySem.Spec PyProof.Rows L2
def sPar2OO (i j : Nat) : WS := fun E ρ μ => (i < ρ.length ∧ j < ρ.length) ∧ ∀ p1 p2, E.nx ((ρ.set i (.own p1 (.lst []))).set j (.own p2 (.lst []))) μ
theorem y_oo {i j : Nat} {E : DEnds} {ρ : DS} {μ : Mu} : sPar2OO i j E ρ μ = ((i < ρ.length ∧ j < ρ.length) ∧ ∀ p1 p2, E.nx ((ρ.set i (.own p1 (.lst []))).set j (.own p2 (.lst []))) μ) := propext Iff.rfl
/-! ### a target self.f, self the thing that is being made -/
section
variable {X : Cx} {o : Expr} {to : TE} {f : Str} {pos p0 : Pos}
def kFldO (c : Str) (i : Nat) (f : Str) : WG := fun d ρ μ Q => putOwnI c i f d ρ fun ρ1 => Q ρ1 μ
/-- self.f, self the thing that is being made -/
def ofld (c f : Str) (o : Option Sl) (k : D → Prop) : Prop := match o with
  | some (.own _ (.ins c' ks ds)) => c' = c ∧ match fldOf f ks ds with
    | some d => k d
    | none => False
  | _ => False
def wOwnFld (c : Str) (i : Nat) (f : Str) : WE := fun ρ μ Q _ => ofld c f (ρ[i]?) fun d => Q d μ
end
end DL

set_option Elab.async false
set_option linter.all false
set_option maxRecDepth 100000
set_option maxHeartbeats 2000000
set_option autoImplicit false
/-! Frames: a target self.f. -/
namespace DL
open PySem PySem.Spec PyProof.Rows L2
def KOQ (Q : DS → Mu → Prop) (μ : Mu) : DS → Prop := fun ρ => Q ρ μ
theorem y_foq {ρ : DS} {μ : Mu} {Q : DS → Mu → Prop} : KOQ Q μ ρ = Q ρ μ := propext Iff.rfl
theorem y_fo {c : Str} {i : Nat} {f : Str} {d : D} {ρ : DS} {μ : Mu} {Q : DS → Mu → Prop} : kFldO c i f d ρ μ Q = KPut c i f d ρ (KOQ Q μ) (ρ[i]?) := by
  unfold kFldO putOwnI KPut
  exact propext Iff.rfl
def KOF (c f : Str) (o : Option Sl) (Q : D → Mu → Prop) (μ : Mu) : Prop := match o with
  | some (.own _ (.ins c' ks ds)) => c' = c ∧ KFld2 (fldOf f ks ds) μ Q
  | _ => False
theorem y_of {c : Str} {i : Nat} {f : Str} {ρ : DS} {μ : Mu} {Q : D → Mu → Prop} {Xd : XD} : wOwnFld c i f ρ μ Q Xd = KOF c f (ρ[i]?) Q μ := by
  unfold wOwnFld ofld KOF KFld2
  exact propext Iff.rfl
theorem y_of2 {c c' f : Str} {a : Addr} {ks : List Str} {ds : List D} {μ : Mu} {Q : D → Mu → Prop} : KOF c f (some (.own a (.ins c' ks ds))) Q μ = (c' = c ∧ KFld2 (fldOf f ks ds) μ Q) := propext Iff.rfl
end DL

set_option Elab.async false
set_option linter.all false
set_option maxRecDepth 100000
set_option maxHeartbeats 4000000
set_option autoImplicit false
namespace DL
open PySem PySem.Spec PyProof.Rows L2
/-! ### x.m() in an except suite: a method that gets data only and raises nothing -/
abbrev YSp := List D → Mu → (D → Mu → Prop) → Prop
def toSpY (K : PySem.W.Frag) (mg : Str → Option Value) (sp : YSp) (vs : List V) (H : Hp) (Q : VK) : Prop :=
  ∃ (Z : Addr → Prop) (m : List Addr) (μ : Mu) (ds : List D) (Qd : D → Mu → Prop), MuOk ⟨K, mg, none⟩ Z m μ H ∧ Reps ⟨K, mg, none⟩ m (vis Z m H) ds vs ∧ sp ds μ Qd ∧ ∀ v H', VPost ⟨K, mg, none⟩ Z m H Qd v H' → Q v H'
structure FnY (P : Program) (wd : World) (K : PySem.W.Frag) (mg : Str → Option Value) (bs : Heap) (k : Nat) (f : Addr) (fd : FuncData) (ps : List Str) (sp : YSp) : Prop where
  len : ∀ ds μ Q, sp ds μ Q → ds.length = ps.length
  run : ∀ (A : Around) (fr : List Env) (s : Shared) (H : Hp) (args : Args) (us : List Value) (vs : List V) (a : Addr) (oe : Obj) (Q : VK), L2H.RoomH k A → A.guards = some [] → A.handled = some (.ref a) → L2H.PinOk fr H s (a, oe) →
    Env0 P wd K mg bs A fr s H → BindsTo s fd args (ps.zip us) → Vals vs us → toSpY K mg sp vs H Q → codeAny (model P wd) A (.call (.ref f) args) (CR (L2.CX P wd) fr P wd H s Q (fun _ _ _ => False)) s
section
variable {P : Program} {w : World} {K : PySem.W.Frag} {mg : Str → Option Value} {base : Heap}
structure MethY (P : Program) (w : World) (K : PySem.W.Frag) (mg : Str → Option Value) (base : Heap) (k : Nat) (c m : Str) (ps : List Str) (sp : YSp) : Prop where
  ex : ∃ C f fd, mg c = some (.ref C) ∧ Cls K C ∧ Meth K C m f ∧ Binds K fd ps [] ∧ FnY P w K mg base k f fd ps sp
end
section
variable {X : Cx} {a : Addr} {oe : Obj} {cls : Value} {d : Option Addr} {pn : List (Addr × Obj)} {pos apos : Pos} {o : Expr} {wo : WE} {c m : Str} {j k : Nat} {ps : List Str} {sp : YSp}
end
end DL

set_option Elab.async false
set_option linter.all false
set_option maxRecDepth 100000
set_option maxHeartbeats 4000000
set_option autoImplicit false
namespace DL
open PySem PySem.Spec PyProof.Rows L2
/-! ### a dict of the def's own, from ints to ints -/
def putI (kvs : List (Int × Int)) (k v : Int) : List (Int × Int) := if (kvs.any fun p => decide (p.1 = k)) = true then kvs.map (fun p => if p.1 = k then (p.1, v) else p) else kvs ++ [(k, v)]
def sNewD (i : Nat) : WS := fun E ρ μ => i < ρ.length ∧ ∀ p, E.nx (ρ.set i (.own p (.dct []))) μ
def KPutD (i : Nat) (p : Addr) (kvs : List (Int × Int)) (E : DEnds) (ρ : DS) (d : D) : D → Mu → Prop := fun y μ2 => ∃ k v, y = .int k ∧ d = .int v ∧ kvs.length < 1000 ∧ E.nx (ρ.set i (.own p (.dct (putI kvs k v)))) μ2
section
variable {ex : Option (Addr × Addr × Addr)} {W : WX} {X : Cx} {e ix value tg : Expr} {wi wv w : WE} {pos pos' p0 lp : Pos} {i : Nat} {x : Str}
end
section
variable {ex : Option (Addr × Addr × Addr)} {W : WX} {X : Cx} {e : Expr} {w : WE} {i : Nat}
end
end DL

set_option Elab.async false
set_option linter.all false
set_option maxRecDepth 100000
set_option maxHeartbeats 4000000
set_option autoImplicit false
namespace DL
open PySem PySem.Spec PyProof.Rows L2
/-! frames -/
section
variable {ρ : DS} {μ : Mu} {Q : D → Mu → Prop} {Xd : XD} {E : DEnds} {i : Nat} {wi wv w : WE}
theorem r_newD : sNewD i E ρ μ = (i < ρ.length ∧ ∀ p, E.nx (ρ.set i (.own p (.dct []))) μ) := propext Iff.rfl
def KPutD0 (i : Nat) (wi : WE) (p : Addr) (kvs : List (Int × Int)) (E : DEnds) (ρ : DS) : D → Mu → Prop := fun d μ1 => wi ρ μ1 (KPutD i p kvs E ρ d) (KX E ρ)
theorem r_put0 {p : Addr} {kvs : List (Int × Int)} {d : D} : KPutD0 i wi p kvs E ρ d μ = wi ρ μ (KPutD i p kvs E ρ d) (KX E ρ) := propext Iff.rfl
end
end DL

set_option Elab.async false
set_option linter.all false
set_option maxRecDepth 100000
set_option maxHeartbeats 4000000
set_option autoImplicit false
namespace DL
open PySem PySem.Spec PyProof.Rows L2
/-! an empty dict, as a datum; x.m() in a def that gets the caught exception -/
section
variable {ex : Option (Addr × Addr × Addr)} {W : WX} {X : Cx} {pos : Pos}
end
section
variable {X : Cx} {a : Addr} {oe : Obj} {cls : Value} {d : Option Addr} {pn : List (Addr × Obj)} {pos apos : Pos} {o : Expr} {wo : WE} {c m : Str} {j k : Nat} {ps : List Str} {sp : YSp}
end
end DL

set_option Elab.async false
set_option linter.all false
set_option maxRecDepth 100000
set_option maxHeartbeats 4000000
set_option autoImplicit false
/-! list == data, where the list may be a cell of plain data. -/
namespace DL
open PySem PySem.Spec PyProof.Rows L2
section
variable {ex : Option (Addr × Addr × Addr)} {W : WX} {X : Cx} {a b : Expr} {wa wb : WE} {pos : Pos}
end
/-! is True, is not False -/
def fIsB : F2 := fun x y μ Q => ∃ a b, x = .bl a ∧ y = .bl b ∧ Q (.bl (decide (a = b))) μ
def fNotB : F2 := fun x y μ Q => ∃ a b, x = .bl a ∧ y = .bl b ∧ Q (.bl (!decide (a = b))) μ
theorem r_isb {a b : Bool} {μ : Mu} {Q : D → Mu → Prop} : fIsB (.bl a) (.bl b) μ Q = Q (.bl (decide (a = b))) μ :=
  propext ⟨fun ⟨x, y, e1, e2, q⟩ => by cases e1; cases e2; exact q, fun q => ⟨a, b, rfl, rfl, q⟩⟩
theorem r_notb {a b : Bool} {μ : Mu} {Q : D → Mu → Prop} : fNotB (.bl a) (.bl b) μ Q = Q (.bl (!decide (a = b))) μ :=
  propext ⟨fun ⟨x, y, e1, e2, q⟩ => by cases e1; cases e2; exact q, fun q => ⟨a, b, rfl, rfl, q⟩⟩
end DL

set_option Elab.async false
set_option linter.all false
set_option maxRecDepth 100000
set_option maxHeartbeats 4000000
set_option autoImplicit false
/-! Calls with all arguments by names: f(a = .., b = ..), C(a = ..), o.m(a = ..), o(a = ..). -/
namespace DL
open PySem PySem.Spec PyProof.Rows L2
/-- in the order of the parameters -/
def perm {α : Type} : List Nat → List α → List α
  | [], _ => []
  | i :: is, ws => match ws[i]? with
    | some x => x :: perm is ws
    | none => perm is ws
/-- a def whose n first values are written by position (the instance), the others by names -/
structure KwB (K : PySem.W.Frag) (fd : FuncData) (ps : List Str) (n : Nat) (ks : List Str) (pi : List Nat) : Prop where
  to : ∀ (s : Shared) (us ws : List Value), us.length = n → ws.length = ks.length → BindsTo s fd ⟨us, ks.zip ws⟩ (ps.zip (us ++ perm pi ws))
structure KwCallD (P : Program) (w : World) (K : PySem.W.Frag) (mg : Str → Option Value) (base : Heap) (k : Nat) (x : Str) (ps ks : List Str) (pi : List Nat) (sp : DSp) : Prop where
  ex : ∃ f fd, mg x = some (.ref f) ∧ PySem.W.keepIn K (.ref f) = true ∧ KwB K fd ps 0 ks pi ∧ FnG P w K mg base k f fd ps (toSp ⟨K, mg, none⟩ sp)
structure KwMakeD (P : Program) (w : World) (K : PySem.W.Frag) (mg : Str → Option Value) (base : Heap) (k : Nat) (c : Str) (ps ks : List Str) (pi : List Nat) (sp : ISp) : Prop where
  ex : ∃ C f fd, mg c = some (.ref C) ∧ Mk K C f ∧ KwB K fd ps 1 ks pi ∧ FnG P w K mg base k f fd ps (toSpI ⟨K, mg, none⟩ c sp)
structure KwMethD (P : Program) (w : World) (K : PySem.W.Frag) (mg : Str → Option Value) (base : Heap) (k : Nat) (c m : Str) (ps ks : List Str) (pi : List Nat) (sp : DSp) : Prop where
  ex : ∃ C f fd, mg c = some (.ref C) ∧ Cls K C ∧ Meth K C m f ∧ KwB K fd ps 1 ks pi ∧ FnG P w K mg base k f fd ps (toSp ⟨K, mg, none⟩ sp)
structure KwSpcD (P : Program) (w : World) (K : PySem.W.Frag) (mg : Str → Option Value) (base : Heap) (k : Nat) (cs : List Str) (nm : Str) (ps ks : List Str) (pi : List Nat) (sp : DSp) : Prop where
  ex : ∃ f fd, PySem.W.isFn K (.ref f) = true ∧ PySem.W.fnIn K f = true ∧ (∀ c ∈ cs, ∃ C, mg c = some (.ref C) ∧ PySem.W.findIn K (.ref C) nm = some (some (.ref f)) ∧ PySem.W.noSeq K C = true) ∧ KwB K fd ps 1 ks pi ∧ FnG P w K mg base k f fd ps (toSp ⟨K, mg, none⟩ sp)
def wPm (pi : List Nat) (wz : WA) : WA := fun ρ μ Q Xd => wz ρ μ (fun zs μ1 => zs.length = pi.length ∧ Q (perm pi zs) μ1) Xd
section
variable {W : WX} {X : Cx} {o : Expr} {wo : WE} {kws : List Keyword} {wz : WA} {pos p apos : Pos} {k j : Nat} {x c m : Str} {ps ks cs : List Str} {pi : List Nat} {sp : DSp}
abbrev KwOk (pos : Pos) (kws : List Keyword) (X : Cx) (ks : List Str) : Prop := (backToKw pos (keywordEach kws X.env)).all (·.1.isSome) = true ∧ (backToKw pos (keywordEach kws X.env)).filterMap (·.1) = ks ∧ ((backTo pos (starEach [] X.env)).any (·.1) || (backToKw pos (keywordEach kws X.env)).any (·.1.isNone)) = false
end
section
variable {pi : List Nat} {wz : WA} {ρ : DS} {μ : Mu} {Q : List D → Mu → Prop} {Xd : XD}
def KPm (pi : List Nat) (Q : List D → Mu → Prop) : List D → Mu → Prop := fun zs μ1 => zs.length = pi.length ∧ Q (perm pi zs) μ1
theorem r_pm : wPm pi wz ρ μ Q Xd = wz ρ μ (KPm pi Q) Xd := propext Iff.rfl
theorem r_pm1 {zs : List D} : KPm pi Q zs μ = (zs.length = pi.length ∧ Q (perm pi zs) μ) := propext Iff.rfl
end
end DL

set_option Elab.async false
set_option linter.all false
set_option maxRecDepth 100000
set_option maxHeartbeats 4000000
set_option autoImplicit false
/-! != of tuples whose items have an own `__eq__` and are all alike. -/
namespace DL
open PySem PySem.Spec PyProof.Rows L2
section
variable {prog : Program} {w : World} {A : Around}
open PySem.SeqAt AutoSeq1 MeetsSeq MeetsSeq2 MeetsSeq3 SeqRoads2 in
end
def fNeT (c : Str) (sp : DSp) : F2 := fun x y μ Q => tupE x fun ds => tupE y fun es => prsO c sp μ ds es ∧ Q (.bl false) μ
section
variable {X : Cx} {k j : Nat} {ps : List Str} {c : Str} {Ts : List String} {Cs : List Str} {sp : DSp}
end
theorem z_neT {c : Str} {sp : DSp} {ds es : List D} {μ : Mu} {Q : D → Mu → Prop} : fNeT c sp (.tup ds) (.tup es) μ Q = (prsO c sp μ ds es ∧ Q (.bl false) μ) := propext Iff.rfl
end DL

set_option Elab.async false
set_option linter.all false
set_option maxRecDepth 100000
set_option maxHeartbeats 4000000
set_option autoImplicit false
/-! + of tuples. -/
namespace DL
open PySem PySem.Spec PyProof.Rows L2
def fCatT : F2
  | .tup a, .tup b, μ, Q => a.length + b.length ≤ sizeLine ∧ Q (.tup (a ++ b)) μ
  | _, _, _, _ => False
section
variable {ex : Option (Addr × Addr × Addr)} {W : WX} {X : Cx} {a b : Expr} {wa wb : WE} {pos : Pos}
end
theorem z_catT {a b : List D} {μ : Mu} {Q : D → Mu → Prop} : fCatT (.tup a) (.tup b) μ Q = (a.length + b.length ≤ sizeLine ∧ Q (.tup (a ++ b)) μ) := propext Iff.rfl
end DL

set_option Elab.async false
set_option linter.all false
set_option maxRecDepth 100000
set_option maxHeartbeats 4000000
set_option autoImplicit false
/-! An exception out of a comprehension: the element is a call that lets one out. -/
namespace DL
open PySem PySem.Spec PyProof.Rows L2
section
variable {X : Cx} {W : WX} {E : XK}
end

section
variable {M : Model} {A : Around} {E : Value → Shared → Prop} {s : Shared} {env : Env}
end
def wCallR (sp : DSp) (wa : WA) : WE := fun ρ μ Q Xd => wa ρ μ (fun ds μ1 => sp ds μ1 Q Xd) xF
/-- an element that may let an exception out -/
abbrev TER := L2.St → Hp → VK → XK → Prop
structure PER (B : Cx) (elt : Expr) (te : TER) : Prop where
  run : ∀ (pins : List (Addr × Obj)) (s : Shared) (σ : L2.St) (H : Hp) (Q : VK) (E : XK), Inv B pins σ H s → te σ H Q E →
    wpAny (model B.prog B.w) B.A (eval elt B.env) (EP B pins σ Q) (fun u s2 => ∃ H1 s1, Inv B pins σ H1 s1 ∧ L2.CX B.prog B.w B.stack H1 s1 E u s2) s
section
variable {B : Cx} {e : Expr} {es : List Expr} {ws : WA} {pos p : Pos} {k j : Nat} {ps : List Str} {x : Str} {sp : DSp}
end
section
variable {X : Cx} {W : WX}
end
def wLcR (wi : WI) (g : WG) (tt : WT) (te : WE) (vs : List Nat) : WE := fun ρ μ Q Xd => wLc wi g tt (fun ρ μ Q _ => te ρ μ Q Xd) vs ρ μ Q Xd
theorem y_lcR {wi : WI} {g : WG} {tt : WT} {te : WE} {vs : List Nat} {ρ : DS} {μ : Mu} {Q : D → Mu → Prop} {Xd : XD} : wLcR wi g tt te vs ρ μ Q Xd = wLc wi g tt (fun ρ μ Q _ => te ρ μ Q Xd) vs ρ μ Q Xd := rfl
theorem y_callR {sp : DSp} {wa : WA} {ρ : DS} {μ : Mu} {Q : D → Mu → Prop} {Xd : XD} : wCallR sp wa ρ μ Q Xd = wa ρ μ (fun ds μ1 => sp ds μ1 Q Xd) xF := rfl
theorem XPost.out {G : Gx} {W W' : Addr → Prop} {m1 m5 : List Addr} {H1 H5 H6 : Hp} {Xd : XD} {cls : Value} {d : Option Addr} (sub : ∀ b, W b → W' b) (pm : m1 <+: m5) (hid : ∀ z, W z → H5 z = H1 z) (sm : Same (vis W m1 H1) (vis W' m5 H5)) (P : XPost G W' m5 H5 Xd cls d H6) : XPost G W m1 H1 Xd cls d H6 := by
  obtain ⟨m', c, ks, es, μ', C, dd, vs, s', e1, e2, e3, e4, e5, e6, q⟩ := P
  exact ⟨m', c, ks, es, μ', C, dd, vs, ⟨pm.trans s'.pre, fun z hz => (s'.hid z (sub z hz)).trans (hid z hz), s'.mu.less sub, (sm.trans s'.same).trans (vis_mono sub)⟩, e1, e2, e3, vis_mono sub _ _ e4, e5, Reps.mono (List.prefix_refl _) (vis_mono sub) _ _ e6, q⟩
section
variable {W : WX} {X : Cx} {elt tg iter : Expr} {ifs : List Expr} {scope : Scope} {own : List (Str × Nat)} {pos : Pos} {wi : WI} {g : TG} {k : WG} {tt : WT} {te : WE}
end
end DL

set_option Elab.async false
set_option linter.all false
set_option maxRecDepth 100000
set_option maxHeartbeats 4000000
set_option autoImplicit false
/-! A dict of texts, kept as a cell. -/
namespace DL
open PySem PySem.Spec PyProof.Rows L2
def putTk (k : Str) (ks : List Str) : List Str := if k ∈ ks then ks else ks ++ [k]
def setTd {α : Type} (k : Str) (d : α) (ks : List Str) (ds : List α) : List α := List.zipWith (fun g x => if g = k then d else x) ks ds
def putTd {α : Type} (k : Str) (d : α) (ks : List Str) (ds : List α) : List α := if k ∈ ks then setTd k d ks ds else ds ++ [d]
/-! ### the rules -/
def wDicC : WE := fun _ μ Q _ => Q (.loc μ.length) (μ ++ [.dic [] []])
def putN (x : D) (k : Str) (d : D) (μ : Mu) (K : Mu → Prop) : Prop := match x with
  | .loc n => match μ[n]? with
    | some (.dic ks ds) => ks.length < 1000 ∧ K (μ.set n (.dic (putTk k ks) (putTd k d ks ds)))
    | _ => False
  | _ => False
def KPutT3 (E : DEnds) (ρ : DS) (d x : D) : D → Mu → Prop := fun y μ3 => ∃ k, y = .str k ∧ putN x k d μ3 (E.nx ρ)
def KPutT2 (wi : WE) (E : DEnds) (ρ : DS) (d : D) : D → Mu → Prop := fun x μ2 => wi ρ μ2 (KPutT3 E ρ d x) fun c ks es μ' => E.xc c ks es ρ μ'
def sPutT (wo wi wv : WE) : WS := fun E ρ μ => wv ρ μ (fun d μ1 => wo ρ μ1 (KPutT2 wi E ρ d) fun c ks es μ' => E.xc c ks es ρ μ') fun c ks es μ' => E.xc c ks es ρ μ'
section
variable {ex : Option (Addr × Addr × Addr)} {W : WX} {X : Cx} {o ix value : Expr} {wo wi wv : WE} {pos pos' : Pos}
end
/-! list(d), dict(d) -/
end DL

set_option Elab.async false
set_option linter.all false
set_option maxRecDepth 100000
set_option maxHeartbeats 4000000
set_option autoImplicit false
/-! Base.__init__(self) in a class's own __init__. -/
namespace DL
open PySem PySem.Spec PyProof.Rows L2
/-- b's __init__, as it runs for things of the class c -/
structure BIniD (P : Program) (w : World) (K : PySem.W.Frag) (mg : Str → Option Value) (base : Heap) (k : Nat) (b c : Str) (ps : List Str) (sp : ISp) : Prop where
  ex : ∃ B f fd, mg b = some (.ref B) ∧ PySem.W.specialIn K (.ref B) "__getattribute__" = some (some (.builtin "type.__getattribute__")) ∧ PySem.W.typeIn K (.ref B) = some (.type "type") ∧ PySem.W.readsIn K B (.type "type") = true ∧
    PySem.W.findCls K (.ref B) (.type "type") "__init__" = some (.val (.ref f)) ∧ PySem.W.handedIn (.ref f) = true ∧ PySem.W.keepIn K (.ref f) = true ∧ Binds K fd ps [] ∧ FnG P w K mg base k f fd ps (toSpI ⟨K, mg, none⟩ c sp)
/-- the slot i is a bare thing of the class c -/
def baseI (c : Str) (i : Nat) (sp : ISp) (E : DEnds) (ρ : DS) (μ : Mu) : Prop := match ρ[i]? with
  | some (.own a (.ins c' [] [])) => c' = c ∧ sp [] μ (fun ks ds μ' => E.nx (ρ.set i (.own a (.ins c ks ds))) μ') xF
  | _ => False
def sBaseI (c : Str) (i : Nat) (sp : ISp) : WS := fun E ρ μ => baseI c i sp E ρ μ
section
variable {W : WX} {X : Cx} {pos apos pos' p0 p1 : Pos} {i k j : Nat} {b c x : Str} {ps : List Str} {sp : ISp}
end
end DL

set_option Elab.async false
set_option linter.all false
set_option maxRecDepth 100000
set_option maxHeartbeats 4000000
set_option autoImplicit false
/-! [each for each in d], d a dict of texts kept as a cell: its keys. -/
namespace DL
open PySem PySem.Spec PyProof.Rows L2
section
variable {W : WX} {X : Cx} {i j : Nat} {x y : Str} {scope : Scope} {pos p0 p1 p2 : Pos}
end
end DL

set_option Elab.async false
set_option linter.all false
set_option maxRecDepth 100000
set_option maxHeartbeats 4000000
set_option autoImplicit false
/-! d != {}, d a dict of texts kept as a cell. -/
namespace DL
open PySem PySem.Spec PyProof.Rows L2
end DL

set_option Elab.async false
set_option linter.all false
set_option maxRecDepth 100000
set_option maxHeartbeats 4000000
set_option autoImplicit false
/-! The letters of a text, one by one. -/
namespace DL
open PySem PySem.Spec PyProof.Rows L2
def lettersD (x : Str) : List D := x.cps.toList.map fun c => D.str ⟨#[c]⟩
def KWiS (Q : List D → Mu → Prop) : D → Mu → Prop := fun d μ1 => ∃ x, d = .str x ∧ Q (lettersD x) μ1
def wiS (wa : WE) : WI := fun ρ μ Q Xd => wa ρ μ (KWiS Q) Xd
theorem t_wis {wa : WE} {ρ : DS} {μ : Mu} {Q : List D → Mu → Prop} {Xd : XD} : wiS wa ρ μ Q Xd = wa ρ μ (KWiS Q) Xd := rfl
theorem t_wisa {x : Str} {μ : Mu} {Q : List D → Mu → Prop} : KWiS Q (.str x) μ = Q (lettersD x) μ := propext ⟨fun ⟨y, e, h⟩ => by cases e; exact h, fun h => ⟨x, rfl, h⟩⟩
section
variable {ex : Option (Addr × Addr × Addr)} {W : WX} {X : Cx} {tg e : Expr} {wa : WE}
end
end DL

set_option Elab.async false
set_option linter.all false
set_option maxRecDepth 100000
set_option maxHeartbeats 4000000
set_option autoImplicit false
/-! len of a text, of a dict of texts. -/
namespace DL
open PySem PySem.Spec PyProof.Rows L2
section
variable {μ : Mu} {Q : D → Mu → Prop} {z : Str} {n : Nat}
end
end DL

set_option Elab.async false
set_option linter.all false
set_option maxRecDepth 100000
set_option maxHeartbeats 4000000
set_option autoImplicit false
/-! None in a dict of texts; a display of texts; d[k] = v in an unpacking; the keys of a dict within a dict. -/
namespace DL
open PySem PySem.Spec PyProof.Rows L2
/-! ### None as a key -/
section
variable {X : Cx} {pins : List (Addr × Obj)} {σ : L2.St} {H : Hp} {s : Shared} {A : Around} {E : Value → Shared → Prop} {a : Addr} {kvs : List (Key × V)}
end
section
variable {ex : Option (Addr × Addr × Addr)} {W : WX} {X : Cx} {o ix value : Expr} {wo wi wv : WE} {pos pos' : Pos}
end
/-! ### a display of texts -/
def wDicL (ks : List Str) (wa : WA) : WE := fun ρ μ Q Xd => wa ρ (μ ++ [.dic [] []]) (fun ds μ1 => ks.Nodup ∧ ks.length ≤ 15 ∧ μ1[μ.length]? = some (.dic [] []) ∧ Q (.loc μ.length) (μ1.set μ.length (.dic ks ds))) Xd
inductive PW (G : Gx) (W : WX) : List Str → List (TE × TE) → WA → Prop
  | nil : PW G W [] [] wNil
  | cons {k : Str} {ks : List Str} {we : WE} {trs : List (TE × TE)} {wa : WA} : PW G W ks trs wa → PW G W (k :: ks) ((tC (.str k), lift G W we) :: trs) (wCons we wa)
structure DPs (ex : Option (Addr × Addr × Addr)) (W : WX) (X : Cx) (pos : Pos) (keys : List (Option Expr)) (values : List Expr) (ks : List Str) (wa : WA) : Prop where
  ex : ∃ trs, PPs X pos keys values trs ∧ PW (gx X ex) W ks trs wa
section
variable {ex : Option (Addr × Addr × Addr)} {W : WX} {X : Cx} {v : Expr} {keys : List (Option Expr)} {values : List Expr} {ks : List Str} {k : Str} {we wo wi : WE} {wa : WA} {pos p1 : Pos} {j : Nat}
/-- d[k] = .. as a part of an unpacking -/
def kPutT (wo wi : WE) : WG := fun d ρ μ Q => wo ρ μ (fun x μ1 => wi ρ μ1 (fun y μ2 => ∃ k, y = .str k ∧ putN x k d μ2 fun μ3 => Q ρ μ3) xF) xF
end
section
variable {W : WX} {X : Cx} {i j : Nat} {x y key : Str} {scope : Scope} {jj : Nat} {pos p0 p1 p2 p3 p4 : Pos}
end
end DL

set_option Elab.async false
set_option linter.all false
set_option maxRecDepth 100000
set_option maxHeartbeats 4000000
set_option autoImplicit false
/-! isinstance of a caught exception by two classes. -/
namespace DL
open PySem PySem.Spec PyProof.Rows L2
section
variable {X : Cx} {kt : Nat} {a : Addr} {oe : Obj} {cls : Value} {d : Option Addr} {pn : List (Addr × Obj)} {pos p1 p2 p3 p4 pt : Pos} {x c1 c2 : Str} {i : Nat}
end
end DL

set_option Elab.async false
set_option linter.all false
set_option maxRecDepth 100000
set_option maxHeartbeats 4000000
set_option autoImplicit false
/-! x = list(e) as an own list. -/
namespace DL
open PySem PySem.Spec PyProof.Rows L2
def sSetLst (i : Nat) (wa : WE) : WS := fun E ρ μ => wa ρ μ (fun x μ1 => ∃ ds, itemsD x μ1 = some ds ∧ i < ρ.length ∧ ∀ p, E.nx (ρ.set i (.own p (.lst ds))) μ1) fun c ks es μ' => E.xc c ks es ρ μ'
def KSLst (i : Nat) (E : DEnds) (ρ : DS) : D → Mu → Prop := fun x μ1 => ∃ ds, itemsD x μ1 = some ds ∧ i < ρ.length ∧ ∀ p, E.nx (ρ.set i (.own p (.lst ds))) μ1
section
variable {W : WX} {X : Cx} {e : Expr} {wa : WE} {pos : Pos}
end
theorem t_slst {i : Nat} {wa : WE} {E : DEnds} {ρ : DS} {μ : Mu} : sSetLst i wa E ρ μ = wa ρ μ (KSLst i E ρ) (KX E ρ) := propext Iff.rfl
/-! a text in a tuple of texts -/
end DL

set_option Elab.async false
set_option linter.all false
set_option maxRecDepth 100000
set_option maxHeartbeats 4000000
set_option autoImplicit false
/-! Texts: split, join, +, an item, a cut, str(i), int(s), f'..'. -/
namespace DL
open PySem PySem.Spec PyProof.Rows L2
def isS (x : D) (k : Prop) : Prop := match x with
  | .str _ => k
  | _ => False
def wM1S (f : F2) (wo wa : WE) : WE := fun ρ μ Q Xd => wo ρ μ (fun x μ1 => isS x (wa ρ μ1 (fun y μ2 => f x y μ2 Q) Xd)) Xd
def fStrI : FN := fun xs μ Q => match xs with
  | [.int i] => i.natAbs.log2 < 1920 ∧ Q (.str (toString i)) μ
  | _ => False
def fCatS : F2 := fun x y μ Q => ∃ a b, x = .str a ∧ y = .str b ∧ a.length + b.length ≤ sizeLine ∧ Q (.str (a ++ b)) μ
def wSlS (wa : WE) (wl wh : WO) : WE := fun ρ μ Q Xd => wa ρ μ (fun x μ1 => wl ρ μ1 (fun l μ2 => wh ρ μ2 (fun u μ3 => ∃ z, x = .str z ∧ z.length ≤ sizeLine ∧ Q (.str (Txt.slice z l u)) μ3) Xd) Xd) Xd
def wJs : List WE → Str → DS → Mu → (Str → Mu → Prop) → XD → Prop
  | [], acc, _, μ, Q, _ => Q acc μ
  | w :: ws, acc, ρ, μ, Q, Xd => w ρ μ (fun x μ1 => ∃ y, x = .str y ∧ (acc ++ y).length ≤ sizeLine ∧ wJs ws (acc ++ y) ρ μ1 Q Xd) Xd
def wFS (ws : List WE) : WE := fun ρ μ Q Xd => wJs ws Str.empty ρ μ (fun out μ1 => Q (.str out) μ1) Xd
def fFmt : F1 := fun x μ Q => match x with
  | .int i => i.natAbs.log2 < 1920 ∧ Q (.str (toString i)) μ
  | .str y => y.length ≤ sizeLine ∧ Q (.str y) μ
  | _ => False
section
variable {ex : Option (Addr × Addr × Addr)} {W : WX} {X : Cx} {a b e o : Expr} {lo hi : Option Expr} {wa wb wo : WE} {wl wh : WO} {ws : WA} {pos apos p2 : Pos}
/-! f'..' -/
structure DJ (ex : Option (Addr × Addr × Addr)) (W : WX) (X : Cx) (es : List Expr) (ws : List WE) : Prop where
  pj : PJ X es (ws.map (lift (gx X ex) W))
end
end DL

set_option Elab.async false
set_option linter.all false
set_option maxRecDepth 100000
set_option maxHeartbeats 4000000
set_option autoImplicit false
/-! A text's words as a cell, insert, a text many times. -/
namespace DL
open PySem PySem.Spec PyProof.Rows L2
/-- xs.insert(i, e) of a cell -/
def insL (x y d : D) (μ : Mu) (Q : D → Mu → Prop) : Prop := match x, y with
  | .loc n, .int j => match μ[n]? with
    | some (.lst ds) => 0 ≤ j ∧ j < 2 ^ 62 ∧ ds.length < 1000000 ∧ Q .non (μ.set n (.lst (ds.take j.toNat ++ [d] ++ ds.drop j.toNat)))
    | _ => False
  | _, _ => False
def wInsL (wo wa wb : WE) : WE := fun ρ μ Q Xd => wo ρ μ (fun x μ1 => isC x μ1 (wa ρ μ1 (fun y μ2 => wb ρ μ2 (fun d μ3 => insL x y d μ3 Q) Xd) Xd)) Xd
section
variable {X : Cx}
end
section
variable {ex : Option (Addr × Addr × Addr)} {W : WX} {X : Cx} {a b e e2 o : Expr} {wa wb wo : WE} {pos apos : Pos}
end
end DL

set_option Elab.async false
set_option linter.all false
set_option maxRecDepth 100000
set_option maxHeartbeats 4000000
set_option autoImplicit false
/-! a or b, a a text. -/
namespace DL
open PySem PySem.Spec PyProof.Rows L2
def wOrS (wa wb : WE) : WE := fun ρ μ Q Xd => wa ρ μ (fun x μ1 => ∃ z, x = .str z ∧ z.length ≤ sizeLine ∧ if z.length = 0 then wb ρ μ1 Q Xd else Q (.str z) μ1) Xd
section
variable {ex : Option (Addr × Addr × Addr)} {W : WX} {X : Cx} {a b : Expr} {rest : List Expr} {wa wb : WE} {pos : Pos}
def KOrS (wb : WE) (ρ : DS) (Q : D → Mu → Prop) (Xd : XD) : D → Mu → Prop := fun x μ1 => ∃ z, x = .str z ∧ z.length ≤ sizeLine ∧ if z.length = 0 then wb ρ μ1 Q Xd else Q (.str z) μ1
theorem t_ors {ρ : DS} {μ : Mu} {Q : D → Mu → Prop} {Xd : XD} : wOrS wa wb ρ μ Q Xd = wa ρ μ (KOrS wb ρ Q Xd) Xd := propext Iff.rfl
end
end DL

set_option Elab.async false
set_option linter.all false
set_option maxRecDepth 100000
set_option maxHeartbeats 4000000
set_option autoImplicit false
/-! a number in a tuple of numbers -/
namespace DL
open PySem PySem.Spec PyProof.Rows L2

end DL

set_option Elab.async false
set_option linter.all false
set_option maxRecDepth 100000
set_option maxHeartbeats 4000000
set_option autoImplicit false
/-! A list, shown or a cell, == the empty list; slices of tuples. -/
namespace DL
open PySem PySem.Spec PyProof.Rows L2
section
variable {prog : Program} {w : World} {A : Around}
end
def wSlT (wa : WE) (lo hi : WO) : WE := fun ρ μ Q Xd => wa ρ μ (fun x μ1 => lo ρ μ1 (fun l μ2 => hi ρ μ2 (fun u μ3 => tupOr x fun ds => Q (.tup (cutD ds l u)) μ3) Xd) Xd) Xd
section
variable {ex : Option (Addr × Addr × Addr)} {W : WX} {X : Cx} {a : Expr} {wa : WE} {wl wh : WO} {lo hi : Option Expr} {pos p2 : Pos}
end
/-! frames -/
def KSlT3 (x : D) (l : Option Int) (Q : D → Mu → Prop) : Option Int → Mu → Prop := fun u μ3 => tupOr x fun ds => Q (.tup (cutD ds l u)) μ3
def KSlT2 (hi : WO) (x : D) (ρ : DS) (Q : D → Mu → Prop) (Xd : XD) : Option Int → Mu → Prop := fun l μ2 => hi ρ μ2 (KSlT3 x l Q) Xd
def KSlT1 (lo hi : WO) (ρ : DS) (Q : D → Mu → Prop) (Xd : XD) : D → Mu → Prop := fun x μ1 => lo ρ μ1 (KSlT2 hi x ρ Q Xd) Xd
theorem z_slt {wa : WE} {lo hi : WO} {ρ : DS} {μ : Mu} {Q : D → Mu → Prop} {Xd : XD} : wSlT wa lo hi ρ μ Q Xd = wa ρ μ (KSlT1 lo hi ρ Q Xd) Xd := propext Iff.rfl
theorem z_slt1 {lo hi : WO} {x : D} {ρ : DS} {μ : Mu} {Q : D → Mu → Prop} {Xd : XD} : KSlT1 lo hi ρ Q Xd x μ = lo ρ μ (KSlT2 hi x ρ Q Xd) Xd := propext Iff.rfl
theorem z_slt2 {hi : WO} {x : D} {l : Option Int} {ρ : DS} {μ : Mu} {Q : D → Mu → Prop} {Xd : XD} : KSlT2 hi x ρ Q Xd l μ = hi ρ μ (KSlT3 x l Q) Xd := propext Iff.rfl
theorem z_slt3 {ds : List D} {l u : Option Int} {μ : Mu} {Q : D → Mu → Prop} : KSlT3 (.tup ds) l Q u μ = Q (.tup (cutD ds l u)) μ := propext Iff.rfl
end DL

set_option Elab.async false
set_option linter.all false
set_option maxRecDepth 100000
set_option maxHeartbeats 4000000
set_option autoImplicit false
/-! Frames: dicts of texts, Base.__init__(self). -/
namespace DL
open PySem PySem.Spec PyProof.Rows L2
section
variable {ρ : DS} {μ : Mu} {Q : D → Mu → Prop} {Xd : XD} {E : DEnds} {wo wi wv : WE} {i j n : Nat} {c : Str} {sp : ISp} {x d : D} {k : Str}
theorem t_dic : wDicC ρ μ Q Xd = Q (.loc μ.length) (μ ++ [.dic [] []]) := rfl
def KPutT1 (wo wi : WE) (E : DEnds) (ρ : DS) : D → Mu → Prop := fun d μ1 => wo ρ μ1 (KPutT2 wi E ρ d) (KX E ρ)
theorem t_put : sPutT wo wi wv E ρ μ = wv ρ μ (KPutT1 wo wi E ρ) (KX E ρ) := propext Iff.rfl
theorem t_put1 : KPutT1 wo wi E ρ d μ = wo ρ μ (KPutT2 wi E ρ d) (KX E ρ) := rfl
theorem t_put2 : KPutT2 wi E ρ d x μ = wi ρ μ (KPutT3 E ρ d x) (KX E ρ) := propext Iff.rfl
theorem t_put3 : KPutT3 E ρ d x (.str k) μ = putN x k d μ (E.nx ρ) := propext ⟨fun ⟨k', e, h⟩ => by cases e; exact h, fun h => ⟨k, rfl, h⟩⟩
theorem t_base : sBaseI c i sp E ρ μ = baseI c i sp E ρ μ := rfl
end
end DL

set_option Elab.async false
set_option linter.all false
set_option maxRecDepth 100000
set_option maxHeartbeats 4000000
set_option autoImplicit false
/-! Frames of DX54 and DX55. -/
namespace DL
open PySem PySem.Spec PyProof.Rows L2
section
variable {ρ : DS} {μ : Mu} {Q : D → Mu → Prop} {Qs : DS → Mu → Prop} {Xd : XD} {wo wi : WE} {wa : WA} {i j n : Nat} {x d : D} {k : Str} {ks : List Str} {ds : List D}
def KDicL (ks : List Str) (n : Nat) (Q : D → Mu → Prop) : List D → Mu → Prop := fun ds μ1 => ks.Nodup ∧ ks.length ≤ 15 ∧ μ1[n]? = some (.dic [] []) ∧ Q (.loc n) (μ1.set n (.dic ks ds))
theorem t_dicL : wDicL ks wa ρ μ Q Xd = wa ρ (μ ++ [.dic [] []]) (KDicL ks μ.length Q) Xd := propext Iff.rfl
def KkPT2 (x d : D) (ρ : DS) (Q : DS → Mu → Prop) : D → Mu → Prop := fun y μ2 => ∃ k, y = .str k ∧ putN x k d μ2 fun μ3 => Q ρ μ3
def KkPT1 (wi : WE) (d : D) (ρ : DS) (Q : DS → Mu → Prop) : D → Mu → Prop := fun x μ1 => wi ρ μ1 (KkPT2 x d ρ Q) xF
theorem t_kpt : kPutT wo wi d ρ μ Qs = wo ρ μ (KkPT1 wi d ρ Qs) xF := propext Iff.rfl
theorem t_kpt1 : KkPT1 wi d ρ Qs x μ = wi ρ μ (KkPT2 x d ρ Qs) xF := rfl
theorem t_kpt2 : KkPT2 x d ρ Qs (.str k) μ = putN x k d μ fun μ3 => Qs ρ μ3 := propext ⟨fun ⟨k', e, h⟩ => by cases e; exact h, fun h => ⟨k, rfl, h⟩⟩
end
end DL

set_option Elab.async false
set_option linter.all false
set_option maxRecDepth 100000
set_option maxHeartbeats 4000000
set_option autoImplicit false
/-! Frames of DX57, DX58. -/
namespace DL
open PySem PySem.Spec PyProof.Rows L2
section
variable {ρ : DS} {μ : Mu} {Q : D → Mu → Prop} {Xd : XD} {wo wi wa wb : WE} {wl wh : WO} {f : F2} {i j n : Nat} {x y d : D} {a b z : Str} {l u : Option Int} {ds : List D}
def KM1S2 (f : F2) (x : D) (Q : D → Mu → Prop) : D → Mu → Prop := fun y μ2 => f x y μ2 Q
def KM1S (f : F2) (wa : WE) (ρ : DS) (Q : D → Mu → Prop) (Xd : XD) : D → Mu → Prop := fun x μ1 => isS x (wa ρ μ1 (KM1S2 f x Q) Xd)
theorem t_m1s : wM1S f wo wa ρ μ Q Xd = wo ρ μ (KM1S f wa ρ Q Xd) Xd := propext Iff.rfl
theorem t_m1s1 : KM1S f wa ρ Q Xd (.str a) μ = wa ρ μ (KM1S2 f (.str a) Q) Xd := rfl
theorem t_m1s2 : KM1S2 f x Q y μ = f x y μ Q := rfl
theorem t_catS : fCatS (.str a) (.str b) μ Q = (a.length + b.length ≤ sizeLine ∧ Q (.str (a ++ b)) μ) := propext ⟨fun ⟨a', b', e1, e2, h⟩ => by cases e1; cases e2; exact h, fun h => ⟨a, b, rfl, rfl, h⟩⟩
def KSlS3 (x : D) (l : Option Int) (Q : D → Mu → Prop) : Option Int → Mu → Prop := fun u μ3 => ∃ z, x = .str z ∧ z.length ≤ sizeLine ∧ Q (.str (Txt.slice z l u)) μ3
def KSlS2 (wh : WO) (x : D) (ρ : DS) (Q : D → Mu → Prop) (Xd : XD) : Option Int → Mu → Prop := fun l μ2 => wh ρ μ2 (KSlS3 x l Q) Xd
def KSlS1 (wl wh : WO) (ρ : DS) (Q : D → Mu → Prop) (Xd : XD) : D → Mu → Prop := fun x μ1 => wl ρ μ1 (KSlS2 wh x ρ Q Xd) Xd
theorem t_sls : wSlS wa wl wh ρ μ Q Xd = wa ρ μ (KSlS1 wl wh ρ Q Xd) Xd := propext Iff.rfl
theorem t_sls1 : KSlS1 wl wh ρ Q Xd x μ = wl ρ μ (KSlS2 wh x ρ Q Xd) Xd := rfl
theorem t_sls2 : KSlS2 wh x ρ Q Xd l μ = wh ρ μ (KSlS3 x l Q) Xd := rfl
theorem t_sls3 : KSlS3 (.str z) l Q u μ = (z.length ≤ sizeLine ∧ Q (.str (Txt.slice z l u)) μ) := propext ⟨fun ⟨z', e, h⟩ => by cases e; exact h, fun h => ⟨z, rfl, h⟩⟩
def KFS (Q : D → Mu → Prop) : Str → Mu → Prop := fun out μ1 => Q (.str out) μ1
def KJs (ws : List WE) (acc : Str) (ρ : DS) (Q : Str → Mu → Prop) (Xd : XD) : D → Mu → Prop := fun x μ1 => ∃ y, x = .str y ∧ (acc ++ y).length ≤ sizeLine ∧ wJs ws (acc ++ y) ρ μ1 Q Xd
theorem t_fs {ws : List WE} : wFS ws ρ μ Q Xd = wJs ws Str.empty ρ μ (KFS Q) Xd := propext Iff.rfl
theorem t_js0 {acc : Str} {Qs : Str → Mu → Prop} : wJs [] acc ρ μ Qs Xd = Qs acc μ := by rw [wJs]
theorem t_js1 {w : WE} {ws : List WE} {acc : Str} {Qs : Str → Mu → Prop} : wJs (w :: ws) acc ρ μ Qs Xd = w ρ μ (KJs ws acc ρ Qs Xd) Xd := by rw [wJs]; rfl
theorem t_js2 {ws : List WE} {acc : Str} {Qs : Str → Mu → Prop} : KJs ws acc ρ Qs Xd (.str z) μ = ((acc ++ z).length ≤ sizeLine ∧ wJs ws (acc ++ z) ρ μ Qs Xd) := propext ⟨fun ⟨z', e, h⟩ => by cases e; exact h, fun h => ⟨z, rfl, h⟩⟩
theorem t_js3 : KFS Q z μ = Q (.str z) μ := rfl
theorem t_fmtI {k : Int} : fFmt (.int k) μ Q = (k.natAbs.log2 < 1920 ∧ Q (.str (toString k)) μ) := propext Iff.rfl
theorem t_fmtS : fFmt (.str z) μ Q = (z.length ≤ sizeLine ∧ Q (.str z) μ) := propext Iff.rfl
theorem t_strI {k : Int} : fStrI [.int k] μ Q = (k.natAbs.log2 < 1920 ∧ Q (.str (toString k)) μ) := propext Iff.rfl
def KIn3 (x y : D) (Q : D → Mu → Prop) : D → Mu → Prop := fun d μ3 => insL x y d μ3 Q
def KIn2 (wb : WE) (x : D) (ρ : DS) (Q : D → Mu → Prop) (Xd : XD) : D → Mu → Prop := fun y μ2 => wb ρ μ2 (KIn3 x y Q) Xd
def KIn1 (wa wb : WE) (ρ : DS) (Q : D → Mu → Prop) (Xd : XD) : D → Mu → Prop := fun x μ1 => isC x μ1 (wa ρ μ1 (KIn2 wb x ρ Q Xd) Xd)
theorem t_insl : wInsL wo wa wb ρ μ Q Xd = wo ρ μ (KIn1 wa wb ρ Q Xd) Xd := propext Iff.rfl
theorem t_insl1 : KIn1 wa wb ρ Q Xd x μ = isC x μ (wa ρ μ (KIn2 wb x ρ Q Xd) Xd) := rfl
theorem t_insl2 : KIn2 wb x ρ Q Xd y μ = wb ρ μ (KIn3 x y Q) Xd := rfl
theorem t_insl3 : KIn3 x y Q d μ = insL x y d μ Q := rfl
end
end DL

set_option Elab.async false
set_option linter.all false
set_option maxRecDepth 100000
set_option maxHeartbeats 4000000
set_option autoImplicit false
namespace SA
/-! two triangles that a line parts are parted by an edge of one of them -/
abbrev P := Int × Int
def sd (a b p : P) : Int := (b.1 - a.1) * (p.2 - a.2) - (b.2 - a.2) * (p.1 - a.1)
theorem nonneg_of {a b : Int} (hb : 0 < b) (h : 0 ≤ a * b) : 0 ≤ a := by
  apply Int.not_lt.mp
  intro ha
  have := Int.mul_neg_of_neg_of_pos ha hb
  omega
theorem mem {U1 U2 V1 V2 x y z D1 D2 : Int} (hU1 : 0 ≤ U1) (hU2 : 0 ≤ U2) (hV1 : 0 ≤ V1) (hV2 : 0 ≤ V2) (d1 : 0 < D1) (d2 : 0 < D2) (hx : 0 ≤ x) (i1 : y * U1 = U2 * x + D2 * V1) (i2 : D1 * U2 = V2 * y + V1 * z) (hU : U1 = 0 → 0 < U2) : 0 ≤ y := by
  by_cases c : U1 = 0
  · have u2 := hU c
    rw [c, Int.mul_zero] at i1
    have s1 := Int.mul_nonneg hU2 hx
    have s2 := Int.mul_nonneg (Int.le_of_lt d2) hV1
    have v0 : D2 * V1 = 0 := by omega
    have v1 : V1 = 0 := by
      rcases Int.mul_eq_zero.mp v0 with e | e
      · omega
      · exact e
    rw [v1, Int.zero_mul, Int.add_zero] at i2
    have p := Int.mul_pos d1 u2
    apply Int.not_lt.mp
    intro hy
    have := Int.mul_nonpos_of_nonneg_of_nonpos hV2 (Int.le_of_lt hy)
    omega
  · have s1 := Int.mul_nonneg hU2 hx
    have s2 := Int.mul_nonneg (Int.le_of_lt d2) hV1
    exact nonneg_of (show 0 < U1 by omega) (by omega)
/-- z is not left of the way from x to y -/
def Rt (x y : P) (z : P) : Prop := sd x y z ≤ 0
/-- parted by an edge of the first -/
def Ed (a b c p q r : P) : Prop := (Rt a b p ∧ Rt a b q ∧ Rt a b r) ∨ (Rt b c p ∧ Rt b c q ∧ Rt b c r) ∨ (Rt c a p ∧ Rt c a q ∧ Rt c a r)
def lin (u : P) (z : P) : Int := u.1 * z.1 + u.2 * z.2
end SA

set_option Elab.async false
set_option linter.all false
set_option maxRecDepth 100000
set_option maxHeartbeats 4000000
set_option autoImplicit false
namespace SA
/-! meshes of split cells -/
structure T3 where
  a : P
  b : P
  c : P
def Good (t : T3) : Prop := 0 < sd t.a t.b t.c
/-- parted by a line, the first below -/
def Sep (s t : T3) : Prop := ∃ (u : P) (w : Int), ¬ (u.1 = 0 ∧ u.2 = 0) ∧ (lin u s.a ≤ w ∧ lin u s.b ≤ w ∧ lin u s.c ≤ w) ∧ w ≤ lin u t.a ∧ w ≤ lin u t.b ∧ w ≤ lin u t.c
def neg (u : P) : P := (-u.1, -u.2)
theorem lin_neg (u z : P) : lin (neg u) z = - lin u z := by unfold lin neg; grind
theorem Sep.symm {s t : T3} (h : Sep s t) : Sep t s := by
  obtain ⟨u, w, u0, ⟨h1, h2, h3⟩, h4, h5, h6⟩ := h
  refine ⟨neg u, -w, fun z => u0 ⟨?_, ?_⟩, ⟨?_, ?_, ?_⟩, ?_, ?_, ?_⟩
  · have := z.1
    unfold neg at this
    simp only at this
    omega
  · have := z.2
    unfold neg at this
    simp only at this
    omega
  all_goals
    rw [lin_neg]
    omega
/-- within the hull of four corners -/
structure Q4 where
  a : P
  b : P
  c : P
  d : P
def In4 (q : Q4) (t : T3) : Prop := ∀ (u : P) (w : Int), lin u q.a ≤ w → lin u q.b ≤ w → lin u q.c ≤ w → lin u q.d ≤ w → lin u t.a ≤ w ∧ lin u t.b ≤ w ∧ lin u t.c ≤ w
/-- within a triangle -/
def In3 (s t : T3) : Prop := ∀ (u : P) (w : Int), lin u s.a ≤ w → lin u s.b ≤ w → lin u s.c ≤ w → lin u t.a ≤ w ∧ lin u t.b ≤ w ∧ lin u t.c ≤ w
theorem In3.refl (s : T3) : In3 s s := fun _ _ h1 h2 h3 => ⟨h1, h2, h3⟩
theorem In4.sub {q : Q4} {s t : T3} (h : In4 q s) (k : In3 s t) : In4 q t := fun u w h1 h2 h3 h4 => by
  obtain ⟨z1, z2, z3⟩ := h u w h1 h2 h3 h4
  exact k u w z1 z2 z3
theorem Sep.sub {s t s' t' : T3} (h : Sep s t) (hs : In3 s s') (ht : In3 t t') : Sep s' t' := by
  obtain ⟨u, w, u0, ⟨h1, h2, h3⟩, h4, h5, h6⟩ := h
  have z := ht (neg u) (-w) (by rw [lin_neg]; omega) (by rw [lin_neg]; omega) (by rw [lin_neg]; omega)
  rw [lin_neg, lin_neg, lin_neg] at z
  exact ⟨u, w, u0, hs u w h1 h2 h3, by omega, by omega, by omega⟩
theorem In3.trans {s t r : T3} (h : In3 s t) (k : In3 t r) : In3 s r := fun u w h1 h2 h3 => by
  obtain ⟨z1, z2, z3⟩ := h u w h1 h2 h3
  exact k u w z1 z2 z3
/-! a triangle cut in two -/
theorem half {a b c m : P} (g : 0 < sd a b c) (m1 : 2 * m.1 = a.1 + b.1) (m2 : 2 * m.2 = a.2 + b.2) : Good ⟨a, m, c⟩ ∧ Good ⟨m, b, c⟩ ∧ In3 ⟨a, b, c⟩ ⟨a, m, c⟩ ∧ In3 ⟨a, b, c⟩ ⟨m, b, c⟩ ∧ Sep ⟨a, m, c⟩ ⟨m, b, c⟩ := by
  have e1 : 2 * sd a m c = sd a b c := by
    unfold sd
    grind
  have e2 : 2 * sd m b c = sd a b c := by
    unfold sd
    grind
  have lm : ∀ u : P, 2 * lin u m = lin u a + lin u b := fun u => by
    unfold lin
    grind
  refine ⟨?_, ?_, fun u w h1 h2 h3 => ⟨h1, ?_, h3⟩, fun u w h1 h2 h3 => ⟨?_, h2, h3⟩, ?_⟩
  · show 0 < sd a m c
    omega
  · show 0 < sd m b c
    omega
  · have := lm u
    simp only at h1 h2 ⊢
    omega
  · have := lm u
    simp only at h1 h2 ⊢
    omega
  · -- the line from m to c; a left of it, b right
    refine ⟨(c.2 - m.2, -(c.1 - m.1)), lin (c.2 - m.2, -(c.1 - m.1)) m, ?_, ⟨?_, Int.le_refl _, ?_⟩, Int.le_refl _, ?_, ?_⟩
    · intro z
      simp only at z
      have c1 : c.1 = m.1 := by omega
      have c2 : c.2 = m.2 := by omega
      have : sd a m c = 0 := by unfold sd; rw [c1, c2]; grind
      omega
    · have : lin (c.2 - m.2, -(c.1 - m.1)) m - lin (c.2 - m.2, -(c.1 - m.1)) a = sd a m c := by unfold lin sd; grind
      simp only
      omega
    · have : lin (c.2 - m.2, -(c.1 - m.1)) c = lin (c.2 - m.2, -(c.1 - m.1)) m := by unfold lin; grind
      simp only
      omega
    · have : lin (c.2 - m.2, -(c.1 - m.1)) b - lin (c.2 - m.2, -(c.1 - m.1)) m = sd m b c := by unfold lin sd; grind
      simp only
      omega
    · have : lin (c.2 - m.2, -(c.1 - m.1)) c = lin (c.2 - m.2, -(c.1 - m.1)) m := by unfold lin; grind
      simp only
      omega
/-! the corners of the cells -/
def Near (p : P) (k r : Int) : Prop := 8 * k - 1 ≤ p.1 ∧ p.1 ≤ 8 * k + 1 ∧ 8 * r - 1 ≤ p.2 ∧ p.2 ≤ 8 * r + 1
/-- the cell at k, r -/
def Cell (q : Q4) (k r : Int) : Prop := Near q.a k r ∧ Near q.b (k + 1) r ∧ Near q.c (k + 1) (r + 1) ∧ Near q.d k (r + 1)
end SA

set_option Elab.async false
set_option linter.all false
set_option maxRecDepth 100000
set_option maxHeartbeats 4000000
set_option autoImplicit false
/-! Meshes: each point inside is owned once by a half circle of directions. -/
namespace SA
def cr (u v : P) : Int := u.1 * v.2 - u.2 * v.1
def sb (a b : P) : P := (a.1 - b.1, a.2 - b.2)
def O : P := (0, 0)
/-- a half circle of directions -/
structure HP (R : P → Bool) : Prop where
  opp : ∀ d : P, d ≠ O → R (neg d) = !R d
  cone : ∀ (u v d : P) (m α β : Int), 0 < m → 0 ≤ α → 0 ≤ β → R u = true → R v = true → d ≠ O → m * d.1 = α * u.1 + β * v.1 → m * d.2 = α * u.2 + β * v.2 → R d = true
theorem HP.par {R : P → Bool} (h : HP R) {u d : P} {m α : Int} (hm : 0 < m) (ha : 0 < α) (hd : d ≠ O) (e1 : m * d.1 = α * u.1) (e2 : m * d.2 = α * u.2) (hu : R u = true) : R d = true :=
  h.cone u u d m α 0 hm (by omega) (by decide) hu hu hd (by omega) (by omega)
theorem P.ext {u v : P} (h1 : u.1 = v.1) (h2 : u.2 = v.2) : u = v := Prod.ext h1 h2
theorem nz {u : P} : u ≠ O ↔ ¬ (u.1 = 0 ∧ u.2 = 0) := by
  constructor
  · intro h z
    exact h (P.ext z.1 z.2)
  · intro h z
    subst z
    exact h ⟨rfl, rfl⟩
theorem neg_nz {u : P} (h : u ≠ O) : neg u ≠ O := by
  rw [nz] at h ⊢
  unfold neg
  simp only
  omega
theorem cr_nz {u v : P} (h : 0 < cr u v) : u ≠ O ∧ v ≠ O := by
  constructor <;> (rw [nz]; rintro ⟨h1, h2⟩; unfold cr at h; rw [h1, h2] at h; simp at h)
theorem HP.opp' {R : P → Bool} (h : HP R) {d : P} (hd : d ≠ O) (h1 : R d = true) (h2 : R (neg d) = true) : False := by
  rw [h.opp d hd, h1] at h2
  cases h2
theorem HP.neg {R : P → Bool} (h : HP R) : HP (fun d => !(R d) && decide (d ≠ O)) := by
  have key : ∀ d : P, d ≠ O → ((!(R d) && decide (d ≠ O)) = true ↔ R (SA.neg d) = true) := fun d hd => by
    rw [h.opp d hd]
    simp [hd]
  refine ⟨fun d hd => ?_, fun u v d m α β hm ha hb hu hv hd e1 e2 => ?_⟩
  · have e := h.opp d hd
    have n := neg_nz hd
    simp [e, hd, n]
  · have hu0 : u ≠ O := by simp at hu; exact hu.2
    have hv0 : v ≠ O := by simp at hv; exact hv.2
    rw [key d hd]
    refine h.cone (SA.neg u) (SA.neg v) (SA.neg d) m α β hm ha hb ((key u hu0).mp hu) ((key v hv0).mp hv) (neg_nz hd) ?_ ?_
    · show m * (-d.1) = α * (-u.1) + β * (-v.1)
      grind
    · show m * (-d.2) = α * (-u.2) + β * (-v.2)
      grind
/-- the half of the program -/
def hf (w : P) (ah : Bool) (d : P) : Bool := if cr w d ≠ 0 then decide (0 < cr w d) else (decide (0 < d.1 * w.1 + d.2 * w.2) == ah)
theorem sq0 {a b : Int} (h : a * a + b * b = 0) : a = 0 ∧ b = 0 := by
  have h1 : 0 ≤ a * a := by rcases Int.le_total 0 a with z | z; exact Int.mul_nonneg z z; have := Int.mul_nonneg (show 0 ≤ -a by omega) (show 0 ≤ -a by omega); grind
  have h2 : 0 ≤ b * b := by rcases Int.le_total 0 b with z | z; exact Int.mul_nonneg z z; have := Int.mul_nonneg (show 0 ≤ -b by omega) (show 0 ≤ -b by omega); grind
  have e1 : a * a = 0 := by omega
  have e2 : b * b = 0 := by omega
  exact ⟨by rcases Int.mul_eq_zero.mp e1 with z | z <;> exact z, by rcases Int.mul_eq_zero.mp e2 with z | z <;> exact z⟩
theorem dot_nz {w d : P} (hw : w ≠ O) (hd : d ≠ O) (h : cr w d = 0) : d.1 * w.1 + d.2 * w.2 ≠ 0 := by
  intro e
  have h1 : (w.1 * w.1 + w.2 * w.2) * (d.1 * d.1 + d.2 * d.2) = cr w d * cr w d + (d.1 * w.1 + d.2 * w.2) * (d.1 * w.1 + d.2 * w.2) := by unfold cr; grind
  rw [h, e] at h1
  rcases Int.mul_eq_zero.mp (h1.trans (by decide)) with z | z
  · exact hw (P.ext (sq0 z).1 (sq0 z).2)
  · exact hd (P.ext (sq0 z).1 (sq0 z).2)
theorem pos_of_mul {m x : Int} (hm : 0 < m) (h : 0 < m * x) : 0 < x := by
  rcases Int.lt_or_le 0 x with z | z
  · exact z
  · have := Int.mul_nonneg (Int.le_of_lt hm) (show 0 ≤ -x by omega)
    have e : m * -x = -(m * x) := by grind
    omega
theorem nonneg_of_mul {m x : Int} (hm : 0 < m) (h : 0 ≤ m * x) : 0 ≤ x := by
  rcases Int.lt_or_le x 0 with z | z
  · have := Int.mul_pos hm (show 0 < -x by omega)
    have e : m * -x = -(m * x) := by grind
    omega
  · exact z
theorem hf_hp {w : P} {ah : Bool} (hw : w ≠ O) : HP (hf w ah) := by
  refine ⟨fun d hd => ?_, fun u v d m α β hm ha hb hu hv hd e1 e2 => ?_⟩
  · have c1 : cr w (neg d) = - cr w d := by unfold cr neg; simp only; grind
    have c2 : (neg d).1 * w.1 + (neg d).2 * w.2 = -(d.1 * w.1 + d.2 * w.2) := by unfold neg; simp only; grind
    unfold hf
    rw [c1, c2]
    by_cases c : cr w d = 0
    · have := dot_nz hw hd c
      rw [if_neg (by omega), if_neg (by omega)]
      by_cases g : 0 < d.1 * w.1 + d.2 * w.2
      · rw [decide_eq_true g, decide_eq_false (by omega)]
        cases ah <;> rfl
      · rw [decide_eq_false g, decide_eq_true (by omega)]
        cases ah <;> rfl
    · rw [if_pos (by omega), if_pos c]
      by_cases g : 0 < cr w d
      · rw [decide_eq_true g, decide_eq_false (by omega)]
        rfl
      · rw [decide_eq_false g, decide_eq_true (by omega)]
        rfl
  · have c1 : m * cr w d = α * cr w u + β * cr w v := by unfold cr; grind
    have c2 : m * (d.1 * w.1 + d.2 * w.2) = α * (u.1 * w.1 + u.2 * w.2) + β * (v.1 * w.1 + v.2 * w.2) := by grind
    have pu : 0 ≤ cr w u := by
      unfold hf at hu
      by_cases c : cr w u = 0
      · omega
      · rw [if_pos c, decide_eq_true_eq] at hu; omega
    have pv : 0 ≤ cr w v := by
      unfold hf at hv
      by_cases c : cr w v = 0
      · omega
      · rw [if_pos c, decide_eq_true_eq] at hv; omega
    have q1 := Int.mul_nonneg ha pu
    have q2 := Int.mul_nonneg hb pv
    have pd : 0 ≤ cr w d := nonneg_of_mul hm (by omega)
    unfold hf
    by_cases c : cr w d = 0
    · rw [if_neg (by omega)]
      have z : α * cr w u = 0 ∧ β * cr w v = 0 := by rw [c] at c1; omega
      have dz := dot_nz hw hd c
      have su : ah = true → 0 ≤ α * (u.1 * w.1 + u.2 * w.2) := fun t => by
        rcases Int.mul_eq_zero.mp z.1 with z1 | z1
        · rw [z1]; omega
        · unfold hf at hu
          rw [if_neg (by omega), t] at hu
          simp only [beq_iff_eq, decide_eq_true_eq] at hu
          exact Int.mul_nonneg ha (by omega)
      have sv : ah = true → 0 ≤ β * (v.1 * w.1 + v.2 * w.2) := fun t => by
        rcases Int.mul_eq_zero.mp z.2 with z1 | z1
        · rw [z1]; omega
        · unfold hf at hv
          rw [if_neg (by omega), t] at hv
          simp only [beq_iff_eq, decide_eq_true_eq] at hv
          exact Int.mul_nonneg hb (by omega)
      have tu : ah = false → 0 ≤ α * -(u.1 * w.1 + u.2 * w.2) := fun t => by
        rcases Int.mul_eq_zero.mp z.1 with z1 | z1
        · rw [z1]; omega
        · unfold hf at hu
          rw [if_neg (by omega), t] at hu
          simp only [beq_iff_eq, decide_eq_false_iff_not] at hu
          exact Int.mul_nonneg ha (by omega)
      have tv : ah = false → 0 ≤ β * -(v.1 * w.1 + v.2 * w.2) := fun t => by
        rcases Int.mul_eq_zero.mp z.2 with z1 | z1
        · rw [z1]; omega
        · unfold hf at hv
          rw [if_neg (by omega), t] at hv
          simp only [beq_iff_eq, decide_eq_false_iff_not] at hv
          exact Int.mul_nonneg hb (by omega)
      cases ah
      · have h1 := tu rfl
        have h2 := tv rfl
        have h3 : 0 ≤ -(d.1 * w.1 + d.2 * w.2) := nonneg_of_mul hm (by grind)
        rw [decide_eq_false (by omega)]
        rfl
      · have h1 := su rfl
        have h2 := sv rfl
        have h3 : 0 ≤ d.1 * w.1 + d.2 * w.2 := nonneg_of_mul hm (by omega)
        rw [decide_eq_true (by omega)]
        rfl
    · rw [if_pos c]
      exact decide_eq_true (by omega)
/-! ### order within a half circle -/
/-- a corner's wedge, or an edge's -/
def Wd (w : P × P) : Prop := 0 < cr w.1 w.2 ∨ (w.1 ≠ O ∧ w.2 = neg w.1)
theorem Wd.nz {w : P × P} (h : Wd w) : w.1 ≠ O ∧ w.2 ≠ O := by
  rcases h with h | ⟨h1, h2⟩
  · exact cr_nz h
  · exact ⟨h1, by rw [h2]; exact neg_nz h1⟩
/-- the same way -/
def SW (u v : P) : Prop := ∃ m n : Int, 0 < m ∧ 0 < n ∧ m * u.1 = n * v.1 ∧ m * u.2 = n * v.2
theorem SW.R {R : P → Bool} (h : HP R) {u v : P} (hv : v ≠ O) (s : SW u v) (hu : R u = true) : R v = true := by
  obtain ⟨m, n, hm, hn, e1, e2⟩ := s
  exact h.par hn hm hv e1.symm e2.symm hu
/-! ### owners and wedges -/
def wOwn (R : P → Bool) (a b p : P) : Bool := decide (0 < sd a b p) || (decide (sd a b p = 0) && R (sb b a))
def own (R : P → Bool) (t : T3) (p : P) : Bool := wOwn R t.a t.b p && (wOwn R t.b t.c p && wOwn R t.c t.a p)
def wedge (t : T3) (p : P) : Option (Option (P × P)) :=
  if 0 ≤ sd t.a t.b p ∧ 0 ≤ sd t.b t.c p ∧ 0 ≤ sd t.c t.a p then
    if p = t.a then some (some (sb t.b p, sb t.c p)) else if p = t.b then some (some (sb t.c p, sb t.a p)) else if p = t.c then some (some (sb t.a p, sb t.b p))
    else if sd t.a t.b p = 0 then some (some (sb t.b t.a, sb t.a t.b)) else if sd t.b t.c p = 0 then some (some (sb t.c t.b, sb t.b t.c)) else if sd t.c t.a p = 0 then some (some (sb t.a t.c, sb t.c t.a))
    else some none
  else none
theorem wOwn_le {R : P → Bool} {a b p : P} (h : wOwn R a b p = true) : 0 ≤ sd a b p := by
  unfold wOwn at h
  simp only [Bool.or_eq_true, Bool.and_eq_true, decide_eq_true_eq] at h
  omega
theorem wOwn_pos {R : P → Bool} {a b p : P} (h : 0 < sd a b p) : wOwn R a b p = true := by
  unfold wOwn
  rw [decide_eq_true h]
  rfl
theorem wOwn_zero {R : P → Bool} {a b p : P} (h : sd a b p = 0) : wOwn R a b p = R (sb b a) := by
  unfold wOwn
  rw [h]
  simp
theorem sub_neg (a b : P) : sb a b = neg (sb b a) := by unfold sb neg; exact P.ext (by simp only; omega) (by simp only; omega)
theorem sd_cyc (a b c : P) : sd b c a = sd a b c ∧ sd c a b = sd a b c := by unfold sd; constructor <;> grind
theorem sd_aa (a b : P) : sd a b a = 0 ∧ sd a b b = 0 := by unfold sd; constructor <;> grind
theorem sd_ne {a b c : P} (h : 0 < sd a b c) : sb b a ≠ O ∧ sb c b ≠ O ∧ sb a c ≠ O := by
  refine ⟨?_, ?_, ?_⟩ <;>
  · rw [nz]
    rintro ⟨h1, h2⟩
    unfold sb at h1 h2
    simp only at h1 h2
    have e : sd a b c = 0 := by unfold sd; grind
    omega
theorem corner_own {R : P → Bool} (h : HP R) {a b c : P} (g : 0 < sd a b c) : (wOwn R a b a && (wOwn R b c a && wOwn R c a a)) = (R (sb b a) && !R (sb c a)) ∧ Wd (sb b a, sb c a) := by
  have e1 := (sd_aa a b).1
  have e2 := (sd_aa c a).2
  have e3 : 0 < sd b c a := by rw [(sd_cyc a b c).1]; exact g
  have n := (sd_ne g).2.2
  refine ⟨?_, .inl ?_⟩
  · rw [wOwn_zero e1, wOwn_zero e2, wOwn_pos e3, sub_neg a c, h.opp _ (by rw [sub_neg]; exact neg_nz n)]
    simp
  · unfold cr sb
    unfold sd at g
    exact g
theorem edge_own {R : P → Bool} (h : HP R) {a b c p : P} (g : 0 < sd a b c) (h1 : sd a b p = 0) (h2 : 0 < sd b c p) (h3 : 0 < sd c a p) : (wOwn R a b p && (wOwn R b c p && wOwn R c a p)) = (R (sb b a) && !R (sb a b)) ∧ Wd (sb b a, sb a b) := by
  have n := (sd_ne g).1
  refine ⟨?_, .inr ⟨n, sub_neg _ _⟩⟩
  rw [wOwn_zero h1, wOwn_pos h2, wOwn_pos h3, sub_neg a b, h.opp _ n]
  simp
/-- on a line of two edges: the corner -/
theorem at_two {a b c p : P} (g : 0 < sd a b c) (h1 : sd a b p = 0) (h2 : sd c a p = 0) : p = a := by
  have s : sd a b p + sd b c p + sd c a p = sd a b c := by unfold sd; grind
  have k1 : sd a b c * p.1 = sd b c p * a.1 + sd c a p * b.1 + sd a b p * c.1 := by unfold sd; grind
  have k2 : sd a b c * p.2 = sd b c p * a.2 + sd c a p * b.2 + sd a b p * c.2 := by unfold sd; grind
  rw [h1, h2] at s k1 k2
  have e : sd b c p = sd a b c := by omega
  rw [e] at k1 k2
  exact P.ext (Int.eq_of_mul_eq_mul_left (show sd a b c ≠ 0 by omega) (by omega)) (Int.eq_of_mul_eq_mul_left (show sd a b c ≠ 0 by omega) (by omega))
theorem wedge_own {R : P → Bool} (h : HP R) {t : T3} (g : Good t) {p : P} : match wedge t p with
    | none => own R t p = false
    | some none => own R t p = true ∧ 0 < sd t.a t.b p ∧ 0 < sd t.b t.c p ∧ 0 < sd t.c t.a p
    | some (some w) => own R t p = (R w.1 && !R w.2) ∧ Wd w := by
  obtain ⟨a, b, c⟩ := t
  have g1 : 0 < sd a b c := g
  have g2 : 0 < sd b c a := by rw [(sd_cyc a b c).1]; exact g1
  have g3 : 0 < sd c a b := by rw [(sd_cyc a b c).2]; exact g1
  unfold wedge own
  simp only
  by_cases c0 : 0 ≤ sd a b p ∧ 0 ≤ sd b c p ∧ 0 ≤ sd c a p
  · rw [if_pos c0]
    by_cases ca : p = a
    · subst ca
      rw [if_pos rfl]
      exact corner_own h g1
    rw [if_neg ca]
    by_cases cb : p = b
    · subst cb
      rw [if_pos rfl]
      have := corner_own h g2
      refine ⟨?_, this.2⟩
      rw [← this.1]
      cases wOwn R a p p <;> cases wOwn R p c p <;> cases wOwn R c a p <;> rfl
    rw [if_neg cb]
    by_cases cc : p = c
    · subst cc
      rw [if_pos rfl]
      have := corner_own h g3
      refine ⟨?_, this.2⟩
      rw [← this.1]
      cases wOwn R a b p <;> cases wOwn R b p p <;> cases wOwn R p a p <;> rfl
    rw [if_neg cc]
    have nab : ¬ (sd a b p = 0 ∧ sd c a p = 0) := fun z => ca (at_two g1 z.1 z.2)
    have nbc : ¬ (sd b c p = 0 ∧ sd a b p = 0) := fun z => cb (at_two g2 z.1 z.2)
    have nca : ¬ (sd c a p = 0 ∧ sd b c p = 0) := fun z => cc (at_two g3 z.1 z.2)
    by_cases z1 : sd a b p = 0
    · rw [if_pos z1]
      exact edge_own h g1 z1 (by omega) (by omega)
    rw [if_neg z1]
    by_cases z2 : sd b c p = 0
    · rw [if_pos z2]
      have := edge_own h g2 z2 (by omega) (by omega)
      refine ⟨?_, this.2⟩
      rw [← this.1]
      cases wOwn R a b p <;> cases wOwn R b c p <;> cases wOwn R c a p <;> rfl
    rw [if_neg z2]
    by_cases z3 : sd c a p = 0
    · rw [if_pos z3]
      have := edge_own h g3 z3 (by omega) (by omega)
      refine ⟨?_, this.2⟩
      rw [← this.1]
      cases wOwn R a b p <;> cases wOwn R b c p <;> cases wOwn R c a p <;> rfl
    rw [if_neg z3]
    refine ⟨?_, by omega, by omega, by omega⟩
    rw [wOwn_pos (by omega), wOwn_pos (by omega), wOwn_pos (by omega)]
    rfl
  · rw [if_neg c0]
    show _ = false
    cases h1 : wOwn R a b p with
    | false => rfl
    | true =>
      cases h2 : wOwn R b c p with
      | false => rfl
      | true =>
        cases h3 : wOwn R c a p with
        | false => rfl
        | true => exact absurd ⟨wOwn_le h1, wOwn_le h2, wOwn_le h3⟩ c0
/-- shortest -/
def lw (u : P) : P := (u.1 / (Int.gcd u.1 u.2 : Int), u.2 / (Int.gcd u.1 u.2 : Int))
theorem gcd_pos {u : P} (h : u ≠ O) : 0 < (Int.gcd u.1 u.2 : Int) := by
  rw [nz] at h
  have : Int.gcd u.1 u.2 ≠ 0 := fun e => h (Int.gcd_eq_zero_iff.mp e)
  omega
theorem lw_mul (u : P) : (Int.gcd u.1 u.2 : Int) * (lw u).1 = u.1 ∧ (Int.gcd u.1 u.2 : Int) * (lw u).2 = u.2 := ⟨Int.mul_ediv_cancel' (Int.gcd_dvd_left u.1 u.2), Int.mul_ediv_cancel' (Int.gcd_dvd_right u.1 u.2)⟩
/-- inside, as the program tells it -/
def wds (ts : List T3) (p : P) : List (P × P) := ts.filterMap fun t => (wedge t p).bind id
def insB (ts : List T3) (p : P) : Bool := (ts.any fun t => decide (wedge t p = some none)) || (!(wds ts p).isEmpty && (wds ts p).all fun w => (wds ts p).any fun w' => decide (lw w'.1 = lw w.2))
theorem mem_wds {ts : List T3} {p : P} {w : P × P} : w ∈ wds ts p ↔ ∃ t ∈ ts, wedge t p = some (some w) := by
  unfold wds
  rw [List.mem_filterMap]
  constructor
  · rintro ⟨t, ht, e⟩
    refine ⟨t, ht, ?_⟩
    cases z : wedge t p with
    | none => rw [z] at e; cases e
    | some x => rw [z] at e; cases x with
      | none => cases e
      | some y => cases e; rfl
  · rintro ⟨t, ht, e⟩
    exact ⟨t, ht, by rw [e]; rfl⟩
/-! ### at most one -/
theorem own_le {R : P → Bool} {t : T3} {p : P} (h : own R t p = true) : 0 ≤ sd t.a t.b p ∧ 0 ≤ sd t.b t.c p ∧ 0 ≤ sd t.c t.a p := by
  unfold own at h
  simp only [Bool.and_eq_true] at h
  exact ⟨wOwn_le h.1, wOwn_le h.2.1, wOwn_le h.2.2⟩
/-- the edge a → b with R, a triangle on its other side that owns a point on its line -/
theorem one_corner {R : P → Bool} (h : HP R) {d e1 e2 : P} (d0 : d ≠ O) (hd : R d = true) (h1 : R e1 = true) (h2 : R e2 = true) (g : 0 < cr e1 e2) (s1 : 0 ≤ cr d e1) (s2 : cr d e2 ≤ 0) : False := by
  refine h.opp' d0 hd (h.cone e1 e2 (neg d) (cr e1 e2) (-cr d e2) (cr d e1) g (by omega) s1 h1 h2 (neg_nz d0) ?_ ?_)
  · unfold cr neg; grind
  · unfold cr neg; grind
theorem one_edge {R : P → Bool} (h : HP R) {d e q : P} (d0 : d ≠ O) (hd : R d = true) (h1 : R e = true) (par : cr d e = 0) (g : 0 < cr e q) (s : cr d q < 0) : False := by
  refine h.opp' d0 hd (h.par (m := cr e q) (α := -cr d q) g (by omega) (neg_nz d0) ?_ ?_ h1)
  · have : cr d q * e.1 = cr e q * d.1 + cr d e * q.1 := by unfold cr; grind
    rw [par] at this
    unfold neg
    simp only
    grind
  · have : cr d q * e.2 = cr e q * d.2 + cr d e * q.2 := by unfold cr; grind
    rw [par] at this
    unfold neg
    simp only
    grind
theorem not_both {R : P → Bool} (h : HP R) {a b : P} {t : T3} {p : P} (ab : sb b a ≠ O) (g : Good t) (r1 : Rt a b t.a) (r2 : Rt a b t.b) (r3 : Rt a b t.c) (ow : wOwn R a b p = true) (ot : own R t p = true) : False := by
  obtain ⟨q1, q2, q3⟩ := t
  unfold Rt at r1 r2 r3
  simp only at r1 r2 r3
  have g1 : 0 < sd q1 q2 q3 := g
  have le := own_le ot
  simp only at le
  have ow0 := wOwn_le ow
  have id : sd q1 q2 q3 * sd a b p = sd q2 q3 p * sd a b q1 + sd q3 q1 p * sd a b q2 + sd q1 q2 p * sd a b q3 := by unfold sd; grind
  have m1 : 0 ≤ sd q2 q3 p * -sd a b q1 := Int.mul_nonneg le.2.1 (by omega)
  have m2 : 0 ≤ sd q3 q1 p * -sd a b q2 := Int.mul_nonneg le.2.2 (by omega)
  have m3 : 0 ≤ sd q1 q2 p * -sd a b q3 := Int.mul_nonneg le.1 (by omega)
  have m0 := Int.mul_nonneg (Int.le_of_lt g1) ow0
  rw [Int.mul_neg] at m1 m2 m3
  have z1 : sd q2 q3 p * sd a b q1 = 0 := by omega
  have z2 : sd q3 q1 p * sd a b q2 = 0 := by omega
  have z3 : sd q1 q2 p * sd a b q3 = 0 := by omega
  have z0 : sd a b p = 0 := by
    rw [z1, z2, z3] at id
    rcases Int.mul_eq_zero.mp (id.trans (by decide)) with z | z
    · omega
    · exact z
  rw [wOwn_zero z0] at ow
  -- the second triangle is not flat
  have flat : ¬ (sd a b q1 = 0 ∧ sd a b q2 = 0 ∧ sd a b q3 = 0) := by
    rintro ⟨f1, f2, f3⟩
    have k1 : sd q1 q2 q3 * (sb b a).1 = 0 := by
      have : sd q1 q2 q3 * (sb b a).1 = (q3.1 - q1.1) * (sd a b q1 - sd a b q2) - (q2.1 - q1.1) * (sd a b q1 - sd a b q3) := by unfold sd sb; grind
      rw [f1, f2, f3] at this
      omega
    have k2 : sd q1 q2 q3 * (sb b a).2 = 0 := by
      have : sd q1 q2 q3 * (sb b a).2 = (q3.2 - q1.2) * (sd a b q1 - sd a b q2) - (q2.2 - q1.2) * (sd a b q1 - sd a b q3) := by unfold sd sb; grind
      rw [f1, f2, f3] at this
      omega
    refine ab (P.ext ?_ ?_)
    · rcases Int.mul_eq_zero.mp k1 with z | z
      · omega
      · exact z
    · rcases Int.mul_eq_zero.mp k2 with z | z
      · omega
      · exact z
  unfold own at ot
  simp only [Bool.and_eq_true] at ot
  obtain ⟨o1, o2, o3⟩ := ot
  have f1 : sd q2 q3 p ≠ 0 → sd a b q1 = 0 := fun z => by rcases Int.mul_eq_zero.mp z1 with y | y; exact absurd y z; exact y
  have f2 : sd q3 q1 p ≠ 0 → sd a b q2 = 0 := fun z => by rcases Int.mul_eq_zero.mp z2 with y | y; exact absurd y z; exact y
  have f3 : sd q1 q2 p ≠ 0 → sd a b q3 = 0 := fun z => by rcases Int.mul_eq_zero.mp z3 with y | y; exact absurd y z; exact y
  have tot : sd q1 q2 p + sd q2 q3 p + sd q3 q1 p = sd q1 q2 q3 := by unfold sd; grind
  have cd : ∀ x y : P, cr (sb b a) (sb x y) = sd a b x - sd a b y := fun x y => by unfold cr sb sd; grind
  have ce : ∀ x y z : P, cr (sb y x) (sb z y) = sd x y z := fun x y z => by unfold cr sb sd; grind
  have g2 : 0 < sd q2 q3 q1 := by rw [(sd_cyc q1 q2 q3).1]; exact g1
  have g3 : 0 < sd q3 q1 q2 := by rw [(sd_cyc q1 q2 q3).2]; exact g1
  by_cases x1 : sd q2 q3 p = 0
  · have R1 : R (sb q3 q2) = true := by rw [wOwn_zero x1] at o2; exact o2
    by_cases x2 : sd q3 q1 p = 0
    · have R2 : R (sb q1 q3) = true := by rw [wOwn_zero x2] at o3; exact o3
      have s3 := f3 (by omega)
      exact one_corner h ab ow R1 R2 (by rw [ce]; exact g2) (by rw [cd]; omega) (by rw [cd]; omega)
    · have s2 := f2 x2
      by_cases x3 : sd q1 q2 p = 0
      · have R3 : R (sb q2 q1) = true := by rw [wOwn_zero x3] at o1; exact o1
        exact one_corner h ab ow R3 R1 (by rw [ce]; exact g1) (by rw [cd]; omega) (by rw [cd]; omega)
      · have s3 := f3 x3
        exact one_edge h (q := sb q1 q3) ab ow R1 (by rw [cd]; omega) (by rw [ce]; exact g2) (by rw [cd]; omega)
  · have s1 := f1 x1
    by_cases x2 : sd q3 q1 p = 0
    · have R2 : R (sb q1 q3) = true := by rw [wOwn_zero x2] at o3; exact o3
      by_cases x3 : sd q1 q2 p = 0
      · have R3 : R (sb q2 q1) = true := by rw [wOwn_zero x3] at o1; exact o1
        exact one_corner h ab ow R2 R3 (by rw [ce]; exact g3) (by rw [cd]; omega) (by rw [cd]; omega)
      · have s3 := f3 x3
        exact one_edge h (q := sb q2 q1) ab ow R2 (by rw [cd]; omega) (by rw [ce]; exact g3) (by rw [cd]; omega)
    · have s2 := f2 x2
      by_cases x3 : sd q1 q2 p = 0
      · have R3 : R (sb q2 q1) = true := by rw [wOwn_zero x3] at o1; exact o1
        exact one_edge h (q := sb q3 q2) ab ow R3 (by rw [cd]; omega) (by rw [ce]; exact g1) (by rw [cd]; omega)
      · exact flat ⟨s1, s2, f3 x3⟩
theorem one_owner {R : P → Bool} (h : HP R) {s t : T3} (gs : Good s) (gt : Good t) (e : Ed s.a s.b s.c t.a t.b t.c) {p : P} (os : own R s p = true) (ot : own R t p = true) : False := by
  have n := sd_ne gs
  unfold own at os
  simp only [Bool.and_eq_true] at os
  rcases e with ⟨a, b, c⟩ | ⟨a, b, c⟩ | ⟨a, b, c⟩
  · exact not_both h n.1 gt a b c os.1 ot
  · exact not_both h n.2.1 gt a b c os.2.1 ot
  · exact not_both h n.2.2 gt a b c os.2.2 ot
/-- apart, by an edge of either -/
def Ap (s t : T3) : Prop := Ed s.a s.b s.c t.a t.b t.c ∨ Ed t.a t.b t.c s.a s.b s.c
theorem Ap.one {R : P → Bool} (h : HP R) {s t : T3} (gs : Good s) (gt : Good t) (e : Ap s t) {p : P} (os : own R s p = true) (ot : own R t p = true) : False := by
  rcases e with e | e
  · exact one_owner h gs gt e os ot
  · exact one_owner h gt gs e ot os
theorem few {l : List Nat} (nd : l.Nodup) (h : ∀ i ∈ l, ∀ j ∈ l, i = j) : l.length ≤ 1 := by
  match l with
  | [] => simp
  | [a] => simp
  | a :: b :: l =>
    exfalso
    have := h a (by simp) b (by simp)
    subst this
    simp at nd
end SA

set_option Elab.async false
set_option linter.all false
set_option maxRecDepth 100000
set_option maxHeartbeats 4000000
set_option autoImplicit false
/-! Rules and opposites: a point at no corner lies in none, strictly within, or on one edge of a triangle. -/
namespace SA
/-- opposite half circles -/
structure Opp (R R' : P → Bool) : Prop where
  a : HP R
  b : HP R'
  ne : ∀ d, d ≠ O → R' d = !R d
section
variable {R R' : P → Bool} {ts : List T3} {p : P}
end
theorem cr_lin {g : Int} {u v d : P} (h1 : g * v.1 = u.1) (h2 : g * v.2 = u.2) : cr u d = g * cr v d ∧ d.1 * u.1 + d.2 * u.2 = g * (d.1 * v.1 + d.2 * v.2) := by
  unfold cr
  rw [← h1, ← h2]
  constructor <;> grind
theorem hf_lw {u d : P} {ah : Bool} (hu : u ≠ O) : hf (lw u) ah d = hf u ah d := by
  obtain ⟨e1, e2⟩ := lw_mul u
  have g := gcd_pos hu
  obtain ⟨c1, c2⟩ := cr_lin (d := d) e1 e2
  unfold hf
  rw [c1, c2]
  have k1 : (Int.gcd u.1 u.2 : Int) * cr (lw u) d ≠ 0 ↔ cr (lw u) d ≠ 0 := ⟨fun h e => h (by rw [e, Int.mul_zero]), fun h e => by rcases Int.mul_eq_zero.mp e with x | x; omega; exact h x⟩
  have k2 : ∀ x : Int, 0 < (Int.gcd u.1 u.2 : Int) * x ↔ 0 < x := fun x => ⟨fun h => pos_of_mul g h, fun h => Int.mul_pos g h⟩
  simp only [k1, k2]
theorem lw_nz {u : P} (h : u ≠ O) : lw u ≠ O := fun e => by
  obtain ⟨e1, e2⟩ := lw_mul u
  rw [e] at e1 e2
  exact nz.mp h ⟨by rw [← e1]; exact Int.mul_zero _, by rw [← e2]; exact Int.mul_zero _⟩
end SA

set_option Elab.async false
set_option linter.all false
set_option maxRecDepth 100000
set_option maxHeartbeats 4000000
set_option autoImplicit false
/-! Closed sets of directions: half circles. -/
namespace SA
def tot (d e : P) : P := (3 * d.1 + 2 * e.1, 3 * d.2 + 2 * e.2)
def c2 (R : P → Bool) (d e : P) : Bool := !(R d && (R e && (decide (tot d e ≠ O) && !R (tot d e))))
def c1 (R : P → Bool) (W : List P) (d : P) : Bool := !(R d == R (neg d)) && W.all (c2 R d)
end SA

set_option Elab.async false
set_option linter.all false
set_option maxRecDepth 100000
set_option maxHeartbeats 4000000
set_option autoImplicit false
/-! Formulas of spans: what they take is what a table owns, but at corners. -/
namespace SA
def eW (l r : Bool) (a b p : P) : Bool := if a.2 = b.2 then true else (decide (0 < sd a b p) || (decide (sd a b p = 0) && (if b.2 < a.2 then l else r)))
def lo3 (x y z : Int) : Int := if x ≤ y then (if x ≤ z then x else z) else (if y ≤ z then y else z)
def hi3 (x y z : Int) : Int := if x ≤ y then (if y ≤ z then z else y) else (if x ≤ z then z else x)
def yOk (bo to : Bool) (lo hi y : Int) : Bool := (decide (lo < y) || (decide (y = lo) && bo)) && (decide (y < hi) || (decide (hi = y) && to))
def tk (l r bo to : Bool) (t : T3) (p : P) : Bool := yOk bo to (lo3 t.a.2 t.b.2 t.c.2) (hi3 t.a.2 t.b.2 t.c.2) p.2 && (eW l r t.a t.b p && (eW l r t.b t.c p && eW l r t.c t.a p))
theorem bary (a b c p : P) : sd a b c * (p.2 - a.2) = sd c a p * (b.2 - a.2) + sd a b p * (c.2 - a.2) := by unfold sd; grind
end SA

set_option Elab.async false
set_option linter.all false
set_option maxRecDepth 100000
set_option maxHeartbeats 4000000
set_option autoImplicit false
namespace SO
/-! directions, their order against the clock: plain lists of pairs -/
abbrev P := Int × Int
def cr (p q : P) : Int := p.1 * q.2 - p.2 * q.1
/-- the kind -/
def kd (p : P) : Int := if p.2 = 0 then (if 0 < p.1 then 0 else 4) else if 0 < p.2 then (if 0 < p.1 then 1 else if p.1 = 0 then 2 else 3) else (if p.1 < 0 then 5 else if p.1 = 0 then 6 else 7)
def nz (p : P) : Prop := ¬ (p.1 = 0 ∧ p.2 = 0)
/-- a way that all of a kind go with -/
def up (k : Int) : P := if k = 0 then (1, 0) else if k = 1 then (1, 1) else if k = 2 then (0, 1) else if k = 3 then (-1, 1) else if k = 4 then (-1, 0) else if k = 5 then (-1, -1) else if k = 6 then (0, -1) else (1, -1)
def dt (p q : P) : Int := p.1 * q.1 + p.2 * q.2
theorem dt_up {p : P} (h : nz p) : 0 < dt (up (kd p)) p := by
  obtain ⟨x, y⟩ := p
  unfold nz at h
  simp only at h
  unfold kd
  simp only
  repeat' split
  all_goals simp [up, dt]
  all_goals omega
theorem cr_dt (u p q r : P) : cr p r * dt u q = cr p q * dt u r + cr q r * dt u p := by
  unfold cr dt
  grind
theorem pos_of_mul {a b : Int} (hb : 0 < b) (h : 0 ≤ a * b) : 0 ≤ a := by
  apply Int.not_lt.mp
  intro ha
  have := Int.mul_neg_of_neg_of_pos ha hb
  omega
/-- p is not behind q -/
def Ord (p q : P) : Prop := kd p < kd q ∨ (kd p = kd q ∧ 0 ≤ cr p q)
theorem le_trans' {p q r : P} (hp : nz p) (hq : nz q) (hr : nz r) (h1 : kd p = kd q) (h2 : kd q = kd r) (a : 0 ≤ cr p q) (b : 0 ≤ cr q r) : 0 ≤ cr p r := by
  have u1 := dt_up hp
  have u2 := dt_up hq
  have u3 := dt_up hr
  rw [h1] at u1
  rw [← h2] at u3
  have e := cr_dt (up (kd q)) p q r
  have z1 := Int.mul_nonneg a (Int.le_of_lt u3)
  have z2 := Int.mul_nonneg b (Int.le_of_lt u1)
  exact pos_of_mul u2 (by omega)
theorem Ord.trans {p q r : P} (hp : nz p) (hq : nz q) (hr : nz r) (a : Ord p q) (b : Ord q r) : Ord p r := by
  rcases a with a | ⟨a, a'⟩
  · rcases b with b | ⟨b, b'⟩
    · exact .inl (by omega)
    · exact .inl (by omega)
  · rcases b with b | ⟨b, b'⟩
    · exact .inl (by omega)
    · exact .inr ⟨by omega, le_trans' hp hq hr a b a' b'⟩
/-! put_in -/
def insR (p : P) : List P → List P
  | [] => [p]
  | q :: t => if 0 < cr p q then q :: insR p t else p :: q :: t
def insP (p : P) (l : List P) : List P := (insR p l.reverse).reverse
def sortK (l : List P) : List P := l.foldl (fun acc p => insP p acc) []
/-! those that go the same way keep their order -/
def same (p q : P) : Prop := p.1 * q.2 = p.2 * q.1 ∧ 0 < p.1 * q.1 + p.2 * q.2
instance (p q : P) : Decidable (same p q) := by unfold same; infer_instance
end SO

set_option Elab.async false
set_option linter.all false
set_option maxRecDepth 100000
set_option maxHeartbeats 4000000
set_option autoImplicit false
namespace SO
/-- sorted_around -/
def S (l : List P) : List P := (List.range 8).flatMap fun k => sortK (l.filter fun p => decide (kd p = (k : Nat)))
/-! only one order -/
/-! a quarter -/
end SO

set_option Elab.async false
set_option linter.all false
set_option maxRecDepth 100000
set_option maxHeartbeats 4000000
set_option autoImplicit false
/-! Rules within rules: kinds of a half, some and all of them. -/
namespace SA
def qk (isW : Bool) (c1 c2 : Int) : Bool := if isW then decide (0 ≤ c1) && decide (0 ≤ c2) else decide (0 < c1) || decide (0 < c2)
/-- kinds of a half: some (all) of their directions are in -/
def hK (isW : Bool) (w : P) (ah : Bool) : List Bool := [hf w ah (1, 0), qk isW (cr w (1, 0)) (cr w (0, 1)), hf w ah (0, 1), qk isW (cr w (0, 1)) (cr w (-1, 0)), hf w ah (-1, 0), qk isW (cr w (-1, 0)) (cr w (0, -1)), hf w ah (0, -1), qk isW (cr w (0, -1)) (cr w (1, 0))]
section
variable {w : P} {ah : Bool}
end
end SA

set_option Elab.async false
set_option linter.all false
set_option maxRecDepth 100000
set_option maxHeartbeats 4000000
set_option autoImplicit false
/-! Rules within rules told by few directions. -/
namespace SA
def units : List P := [(1, 0), (-1, 0), (0, 1), (0, -1)]
def s4 (w : P) : Prop := -4 ≤ w.1 ∧ w.1 ≤ 4 ∧ -4 ≤ w.2 ∧ w.2 ≤ 4
end SA

set_option Elab.async false
set_option linter.all false
set_option maxRecDepth 100000
set_option maxHeartbeats 4000000
set_option autoImplicit false
/-! Stretched and moved. -/
namespace SA
def mu (m : Int) (d : P) : P := (m * d.1, m * d.2)
section
variable {m : Int} {b : P}
theorem mm (hm : 0 < m) : 0 < m * m := Int.mul_pos hm hm
end
end SA

set_option linter.all false
set_option maxRecDepth 100000
set_option autoImplicit false
/-! Sets of points, each once, by rows. -/
namespace SP
abbrev P := Int × Int
def lt2 (a b : P) : Prop := a.2 < b.2 ∨ (a.2 = b.2 ∧ a.1 < b.1)
abbrev Canon (l : List P) : Prop := l.Pairwise lt2
theorem lt2_irrefl {a : P} (h : lt2 a a) : False := by unfold lt2 at h; omega
theorem lt2_asymm {a b : P} (h : lt2 a b) (k : lt2 b a) : False := by unfold lt2 at h k; omega
theorem asc_ext {α : Type} {R : α → α → Prop} (irr : ∀ a, ¬ R a a) (asy : ∀ a b, R a b → ¬ R b a) : ∀ {l l' : List α}, l.Pairwise R → l'.Pairwise R → (∀ p, p ∈ l ↔ p ∈ l') → l = l'
  | [], [], _, _, _ => rfl
  | [], b :: l', _, _, e => absurd ((e b).mpr List.mem_cons_self) (by simp)
  | a :: l, [], _, _, e => absurd ((e a).mp List.mem_cons_self) (by simp)
  | a :: l, b :: l', h, h', e => by
    obtain ⟨h1, h2⟩ := List.pairwise_cons.mp h
    obtain ⟨h1', h2'⟩ := List.pairwise_cons.mp h'
    have hab : a = b := by
      rcases List.mem_cons.mp ((e a).mp List.mem_cons_self) with z | z
      · exact z
      · rcases List.mem_cons.mp ((e b).mpr List.mem_cons_self) with y | y
        · exact y.symm
        · exact (asy _ _ (h1 b y) (h1' a z)).elim
    subst hab
    congr 1
    refine asc_ext irr asy h2 h2' fun p => ⟨fun hp => ?_, fun hp => ?_⟩
    · rcases List.mem_cons.mp ((e p).mp (List.mem_cons_of_mem _ hp)) with z | z
      · exact (irr a (z ▸ h1 p hp)).elim
      · exact z
    · rcases List.mem_cons.mp ((e p).mpr (List.mem_cons_of_mem _ hp)) with z | z
      · exact (irr a (z ▸ h1' p hp)).elim
      · exact z
theorem canon_ext {l l' : List P} (h : Canon l) (h' : Canon l') (e : ∀ p, p ∈ l ↔ p ∈ l') : l = l' := asc_ext (fun _ => lt2_irrefl) (fun _ _ => lt2_asymm) h h' e
theorem int_ext {l l' : List Int} (h : l.Pairwise (· < ·)) (h' : l'.Pairwise (· < ·)) (e : ∀ p, p ∈ l ↔ p ∈ l') : l = l' := asc_ext (R := fun a b : Int => a < b) (fun a => Int.lt_irrefl a) (fun a b => Int.lt_asymm) h h' e
theorem canon_nodup {l : List P} (h : Canon l) : l.Nodup := List.Pairwise.imp (fun {a b} (r : lt2 a b) => fun (e : a = b) => lt2_irrefl (e ▸ r)) h
/-- rows put together -/
theorem canon_rows {xs : Int → List Int} : ∀ {ys : List Int}, ys.Pairwise (· < ·) → (∀ y, (xs y).Pairwise (· < ·)) → Canon (ys.flatMap fun y => (xs y).map fun x => (x, y))
  | [], _, _ => by simp [Canon]
  | y :: ys, h, hx => by
    obtain ⟨h1, h2⟩ := List.pairwise_cons.mp h
    rw [List.flatMap_cons]
    refine List.pairwise_append.mpr ⟨?_, canon_rows h2 hx, fun a ha b hb => ?_⟩
    · rw [List.pairwise_map]
      exact (hx y).imp fun {a b} r => .inr ⟨rfl, r⟩
    · obtain ⟨x, _, rfl⟩ := List.mem_map.mp ha
      obtain ⟨y', hy', hb⟩ := List.mem_flatMap.mp hb
      obtain ⟨x', _, rfl⟩ := List.mem_map.mp hb
      exact .inl (h1 y' hy')
theorem rows_mem {xs : Int → List Int} {ys : List Int} {p : P} : p ∈ (ys.flatMap fun y => (xs y).map fun x => (x, y)) ↔ p.2 ∈ ys ∧ p.1 ∈ xs p.2 := by
  rw [List.mem_flatMap]
  constructor
  · rintro ⟨y, hy, hp⟩
    obtain ⟨x, hx, rfl⟩ := List.mem_map.mp hp
    exact ⟨hy, hx⟩
  · rintro ⟨h1, h2⟩
    exact ⟨p.2, h1, List.mem_map.mpr ⟨p.1, h2, rfl⟩⟩
/-! ### steps -/
/-- a, a + st, .. up to h -/
def ups (a st h : Int) : List Int := (List.range ((h - a) / st + 1).toNat).map fun (i : Nat) => a + (i : Int) * st
theorem ups_mem {a st h z : Int} (hs : 1 ≤ st) : z ∈ ups a st h ↔ a ≤ z ∧ z ≤ h ∧ (z - a) % st = 0 := by
  unfold ups
  rw [List.mem_map]
  constructor
  · rintro ⟨i, hi, rfl⟩
    have hi := List.mem_range.mp hi
    have h1 : (i : Int) ≤ (h - a) / st := by omega
    have h2 := Int.mul_le_mul_of_nonneg_right h1 (show 0 ≤ st by omega)
    have h3 := Int.ediv_mul_le (h - a) (show st ≠ 0 by omega)
    refine ⟨?_, by omega, ?_⟩
    · have : 0 ≤ (i : Int) * st := Int.mul_nonneg (by omega) (by omega)
      omega
    · rw [show a + (i : Int) * st - a = i * st by omega]
      exact Int.mul_emod_left _ _
  · rintro ⟨h1, h2, h3⟩
    obtain ⟨k, hk⟩ := Int.dvd_of_emod_eq_zero h3
    have hk0 : 0 ≤ k := by
      by_cases c : 0 ≤ k
      · exact c
      · have := Int.mul_le_mul_of_nonneg_left (show k ≤ -1 by omega) (show 0 ≤ st by omega)
        omega
    have hk1 : k ≤ (h - a) / st := by
      rw [Int.le_ediv_iff_mul_le (by omega)]
      rw [Int.mul_comm]
      omega
    refine ⟨k.toNat, List.mem_range.mpr (by omega), ?_⟩
    rw [Int.toNat_of_nonneg hk0, Int.mul_comm]
    omega
theorem ups_asc {a st h : Int} (hs : 1 ≤ st) : (ups a st h).Pairwise (· < ·) := by
  unfold ups
  rw [List.pairwise_map]
  refine List.pairwise_lt_range.imp fun {i j} r => ?_
  have := Int.mul_lt_mul_of_pos_right (show (i : Int) < j by omega) (show 0 < st by omega)
  omega
theorem ups_nil {a st h : Int} (hs : 1 ≤ st) (c : h < a) : ups a st h = [] := by
  unfold ups
  have : (h - a) / st < 0 := by
    rw [Int.ediv_lt_iff_lt_mul (by omega)]
    omega
  rw [show ((h - a) / st + 1).toNat = 0 by omega]
  rfl
theorem ups_cons {a st h : Int} (hs : 1 ≤ st) (c : a ≤ h) : ups a st h = a :: ups (a + st) st h := by
  refine int_ext (ups_asc hs) (List.pairwise_cons.mpr ⟨fun z hz => ?_, ups_asc hs⟩) fun z => ?_
  · have := ((ups_mem hs).mp hz).1
    omega
  · rw [List.mem_cons, ups_mem hs, ups_mem hs]
    have e : (z - (a + st)) % st = (z - a) % st := by rw [show z - (a + st) = (z - a) - st by omega, Int.sub_emod_right]
    rw [e]
    constructor
    · rintro ⟨h1, h2, h3⟩
      by_cases q : z = a
      · exact .inl q
      · refine .inr ⟨?_, h2, h3⟩
        obtain ⟨k, hk⟩ := Int.dvd_of_emod_eq_zero h3
        have : 1 ≤ k := by
          by_cases c : 1 ≤ k
          · exact c
          · have := Int.mul_le_mul_of_nonneg_left (show k ≤ 0 by omega) (show 0 ≤ st by omega)
            omega
        have := Int.mul_le_mul_of_nonneg_left this (show 0 ≤ st by omega)
        omega
    · rintro (rfl | ⟨h1, h2, h3⟩)
      · exact ⟨Int.le_refl _, c, by simp⟩
      · exact ⟨by omega, h2, h3⟩
/-- the first number from a on with rest r -/
def fst (a r st : Int) : Int := a + (r - a) % st
theorem fst_mem {a r st h z : Int} (hs : 1 ≤ st) : z ∈ ups (fst a r st) st h ↔ a ≤ z ∧ z ≤ h ∧ (z - r) % st = 0 := by
  rw [ups_mem hs]
  unfold fst
  have h0 := Int.emod_nonneg (r - a) (show st ≠ 0 by omega)
  have h1 := Int.emod_lt_of_pos (r - a) (show 0 < st by omega)
  have e : (z - (a + (r - a) % st)) % st = (z - r) % st := by
    rw [show z - (a + (r - a) % st) = (z - a) - (r - a) % st by omega, Int.sub_emod, Int.emod_emod, ← Int.sub_emod]
    congr 1
    omega
  rw [e]
  refine ⟨fun ⟨a1, a2, a3⟩ => ⟨by omega, a2, a3⟩, fun ⟨a1, a2, a3⟩ => ⟨?_, a2, a3⟩⟩
  -- z - r and a + .. have the same rest
  obtain ⟨k, hk⟩ := Int.dvd_of_emod_eq_zero a3
  have hd := Int.emod_add_mul_ediv (r - a) st
  by_cases c : a + (r - a) % st ≤ z
  · exact c
  · -- z < a + rest, z ≥ a: then st divides a number strictly between
    have e2 : z - a = st * (k + (r - a) / st) + (r - a) % st := by
      rw [Int.mul_add]
      omega
    have : k + (r - a) / st ≤ -1 ∨ 0 ≤ k + (r - a) / st := by omega
    rcases this with t | t
    · have := Int.mul_le_mul_of_nonneg_left t (show 0 ≤ st by omega)
      omega
    · have := Int.mul_le_mul_of_nonneg_left t (show 0 ≤ st by omega)
      omega
/-- the samples of a box -/
def box (st rx ry : Int) (lo hi : P) : List P := (ups (fst lo.2 ry st) st hi.2).flatMap fun y => (ups (fst lo.1 rx st) st hi.1).map fun x => (x, y)
theorem box_canon {st rx ry : Int} {lo hi : P} (hs : 1 ≤ st) : Canon (box st rx ry lo hi) := canon_rows (xs := fun _ => ups (fst lo.1 rx st) st hi.1) (ups_asc hs) fun _ => ups_asc hs
theorem box_mem {st rx ry : Int} {lo hi p : P} (hs : 1 ≤ st) : p ∈ box st rx ry lo hi ↔ (lo.1 ≤ p.1 ∧ p.1 ≤ hi.1 ∧ (p.1 - rx) % st = 0) ∧ (lo.2 ≤ p.2 ∧ p.2 ≤ hi.2 ∧ (p.2 - ry) % st = 0) := by
  unfold box
  rw [rows_mem (xs := fun _ => ups (fst lo.1 rx st) st hi.1), fst_mem hs, fst_mem hs]
  exact ⟨fun ⟨a, b⟩ => ⟨b, a⟩, fun ⟨a, b⟩ => ⟨b, a⟩⟩
theorem nodup_len {α : Type} [DecidableEq α] : ∀ {l l' : List α}, l.Nodup → (∀ x ∈ l, x ∈ l') → l.length ≤ l'.length
  | [], _, _, _ => Nat.zero_le _
  | a :: l, l', h, k => by
    obtain ⟨h1, h2⟩ := List.nodup_cons.mp h
    have ha := k a List.mem_cons_self
    have ih := nodup_len (l := l) (l' := l'.erase a) h2 fun x hx => by
      have hne : x ≠ a := fun e => h1 (e ▸ hx)
      exact (List.mem_erase_of_ne hne).mpr (k x (List.mem_cons_of_mem _ hx))
    rw [List.length_erase_of_mem ha] at ih
    have := List.length_pos_of_mem ha
    rw [List.length_cons]
    omega
theorem canon_app {r : List P} {xs : List Int} {y : Int} (h : Canon r) (hx : xs.Pairwise (· < ·)) (k : ∀ p ∈ r, p.2 < y) : Canon (r ++ xs.map fun x => (x, y)) := by
  refine List.pairwise_append.mpr ⟨h, ?_, fun a ha b hb => ?_⟩
  · rw [List.pairwise_map]
    exact hx.imp fun {a b} q => .inr ⟨rfl, q⟩
  · obtain ⟨x, _, rfl⟩ := List.mem_map.mp hb
    exact .inl (k a ha)
theorem rows_len {xs : List Int} : ∀ {ys : List Int}, (ys.flatMap fun y => xs.map fun x => ((x, y) : P)).length = ys.length * xs.length
  | [] => by simp
  | y :: ys => by
    rw [List.flatMap_cons, List.length_append, rows_len, List.length_map, List.length_cons, Nat.add_mul, Nat.one_mul, Nat.add_comm]
theorem ups_len {a st h : Int} (hs : 1 ≤ st) {n : Nat} (hn : h - a < n) : (ups a st h).length ≤ n := by
  unfold ups
  rw [List.length_map, List.length_range]
  by_cases c : 0 ≤ h - a
  · have h1 := Int.ediv_le_self st c
    omega
  · have : (h - a) / st < 0 := by
      rw [Int.ediv_lt_iff_lt_mul (by omega)]
      omega
    omega
theorem box_len {st rx ry : Int} {lo hi : P} (hs : 1 ≤ st) {n m : Nat} (hn : hi.1 - lo.1 < n) (hm : hi.2 - lo.2 < m) : (box st rx ry lo hi).length ≤ m * n := by
  unfold box
  rw [rows_len]
  have f1 : ∀ a r, a ≤ fst a r st := fun a r => by
    unfold fst
    have := Int.emod_nonneg (r - a) (show st ≠ 0 by omega)
    omega
  exact Nat.mul_le_mul (ups_len hs (by have := f1 lo.2 ry; omega)) (ups_len hs (by have := f1 lo.1 rx; omega))
end SP

set_option linter.all false
set_option maxRecDepth 100000
set_option autoImplicit false
namespace SA
theorem wOwn_nn {R : P → Bool} {a b p : P} (h : wOwn R a b p = true) : 0 ≤ sd a b p := by
  unfold wOwn at h
  simp only [Bool.or_eq_true, Bool.and_eq_true, decide_eq_true_eq] at h
  omega
theorem in_side {s1 s2 s3 A x a b c lo : Int} (hA : 0 < A) (e : A * x = s1 * a + s2 * b + s3 * c) (es : s1 + s2 + s3 = A) (h1 : 0 ≤ s1) (h2 : 0 ≤ s2) (h3 : 0 ≤ s3) (ha : lo ≤ a) (hb : lo ≤ b) (hc : lo ≤ c) : lo ≤ x := by
  have k1 := Int.mul_nonneg h1 (show 0 ≤ a - lo by omega)
  have k2 := Int.mul_nonneg h2 (show 0 ≤ b - lo by omega)
  have k3 := Int.mul_nonneg h3 (show 0 ≤ c - lo by omega)
  have e2 : A * (x - lo) = s1 * (a - lo) + s2 * (b - lo) + s3 * (c - lo) := by
    subst es
    grind
  by_cases q : lo ≤ x
  · exact q
  · have := Int.mul_le_mul_of_nonneg_left (show x - lo ≤ -1 by omega) (Int.le_of_lt hA)
    omega
/-- what is within all sides is within the box -/
theorem in_box {a b c p lo hi : P} (g : 0 < sd a b c) (h1 : 0 ≤ sd a b p) (h2 : 0 ≤ sd b c p) (h3 : 0 ≤ sd c a p) (hb : ∀ q ∈ [a, b, c], lo.1 ≤ q.1 ∧ q.1 ≤ hi.1 ∧ lo.2 ≤ q.2 ∧ q.2 ≤ hi.2) : lo.1 ≤ p.1 ∧ p.1 ≤ hi.1 ∧ lo.2 ≤ p.2 ∧ p.2 ≤ hi.2 := by
  have ha := hb a (by simp)
  have hbb := hb b (by simp)
  have hc := hb c (by simp)
  have es : sd b c p + sd c a p + sd a b p = sd a b c := by unfold sd; grind
  have ex : sd a b c * p.1 = sd b c p * a.1 + sd c a p * b.1 + sd a b p * c.1 := by unfold sd; grind
  have ey : sd a b c * p.2 = sd b c p * a.2 + sd c a p * b.2 + sd a b p * c.2 := by unfold sd; grind
  refine ⟨in_side g ex es h2 h3 h1 ha.1 hbb.1 hc.1, ?_, in_side g ey es h2 h3 h1 ha.2.2.1 hbb.2.2.1 hc.2.2.1, ?_⟩
  · have := in_side (lo := -hi.1) (x := -p.1) (a := -a.1) (b := -b.1) (c := -c.1) g (by rw [Int.mul_neg, ex]; grind) es h2 h3 h1 (by omega) (by omega) (by omega)
    omega
  · have := in_side (lo := -hi.2) (x := -p.2) (a := -a.2) (b := -b.2) (c := -c.2) g (by rw [Int.mul_neg, ey]; grind) es h2 h3 h1 (by omega) (by omega) (by omega)
    omega
theorem own_box {R : P → Bool} {t : T3} {p lo hi : P} (g : Good t) (h : own R t p = true) (hb : ∀ q ∈ [t.a, t.b, t.c], lo.1 ≤ q.1 ∧ q.1 ≤ hi.1 ∧ lo.2 ≤ q.2 ∧ q.2 ≤ hi.2) : lo.1 ≤ p.1 ∧ p.1 ≤ hi.1 ∧ lo.2 ≤ p.2 ∧ p.2 ≤ hi.2 := by
  unfold own at h
  simp only [Bool.and_eq_true] at h
  exact in_box g (wOwn_nn h.1) (wOwn_nn h.2.1) (wOwn_nn h.2.2) hb
end SA

set_option Elab.async false
set_option linter.all false
set_option maxRecDepth 100000
set_option maxHeartbeats 4000000
set_option autoImplicit false
/-! Samples moved, stretched and put together. -/
namespace SA
section
variable {m : Int}
end
end SA
namespace SP
open SA
/-- what lies in a box is few -/
theorem few {l : List P} {lo hi : P} {n m : Nat} (h : Canon l) (hb : ∀ p ∈ l, lo.1 ≤ p.1 ∧ p.1 ≤ hi.1 ∧ lo.2 ≤ p.2 ∧ p.2 ≤ hi.2) (hn : hi.1 - lo.1 < n) (hm : hi.2 - lo.2 < m) : l.length ≤ m * n := by
  refine Nat.le_trans (nodup_len (canon_nodup h) (l' := box 1 0 0 lo hi) fun x hx => ?_) (box_len (by decide) hn hm)
  have := hb x hx
  exact (box_mem (by decide)).mpr ⟨⟨this.1, this.2.1, by omega⟩, this.2.2.1, this.2.2.2, by omega⟩
end SP

set_option Elab.async false
set_option linter.all false
set_option maxRecDepth 100000
set_option maxHeartbeats 4000000
set_option autoImplicit false
/-! Turns: what a way adds; the ways of a triangle add what it owns. -/
namespace SA
def left (w : P) (ah : Bool) (a b p : P) : Bool := decide (0 < sd a b p) || (decide (sd a b p = 0) && hf w ah (sb b a))
/-- the moved point, all seen greater -/
def up1 (w : P) : P := (-w.1, -w.2)
def up2 (w : P) (ah : Bool) : P := if ah then (-w.2, w.1) else (w.2, -w.1)
def below (w : P) (ah : Bool) (a p : P) : Bool := decide (a.2 < p.2) || (decide (a.2 = p.2) && (decide (0 < (up1 w).2) || (decide ((up1 w).2 = 0) && decide (0 < (up2 w ah).2))))
/-- what a way adds to the turns around a point -/
def way (w : P) (ah : Bool) (p a b : P) : Int := if below w ah a p == below w ah b p then 0 else (if below w ah a p && left w ah a b p then 1 else 0) - (if below w ah b p && !left w ah a b p then 1 else 0)
def wayB (ba bb l : Bool) : Int := if ba == bb then 0 else (if ba && l then 1 else 0) - (if bb && !l then 1 else 0)
def sgn (b : Bool) (x : Int) : Prop := (b = true → 0 < x) ∧ (b = false → x < 0)
theorem sgn_mul {b c : Bool} {x y : Int} (h1 : sgn b x) (h2 : sgn c y) : (b = c → 0 < x * y) ∧ (b ≠ c → x * y < 0) := by
  cases b <;> cases c
  · exact ⟨fun _ => Int.mul_pos_of_neg_of_neg (h1.2 rfl) (h2.2 rfl), fun h => absurd rfl h⟩
  · exact ⟨fun h => (nomatch h), fun _ => Int.mul_neg_of_neg_of_pos (h1.2 rfl) (h2.1 rfl)⟩
  · exact ⟨fun h => (nomatch h), fun _ => Int.mul_neg_of_pos_of_neg (h1.1 rfl) (h2.2 rfl)⟩
  · exact ⟨fun _ => Int.mul_pos (h1.1 rfl) (h2.1 rfl), fun h => absurd rfl h⟩
theorem signs {l1 l2 l3 b1 b2 b3 : Bool} {s1 s2 s3 y1 y2 y3 : Int} (h1 : sgn l1 s1) (h2 : sgn l2 s2) (h3 : sgn l3 s3) (k1 : sgn b1 y1) (k2 : sgn b2 y2) (k3 : sgn b3 y3) (sum : 0 < s1 + s2 + s3) (bary : s2 * y1 + s3 * y2 + s1 * y3 = 0) :
    wayB b1 b2 l1 + wayB b2 b3 l2 + wayB b3 b1 l3 = if l1 && (l2 && l3) then 1 else 0 := by
  have p1 := sgn_mul h2 k1
  have p2 := sgn_mul h3 k2
  have p3 := sgn_mul h1 k3
  unfold sgn at h1 h2 h3
  generalize s2 * y1 = q1 at *
  generalize s3 * y2 = q2 at *
  generalize s1 * y3 = q3 at *
  clear k1 k2 k3
  cases l1 <;> cases l2 <;> cases l3 <;> cases b1 <;> cases b2 <;> cases b3 <;> first | decide | (exfalso; simp at p1 p2 p3 h1 h2 h3; omega)
/-- any triple: against the clock what it owns, with it what it owns turned over, taken away -/
def ahead (w : P) (ah : Bool) (a b c p : P) : Bool := decide (0 < sd a b c) && own (hf w ah) ⟨a, b, c⟩ p
def back (w : P) (ah : Bool) (a b c p : P) : Bool := decide (sd a b c < 0) && own (hf w ah) ⟨a, c, b⟩ p
end SA

set_option Elab.async false
set_option linter.all false
set_option maxRecDepth 100000
set_option maxHeartbeats 4000000
set_option autoImplicit false
/-! Turned and moved planes; sums of ways of rims and rings. -/
namespace SA
/-- a map of the plane that keeps sides; L: what it does to directions -/
structure Iso (φ L : P → P) : Prop where
  sd : ∀ a b p, sd (φ a) (φ b) (φ p) = sd a b p
  sb : ∀ a b, sb (φ a) (φ b) = L (sb a b)
  inj : ∀ a b, φ a = φ b ↔ a = b
  lw : ∀ d e, d ≠ O → e ≠ O → (lw (L d) = lw (L e) ↔ lw d = lw e)
def mT (φ : P → P) (t : T3) : T3 := ⟨φ t.a, φ t.b, φ t.c⟩
section
variable {φ L : P → P} {R R' : P → Bool}
theorem Iso.own (I : Iso φ L) (h : ∀ d, R' (L d) = R d) (t : T3) (p : P) : own R' (mT φ t) (φ p) = own R t p := by
  unfold SA.own wOwn mT
  simp only [I.sd, I.sb, h]
theorem Iso.rt (I : Iso φ L) {x y z : P} (h : Rt x y z) : Rt (φ x) (φ y) (φ z) := by
  unfold Rt at *
  rw [I.sd]
  exact h
theorem Iso.ed (I : Iso φ L) {a c e p q r : P} (h : Ed a c e p q r) : Ed (φ a) (φ c) (φ e) (φ p) (φ q) (φ r) := by
  rcases h with ⟨h1, h2, h3⟩ | ⟨h1, h2, h3⟩ | ⟨h1, h2, h3⟩
  · exact .inl ⟨I.rt h1, I.rt h2, I.rt h3⟩
  · exact .inr (.inl ⟨I.rt h1, I.rt h2, I.rt h3⟩)
  · exact .inr (.inr ⟨I.rt h1, I.rt h2, I.rt h3⟩)
def L2w (L : P → P) (w : P × P) : P × P := (L w.1, L w.2)
theorem Iso.wedge (I : Iso φ L) (t : T3) (p : P) : wedge (mT φ t) (φ p) = (wedge t p).map fun o => o.map (L2w L) := by
  unfold SA.wedge mT
  simp only [I.sd, I.sb, I.inj]
  repeat' split
  all_goals rfl
theorem Iso.wds (I : Iso φ L) (ts : List T3) (p : P) : wds (ts.map (mT φ)) (φ p) = (wds ts p).map (L2w L) := by
  unfold SA.wds
  rw [List.filterMap_map, List.map_filterMap]
  congr 1
  funext t
  simp only [Function.comp]
  rw [I.wedge]
  cases SA.wedge t p with
  | none => rfl
  | some o => cases o <;> rfl
theorem wds_nz {ts : List T3} (hg : ∀ t ∈ ts, Good t) {p : P} : ∀ w ∈ wds ts p, w.1 ≠ O ∧ w.2 ≠ O := fun w hw => by
  obtain ⟨t, ht, e⟩ := mem_wds.mp hw
  have := wedge_own (hf_hp (w := (1, 0)) (ah := true) (by decide)) (hg t ht) (p := p)
  rw [e] at this
  exact this.2.nz
theorem Iso.insB (I : Iso φ L) {ts : List T3} (hg : ∀ t ∈ ts, Good t) (p : P) : insB (ts.map (mT φ)) (φ p) = insB ts p := by
  have e1 : ∀ t : T3, decide (SA.wedge (mT φ t) (φ p) = some none) = decide (SA.wedge t p = some none) := fun t => by
    rw [I.wedge]
    cases SA.wedge t p with
    | none => rfl
    | some o => cases o <;> simp
  unfold SA.insB
  rw [I.wds, List.any_map]
  congr 1
  · congr 1
    funext t
    exact e1 t
  · congr 1
    · cases SA.wds ts p <;> rfl
    · rw [List.all_map]
      have nz := wds_nz hg (p := p)
      generalize SA.wds ts p = ws at nz
      rw [Bool.eq_iff_iff, List.all_eq_true, List.all_eq_true]
      constructor
      · intro h w hw
        obtain ⟨w', hw', e⟩ := List.any_eq_true.mp (h w hw)
        obtain ⟨w0, h0, rfl⟩ := List.mem_map.mp hw'
        exact List.any_eq_true.mpr ⟨w0, h0, decide_eq_true ((I.lw _ _ (nz w0 h0).1 (nz w hw).2).mp (of_decide_eq_true e))⟩
      · intro h w hw
        obtain ⟨w', hw', e⟩ := List.any_eq_true.mp (h w hw)
        exact List.any_eq_true.mpr ⟨L2w L w', List.mem_map.mpr ⟨w', hw', rfl⟩, decide_eq_true ((I.lw _ _ (nz w' hw').1 (nz w hw).2).mpr (of_decide_eq_true e))⟩
theorem Iso.ahead (I : Iso φ L) {w w' : P} {ah : Bool} (h : ∀ d, hf w' ah (L d) = hf w ah d) (a b c p : P) : ahead w' ah (φ a) (φ b) (φ c) (φ p) = ahead w ah a b c p := by
  unfold SA.ahead
  rw [I.sd]
  have := I.own h ⟨a, b, c⟩ p
  unfold mT at this
  rw [this]
theorem Iso.back (I : Iso φ L) {w w' : P} {ah : Bool} (h : ∀ d, hf w' ah (L d) = hf w ah d) (a b c p : P) : back w' ah (φ a) (φ b) (φ c) (φ p) = back w ah a b c p := by
  unfold SA.back
  rw [I.sd]
  have := I.own h ⟨a, c, b⟩ p
  unfold mT at this
  rw [this]
end
/-! ### a quarter turn, a move, a half turn -/
/-! ### sums of ways -/
end SA

set_option Elab.async false
set_option linter.all false
set_option maxRecDepth 100000
set_option maxHeartbeats 4000000
set_option autoImplicit false
/-! Rims and rings of turned planes; tables turned by a quarter. -/
namespace SA
section
variable {φ L : P → P} {w w' p : P} {ah : Bool}
end
end SA

set_option Elab.async false
set_option linter.all false
set_option maxRecDepth 100000
set_option maxHeartbeats 4000000
set_option autoImplicit false
/-! Triangles cut; right rules. -/
namespace SA
end SA

set_option Elab.async false
set_option linter.all false
set_option maxRecDepth 100000
set_option maxHeartbeats 4000000
set_option autoImplicit false
/-! Sums along closed paths: rings turned round, joined, there and back; triangles and fields as rings; no turns beyond the box. -/
namespace SA
section
variable {c : P → P → Int}
end

section
variable {w p a b c d : P} {ah : Bool}
end
section
variable {w p : P} {ah : Bool}
end
section
variable {w p : P} {ah : Bool}
end
end SA

set_option autoImplicit false
namespace FS
/-- the sum of floors -/
def S (a b m : Int) : Nat → Int
  | 0 => 0
  | n + 1 => S a b m n + (a * n + b) / m
end FS

set_option Elab.async false
set_option linter.all false
set_option maxRecDepth 100000
set_option maxHeartbeats 4000000
set_option autoImplicit false
/-! Amounts: samples of a triangle by rows; rows by floors. -/
namespace SA
section
variable {R : P → Bool} {a b c p : P} {st rx ry y j : Int} {T : T3}
def dn (st : Int) (a b : P) : Int := (((b.2 - a.2) * st).natAbs : Int)
/-- an edge spans a row -/
def spn (a b : P) (y : Int) : Prop := (a.2 < y ∧ y < b.2) ∨ (b.2 < y ∧ y < a.2)
instance {a b : P} {y : Int} : Decidable (spn a b y) := by unfold spn; infer_instance
end
section
variable {f : Int → Int} {st ry l h m p q lo hi : Int}
abbrev rows (st ry l h : Int) : List Int := SP.ups (SP.fst l ry st) st h
theorem rows_mem (hst : 1 ≤ st) {z : Int} : z ∈ rows st ry l h ↔ l ≤ z ∧ z ≤ h ∧ (z - ry) % st = 0 := SP.fst_mem hst
end
section
variable {R : P → Bool} {a b c : P} {st rx ry y l h : Int} {T : T3}
def many (st y0 h : Int) : Int := (h - y0) / st + 1
end
end SA

set_option Elab.async false
set_option linter.all false
set_option maxRecDepth 100000
set_option maxHeartbeats 4000000
set_option autoImplicit false
/-! A triangle and its twin: rows by half-open edges; together the double area. -/
namespace SA
section
variable {w : P} {ah : Bool} {a b c p : P} {st rx ry y j : Int}
def bi (b : Bool) : Int := if b then 1 else 0
end
section
variable {w : P} {ah : Bool} {a b c d p : P} {st rx ry y l h : Int}
end
section
variable {R : P → Bool} {T : T3} {w : P} {ah : Bool} {a b c m p : P} {st rx ry y l h : Int}
end
end SA

set_option Elab.async false
set_option linter.all false
set_option maxRecDepth 100000
set_option maxHeartbeats 4000000
set_option autoImplicit false
/-! The rim, told by counts, in order. -/
namespace SA
end SA

set_option Elab.async false
set_option linter.all false
set_option maxRecDepth 100000
set_option maxHeartbeats 4000000
set_option autoImplicit false
namespace K46
open PySem PySem.Spec PyProof.Rows L2 DL
structure Hd (K : PySem.W.Frag) (mg : Str → Option Value) : Prop where
  c : He5.SaysA fa fn K
  more : exB K = true
  ex : ∃ h : Heap, K.In h ∧ h.Ns mainGlobals mg
section
variable {K : PySem.W.Frag} {mg : Str → Option Value}
theorem Hd.g_is_integer (A : Hd K mg) : mg "is_integer" = some (.ref (He.ga K "is_integer")) := by
  obtain ⟨h, X, G⟩ := A.ex
  exact He.glo_ok X G (A.c.fact 0)
theorem Hd.g_is_between (A : Hd K mg) : mg "is_between" = some (.ref (He.ga K "is_between")) := by
  obtain ⟨h, X, G⟩ := A.ex
  exact He.glo_ok X G (A.c.fact 1)
theorem Hd.g_numbers_of (A : Hd K mg) : mg "numbers_of" = some (.ref (He.ga K "numbers_of")) := by
  obtain ⟨h, X, G⟩ := A.ex
  exact He.glo_ok X G (A.c.fact 2)
theorem Hd.g_check_ahead (A : Hd K mg) : mg "check_ahead" = some (.ref (He.ga K "check_ahead")) := by
  obtain ⟨h, X, G⟩ := A.ex
  exact He.glo_ok X G (A.c.fact 3)
theorem Hd.g_common_divisor (A : Hd K mg) : mg "common_divisor" = some (.ref (He.ga K "common_divisor")) := by
  obtain ⟨h, X, G⟩ := A.ex
  exact He.glo_ok X G (A.c.fact 4)
theorem Hd.g_lowest_pair (A : Hd K mg) : mg "lowest_pair" = some (.ref (He.ga K "lowest_pair")) := by
  obtain ⟨h, X, G⟩ := A.ex
  exact He.glo_ok X G (A.c.fact 5)
theorem Hd.g_way_in (A : Hd K mg) : mg "way_in" = some (.ref (He.ga K "way_in")) := by
  obtain ⟨h, X, G⟩ := A.ex
  exact He.glo_ok X G (A.c.fact 6)
theorem Hd.g_check_points (A : Hd K mg) : mg "check_points" = some (.ref (He.ga K "check_points")) := by
  obtain ⟨h, X, G⟩ := A.ex
  exact He.glo_ok X G (A.c.fact 7)
theorem Hd.g_is_triple (A : Hd K mg) : mg "is_triple" = some (.ref (He.ga K "is_triple")) := by
  obtain ⟨h, X, G⟩ := A.ex
  exact He.glo_ok X G (A.c.fact 8)
theorem Hd.g_check_triples (A : Hd K mg) : mg "check_triples" = some (.ref (He.ga K "check_triples")) := by
  obtain ⟨h, X, G⟩ := A.ex
  exact He.glo_ok X G (A.c.fact 9)
theorem Hd.g_point_of (A : Hd K mg) : mg "point_of" = some (.ref (He.ga K "point_of")) := by
  obtain ⟨h, X, G⟩ := A.ex
  exact He.glo_ok X G (A.c.fact 10)
theorem Hd.g__law_half_in (A : Hd K mg) : mg "_law_half_in" = some (.ref (He.ga K "_law_half_in")) := by
  obtain ⟨h, X, G⟩ := A.ex
  exact He.glo_ok X G (A.c.fact 11)
theorem Hd.g__law_kind (A : Hd K mg) : mg "_law_kind" = some (.ref (He.ga K "_law_kind")) := by
  obtain ⟨h, X, G⟩ := A.ex
  exact He.glo_ok X G (A.c.fact 12)
theorem Hd.g__law_in (A : Hd K mg) : mg "_law_in" = some (.ref (He.ga K "_law_in")) := by
  obtain ⟨h, X, G⟩ := A.ex
  exact He.glo_ok X G (A.c.fact 13)
theorem Hd.g__law_side (A : Hd K mg) : mg "_law_side" = some (.ref (He.ga K "_law_side")) := by
  obtain ⟨h, X, G⟩ := A.ex
  exact He.glo_ok X G (A.c.fact 14)
theorem Hd.g__law_ways (A : Hd K mg) : mg "_law_ways" = some (.ref (He.ga K "_law_ways")) := by
  obtain ⟨h, X, G⟩ := A.ex
  exact He.glo_ok X G (A.c.fact 15)
theorem Hd.g__law_owns (A : Hd K mg) : mg "_law_owns" = some (.ref (He.ga K "_law_owns")) := by
  obtain ⟨h, X, G⟩ := A.ex
  exact He.glo_ok X G (A.c.fact 16)
theorem Hd.g__law_counted (A : Hd K mg) : mg "_law_counted" = some (.ref (He.ga K "_law_counted")) := by
  obtain ⟨h, X, G⟩ := A.ex
  exact He.glo_ok X G (A.c.fact 17)
theorem Hd.g__law_draw (A : Hd K mg) : mg "_law_draw" = some (.ref (He.ga K "_law_draw")) := by
  obtain ⟨h, X, G⟩ := A.ex
  exact He.glo_ok X G (A.c.fact 18)
theorem Hd.g__law_hand (A : Hd K mg) : mg "_law_hand" = some (.ref (He.ga K "_law_hand")) := by
  obtain ⟨h, X, G⟩ := A.ex
  exact He.glo_ok X G (A.c.fact 19)
theorem Hd.g__law_nearest (A : Hd K mg) : mg "_law_nearest" = some (.ref (He.ga K "_law_nearest")) := by
  obtain ⟨h, X, G⟩ := A.ex
  exact He.glo_ok X G (A.c.fact 20)
theorem Hd.g__law_pair (A : Hd K mg) : mg "_law_pair" = some (.ref (He.ga K "_law_pair")) := by
  obtain ⟨h, X, G⟩ := A.ex
  exact He.glo_ok X G (A.c.fact 21)
theorem Hd.g__law_net (A : Hd K mg) : mg "_law_net" = some (.ref (He.ga K "_law_net")) := by
  obtain ⟨h, X, G⟩ := A.ex
  exact He.glo_ok X G (A.c.fact 22)
theorem Hd.g_check_least (A : Hd K mg) : mg "check_least" = some (.ref (He.ga K "check_least")) := by
  obtain ⟨h, X, G⟩ := A.ex
  exact He.glo_ok X G (A.c.fact 23)
theorem Hd.g_nearest (A : Hd K mg) : mg "nearest" = some (.ref (He.ga K "nearest")) := by
  obtain ⟨h, X, G⟩ := A.ex
  exact He.glo_ok X G (A.c.fact 24)
theorem Hd.g_snapped (A : Hd K mg) : mg "snapped" = some (.ref (He.ga K "snapped")) := by
  obtain ⟨h, X, G⟩ := A.ex
  exact He.glo_ok X G (A.c.fact 25)
theorem Hd.g__law_refused (A : Hd K mg) : mg "_law_refused" = some (.ref (He.ga K "_law_refused")) := by
  obtain ⟨h, X, G⟩ := A.ex
  exact He.glo_ok X G (A.c.fact 26)
theorem Hd.g__law_told_half (A : Hd K mg) : mg "_law_told_half" = some (.ref (He.ga K "_law_told_half")) := by
  obtain ⟨h, X, G⟩ := A.ex
  exact He.glo_ok X G (A.c.fact 27)
theorem Hd.g_each_once (A : Hd K mg) : mg "each_once" = some (.ref (He.ga K "each_once")) := by
  obtain ⟨h, X, G⟩ := A.ex
  exact He.glo_ok X G (A.c.fact 28)
theorem Hd.g_in_rows (A : Hd K mg) : mg "in_rows" = some (.ref (He.ga K "in_rows")) := by
  obtain ⟨h, X, G⟩ := A.ex
  exact He.glo_ok X G (A.c.fact 29)
theorem Hd.g_box_of (A : Hd K mg) : mg "box_of" = some (.ref (He.ga K "box_of")) := by
  obtain ⟨h, X, G⟩ := A.ex
  exact He.glo_ok X G (A.c.fact 30)
theorem Hd.g_cross_of (A : Hd K mg) : mg "cross_of" = some (.ref (He.ga K "cross_of")) := by
  obtain ⟨h, X, G⟩ := A.ex
  exact He.glo_ok X G (A.c.fact 31)
theorem Hd.g_less (A : Hd K mg) : mg "less" = some (.ref (He.ga K "less")) := by
  obtain ⟨h, X, G⟩ := A.ex
  exact He.glo_ok X G (A.c.fact 32)
theorem Hd.g_side_of (A : Hd K mg) : mg "side_of" = some (.ref (He.ga K "side_of")) := by
  obtain ⟨h, X, G⟩ := A.ex
  exact He.glo_ok X G (A.c.fact 33)
theorem Hd.g_ways_of (A : Hd K mg) : mg "ways_of" = some (.ref (He.ga K "ways_of")) := by
  obtain ⟨h, X, G⟩ := A.ex
  exact He.glo_ok X G (A.c.fact 34)
theorem Hd.g_is_owned (A : Hd K mg) : mg "is_owned" = some (.ref (He.ga K "is_owned")) := by
  obtain ⟨h, X, G⟩ := A.ex
  exact He.glo_ok X G (A.c.fact 35)
theorem Hd.g_owner_counts (A : Hd K mg) : mg "owner_counts" = some (.ref (He.ga K "owner_counts")) := by
  obtain ⟨h, X, G⟩ := A.ex
  exact He.glo_ok X G (A.c.fact 36)
theorem Hd.g_first_from (A : Hd K mg) : mg "first_from" = some (.ref (He.ga K "first_from")) := by
  obtain ⟨h, X, G⟩ := A.ex
  exact He.glo_ok X G (A.c.fact 37)
theorem Hd.g_pairs_between (A : Hd K mg) : mg "pairs_between" = some (.ref (He.ga K "pairs_between")) := by
  obtain ⟨h, X, G⟩ := A.ex
  exact He.glo_ok X G (A.c.fact 38)
theorem Hd.g_unlike (A : Hd K mg) : mg "unlike" = some (.ref (He.ga K "unlike")) := by
  obtain ⟨h, X, G⟩ := A.ex
  exact He.glo_ok X G (A.c.fact 39)
theorem Hd.g_law (A : Hd K mg) : mg "law" = some (.ref (He.ga K "law")) := by
  obtain ⟨h, X, G⟩ := A.ex
  exact He.glo_ok X G (A.c.fact 40)
theorem Hd.g_InvalidNumber (A : Hd K mg) : mg "InvalidNumber" = some (.ref (He.ga K "InvalidNumber")) := by
  obtain ⟨h, X, G⟩ := A.ex
  exact He.glo_ok X G (A.c.fact 42)
theorem Hd.g_InvalidPoint (A : Hd K mg) : mg "InvalidPoint" = some (.ref (He.ga K "InvalidPoint")) := by
  obtain ⟨h, X, G⟩ := A.ex
  exact He.glo_ok X G (A.c.fact 43)
theorem Hd.g_Net (A : Hd K mg) : mg "Net" = some (.ref (He.ga K "Net")) := by
  obtain ⟨h, X, G⟩ := A.ex
  exact He.glo_ok X G (A.c.fact 44)
theorem Hd.g_Pairs (A : Hd K mg) : mg "Pairs" = some (.ref (He.ga K "Pairs")) := by
  obtain ⟨h, X, G⟩ := A.ex
  exact He.glo_ok X G (A.c.fact 45)
theorem Hd.g_Point (A : Hd K mg) : mg "Point" = some (.ref (He.ga K "Point")) := by
  obtain ⟨h, X, G⟩ := A.ex
  exact He.glo_ok X G (A.c.fact 46)
theorem Hd.f_abs (A : Hd K mg) : mg "abs" = none := by
  obtain ⟨h, X, G⟩ := A.ex
  exact He.free_ok X G (A.c.fact 47)
theorem Hd.f_all (A : Hd K mg) : mg "all" = none := by
  obtain ⟨h, X, G⟩ := A.ex
  exact He.free_ok X G (A.c.fact 48)
theorem Hd.f_bool (A : Hd K mg) : mg "bool" = none := by
  obtain ⟨h, X, G⟩ := A.ex
  exact He.free_ok X G (A.c.fact 49)
theorem Hd.f_enumerate (A : Hd K mg) : mg "enumerate" = none := by
  obtain ⟨h, X, G⟩ := A.ex
  exact He.free_ok X G (A.c.fact 50)
theorem Hd.f_int (A : Hd K mg) : mg "int" = none := by
  obtain ⟨h, X, G⟩ := A.ex
  exact He.free_ok X G (A.c.fact 51)
theorem Hd.f_isinstance (A : Hd K mg) : mg "isinstance" = none := by
  obtain ⟨h, X, G⟩ := A.ex
  exact He.free_ok X G (A.c.fact 52)
theorem Hd.f_len (A : Hd K mg) : mg "len" = none := by
  obtain ⟨h, X, G⟩ := A.ex
  exact He.free_ok X G (A.c.fact 53)
theorem Hd.f_list (A : Hd K mg) : mg "list" = none := by
  obtain ⟨h, X, G⟩ := A.ex
  exact He.free_ok X G (A.c.fact 54)
theorem Hd.f_max (A : Hd K mg) : mg "max" = none := by
  obtain ⟨h, X, G⟩ := A.ex
  exact He.free_ok X G (A.c.fact 55)
theorem Hd.f_min (A : Hd K mg) : mg "min" = none := by
  obtain ⟨h, X, G⟩ := A.ex
  exact He.free_ok X G (A.c.fact 56)
theorem Hd.f_range (A : Hd K mg) : mg "range" = none := by
  obtain ⟨h, X, G⟩ := A.ex
  exact He.free_ok X G (A.c.fact 57)
theorem Hd.f_repr (A : Hd K mg) : mg "repr" = none := by
  obtain ⟨h, X, G⟩ := A.ex
  exact He.free_ok X G (A.c.fact 58)
theorem Hd.f_sorted (A : Hd K mg) : mg "sorted" = none := by
  obtain ⟨h, X, G⟩ := A.ex
  exact He.free_ok X G (A.c.fact 59)
theorem Hd.f_tuple (A : Hd K mg) : mg "tuple" = none := by
  obtain ⟨h, X, G⟩ := A.ex
  exact He.free_ok X G (A.c.fact 60)
theorem Hd.c_MOST_POINTS (A : Hd K mg) : ∃ t, mg "MOST_POINTS" = some (.int (100) t) := by
  obtain ⟨h, X, G⟩ := A.ex
  exact He.int_ok X G (A.c.fact 61)
theorem Hd.c_MOST_STEP (A : Hd K mg) : ∃ t, mg "MOST_STEP" = some (.int (1000000000000000000000000000000) t) := by
  obtain ⟨h, X, G⟩ := A.ex
  exact He.int_ok X G (A.c.fact 62)
theorem Hd.g_Grid (A : Hd K mg) : mg "Grid" = some (.ref (He.ga K "Grid")) := by
  obtain ⟨h, X, G⟩ := A.ex
  exact He.glo_ok X G (A.c.fact 63)
theorem Hd.g_Half (A : Hd K mg) : mg "Half" = some (.ref (He.ga K "Half")) := by
  obtain ⟨h, X, G⟩ := A.ex
  exact He.glo_ok X G (A.c.fact 67)
theorem Hd.g_Samples (A : Hd K mg) : mg "Samples" = some (.ref (He.ga K "Samples")) := by
  obtain ⟨h, X, G⟩ := A.ex
  exact He.glo_ok X G (A.c.fact 79)
theorem Hd.fl_Grid_rest (A : Hd K mg) : FldD K mg "Grid" "rest" := ⟨_, A.g_Grid, He.cls_ok (A.c.fact 64), He.noat_ok (A.c.fact 65)⟩
theorem Hd.fl_Grid_step (A : Hd K mg) : FldD K mg "Grid" "step" := ⟨_, A.g_Grid, He.cls_ok (A.c.fact 64), He.noat_ok (A.c.fact 66)⟩
theorem Hd.fl_Half_own_ahead (A : Hd K mg) : FldD K mg "Half" "own_ahead" := ⟨_, A.g_Half, He.cls_ok (A.c.fact 68), He.noat_ok (A.c.fact 69)⟩
theorem Hd.fl_Half_own_way (A : Hd K mg) : FldD K mg "Half" "own_way" := ⟨_, A.g_Half, He.cls_ok (A.c.fact 68), He.noat_ok (A.c.fact 70)⟩
theorem Hd.fl_Net_own_triples (A : Hd K mg) : FldD K mg "Net" "own_triples" := ⟨_, A.g_Net, He.cls_ok (A.c.fact 71), He.noat_ok (A.c.fact 72)⟩
theorem Hd.fl_Net_pairs (A : Hd K mg) : FldD K mg "Net" "pairs" := ⟨_, A.g_Net, He.cls_ok (A.c.fact 71), He.noat_ok (A.c.fact 73)⟩
theorem Hd.fl_Pairs_pairs (A : Hd K mg) : FldD K mg "Pairs" "pairs" := ⟨_, A.g_Pairs, He.cls_ok (A.c.fact 74), He.noat_ok (A.c.fact 75)⟩
theorem Hd.fl_Point_x (A : Hd K mg) : FldD K mg "Point" "x" := ⟨_, A.g_Point, He.cls_ok (A.c.fact 76), He.noat_ok (A.c.fact 77)⟩
theorem Hd.fl_Point_y (A : Hd K mg) : FldD K mg "Point" "y" := ⟨_, A.g_Point, He.cls_ok (A.c.fact 76), He.noat_ok (A.c.fact 78)⟩
theorem Hd.fl_Samples_pairs (A : Hd K mg) : FldD K mg "Samples" "pairs" := ⟨_, A.g_Samples, He.cls_ok (A.c.fact 80), He.noat_ok (A.c.fact 81)⟩
theorem Hd.isi (A : Hd K mg) : IsiTab ⟨K, mg, none⟩ isiT := by
  obtain ⟨h, X, G⟩ := A.ex
  exact isiTab_of X G (He.ba A.more).1
variable {P : Program} {w : World} {base : Heap}
theorem Hd.ne_Net (A : Hd K mg) : ∀ C, mg "Net" = some (.ref C) → NeFn K C := by
  obtain ⟨h, X, G⟩ := A.ex
  exact ne_of X G (He.ba (He.ba (He.ba A.more).2).2).1
theorem scx_InvalidGrid : FnScope ["self", "part"] ["self", "part"] (defScope (inClass (top 8) 0)) := ⟨rfl, rfl, rfl, by decide +kernel, rfl, by decide +kernel, by decide +kernel⟩
theorem Hd.rx_InvalidGrid (A : Hd K mg) : RaiseD P w K mg base 1 "InvalidGrid" ["part"] := by
  obtain ⟨fd, F⟩ := A.c.def_ 51
  obtain ⟨h, X, G⟩ := A.ex
  obtain ⟨h1, h2, h3, h4⟩ := rxB_ok (He.ba (He.ba (He.ba (He.ba A.more).2).2).2).1
  exact raise1 (rx_glo X G (He.ba (He.ba (He.ba (He.ba A.more).2).2).2).1) h1 (h4 _ (by simp)) h2 h3 F scx_InvalidGrid (F.bindsN fun _ _ _ _ _ _ us hl => match us, hl with | [_, _], _ => rfl) fun _ _ _ _ _ _ => pss_one (ps_ost (pe_var (i := 0) rfl (Or.inl rfl)) (pe_var (i := 1) rfl (Or.inl rfl)))
theorem scx_InvalidHalf : FnScope ["self", "part"] ["self", "part"] (defScope (inClass (top 7) 0)) := ⟨rfl, rfl, rfl, by decide +kernel, rfl, by decide +kernel, by decide +kernel⟩
theorem Hd.rx_InvalidHalf (A : Hd K mg) : RaiseD P w K mg base 1 "InvalidHalf" ["part"] := by
  obtain ⟨fd, F⟩ := A.c.def_ 52
  obtain ⟨h, X, G⟩ := A.ex
  obtain ⟨h1, h2, h3, h4⟩ := rxB_ok (He.ba (He.ba (He.ba (He.ba (He.ba A.more).2).2).2).2).1
  exact raise1 (rx_glo X G (He.ba (He.ba (He.ba (He.ba (He.ba A.more).2).2).2).2).1) h1 (h4 _ (by simp)) h2 h3 F scx_InvalidHalf (F.bindsN fun _ _ _ _ _ _ us hl => match us, hl with | [_, _], _ => rfl) fun _ _ _ _ _ _ => pss_one (ps_ost (pe_var (i := 0) rfl (Or.inl rfl)) (pe_var (i := 1) rfl (Or.inl rfl)))
theorem scx_InvalidNet : FnScope ["self", "part", "number"] ["self", "part", "number"] (defScope (inClass (top 10) 0)) := ⟨rfl, rfl, rfl, by decide +kernel, rfl, by decide +kernel, by decide +kernel⟩
theorem Hd.rx_InvalidNet (A : Hd K mg) : RaiseD P w K mg base 1 "InvalidNet" ["part", "number"] := by
  obtain ⟨fd, F⟩ := A.c.def_ 53
  obtain ⟨h, X, G⟩ := A.ex
  obtain ⟨h1, h2, h3, h4⟩ := rxB_ok (He.ba (He.ba (He.ba (He.ba (He.ba (He.ba A.more).2).2).2).2).2).1
  exact raise2 (rx_glo X G (He.ba (He.ba (He.ba (He.ba (He.ba (He.ba A.more).2).2).2).2).2).1) h1 (h4 _ (by simp)) (h4 _ (by simp)) h2 h3 F scx_InvalidNet (F.bindsN fun _ _ _ _ _ _ us hl => match us, hl with | [_, _, _], _ => rfl) fun _ _ _ _ _ _ => pss_cons (ps_ost (pe_var (i := 0) rfl (Or.inl rfl)) (pe_var (i := 1) rfl (Or.inl rfl))) (pss_one (ps_ost (pe_var (i := 0) rfl (Or.inl rfl)) (pe_var (i := 2) rfl (Or.inl rfl))))
theorem scx_InvalidNumber : FnScope ["self", "number"] ["self", "number"] (defScope (inClass (top 4) 0)) := ⟨rfl, rfl, rfl, by decide +kernel, rfl, by decide +kernel, by decide +kernel⟩
theorem Hd.rx_InvalidNumber (A : Hd K mg) : RaiseD P w K mg base 1 "InvalidNumber" ["number"] := by
  obtain ⟨fd, F⟩ := A.c.def_ 54
  obtain ⟨h, X, G⟩ := A.ex
  obtain ⟨h1, h2, h3, h4⟩ := rxB_ok (He.ba (He.ba (He.ba (He.ba (He.ba (He.ba (He.ba A.more).2).2).2).2).2).2).1
  exact raise1 (rx_glo X G (He.ba (He.ba (He.ba (He.ba (He.ba (He.ba (He.ba A.more).2).2).2).2).2).2).1) h1 (h4 _ (by simp)) h2 h3 F scx_InvalidNumber (F.bindsN fun _ _ _ _ _ _ us hl => match us, hl with | [_, _], _ => rfl) fun _ _ _ _ _ _ => pss_one (ps_ost (pe_var (i := 0) rfl (Or.inl rfl)) (pe_var (i := 1) rfl (Or.inl rfl)))
theorem scx_InvalidPoint : FnScope ["self", "thing"] ["self", "thing"] (defScope (inClass (top 3) 0)) := ⟨rfl, rfl, rfl, by decide +kernel, rfl, by decide +kernel, by decide +kernel⟩
theorem Hd.rx_InvalidPoint (A : Hd K mg) : RaiseD P w K mg base 1 "InvalidPoint" ["thing"] := by
  obtain ⟨fd, F⟩ := A.c.def_ 55
  obtain ⟨h, X, G⟩ := A.ex
  obtain ⟨h1, h2, h3, h4⟩ := rxB_ok (He.ba (He.ba (He.ba (He.ba (He.ba (He.ba (He.ba (He.ba A.more).2).2).2).2).2).2).2).1
  exact raise1 (rx_glo X G (He.ba (He.ba (He.ba (He.ba (He.ba (He.ba (He.ba (He.ba A.more).2).2).2).2).2).2).2).1) h1 (h4 _ (by simp)) h2 h3 F scx_InvalidPoint (F.bindsN fun _ _ _ _ _ _ us hl => match us, hl with | [_, _], _ => rfl) fun _ _ _ _ _ _ => pss_one (ps_ost (pe_var (i := 0) rfl (Or.inl rfl)) (pe_var (i := 1) rfl (Or.inl rfl)))
theorem scx_InvalidSamples : FnScope ["self", "number"] ["self", "number"] (defScope (inClass (top 9) 0)) := ⟨rfl, rfl, rfl, by decide +kernel, rfl, by decide +kernel, by decide +kernel⟩
theorem Hd.rx_InvalidSamples (A : Hd K mg) : RaiseD P w K mg base 1 "InvalidSamples" ["number"] := by
  obtain ⟨fd, F⟩ := A.c.def_ 56
  obtain ⟨h, X, G⟩ := A.ex
  obtain ⟨h1, h2, h3, h4⟩ := rxB_ok (He.ba (He.ba (He.ba (He.ba (He.ba (He.ba (He.ba (He.ba (He.ba A.more).2).2).2).2).2).2).2).2).1
  exact raise1 (rx_glo X G (He.ba (He.ba (He.ba (He.ba (He.ba (He.ba (He.ba (He.ba (He.ba A.more).2).2).2).2).2).2).2).2).1) h1 (h4 _ (by simp)) h2 h3 F scx_InvalidSamples (F.bindsN fun _ _ _ _ _ _ us hl => match us, hl with | [_, _], _ => rfl) fun _ _ _ _ _ _ => pss_one (ps_ost (pe_var (i := 0) rfl (Or.inl rfl)) (pe_var (i := 1) rfl (Or.inl rfl)))
theorem Hd.cat_FillError (A : Hd K mg) : CatchD K mg (.ref (He.ga K "FillError")) (catF catL_FillError) ∧ mg "FillError" = some (.ref (He.ga K "FillError")) := by
  obtain ⟨h, X, G⟩ := A.ex
  exact catchD_of X G (He.ba (He.ba (He.ba (He.ba (He.ba (He.ba (He.ba (He.ba (He.ba (He.ba A.more).2).2).2).2).2).2).2).2).2).1
theorem Hd.xf_number (A : Hd K mg) : XfD K mg xfC_number "number" := by
  obtain ⟨h, X, G⟩ := A.ex
  exact xfD_of X G (He.ba (He.ba (He.ba (He.ba (He.ba (He.ba (He.ba (He.ba (He.ba (He.ba (He.ba A.more).2).2).2).2).2).2).2).2).2).2).1
theorem Hd.isx (A : Hd K mg) : IsxTab K mg (isxF isxL) := by
  obtain ⟨h, X, G⟩ := A.ex
  exact isxTab_of X G (He.ba (He.ba (He.ba (He.ba (He.ba (He.ba (He.ba (He.ba (He.ba (He.ba (He.ba A.more).2).2).2).2).2).2).2).2).2).2).2
/-! is_integer -/
abbrev N_is_integer : List Str := ["thing"]
theorem sc_is_integer : FnScope N_is_integer ["thing"] (defScope (top 12)) := ⟨rfl, rfl, rfl, by decide +kernel, rfl, by decide +kernel, by decide +kernel⟩
def w_is_integer : WS := (sRet (wAndV (wN (fIsi isiT) (wCons (wVar 0) (wCons (wC (.ty "int")) wNil))) (wNotV (wN (fIsi isiT) (wCons (wVar 0) (wCons (wC (.ty "bool")) wNil))))))
def sp_is_integer : DSp := fun ds μ Q Xd => ds.length = 1 ∧ w_is_integer (defE Q Xd) (startD N_is_integer ds) μ
theorem d_is_integer (A : Hd K mg) {cdv : Value} {A2 : Around} {fr : List Env} {s : Shared} {H : Hp} {E : XK} {f : Addr} (hr : Room 0 (A2.deeper (envOfC "is_integer" (defScope (top 12)) s.heap.objs.size f cdv))) (hgd : (A2.deeper (envOfC "is_integer" (defScope (top 12)) s.heap.objs.size f cdv)).guards = some []) :
    DSs none (fun cls d _ H2 => E cls d H2) (cxOf (L2.CX P w) P w K mg base N_is_integer "is_integer" (defScope (top 12)) f cdv A2 fr s H E) (defBody (top 12)) w_is_integer := by
  have hN := (sc_is_integer).nd
  exact (dss_one (ds_ret (de_and (de_callB call_isi (sn_isi A.isi) rfl A.f_isinstance bt_isinstance (da_cons (dv 0) (da_cons (de_ty rfl A.f_int bt_int) da_nil))) (de_one (de_not (de_callB call_isi (sn_isi A.isi) rfl A.f_isinstance bt_isinstance (da_cons (dv 0) (da_cons (de_ty rfl A.f_bool bt_bool) da_nil))))))))
theorem Hd.ok_is_integer (A : Hd K mg) : CallD P w K mg base 1 "is_integer" ["thing"] sp_is_integer := by
  obtain ⟨fd, F⟩ := A.c.def_ 0
  exact ⟨_, fd, A.g_is_integer, F.kp, F.bindsN fun _ _ _ _ _ _ us hl => match us, hl with | [_], _ => rfl, def_ok F sc_is_integer (fun ds μ Q Xd h => h.1) (fun cdv A2 fr s H E hr hgd => d_is_integer A hr hgd) fun ds μ Q Xd h => h.2⟩
/-! is_between -/
abbrev N_is_between : List Str := ["thing", "least", "most"]
theorem sc_is_between : FnScope N_is_between ["thing", "least", "most"] (defScope (top 13)) := ⟨rfl, rfl, rfl, by decide +kernel, rfl, by decide +kernel, by decide +kernel⟩
def w_is_between : WS := (sRet (wAndV (wCall sp_is_integer (wCons (wVar 0) wNil)) (wChain fLe fLe (wVar 1) (wN fInt1 (wCons (wVar 0) wNil)) (wVar 2))))
def sp_is_between : DSp := fun ds μ Q Xd => ds.length = 3 ∧ w_is_between (defE Q Xd) (startD N_is_between ds) μ
theorem d_is_between (A : Hd K mg) {cdv : Value} {A2 : Around} {fr : List Env} {s : Shared} {H : Hp} {E : XK} {f : Addr} (hr : Room 1 (A2.deeper (envOfC "is_between" (defScope (top 13)) s.heap.objs.size f cdv))) (hgd : (A2.deeper (envOfC "is_between" (defScope (top 13)) s.heap.objs.size f cdv)).guards = some []) :
    DSs none (fun cls d _ H2 => E cls d H2) (cxOf (L2.CX P w) P w K mg base N_is_between "is_between" (defScope (top 13)) f cdv A2 fr s H E) (defBody (top 13)) w_is_between := by
  have hN := (sc_is_between).nd
  exact (dss_one (ds_ret (de_and (de_callD A.ok_is_integer hr (by decide) hgd rfl (takes_of rfl rfl rfl rfl) (da_cons (dv 0) da_nil)) (de_one (de_chain op_le s2_IB op_le s2_IB (dv 1) (de_callTy call_int1 sn_int1 rfl A.f_int bt_int (da_cons (dv 0) da_nil)) (dv 2))))))
theorem Hd.ok_is_between (A : Hd K mg) : CallD P w K mg base 2 "is_between" ["thing", "least", "most"] sp_is_between := by
  obtain ⟨fd, F⟩ := A.c.def_ 1
  exact ⟨_, fd, A.g_is_between, F.kp, F.bindsN fun _ _ _ _ _ _ us hl => match us, hl with | [_, _, _], _ => rfl, def_ok F sc_is_between (fun ds μ Q Xd h => h.1) (fun cdv A2 fr s H E hr hgd => d_is_between A hr hgd) fun ds μ Q Xd h => h.2⟩
/-! numbers_of -/
abbrev N_numbers_of : List Str := ["thing"]
theorem sc_numbers_of : FnScope N_numbers_of ["thing"] (defScope (top 18)) := ⟨rfl, rfl, rfl, by decide +kernel, rfl, by decide +kernel, by decide +kernel⟩
def w_numbers_of : WS := (sSeq (sIf (wB (wN (fIsi isiT) (wCons (wVar 0) (wCons (wC (.cls "Point")) wNil))))
  (sRet (wTup (wCons (w1 (fFld "Point" "x") (wVar 0)) (wCons (w1 (fFld "Point" "y") (wVar 0)) wNil))))
  sNext)
 (sSeq (sIf (wAnd (wB (wN (fIsi isiT) (wCons (wVar 0) (wCons (wC (.ty "tuple")) wNil)))) (wAnd (wB (w2 fEqU (wN fLen (wCons (wVar 0) wNil)) (wC (.int (2))))) (wAnd (wB (wCall sp_is_integer (wCons (w2 fIx (wVar 0) (wC (.int (0)))) wNil))) (wB (wCall sp_is_integer (wCons (w2 fIx (wVar 0) (wC (.int (1)))) wNil))))))
  (sRet (wTup (wCons (wN fInt1 (wCons (w2 fIx (wVar 0) (wC (.int (0)))) wNil)) (wCons (wN fInt1 (wCons (w2 fIx (wVar 0) (wC (.int (1)))) wNil)) wNil))))
  sNext)
 (sRet (wC .non))))
def sp_numbers_of : DSp := fun ds μ Q Xd => ds.length = 1 ∧ w_numbers_of (defE Q Xd) (startD N_numbers_of ds) μ
theorem d_numbers_of (A : Hd K mg) {cdv : Value} {A2 : Around} {fr : List Env} {s : Shared} {H : Hp} {E : XK} {f : Addr} (hr : Room 1 (A2.deeper (envOfC "numbers_of" (defScope (top 18)) s.heap.objs.size f cdv))) (hgd : (A2.deeper (envOfC "numbers_of" (defScope (top 18)) s.heap.objs.size f cdv)).guards = some []) :
    DSs none (fun cls d _ H2 => E cls d H2) (cxOf (L2.CX P w) P w K mg base N_numbers_of "numbers_of" (defScope (top 18)) f cdv A2 fr s H E) (defBody (top 18)) w_numbers_of := by
  have hN := (sc_numbers_of).nd
  exact (dss_cons (ds_if (dt_val (de_callB call_isi (sn_isi A.isi) rfl A.f_isinstance bt_isinstance (da_cons (dv 0) (da_cons (de_cls rfl A.g_Point) da_nil)))) (dss_one (ds_ret (de_tup (da_cons (de_fldD A.fl_Point_x (dv 0)) (da_cons (de_fldD A.fl_Point_y (dv 0)) da_nil))))) dss_nil)
 (dss_cons (ds_if (dt_w (dw_and (dt_val (de_callB call_isi (sn_isi A.isi) rfl A.f_isinstance bt_isinstance (da_cons (dv 0) (da_cons (de_ty rfl A.f_tuple bt_tuple) da_nil)))) (dw_and (dt_cmp (op_eqU (have z := room64 hr; z)) s2_eqU (de_callB call_len_seq sn_len rfl A.f_len bt_len (da_cons (dv 0) da_nil)) de_int (nomark _)) (dw_and (dt_val (de_callD A.ok_is_integer hr (by decide) hgd rfl (takes_of rfl rfl rfl rfl) (da_cons (de_item (dv 0) de_int) da_nil))) (dw_and1 (dt_val (de_callD A.ok_is_integer hr (by decide) hgd rfl (takes_of rfl rfl rfl rfl) (da_cons (de_item (dv 0) de_int) da_nil)))))))) (dss_one (ds_ret (de_tup (da_cons (de_callTy call_int1 sn_int1 rfl A.f_int bt_int (da_cons (de_item (dv 0) de_int) da_nil)) (da_cons (de_callTy call_int1 sn_int1 rfl A.f_int bt_int (da_cons (de_item (dv 0) de_int) da_nil)) da_nil))))) dss_nil)
 (dss_one (ds_ret de_non))))
theorem Hd.ok_numbers_of (A : Hd K mg) : CallD P w K mg base 2 "numbers_of" ["thing"] sp_numbers_of := by
  obtain ⟨fd, F⟩ := A.c.def_ 2
  exact ⟨_, fd, A.g_numbers_of, F.kp, F.bindsN fun _ _ _ _ _ _ us hl => match us, hl with | [_], _ => rfl, def_ok F sc_numbers_of (fun ds μ Q Xd h => h.1) (fun cdv A2 fr s H E hr hgd => d_numbers_of A hr hgd) fun ds μ Q Xd h => h.2⟩
/-! Grid_init -/
abbrev N_Grid_init : List Str := ["self", "step", "at", "pair"]
theorem sc_Grid_init : FnScope N_Grid_init ["self", "step", "at"] (defScope (inClass (top 29) 0)) := ⟨rfl, rfl, rfl, by decide +kernel, rfl, by decide +kernel, by decide +kernel⟩
def w_Grid_init : WS := (sSeq (sIf (wNot (wB (wCall sp_is_between (wCons (wVar 1) (wCons (wC (.int (1))) (wCons (wC (.int (1000000000000000000000000000000))) wNil))))))
  (sRaise "InvalidGrid" ["part"] (wCons (wC (.str "step")) wNil))
  sNext)
 (sSeq (sSet 3 (wCall sp_numbers_of (wCons (wVar 2) wNil)))
 (sSeq (sIf (wB (w2 fIsN (wVar 3) (wC .non)))
  (sRaise "InvalidGrid" ["part"] (wCons (wC (.str "at")) wNil))
  sNext)
 (sSeq (sFldO "Grid" 0 "step" (wVar 1))
 (sFldO "Grid" 0 "rest" (wTup (wCons (w2 fMod (w2 fIx (wVar 3) (wC (.int (0)))) (wVar 1)) (wCons (w2 fMod (w2 fIx (wVar 3) (wC (.int (1)))) (wVar 1)) wNil))))))))
def sp_Grid_init : ISp := fun ds μ Q Xd => ds.length = 2 ∧ ∀ a, w_Grid_init (defI "Grid" a Q Xd) (startI N_Grid_init "Grid" a ds) μ
theorem d_Grid_init (A : Hd K mg) {cdv : Value} {A2 : Around} {fr : List Env} {s : Shared} {H : Hp} {E : XK} {f : Addr} (hr : Room 2 (A2.deeper (envOfC "Grid.__init__" (defScope (inClass (top 29) 0)) s.heap.objs.size f cdv))) (hgd : (A2.deeper (envOfC "Grid.__init__" (defScope (inClass (top 29) 0)) s.heap.objs.size f cdv)).guards = some []) :
    DSs none (fun cls d _ H2 => E cls d H2) (cxOf (L2.CX P w) P w K mg base N_Grid_init "Grid.__init__" (defScope (inClass (top 29) 0)) f cdv A2 fr s H E) (defBody (inClass (top 29) 0)) w_Grid_init := by
  have hN := (sc_Grid_init).nd
  exact (dss_cons (ds_if (dt_not (dt_val (de_callD A.ok_is_between hr (by decide) hgd rfl (takes_of rfl rfl rfl rfl) (da_cons (dv 1) (da_cons de_int (da_cons (de_gintE rfl A.c_MOST_STEP) da_nil)))))) (dss_one (ds_raiseD A.rx_InvalidGrid rfl hr (by decide) rfl (takes_of rfl rfl rfl rfl) (da_cons de_str da_nil))) dss_nil)
 (dss_cons (ds_set (i := 3) hN rfl (de_callD A.ok_numbers_of hr (by decide) hgd rfl (takes_of rfl rfl rfl rfl) (da_cons (dv 2) da_nil)))
 (dss_cons (ds_if (dt_cmp op_isN s2_isN (dv 3) de_non (nomark _)) (dss_one (ds_raiseD A.rx_InvalidGrid rfl hr (by decide) rfl (takes_of rfl rfl rfl rfl) (da_cons de_str da_nil))) dss_nil)
 (dss_cons (ds_fldOD A.fl_Grid_step rfl (dv 1))
 (dss_one (ds_fldOD A.fl_Grid_rest rfl (de_tup (da_cons (de_mod (de_item (dv 3) de_int) (dv 1)) (da_cons (de_mod (de_item (dv 3) de_int) (dv 1)) da_nil)))))))))
theorem Hd.ok_Grid_init (A : Hd K mg) : MakeD P w K mg base 3 "Grid" ["self", "step", "at"] sp_Grid_init := by
  obtain ⟨fd, F⟩ := A.c.def_ 3
  refine ⟨_, _, fd, A.g_Grid, He.mkr_ok (A.c.fact 82), F.bindsN fun _ _ _ _ _ _ us hl => match us, hl with | [_, _, _], _ => rfl, def_okI F sc_Grid_init (fun ds μ Q Xd h => by rw [h.1]; rfl) (fun cdv A2 fr s H E hr hgd => d_Grid_init A hr hgd) fun ds μ Q Xd a h => h.2 a⟩
/-! check_ahead -/
abbrev N_check_ahead : List Str := ["thing"]
theorem sc_check_ahead : FnScope N_check_ahead ["thing"] (defScope (top 61)) := ⟨rfl, rfl, rfl, by decide +kernel, rfl, by decide +kernel, by decide +kernel⟩
def w_check_ahead : WS := (sIf (wNot (wB (wN (fIsi isiT) (wCons (wVar 0) (wCons (wC (.ty "bool")) wNil)))))
  (sRaise "InvalidHalf" ["part"] (wCons (wC (.str "ahead")) wNil))
  sNext)
def sp_check_ahead : DSp := fun ds μ Q Xd => ds.length = 1 ∧ w_check_ahead (defE Q Xd) (startD N_check_ahead ds) μ
theorem d_check_ahead (A : Hd K mg) {cdv : Value} {A2 : Around} {fr : List Env} {s : Shared} {H : Hp} {E : XK} {f : Addr} (hr : Room 2 (A2.deeper (envOfC "check_ahead" (defScope (top 61)) s.heap.objs.size f cdv))) (hgd : (A2.deeper (envOfC "check_ahead" (defScope (top 61)) s.heap.objs.size f cdv)).guards = some []) :
    DSs none (fun cls d _ H2 => E cls d H2) (cxOf (L2.CX P w) P w K mg base N_check_ahead "check_ahead" (defScope (top 61)) f cdv A2 fr s H E) (defBody (top 61)) w_check_ahead := by
  have hN := (sc_check_ahead).nd
  exact (dss_one (ds_if (dt_not (dt_val (de_callB call_isi (sn_isi A.isi) rfl A.f_isinstance bt_isinstance (da_cons (dv 0) (da_cons (de_ty rfl A.f_bool bt_bool) da_nil))))) (dss_one (ds_raiseD A.rx_InvalidHalf rfl hr (by decide) rfl (takes_of rfl rfl rfl rfl) (da_cons de_str da_nil))) dss_nil))
theorem Hd.ok_check_ahead (A : Hd K mg) : CallD P w K mg base 3 "check_ahead" ["thing"] sp_check_ahead := by
  obtain ⟨fd, F⟩ := A.c.def_ 4
  exact ⟨_, fd, A.g_check_ahead, F.kp, F.bindsN fun _ _ _ _ _ _ us hl => match us, hl with | [_], _ => rfl, def_ok F sc_check_ahead (fun ds μ Q Xd h => h.1) (fun cdv A2 fr s H E hr hgd => d_check_ahead A hr hgd) fun ds μ Q Xd h => h.2⟩
/-! common_divisor -/
abbrev N_common_divisor : List Str := ["one", "other"]
theorem sc_common_divisor : FnScope N_common_divisor ["one", "other"] (defScope (top 52)) := ⟨rfl, rfl, rfl, by decide +kernel, rfl, by decide +kernel, by decide +kernel⟩
def w_common_divisor : WS := (sSeq (sPar2 0 1 (wCons (wN fAbs (wCons (wVar 0) wNil)) (wCons (wN fAbs (wCons (wVar 1) wNil)) wNil)))
 (sSeq (sWhile (wB (w2 fGt (wVar 1) (wC (.int (0)))))
  (sPar2 0 1 (wCons (wVar 1) (wCons (w2 fMod (wVar 0) (wVar 1)) wNil))))
 (sRet (wVar 0))))
def sp_common_divisor : DSp := fun ds μ Q Xd => ds.length = 2 ∧ w_common_divisor (defE Q Xd) (startD N_common_divisor ds) μ
theorem d_common_divisor (A : Hd K mg) {cdv : Value} {A2 : Around} {fr : List Env} {s : Shared} {H : Hp} {E : XK} {f : Addr} (hr : Room 0 (A2.deeper (envOfC "common_divisor" (defScope (top 52)) s.heap.objs.size f cdv))) (hgd : (A2.deeper (envOfC "common_divisor" (defScope (top 52)) s.heap.objs.size f cdv)).guards = some []) :
    DSs none (fun cls d _ H2 => E cls d H2) (cxOf (L2.CX P w) P w K mg base N_common_divisor "common_divisor" (defScope (top 52)) f cdv A2 fr s H E) (defBody (top 52)) w_common_divisor := by
  have hN := (sc_common_divisor).nd
  exact (dss_cons (ds_par2 (i := 0) (j := 1) rfl hN rfl rfl (by decide) (da_cons (de_callB call_abs sn_abs rfl A.f_abs bt_abs (da_cons (dv 0) da_nil)) (da_cons (de_callB call_abs sn_abs rfl A.f_abs bt_abs (da_cons (dv 1) da_nil)) da_nil)))
 (dss_cons (ds_while (passes_of rfl) (dt_cmp op_gt s2_IB (dv 1) de_int (nomark _)) (dss_one (ds_par2 (i := 0) (j := 1) rfl hN rfl rfl (by decide) (da_cons (dv 1) (da_cons (de_mod (dv 0) (dv 1)) da_nil)))))
 (dss_one (ds_ret (dv 0)))))
theorem Hd.ok_common_divisor (A : Hd K mg) : CallD P w K mg base 1 "common_divisor" ["one", "other"] sp_common_divisor := by
  obtain ⟨fd, F⟩ := A.c.def_ 5
  exact ⟨_, fd, A.g_common_divisor, F.kp, F.bindsN fun _ _ _ _ _ _ us hl => match us, hl with | [_, _], _ => rfl, def_ok F sc_common_divisor (fun ds μ Q Xd h => h.1) (fun cdv A2 fr s H E hr hgd => d_common_divisor A hr hgd) fun ds μ Q Xd h => h.2⟩
/-! lowest_pair -/
abbrev N_lowest_pair : List Str := ["pair", "divisor"]
theorem sc_lowest_pair : FnScope N_lowest_pair ["pair"] (defScope (top 53)) := ⟨rfl, rfl, rfl, by decide +kernel, rfl, by decide +kernel, by decide +kernel⟩
def w_lowest_pair : WS := (sSeq (sSet 1 (wCall sp_common_divisor (wCons (w2 fIx (wVar 0) (wC (.int (0)))) (wCons (w2 fIx (wVar 0) (wC (.int (1)))) wNil))))
 (sRet (wTup (wCons (w2 fDiv (w2 fIx (wVar 0) (wC (.int (0)))) (wVar 1)) (wCons (w2 fDiv (w2 fIx (wVar 0) (wC (.int (1)))) (wVar 1)) wNil)))))
def sp_lowest_pair : DSp := fun ds μ Q Xd => ds.length = 1 ∧ w_lowest_pair (defE Q Xd) (startD N_lowest_pair ds) μ
theorem d_lowest_pair (A : Hd K mg) {cdv : Value} {A2 : Around} {fr : List Env} {s : Shared} {H : Hp} {E : XK} {f : Addr} (hr : Room 1 (A2.deeper (envOfC "lowest_pair" (defScope (top 53)) s.heap.objs.size f cdv))) (hgd : (A2.deeper (envOfC "lowest_pair" (defScope (top 53)) s.heap.objs.size f cdv)).guards = some []) :
    DSs none (fun cls d _ H2 => E cls d H2) (cxOf (L2.CX P w) P w K mg base N_lowest_pair "lowest_pair" (defScope (top 53)) f cdv A2 fr s H E) (defBody (top 53)) w_lowest_pair := by
  have hN := (sc_lowest_pair).nd
  exact (dss_cons (ds_set (i := 1) hN rfl (de_callD A.ok_common_divisor hr (by decide) hgd rfl (takes_of rfl rfl rfl rfl) (da_cons (de_item (dv 0) de_int) (da_cons (de_item (dv 0) de_int) da_nil))))
 (dss_one (ds_ret (de_tup (da_cons (de_div (de_item (dv 0) de_int) (dv 1)) (da_cons (de_div (de_item (dv 0) de_int) (dv 1)) da_nil))))))
theorem Hd.ok_lowest_pair (A : Hd K mg) : CallD P w K mg base 2 "lowest_pair" ["pair"] sp_lowest_pair := by
  obtain ⟨fd, F⟩ := A.c.def_ 6
  exact ⟨_, fd, A.g_lowest_pair, F.kp, F.bindsN fun _ _ _ _ _ _ us hl => match us, hl with | [_], _ => rfl, def_ok F sc_lowest_pair (fun ds μ Q Xd h => h.1) (fun cdv A2 fr s H E hr hgd => d_lowest_pair A hr hgd) fun ds μ Q Xd h => h.2⟩
/-! way_in -/
abbrev N_way_in : List Str := ["thing", "pair"]
theorem sc_way_in : FnScope N_way_in ["thing"] (defScope (top 60)) := ⟨rfl, rfl, rfl, by decide +kernel, rfl, by decide +kernel, by decide +kernel⟩
def w_way_in : WS := (sSeq (sSet 1 (wCall sp_numbers_of (wCons (wVar 0) wNil)))
 (sSeq (sIf (wOr (wB (w2 fIsN (wVar 1) (wC .non))) (wB (w2 fEqU (wVar 1) (wTup (wCons (wC (.int (0))) (wCons (wC (.int (0))) wNil))))))
  (sRaise "InvalidHalf" ["part"] (wCons (wC (.str "way")) wNil))
  sNext)
 (sRet (wCall sp_lowest_pair (wCons (wVar 1) wNil)))))
def sp_way_in : DSp := fun ds μ Q Xd => ds.length = 1 ∧ w_way_in (defE Q Xd) (startD N_way_in ds) μ
theorem d_way_in (A : Hd K mg) {cdv : Value} {A2 : Around} {fr : List Env} {s : Shared} {H : Hp} {E : XK} {f : Addr} (hr : Room 2 (A2.deeper (envOfC "way_in" (defScope (top 60)) s.heap.objs.size f cdv))) (hgd : (A2.deeper (envOfC "way_in" (defScope (top 60)) s.heap.objs.size f cdv)).guards = some []) :
    DSs none (fun cls d _ H2 => E cls d H2) (cxOf (L2.CX P w) P w K mg base N_way_in "way_in" (defScope (top 60)) f cdv A2 fr s H E) (defBody (top 60)) w_way_in := by
  have hN := (sc_way_in).nd
  exact (dss_cons (ds_set (i := 1) hN rfl (de_callD A.ok_numbers_of hr (by decide) hgd rfl (takes_of rfl rfl rfl rfl) (da_cons (dv 0) da_nil)))
 (dss_cons (ds_if (dt_w (dw_or (dt_cmp op_isN s2_isN (dv 1) de_non (nomark _)) (dw_or1 (dt_cmp (op_eqU (have z := room64 hr; z)) s2_eqU (dv 1) (de_tup (da_cons de_int (da_cons de_int da_nil))) (nomark _))))) (dss_one (ds_raiseD A.rx_InvalidHalf rfl hr (by decide) rfl (takes_of rfl rfl rfl rfl) (da_cons de_str da_nil))) dss_nil)
 (dss_one (ds_ret (de_callD A.ok_lowest_pair hr (by decide) hgd rfl (takes_of rfl rfl rfl rfl) (da_cons (dv 1) da_nil))))))
theorem Hd.ok_way_in (A : Hd K mg) : CallD P w K mg base 3 "way_in" ["thing"] sp_way_in := by
  obtain ⟨fd, F⟩ := A.c.def_ 7
  exact ⟨_, fd, A.g_way_in, F.kp, F.bindsN fun _ _ _ _ _ _ us hl => match us, hl with | [_], _ => rfl, def_ok F sc_way_in (fun ds μ Q Xd h => h.1) (fun cdv A2 fr s H E hr hgd => d_way_in A hr hgd) fun ds μ Q Xd h => h.2⟩
/-! Half_init -/
abbrev N_Half_init : List Str := ["self", "way", "ahead", "pair"]
theorem sc_Half_init : FnScope N_Half_init ["self", "way", "ahead"] (defScope (inClass (top 62) 0)) := ⟨rfl, rfl, rfl, by decide +kernel, rfl, by decide +kernel, by decide +kernel⟩
def w_Half_init : WS := (sSeq (sSet 3 (wCall sp_way_in (wCons (wVar 1) wNil)))
 (sSeq (sDrop (wCall sp_check_ahead (wCons (wVar 2) wNil)))
 (sSeq (sFldO "Half" 0 "own_way" (wVar 3))
 (sFldO "Half" 0 "own_ahead" (wVar 2)))))
def sp_Half_init : ISp := fun ds μ Q Xd => ds.length = 2 ∧ ∀ a, w_Half_init (defI "Half" a Q Xd) (startI N_Half_init "Half" a ds) μ
theorem d_Half_init (A : Hd K mg) {cdv : Value} {A2 : Around} {fr : List Env} {s : Shared} {H : Hp} {E : XK} {f : Addr} (hr : Room 3 (A2.deeper (envOfC "Half.__init__" (defScope (inClass (top 62) 0)) s.heap.objs.size f cdv))) (hgd : (A2.deeper (envOfC "Half.__init__" (defScope (inClass (top 62) 0)) s.heap.objs.size f cdv)).guards = some []) :
    DSs none (fun cls d _ H2 => E cls d H2) (cxOf (L2.CX P w) P w K mg base N_Half_init "Half.__init__" (defScope (inClass (top 62) 0)) f cdv A2 fr s H E) (defBody (inClass (top 62) 0)) w_Half_init := by
  have hN := (sc_Half_init).nd
  exact (dss_cons (ds_set (i := 3) hN rfl (de_callD A.ok_way_in hr (by decide) hgd rfl (takes_of rfl rfl rfl rfl) (da_cons (dv 1) da_nil)))
 (dss_cons (ds_expr (de_callD A.ok_check_ahead hr (by decide) hgd rfl (takes_of rfl rfl rfl rfl) (da_cons (dv 2) da_nil)))
 (dss_cons (ds_fldOD A.fl_Half_own_way rfl (dv 3))
 (dss_one (ds_fldOD A.fl_Half_own_ahead rfl (dv 2))))))
theorem Hd.ok_Half_init (A : Hd K mg) : MakeD P w K mg base 4 "Half" ["self", "way", "ahead"] sp_Half_init := by
  obtain ⟨fd, F⟩ := A.c.def_ 8
  refine ⟨_, _, fd, A.g_Half, He.mkr_ok (A.c.fact 83), F.bindsN fun _ _ _ _ _ _ us hl => match us, hl with | [_, _, _], _ => rfl, def_okI F sc_Half_init (fun ds μ Q Xd h => by rw [h.1]; rfl) (fun cdv A2 fr s H E hr hgd => d_Half_init A hr hgd) fun ds μ Q Xd a h => h.2 a⟩
/-! Net_eq -/
abbrev N_Net_eq : List Str := ["self", "other"]
theorem sc_Net_eq : FnScope N_Net_eq ["self", "other"] (defScope (inClass (top 42) 12)) := ⟨rfl, rfl, rfl, by decide +kernel, rfl, by decide +kernel, by decide +kernel⟩
def w_Net_eq : WS := (sRet (wAndV (wN (fIsi isiT) (wCons (wVar 1) (wCons (wC (.cls "Net")) wNil))) (w2 fEqU (wTup (wCons (w1 (fFld "Net" "pairs") (wVar 0)) (wCons (w1 (fFld "Net" "own_triples") (wVar 0)) wNil))) (wTup (wCons (w1 (fFld "Net" "pairs") (wVar 1)) (wCons (w1 (fFld "Net" "own_triples") (wVar 1)) wNil))))))
def sp_Net_eq : DSp := fun ds μ Q Xd => ds.length = 2 ∧ w_Net_eq (defE Q Xd) (startD N_Net_eq ds) μ
theorem d_Net_eq (A : Hd K mg) {cdv : Value} {A2 : Around} {fr : List Env} {s : Shared} {H : Hp} {E : XK} {f : Addr} (hr : Room 0 (A2.deeper (envOfC "Net.__eq__" (defScope (inClass (top 42) 12)) s.heap.objs.size f cdv))) (hgd : (A2.deeper (envOfC "Net.__eq__" (defScope (inClass (top 42) 12)) s.heap.objs.size f cdv)).guards = some []) :
    DSs none (fun cls d _ H2 => E cls d H2) (cxOf (L2.CX P w) P w K mg base N_Net_eq "Net.__eq__" (defScope (inClass (top 42) 12)) f cdv A2 fr s H E) (defBody (inClass (top 42) 12)) w_Net_eq := by
  have hN := (sc_Net_eq).nd
  exact (dss_one (ds_ret (de_and (de_callB call_isi (sn_isi A.isi) rfl A.f_isinstance bt_isinstance (da_cons (dv 1) (da_cons (de_cls rfl A.g_Net) da_nil))) (de_one (de_cmp (op_eqU (have z := room64 hr; z)) s2_eqU (de_tup (da_cons (de_fldD A.fl_Net_pairs (dv 0)) (da_cons (de_fldD A.fl_Net_own_triples (dv 0)) da_nil))) (de_tup (da_cons (de_fldD A.fl_Net_pairs (dv 1)) (da_cons (de_fldD A.fl_Net_own_triples (dv 1)) da_nil))) (nomark _))))))
theorem Hd.ok_Net_eq (A : Hd K mg) : CmpD P w K mg base 1 "Net" "__eq__" [] ["Net"] ["self", "other"] sp_Net_eq := by
  obtain ⟨fd, F⟩ := A.c.def_ 9
  obtain ⟨h, X, G⟩ := A.ex
  exact cmpD_of X G (He.ba (He.ba A.more).2).1 (F.bindsN fun _ _ _ _ _ _ us hl => match us, hl with | [_, _], _ => rfl) (def_ok F sc_Net_eq (fun ds μ Q Xd h => h.1) (fun cdv A2 fr s H E hr hgd => d_Net_eq A hr hgd) fun ds μ Q Xd h => h.2)
/-! check_points -/
abbrev N_check_points : List Str := ["points", "number", "thing"]
theorem sc_check_points : FnScope N_check_points ["points"] (defScope (top 39)) := ⟨rfl, rfl, rfl, by decide +kernel, rfl, by decide +kernel, by decide +kernel⟩
def w_check_points : WS := (sSeq (sIf (wOr (wNot (wB (wN (fIsi isiT) (wCons (wVar 0) (wCons (wC (.ty "list")) wNil))))) (wB (w2 fGt (wN fLen (wCons (wVar 0) wNil)) (wC (.int (100))))))
  (sRaise "InvalidNet" ["part", "number"] (wCons (wC (.str "points")) (wCons (wC .non) wNil)))
  sNext)
 (sForC (wiEnC (wCons (wVar 0) wNil)) (kTup 2 (kCons (kName 1) (kCons (kName 2) kNil)))
  (sIf (wB (w2 fIsN (wCall sp_numbers_of (wCons (wVar 2) wNil)) (wC .non)))
  (sRaise "InvalidNet" ["part", "number"] (wCons (wC (.str "points")) (wCons (wVar 1) wNil)))
  sNext)))
def sp_check_points : DSp := fun ds μ Q Xd => ds.length = 1 ∧ w_check_points (defE Q Xd) (startD N_check_points ds) μ
theorem d_check_points (A : Hd K mg) {cdv : Value} {A2 : Around} {fr : List Env} {s : Shared} {H : Hp} {E : XK} {f : Addr} (hr : Room 2 (A2.deeper (envOfC "check_points" (defScope (top 39)) s.heap.objs.size f cdv))) (hgd : (A2.deeper (envOfC "check_points" (defScope (top 39)) s.heap.objs.size f cdv)).guards = some []) :
    DSs none (fun cls d _ H2 => E cls d H2) (cxOf (L2.CX P w) P w K mg base N_check_points "check_points" (defScope (top 39)) f cdv A2 fr s H E) (defBody (top 39)) w_check_points := by
  have hN := (sc_check_points).nd
  exact (dss_cons (ds_if (dt_w (dw_or (dt_not (dt_val (de_callB call_isi (sn_isi A.isi) rfl A.f_isinstance bt_isinstance (da_cons (dv 0) (da_cons (de_ty rfl A.f_list bt_list) da_nil))))) (dw_or1 (dt_cmp op_gt s2_IB (de_callB call_len_seq sn_len rfl A.f_len bt_len (da_cons (dv 0) da_nil)) (de_gintE rfl A.c_MOST_POINTS) (nomark _))))) (dss_one (ds_raiseD A.rx_InvalidNet rfl hr (by decide) rfl (takes_of rfl rfl rfl rfl) (da_cons de_str (da_cons de_non da_nil)))) dss_nil)
 (dss_one (ds_forC (passes_of rfl) rfl (di_enC (by rfl) A.f_enumerate (da_cons (dv 0) da_nil)) (dg_tup rfl (dgs_cons (dg_name hN rfl) (dgs_cons (dg_name hN rfl) dgs_nil))) (dss_one (ds_if (dt_cmp op_isN s2_isN (de_callD A.ok_numbers_of hr (by decide) hgd rfl (takes_of rfl rfl rfl rfl) (da_cons (dv 2) da_nil)) de_non (nomark _)) (dss_one (ds_raiseD A.rx_InvalidNet rfl hr (by decide) rfl (takes_of rfl rfl rfl rfl) (da_cons de_str (da_cons (dv 1) da_nil)))) dss_nil)))))
theorem Hd.ok_check_points (A : Hd K mg) : CallD P w K mg base 3 "check_points" ["points"] sp_check_points := by
  obtain ⟨fd, F⟩ := A.c.def_ 10
  exact ⟨_, fd, A.g_check_points, F.kp, F.bindsN fun _ _ _ _ _ _ us hl => match us, hl with | [_], _ => rfl, def_ok F sc_check_points (fun ds μ Q Xd h => h.1) (fun cdv A2 fr s H E hr hgd => d_check_points A hr hgd) fun ds μ Q Xd h => h.2⟩
/-! is_triple -/
abbrev N_is_triple : List Str := ["thing", "many", "index"]
theorem sc_is_triple : FnScope N_is_triple ["thing", "many"] (defScope (top 40)) := ⟨rfl, rfl, rfl, by decide +kernel, rfl, by decide +kernel, by decide +kernel⟩
def w_is_triple : WS := (sSeq (sIf (wOr (wNot (wB (wN (fIsi isiT) (wCons (wVar 0) (wCons (wC (.ty "tuple")) wNil))))) (wB (w2 fNeU (wN fLen (wCons (wVar 0) wNil)) (wC (.int (3))))))
  (sRet (wC (.bl false)))
  sNext)
 (sSeq (sIf (wNot (wB (wN fAll (wCons (wLc (wiT (wVar 0)) (kNameC 2) wYes (wCall sp_is_between (wCons (wVar 2) (wCons (wC (.int (0))) (wCons (w2 fSub (wVar 1) (wC (.int (1)))) wNil)))) [2]) wNil))))
  (sRet (wC (.bl false)))
  sNext)
 (sRet (wAndV (w2 fNeU (w2 fIx (wVar 0) (wC (.int (0)))) (w2 fIx (wVar 0) (wC (.int (1))))) (wAndV (w2 fNeU (w2 fIx (wVar 0) (wC (.int (1)))) (w2 fIx (wVar 0) (wC (.int (2))))) (w2 fNeU (w2 fIx (wVar 0) (wC (.int (2)))) (w2 fIx (wVar 0) (wC (.int (0))))))))))
def sp_is_triple : DSp := fun ds μ Q Xd => ds.length = 2 ∧ w_is_triple (defE Q Xd) (startD N_is_triple ds) μ
theorem d_is_triple (A : Hd K mg) {cdv : Value} {A2 : Around} {fr : List Env} {s : Shared} {H : Hp} {E : XK} {f : Addr} (hr : Room 2 (A2.deeper (envOfC "is_triple" (defScope (top 40)) s.heap.objs.size f cdv))) (hgd : (A2.deeper (envOfC "is_triple" (defScope (top 40)) s.heap.objs.size f cdv)).guards = some []) :
    DSs none (fun cls d _ H2 => E cls d H2) (cxOf (L2.CX P w) P w K mg base N_is_triple "is_triple" (defScope (top 40)) f cdv A2 fr s H E) (defBody (top 40)) w_is_triple := by
  have hN := (sc_is_triple).nd
  exact (dss_cons (ds_if (dt_w (dw_or (dt_not (dt_val (de_callB call_isi (sn_isi A.isi) rfl A.f_isinstance bt_isinstance (da_cons (dv 0) (da_cons (de_ty rfl A.f_tuple bt_tuple) da_nil))))) (dw_or1 (dt_cmp (op_neU (have z := room64 hr; z)) s2_neU (de_callB call_len_seq sn_len rfl A.f_len bt_len (da_cons (dv 0) da_nil)) de_int (nomark _))))) (dss_one (ds_ret de_bl)) dss_nil)
 (dss_cons (ds_if (dt_not (dt_val (de_callB (cr_all rfl) sn_all rfl A.f_all bt_all (da_cons (de_lc rfl hN (di_tup (dv 0)) (blkOk_by (own := [("index", 2)]) (by show blkC N_is_triple (defScope (top 40)) _ _ = true; decide +kernel)) (lcg_name (by decide)) (fun _ _ _ _ _ => (pg_name hN rfl (by first | exact Or.inl rfl | exact Or.inr rfl) (by first | exact .inl rfl | exact .inr rfl))) (fun _ _ _ _ _ => dts_nil) (fun _ _ _ _ _ => (de_callD A.ok_is_between hr (by decide) hgd rfl takes0 (da_cons (dv 2) (da_cons de_int (da_cons (de_sub (dv 1) de_int) da_nil)))))) da_nil)))) (dss_one (ds_ret de_bl)) dss_nil)
 (dss_one (ds_ret (de_and (de_cmp (op_neU (have z := room64 hr; z)) s2_neU (de_item (dv 0) de_int) (de_item (dv 0) de_int) (nomark _)) (de_and (de_cmp (op_neU (have z := room64 hr; z)) s2_neU (de_item (dv 0) de_int) (de_item (dv 0) de_int) (nomark _)) (de_one (de_cmp (op_neU (have z := room64 hr; z)) s2_neU (de_item (dv 0) de_int) (de_item (dv 0) de_int) (nomark _)))))))))
theorem Hd.ok_is_triple (A : Hd K mg) : CallD P w K mg base 3 "is_triple" ["thing", "many"] sp_is_triple := by
  obtain ⟨fd, F⟩ := A.c.def_ 11
  exact ⟨_, fd, A.g_is_triple, F.kp, F.bindsN fun _ _ _ _ _ _ us hl => match us, hl with | [_, _], _ => rfl, def_ok F sc_is_triple (fun ds μ Q Xd h => h.1) (fun cdv A2 fr s H E hr hgd => d_is_triple A hr hgd) fun ds μ Q Xd h => h.2⟩
/-! check_triples -/
abbrev N_check_triples : List Str := ["triples", "many", "number", "thing"]
theorem sc_check_triples : FnScope N_check_triples ["triples", "many"] (defScope (top 41)) := ⟨rfl, rfl, rfl, by decide +kernel, rfl, by decide +kernel, by decide +kernel⟩
def w_check_triples : WS := (sSeq (sIf (wOr (wNot (wB (wN (fIsi isiT) (wCons (wVar 0) (wCons (wC (.ty "list")) wNil))))) (wB (w2 fGt (wN fLen (wCons (wVar 0) wNil)) (wC (.int (100))))))
  (sRaise "InvalidNet" ["part", "number"] (wCons (wC (.str "triples")) (wCons (wC .non) wNil)))
  sNext)
 (sForC (wiEnC (wCons (wVar 0) wNil)) (kTup 2 (kCons (kName 2) (kCons (kName 3) kNil)))
  (sIf (wNot (wB (wCall sp_is_triple (wCons (wVar 3) (wCons (wVar 1) wNil)))))
  (sRaise "InvalidNet" ["part", "number"] (wCons (wC (.str "triples")) (wCons (wVar 2) wNil)))
  sNext)))
def sp_check_triples : DSp := fun ds μ Q Xd => ds.length = 2 ∧ w_check_triples (defE Q Xd) (startD N_check_triples ds) μ
theorem d_check_triples (A : Hd K mg) {cdv : Value} {A2 : Around} {fr : List Env} {s : Shared} {H : Hp} {E : XK} {f : Addr} (hr : Room 3 (A2.deeper (envOfC "check_triples" (defScope (top 41)) s.heap.objs.size f cdv))) (hgd : (A2.deeper (envOfC "check_triples" (defScope (top 41)) s.heap.objs.size f cdv)).guards = some []) :
    DSs none (fun cls d _ H2 => E cls d H2) (cxOf (L2.CX P w) P w K mg base N_check_triples "check_triples" (defScope (top 41)) f cdv A2 fr s H E) (defBody (top 41)) w_check_triples := by
  have hN := (sc_check_triples).nd
  exact (dss_cons (ds_if (dt_w (dw_or (dt_not (dt_val (de_callB call_isi (sn_isi A.isi) rfl A.f_isinstance bt_isinstance (da_cons (dv 0) (da_cons (de_ty rfl A.f_list bt_list) da_nil))))) (dw_or1 (dt_cmp op_gt s2_IB (de_callB call_len_seq sn_len rfl A.f_len bt_len (da_cons (dv 0) da_nil)) (de_gintE rfl A.c_MOST_POINTS) (nomark _))))) (dss_one (ds_raiseD A.rx_InvalidNet rfl hr (by decide) rfl (takes_of rfl rfl rfl rfl) (da_cons de_str (da_cons de_non da_nil)))) dss_nil)
 (dss_one (ds_forC (passes_of rfl) rfl (di_enC (by rfl) A.f_enumerate (da_cons (dv 0) da_nil)) (dg_tup rfl (dgs_cons (dg_name hN rfl) (dgs_cons (dg_name hN rfl) dgs_nil))) (dss_one (ds_if (dt_not (dt_val (de_callD A.ok_is_triple hr (by decide) hgd rfl (takes_of rfl rfl rfl rfl) (da_cons (dv 3) (da_cons (dv 1) da_nil))))) (dss_one (ds_raiseD A.rx_InvalidNet rfl hr (by decide) rfl (takes_of rfl rfl rfl rfl) (da_cons de_str (da_cons (dv 2) da_nil)))) dss_nil)))))
theorem Hd.ok_check_triples (A : Hd K mg) : CallD P w K mg base 4 "check_triples" ["triples", "many"] sp_check_triples := by
  obtain ⟨fd, F⟩ := A.c.def_ 12
  exact ⟨_, fd, A.g_check_triples, F.kp, F.bindsN fun _ _ _ _ _ _ us hl => match us, hl with | [_, _], _ => rfl, def_ok F sc_check_triples (fun ds μ Q Xd h => h.1) (fun cdv A2 fr s H E hr hgd => d_check_triples A hr hgd) fun ds μ Q Xd h => h.2⟩
/-! Net_init -/
abbrev N_Net_init : List Str := ["self", "points", "triples", "thing"]
theorem sc_Net_init : FnScope N_Net_init ["self", "points", "triples"] (defScope (inClass (top 42) 0)) := ⟨rfl, rfl, rfl, by decide +kernel, rfl, by decide +kernel, by decide +kernel⟩
def w_Net_init : WS := (sSeq (sDrop (wCall sp_check_points (wCons (wVar 1) wNil)))
 (sSeq (sDrop (wCall sp_check_triples (wCons (wVar 2) (wCons (wN fLen (wCons (wVar 1) wNil)) wNil))))
 (sSeq (sFldO "Net" 0 "pairs" (wLcU (wiCel (wVar 1)) (kNameC 3) wYes (wCall sp_numbers_of (wCons (wVar 3) wNil)) [3]))
 (sFldO "Net" 0 "own_triples" (wN fListOf (wCons (wVar 2) wNil))))))
def sp_Net_init : ISp := fun ds μ Q Xd => ds.length = 2 ∧ ∀ a, w_Net_init (defI "Net" a Q Xd) (startI N_Net_init "Net" a ds) μ
theorem d_Net_init (A : Hd K mg) {cdv : Value} {A2 : Around} {fr : List Env} {s : Shared} {H : Hp} {E : XK} {f : Addr} (hr : Room 4 (A2.deeper (envOfC "Net.__init__" (defScope (inClass (top 42) 0)) s.heap.objs.size f cdv))) (hgd : (A2.deeper (envOfC "Net.__init__" (defScope (inClass (top 42) 0)) s.heap.objs.size f cdv)).guards = some []) :
    DSs none (fun cls d _ H2 => E cls d H2) (cxOf (L2.CX P w) P w K mg base N_Net_init "Net.__init__" (defScope (inClass (top 42) 0)) f cdv A2 fr s H E) (defBody (inClass (top 42) 0)) w_Net_init := by
  have hN := (sc_Net_init).nd
  exact (dss_cons (ds_expr (de_callD A.ok_check_points hr (by decide) hgd rfl (takes_of rfl rfl rfl rfl) (da_cons (dv 1) da_nil)))
 (dss_cons (ds_expr (de_callD A.ok_check_triples hr (by decide) hgd rfl (takes_of rfl rfl rfl rfl) (da_cons (dv 2) (da_cons (de_callB call_len_seq sn_len rfl A.f_len bt_len (da_cons (dv 1) da_nil)) da_nil))))
 (dss_cons (ds_fldOD A.fl_Net_pairs rfl (de_lcU rfl hN (di_cel (dv 1)) (blkOk_by (own := [("thing", 3)]) (by show blkC N_Net_init (defScope (inClass (top 42) 0)) _ _ = true; decide +kernel)) (lcg_name (by decide)) (fun _ _ _ _ _ => (pg_name hN rfl (by first | exact Or.inl rfl | exact Or.inr rfl) (by first | exact .inl rfl | exact .inr rfl))) (fun _ _ _ _ _ => dts_nil) (fun _ _ _ _ _ => (de_callD A.ok_numbers_of hr (by decide) hgd rfl takes0 (da_cons (dv 3) da_nil)))))
 (dss_one (ds_fldOD A.fl_Net_own_triples rfl (de_callTy call_list_of sn_listOf rfl A.f_list bt_list (da_cons (dv 2) da_nil)))))))
theorem Hd.ok_Net_init (A : Hd K mg) : MakeD P w K mg base 5 "Net" ["self", "points", "triples"] sp_Net_init := by
  obtain ⟨fd, F⟩ := A.c.def_ 13
  refine ⟨_, _, fd, A.g_Net, He.mkr_ok (A.c.fact 84), F.bindsN fun _ _ _ _ _ _ us hl => match us, hl with | [_, _, _], _ => rfl, def_okI F sc_Net_init (fun ds μ Q Xd h => by rw [h.1]; rfl) (fun cdv A2 fr s H E hr hgd => d_Net_init A hr hgd) fun ds μ Q Xd a h => h.2 a⟩
/-! Point_pair -/
abbrev N_Point_pair : List Str := ["self"]
theorem sc_Point_pair : FnScope N_Point_pair ["self"] (defScope (inClass (top 17) 2)) := ⟨rfl, rfl, rfl, by decide +kernel, rfl, by decide +kernel, by decide +kernel⟩
def w_Point_pair : WS := (sRet (wTup (wCons (w1 (fFld "Point" "x") (wVar 0)) (wCons (w1 (fFld "Point" "y") (wVar 0)) wNil))))
def sp_Point_pair : DSp := fun ds μ Q Xd => ds.length = 1 ∧ w_Point_pair (defE Q Xd) (startD N_Point_pair ds) μ
theorem d_Point_pair (A : Hd K mg) {cdv : Value} {A2 : Around} {fr : List Env} {s : Shared} {H : Hp} {E : XK} {f : Addr} (hr : Room 0 (A2.deeper (envOfC "Point.pair" (defScope (inClass (top 17) 2)) s.heap.objs.size f cdv))) (hgd : (A2.deeper (envOfC "Point.pair" (defScope (inClass (top 17) 2)) s.heap.objs.size f cdv)).guards = some []) :
    DSs none (fun cls d _ H2 => E cls d H2) (cxOf (L2.CX P w) P w K mg base N_Point_pair "Point.pair" (defScope (inClass (top 17) 2)) f cdv A2 fr s H E) (defBody (inClass (top 17) 2)) w_Point_pair := by
  have hN := (sc_Point_pair).nd
  exact (dss_one (ds_ret (de_tup (da_cons (de_fldD A.fl_Point_x (dv 0)) (da_cons (de_fldD A.fl_Point_y (dv 0)) da_nil)))))
theorem Hd.ok_Point_pair (A : Hd K mg) : MethD P w K mg base 1 "Point" "pair" ["self"] sp_Point_pair := by
  obtain ⟨fd, F⟩ := A.c.def_ 14
  exact ⟨_, _, fd, A.g_Point, He.cls_ok (A.c.fact 76), He.meth_ok (A.c.fact 87), F.bindsN fun _ _ _ _ _ _ us hl => match us, hl with | [_], _ => rfl, def_ok F sc_Point_pair (fun ds μ Q Xd h => h.1) (fun cdv A2 fr s H E hr hgd => d_Point_pair A hr hgd) fun ds μ Q Xd h => h.2⟩
/-! Point_init -/
abbrev N_Point_init : List Str := ["self", "x", "y"]
theorem sc_Point_init : FnScope N_Point_init ["self", "x", "y"] (defScope (inClass (top 17) 0)) := ⟨rfl, rfl, rfl, by decide +kernel, rfl, by decide +kernel, by decide +kernel⟩
def w_Point_init : WS := (sSeq (sIf (wOr (wNot (wB (wCall sp_is_integer (wCons (wVar 1) wNil)))) (wNot (wB (wCall sp_is_integer (wCons (wVar 2) wNil)))))
  (sRaise "InvalidPoint" ["thing"] (wCons (wTup (wCons (wVar 1) (wCons (wVar 2) wNil))) wNil))
  sNext)
 (sSeq (sFldO "Point" 0 "x" (wVar 1))
 (sFldO "Point" 0 "y" (wVar 2))))
def sp_Point_init : ISp := fun ds μ Q Xd => ds.length = 2 ∧ ∀ a, w_Point_init (defI "Point" a Q Xd) (startI N_Point_init "Point" a ds) μ
theorem d_Point_init (A : Hd K mg) {cdv : Value} {A2 : Around} {fr : List Env} {s : Shared} {H : Hp} {E : XK} {f : Addr} (hr : Room 2 (A2.deeper (envOfC "Point.__init__" (defScope (inClass (top 17) 0)) s.heap.objs.size f cdv))) (hgd : (A2.deeper (envOfC "Point.__init__" (defScope (inClass (top 17) 0)) s.heap.objs.size f cdv)).guards = some []) :
    DSs none (fun cls d _ H2 => E cls d H2) (cxOf (L2.CX P w) P w K mg base N_Point_init "Point.__init__" (defScope (inClass (top 17) 0)) f cdv A2 fr s H E) (defBody (inClass (top 17) 0)) w_Point_init := by
  have hN := (sc_Point_init).nd
  exact (dss_cons (ds_if (dt_w (dw_or (dt_not (dt_val (de_callD A.ok_is_integer hr (by decide) hgd rfl (takes_of rfl rfl rfl rfl) (da_cons (dv 1) da_nil)))) (dw_or1 (dt_not (dt_val (de_callD A.ok_is_integer hr (by decide) hgd rfl (takes_of rfl rfl rfl rfl) (da_cons (dv 2) da_nil))))))) (dss_one (ds_raiseD A.rx_InvalidPoint rfl hr (by decide) rfl (takes_of rfl rfl rfl rfl) (da_cons (de_tup (da_cons (dv 1) (da_cons (dv 2) da_nil))) da_nil))) dss_nil)
 (dss_cons (ds_fldOD A.fl_Point_x rfl (dv 1))
 (dss_one (ds_fldOD A.fl_Point_y rfl (dv 2)))))
theorem Hd.ok_Point_init (A : Hd K mg) : MakeD P w K mg base 3 "Point" ["self", "x", "y"] sp_Point_init := by
  obtain ⟨fd, F⟩ := A.c.def_ 15
  refine ⟨_, _, fd, A.g_Point, He.mkr_ok (A.c.fact 85), F.bindsN fun _ _ _ _ _ _ us hl => match us, hl with | [_, _, _], _ => rfl, def_okI F sc_Point_init (fun ds μ Q Xd h => by rw [h.1]; rfl) (fun cdv A2 fr s H E hr hgd => d_Point_init A hr hgd) fun ds μ Q Xd a h => h.2 a⟩
/-! point_of -/
abbrev N_point_of : List Str := ["pair"]
theorem sc_point_of : FnScope N_point_of ["pair"] (defScope (top 20)) := ⟨rfl, rfl, rfl, by decide +kernel, rfl, by decide +kernel, by decide +kernel⟩
def w_point_of : WS := (sRet (wMake "Point" sp_Point_init (wCons (w2 fIx (wVar 0) (wC (.int (0)))) (wCons (w2 fIx (wVar 0) (wC (.int (1)))) wNil))))
def sp_point_of : DSp := fun ds μ Q Xd => ds.length = 1 ∧ w_point_of (defE Q Xd) (startD N_point_of ds) μ
theorem d_point_of (A : Hd K mg) {cdv : Value} {A2 : Around} {fr : List Env} {s : Shared} {H : Hp} {E : XK} {f : Addr} (hr : Room 4 (A2.deeper (envOfC "point_of" (defScope (top 20)) s.heap.objs.size f cdv))) (hgd : (A2.deeper (envOfC "point_of" (defScope (top 20)) s.heap.objs.size f cdv)).guards = some []) :
    DSs none (fun cls d _ H2 => E cls d H2) (cxOf (L2.CX P w) P w K mg base N_point_of "point_of" (defScope (top 20)) f cdv A2 fr s H E) (defBody (top 20)) w_point_of := by
  have hN := (sc_point_of).nd
  exact (dss_one (ds_ret (de_makeD A.ok_Point_init hr (by decide) hgd rfl (takes_of rfl rfl rfl rfl) (da_cons (de_item (dv 0) de_int) (da_cons (de_item (dv 0) de_int) da_nil)))))
theorem Hd.ok_point_of (A : Hd K mg) : CallD P w K mg base 5 "point_of" ["pair"] sp_point_of := by
  obtain ⟨fd, F⟩ := A.c.def_ 16
  exact ⟨_, fd, A.g_point_of, F.kp, F.bindsN fun _ _ _ _ _ _ us hl => match us, hl with | [_], _ => rfl, def_ok F sc_point_of (fun ds μ Q Xd h => h.1) (fun cdv A2 fr s H E hr hgd => d_point_of A hr hgd) fun ds μ Q Xd h => h.2⟩
/-! Samples_points -/
abbrev N_Samples_points : List Str := ["self", "pair"]
theorem sc_Samples_points : FnScope N_Samples_points ["self"] (defScope (inClass (top 36) 1)) := ⟨rfl, rfl, rfl, by decide +kernel, rfl, by decide +kernel, by decide +kernel⟩
def w_Samples_points : WS := (sRet (wLc (wiL (w1 (fFld "Samples" "pairs") (wVar 0))) (kNameC 1) wYes (wCall sp_point_of (wCons (wVar 1) wNil)) [1]))
def sp_Samples_points : DSp := fun ds μ Q Xd => ds.length = 1 ∧ w_Samples_points (defE Q Xd) (startD N_Samples_points ds) μ
theorem d_Samples_points (A : Hd K mg) {cdv : Value} {A2 : Around} {fr : List Env} {s : Shared} {H : Hp} {E : XK} {f : Addr} (hr : Room 5 (A2.deeper (envOfC "Samples.points" (defScope (inClass (top 36) 1)) s.heap.objs.size f cdv))) (hgd : (A2.deeper (envOfC "Samples.points" (defScope (inClass (top 36) 1)) s.heap.objs.size f cdv)).guards = some []) :
    DSs none (fun cls d _ H2 => E cls d H2) (cxOf (L2.CX P w) P w K mg base N_Samples_points "Samples.points" (defScope (inClass (top 36) 1)) f cdv A2 fr s H E) (defBody (inClass (top 36) 1)) w_Samples_points := by
  have hN := (sc_Samples_points).nd
  exact (dss_one (ds_ret (de_lc rfl hN (di_list (de_fldD A.fl_Samples_pairs (dv 0))) (blkOk_by (own := [("pair", 1)]) (by show blkC N_Samples_points (defScope (inClass (top 36) 1)) _ _ = true; decide +kernel)) (lcg_name (by decide)) (fun _ _ _ _ _ => (pg_name hN rfl (by first | exact Or.inl rfl | exact Or.inr rfl) (by first | exact .inl rfl | exact .inr rfl))) (fun _ _ _ _ _ => dts_nil) (fun _ _ _ _ _ => (de_callD A.ok_point_of hr (by decide) hgd rfl takes0 (da_cons (dv 1) da_nil))))))
theorem Hd.ok_Samples_points (A : Hd K mg) : MethD P w K mg base 6 "Samples" "points" ["self"] sp_Samples_points := by
  obtain ⟨fd, F⟩ := A.c.def_ 17
  exact ⟨_, _, fd, A.g_Samples, He.cls_ok (A.c.fact 80), He.meth_ok (A.c.fact 88), F.bindsN fun _ _ _ _ _ _ us hl => match us, hl with | [_], _ => rfl, def_ok F sc_Samples_points (fun ds μ Q Xd h => h.1) (fun cdv A2 fr s H E hr hgd => d_Samples_points A hr hgd) fun ds μ Q Xd h => h.2⟩
/-! _law_half_in -/
abbrev N__law_half_in : List Str := ["n", "tie_in", "d", "at"]
theorem sc__law_half_in : FnScope N__law_half_in ["n", "tie_in", "d"] (defScope (top 73)) := ⟨rfl, rfl, rfl, by decide +kernel, rfl, by decide +kernel, by decide +kernel⟩
def w__law_half_in : WS := (sSeq (sSet 3 (w2 fSub (w2 fTimes (w2 fIx (wVar 0) (wC (.int (0)))) (w2 fIx (wVar 2) (wC (.int (1))))) (w2 fTimes (w2 fIx (wVar 0) (wC (.int (1)))) (w2 fIx (wVar 2) (wC (.int (0)))))))
 (sSeq (sIf (wB (w2 fNeU (wVar 3) (wC (.int (0)))))
  (sRet (w2 fGt (wVar 3) (wC (.int (0)))))
  sNext)
 (sRet (w2 fEqU (w2 fGt (w2 fPlus (w2 fTimes (w2 fIx (wVar 0) (wC (.int (0)))) (w2 fIx (wVar 2) (wC (.int (0))))) (w2 fTimes (w2 fIx (wVar 0) (wC (.int (1)))) (w2 fIx (wVar 2) (wC (.int (1)))))) (wC (.int (0)))) (wVar 1)))))
def sp__law_half_in : DSp := fun ds μ Q Xd => ds.length = 3 ∧ w__law_half_in (defE Q Xd) (startD N__law_half_in ds) μ
theorem d__law_half_in (A : Hd K mg) {cdv : Value} {A2 : Around} {fr : List Env} {s : Shared} {H : Hp} {E : XK} {f : Addr} (hr : Room 0 (A2.deeper (envOfC "_law_half_in" (defScope (top 73)) s.heap.objs.size f cdv))) (hgd : (A2.deeper (envOfC "_law_half_in" (defScope (top 73)) s.heap.objs.size f cdv)).guards = some []) :
    DSs none (fun cls d _ H2 => E cls d H2) (cxOf (L2.CX P w) P w K mg base N__law_half_in "_law_half_in" (defScope (top 73)) f cdv A2 fr s H E) (defBody (top 73)) w__law_half_in := by
  have hN := (sc__law_half_in).nd
  exact (dss_cons (ds_set (i := 3) hN rfl (de_sub (de_times (de_item (dv 0) de_int) (de_item (dv 2) de_int)) (de_times (de_item (dv 0) de_int) (de_item (dv 2) de_int))))
 (dss_cons (ds_if (dt_cmp (op_neU (have z := room64 hr; z)) s2_neU (dv 3) de_int (nomark _)) (dss_one (ds_ret (de_cmp op_gt s2_IB (dv 3) de_int (nomark _)))) dss_nil)
 (dss_one (ds_ret (de_cmp (op_eqU (have z := room64 hr; z)) s2_eqU (de_cmp op_gt s2_IB (de_plus (de_times (de_item (dv 0) de_int) (de_item (dv 2) de_int)) (de_times (de_item (dv 0) de_int) (de_item (dv 2) de_int))) de_int (nomark _)) (dv 1) (nomark _))))))
theorem Hd.ok__law_half_in (A : Hd K mg) : CallD P w K mg base 1 "_law_half_in" ["n", "tie_in", "d"] sp__law_half_in := by
  obtain ⟨fd, F⟩ := A.c.def_ 18
  exact ⟨_, fd, A.g__law_half_in, F.kp, F.bindsN fun _ _ _ _ _ _ us hl => match us, hl with | [_, _, _], _ => rfl, def_ok F sc__law_half_in (fun ds μ Q Xd h => h.1) (fun cdv A2 fr s H E hr hgd => d__law_half_in A hr hgd) fun ds μ Q Xd h => h.2⟩
/-! _law_kind -/
abbrev N__law_kind : List Str := ["d", "signs"]
theorem sc__law_kind : FnScope N__law_kind ["d"] (defScope (top 72)) := ⟨rfl, rfl, rfl, by decide +kernel, rfl, by decide +kernel, by decide +kernel⟩
def w__law_kind : WS := (sSeq (sSet 1 (wLst (wCons (wTup (wCons (wC (.int (1))) (wCons (wC (.int (0))) wNil))) (wCons (wTup (wCons (wC (.int (1))) (wCons (wC (.int (1))) wNil))) (wCons (wTup (wCons (wC (.int (0))) (wCons (wC (.int (1))) wNil))) (wCons (wTup (wCons (w1 fNeg (wC (.int (1)))) (wCons (wC (.int (1))) wNil))) (wCons (wTup (wCons (w1 fNeg (wC (.int (1)))) (wCons (wC (.int (0))) wNil))) (wCons (wTup (wCons (w1 fNeg (wC (.int (1)))) (wCons (w1 fNeg (wC (.int (1)))) wNil))) (wCons (wTup (wCons (wC (.int (0))) (wCons (w1 fNeg (wC (.int (1)))) wNil))) (wCons (wTup (wCons (wC (.int (1))) (wCons (w1 fNeg (wC (.int (1)))) wNil))) wNil))))))))))
 (sRet (wMb fIdx (wVar 1) (wTup (wCons (w2 fSub (wN fInt1 (wCons (w2 fGt (w2 fIx (wVar 0) (wC (.int (0)))) (wC (.int (0)))) wNil)) (wN fInt1 (wCons (w2 fLt (w2 fIx (wVar 0) (wC (.int (0)))) (wC (.int (0)))) wNil))) (wCons (w2 fSub (wN fInt1 (wCons (w2 fGt (w2 fIx (wVar 0) (wC (.int (1)))) (wC (.int (0)))) wNil)) (wN fInt1 (wCons (w2 fLt (w2 fIx (wVar 0) (wC (.int (1)))) (wC (.int (0)))) wNil))) wNil))))))
def sp__law_kind : DSp := fun ds μ Q Xd => ds.length = 1 ∧ w__law_kind (defE Q Xd) (startD N__law_kind ds) μ
theorem d__law_kind (A : Hd K mg) {cdv : Value} {A2 : Around} {fr : List Env} {s : Shared} {H : Hp} {E : XK} {f : Addr} (hr : Room 0 (A2.deeper (envOfC "_law_kind" (defScope (top 72)) s.heap.objs.size f cdv))) (hgd : (A2.deeper (envOfC "_law_kind" (defScope (top 72)) s.heap.objs.size f cdv)).guards = some []) :
    DSs none (fun cls d _ H2 => E cls d H2) (cxOf (L2.CX P w) P w K mg base N__law_kind "_law_kind" (defScope (top 72)) f cdv A2 fr s H E) (defBody (top 72)) w__law_kind := by
  have hN := (sc__law_kind).nd
  exact (dss_cons (ds_set (i := 1) hN rfl (de_lst (da_cons (de_tup (da_cons de_int (da_cons de_int da_nil))) (da_cons (de_tup (da_cons de_int (da_cons de_int da_nil))) (da_cons (de_tup (da_cons de_int (da_cons de_int da_nil))) (da_cons (de_tup (da_cons (de_neg de_int) (da_cons de_int da_nil))) (da_cons (de_tup (da_cons (de_neg de_int) (da_cons de_int da_nil))) (da_cons (de_tup (da_cons (de_neg de_int) (da_cons (de_neg de_int) da_nil))) (da_cons (de_tup (da_cons de_int (da_cons (de_neg de_int) da_nil))) (da_cons (de_tup (da_cons de_int (da_cons (de_neg de_int) da_nil))) da_nil))))))))))
 (dss_one (ds_ret (de_idx (have z := room65 hr; z) (dv 1) (de_tup (da_cons (de_sub (de_callTy call_int1 sn_int1 rfl A.f_int bt_int (da_cons (de_cmp op_gt s2_IB (de_item (dv 0) de_int) de_int (nomark _)) da_nil)) (de_callTy call_int1 sn_int1 rfl A.f_int bt_int (da_cons (de_cmp op_lt s2_IB (de_item (dv 0) de_int) de_int (nomark _)) da_nil))) (da_cons (de_sub (de_callTy call_int1 sn_int1 rfl A.f_int bt_int (da_cons (de_cmp op_gt s2_IB (de_item (dv 0) de_int) de_int (nomark _)) da_nil)) (de_callTy call_int1 sn_int1 rfl A.f_int bt_int (da_cons (de_cmp op_lt s2_IB (de_item (dv 0) de_int) de_int (nomark _)) da_nil))) da_nil)))))))
theorem Hd.ok__law_kind (A : Hd K mg) : CallD P w K mg base 1 "_law_kind" ["d"] sp__law_kind := by
  obtain ⟨fd, F⟩ := A.c.def_ 19
  exact ⟨_, fd, A.g__law_kind, F.kp, F.bindsN fun _ _ _ _ _ _ us hl => match us, hl with | [_], _ => rfl, def_ok F sc__law_kind (fun ds μ Q Xd h => h.1) (fun cdv A2 fr s H E hr hgd => d__law_kind A hr hgd) fun ds μ Q Xd h => h.2⟩
/-! _law_in -/
abbrev N__law_in : List Str := ["told_rule", "d"]
theorem sc__law_in : FnScope N__law_in ["told_rule", "d"] (defScope (top 76)) := ⟨rfl, rfl, rfl, by decide +kernel, rfl, by decide +kernel, by decide +kernel⟩
def w__law_in : WS := (sSeq (sIf (wB (w2 fEqU (w2 fIx (wVar 0) (wC (.int (0)))) (wC (.str "table"))))
  (sRet (w2 fIx (w2 fIx (wVar 0) (wC (.int (1)))) (wCall sp__law_kind (wCons (wVar 1) wNil))))
  sNext)
 (sRet (wCall sp__law_half_in (wCons (w2 fIx (wVar 0) (wC (.int (1)))) (wCons (w2 fIx (wVar 0) (wC (.int (2)))) (wCons (wVar 1) wNil))))))
def sp__law_in : DSp := fun ds μ Q Xd => ds.length = 2 ∧ w__law_in (defE Q Xd) (startD N__law_in ds) μ
theorem d__law_in (A : Hd K mg) {cdv : Value} {A2 : Around} {fr : List Env} {s : Shared} {H : Hp} {E : XK} {f : Addr} (hr : Room 1 (A2.deeper (envOfC "_law_in" (defScope (top 76)) s.heap.objs.size f cdv))) (hgd : (A2.deeper (envOfC "_law_in" (defScope (top 76)) s.heap.objs.size f cdv)).guards = some []) :
    DSs none (fun cls d _ H2 => E cls d H2) (cxOf (L2.CX P w) P w K mg base N__law_in "_law_in" (defScope (top 76)) f cdv A2 fr s H E) (defBody (top 76)) w__law_in := by
  have hN := (sc__law_in).nd
  exact (dss_cons (ds_if (dt_cmp (op_eqU (have z := room64 hr; z)) s2_eqU (de_item (dv 0) de_int) de_str (nomark _)) (dss_one (ds_ret (de_item (de_item (dv 0) de_int) (de_callD A.ok__law_kind hr (by decide) hgd rfl (takes_of rfl rfl rfl rfl) (da_cons (dv 1) da_nil))))) dss_nil)
 (dss_one (ds_ret (de_callD A.ok__law_half_in hr (by decide) hgd rfl (takes_of rfl rfl rfl rfl) (da_cons (de_item (dv 0) de_int) (da_cons (de_item (dv 0) de_int) (da_cons (dv 1) da_nil)))))))
theorem Hd.ok__law_in (A : Hd K mg) : CallD P w K mg base 2 "_law_in" ["told_rule", "d"] sp__law_in := by
  obtain ⟨fd, F⟩ := A.c.def_ 20
  exact ⟨_, fd, A.g__law_in, F.kp, F.bindsN fun _ _ _ _ _ _ us hl => match us, hl with | [_, _], _ => rfl, def_ok F sc__law_in (fun ds μ Q Xd h => h.1) (fun cdv A2 fr s H E hr hgd => d__law_in A hr hgd) fun ds μ Q Xd h => h.2⟩
/-! _law_side -/
abbrev N__law_side : List Str := ["a", "b", "p"]
theorem sc__law_side : FnScope N__law_side ["a", "b", "p"] (defScope (top 70)) := ⟨rfl, rfl, rfl, by decide +kernel, rfl, by decide +kernel, by decide +kernel⟩
def w__law_side : WS := (sRet (w2 fSub (w2 fTimes (w2 fSub (w2 fIx (wVar 1) (wC (.int (0)))) (w2 fIx (wVar 0) (wC (.int (0))))) (w2 fSub (w2 fIx (wVar 2) (wC (.int (1)))) (w2 fIx (wVar 0) (wC (.int (1)))))) (w2 fTimes (w2 fSub (w2 fIx (wVar 1) (wC (.int (1)))) (w2 fIx (wVar 0) (wC (.int (1))))) (w2 fSub (w2 fIx (wVar 2) (wC (.int (0)))) (w2 fIx (wVar 0) (wC (.int (0))))))))
def sp__law_side : DSp := fun ds μ Q Xd => ds.length = 3 ∧ w__law_side (defE Q Xd) (startD N__law_side ds) μ
theorem d__law_side (A : Hd K mg) {cdv : Value} {A2 : Around} {fr : List Env} {s : Shared} {H : Hp} {E : XK} {f : Addr} (hr : Room 0 (A2.deeper (envOfC "_law_side" (defScope (top 70)) s.heap.objs.size f cdv))) (hgd : (A2.deeper (envOfC "_law_side" (defScope (top 70)) s.heap.objs.size f cdv)).guards = some []) :
    DSs none (fun cls d _ H2 => E cls d H2) (cxOf (L2.CX P w) P w K mg base N__law_side "_law_side" (defScope (top 70)) f cdv A2 fr s H E) (defBody (top 70)) w__law_side := by
  have hN := (sc__law_side).nd
  exact (dss_one (ds_ret (de_sub (de_times (de_sub (de_item (dv 1) de_int) (de_item (dv 0) de_int)) (de_sub (de_item (dv 2) de_int) (de_item (dv 0) de_int))) (de_times (de_sub (de_item (dv 1) de_int) (de_item (dv 0) de_int)) (de_sub (de_item (dv 2) de_int) (de_item (dv 0) de_int))))))
theorem Hd.ok__law_side (A : Hd K mg) : CallD P w K mg base 1 "_law_side" ["a", "b", "p"] sp__law_side := by
  obtain ⟨fd, F⟩ := A.c.def_ 21
  exact ⟨_, fd, A.g__law_side, F.kp, F.bindsN fun _ _ _ _ _ _ us hl => match us, hl with | [_, _, _], _ => rfl, def_ok F sc__law_side (fun ds μ Q Xd h => h.1) (fun cdv A2 fr s H E hr hgd => d__law_side A hr hgd) fun ds μ Q Xd h => h.2⟩
/-! _law_ways -/
abbrev N__law_ways : List Str := ["corners_here", "k"]
theorem sc__law_ways : FnScope N__law_ways ["corners_here"] (defScope (top 71)) := ⟨rfl, rfl, rfl, by decide +kernel, rfl, by decide +kernel, by decide +kernel⟩
def w__law_ways : WS := (sRet (wLc (wiR1 (wCons (wN fLen (wCons (wVar 0) wNil)) wNil)) (kNameC 1) wYes (wTup (wCons (w2 fIx (wVar 0) (wVar 1)) (wCons (w2 fIx (wVar 0) (w2 fMod (w2 fPlus (wVar 1) (wC (.int (1)))) (wN fLen (wCons (wVar 0) wNil)))) wNil))) [1]))
def sp__law_ways : DSp := fun ds μ Q Xd => ds.length = 1 ∧ w__law_ways (defE Q Xd) (startD N__law_ways ds) μ
theorem d__law_ways (A : Hd K mg) {cdv : Value} {A2 : Around} {fr : List Env} {s : Shared} {H : Hp} {E : XK} {f : Addr} (hr : Room 0 (A2.deeper (envOfC "_law_ways" (defScope (top 71)) s.heap.objs.size f cdv))) (hgd : (A2.deeper (envOfC "_law_ways" (defScope (top 71)) s.heap.objs.size f cdv)).guards = some []) :
    DSs none (fun cls d _ H2 => E cls d H2) (cxOf (L2.CX P w) P w K mg base N__law_ways "_law_ways" (defScope (top 71)) f cdv A2 fr s H E) (defBody (top 71)) w__law_ways := by
  have hN := (sc__law_ways).nd
  exact (dss_one (ds_ret (de_lc rfl hN (di_range1 (by rfl) A.f_range (da_cons (de_callB call_len_seq sn_len (by rfl) A.f_len bt_len (da_cons (dv 0) da_nil)) da_nil)) (blkOk_by (own := [("k", 1)]) (by show blkC N__law_ways (defScope (top 71)) _ _ = true; decide +kernel)) (lcg_name (by decide)) (fun _ _ _ _ _ => (pg_name hN rfl (by first | exact Or.inl rfl | exact Or.inr rfl) (by first | exact .inl rfl | exact .inr rfl))) (fun _ _ _ _ _ => dts_nil) (fun _ _ _ _ _ => (de_tup (da_cons (de_item (dv 0) (dv 1)) (da_cons (de_item (dv 0) (de_mod (de_plus (dv 1) de_int) (de_callB call_len_seq sn_len rfl A.f_len bt_len (da_cons (dv 0) da_nil)))) da_nil)))))))
theorem Hd.ok__law_ways (A : Hd K mg) : CallD P w K mg base 1 "_law_ways" ["corners_here"] sp__law_ways := by
  obtain ⟨fd, F⟩ := A.c.def_ 22
  exact ⟨_, fd, A.g__law_ways, F.kp, F.bindsN fun _ _ _ _ _ _ us hl => match us, hl with | [_], _ => rfl, def_ok F sc__law_ways (fun ds μ Q Xd h => h.1) (fun cdv A2 fr s H E hr hgd => d__law_ways A hr hgd) fun ds μ Q Xd h => h.2⟩
/-! _law_owns -/
abbrev N__law_owns : List Str := ["told_rule", "corners_here", "p", "a", "b", "at"]
theorem sc__law_owns : FnScope N__law_owns ["told_rule", "corners_here", "p"] (defScope (top 77)) := ⟨rfl, rfl, rfl, by decide +kernel, rfl, by decide +kernel, by decide +kernel⟩
def w__law_owns : WS := (sSeq (sFor (wiL (wCall sp__law_ways (wCons (wVar 1) wNil))) (kTup 2 (kCons (kName 3) (kCons (kName 4) kNil)))
  (sSeq (sSet 5 (wCall sp__law_side (wCons (wVar 3) (wCons (wVar 4) (wCons (wVar 2) wNil)))))
 (sIf (wOr (wB (w2 fLt (wVar 5) (wC (.int (0))))) (wAnd (wB (w2 fEqU (wVar 5) (wC (.int (0))))) (wNot (wB (wCall sp__law_in (wCons (wVar 0) (wCons (wTup (wCons (w2 fSub (w2 fIx (wVar 4) (wC (.int (0)))) (w2 fIx (wVar 3) (wC (.int (0))))) (wCons (w2 fSub (w2 fIx (wVar 4) (wC (.int (1)))) (w2 fIx (wVar 3) (wC (.int (1))))) wNil))) wNil)))))))
  (sRet (wC (.bl false)))
  sNext)))
 (sRet (wC (.bl true))))
def sp__law_owns : DSp := fun ds μ Q Xd => ds.length = 3 ∧ w__law_owns (defE Q Xd) (startD N__law_owns ds) μ
theorem d__law_owns (A : Hd K mg) {cdv : Value} {A2 : Around} {fr : List Env} {s : Shared} {H : Hp} {E : XK} {f : Addr} (hr : Room 2 (A2.deeper (envOfC "_law_owns" (defScope (top 77)) s.heap.objs.size f cdv))) (hgd : (A2.deeper (envOfC "_law_owns" (defScope (top 77)) s.heap.objs.size f cdv)).guards = some []) :
    DSs none (fun cls d _ H2 => E cls d H2) (cxOf (L2.CX P w) P w K mg base N__law_owns "_law_owns" (defScope (top 77)) f cdv A2 fr s H E) (defBody (top 77)) w__law_owns := by
  have hN := (sc__law_owns).nd
  exact (dss_cons (ds_for (passes_of rfl) rfl (di_list (de_callD A.ok__law_ways hr (by decide) hgd (by rfl) (takes_of (by rfl) (by rfl) (by rfl) (by rfl)) (da_cons (dv 1) da_nil))) (dg_tup rfl (dgs_cons (dg_name hN rfl) (dgs_cons (dg_name hN rfl) dgs_nil))) (dss_cons (ds_set (i := 5) hN rfl (de_callD A.ok__law_side hr (by decide) hgd rfl (takes_of rfl rfl rfl rfl) (da_cons (dv 3) (da_cons (dv 4) (da_cons (dv 2) da_nil)))))
 (dss_one (ds_if (dt_w (dw_or (dt_cmp op_lt s2_IB (dv 5) de_int (nomark _)) (dw_or1 (dt_w (dw_and (dt_cmp (op_eqU (have z := room64 hr; z)) s2_eqU (dv 5) de_int (nomark _)) (dw_and1 (dt_not (dt_val (de_callD A.ok__law_in hr (by decide) hgd rfl (takes_of rfl rfl rfl rfl) (da_cons (dv 0) (da_cons (de_tup (da_cons (de_sub (de_item (dv 4) de_int) (de_item (dv 3) de_int)) (da_cons (de_sub (de_item (dv 4) de_int) (de_item (dv 3) de_int)) da_nil))) da_nil))))))))))) (dss_one (ds_ret de_bl)) dss_nil))))
 (dss_one (ds_ret de_bl)))
theorem Hd.ok__law_owns (A : Hd K mg) : CallD P w K mg base 3 "_law_owns" ["told_rule", "corners_here", "p"] sp__law_owns := by
  obtain ⟨fd, F⟩ := A.c.def_ 23
  exact ⟨_, fd, A.g__law_owns, F.kp, F.bindsN fun _ _ _ _ _ _ us hl => match us, hl with | [_, _, _], _ => rfl, def_ok F sc__law_owns (fun ds μ Q Xd h => h.1) (fun cdv A2 fr s H E hr hgd => d__law_owns A hr hgd) fun ds μ Q Xd h => h.2⟩
/-! _law_counted -/
abbrev N__law_counted : List Str := ["told_rule", "pairs", "found", "p", "ahead", "back", "i", "j", "k", "a", "b", "c"]
theorem sc__law_counted : FnScope N__law_counted ["told_rule", "pairs", "found", "p"] (defScope (top 79)) := ⟨rfl, rfl, rfl, by decide +kernel, rfl, by decide +kernel, by decide +kernel⟩
def w__law_counted : WS := (sSeq (sAsg (wTup (wCons (wC (.int (0))) (wCons (wC (.int (0))) wNil))) (kTup 2 (kCons (kName 4) (kCons (kName 5) kNil))))
 (sSeq (sFor (wiL (wVar 2)) (kTup 3 (kCons (kName 6) (kCons (kName 7) (kCons (kName 8) kNil))))
  (sSeq (sPar3 9 10 11 (wCons (w2 fIx (wVar 1) (wVar 6)) (wCons (w2 fIx (wVar 1) (wVar 7)) (wCons (w2 fIx (wVar 1) (wVar 8)) wNil))))
 (sSeq (sIf (wB (w2 fGt (wCall sp__law_side (wCons (wVar 9) (wCons (wVar 10) (wCons (wVar 11) wNil)))) (wC (.int (0)))))
  (sSet 4 (w2 fPlus (wVar 4) (wN fInt1 (wCons (wCall sp__law_owns (wCons (wVar 0) (wCons (wLst (wCons (wVar 9) (wCons (wVar 10) (wCons (wVar 11) wNil)))) (wCons (wVar 3) wNil)))) wNil))))
  sNext)
 (sIf (wB (w2 fLt (wCall sp__law_side (wCons (wVar 9) (wCons (wVar 10) (wCons (wVar 11) wNil)))) (wC (.int (0)))))
  (sSet 5 (w2 fPlus (wVar 5) (wN fInt1 (wCons (wCall sp__law_owns (wCons (wVar 0) (wCons (wLst (wCons (wVar 9) (wCons (wVar 11) (wCons (wVar 10) wNil)))) (wCons (wVar 3) wNil)))) wNil))))
  sNext))))
 (sRet (wTup (wCons (wVar 4) (wCons (wVar 5) wNil))))))
def sp__law_counted : DSp := fun ds μ Q Xd => ds.length = 4 ∧ w__law_counted (defE Q Xd) (startD N__law_counted ds) μ
theorem d__law_counted (A : Hd K mg) {cdv : Value} {A2 : Around} {fr : List Env} {s : Shared} {H : Hp} {E : XK} {f : Addr} (hr : Room 3 (A2.deeper (envOfC "_law_counted" (defScope (top 79)) s.heap.objs.size f cdv))) (hgd : (A2.deeper (envOfC "_law_counted" (defScope (top 79)) s.heap.objs.size f cdv)).guards = some []) :
    DSs none (fun cls d _ H2 => E cls d H2) (cxOf (L2.CX P w) P w K mg base N__law_counted "_law_counted" (defScope (top 79)) f cdv A2 fr s H E) (defBody (top 79)) w__law_counted := by
  have hN := (sc__law_counted).nd
  exact (dss_cons (ds_asg (de_tup (da_cons de_int (da_cons de_int da_nil))) (dg_tup rfl (dgs_cons (dg_name hN rfl) (dgs_cons (dg_name hN rfl) dgs_nil))))
 (dss_cons (ds_for (passes_of rfl) rfl (di_list (dv 2)) (dg_tup rfl (dgs_cons (dg_name hN rfl) (dgs_cons (dg_name hN rfl) (dgs_cons (dg_name hN rfl) dgs_nil)))) (dss_cons (ds_par3 (i := 9) (j := 10) (l := 11) rfl hN rfl rfl rfl (by decide) (by decide) (by decide) (da_cons (de_item (dv 1) (dv 6)) (da_cons (de_item (dv 1) (dv 7)) (da_cons (de_item (dv 1) (dv 8)) da_nil))))
 (dss_cons (ds_if (dt_cmp op_gt s2_IB (de_callD A.ok__law_side hr (by decide) hgd rfl (takes_of rfl rfl rfl rfl) (da_cons (dv 9) (da_cons (dv 10) (da_cons (dv 11) da_nil)))) de_int (nomark _)) (dss_one (ds_set (i := 4) hN rfl (de_plus (dv 4) (de_callTy call_int1 sn_int1 rfl A.f_int bt_int (da_cons (de_callD A.ok__law_owns hr (by decide) hgd rfl (takes_of rfl rfl rfl rfl) (da_cons (dv 0) (da_cons (de_lst (da_cons (dv 9) (da_cons (dv 10) (da_cons (dv 11) da_nil)))) (da_cons (dv 3) da_nil)))) da_nil))))) dss_nil)
 (dss_one (ds_if (dt_cmp op_lt s2_IB (de_callD A.ok__law_side hr (by decide) hgd rfl (takes_of rfl rfl rfl rfl) (da_cons (dv 9) (da_cons (dv 10) (da_cons (dv 11) da_nil)))) de_int (nomark _)) (dss_one (ds_set (i := 5) hN rfl (de_plus (dv 5) (de_callTy call_int1 sn_int1 rfl A.f_int bt_int (da_cons (de_callD A.ok__law_owns hr (by decide) hgd rfl (takes_of rfl rfl rfl rfl) (da_cons (dv 0) (da_cons (de_lst (da_cons (dv 9) (da_cons (dv 11) (da_cons (dv 10) da_nil)))) (da_cons (dv 3) da_nil)))) da_nil))))) dss_nil)))))
 (dss_one (ds_ret (de_tup (da_cons (dv 4) (da_cons (dv 5) da_nil)))))))
theorem Hd.ok__law_counted (A : Hd K mg) : CallD P w K mg base 4 "_law_counted" ["told_rule", "pairs", "found", "p"] sp__law_counted := by
  obtain ⟨fd, F⟩ := A.c.def_ 24
  exact ⟨_, fd, A.g__law_counted, F.kp, F.bindsN fun _ _ _ _ _ _ us hl => match us, hl with | [_, _, _, _], _ => rfl, def_ok F sc__law_counted (fun ds μ Q Xd h => h.1) (fun cdv A2 fr s H E hr hgd => d__law_counted A hr hgd) fun ds μ Q Xd h => h.2⟩
/-! _law_draw -/
abbrev N__law_draw : List Str := ["pool", "many", "found"]
theorem sc__law_draw : FnScope N__law_draw ["pool", "many"] (defScope (top 68)) := ⟨rfl, rfl, rfl, by decide +kernel, rfl, by decide +kernel, by decide +kernel⟩
def w__law_draw : WS := (sSeq (sIf (wB (w2 fGt (w2 fIx (wVar 0) (wC (.int (0)))) (wC (.int (0)))))
  (sSeq (sSet 2 (w2 fMod (wN fInt1 (wCons (w2 fIx (wVar 0) (wC (.int (0)))) wNil)) (wVar 1)))
 (sSeq (sAsg (w2 fDiv (w2 fIx (wVar 0) (wC (.int (0)))) (wVar 1)) (kSub (wVar 0) (wC (.int (0)))))
 (sRet (wVar 2))))
  sNext)
 (sSeq (sAsg (w2 fMod (wN fInt1 (wCons (w2 fPlus (w2 fTimes (w2 fIx (wVar 0) (wC (.int (1)))) (wC (.int (48271)))) (wC (.int (11)))) wNil)) (wC (.int (2147483647)))) (kSub (wVar 0) (wC (.int (1)))))
 (sRet (w2 fMod (w2 fDiv (w2 fMod (wN fInt1 (wCons (w2 fTimes (w2 fIx (wVar 0) (wC (.int (1)))) (w2 fIx (wVar 0) (wC (.int (1))))) wNil)) (wC (.int (2147483629)))) (wC (.int (64)))) (wVar 1)))))
def sp__law_draw : DSp := fun ds μ Q Xd => ds.length = 2 ∧ w__law_draw (defE Q Xd) (startD N__law_draw ds) μ
theorem d__law_draw (A : Hd K mg) {cdv : Value} {A2 : Around} {fr : List Env} {s : Shared} {H : Hp} {E : XK} {f : Addr} (hr : Room 0 (A2.deeper (envOfC "_law_draw" (defScope (top 68)) s.heap.objs.size f cdv))) (hgd : (A2.deeper (envOfC "_law_draw" (defScope (top 68)) s.heap.objs.size f cdv)).guards = some []) :
    DSs none (fun cls d _ H2 => E cls d H2) (cxOf (L2.CX P w) P w K mg base N__law_draw "_law_draw" (defScope (top 68)) f cdv A2 fr s H E) (defBody (top 68)) w__law_draw := by
  have hN := (sc__law_draw).nd
  exact (dss_cons (ds_if (dt_cmp op_gt s2_IB (de_item (dv 0) de_int) de_int (nomark _)) (dss_cons (ds_set (i := 2) hN rfl (de_mod (de_callTy call_int1 sn_int1 rfl A.f_int bt_int (da_cons (de_item (dv 0) de_int) da_nil)) (dv 1)))
 (dss_cons (ds_asg (de_div (de_item (dv 0) de_int) (dv 1)) (dg_sub (dv 0) de_int))
 (dss_one (ds_ret (dv 2))))) dss_nil)
 (dss_cons (ds_asg (de_mod (de_callTy call_int1 sn_int1 rfl A.f_int bt_int (da_cons (de_plus (de_times (de_item (dv 0) de_int) de_int) de_int) da_nil)) de_int) (dg_sub (dv 0) de_int))
 (dss_one (ds_ret (de_mod (de_div (de_mod (de_callTy call_int1 sn_int1 rfl A.f_int bt_int (da_cons (de_times (de_item (dv 0) de_int) (de_item (dv 0) de_int)) da_nil)) de_int) de_int) (dv 1))))))
theorem Hd.ok__law_draw (A : Hd K mg) : CallD P w K mg base 1 "_law_draw" ["pool", "many"] sp__law_draw := by
  obtain ⟨fd, F⟩ := A.c.def_ 25
  exact ⟨_, fd, A.g__law_draw, F.kp, F.bindsN fun _ _ _ _ _ _ us hl => match us, hl with | [_, _], _ => rfl, def_ok F sc__law_draw (fun ds μ Q Xd h => h.1) (fun cdv A2 fr s H E hr hgd => d__law_draw A hr hgd) fun ds μ Q Xd h => h.2⟩
/-! _law_hand -/
abbrev N__law_hand : List Str := ["script", "k", "cell", "seed"]
theorem sc__law_hand : FnScope N__law_hand ["script", "k"] (defScope (top 67)) := ⟨rfl, rfl, rfl, by decide +kernel, rfl, by decide +kernel, by decide +kernel⟩
def w__law_hand : WS := (sSeq (sSet 2 (w2 fIx (w2 fPlus (wSl (wVar 0) (oSome (wVar 1)) (oSome (w2 fPlus (wVar 1) (wC (.int (1)))))) (wLst (wCons (wC (.int (0))) wNil))) (wC (.int (0)))))
 (sSeq (sSet 3 (w2 fMod (w2 fTimes (w2 fPlus (w2 fPlus (w2 fMod (wN fInt1 (wCons (wVar 2) wNil)) (wC (.int (2147483647)))) (w2 fTimes (wC (.int (7919))) (wVar 1))) (wC (.int (1)))) (wC (.int (48271)))) (wC (.int (2147483629)))))
 (sRet (wLstC (wCons (w2 fTimes (wN fInt1 (wCons (w2 fGe (wVar 2) (w2 fPow (wC (.int (10))) (wC (.int (18))))) wNil)) (wVar 2)) (wCons (wVar 3) wNil))))))
def sp__law_hand : DSp := fun ds μ Q Xd => ds.length = 2 ∧ w__law_hand (defE Q Xd) (startD N__law_hand ds) μ
theorem d__law_hand (A : Hd K mg) {cdv : Value} {A2 : Around} {fr : List Env} {s : Shared} {H : Hp} {E : XK} {f : Addr} (hr : Room 0 (A2.deeper (envOfC "_law_hand" (defScope (top 67)) s.heap.objs.size f cdv))) (hgd : (A2.deeper (envOfC "_law_hand" (defScope (top 67)) s.heap.objs.size f cdv)).guards = some []) :
    DSs none (fun cls d _ H2 => E cls d H2) (cxOf (L2.CX P w) P w K mg base N__law_hand "_law_hand" (defScope (top 67)) f cdv A2 fr s H E) (defBody (top 67)) w__law_hand := by
  have hN := (sc__law_hand).nd
  exact (dss_cons (ds_set (i := 2) hN rfl (de_item (de_plus (de_slice (dv 0) (do_some (dv 1)) (do_some (de_plus (dv 1) de_int))) (de_lst (da_cons de_int da_nil))) de_int))
 (dss_cons (ds_set (i := 3) hN rfl (de_mod (de_times (de_plus (de_plus (de_mod (de_callTy call_int1 sn_int1 rfl A.f_int bt_int (da_cons (dv 2) da_nil)) de_int) (de_times de_int (dv 1))) de_int) de_int) de_int))
 (dss_one (ds_ret (de_lstC (da_cons (de_times (de_callTy call_int1 sn_int1 rfl A.f_int bt_int (da_cons (de_cmp op_ge s2_IB (dv 2) (de_pow de_int de_int) (nomark _)) da_nil)) (dv 2)) (da_cons (dv 3) da_nil)))))))
theorem Hd.ok__law_hand (A : Hd K mg) : CallD P w K mg base 1 "_law_hand" ["script", "k"] sp__law_hand := by
  obtain ⟨fd, F⟩ := A.c.def_ 26
  exact ⟨_, fd, A.g__law_hand, F.kp, F.bindsN fun _ _ _ _ _ _ us hl => match us, hl with | [_, _], _ => rfl, def_ok F sc__law_hand (fun ds μ Q Xd h => h.1) (fun cdv A2 fr s H E hr hgd => d__law_hand A hr hgd) fun ds μ Q Xd h => h.2⟩
/-! _law_nearest -/
abbrev N__law_nearest : List Str := ["number", "many", "best", "k", "off"]
theorem sc__law_nearest : FnScope N__law_nearest ["number", "many"] (defScope (top 81)) := ⟨rfl, rfl, rfl, by decide +kernel, rfl, by decide +kernel, by decide +kernel⟩
def w__law_nearest : WS := (sSeq (sSet 2 (wC .non))
 (sSeq (sFor (wiR2 (wCons (w1 fNeg (wC (.int (20)))) (wCons (wC (.int (21))) wNil))) (kName 3)
  (sSeq (sSet 4 (wN fAbs (wCons (w2 fSub (w2 fTimes (wVar 3) (wVar 1)) (wVar 0)) wNil)))
 (sIf (wOr (wB (w2 fIsN (wVar 2) (wC .non))) (wB (w2 fLe (wVar 4) (w2 fIx (wVar 2) (wC (.int (0)))))))
  (sSet 2 (wTup (wCons (wVar 4) (wCons (w2 fTimes (wVar 3) (wVar 1)) wNil))))
  sNext)))
 (sRet (w2 fIx (wVar 2) (wC (.int (1)))))))
def sp__law_nearest : DSp := fun ds μ Q Xd => ds.length = 2 ∧ w__law_nearest (defE Q Xd) (startD N__law_nearest ds) μ
theorem d__law_nearest (A : Hd K mg) {cdv : Value} {A2 : Around} {fr : List Env} {s : Shared} {H : Hp} {E : XK} {f : Addr} (hr : Room 0 (A2.deeper (envOfC "_law_nearest" (defScope (top 81)) s.heap.objs.size f cdv))) (hgd : (A2.deeper (envOfC "_law_nearest" (defScope (top 81)) s.heap.objs.size f cdv)).guards = some []) :
    DSs none (fun cls d _ H2 => E cls d H2) (cxOf (L2.CX P w) P w K mg base N__law_nearest "_law_nearest" (defScope (top 81)) f cdv A2 fr s H E) (defBody (top 81)) w__law_nearest := by
  have hN := (sc__law_nearest).nd
  exact (dss_cons (ds_set (i := 2) hN rfl de_non)
 (dss_cons (ds_for (passes_of rfl) rfl (di_range2 (by rfl) A.f_range (da_cons (de_neg de_int) (da_cons de_int da_nil))) (dg_name hN rfl) (dss_cons (ds_set (i := 4) hN rfl (de_callB call_abs sn_abs rfl A.f_abs bt_abs (da_cons (de_sub (de_times (dv 3) (dv 1)) (dv 0)) da_nil)))
 (dss_one (ds_if (dt_w (dw_or (dt_cmp op_isN s2_isN (dv 2) de_non (nomark _)) (dw_or1 (dt_cmp op_le s2_IB (dv 4) (de_item (dv 2) de_int) (nomark _))))) (dss_one (ds_set (i := 2) hN rfl (de_tup (da_cons (dv 4) (da_cons (de_times (dv 3) (dv 1)) da_nil))))) dss_nil))))
 (dss_one (ds_ret (de_item (dv 2) de_int)))))
theorem Hd.ok__law_nearest (A : Hd K mg) : CallD P w K mg base 1 "_law_nearest" ["number", "many"] sp__law_nearest := by
  obtain ⟨fd, F⟩ := A.c.def_ 27
  exact ⟨_, fd, A.g__law_nearest, F.kp, F.bindsN fun _ _ _ _ _ _ us hl => match us, hl with | [_, _], _ => rfl, def_ok F sc__law_nearest (fun ds μ Q Xd h => h.1) (fun cdv A2 fr s H E hr hgd => d__law_nearest A hr hgd) fun ds μ Q Xd h => h.2⟩
/-! _law_pair -/
abbrev N__law_pair : List Str := ["pool", "size_here"]
theorem sc__law_pair : FnScope N__law_pair ["pool", "size_here"] (defScope (top 69)) := ⟨rfl, rfl, rfl, by decide +kernel, rfl, by decide +kernel, by decide +kernel⟩
def w__law_pair : WS := (sRet (wTup (wCons (w2 fSub (wCall sp__law_draw (wCons (wVar 0) (wCons (w2 fPlus (w2 fTimes (wC (.int (2))) (wVar 1)) (wC (.int (1)))) wNil))) (wVar 1)) (wCons (w2 fSub (wCall sp__law_draw (wCons (wVar 0) (wCons (w2 fPlus (w2 fTimes (wC (.int (2))) (wVar 1)) (wC (.int (1)))) wNil))) (wVar 1)) wNil))))
def sp__law_pair : DSp := fun ds μ Q Xd => ds.length = 2 ∧ w__law_pair (defE Q Xd) (startD N__law_pair ds) μ
theorem d__law_pair (A : Hd K mg) {cdv : Value} {A2 : Around} {fr : List Env} {s : Shared} {H : Hp} {E : XK} {f : Addr} (hr : Room 1 (A2.deeper (envOfC "_law_pair" (defScope (top 69)) s.heap.objs.size f cdv))) (hgd : (A2.deeper (envOfC "_law_pair" (defScope (top 69)) s.heap.objs.size f cdv)).guards = some []) :
    DSs none (fun cls d _ H2 => E cls d H2) (cxOf (L2.CX P w) P w K mg base N__law_pair "_law_pair" (defScope (top 69)) f cdv A2 fr s H E) (defBody (top 69)) w__law_pair := by
  have hN := (sc__law_pair).nd
  exact (dss_one (ds_ret (de_tup (da_cons (de_sub (de_callD A.ok__law_draw hr (by decide) hgd rfl (takes_of rfl rfl rfl rfl) (da_cons (dv 0) (da_cons (de_plus (de_times de_int (dv 1)) de_int) da_nil))) (dv 1)) (da_cons (de_sub (de_callD A.ok__law_draw hr (by decide) hgd rfl (takes_of rfl rfl rfl rfl) (da_cons (dv 0) (da_cons (de_plus (de_times de_int (dv 1)) de_int) da_nil))) (dv 1)) da_nil)))))
theorem Hd.ok__law_pair (A : Hd K mg) : CallD P w K mg base 2 "_law_pair" ["pool", "size_here"] sp__law_pair := by
  obtain ⟨fd, F⟩ := A.c.def_ 28
  exact ⟨_, fd, A.g__law_pair, F.kp, F.bindsN fun _ _ _ _ _ _ us hl => match us, hl with | [_, _], _ => rfl, def_ok F sc__law_pair (fun ds μ Q Xd h => h.1) (fun cdv A2 fr s H E hr hgd => d__law_pair A hr hgd) fun ds μ Q Xd h => h.2⟩
/-! _law_net -/
abbrev N__law_net : List Str := ["pool", "pairs", "found", "turn", "left", "k", "one"]
theorem sc__law_net : FnScope N__law_net ["pool"] (defScope (top 78)) := ⟨rfl, rfl, rfl, by decide +kernel, rfl, by decide +kernel, by decide +kernel⟩
def w__law_net : WS := (sSeq (sSet 1 (wLc (wiR1 (wCons (w2 fPlus (wC (.int (3))) (wCall sp__law_draw (wCons (wVar 0) (wCons (wC (.int (5))) wNil)))) wNil)) (kNameC 3) wYes (wCall sp__law_pair (wCons (wVar 0) (wCons (wC (.int (5))) wNil))) [3]))
 (sSeq (sSetO 2 wNil)
 (sSeq (sFor (wiR1 (wCons (wCall sp__law_draw (wCons (wVar 0) (wCons (wC (.int (8))) wNil))) wNil)) (kName 3)
  (sSeq (sSet 4 (wLcC (wiR1 (wCons (wN fLen (wCons (wVar 1) wNil)) wNil)) (kNameC 5) wYes (wVar 5) [5]))
 (sAppO 2 (wCons (wN fTupOf (wCons (wLc (wiR1 (wCons (wC (.int (3))) wNil)) (kNameC 6) wYes (wPopL (wVar 4) (wCall sp__law_draw (wCons (wVar 0) (wCons (wN fLen (wCons (wVar 4) wNil)) wNil)))) [6]) wNil)) wNil))))
 (sFrz 2 (sRet (wTup (wCons (wVar 1) (wCons (wVar 2) wNil))))))))
def sp__law_net : DSp := fun ds μ Q Xd => ds.length = 1 ∧ w__law_net (defE Q Xd) (startD N__law_net ds) μ
theorem d__law_net (A : Hd K mg) {cdv : Value} {A2 : Around} {fr : List Env} {s : Shared} {H : Hp} {E : XK} {f : Addr} (hr : Room 2 (A2.deeper (envOfC "_law_net" (defScope (top 78)) s.heap.objs.size f cdv))) (hgd : (A2.deeper (envOfC "_law_net" (defScope (top 78)) s.heap.objs.size f cdv)).guards = some []) :
    DSs none (fun cls d _ H2 => E cls d H2) (cxOf (L2.CX P w) P w K mg base N__law_net "_law_net" (defScope (top 78)) f cdv A2 fr s H E) (defBody (top 78)) w__law_net := by
  have hN := (sc__law_net).nd
  exact (dss_cons (ds_setLc (i := 1) rfl hN rfl rfl (di_range1 (by rfl) A.f_range (da_cons (de_plus de_int (de_callD A.ok__law_draw hr (by decide) hgd (by rfl) (takes_of (by rfl) (by rfl) (by rfl) (by rfl)) (da_cons (dv 0) (da_cons de_int da_nil)))) da_nil)) (blkOk_by (own := [("turn", 3)]) (by show blkC N__law_net (defScope (top 78)) _ _ = true; decide +kernel)) (lcg_name (by decide)) (fun _ _ _ _ _ => (pg_name hN rfl (by first | exact Or.inl rfl | exact Or.inr rfl) (by first | exact .inl rfl | exact .inr rfl))) (fun _ _ _ _ _ => dts_nil) (fun _ _ _ _ _ => (de_callD A.ok__law_pair hr (by decide) hgd rfl takes0 (da_cons (dv 0) (da_cons de_int da_nil)))))
 (dss_cons (ds_setO (i := 2) hN rfl da_nil)
 (dss_cons (ds_for (passes_of rfl) rfl (di_range1 (by rfl) A.f_range (da_cons (de_callD A.ok__law_draw hr (by decide) hgd (by rfl) (takes_of (by rfl) (by rfl) (by rfl) (by rfl)) (da_cons (dv 0) (da_cons de_int da_nil))) da_nil)) (dg_name hN rfl) (dss_cons (ds_set (i := 4) hN rfl (de_lcC rfl hN (di_range1 (by rfl) A.f_range (da_cons (de_callB call_len_seq sn_len (by rfl) A.f_len bt_len (da_cons (dv 1) da_nil)) da_nil)) (blkOk_by (own := [("k", 5)]) (by show blkC N__law_net (defScope (top 78)) _ _ = true; decide +kernel)) (lcg_name (by decide)) (fun _ _ _ _ _ => (pg_name hN rfl (by first | exact Or.inl rfl | exact Or.inr rfl) (by first | exact .inl rfl | exact .inr rfl))) (fun _ _ _ _ _ => dts_nil) (fun _ _ _ _ _ => (dv 5))))
 (dss_one (ds_appO (i := 2) rfl (da_cons (de_callTy call_tuple_of sn_tupOf rfl A.f_tuple bt_tuple (da_cons (de_lc rfl hN (di_range1 (by rfl) A.f_range (da_cons de_int da_nil)) (blkOk_by (own := [("one", 6)]) (by show blkC N__law_net (defScope (top 78)) _ _ = true; decide +kernel)) (lcg_name (by decide)) (fun _ _ _ _ _ => (pg_name hN rfl (by first | exact Or.inl rfl | exact Or.inr rfl) (by first | exact .inl rfl | exact .inr rfl))) (fun _ _ _ _ _ => dts_nil) (fun _ _ _ _ _ => (de_popL (dv 4) (de_callD A.ok__law_draw hr (by decide) hgd rfl takes0 (da_cons (dv 0) (da_cons (de_callB call_len_seq sn_len rfl A.f_len bt_len (da_cons (dv 4) da_nil)) da_nil)))))) da_nil)) da_nil)))))
 (dss_one (ds_frz 2 (ds_ret (de_tup (da_cons (dv 1) (da_cons (dv 2) da_nil)))))))))
theorem Hd.ok__law_net (A : Hd K mg) : CallD P w K mg base 3 "_law_net" ["pool"] sp__law_net := by
  obtain ⟨fd, F⟩ := A.c.def_ 29
  exact ⟨_, fd, A.g__law_net, F.kp, F.bindsN fun _ _ _ _ _ _ us hl => match us, hl with | [_], _ => rfl, def_ok F sc__law_net (fun ds μ Q Xd h => h.1) (fun cdv A2 fr s H E hr hgd => d__law_net A hr hgd) fun ds μ Q Xd h => h.2⟩
/-! check_least -/
abbrev N_check_least : List Str := ["thing", "least"]
theorem sc_check_least : FnScope N_check_least ["thing", "least"] (defScope (top 15)) := ⟨rfl, rfl, rfl, by decide +kernel, rfl, by decide +kernel, by decide +kernel⟩
def w_check_least : WS := (sIf (wOr (wNot (wB (wCall sp_is_integer (wCons (wVar 0) wNil)))) (wB (w2 fLt (wN fInt1 (wCons (wVar 0) wNil)) (wVar 1))))
  (sRaise "InvalidNumber" ["number"] (wCons (wVar 0) wNil))
  sNext)
def sp_check_least : DSp := fun ds μ Q Xd => ds.length = 2 ∧ w_check_least (defE Q Xd) (startD N_check_least ds) μ
theorem d_check_least (A : Hd K mg) {cdv : Value} {A2 : Around} {fr : List Env} {s : Shared} {H : Hp} {E : XK} {f : Addr} (hr : Room 2 (A2.deeper (envOfC "check_least" (defScope (top 15)) s.heap.objs.size f cdv))) (hgd : (A2.deeper (envOfC "check_least" (defScope (top 15)) s.heap.objs.size f cdv)).guards = some []) :
    DSs none (fun cls d _ H2 => E cls d H2) (cxOf (L2.CX P w) P w K mg base N_check_least "check_least" (defScope (top 15)) f cdv A2 fr s H E) (defBody (top 15)) w_check_least := by
  have hN := (sc_check_least).nd
  exact (dss_one (ds_if (dt_w (dw_or (dt_not (dt_val (de_callD A.ok_is_integer hr (by decide) hgd rfl (takes_of rfl rfl rfl rfl) (da_cons (dv 0) da_nil)))) (dw_or1 (dt_cmp op_lt s2_IB (de_callTy call_int1 sn_int1 rfl A.f_int bt_int (da_cons (dv 0) da_nil)) (dv 1) (nomark _))))) (dss_one (ds_raiseD A.rx_InvalidNumber rfl hr (by decide) rfl (takes_of rfl rfl rfl rfl) (da_cons (dv 0) da_nil))) dss_nil))
theorem Hd.ok_check_least (A : Hd K mg) : CallD P w K mg base 3 "check_least" ["thing", "least"] sp_check_least := by
  obtain ⟨fd, F⟩ := A.c.def_ 30
  exact ⟨_, fd, A.g_check_least, F.kp, F.bindsN fun _ _ _ _ _ _ us hl => match us, hl with | [_, _], _ => rfl, def_ok F sc_check_least (fun ds μ Q Xd h => h.1) (fun cdv A2 fr s H E hr hgd => d_check_least A hr hgd) fun ds μ Q Xd h => h.2⟩
/-! nearest -/
abbrev N_nearest : List Str := ["number", "many"]
theorem sc_nearest : FnScope N_nearest ["number", "many"] (defScope (top 44)) := ⟨rfl, rfl, rfl, by decide +kernel, rfl, by decide +kernel, by decide +kernel⟩
def w_nearest : WS := (sRet (w2 fTimes (w2 fDiv (w2 fPlus (w2 fTimes (wC (.int (2))) (wVar 0)) (wVar 1)) (w2 fTimes (wC (.int (2))) (wVar 1))) (wVar 1)))
def sp_nearest : DSp := fun ds μ Q Xd => ds.length = 2 ∧ w_nearest (defE Q Xd) (startD N_nearest ds) μ
theorem d_nearest (A : Hd K mg) {cdv : Value} {A2 : Around} {fr : List Env} {s : Shared} {H : Hp} {E : XK} {f : Addr} (hr : Room 0 (A2.deeper (envOfC "nearest" (defScope (top 44)) s.heap.objs.size f cdv))) (hgd : (A2.deeper (envOfC "nearest" (defScope (top 44)) s.heap.objs.size f cdv)).guards = some []) :
    DSs none (fun cls d _ H2 => E cls d H2) (cxOf (L2.CX P w) P w K mg base N_nearest "nearest" (defScope (top 44)) f cdv A2 fr s H E) (defBody (top 44)) w_nearest := by
  have hN := (sc_nearest).nd
  exact (dss_one (ds_ret (de_times (de_div (de_plus (de_times de_int (dv 0)) (dv 1)) (de_times de_int (dv 1))) (dv 1))))
theorem Hd.ok_nearest (A : Hd K mg) : CallD P w K mg base 1 "nearest" ["number", "many"] sp_nearest := by
  obtain ⟨fd, F⟩ := A.c.def_ 31
  exact ⟨_, fd, A.g_nearest, F.kp, F.bindsN fun _ _ _ _ _ _ us hl => match us, hl with | [_, _], _ => rfl, def_ok F sc_nearest (fun ds μ Q Xd h => h.1) (fun cdv A2 fr s H E hr hgd => d_nearest A hr hgd) fun ds μ Q Xd h => h.2⟩
/-! snapped -/
abbrev N_snapped : List Str := ["net", "many", "x", "y"]
theorem sc_snapped : FnScope N_snapped ["net", "many"] (defScope (top 45)) := ⟨rfl, rfl, rfl, by decide +kernel, rfl, by decide +kernel, by decide +kernel⟩
def w_snapped : WS := (sSeq (sDrop (wCall sp_check_least (wCons (wVar 1) (wCons (wC (.int (1))) wNil))))
 (sRet (wMake "Net" sp_Net_init (wCons (wLc (wiL (w1 (fFld "Net" "pairs") (wVar 0))) (kTup 2 (kCons (kNameC 2) (kCons (kNameC 3) kNil))) wYes (wTup (wCons (wCall sp_nearest (wCons (wVar 2) (wCons (wVar 1) wNil))) (wCons (wCall sp_nearest (wCons (wVar 3) (wCons (wVar 1) wNil))) wNil))) [2, 3]) (wCons (w1 (fFld "Net" "own_triples") (wVar 0)) wNil)))))
def sp_snapped : DSp := fun ds μ Q Xd => ds.length = 2 ∧ w_snapped (defE Q Xd) (startD N_snapped ds) μ
theorem d_snapped (A : Hd K mg) {cdv : Value} {A2 : Around} {fr : List Env} {s : Shared} {H : Hp} {E : XK} {f : Addr} (hr : Room 6 (A2.deeper (envOfC "snapped" (defScope (top 45)) s.heap.objs.size f cdv))) (hgd : (A2.deeper (envOfC "snapped" (defScope (top 45)) s.heap.objs.size f cdv)).guards = some []) :
    DSs none (fun cls d _ H2 => E cls d H2) (cxOf (L2.CX P w) P w K mg base N_snapped "snapped" (defScope (top 45)) f cdv A2 fr s H E) (defBody (top 45)) w_snapped := by
  have hN := (sc_snapped).nd
  exact (dss_cons (ds_expr (de_callD A.ok_check_least hr (by decide) hgd rfl (takes_of rfl rfl rfl rfl) (da_cons (dv 1) (da_cons de_int da_nil))))
 (dss_one (ds_ret (de_makeD A.ok_Net_init hr (by decide) hgd rfl (takes_of rfl rfl rfl rfl) (da_cons (de_lc rfl hN (di_list (de_fldD A.fl_Net_pairs (dv 0))) (blkOk_by (own := [("x", 2), ("y", 3)]) (by show blkC N_snapped (defScope (top 45)) _ _ = true; decide +kernel)) (lcg_tup (lcgs_cons (lcg_name (by decide)) (lcgs_cons (lcg_name (by decide)) lcgs_nil))) (fun _ _ _ _ _ => (pg_tup rfl (pgs_cons (pg_name hN rfl (by first | exact Or.inl rfl | exact Or.inr rfl) (by first | exact .inl rfl | exact .inr rfl)) (pgs_cons (pg_name hN rfl (by first | exact Or.inl rfl | exact Or.inr rfl) (by first | exact .inl rfl | exact .inr rfl)) pgs_nil)))) (fun _ _ _ _ _ => dts_nil) (fun _ _ _ _ _ => (de_tup (da_cons (de_callD A.ok_nearest hr (by decide) hgd rfl takes0 (da_cons (dv 2) (da_cons (dv 1) da_nil))) (da_cons (de_callD A.ok_nearest hr (by decide) hgd rfl takes0 (da_cons (dv 3) (da_cons (dv 1) da_nil))) da_nil))))) (da_cons (de_fldD A.fl_Net_own_triples (dv 0)) da_nil))))))
theorem Hd.ok_snapped (A : Hd K mg) : CallD P w K mg base 7 "snapped" ["net", "many"] sp_snapped := by
  obtain ⟨fd, F⟩ := A.c.def_ 32
  exact ⟨_, fd, A.g_snapped, F.kp, F.bindsN fun _ _ _ _ _ _ us hl => match us, hl with | [_, _], _ => rfl, def_ok F sc_snapped (fun ds μ Q Xd h => h.1) (fun cdv A2 fr s H E hr hgd => d_snapped A hr hgd) fun ds μ Q Xd h => h.2⟩
/-! _law_refused -/
abbrev N__law_refused : List Str := ["net", "odd", "e"]
theorem sc__law_refused : FnScope N__law_refused ["net", "odd"] (defScope (top 82)) := ⟨rfl, rfl, rfl, by decide +kernel, rfl, by decide +kernel, by decide +kernel⟩
def w__law_refused : WS := (sSeq (sTry (catF catL_FillError) 2 (sDrop (wCall sp_snapped (wCons (wVar 0) (wCons (wVar 1) wNil)))) (sRet (wAndV (wIsE (isxF isxL) 2 "InvalidNumber") (wAndV (wNotV (wIsE (isxF isxL) 2 "InvalidPoint")) (wN fRepr (wCons (wXf xfC_number 2 "number") wNil))))))
 (sRet (wC .non)))
def sp__law_refused : DSp := fun ds μ Q Xd => ds.length = 2 ∧ w__law_refused (defE Q Xd) (startD N__law_refused ds) μ
theorem d__law_refused (A : Hd K mg) {cdv : Value} {A2 : Around} {fr : List Env} {s : Shared} {H : Hp} {E : XK} {f : Addr} (hr : Room 7 (A2.deeper (envOfC "_law_refused" (defScope (top 82)) s.heap.objs.size f cdv))) (hgd : (A2.deeper (envOfC "_law_refused" (defScope (top 82)) s.heap.objs.size f cdv)).guards = some []) :
    DSs none (fun cls d _ H2 => E cls d H2) (cxOf (L2.CX P w) P w K mg base N__law_refused "_law_refused" (defScope (top 82)) f cdv A2 fr s H E) (defBody (top 82)) w__law_refused := by
  have hN := (sc__law_refused).nd
  exact (dss_cons (ds_try (i := 2) rfl rfl hN rfl rfl ⟨rfl, by decide, .inl A.cat_FillError.2⟩ (takes_of rfl rfl rfl rfl) A.cat_FillError.1 (fun W2 pn xe tk2 po2 => (dss_one (ds_expr (de_callD A.ok_snapped hr (by decide) hgd rfl tk2 (da_cons (dv 0) (da_cons (dv 1) da_nil)))))) (fun a oe cls d pn hz hf => (dss_one (ds_ret (de_and (de_isX (i := 2) A.isx hz hf rfl A.f_isinstance rfl rfl A.g_InvalidNumber) (de_and (de_not (de_isX (i := 2) A.isx hz hf rfl A.f_isinstance rfl rfl A.g_InvalidPoint)) (de_one (de_callB (call_reprD hgd (have z := room64 hr; z)) sn_repr rfl A.f_repr bt_repr (da_cons (de_xf (i := 2) (cs := xfC_number) hz hf A.xf_number rfl) da_nil)))))))))
 (dss_one (ds_ret de_non)))
theorem Hd.ok__law_refused (A : Hd K mg) : CallD P w K mg base 8 "_law_refused" ["net", "odd"] sp__law_refused := by
  obtain ⟨fd, F⟩ := A.c.def_ 33
  exact ⟨_, fd, A.g__law_refused, F.kp, F.bindsN fun _ _ _ _ _ _ us hl => match us, hl with | [_, _], _ => rfl, def_ok F sc__law_refused (fun ds μ Q Xd h => h.1) (fun cdv A2 fr s H E hr hgd => d__law_refused A hr hgd) fun ds μ Q Xd h => h.2⟩
/-! _law_told_half -/
abbrev N__law_told_half : List Str := ["pool", "n"]
theorem sc__law_told_half : FnScope N__law_told_half ["pool"] (defScope (top 80)) := ⟨rfl, rfl, rfl, by decide +kernel, rfl, by decide +kernel, by decide +kernel⟩
def w__law_told_half : WS := (sSeq (sSet 1 (wCall sp__law_pair (wCons (wVar 0) (wCons (wC (.int (4))) wNil))))
 (sRet (wTup (wCons (wC (.str "half")) (wCons (wIf (wB (w2 fEqU (wVar 1) (wTup (wCons (wC (.int (0))) (wCons (wC (.int (0))) wNil))))) (wTup (wCons (wC (.int (3))) (wCons (w1 fNeg (wC (.int (1)))) wNil))) (wVar 1)) (wCons (w2 fEqU (wCall sp__law_draw (wCons (wVar 0) (wCons (wC (.int (2))) wNil))) (wC (.int (0)))) wNil))))))
def sp__law_told_half : DSp := fun ds μ Q Xd => ds.length = 1 ∧ w__law_told_half (defE Q Xd) (startD N__law_told_half ds) μ
theorem d__law_told_half (A : Hd K mg) {cdv : Value} {A2 : Around} {fr : List Env} {s : Shared} {H : Hp} {E : XK} {f : Addr} (hr : Room 2 (A2.deeper (envOfC "_law_told_half" (defScope (top 80)) s.heap.objs.size f cdv))) (hgd : (A2.deeper (envOfC "_law_told_half" (defScope (top 80)) s.heap.objs.size f cdv)).guards = some []) :
    DSs none (fun cls d _ H2 => E cls d H2) (cxOf (L2.CX P w) P w K mg base N__law_told_half "_law_told_half" (defScope (top 80)) f cdv A2 fr s H E) (defBody (top 80)) w__law_told_half := by
  have hN := (sc__law_told_half).nd
  exact (dss_cons (ds_set (i := 1) hN rfl (de_callD A.ok__law_pair hr (by decide) hgd rfl (takes_of rfl rfl rfl rfl) (da_cons (dv 0) (da_cons de_int da_nil))))
 (dss_one (ds_ret (de_tup (da_cons de_str (da_cons (de_if (dt_cmp (op_eqU (have z := room64 hr; z)) s2_eqU (dv 1) (de_tup (da_cons de_int (da_cons de_int da_nil))) (nomark _)) (de_tup (da_cons de_int (da_cons (de_neg de_int) da_nil))) (dv 1)) (da_cons (de_cmp (op_eqU (have z := room64 hr; z)) s2_eqU (de_callD A.ok__law_draw hr (by decide) hgd rfl (takes_of rfl rfl rfl rfl) (da_cons (dv 0) (da_cons de_int da_nil))) de_int (nomark _)) da_nil)))))))
theorem Hd.ok__law_told_half (A : Hd K mg) : CallD P w K mg base 3 "_law_told_half" ["pool"] sp__law_told_half := by
  obtain ⟨fd, F⟩ := A.c.def_ 34
  exact ⟨_, fd, A.g__law_told_half, F.kp, F.bindsN fun _ _ _ _ _ _ us hl => match us, hl with | [_], _ => rfl, def_ok F sc__law_told_half (fun ds μ Q Xd h => h.1) (fun cdv A2 fr s H E hr hgd => d__law_told_half A hr hgd) fun ds μ Q Xd h => h.2⟩
/-! each_once -/
abbrev N_each_once : List Str := ["numbers", "found", "number"]
theorem sc_each_once : FnScope N_each_once ["numbers"] (defScope (top 33)) := ⟨rfl, rfl, rfl, by decide +kernel, rfl, by decide +kernel, by decide +kernel⟩
def w_each_once : WS := (sSeq (sSet 1 (wLst wNil))
 (sSeq (sFor (wiL (wN fSortW (wCons (wLc (wiL (wVar 0)) (kNameC 2) wYes (wN fInt1 (wCons (wVar 2) wNil)) [2]) wNil))) (kName 2)
  (sIf (wOr (wB (w2 fEqU (wN fLen (wCons (wVar 1) wNil)) (wC (.int (0))))) (wB (w2 fNeU (w2 fIx (wVar 1) (w1 fNeg (wC (.int (1))))) (wVar 2))))
  (sSet 1 (w2 fPlus (wVar 1) (wLst (wCons (wVar 2) wNil))))
  sNext))
 (sRet (wVar 1))))
def sp_each_once : DSp := fun ds μ Q Xd => ds.length = 1 ∧ w_each_once (defE Q Xd) (startD N_each_once ds) μ
theorem d_each_once (A : Hd K mg) {cdv : Value} {A2 : Around} {fr : List Env} {s : Shared} {H : Hp} {E : XK} {f : Addr} (hr : Room 0 (A2.deeper (envOfC "each_once" (defScope (top 33)) s.heap.objs.size f cdv))) (hgd : (A2.deeper (envOfC "each_once" (defScope (top 33)) s.heap.objs.size f cdv)).guards = some []) :
    DSs none (fun cls d _ H2 => E cls d H2) (cxOf (L2.CX P w) P w K mg base N_each_once "each_once" (defScope (top 33)) f cdv A2 fr s H E) (defBody (top 33)) w_each_once := by
  have hN := (sc_each_once).nd
  exact (dss_cons (ds_set (i := 1) hN rfl (de_lst da_nil))
 (dss_cons (ds_for (passes_of rfl) rfl (di_list (de_callB cr_sortedI sn_sortW (by rfl) A.f_sorted bt_sorted (da_cons (de_lc (by rfl) hN (di_list (dv 0)) (blkOk_by (own := [("number", 2)]) (by show blkC N_each_once (defScope (top 33)) _ _ = true; decide +kernel)) (lcg_name (by decide)) (fun _ _ _ _ _ => (pg_name hN (by rfl) (by first | exact Or.inl (by rfl) | exact Or.inr (by rfl)) (by first | exact .inl (by rfl) | exact .inr (by rfl)))) (fun _ _ _ _ _ => dts_nil) (fun _ _ _ _ _ => (de_callTy call_int1 sn_int1 (by rfl) A.f_int bt_int (da_cons (dv 2) da_nil)))) da_nil))) (dg_name hN rfl) (dss_one (ds_if (dt_w (dw_or (dt_cmp (op_eqU (have z := room64 hr; z)) s2_eqU (de_callB call_len_seq sn_len rfl A.f_len bt_len (da_cons (dv 1) da_nil)) de_int (nomark _)) (dw_or1 (dt_cmp (op_neU (have z := room64 hr; z)) s2_neU (de_item (dv 1) (de_neg de_int)) (dv 2) (nomark _))))) (dss_one (ds_set (i := 1) hN rfl (de_plus (dv 1) (de_lst (da_cons (dv 2) da_nil))))) dss_nil)))
 (dss_one (ds_ret (dv 1)))))
theorem Hd.ok_each_once (A : Hd K mg) : CallD P w K mg base 1 "each_once" ["numbers"] sp_each_once := by
  obtain ⟨fd, F⟩ := A.c.def_ 35
  exact ⟨_, fd, A.g_each_once, F.kp, F.bindsN fun _ _ _ _ _ _ us hl => match us, hl with | [_], _ => rfl, def_ok F sc_each_once (fun ds μ Q Xd h => h.1) (fun cdv A2 fr s H E hr hgd => d_each_once A hr hgd) fun ds μ Q Xd h => h.2⟩
/-! in_rows -/
abbrev N_in_rows : List Str := ["pairs", "found", "y", "x", "row"]
theorem sc_in_rows : FnScope N_in_rows ["pairs"] (defScope (top 34)) := ⟨rfl, rfl, rfl, by decide +kernel, rfl, by decide +kernel, by decide +kernel⟩
def w_in_rows : WS := (sSeq (sSet 1 (wLst wNil))
 (sSeq (sFor (wiL (wCall sp_each_once (wCons (wLc (wiL (wVar 0)) (kTup 2 (kCons (kNameC 3) (kCons (kNameC 2) kNil))) wYes (wVar 2) [3, 2]) wNil))) (kName 2)
  (sSet 1 (w2 fPlus (wVar 1) (wLc (wiL (wCall sp_each_once (wCons (wLc (wiL (wVar 0)) (kTup 2 (kCons (kNameC 3) (kCons (kNameC 4) kNil))) (wB (w2 fEqU (wVar 4) (wVar 2))) (wVar 3) [3, 4]) wNil))) (kNameC 3) wYes (wTup (wCons (wVar 3) (wCons (wVar 2) wNil))) [3]))))
 (sRet (wVar 1))))
def sp_in_rows : DSp := fun ds μ Q Xd => ds.length = 1 ∧ w_in_rows (defE Q Xd) (startD N_in_rows ds) μ
theorem d_in_rows (A : Hd K mg) {cdv : Value} {A2 : Around} {fr : List Env} {s : Shared} {H : Hp} {E : XK} {f : Addr} (hr : Room 1 (A2.deeper (envOfC "in_rows" (defScope (top 34)) s.heap.objs.size f cdv))) (hgd : (A2.deeper (envOfC "in_rows" (defScope (top 34)) s.heap.objs.size f cdv)).guards = some []) :
    DSs none (fun cls d _ H2 => E cls d H2) (cxOf (L2.CX P w) P w K mg base N_in_rows "in_rows" (defScope (top 34)) f cdv A2 fr s H E) (defBody (top 34)) w_in_rows := by
  have hN := (sc_in_rows).nd
  exact (dss_cons (ds_set (i := 1) hN rfl (de_lst da_nil))
 (dss_cons (ds_for (passes_of rfl) rfl (di_list (de_callD A.ok_each_once hr (by decide) hgd (by rfl) (takes_of (by rfl) (by rfl) (by rfl) (by rfl)) (da_cons (de_lc (by rfl) hN (di_list (dv 0)) (blkOk_by (own := [("x", 3), ("y", 2)]) (by show blkC N_in_rows (defScope (top 34)) _ _ = true; decide +kernel)) (lcg_tup (lcgs_cons (lcg_name (by decide)) (lcgs_cons (lcg_name (by decide)) lcgs_nil))) (fun _ _ _ _ _ => (pg_tup (by rfl) (pgs_cons (pg_name hN (by rfl) (by first | exact Or.inl (by rfl) | exact Or.inr (by rfl)) (by first | exact .inl (by rfl) | exact .inr (by rfl))) (pgs_cons (pg_name hN (by rfl) (by first | exact Or.inl (by rfl) | exact Or.inr (by rfl)) (by first | exact .inl (by rfl) | exact .inr (by rfl))) pgs_nil)))) (fun _ _ _ _ _ => dts_nil) (fun _ _ _ _ _ => (dv 2))) da_nil))) (dg_name hN rfl) (dss_one (ds_set (i := 1) hN rfl (de_plus (dv 1) (de_lc rfl hN (di_list (de_callD A.ok_each_once hr (by decide) hgd (by rfl) (takes_of (by rfl) (by rfl) (by rfl) (by rfl)) (da_cons (de_lc (by rfl) hN (di_list (dv 0)) (blkOk_by (own := [("x", 3), ("row", 4)]) (by show blkC N_in_rows (defScope (top 34)) _ _ = true; decide +kernel)) (lcg_tup (lcgs_cons (lcg_name (by decide)) (lcgs_cons (lcg_name (by decide)) lcgs_nil))) (fun _ _ _ _ _ => (pg_tup (by rfl) (pgs_cons (pg_name hN (by rfl) (by first | exact Or.inl (by rfl) | exact Or.inr (by rfl)) (by first | exact .inl (by rfl) | exact .inr (by rfl))) (pgs_cons (pg_name hN (by rfl) (by first | exact Or.inl (by rfl) | exact Or.inr (by rfl)) (by first | exact .inl (by rfl) | exact .inr (by rfl))) pgs_nil)))) (fun _ _ _ _ _ => (dts_one (dt_cmp (op_eqU (have z := room64 hr; z)) s2_eqU (dv 4) (dv 2) (nomark _)))) (fun _ _ _ _ _ => (dv 3))) da_nil))) (blkOk_by (own := [("x", 3)]) (by show blkC N_in_rows (defScope (top 34)) _ _ = true; decide +kernel)) (lcg_name (by decide)) (fun _ _ _ _ _ => (pg_name hN rfl (by first | exact Or.inl rfl | exact Or.inr rfl) (by first | exact .inl rfl | exact .inr rfl))) (fun _ _ _ _ _ => dts_nil) (fun _ _ _ _ _ => (de_tup (da_cons (dv 3) (da_cons (dv 2) da_nil)))))))))
 (dss_one (ds_ret (dv 1)))))
theorem Hd.ok_in_rows (A : Hd K mg) : CallD P w K mg base 2 "in_rows" ["pairs"] sp_in_rows := by
  obtain ⟨fd, F⟩ := A.c.def_ 36
  exact ⟨_, fd, A.g_in_rows, F.kp, F.bindsN fun _ _ _ _ _ _ us hl => match us, hl with | [_], _ => rfl, def_ok F sc_in_rows (fun ds μ Q Xd h => h.1) (fun cdv A2 fr s H E hr hgd => d_in_rows A hr hgd) fun ds μ Q Xd h => h.2⟩
/-! Samples_init -/
abbrev N_Samples_init : List Str := ["self", "points", "number", "thing"]
theorem sc_Samples_init : FnScope N_Samples_init ["self", "points"] (defScope (inClass (top 36) 0)) := ⟨rfl, rfl, rfl, by decide +kernel, rfl, by decide +kernel, by decide +kernel⟩
def w_Samples_init : WS := (sIf (wB (wN (fIsi isiT) (wCons (wVar 1) (wCons (wC (.cls "Pairs")) wNil))))
  (sSeq (sFldO "Samples" 0 "pairs" (w1 (fFld "Pairs" "pairs") (wVar 1)))
 sNext)
  (sSeq (sIf (wNot (wB (wN (fIsi isiT) (wCons (wVar 1) (wCons (wC (.ty "list")) wNil)))))
  (sRaise "InvalidSamples" ["number"] (wCons (wC .non) wNil))
  sNext)
 (sSeq (sFor (wiEnumX (wCons (wVar 1) wNil)) (kTup 2 (kCons (kName 2) (kCons (kName 3) kNil)))
  (sIf (wB (w2 fIsN (wCall sp_numbers_of (wCons (wVar 3) wNil)) (wC .non)))
  (sRaise "InvalidSamples" ["number"] (wCons (wVar 2) wNil))
  sNext))
 (sFldO "Samples" 0 "pairs" (wCall sp_in_rows (wCons (wLc (wiL (wVar 1)) (kNameC 3) wYes (wCall sp_numbers_of (wCons (wVar 3) wNil)) [3]) wNil))))))
def sp_Samples_init : ISp := fun ds μ Q Xd => ds.length = 1 ∧ ∀ a, w_Samples_init (defI "Samples" a Q Xd) (startI N_Samples_init "Samples" a ds) μ
theorem d_Samples_init (A : Hd K mg) {cdv : Value} {A2 : Around} {fr : List Env} {s : Shared} {H : Hp} {E : XK} {f : Addr} (hr : Room 2 (A2.deeper (envOfC "Samples.__init__" (defScope (inClass (top 36) 0)) s.heap.objs.size f cdv))) (hgd : (A2.deeper (envOfC "Samples.__init__" (defScope (inClass (top 36) 0)) s.heap.objs.size f cdv)).guards = some []) :
    DSi (fun cls d _ H2 => E cls d H2) (cxOf (L2.CX P w) P w K mg base N_Samples_init "Samples.__init__" (defScope (inClass (top 36) 0)) f cdv A2 fr s H E) (defBody (inClass (top 36) 0)) w_Samples_init := by
  have hN := (sc_Samples_init).nd
  exact (dsi_ifr (dt_val (de_callB call_isi (sn_isi A.isi) rfl A.f_isinstance bt_isinstance (da_cons (dv 1) (da_cons (de_cls rfl A.g_Pairs) da_nil)))) (dsr_cons (ds_fldOD A.fl_Samples_pairs rfl (de_fldD A.fl_Pairs_pairs (dv 1)))
 dsr_ret)
 (dsi_of (dss_cons (ds_if (dt_not (dt_val (de_callB call_isi (sn_isi A.isi) rfl A.f_isinstance bt_isinstance (da_cons (dv 1) (da_cons (de_ty rfl A.f_list bt_list) da_nil))))) (dss_one (ds_raiseD A.rx_InvalidSamples rfl hr (by decide) rfl (takes_of rfl rfl rfl rfl) (da_cons de_non da_nil))) dss_nil)
 (dss_cons (ds_for (passes_of rfl) rfl (di_enumX (by rfl) A.f_enumerate (da_cons (dv 1) da_nil)) (dg_tup rfl (dgs_cons (dg_name hN rfl) (dgs_cons (dg_name hN rfl) dgs_nil))) (dss_one (ds_if (dt_cmp op_isN s2_isN (de_callD A.ok_numbers_of hr (by decide) hgd rfl (takes_of rfl rfl rfl rfl) (da_cons (dv 3) da_nil)) de_non (nomark _)) (dss_one (ds_raiseD A.rx_InvalidSamples rfl hr (by decide) rfl (takes_of rfl rfl rfl rfl) (da_cons (dv 2) da_nil))) dss_nil)))
 (dss_one (ds_fldOD A.fl_Samples_pairs rfl (de_callD A.ok_in_rows hr (by decide) hgd rfl (takes_of rfl rfl rfl rfl) (da_cons (de_lc rfl hN (di_list (dv 1)) (blkOk_by (own := [("thing", 3)]) (by show blkC N_Samples_init (defScope (inClass (top 36) 0)) _ _ = true; decide +kernel)) (lcg_name (by decide)) (fun _ _ _ _ _ => (pg_name hN rfl (by first | exact Or.inl rfl | exact Or.inr rfl) (by first | exact .inl rfl | exact .inr rfl))) (fun _ _ _ _ _ => dts_nil) (fun _ _ _ _ _ => (de_callD A.ok_numbers_of hr (by decide) hgd rfl takes0 (da_cons (dv 3) da_nil)))) da_nil))))))))
theorem Hd.ok_Samples_init (A : Hd K mg) : MakeD P w K mg base 3 "Samples" ["self", "points"] sp_Samples_init := by
  obtain ⟨fd, F⟩ := A.c.def_ 37
  refine ⟨_, _, fd, A.g_Samples, He.mkr_ok (A.c.fact 86), F.bindsN fun _ _ _ _ _ _ us hl => match us, hl with | [_, _], _ => rfl, def_okI2 F sc_Samples_init (fun ds μ Q Xd h => by rw [h.1]; rfl) (fun cdv A2 fr s H E hr hgd => d_Samples_init A hr hgd) fun ds μ Q Xd a h => h.2 a⟩
/-! box_of -/
abbrev N_box_of : List Str := ["pairs", "low", "high", "pair"]
theorem sc_box_of : FnScope N_box_of ["pairs"] (defScope (top 32)) := ⟨rfl, rfl, rfl, by decide +kernel, rfl, by decide +kernel, by decide +kernel⟩
def w_box_of : WS := (sSeq (sSet 1 (wTup (wCons (wN fMinL (wCons (wLc (wiL (wVar 0)) (kNameC 3) wYes (wN fInt1 (wCons (w2 fIx (wVar 3) (wC (.int (0)))) wNil)) [3]) wNil)) (wCons (wN fMinL (wCons (wLc (wiL (wVar 0)) (kNameC 3) wYes (wN fInt1 (wCons (w2 fIx (wVar 3) (wC (.int (1)))) wNil)) [3]) wNil)) wNil))))
 (sSeq (sSet 2 (wTup (wCons (wN fMaxL (wCons (wLc (wiL (wVar 0)) (kNameC 3) wYes (wN fInt1 (wCons (w2 fIx (wVar 3) (wC (.int (0)))) wNil)) [3]) wNil)) (wCons (wN fMaxL (wCons (wLc (wiL (wVar 0)) (kNameC 3) wYes (wN fInt1 (wCons (w2 fIx (wVar 3) (wC (.int (1)))) wNil)) [3]) wNil)) wNil))))
 (sRet (wTup (wCons (wVar 1) (wCons (wVar 2) wNil))))))
def sp_box_of : DSp := fun ds μ Q Xd => ds.length = 1 ∧ w_box_of (defE Q Xd) (startD N_box_of ds) μ
theorem d_box_of (A : Hd K mg) {cdv : Value} {A2 : Around} {fr : List Env} {s : Shared} {H : Hp} {E : XK} {f : Addr} (hr : Room 0 (A2.deeper (envOfC "box_of" (defScope (top 32)) s.heap.objs.size f cdv))) (hgd : (A2.deeper (envOfC "box_of" (defScope (top 32)) s.heap.objs.size f cdv)).guards = some []) :
    DSs none (fun cls d _ H2 => E cls d H2) (cxOf (L2.CX P w) P w K mg base N_box_of "box_of" (defScope (top 32)) f cdv A2 fr s H E) (defBody (top 32)) w_box_of := by
  have hN := (sc_box_of).nd
  exact (dss_cons (ds_set (i := 1) hN rfl (de_tup (da_cons (de_callB (cr_min rfl) sn_minL rfl A.f_min bt_min (da_cons (de_lc rfl hN (di_list (dv 0)) (blkOk_by (own := [("pair", 3)]) (by show blkC N_box_of (defScope (top 32)) _ _ = true; decide +kernel)) (lcg_name (by decide)) (fun _ _ _ _ _ => (pg_name hN rfl (by first | exact Or.inl rfl | exact Or.inr rfl) (by first | exact .inl rfl | exact .inr rfl))) (fun _ _ _ _ _ => dts_nil) (fun _ _ _ _ _ => (de_callTy call_int1 sn_int1 rfl A.f_int bt_int (da_cons (de_item (dv 3) de_int) da_nil)))) da_nil)) (da_cons (de_callB (cr_min rfl) sn_minL rfl A.f_min bt_min (da_cons (de_lc rfl hN (di_list (dv 0)) (blkOk_by (own := [("pair", 3)]) (by show blkC N_box_of (defScope (top 32)) _ _ = true; decide +kernel)) (lcg_name (by decide)) (fun _ _ _ _ _ => (pg_name hN rfl (by first | exact Or.inl rfl | exact Or.inr rfl) (by first | exact .inl rfl | exact .inr rfl))) (fun _ _ _ _ _ => dts_nil) (fun _ _ _ _ _ => (de_callTy call_int1 sn_int1 rfl A.f_int bt_int (da_cons (de_item (dv 3) de_int) da_nil)))) da_nil)) da_nil))))
 (dss_cons (ds_set (i := 2) hN rfl (de_tup (da_cons (de_callB (cr_max rfl) sn_maxL rfl A.f_max bt_max (da_cons (de_lc rfl hN (di_list (dv 0)) (blkOk_by (own := [("pair", 3)]) (by show blkC N_box_of (defScope (top 32)) _ _ = true; decide +kernel)) (lcg_name (by decide)) (fun _ _ _ _ _ => (pg_name hN rfl (by first | exact Or.inl rfl | exact Or.inr rfl) (by first | exact .inl rfl | exact .inr rfl))) (fun _ _ _ _ _ => dts_nil) (fun _ _ _ _ _ => (de_callTy call_int1 sn_int1 rfl A.f_int bt_int (da_cons (de_item (dv 3) de_int) da_nil)))) da_nil)) (da_cons (de_callB (cr_max rfl) sn_maxL rfl A.f_max bt_max (da_cons (de_lc rfl hN (di_list (dv 0)) (blkOk_by (own := [("pair", 3)]) (by show blkC N_box_of (defScope (top 32)) _ _ = true; decide +kernel)) (lcg_name (by decide)) (fun _ _ _ _ _ => (pg_name hN rfl (by first | exact Or.inl rfl | exact Or.inr rfl) (by first | exact .inl rfl | exact .inr rfl))) (fun _ _ _ _ _ => dts_nil) (fun _ _ _ _ _ => (de_callTy call_int1 sn_int1 rfl A.f_int bt_int (da_cons (de_item (dv 3) de_int) da_nil)))) da_nil)) da_nil))))
 (dss_one (ds_ret (de_tup (da_cons (dv 1) (da_cons (dv 2) da_nil)))))))
theorem Hd.ok_box_of (A : Hd K mg) : CallD P w K mg base 1 "box_of" ["pairs"] sp_box_of := by
  obtain ⟨fd, F⟩ := A.c.def_ 38
  exact ⟨_, fd, A.g_box_of, F.kp, F.bindsN fun _ _ _ _ _ _ us hl => match us, hl with | [_], _ => rfl, def_ok F sc_box_of (fun ds μ Q Xd h => h.1) (fun cdv A2 fr s H E hr hgd => d_box_of A hr hgd) fun ds μ Q Xd h => h.2⟩
/-! Net_corners_of -/
abbrev N_Net_corners_of : List Str := ["self", "triple", "index"]
theorem sc_Net_corners_of : FnScope N_Net_corners_of ["self", "triple"] (defScope (inClass (top 42) 7)) := ⟨rfl, rfl, rfl, by decide +kernel, rfl, by decide +kernel, by decide +kernel⟩
def w_Net_corners_of : WS := (sRet (wLc (wiT (wVar 1)) (kNameC 2) wYes (w2 fIx (w1 (fFld "Net" "pairs") (wVar 0)) (wVar 2)) [2]))
def sp_Net_corners_of : DSp := fun ds μ Q Xd => ds.length = 2 ∧ w_Net_corners_of (defE Q Xd) (startD N_Net_corners_of ds) μ
theorem d_Net_corners_of (A : Hd K mg) {cdv : Value} {A2 : Around} {fr : List Env} {s : Shared} {H : Hp} {E : XK} {f : Addr} (hr : Room 0 (A2.deeper (envOfC "Net.corners_of" (defScope (inClass (top 42) 7)) s.heap.objs.size f cdv))) (hgd : (A2.deeper (envOfC "Net.corners_of" (defScope (inClass (top 42) 7)) s.heap.objs.size f cdv)).guards = some []) :
    DSs none (fun cls d _ H2 => E cls d H2) (cxOf (L2.CX P w) P w K mg base N_Net_corners_of "Net.corners_of" (defScope (inClass (top 42) 7)) f cdv A2 fr s H E) (defBody (inClass (top 42) 7)) w_Net_corners_of := by
  have hN := (sc_Net_corners_of).nd
  exact (dss_one (ds_ret (de_lc rfl hN (di_tup (dv 1)) (blkOk_by (own := [("index", 2)]) (by show blkC N_Net_corners_of (defScope (inClass (top 42) 7)) _ _ = true; decide +kernel)) (lcg_name (by decide)) (fun _ _ _ _ _ => (pg_name hN rfl (by first | exact Or.inl rfl | exact Or.inr rfl) (by first | exact .inl rfl | exact .inr rfl))) (fun _ _ _ _ _ => dts_nil) (fun _ _ _ _ _ => (de_item (de_fldD A.fl_Net_pairs (dv 0)) (dv 2))))))
theorem Hd.ok_Net_corners_of (A : Hd K mg) : MethD P w K mg base 1 "Net" "corners_of" ["self", "triple"] sp_Net_corners_of := by
  obtain ⟨fd, F⟩ := A.c.def_ 39
  exact ⟨_, _, fd, A.g_Net, He.cls_ok (A.c.fact 71), He.meth_ok (A.c.fact 89), F.bindsN fun _ _ _ _ _ _ us hl => match us, hl with | [_, _], _ => rfl, def_ok F sc_Net_corners_of (fun ds μ Q Xd h => h.1) (fun cdv A2 fr s H E hr hgd => d_Net_corners_of A hr hgd) fun ds μ Q Xd h => h.2⟩
/-! cross_of -/
abbrev N_cross_of : List Str := ["one", "other"]
theorem sc_cross_of : FnScope N_cross_of ["one", "other"] (defScope (top 22)) := ⟨rfl, rfl, rfl, by decide +kernel, rfl, by decide +kernel, by decide +kernel⟩
def w_cross_of : WS := (sRet (w2 fSub (w2 fTimes (w2 fIx (wVar 0) (wC (.int (0)))) (w2 fIx (wVar 1) (wC (.int (1))))) (w2 fTimes (w2 fIx (wVar 0) (wC (.int (1)))) (w2 fIx (wVar 1) (wC (.int (0)))))))
def sp_cross_of : DSp := fun ds μ Q Xd => ds.length = 2 ∧ w_cross_of (defE Q Xd) (startD N_cross_of ds) μ
theorem d_cross_of (A : Hd K mg) {cdv : Value} {A2 : Around} {fr : List Env} {s : Shared} {H : Hp} {E : XK} {f : Addr} (hr : Room 0 (A2.deeper (envOfC "cross_of" (defScope (top 22)) s.heap.objs.size f cdv))) (hgd : (A2.deeper (envOfC "cross_of" (defScope (top 22)) s.heap.objs.size f cdv)).guards = some []) :
    DSs none (fun cls d _ H2 => E cls d H2) (cxOf (L2.CX P w) P w K mg base N_cross_of "cross_of" (defScope (top 22)) f cdv A2 fr s H E) (defBody (top 22)) w_cross_of := by
  have hN := (sc_cross_of).nd
  exact (dss_one (ds_ret (de_sub (de_times (de_item (dv 0) de_int) (de_item (dv 1) de_int)) (de_times (de_item (dv 0) de_int) (de_item (dv 1) de_int)))))
theorem Hd.ok_cross_of (A : Hd K mg) : CallD P w K mg base 1 "cross_of" ["one", "other"] sp_cross_of := by
  obtain ⟨fd, F⟩ := A.c.def_ 40
  exact ⟨_, fd, A.g_cross_of, F.kp, F.bindsN fun _ _ _ _ _ _ us hl => match us, hl with | [_, _], _ => rfl, def_ok F sc_cross_of (fun ds μ Q Xd h => h.1) (fun cdv A2 fr s H E hr hgd => d_cross_of A hr hgd) fun ds μ Q Xd h => h.2⟩
/-! Half_has -/
abbrev N_Half_has : List Str := ["self", "pair", "at", "goes_along"]
theorem sc_Half_has : FnScope N_Half_has ["self", "pair"] (defScope (inClass (top 62) 5)) := ⟨rfl, rfl, rfl, by decide +kernel, rfl, by decide +kernel, by decide +kernel⟩
def w_Half_has : WS := (sSeq (sSet 2 (wCall sp_cross_of (wCons (w1 (fFld "Half" "own_way") (wVar 0)) (wCons (wVar 1) wNil))))
 (sSeq (sIf (wB (w2 fNeU (wVar 2) (wC (.int (0)))))
  (sRet (w2 fGt (wVar 2) (wC (.int (0)))))
  sNext)
 (sSeq (sSet 3 (w2 fGt (w2 fPlus (w2 fTimes (w2 fIx (wVar 1) (wC (.int (0)))) (w2 fIx (w1 (fFld "Half" "own_way") (wVar 0)) (wC (.int (0))))) (w2 fTimes (w2 fIx (wVar 1) (wC (.int (1)))) (w2 fIx (w1 (fFld "Half" "own_way") (wVar 0)) (wC (.int (1)))))) (wC (.int (0)))))
 (sRet (w2 fEqU (wVar 3) (w1 (fFld "Half" "own_ahead") (wVar 0)))))))
def sp_Half_has : DSp := fun ds μ Q Xd => ds.length = 2 ∧ w_Half_has (defE Q Xd) (startD N_Half_has ds) μ
theorem d_Half_has (A : Hd K mg) {cdv : Value} {A2 : Around} {fr : List Env} {s : Shared} {H : Hp} {E : XK} {f : Addr} (hr : Room 1 (A2.deeper (envOfC "Half.has" (defScope (inClass (top 62) 5)) s.heap.objs.size f cdv))) (hgd : (A2.deeper (envOfC "Half.has" (defScope (inClass (top 62) 5)) s.heap.objs.size f cdv)).guards = some []) :
    DSs none (fun cls d _ H2 => E cls d H2) (cxOf (L2.CX P w) P w K mg base N_Half_has "Half.has" (defScope (inClass (top 62) 5)) f cdv A2 fr s H E) (defBody (inClass (top 62) 5)) w_Half_has := by
  have hN := (sc_Half_has).nd
  exact (dss_cons (ds_set (i := 2) hN rfl (de_callD A.ok_cross_of hr (by decide) hgd rfl (takes_of rfl rfl rfl rfl) (da_cons (de_fldD A.fl_Half_own_way (dv 0)) (da_cons (dv 1) da_nil))))
 (dss_cons (ds_if (dt_cmp (op_neU (have z := room64 hr; z)) s2_neU (dv 2) de_int (nomark _)) (dss_one (ds_ret (de_cmp op_gt s2_IB (dv 2) de_int (nomark _)))) dss_nil)
 (dss_cons (ds_set (i := 3) hN rfl (de_cmp op_gt s2_IB (de_plus (de_times (de_item (dv 1) de_int) (de_item (de_fldD A.fl_Half_own_way (dv 0)) de_int)) (de_times (de_item (dv 1) de_int) (de_item (de_fldD A.fl_Half_own_way (dv 0)) de_int))) de_int (nomark _)))
 (dss_one (ds_ret (de_cmp (op_eqU (have z := room64 hr; z)) s2_eqU (dv 3) (de_fldD A.fl_Half_own_ahead (dv 0)) (nomark _)))))))
theorem Hd.ok_Half_has (A : Hd K mg) : MethD P w K mg base 2 "Half" "has" ["self", "pair"] sp_Half_has := by
  obtain ⟨fd, F⟩ := A.c.def_ 41
  exact ⟨_, _, fd, A.g_Half, He.cls_ok (A.c.fact 68), He.meth_ok (A.c.fact 90), F.bindsN fun _ _ _ _ _ _ us hl => match us, hl with | [_, _], _ => rfl, def_ok F sc_Half_has (fun ds μ Q Xd h => h.1) (fun cdv A2 fr s H E hr hgd => d_Half_has A hr hgd) fun ds μ Q Xd h => h.2⟩
/-! less -/
abbrev N_less : List Str := ["one", "other"]
theorem sc_less : FnScope N_less ["one", "other"] (defScope (top 21)) := ⟨rfl, rfl, rfl, by decide +kernel, rfl, by decide +kernel, by decide +kernel⟩
def w_less : WS := (sRet (wTup (wCons (w2 fSub (w2 fIx (wVar 0) (wC (.int (0)))) (w2 fIx (wVar 1) (wC (.int (0))))) (wCons (w2 fSub (w2 fIx (wVar 0) (wC (.int (1)))) (w2 fIx (wVar 1) (wC (.int (1))))) wNil))))
def sp_less : DSp := fun ds μ Q Xd => ds.length = 2 ∧ w_less (defE Q Xd) (startD N_less ds) μ
theorem d_less (A : Hd K mg) {cdv : Value} {A2 : Around} {fr : List Env} {s : Shared} {H : Hp} {E : XK} {f : Addr} (hr : Room 0 (A2.deeper (envOfC "less" (defScope (top 21)) s.heap.objs.size f cdv))) (hgd : (A2.deeper (envOfC "less" (defScope (top 21)) s.heap.objs.size f cdv)).guards = some []) :
    DSs none (fun cls d _ H2 => E cls d H2) (cxOf (L2.CX P w) P w K mg base N_less "less" (defScope (top 21)) f cdv A2 fr s H E) (defBody (top 21)) w_less := by
  have hN := (sc_less).nd
  exact (dss_one (ds_ret (de_tup (da_cons (de_sub (de_item (dv 0) de_int) (de_item (dv 1) de_int)) (da_cons (de_sub (de_item (dv 0) de_int) (de_item (dv 1) de_int)) da_nil)))))
theorem Hd.ok_less (A : Hd K mg) : CallD P w K mg base 1 "less" ["one", "other"] sp_less := by
  obtain ⟨fd, F⟩ := A.c.def_ 42
  exact ⟨_, fd, A.g_less, F.kp, F.bindsN fun _ _ _ _ _ _ us hl => match us, hl with | [_, _], _ => rfl, def_ok F sc_less (fun ds μ Q Xd h => h.1) (fun cdv A2 fr s H E hr hgd => d_less A hr hgd) fun ds μ Q Xd h => h.2⟩
/-! side_of -/
abbrev N_side_of : List Str := ["a", "b", "point"]
theorem sc_side_of : FnScope N_side_of ["a", "b", "point"] (defScope (top 23)) := ⟨rfl, rfl, rfl, by decide +kernel, rfl, by decide +kernel, by decide +kernel⟩
def w_side_of : WS := (sRet (wCall sp_cross_of (wCons (wCall sp_less (wCons (wVar 1) (wCons (wVar 0) wNil))) (wCons (wCall sp_less (wCons (wVar 2) (wCons (wVar 0) wNil))) wNil))))
def sp_side_of : DSp := fun ds μ Q Xd => ds.length = 3 ∧ w_side_of (defE Q Xd) (startD N_side_of ds) μ
theorem d_side_of (A : Hd K mg) {cdv : Value} {A2 : Around} {fr : List Env} {s : Shared} {H : Hp} {E : XK} {f : Addr} (hr : Room 1 (A2.deeper (envOfC "side_of" (defScope (top 23)) s.heap.objs.size f cdv))) (hgd : (A2.deeper (envOfC "side_of" (defScope (top 23)) s.heap.objs.size f cdv)).guards = some []) :
    DSs none (fun cls d _ H2 => E cls d H2) (cxOf (L2.CX P w) P w K mg base N_side_of "side_of" (defScope (top 23)) f cdv A2 fr s H E) (defBody (top 23)) w_side_of := by
  have hN := (sc_side_of).nd
  exact (dss_one (ds_ret (de_callD A.ok_cross_of hr (by decide) hgd rfl (takes_of rfl rfl rfl rfl) (da_cons (de_callD A.ok_less hr (by decide) hgd rfl (takes_of rfl rfl rfl rfl) (da_cons (dv 1) (da_cons (dv 0) da_nil))) (da_cons (de_callD A.ok_less hr (by decide) hgd rfl (takes_of rfl rfl rfl rfl) (da_cons (dv 2) (da_cons (dv 0) da_nil))) da_nil)))))
theorem Hd.ok_side_of (A : Hd K mg) : CallD P w K mg base 2 "side_of" ["a", "b", "point"] sp_side_of := by
  obtain ⟨fd, F⟩ := A.c.def_ 43
  exact ⟨_, fd, A.g_side_of, F.kp, F.bindsN fun _ _ _ _ _ _ us hl => match us, hl with | [_, _, _], _ => rfl, def_ok F sc_side_of (fun ds μ Q Xd h => h.1) (fun cdv A2 fr s H E hr hgd => d_side_of A hr hgd) fun ds μ Q Xd h => h.2⟩
/-! ways_of -/
abbrev N_ways_of : List Str := ["pairs", "at"]
theorem sc_ways_of : FnScope N_ways_of ["pairs"] (defScope (top 25)) := ⟨rfl, rfl, rfl, by decide +kernel, rfl, by decide +kernel, by decide +kernel⟩
def w_ways_of : WS := (sRet (wLc (wiR1 (wCons (wN fLen (wCons (wVar 0) wNil)) wNil)) (kNameC 1) wYes (wTup (wCons (w2 fIx (wVar 0) (wVar 1)) (wCons (w2 fIx (wVar 0) (w2 fMod (w2 fPlus (wVar 1) (wC (.int (1)))) (wN fLen (wCons (wVar 0) wNil)))) wNil))) [1]))
def sp_ways_of : DSp := fun ds μ Q Xd => ds.length = 1 ∧ w_ways_of (defE Q Xd) (startD N_ways_of ds) μ
theorem d_ways_of (A : Hd K mg) {cdv : Value} {A2 : Around} {fr : List Env} {s : Shared} {H : Hp} {E : XK} {f : Addr} (hr : Room 0 (A2.deeper (envOfC "ways_of" (defScope (top 25)) s.heap.objs.size f cdv))) (hgd : (A2.deeper (envOfC "ways_of" (defScope (top 25)) s.heap.objs.size f cdv)).guards = some []) :
    DSs none (fun cls d _ H2 => E cls d H2) (cxOf (L2.CX P w) P w K mg base N_ways_of "ways_of" (defScope (top 25)) f cdv A2 fr s H E) (defBody (top 25)) w_ways_of := by
  have hN := (sc_ways_of).nd
  exact (dss_one (ds_ret (de_lc rfl hN (di_range1 (by rfl) A.f_range (da_cons (de_callB call_len_seq sn_len (by rfl) A.f_len bt_len (da_cons (dv 0) da_nil)) da_nil)) (blkOk_by (own := [("at", 1)]) (by show blkC N_ways_of (defScope (top 25)) _ _ = true; decide +kernel)) (lcg_name (by decide)) (fun _ _ _ _ _ => (pg_name hN rfl (by first | exact Or.inl rfl | exact Or.inr rfl) (by first | exact .inl rfl | exact .inr rfl))) (fun _ _ _ _ _ => dts_nil) (fun _ _ _ _ _ => (de_tup (da_cons (de_item (dv 0) (dv 1)) (da_cons (de_item (dv 0) (de_mod (de_plus (dv 1) de_int) (de_callB call_len_seq sn_len rfl A.f_len bt_len (da_cons (dv 0) da_nil)))) da_nil)))))))
theorem Hd.ok_ways_of (A : Hd K mg) : CallD P w K mg base 1 "ways_of" ["pairs"] sp_ways_of := by
  obtain ⟨fd, F⟩ := A.c.def_ 44
  exact ⟨_, fd, A.g_ways_of, F.kp, F.bindsN fun _ _ _ _ _ _ us hl => match us, hl with | [_], _ => rfl, def_ok F sc_ways_of (fun ds μ Q Xd h => h.1) (fun cdv A2 fr s H E hr hgd => d_ways_of A hr hgd) fun ds μ Q Xd h => h.2⟩
/-! is_owned -/
abbrev N_is_owned : List Str := ["rule", "pairs", "pair", "a", "b", "turn"]
theorem sc_is_owned : FnScope N_is_owned ["rule", "pairs", "pair"] (defScope (top 26)) := ⟨rfl, rfl, rfl, by decide +kernel, rfl, by decide +kernel, by decide +kernel⟩
def w_is_owned : WS := (sSeq (sFor (wiL (wCall sp_ways_of (wCons (wVar 1) wNil))) (kTup 2 (kCons (kName 3) (kCons (kName 4) kNil)))
  (sSeq (sSet 5 (wCall sp_side_of (wCons (wVar 3) (wCons (wVar 4) (wCons (wVar 2) wNil)))))
 (sIf (wOr (wB (w2 fLt (wVar 5) (wC (.int (0))))) (wAnd (wB (w2 fEqU (wVar 5) (wC (.int (0))))) (wNot (wB (wMeth "Half" "has" sp_Half_has (wVar 0) (wCons (wCall sp_less (wCons (wVar 4) (wCons (wVar 3) wNil))) wNil))))))
  (sRet (wC (.bl false)))
  sNext)))
 (sRet (wC (.bl true))))
def sp_is_owned : DSp := fun ds μ Q Xd => ds.length = 3 ∧ w_is_owned (defE Q Xd) (startD N_is_owned ds) μ
theorem d_is_owned (A : Hd K mg) {cdv : Value} {A2 : Around} {fr : List Env} {s : Shared} {H : Hp} {E : XK} {f : Addr} (hr : Room 2 (A2.deeper (envOfC "is_owned" (defScope (top 26)) s.heap.objs.size f cdv))) (hgd : (A2.deeper (envOfC "is_owned" (defScope (top 26)) s.heap.objs.size f cdv)).guards = some []) :
    DSs none (fun cls d _ H2 => E cls d H2) (cxOf (L2.CX P w) P w K mg base N_is_owned "is_owned" (defScope (top 26)) f cdv A2 fr s H E) (defBody (top 26)) w_is_owned := by
  have hN := (sc_is_owned).nd
  exact (dss_cons (ds_for (passes_of rfl) rfl (di_list (de_callD A.ok_ways_of hr (by decide) hgd (by rfl) (takes_of (by rfl) (by rfl) (by rfl) (by rfl)) (da_cons (dv 1) da_nil))) (dg_tup rfl (dgs_cons (dg_name hN rfl) (dgs_cons (dg_name hN rfl) dgs_nil))) (dss_cons (ds_set (i := 5) hN rfl (de_callD A.ok_side_of hr (by decide) hgd rfl (takes_of rfl rfl rfl rfl) (da_cons (dv 3) (da_cons (dv 4) (da_cons (dv 2) da_nil)))))
 (dss_one (ds_if (dt_w (dw_or (dt_cmp op_lt s2_IB (dv 5) de_int (nomark _)) (dw_or1 (dt_w (dw_and (dt_cmp (op_eqU (have z := room64 hr; z)) s2_eqU (dv 5) de_int (nomark _)) (dw_and1 (dt_not (dt_val (de_methD A.ok_Half_has hr (by decide) hgd (takes_of rfl rfl rfl rfl) (dv 0) (da_cons (de_callD A.ok_less hr (by decide) hgd rfl (takes_of rfl rfl rfl rfl) (da_cons (dv 4) (da_cons (dv 3) da_nil))) da_nil)))))))))) (dss_one (ds_ret de_bl)) dss_nil))))
 (dss_one (ds_ret de_bl)))
theorem Hd.ok_is_owned (A : Hd K mg) : CallD P w K mg base 3 "is_owned" ["rule", "pairs", "pair"] sp_is_owned := by
  obtain ⟨fd, F⟩ := A.c.def_ 45
  exact ⟨_, fd, A.g_is_owned, F.kp, F.bindsN fun _ _ _ _ _ _ us hl => match us, hl with | [_, _, _], _ => rfl, def_ok F sc_is_owned (fun ds μ Q Xd h => h.1) (fun cdv A2 fr s H E hr hgd => d_is_owned A hr hgd) fun ds μ Q Xd h => h.2⟩
/-! owner_counts -/
abbrev N_owner_counts : List Str := ["half", "net", "pair", "ahead", "back", "triple", "a", "b", "c", "turn"]
theorem sc_owner_counts : FnScope N_owner_counts ["half", "net", "pair"] (defScope (top 43)) := ⟨rfl, rfl, rfl, by decide +kernel, rfl, by decide +kernel, by decide +kernel⟩
def w_owner_counts : WS := (sSeq (sSet 3 (wC (.int (0))))
 (sSeq (sSet 4 (wC (.int (0))))
 (sSeq (sFor (wiL (w1 (fFld "Net" "own_triples") (wVar 1))) (kName 5)
  (sSeq (sAsg (wMeth "Net" "corners_of" sp_Net_corners_of (wVar 1) (wCons (wVar 5) wNil)) (kUnl 3 (kCons (kName 6) (kCons (kName 7) (kCons (kName 8) kNil)))))
 (sSeq (sSet 9 (wCall sp_side_of (wCons (wVar 6) (wCons (wVar 7) (wCons (wVar 8) wNil)))))
 (sSeq (sIf (wAnd (wB (w2 fGt (wVar 9) (wC (.int (0))))) (wB (wCall sp_is_owned (wCons (wVar 0) (wCons (wLst (wCons (wVar 6) (wCons (wVar 7) (wCons (wVar 8) wNil)))) (wCons (wVar 2) wNil))))))
  (sAug 3 fAdd (wC (.int (1))))
  sNext)
 (sIf (wAnd (wB (w2 fLt (wVar 9) (wC (.int (0))))) (wB (wCall sp_is_owned (wCons (wVar 0) (wCons (wLst (wCons (wVar 6) (wCons (wVar 8) (wCons (wVar 7) wNil)))) (wCons (wVar 2) wNil))))))
  (sAug 4 fAdd (wC (.int (1))))
  sNext)))))
 (sRet (wTup (wCons (wVar 3) (wCons (wVar 4) wNil)))))))
def sp_owner_counts : DSp := fun ds μ Q Xd => ds.length = 3 ∧ w_owner_counts (defE Q Xd) (startD N_owner_counts ds) μ
theorem d_owner_counts (A : Hd K mg) {cdv : Value} {A2 : Around} {fr : List Env} {s : Shared} {H : Hp} {E : XK} {f : Addr} (hr : Room 3 (A2.deeper (envOfC "owner_counts" (defScope (top 43)) s.heap.objs.size f cdv))) (hgd : (A2.deeper (envOfC "owner_counts" (defScope (top 43)) s.heap.objs.size f cdv)).guards = some []) :
    DSs none (fun cls d _ H2 => E cls d H2) (cxOf (L2.CX P w) P w K mg base N_owner_counts "owner_counts" (defScope (top 43)) f cdv A2 fr s H E) (defBody (top 43)) w_owner_counts := by
  have hN := (sc_owner_counts).nd
  exact (dss_cons (ds_set (i := 3) hN rfl de_int)
 (dss_cons (ds_set (i := 4) hN rfl de_int)
 (dss_cons (ds_for (passes_of rfl) rfl (di_list (de_fldD A.fl_Net_own_triples (dv 1))) (dg_name hN rfl) (dss_cons (ds_asg (de_methD A.ok_Net_corners_of hr (by decide) hgd (takes_of rfl rfl rfl rfl) (dv 1) (da_cons (dv 5) da_nil)) (dg_unl rfl (dgs_cons (dg_name hN rfl) (dgs_cons (dg_name hN rfl) (dgs_cons (dg_name hN rfl) dgs_nil)))))
 (dss_cons (ds_set (i := 9) hN rfl (de_callD A.ok_side_of hr (by decide) hgd rfl (takes_of rfl rfl rfl rfl) (da_cons (dv 6) (da_cons (dv 7) (da_cons (dv 8) da_nil)))))
 (dss_cons (ds_if (dt_w (dw_and (dt_cmp op_gt s2_IB (dv 9) de_int (nomark _)) (dw_and1 (dt_val (de_callD A.ok_is_owned hr (by decide) hgd rfl (takes_of rfl rfl rfl rfl) (da_cons (dv 0) (da_cons (de_lst (da_cons (dv 6) (da_cons (dv 7) (da_cons (dv 8) da_nil)))) (da_cons (dv 2) da_nil)))))))) (dss_one (ds_aug (i := 3) iop_add s2_II0 hN rfl de_int)) dss_nil)
 (dss_one (ds_if (dt_w (dw_and (dt_cmp op_lt s2_IB (dv 9) de_int (nomark _)) (dw_and1 (dt_val (de_callD A.ok_is_owned hr (by decide) hgd rfl (takes_of rfl rfl rfl rfl) (da_cons (dv 0) (da_cons (de_lst (da_cons (dv 6) (da_cons (dv 8) (da_cons (dv 7) da_nil)))) (da_cons (dv 2) da_nil)))))))) (dss_one (ds_aug (i := 4) iop_add s2_II0 hN rfl de_int)) dss_nil))))))
 (dss_one (ds_ret (de_tup (da_cons (dv 3) (da_cons (dv 4) da_nil))))))))
theorem Hd.ok_owner_counts (A : Hd K mg) : CallD P w K mg base 4 "owner_counts" ["half", "net", "pair"] sp_owner_counts := by
  obtain ⟨fd, F⟩ := A.c.def_ 46
  exact ⟨_, fd, A.g_owner_counts, F.kp, F.bindsN fun _ _ _ _ _ _ us hl => match us, hl with | [_, _, _], _ => rfl, def_ok F sc_owner_counts (fun ds μ Q Xd h => h.1) (fun cdv A2 fr s H E hr hgd => d_owner_counts A hr hgd) fun ds μ Q Xd h => h.2⟩
/-! first_from -/
abbrev N_first_from : List Str := ["number", "rest", "step"]
theorem sc_first_from : FnScope N_first_from ["number", "rest", "step"] (defScope (top 30)) := ⟨rfl, rfl, rfl, by decide +kernel, rfl, by decide +kernel, by decide +kernel⟩
def w_first_from : WS := (sRet (w2 fPlus (wVar 0) (w2 fMod (w2 fSub (wVar 1) (wVar 0)) (wVar 2))))
def sp_first_from : DSp := fun ds μ Q Xd => ds.length = 3 ∧ w_first_from (defE Q Xd) (startD N_first_from ds) μ
theorem d_first_from (A : Hd K mg) {cdv : Value} {A2 : Around} {fr : List Env} {s : Shared} {H : Hp} {E : XK} {f : Addr} (hr : Room 0 (A2.deeper (envOfC "first_from" (defScope (top 30)) s.heap.objs.size f cdv))) (hgd : (A2.deeper (envOfC "first_from" (defScope (top 30)) s.heap.objs.size f cdv)).guards = some []) :
    DSs none (fun cls d _ H2 => E cls d H2) (cxOf (L2.CX P w) P w K mg base N_first_from "first_from" (defScope (top 30)) f cdv A2 fr s H E) (defBody (top 30)) w_first_from := by
  have hN := (sc_first_from).nd
  exact (dss_one (ds_ret (de_plus (dv 0) (de_mod (de_sub (dv 1) (dv 0)) (dv 2)))))
theorem Hd.ok_first_from (A : Hd K mg) : CallD P w K mg base 1 "first_from" ["number", "rest", "step"] sp_first_from := by
  obtain ⟨fd, F⟩ := A.c.def_ 47
  exact ⟨_, fd, A.g_first_from, F.kp, F.bindsN fun _ _ _ _ _ _ us hl => match us, hl with | [_, _, _], _ => rfl, def_ok F sc_first_from (fun ds μ Q Xd h => h.1) (fun cdv A2 fr s H E hr hgd => d_first_from A hr hgd) fun ds μ Q Xd h => h.2⟩
/-! pairs_between -/
abbrev N_pairs_between : List Str := ["grid", "low", "high", "y", "x"]
theorem sc_pairs_between : GScope N_pairs_between ["grid", "low", "high"] (defScope (top 31)) := ⟨rfl, rfl, rfl, by decide +kernel, rfl, by decide +kernel, by decide +kernel⟩
def wg_pairs_between : DL.TGen := (tgSeq (tgPlain (sSet 3 (wCall sp_first_from (wCons (w2 fIx (wVar 1) (wC (.int (1)))) (wCons (w2 fIx (w1 (fFld "Grid" "rest") (wVar 0)) (wC (.int (1)))) (wCons (w1 (fFld "Grid" "step") (wVar 0)) wNil))))))
 (tgSeq (tgWhile (wB (w2 fLe (wVar 3) (w2 fIx (wVar 2) (wC (.int (1))))))
  (tgSeq (tgPlain (sSet 4 (wCall sp_first_from (wCons (w2 fIx (wVar 1) (wC (.int (0)))) (wCons (w2 fIx (w1 (fFld "Grid" "rest") (wVar 0)) (wC (.int (0)))) (wCons (w1 (fFld "Grid" "step") (wVar 0)) wNil))))))
 (tgSeq (tgWhile (wB (w2 fLe (wVar 4) (w2 fIx (wVar 2) (wC (.int (0))))))
  (tgSeq (tgYield (wTup (wCons (wVar 4) (wCons (wVar 3) wNil))))
 (tgSeq (tgPlain (sAug 4 fAdd (w1 (fFld "Grid" "step") (wVar 0))))
 tgNext)))
 (tgSeq (tgPlain (sAug 3 fAdd (w1 (fFld "Grid" "step") (wVar 0))))
 tgNext))))
 tgNext))
def sp_pairs_between : GSp := fun ds ys => ds.length = 3 ∧ wg_pairs_between ⟨fun d _ => d = []⟩ ys (startD N_pairs_between ds)
theorem d_pairs_between (A : Hd K mg) {cdv : Value} {A2 : Around} {fr : List Env} {s : Shared} {f : Addr} (hr : Room 1 (A2.deeper (envOfC "pairs_between" (defScope (top 31)) s.heap.objs.size f cdv))) (hgd : (A2.deeper (envOfC "pairs_between" (defScope (top 31)) s.heap.objs.size f cdv)).guards = some []) (ok : GE.Ok ⟨P, w, K, mg, base, A2, N_pairs_between, (envOfC "pairs_between" (defScope (top 31)) s.heap.objs.size f cdv), fr⟩) : GSts ⟨P, w, K, mg, base, A2, N_pairs_between, (envOfC "pairs_between" (defScope (top 31)) s.heap.objs.size f cdv), fr⟩ (defBody (top 31)) wg_pairs_between := by
  have hN := (sc_pairs_between).nd
  exact (gst_cons (by exact (gst_plain (by intro s0 H0 pn; exact (ds_set (i := 3) hN rfl (de_callD A.ok_first_from hr (by decide) hgd rfl takes0 (da_cons (de_item (dv 1) de_int) (da_cons (de_item (de_fldD A.fl_Grid_rest (dv 0)) de_int) (da_cons (de_fldD A.fl_Grid_step (dv 0)) da_nil))))))))
 (by exact (gst_cons (by exact (gst_while (by intro s0 H0 pn; exact (dt_cmp op_le s2_IB (dv 3) (de_item (dv 2) de_int) (nomark _))) (by exact (gst_cons (by exact (gst_plain (by intro s0 H0 pn; exact (ds_set (i := 4) hN rfl (de_callD A.ok_first_from hr (by decide) hgd rfl takes0 (da_cons (de_item (dv 1) de_int) (da_cons (de_item (de_fldD A.fl_Grid_rest (dv 0)) de_int) (da_cons (de_fldD A.fl_Grid_step (dv 0)) da_nil))))))))
 (by exact (gst_cons (by exact (gst_while (by intro s0 H0 pn; exact (dt_cmp op_le s2_IB (dv 4) (de_item (dv 2) de_int) (nomark _))) (by exact (gst_cons (by exact (gst_yield ok (by intro s0 H0 pn; exact (de_tup (da_cons (dv 4) (da_cons (dv 3) da_nil)))) rfl rfl))
 (by exact (gst_cons (by exact (gst_plain (by intro s0 H0 pn; exact (ds_aug (i := 4) iop_add s2_II0 hN rfl (de_fldD A.fl_Grid_step (dv 0))))))
 (by exact gst_nil)))))))
 (by exact (gst_cons (by exact (gst_plain (by intro s0 H0 pn; exact (ds_aug (i := 3) iop_add s2_II0 hN rfl (de_fldD A.fl_Grid_step (dv 0))))))
 (by exact gst_nil)))))))))
 (by exact gst_nil))))
theorem Hd.ok_pairs_between (A : Hd K mg) : GenC P w K mg base 2 "pairs_between" ["grid", "low", "high"] sp_pairs_between := by
  obtain ⟨fd, F⟩ := A.c.def_ 48
  exact ⟨_, fd, A.g_pairs_between, F.kp, F.bindsN fun _ _ _ _ _ _ us hl => match us, hl with | [_, _, _], _ => rfl, gen_ok F sc_pairs_between (by decide +kernel) (fun ds ys h => h.1) (fun cdv A2 fr s hr hgd ok => d_pairs_between A hr hgd ok) fun ds ys h => h.2⟩
/-! unlike -/
abbrev N_unlike : List Str := ["half", "one", "other", "grid", "corners", "found", "low", "high", "pair"]
theorem sc_unlike : FnScope N_unlike ["half", "one", "other", "grid"] (defScope (top 46)) := ⟨rfl, rfl, rfl, by decide +kernel, rfl, by decide +kernel, by decide +kernel⟩
def w_unlike : WS := (sSeq (sSet 4 (w2 fPlus (w1 (fFld "Net" "pairs") (wVar 1)) (w1 (fFld "Net" "pairs") (wVar 2))))
 (sSeq (sSetO 5 wNil)
 (sSeq (sIf (wB (w2 fGt (wN fLen (wCons (wVar 4) wNil)) (wC (.int (0)))))
  (sSeq (sAsg (wCall sp_box_of (wCons (wVar 4) wNil)) (kTup 2 (kCons (kName 6) (kCons (kName 7) kNil))))
 (sFor (wGen sp_pairs_between (wCons (wVar 3) (wCons (wVar 6) (wCons (wVar 7) wNil)))) (kName 8)
  (sIf (wB (w2 fNeU (wCall sp_owner_counts (wCons (wVar 0) (wCons (wVar 1) (wCons (wVar 8) wNil)))) (wCall sp_owner_counts (wCons (wVar 0) (wCons (wVar 2) (wCons (wVar 8) wNil))))))
  (sAppO 5 (wCons (wVar 8) wNil))
  sNext)))
  sNext)
 (sFrz 5 (sRet (wMake "Samples" sp_Samples_init (wCons (wVar 5) wNil)))))))
def sp_unlike : DSp := fun ds μ Q Xd => ds.length = 4 ∧ w_unlike (defE Q Xd) (startD N_unlike ds) μ
theorem d_unlike (A : Hd K mg) {cdv : Value} {A2 : Around} {fr : List Env} {s : Shared} {H : Hp} {E : XK} {f : Addr} (hr : Room 4 (A2.deeper (envOfC "unlike" (defScope (top 46)) s.heap.objs.size f cdv))) (hgd : (A2.deeper (envOfC "unlike" (defScope (top 46)) s.heap.objs.size f cdv)).guards = some []) :
    DSs none (fun cls d _ H2 => E cls d H2) (cxOf (L2.CX P w) P w K mg base N_unlike "unlike" (defScope (top 46)) f cdv A2 fr s H E) (defBody (top 46)) w_unlike := by
  have hN := (sc_unlike).nd
  exact (dss_cons (ds_set (i := 4) hN rfl (de_plus (de_fldD A.fl_Net_pairs (dv 1)) (de_fldD A.fl_Net_pairs (dv 2))))
 (dss_cons (ds_setO (i := 5) hN rfl da_nil)
 (dss_cons (ds_if (dt_cmp op_gt s2_IB (de_callB call_len_seq sn_len rfl A.f_len bt_len (da_cons (dv 4) da_nil)) de_int (nomark _)) (dss_cons (ds_asg (de_callD A.ok_box_of hr (by decide) hgd rfl (takes_of rfl rfl rfl rfl) (da_cons (dv 4) da_nil)) (dg_tup rfl (dgs_cons (dg_name hN rfl) (dgs_cons (dg_name hN rfl) dgs_nil))))
 (dss_one (ds_forGD hr (by decide) hgd (passes_of rfl) xeG_def (dgn_callD A.ok_pairs_between hr (by decide) hgd (by rfl) (da_cons (dv 3) (da_cons (dv 6) (da_cons (dv 7) da_nil)))) (dg_name hN rfl) (dss_one (ds_if (dt_cmp (op_neU (have z := room64 hr; z)) s2_neU (de_callD A.ok_owner_counts hr (by decide) hgd rfl (takes_of rfl rfl rfl rfl) (da_cons (dv 0) (da_cons (dv 1) (da_cons (dv 8) da_nil)))) (de_callD A.ok_owner_counts hr (by decide) hgd rfl (takes_of rfl rfl rfl rfl) (da_cons (dv 0) (da_cons (dv 2) (da_cons (dv 8) da_nil)))) (nomark _)) (dss_one (ds_appO (i := 5) rfl (da_cons (dv 8) da_nil))) dss_nil))))) dss_nil)
 (dss_one (ds_frz 5 (ds_ret (de_makeD A.ok_Samples_init hr (by decide) hgd rfl (takes_of rfl rfl rfl rfl) (da_cons (dv 5) da_nil))))))))
theorem Hd.ok_unlike (A : Hd K mg) : CallD P w K mg base 5 "unlike" ["half", "one", "other", "grid"] sp_unlike := by
  obtain ⟨fd, F⟩ := A.c.def_ 49
  exact ⟨_, fd, A.g_unlike, F.kp, F.bindsN fun _ _ _ _ _ _ us hl => match us, hl with | [_, _, _, _], _ => rfl, def_ok F sc_unlike (fun ds μ Q Xd h => h.1) (fun cdv A2 fr s H E hr hgd => d_unlike A hr hgd) fun ds μ Q Xd h => h.2⟩
/-! law -/
abbrev N_law : List Str := ["script", "k", "pool", "pairs", "found", "told_rule", "half", "net", "many", "other", "due", "step", "differ", "y", "x", "counts", "point", "odd"]
theorem sc_law : FnScope N_law ["script"] (defScope (top 83)) := ⟨rfl, rfl, rfl, by decide +kernel, rfl, by decide +kernel, by decide +kernel⟩
def w_law : WS := (sSeq (sFor (wiR1 (wCons (wN fMax2 (wCons (wC (.int (1))) (wCons (wN fMin2 (wCons (wN fLen (wCons (wVar 0) wNil)) (wCons (wC (.int (6))) wNil))) wNil))) wNil)) (kName 1)
  (sSeq (sSet 2 (wCall sp__law_hand (wCons (wVar 0) (wCons (wVar 1) wNil))))
 (sSeq (sAsg (wCall sp__law_net (wCons (wVar 2) wNil)) (kTup 2 (kCons (kName 3) (kCons (kName 4) kNil))))
 (sSeq (sSet 5 (wCall sp__law_told_half (wCons (wVar 2) wNil)))
 (sSeq (sSet 6 (wMake "Half" sp_Half_init (wCons (w2 fIx (wVar 5) (wC (.int (1)))) (wCons (w2 fIx (wVar 5) (wC (.int (2)))) wNil))))
 (sSeq (sAsg (wTup (wCons (wMake "Net" sp_Net_init (wCons (wVar 3) (wCons (wVar 4) wNil))) (wCons (w2 fPlus (wC (.int (1))) (wCall sp__law_draw (wCons (wVar 2) (wCons (wC (.int (9))) wNil)))) wNil))) (kTup 2 (kCons (kName 7) (kCons (kName 8) kNil))))
 (sSeq (sSet 9 (wCall sp_snapped (wCons (wVar 7) (wCons (wVar 8) wNil))))
 (sSeq (sSet 10 (wLc (wiL (wVar 3)) (kTup 2 (kCons (kNameC 14) (kCons (kNameC 13) kNil))) wYes (wTup (wCons (wCall sp__law_nearest (wCons (wVar 14) (wCons (wVar 8) wNil))) (wCons (wCall sp__law_nearest (wCons (wVar 13) (wCons (wVar 8) wNil))) wNil))) [14, 13]))
 (sSeq (sIf (wOr (wB (w2 (fOwnN "Net" [] ["Net"] sp_Net_eq) (wVar 9) (wMake "Net" sp_Net_init (wCons (wVar 10) (wCons (wVar 4) wNil))))) (wB (w2 (fOwnN "Net" [] ["Net"] sp_Net_eq) (wVar 7) (wMake "Net" sp_Net_init (wCons (wVar 3) (wCons (wVar 4) wNil))))))
  (sRet (wC (.bl false)))
  sNext)
 (sSeq (sIf (wOr (wB (w2 (fOwnN "Net" [] ["Net"] sp_Net_eq) (wCall sp_snapped (wCons (wVar 7) (wCons (wC (.int (1))) wNil))) (wVar 7))) (wB (w2 (fOwnN "Net" [] ["Net"] sp_Net_eq) (wCall sp_snapped (wCons (wVar 9) (wCons (wVar 8) wNil))) (wVar 9))))
  (sRet (wC (.bl false)))
  sNext)
 (sSeq (sSet 11 (w2 fPlus (wC (.int (1))) (wCall sp__law_draw (wCons (wVar 2) (wCons (wC (.int (2))) wNil)))))
 (sSeq (sSetO 12 wNil)
 (sSeq (sFor (wiR2 (wCons (w1 fNeg (wC (.int (10)))) (wCons (wC (.int (11))) wNil))) (kName 13)
  (sFor (wiR2 (wCons (w1 fNeg (wC (.int (10)))) (wCons (wC (.int (11))) wNil))) (kName 14)
  (sSeq (sSet 15 (wTup (wCons (wCall sp__law_counted (wCons (wVar 5) (wCons (wVar 3) (wCons (wVar 4) (wCons (wTup (wCons (wVar 14) (wCons (wVar 13) wNil))) wNil))))) (wCons (wCall sp__law_counted (wCons (wVar 5) (wCons (wVar 10) (wCons (wVar 4) (wCons (wTup (wCons (wVar 14) (wCons (wVar 13) wNil))) wNil))))) wNil))))
 (sIf (wAnd (wB (w2 fNeU (w2 fIx (wVar 15) (wC (.int (0)))) (w2 fIx (wVar 15) (wC (.int (1)))))) (wAnd (wB (w2 fEqU (w2 fMod (wVar 14) (wVar 11)) (wC (.int (0))))) (wB (w2 fEqU (w2 fMod (wVar 13) (wVar 11)) (wC (.int (0)))))))
  (sAppO 12 (wCons (wTup (wCons (wVar 14) (wCons (wVar 13) wNil))) wNil))
  sNext))))
 (sSeq (sFrz 12 (sIf (wB (w2 fNeU (wLc (wiL (wMeth "Samples" "points" sp_Samples_points (wCall sp_unlike (wCons (wVar 6) (wCons (wVar 7) (wCons (wVar 9) (wCons (wMake "Grid" sp_Grid_init (wCons (wVar 11) (wCons (wTup (wCons (wC (.int (0))) (wCons (wC (.int (0))) wNil))) wNil))) wNil))))) wNil)) (kNameC 16) wYes (wMeth "Point" "pair" sp_Point_pair (wVar 16) wNil) [16]) (wVar 12)))
  (sRet (wC (.bl false)))
  sNext))
 (sIf (wB (w2 fNeU (wLc (wiL (wLst (wCons (wC (.int (0))) (wCons (w1 fNeg (wC (.int (1)))) (wCons (wC .non) (wCons (wC (.bl true)) wNil)))))) (kNameC 17) wYes (wCall sp__law_refused (wCons (wVar 7) (wCons (wVar 17) wNil))) [17]) (wLst (wCons (wC (.str "0")) (wCons (wC (.str "-1")) (wCons (wC (.str "None")) (wCons (wC (.str "True")) wNil)))))))
  (sRet (wC (.bl false)))
  sNext)))))))))))))))
 (sRet (wC (.bl true))))
def sp_law : DSp := fun ds μ Q Xd => ds.length = 1 ∧ w_law (defE Q Xd) (startD N_law ds) μ
theorem d_law (A : Hd K mg) {cdv : Value} {A2 : Around} {fr : List Env} {s : Shared} {H : Hp} {E : XK} {f : Addr} (hr : Room 8 (A2.deeper (envOfC "law" (defScope (top 83)) s.heap.objs.size f cdv))) (hgd : (A2.deeper (envOfC "law" (defScope (top 83)) s.heap.objs.size f cdv)).guards = some []) :
    DSs none (fun cls d _ H2 => E cls d H2) (cxOf (L2.CX P w) P w K mg base N_law "law" (defScope (top 83)) f cdv A2 fr s H E) (defBody (top 83)) w_law := by
  have hN := (sc_law).nd
  exact (dss_cons (ds_for (passes_of rfl) rfl (di_range1 (by rfl) A.f_range (da_cons (de_callB (call_max2 (by rfl)) sn_max2 (by rfl) A.f_max bt_max (da_cons de_int (da_cons (de_callB (call_min2 (by rfl)) sn_min2 (by rfl) A.f_min bt_min (da_cons (de_callB call_len_seq sn_len (by rfl) A.f_len bt_len (da_cons (dv 0) da_nil)) (da_cons de_int da_nil))) da_nil))) da_nil)) (dg_name hN rfl) (dss_cons (ds_set (i := 2) hN rfl (de_callD A.ok__law_hand hr (by decide) hgd rfl (takes_of rfl rfl rfl rfl) (da_cons (dv 0) (da_cons (dv 1) da_nil))))
 (dss_cons (ds_asg (de_callD A.ok__law_net hr (by decide) hgd rfl (takes_of rfl rfl rfl rfl) (da_cons (dv 2) da_nil)) (dg_tup rfl (dgs_cons (dg_name hN rfl) (dgs_cons (dg_name hN rfl) dgs_nil))))
 (dss_cons (ds_set (i := 5) hN rfl (de_callD A.ok__law_told_half hr (by decide) hgd rfl (takes_of rfl rfl rfl rfl) (da_cons (dv 2) da_nil)))
 (dss_cons (ds_set (i := 6) hN rfl (de_makeD A.ok_Half_init hr (by decide) hgd rfl (takes_of rfl rfl rfl rfl) (da_cons (de_item (dv 5) de_int) (da_cons (de_item (dv 5) de_int) da_nil))))
 (dss_cons (ds_asg (de_tup (da_cons (de_makeD A.ok_Net_init hr (by decide) hgd rfl (takes_of rfl rfl rfl rfl) (da_cons (dv 3) (da_cons (dv 4) da_nil))) (da_cons (de_plus de_int (de_callD A.ok__law_draw hr (by decide) hgd rfl (takes_of rfl rfl rfl rfl) (da_cons (dv 2) (da_cons de_int da_nil)))) da_nil))) (dg_tup rfl (dgs_cons (dg_name hN rfl) (dgs_cons (dg_name hN rfl) dgs_nil))))
 (dss_cons (ds_set (i := 9) hN rfl (de_callD A.ok_snapped hr (by decide) hgd rfl (takes_of rfl rfl rfl rfl) (da_cons (dv 7) (da_cons (dv 8) da_nil))))
 (dss_cons (ds_setLc (i := 10) rfl hN rfl rfl (di_list (dv 3)) (blkOk_by (own := [("x", 14), ("y", 13)]) (by show blkC N_law (defScope (top 83)) _ _ = true; decide +kernel)) (lcg_tup (lcgs_cons (lcg_name (by decide)) (lcgs_cons (lcg_name (by decide)) lcgs_nil))) (fun _ _ _ _ _ => (pg_tup rfl (pgs_cons (pg_name hN rfl (by first | exact Or.inl rfl | exact Or.inr rfl) (by first | exact .inl rfl | exact .inr rfl)) (pgs_cons (pg_name hN rfl (by first | exact Or.inl rfl | exact Or.inr rfl) (by first | exact .inl rfl | exact .inr rfl)) pgs_nil)))) (fun _ _ _ _ _ => dts_nil) (fun _ _ _ _ _ => (de_tup (da_cons (de_callD A.ok__law_nearest hr (by decide) hgd rfl takes0 (da_cons (dv 14) (da_cons (dv 8) da_nil))) (da_cons (de_callD A.ok__law_nearest hr (by decide) hgd rfl takes0 (da_cons (dv 13) (da_cons (dv 8) da_nil))) da_nil)))))
 (dss_cons (ds_if (dt_w (dw_or (dt_cmp (op_ownNe A.ok_Net_eq A.ne_Net hr (by decide) hgd) (s2_ownN (base := base) (P := P) (w := w) rfl A.ok_Net_eq) (dv 9) (de_makeD A.ok_Net_init hr (by decide) hgd rfl (takes_of rfl rfl rfl rfl) (da_cons (dv 10) (da_cons (dv 4) da_nil))) (nomark _)) (dw_or1 (dt_cmp (op_ownNe A.ok_Net_eq A.ne_Net hr (by decide) hgd) (s2_ownN (base := base) (P := P) (w := w) rfl A.ok_Net_eq) (dv 7) (de_makeD A.ok_Net_init hr (by decide) hgd rfl (takes_of rfl rfl rfl rfl) (da_cons (dv 3) (da_cons (dv 4) da_nil))) (nomark _))))) (dss_one (ds_ret de_bl)) dss_nil)
 (dss_cons (ds_if (dt_w (dw_or (dt_cmp (op_ownNe A.ok_Net_eq A.ne_Net hr (by decide) hgd) (s2_ownN (base := base) (P := P) (w := w) rfl A.ok_Net_eq) (de_callD A.ok_snapped hr (by decide) hgd rfl (takes_of rfl rfl rfl rfl) (da_cons (dv 7) (da_cons de_int da_nil))) (dv 7) (nomark _)) (dw_or1 (dt_cmp (op_ownNe A.ok_Net_eq A.ne_Net hr (by decide) hgd) (s2_ownN (base := base) (P := P) (w := w) rfl A.ok_Net_eq) (de_callD A.ok_snapped hr (by decide) hgd rfl (takes_of rfl rfl rfl rfl) (da_cons (dv 9) (da_cons (dv 8) da_nil))) (dv 9) (nomark _))))) (dss_one (ds_ret de_bl)) dss_nil)
 (dss_cons (ds_set (i := 11) hN rfl (de_plus de_int (de_callD A.ok__law_draw hr (by decide) hgd rfl (takes_of rfl rfl rfl rfl) (da_cons (dv 2) (da_cons de_int da_nil)))))
 (dss_cons (ds_setO (i := 12) hN rfl da_nil)
 (dss_cons (ds_for (passes_of rfl) rfl (di_range2 (by rfl) A.f_range (da_cons (de_neg de_int) (da_cons de_int da_nil))) (dg_name hN rfl) (dss_one (ds_for (passes_of rfl) rfl (di_range2 (by rfl) A.f_range (da_cons (de_neg de_int) (da_cons de_int da_nil))) (dg_name hN rfl) (dss_cons (ds_set (i := 15) hN rfl (de_tup (da_cons (de_callD A.ok__law_counted hr (by decide) hgd rfl (takes_of rfl rfl rfl rfl) (da_cons (dv 5) (da_cons (dv 3) (da_cons (dv 4) (da_cons (de_tup (da_cons (dv 14) (da_cons (dv 13) da_nil))) da_nil))))) (da_cons (de_callD A.ok__law_counted hr (by decide) hgd rfl (takes_of rfl rfl rfl rfl) (da_cons (dv 5) (da_cons (dv 10) (da_cons (dv 4) (da_cons (de_tup (da_cons (dv 14) (da_cons (dv 13) da_nil))) da_nil))))) da_nil))))
 (dss_one (ds_if (dt_w (dw_and (dt_cmp (op_neU (have z := room64 hr; z)) s2_neU (de_item (dv 15) de_int) (de_item (dv 15) de_int) (nomark _)) (dw_and (dt_cmp (op_eqU (have z := room64 hr; z)) s2_eqU (de_mod (dv 14) (dv 11)) de_int (nomark _)) (dw_and1 (dt_cmp (op_eqU (have z := room64 hr; z)) s2_eqU (de_mod (dv 13) (dv 11)) de_int (nomark _)))))) (dss_one (ds_appO (i := 12) rfl (da_cons (de_tup (da_cons (dv 14) (da_cons (dv 13) da_nil))) da_nil))) dss_nil))))))
 (dss_cons (ds_frz 12 (ds_if (dt_cmp (op_neU (have z := room64 hr; z)) s2_neU (de_lc rfl hN (di_list (de_methD0 A.ok_Samples_points hr (by decide) hgd (takes_of (by rfl) (by rfl) (by rfl) (by rfl)) (de_callD A.ok_unlike hr (by decide) hgd (by rfl) (takes_of (by rfl) (by rfl) (by rfl) (by rfl)) (da_cons (dv 6) (da_cons (dv 7) (da_cons (dv 9) (da_cons (de_makeD A.ok_Grid_init hr (by decide) hgd (by rfl) (takes_of (by rfl) (by rfl) (by rfl) (by rfl)) (da_cons (dv 11) (da_cons (de_tup (da_cons de_int (da_cons de_int da_nil))) da_nil))) da_nil))))))) (blkOk_by (own := [("point", 16)]) (by show blkC N_law (defScope (top 83)) _ _ = true; decide +kernel)) (lcg_name (by decide)) (fun _ _ _ _ _ => (pg_name hN rfl (by first | exact Or.inl rfl | exact Or.inr rfl) (by first | exact .inl rfl | exact .inr rfl))) (fun _ _ _ _ _ => dts_nil) (fun _ _ _ _ _ => (de_methD0 A.ok_Point_pair hr (by decide) hgd takes0 (dv 16)))) (dv 12) (nomark _)) (dss_one (ds_ret de_bl)) dss_nil))
 (dss_one (ds_if (dt_cmp (op_neU (have z := room64 hr; z)) s2_neU (de_lc rfl hN (di_list (de_lst (da_cons de_int (da_cons (de_neg de_int) (da_cons de_non (da_cons de_bl da_nil)))))) (blkOk_by (own := [("odd", 17)]) (by show blkC N_law (defScope (top 83)) _ _ = true; decide +kernel)) (lcg_name (by decide)) (fun _ _ _ _ _ => (pg_name hN rfl (by first | exact Or.inl rfl | exact Or.inr rfl) (by first | exact .inl rfl | exact .inr rfl))) (fun _ _ _ _ _ => dts_nil) (fun _ _ _ _ _ => (de_callD A.ok__law_refused hr (by decide) hgd rfl takes0 (da_cons (dv 7) (da_cons (dv 17) da_nil))))) (de_lst (da_cons de_str (da_cons de_str (da_cons de_str (da_cons de_str da_nil))))) (nomark _)) (dss_one (ds_ret de_bl)) dss_nil))))))))))))))))
 (dss_one (ds_ret de_bl)))
end
theorem isi_0 : isiF isiL (.b "int") (.b "int") = some true := by decide +kernel
theorem isi_1 : isiF isiL (.b "bool") (.b "int") = some true := by decide +kernel
theorem isi_2 : isiF isiL (.b "str") (.b "int") = some false := by decide +kernel
theorem isi_3 : isiF isiL (.b "NoneType") (.b "int") = some false := by decide +kernel
theorem isi_4 : isiF isiL (.b "tuple") (.b "int") = some false := by decide +kernel
theorem isi_5 : isiF isiL (.b "list") (.b "int") = some false := by decide +kernel
theorem isi_6 : isiF isiL (.c "Point") (.b "int") = some false := by decide +kernel
theorem isi_7 : isiF isiL (.c "Grid") (.b "int") = some false := by decide +kernel
theorem isi_8 : isiF isiL (.c "Samples") (.b "int") = some false := by decide +kernel
theorem isi_9 : isiF isiL (.c "Net") (.b "int") = some false := by decide +kernel
theorem isi_10 : isiF isiL (.c "Half") (.b "int") = some false := by decide +kernel
theorem isi_11 : isiF isiL (.b "int") (.b "bool") = some false := by decide +kernel
theorem isi_12 : isiF isiL (.b "bool") (.b "bool") = some true := by decide +kernel
theorem isi_13 : isiF isiL (.b "str") (.b "bool") = some false := by decide +kernel
theorem isi_14 : isiF isiL (.b "NoneType") (.b "bool") = some false := by decide +kernel
theorem isi_15 : isiF isiL (.b "tuple") (.b "bool") = some false := by decide +kernel
theorem isi_16 : isiF isiL (.b "list") (.b "bool") = some false := by decide +kernel
theorem isi_17 : isiF isiL (.c "Point") (.b "bool") = some false := by decide +kernel
theorem isi_18 : isiF isiL (.c "Grid") (.b "bool") = some false := by decide +kernel
theorem isi_19 : isiF isiL (.c "Samples") (.b "bool") = some false := by decide +kernel
theorem isi_20 : isiF isiL (.c "Net") (.b "bool") = some false := by decide +kernel
theorem isi_21 : isiF isiL (.c "Half") (.b "bool") = some false := by decide +kernel
theorem isi_22 : isiF isiL (.b "int") (.c "Point") = some false := by decide +kernel
theorem isi_23 : isiF isiL (.b "bool") (.c "Point") = some false := by decide +kernel
theorem isi_24 : isiF isiL (.b "str") (.c "Point") = some false := by decide +kernel
theorem isi_25 : isiF isiL (.b "NoneType") (.c "Point") = some false := by decide +kernel
theorem isi_26 : isiF isiL (.b "tuple") (.c "Point") = some false := by decide +kernel
theorem isi_27 : isiF isiL (.b "list") (.c "Point") = some false := by decide +kernel
theorem isi_28 : isiF isiL (.c "Point") (.c "Point") = some true := by decide +kernel
theorem isi_29 : isiF isiL (.c "Grid") (.c "Point") = some false := by decide +kernel
theorem isi_30 : isiF isiL (.c "Samples") (.c "Point") = some false := by decide +kernel
theorem isi_31 : isiF isiL (.c "Net") (.c "Point") = some false := by decide +kernel
theorem isi_32 : isiF isiL (.c "Half") (.c "Point") = some false := by decide +kernel
theorem isi_33 : isiF isiL (.b "int") (.b "tuple") = some false := by decide +kernel
theorem isi_34 : isiF isiL (.b "bool") (.b "tuple") = some false := by decide +kernel
theorem isi_35 : isiF isiL (.b "str") (.b "tuple") = some false := by decide +kernel
theorem isi_36 : isiF isiL (.b "NoneType") (.b "tuple") = some false := by decide +kernel
theorem isi_37 : isiF isiL (.b "tuple") (.b "tuple") = some true := by decide +kernel
theorem isi_38 : isiF isiL (.b "list") (.b "tuple") = some false := by decide +kernel
theorem isi_39 : isiF isiL (.c "Point") (.b "tuple") = some false := by decide +kernel
theorem isi_40 : isiF isiL (.c "Grid") (.b "tuple") = some false := by decide +kernel
theorem isi_41 : isiF isiL (.c "Samples") (.b "tuple") = some false := by decide +kernel
theorem isi_42 : isiF isiL (.c "Net") (.b "tuple") = some false := by decide +kernel
theorem isi_43 : isiF isiL (.c "Half") (.b "tuple") = some false := by decide +kernel
theorem isi_44 : isiF isiL (.b "int") (.c "Net") = some false := by decide +kernel
theorem isi_45 : isiF isiL (.b "bool") (.c "Net") = some false := by decide +kernel
theorem isi_46 : isiF isiL (.b "str") (.c "Net") = some false := by decide +kernel
theorem isi_47 : isiF isiL (.b "NoneType") (.c "Net") = some false := by decide +kernel
theorem isi_48 : isiF isiL (.b "tuple") (.c "Net") = some false := by decide +kernel
theorem isi_49 : isiF isiL (.b "list") (.c "Net") = some false := by decide +kernel
theorem isi_50 : isiF isiL (.c "Point") (.c "Net") = some false := by decide +kernel
theorem isi_51 : isiF isiL (.c "Grid") (.c "Net") = some false := by decide +kernel
theorem isi_52 : isiF isiL (.c "Samples") (.c "Net") = some false := by decide +kernel
theorem isi_53 : isiF isiL (.c "Net") (.c "Net") = some true := by decide +kernel
theorem isi_54 : isiF isiL (.c "Half") (.c "Net") = some false := by decide +kernel
theorem isi_55 : isiF isiL (.b "int") (.b "list") = some false := by decide +kernel
theorem isi_56 : isiF isiL (.b "bool") (.b "list") = some false := by decide +kernel
theorem isi_57 : isiF isiL (.b "str") (.b "list") = some false := by decide +kernel
theorem isi_58 : isiF isiL (.b "NoneType") (.b "list") = some false := by decide +kernel
theorem isi_59 : isiF isiL (.b "tuple") (.b "list") = some false := by decide +kernel
theorem isi_60 : isiF isiL (.b "list") (.b "list") = some true := by decide +kernel
theorem isi_61 : isiF isiL (.c "Point") (.b "list") = some false := by decide +kernel
theorem isi_62 : isiF isiL (.c "Grid") (.b "list") = some false := by decide +kernel
theorem isi_63 : isiF isiL (.c "Samples") (.b "list") = some false := by decide +kernel
theorem isi_64 : isiF isiL (.c "Net") (.b "list") = some false := by decide +kernel
theorem isi_65 : isiF isiL (.c "Half") (.b "list") = some false := by decide +kernel
theorem isi_66 : isiF isiL (.b "int") (.c "Pairs") = some false := by decide +kernel
theorem isi_67 : isiF isiL (.b "bool") (.c "Pairs") = some false := by decide +kernel
theorem isi_68 : isiF isiL (.b "str") (.c "Pairs") = some false := by decide +kernel
theorem isi_69 : isiF isiL (.b "NoneType") (.c "Pairs") = some false := by decide +kernel
theorem isi_70 : isiF isiL (.b "tuple") (.c "Pairs") = some false := by decide +kernel
theorem isi_71 : isiF isiL (.b "list") (.c "Pairs") = some false := by decide +kernel
theorem isi_72 : isiF isiL (.c "Point") (.c "Pairs") = some false := by decide +kernel
theorem isi_73 : isiF isiL (.c "Grid") (.c "Pairs") = some false := by decide +kernel
theorem isi_74 : isiF isiL (.c "Samples") (.c "Pairs") = some false := by decide +kernel
theorem isi_75 : isiF isiL (.c "Net") (.c "Pairs") = some false := by decide +kernel
theorem isi_76 : isiF isiL (.c "Half") (.c "Pairs") = some false := by decide +kernel
theorem isi_77 : catF catL_FillError (Str.ofString "InvalidGrid") = some true := by decide +kernel
theorem isi_78 : catF catL_FillError (Str.ofString "InvalidHalf") = some true := by decide +kernel
theorem isi_79 : catF catL_FillError (Str.ofString "InvalidNet") = some true := by decide +kernel
theorem isi_80 : catF catL_FillError (Str.ofString "InvalidNumber") = some true := by decide +kernel
theorem isi_81 : catF catL_FillError (Str.ofString "InvalidPoint") = some true := by decide +kernel
theorem isi_82 : catF catL_FillError (Str.ofString "InvalidSamples") = some true := by decide +kernel
theorem isi_83 : isxF isxL (.c (Str.ofString "InvalidGrid")) (.c (Str.ofString "InvalidNumber")) = some false := by decide +kernel
theorem isi_84 : isxF isxL (.c (Str.ofString "InvalidGrid")) (.c (Str.ofString "InvalidPoint")) = some false := by decide +kernel
theorem isi_85 : isxF isxL (.c (Str.ofString "InvalidHalf")) (.c (Str.ofString "InvalidNumber")) = some false := by decide +kernel
theorem isi_86 : isxF isxL (.c (Str.ofString "InvalidHalf")) (.c (Str.ofString "InvalidPoint")) = some false := by decide +kernel
theorem isi_87 : isxF isxL (.c (Str.ofString "InvalidNet")) (.c (Str.ofString "InvalidNumber")) = some false := by decide +kernel
theorem isi_88 : isxF isxL (.c (Str.ofString "InvalidNet")) (.c (Str.ofString "InvalidPoint")) = some false := by decide +kernel
theorem isi_89 : isxF isxL (.c (Str.ofString "InvalidNumber")) (.c (Str.ofString "InvalidNumber")) = some true := by decide +kernel
theorem isi_90 : isxF isxL (.c (Str.ofString "InvalidNumber")) (.c (Str.ofString "InvalidPoint")) = some false := by decide +kernel
theorem isi_91 : isxF isxL (.c (Str.ofString "InvalidPoint")) (.c (Str.ofString "InvalidNumber")) = some false := by decide +kernel
theorem isi_92 : isxF isxL (.c (Str.ofString "InvalidPoint")) (.c (Str.ofString "InvalidPoint")) = some true := by decide +kernel
theorem isi_93 : isxF isxL (.c (Str.ofString "InvalidSamples")) (.c (Str.ofString "InvalidNumber")) = some false := by decide +kernel
theorem isi_94 : isxF isxL (.c (Str.ofString "InvalidSamples")) (.c (Str.ofString "InvalidPoint")) = some false := by decide +kernel
end K46

set_option Elab.async false
set_option linter.all false
set_option maxRecDepth 100000
set_option maxHeartbeats 4000000
set_option autoImplicit false
set_option exponentiation.threshold 3000
namespace K46
open PySem PySem.Spec PyProof.Rows L2 DL
local macro_rules
  | `(tactic| walk_at "dk") => `(tactic| try simp only [z_slt, z_slt1, z_slt2, z_slt3, g_gen, g_genm, g_genm1, g_log, g_logC, r_newD, r_put0, r_kw, r_kw1, r_kw2, r_kw0, r_kw00, c_wi, c_en, c_en1, c_for, c_for1, c_lc, c_lc1, c_lof, c_lof1, c_ap, c_ap1, c_ap2, y_p2, y_p21, y_oo, y_fo, y_foq, y_of, y_of2, c_si, c_si1, c_si2, c_si3, c_lu1, c_lu2, c_lu3, z_fl, z_fl1, z_fl2, z_ps, z_ps1, z_ps2, z_ps3, z_eqT, z_cat, z_cat1, z_cat2, y_pop, y_pop1, y_pop2, y_lcC, y_lcR, y_callR, t_wis, t_wisa, t_dicL, t_kpt, t_kpt1, t_kpt2, t_slst, t_m1s, t_m1s1, t_m1s2, t_catS, t_sls, t_sls1, t_sls2, t_sls3, t_fs, t_js0, t_js1, t_js2, t_js3, t_fmtI, t_fmtS, t_strI, t_insl, t_insl1, t_insl2, t_insl3, t_ors, t_dic, t_put, t_put1, t_put2, t_put3, t_base, y_cell, y_rem, y_rem1, y_rem2, x_subO, x_subO1, x_subO2, v_slo, v_slo1, w_ff, w_ft, w_tf, w_tt, false_and, and_false, v_ix, v_ix1, v_ix2, v_inv, v_inv1, v_co, v_co1, v_co2, v_len, v_len1, isiD, tyD, clD, r_insobj, fldOf, DL.isNon, items_tup, items_lst, items_frl, hasCls, othTy, insD, DL.putK, DL.putD, initEnd, startI, startD, DL.wipeD, List.map_cons, List.map_nil, List.length_cons, List.length_nil, List.getElem?_cons_zero, List.getElem?_cons_succ, List.getElem?_nil, List.set_cons_zero, List.set_cons_succ, List.cons_append, List.nil_append, List.append_nil, List.replicate, Nat.sub_self, Nat.reduceSub, Nat.reduceAdd, Nat.reduceLeDiff, Nat.reduceEqDiff, Nat.reduceLT, Int.reduceLT, Int.reduceLE, if_true, if_false, Bool.not_true, Bool.not_false, reduceIte, reduceCtorEq, true_and, and_true, Nat.zero_add, Bool.true_eq_false, Bool.false_eq_true, eqU_int, eqU_str, eqU_bl, str_eq, str_beq, String.reduceEq, decide_true, decide_false, decide_eq_true_eq, pl_items, pl_st0, pl_st1, pl_fold, notOwn, List.mem_singleton, List.mem_cons, List.not_mem_nil, or_false, false_or, or_true, true_or, forall_eq, forall_eq_or_imp, implies_true, Int.reduceToNat, Int.reduceEq, Int.reduceNe, Int.reduceAdd, Int.reduceSub, Int.reduceMul, Int.reducePow, Int.reduceMod, Int.reduceDiv, atI_0, atI_1, atI_2, atI_3, rg1, rg2, startI, r_var, r_var2, r_c, r_w2, r_w2a, r_w2b, r_w1, r_w1a, r_wB, r_wBa, r_ch, r_ch1, r_ch2, r_ch3t, r_ch3f, r_and, r_andt, r_andf, r_or, r_ort, r_orf, r_not, r_nota, r_ife, r_ifet, r_ifef, r_andv, r_andvt, r_andvf, r_orv, r_orvt, r_orvf, r_notv, r_notva, r_nil, r_cons, r_cons1, r_cons2, r_tup, r_tupa, r_lst, r_lsta, r_lstc, r_lstca, r_wn, r_wna, r_call, r_calla, r_mk, r_mk1, r_mk2, r_mkc, r_mkc1, r_mkc2, r_me, r_me1, r_me2, r_bo, r_bo1, r_bo2, r_onone, r_osome, r_osomea, r_sl, r_sl1, r_sl2, r_sl3, r_sl3f, r_ii, r_ii0, r_ib, r_i1, r_plus, r_plusl, r_times, r_timesl, r_isn, r_notn, r_isb, r_notb, r_pm, r_pm1, DL.perm, z_neT, z_catT, r_eqd, r_ned, r_int1, r_int1b, r_max2, r_min2, r_abs, r_ix, r_ix2, r_ix3, r_len, r_len2, r_isi, r_isi2, r_fld, r_fld2, r_fld3, r_insobj, r_kx, r_next, r_never, r_seq, r_seqa, r_if, r_ift, r_iff, r_ret, r_retn, r_brk, r_cnt, r_drop, r_dropa, r_set, r_seta, r_asg, r_asga, r_name, r_namec, r_ktup, r_kunl, r_kcons, r_kcs, r_knil, r_par2, r_par2a, r_par3, r_par3a, r_aug, r_auga, r_augb, r_augc, r_for, r_fora, r_knx, r_fldo, r_fldoa, r_put, r_frz, r_frz2, r_frz3, r_frz4, r_cl, r_seto, r_setoa, r_wil, r_wila, r_wilf, r_wit, r_wita, r_wi1, r_wi1a, r_wi2, r_wi2a, r_wie, r_wiea, r_wiz, r_wiza, r_wizt, r_lc, r_lc0, r_lcn, r_lcc, r_lc1, r_lc2t, r_lc2f, r_lc3, r_yes, r_sub, r_sub1, r_sub2, r_sub3, r_dnx, r_drt, r_dxc, r_inx, r_init, r_ixc, t_raise, t_raise2, t_try, t_cat, t_catt, t_catf, t_sunx, t_surt, t_nx0, t_nx1, t_nx2, t_nx3, t_prop, t_prop2, t_xf, t_xf2, t_isx, t_isx2, t_wht, t_whf, t_equ, t_neu, t_el, List.reverse_cons, List.reverse_nil, isiDT, anyT, List.all_cons, List.all_nil, Option.isSome_some, Bool.and_true, Bool.true_and, u_lof, u_lof2, u_tof, u_tof2, u_isiT, u_dict, u_bl, u_ownN, u_has, u_hasN, u_bk, u_bk1, u_bk2, u_stat, u_ap, u_ap1, u_ap2, u_ex, u_ex1, u_ex2, u_ownL, u_olen, u_oix, u_oix1, u_oin, u_sumT, u_sumL, u_mu, u_mu1, u_hot, u_hot1, startX, u_mb, u_mb1, u_mb1f, u_mb2, u_rev, u_revf, u_wio, u_wex, u_wel, u_wef, u_wet, u_en, u_en0, u_enc, u_enn, Int.cast_ofNat_Int, u_wzx, u_wzl, u_wzt, u_wzm, u_zd, u_zd0, intsD, DL.intD, u_kd, isTy, Bool.true_xor, Bool.false_xor, eqU_pl, p_int, p_bl, p_non, p_tup, p_lst, p_frl, p0_int, p0_bl, p0_non, deq, deqs, Bool.and_true, Bool.and_false, Bool.false_and, List.contains_cons, List.contains_nil, Bool.or_false, Bool.false_or, Bool.or_self, eq_self, beq_self_eq_true, Bool.not_true, Bool.not_false, List.flatten_cons, List.flatten_nil, isi_0, isi_1, isi_2, isi_3, isi_4, isi_5, isi_6, isi_7, isi_8, isi_9, isi_10, isi_11, isi_12, isi_13, isi_14, isi_15, isi_16, isi_17, isi_18, isi_19, isi_20, isi_21, isi_22, isi_23, isi_24, isi_25, isi_26, isi_27, isi_28, isi_29, isi_30, isi_31, isi_32, isi_33, isi_34, isi_35, isi_36, isi_37, isi_38, isi_39, isi_40, isi_41, isi_42, isi_43, isi_44, isi_45, isi_46, isi_47, isi_48, isi_49, isi_50, isi_51, isi_52, isi_53, isi_54, isi_55, isi_56, isi_57, isi_58, isi_59, isi_60, isi_61, isi_62, isi_63, isi_64, isi_65, isi_66, isi_67, isi_68, isi_69, isi_70, isi_71, isi_72, isi_73, isi_74, isi_75, isi_76, isi_77, isi_78, isi_79, isi_80, isi_81, isi_82, isi_83, isi_84, isi_85, isi_86, isi_87, isi_88, isi_89, isi_90, isi_91, isi_92, isi_93, isi_94])
local macro_rules
  | `(tactic| walk_at "ds") => `(tactic| try simp only [z_slt, z_slt1, z_slt2, z_slt3, g_gen, g_genm, g_genm1, g_log, g_logC, r_newD, r_put0, r_kw, r_kw1, r_kw2, r_kw0, r_kw00, c_wi, c_en, c_en1, c_for, c_for1, c_lc, c_lc1, c_lof, c_lof1, c_ap, c_ap1, c_ap2, y_p2, y_p21, y_oo, y_fo, y_foq, y_of, y_of2, c_si, c_si1, c_si2, c_si3, c_lu1, c_lu2, c_lu3, z_fl, z_fl1, z_fl2, z_ps, z_ps1, z_ps2, z_ps3, z_eqT, z_cat, z_cat1, z_cat2, y_pop, y_pop1, y_pop2, y_lcC, y_lcR, y_callR, t_wis, t_wisa, t_dicL, t_kpt, t_kpt1, t_kpt2, t_slst, t_m1s, t_m1s1, t_m1s2, t_catS, t_sls, t_sls1, t_sls2, t_sls3, t_fs, t_js0, t_js1, t_js2, t_js3, t_fmtI, t_fmtS, t_strI, t_insl, t_insl1, t_insl2, t_insl3, t_ors, t_dic, t_put, t_put1, t_put2, t_put3, t_base, y_cell, y_rem, y_rem1, y_rem2, x_subO, x_subO1, x_subO2, v_slo, v_slo1, w_ff, w_ft, w_tf, w_tt, false_and, and_false, isClsU, v_ix, v_ix1, v_ix2, v_inv, v_inv1, v_co, v_co1, v_co2, v_len, v_len1, v_f2or, isiD, tyD, clD, r_insobj, fldOf, DL.isNon, items_tup, items_lst, items_frl, hasCls, isCls, othTy, insD, DL.putK, DL.putD, initEnd, startI, startD, DL.wipeD, List.map_cons, List.map_nil, List.length_cons, List.length_nil, List.getElem?_cons_zero, List.getElem?_cons_succ, List.getElem?_nil, List.set_cons_zero, List.set_cons_succ, List.cons_append, List.nil_append, List.append_nil, List.replicate, Nat.sub_self, Nat.reduceSub, Nat.reduceAdd, Nat.reduceLeDiff, Nat.reduceEqDiff, Nat.reduceLT, Int.reduceLT, Int.reduceLE, if_true, if_false, Bool.not_true, Bool.not_false, reduceIte, reduceCtorEq, true_and, and_true, Nat.zero_add, Bool.true_eq_false, Bool.false_eq_true, eqU_int, eqU_str, eqU_bl, str_eq, str_beq, String.reduceEq, decide_true, decide_false, decide_eq_true_eq, pl_items, pl_st0, pl_st1, pl_fold, notOwn, List.mem_singleton, List.mem_cons, List.not_mem_nil, or_false, false_or, or_true, true_or, forall_eq, forall_eq_or_imp, implies_true, Int.reduceToNat, Int.reduceEq, Int.reduceNe, Int.reduceAdd, Int.reduceSub, Int.reduceMul, Int.reducePow, Int.reduceMod, Int.reduceDiv, atI_0, atI_1, atI_2, atI_3, rg1, rg2, startI, r_var, r_var2, r_c, r_w2, r_w2a, r_w2b, r_w1, r_w1a, r_wB, r_wBa, r_ch, r_ch1, r_ch2, r_ch3t, r_ch3f, r_and, r_andt, r_andf, r_or, r_ort, r_orf, r_not, r_nota, r_ife, r_ifet, r_ifef, r_andv, r_andvt, r_andvf, r_orv, r_orvt, r_orvf, r_notv, r_notva, r_nil, r_cons, r_cons1, r_cons2, r_tup, r_tupa, r_lst, r_lsta, r_lstc, r_lstca, r_wn, r_wna, r_call, r_calla, r_mk, r_mk1, r_mk2, r_mkc, r_mkc1, r_mkc2, r_me, r_me1, r_me2, r_bo, r_bo1, r_bo2, r_onone, r_osome, r_osomea, r_sl, r_sl1, r_sl2, r_sl3, r_sl3f, r_ii, r_ii0, r_ib, r_i1, r_plus, r_plusl, r_times, r_timesl, r_isn, r_notn, r_isb, r_notb, r_pm, r_pm1, DL.perm, z_neT, z_catT, r_eqd, r_ned, r_int1, r_int1b, r_max2, r_min2, r_abs, r_ix, r_ix2, r_ix3, r_len, r_len2, r_isi, r_isi2, r_fld, r_fld2, r_fld3, r_insobj, r_kx, r_next, r_never, r_seqa, r_if, r_ift, r_iff, r_ret, r_retn, r_brk, r_cnt, r_drop, r_dropa, r_set, r_seta, r_asg, r_asga, r_name, r_namec, r_ktup, r_kunl, r_kcons, r_kcs, r_knil, r_par2, r_par2a, r_par3, r_par3a, r_aug, r_auga, r_augb, r_augc, r_for, r_fora, r_knx, r_fldo, r_fldoa, r_put, r_frz, r_frz2, r_frz3, r_frz4, r_cl, r_seto, r_setoa, r_wil, r_wila, r_wilf, r_wit, r_wita, r_wi1, r_wi1a, r_wi2, r_wi2a, r_wie, r_wiea, r_wiz, r_wiza, r_wizt, r_lc, r_lc0, r_lcn, r_lcc, r_lc1, r_lc2t, r_lc2f, r_lc3, r_yes, r_sub, r_sub1, r_sub2, r_sub3, r_dnx, r_drt, r_dxc, r_inx, r_init, r_ixc, t_raise, t_raise2, t_try, t_cat, t_catt, t_catf, t_sunx, t_surt, t_nx0, t_nx1, t_nx2, t_nx3, t_prop, t_prop2, t_xf, t_xf2, t_isx, t_isx2, t_wht, t_whf, t_equ, t_neu, t_el, List.reverse_cons, List.reverse_nil, isiDT, anyT, List.all_cons, List.all_nil, Option.isSome_some, Bool.and_true, Bool.true_and, u_lof, u_lof2, u_tof, u_tof2, u_isiT, u_dict, u_bl, u_own, u_ownN, u_has, u_hasN, u_bk, u_bk1, u_bk2, u_stat, u_ap, u_ap1, u_ap2, u_ex, u_ex1, u_ex2, u_ownL, u_olen, u_oix, u_oix1, u_oin, u_sumT, u_sumL, u_mu, u_mu1, u_hot, u_hot1, startX, u_mb, u_mb1, u_mb1f, u_mb2, u_rev, u_revf, u_wio, u_wex, u_wel, u_wef, u_wet, u_en, u_en0, u_enc, u_enn, Int.cast_ofNat_Int, u_wzx, u_wzl, u_wzt, u_wzm, u_zd, u_zd0, intsD, DL.intD, u_kd, othC, isTy, Bool.true_xor, Bool.false_xor, eqU_pl, p_int, p_bl, p_non, p_tup, p_lst, p_frl, p0_int, p0_bl, p0_non, deq, deqs, Bool.and_true, Bool.and_false, Bool.false_and, List.contains_cons, List.contains_nil, Bool.or_false, Bool.false_or, Bool.or_self, eq_self, beq_self_eq_true, Bool.not_true, Bool.not_false, List.flatten_cons, List.flatten_nil, isi_0, isi_1, isi_2, isi_3, isi_4, isi_5, isi_6, isi_7, isi_8, isi_9, isi_10, isi_11, isi_12, isi_13, isi_14, isi_15, isi_16, isi_17, isi_18, isi_19, isi_20, isi_21, isi_22, isi_23, isi_24, isi_25, isi_26, isi_27, isi_28, isi_29, isi_30, isi_31, isi_32, isi_33, isi_34, isi_35, isi_36, isi_37, isi_38, isi_39, isi_40, isi_41, isi_42, isi_43, isi_44, isi_45, isi_46, isi_47, isi_48, isi_49, isi_50, isi_51, isi_52, isi_53, isi_54, isi_55, isi_56, isi_57, isi_58, isi_59, isi_60, isi_61, isi_62, isi_63, isi_64, isi_65, isi_66, isi_67, isi_68, isi_69, isi_70, isi_71, isi_72, isi_73, isi_74, isi_75, isi_76, isi_77, isi_78, isi_79, isi_80, isi_81, isi_82, isi_83, isi_84, isi_85, isi_86, isi_87, isi_88, isi_89, isi_90, isi_91, isi_92, isi_93, isi_94])
local macro_rules
  | `(tactic| walk_at "dn") => `(tactic| try simp only [z_slt, z_slt1, z_slt2, z_slt3, g_gen, g_genm, g_genm1, g_log, g_logC, r_newD, r_put0, r_kw, r_kw1, r_kw2, r_kw0, r_kw00, c_wi, c_en, c_en1, c_for, c_for1, c_lc, c_lc1, c_lof, c_lof1, c_ap, c_ap1, c_ap2, y_p2, y_p21, y_oo, y_fo, y_foq, y_of, y_of2, c_si, c_si1, c_si2, c_si3, c_lu1, c_lu2, c_lu3, z_fl, z_fl1, z_fl2, z_ps, z_ps1, z_ps2, z_ps3, z_eqT, z_cat, z_cat1, z_cat2, y_pop, y_pop1, y_pop2, y_lcC, y_lcR, y_callR, t_wis, t_wisa, t_dicL, t_kpt, t_kpt1, t_kpt2, t_slst, t_m1s, t_m1s1, t_m1s2, t_catS, t_sls, t_sls1, t_sls2, t_sls3, t_fs, t_js0, t_js1, t_js2, t_js3, t_fmtI, t_fmtS, t_strI, t_insl, t_insl1, t_insl2, t_insl3, t_ors, t_dic, t_put, t_put1, t_put2, t_put3, t_base, y_cell, y_rem, y_rem1, y_rem2, x_subO, x_subO1, x_subO2, v_slo, v_slo1, w_ff, w_ft, w_tf, w_tt, false_and, and_false, isClsU, v_ix, v_ix1, v_ix2, v_inv, v_inv1, v_co, v_co1, v_co2, v_len, v_len1, v_f2or, isiD, tyD, clD, r_insobj, fldOf, DL.isNon, items_tup, items_lst, items_frl, hasCls, isCls, othTy, insD, DL.putK, DL.putD, initEnd, startI, startD, DL.wipeD, List.map_cons, List.map_nil, List.length_cons, List.length_nil, List.getElem?_cons_zero, List.getElem?_cons_succ, List.getElem?_nil, List.set_cons_zero, List.set_cons_succ, List.cons_append, List.nil_append, List.append_nil, List.replicate, Nat.sub_self, Nat.reduceSub, Nat.reduceAdd, Nat.reduceLeDiff, Nat.reduceEqDiff, Nat.reduceLT, Int.reduceLT, Int.reduceLE, if_true, if_false, Bool.not_true, Bool.not_false, reduceIte, reduceCtorEq, true_and, and_true, Nat.zero_add, Bool.true_eq_false, Bool.false_eq_true, eqU_int, eqU_str, eqU_bl, str_eq, str_beq, String.reduceEq, decide_true, decide_false, decide_eq_true_eq, pl_items, pl_st0, pl_st1, pl_fold, notOwn, List.mem_singleton, List.mem_cons, List.not_mem_nil, or_false, false_or, or_true, true_or, forall_eq, forall_eq_or_imp, implies_true, Int.reduceToNat, Int.reduceEq, Int.reduceNe, Int.reduceAdd, Int.reduceSub, Int.reduceMul, Int.reducePow, Int.reduceMod, Int.reduceDiv, atI_0, atI_1, atI_2, atI_3, rg1, rg2, startI, r_var, r_var2, r_c, r_w2, r_w2a, r_w2b, r_w1, r_w1a, r_wB, r_wBa, r_ch, r_ch1, r_ch2, r_ch3t, r_ch3f, r_and, r_andt, r_andf, r_or, r_ort, r_orf, r_not, r_nota, r_ife, r_ifet, r_ifef, r_andv, r_andvt, r_andvf, r_orv, r_orvt, r_orvf, r_notv, r_notva, r_nil, r_cons, r_cons1, r_cons2, r_tup, r_tupa, r_lst, r_lsta, r_lstc, r_lstca, r_wn, r_wna, r_call, r_calla, r_mk, r_mk1, r_mk2, r_mkc, r_mkc1, r_mkc2, r_me, r_me1, r_me2, r_bo, r_bo1, r_bo2, r_onone, r_osome, r_osomea, r_sl, r_sl1, r_sl2, r_sl3, r_sl3f, r_ii, r_ii0, r_ib, r_i1, r_plus, r_plusl, r_times, r_timesl, r_isn, r_notn, r_isb, r_notb, r_pm, r_pm1, DL.perm, z_neT, z_catT, r_eqd, r_ned, r_int1, r_int1b, r_max2, r_min2, r_abs, r_ix, r_ix2, r_ix3, r_len, r_len2, r_isi, r_isi2, r_fld, r_fld2, r_fld3, r_insobj, r_kx, r_next, r_never, r_seq, r_seqa, r_if, r_ift, r_iff, r_ret, r_retn, r_brk, r_cnt, r_drop, r_dropa, r_set, r_seta, r_asg, r_asga, r_name, r_namec, r_ktup, r_kunl, r_kcons, r_kcs, r_knil, r_par2, r_par2a, r_par3, r_par3a, r_aug, r_auga, r_augb, r_augc, r_for, r_fora, r_knx, r_fldo, r_fldoa, r_put, r_frz, r_frz2, r_frz3, r_frz4, r_cl, r_seto, r_setoa, r_wil, r_wila, r_wilf, r_wit, r_wita, r_wi1, r_wi1a, r_wi2, r_wi2a, r_wie, r_wiea, r_wiz, r_wiza, r_wizt, r_lc, r_lc0, r_lcn, r_lcc, r_lc1, r_lc2t, r_lc2f, r_lc3, r_yes, r_sub, r_sub1, r_sub2, r_sub3, r_dnx, r_drt, r_dxc, r_inx, r_init, r_ixc, t_raise, t_raise2, t_try, t_cat, t_catt, t_catf, t_sunx, t_surt, t_nx0, t_nx1, t_nx2, t_nx3, t_prop, t_prop2, t_xf, t_xf2, t_isx, t_isx2, t_wht, t_whf, t_equ, t_neu, t_el, List.reverse_cons, List.reverse_nil, isiDT, anyT, List.all_cons, List.all_nil, Option.isSome_some, Bool.and_true, Bool.true_and, u_lof, u_lof2, u_tof, u_tof2, u_isiT, u_dict, u_bl, u_own, u_ownN, u_has, u_hasN, u_bk, u_bk1, u_bk2, u_stat, u_ap, u_ap1, u_ap2, u_ex, u_ex1, u_ex2, u_ownL, u_olen, u_oix, u_oix1, u_oin, u_sumT, u_sumL, u_mu, u_mu1, u_hot, u_hot1, startX, u_mb, u_mb1, u_mb1f, u_mb2, u_rev, u_revf, u_wio, u_wex, u_wel, u_wef, u_wet, u_en, u_en0, u_enc, u_enn, Int.cast_ofNat_Int, u_wzx, u_wzl, u_wzt, u_wzm, u_zd, u_zd0, intsD, DL.intD, u_kd, othC, isTy, Bool.true_xor, Bool.false_xor, eqU_pl, p_int, p_bl, p_non, p_tup, p_lst, p_frl, p0_int, p0_bl, p0_non, deq, deqs, Bool.and_true, Bool.and_false, Bool.false_and, List.contains_cons, List.contains_nil, Bool.or_false, Bool.false_or, Bool.or_self, eq_self, beq_self_eq_true, Bool.not_true, Bool.not_false, List.flatten_cons, List.flatten_nil, isi_0, isi_1, isi_2, isi_3, isi_4, isi_5, isi_6, isi_7, isi_8, isi_9, isi_10, isi_11, isi_12, isi_13, isi_14, isi_15, isi_16, isi_17, isi_18, isi_19, isi_20, isi_21, isi_22, isi_23, isi_24, isi_25, isi_26, isi_27, isi_28, isi_29, isi_30, isi_31, isi_32, isi_33, isi_34, isi_35, isi_36, isi_37, isi_38, isi_39, isi_40, isi_41, isi_42, isi_43, isi_44, isi_45, isi_46, isi_47, isi_48, isi_49, isi_50, isi_51, isi_52, isi_53, isi_54, isi_55, isi_56, isi_57, isi_58, isi_59, isi_60, isi_61, isi_62, isi_63, isi_64, isi_65, isi_66, isi_67, isi_68, isi_69, isi_70, isi_71, isi_72, isi_73, isi_74, isi_75, isi_76, isi_77, isi_78, isi_79, isi_80, isi_81, isi_82, isi_83, isi_84, isi_85, isi_86, isi_87, isi_88, isi_89, isi_90, isi_91, isi_92, isi_93, isi_94])
local macro_rules
  | `(tactic| walk_at "dl1") => `(tactic| simp only [z_slt, z_slt1, z_slt2, z_slt3, g_gen, g_genm, g_genm1, g_log, g_logC, r_newD, r_put0, r_kw, r_kw1, r_kw2, r_kw0, r_kw00, c_wi, c_en, c_en1, c_for, c_for1, c_lc, c_lc1, c_lof, c_lof1, c_ap, c_ap1, c_ap2, y_p2, y_p21, y_oo, y_fo, y_foq, y_of, y_of2, c_si, c_si1, c_si2, c_si3, c_lu1, c_lu2, c_lu3, z_fl, z_fl1, z_fl2, z_ps, z_ps1, z_ps2, z_ps3, z_eqT, z_cat, z_cat1, z_cat2, y_pop, y_pop1, y_pop2, y_lcC, y_lcR, y_callR, t_wis, t_wisa, t_dicL, t_kpt, t_kpt1, t_kpt2, t_slst, t_m1s, t_m1s1, t_m1s2, t_catS, t_sls, t_sls1, t_sls2, t_sls3, t_fs, t_js0, t_js1, t_js2, t_js3, t_fmtI, t_fmtS, t_strI, t_insl, t_insl1, t_insl2, t_insl3, t_ors, t_dic, t_put, t_put1, t_put2, t_put3, t_base, y_cell, y_rem, y_rem1, y_rem2, x_subO, x_subO1, x_subO2, v_slo, v_slo1, w_ff, w_ft, w_tf, w_tt, false_and, and_false, isClsU, v_ix, v_ix1, v_ix2, v_inv, v_inv1, v_co, v_co1, v_co2, v_len, v_len1, v_f2or, isiD, tyD, clD, r_insobj, fldOf, DL.isNon, items_tup, items_lst, items_frl, hasCls, isCls, othTy, insD, DL.putK, DL.putD, initEnd, startI, startD, DL.wipeD, List.map_cons, List.map_nil, List.length_cons, List.length_nil, List.getElem?_cons_zero, List.getElem?_cons_succ, List.getElem?_nil, List.set_cons_zero, List.set_cons_succ, List.cons_append, List.nil_append, List.append_nil, List.replicate, Nat.sub_self, Nat.reduceSub, Nat.reduceAdd, Nat.reduceLeDiff, Nat.reduceEqDiff, Nat.reduceLT, Int.reduceLT, Int.reduceLE, if_true, if_false, Bool.not_true, Bool.not_false, reduceIte, reduceCtorEq, true_and, and_true, Nat.zero_add, Bool.true_eq_false, Bool.false_eq_true, eqU_int, eqU_str, eqU_bl, str_eq, str_beq, String.reduceEq, decide_true, decide_false, decide_eq_true_eq, pl_items, pl_st0, pl_st1, pl_fold, notOwn, List.mem_singleton, List.mem_cons, List.not_mem_nil, or_false, false_or, or_true, true_or, forall_eq, forall_eq_or_imp, implies_true, range_succ, range_zero, Int.reduceToNat, Int.reduceEq, Int.reduceNe, Int.reduceAdd, Int.reduceSub, Int.reduceMul, Int.reducePow, Int.reduceMod, Int.reduceDiv, atI_0, atI_1, atI_2, atI_3, rg1, rg2, startI, r_var, r_var2, r_c, r_w2, r_w2a, r_w2b, r_w1, r_w1a, r_wB, r_wBa, r_ch, r_ch1, r_ch2, r_ch3t, r_ch3f, r_and, r_andt, r_andf, r_or, r_ort, r_orf, r_not, r_nota, r_ife, r_ifet, r_ifef, r_andv, r_andvt, r_andvf, r_orv, r_orvt, r_orvf, r_notv, r_notva, r_nil, r_cons, r_cons1, r_cons2, r_tup, r_tupa, r_lst, r_lsta, r_lstc, r_lstca, r_wn, r_wna, r_call, r_calla, r_mk, r_mk1, r_mk2, r_mkc, r_mkc1, r_mkc2, r_me, r_me1, r_me2, r_bo, r_bo1, r_bo2, r_onone, r_osome, r_osomea, r_sl, r_sl1, r_sl2, r_sl3, r_sl3f, r_ii, r_ii0, r_ib, r_i1, r_plus, r_plusl, r_times, r_timesl, r_isn, r_notn, r_isb, r_notb, r_pm, r_pm1, DL.perm, z_neT, z_catT, r_eqd, r_ned, r_int1, r_int1b, r_max2, r_min2, r_abs, r_ix, r_ix2, r_ix3, r_len, r_len2, r_isi, r_isi2, r_fld, r_fld2, r_fld3, r_insobj, r_kx, r_next, r_never, r_seq, r_seqa, r_if, r_ift, r_iff, r_ret, r_retn, r_brk, r_cnt, r_drop, r_dropa, r_set, r_seta, r_asg, r_asga, r_name, r_namec, r_ktup, r_kunl, r_kcons, r_kcs, r_knil, r_par2, r_par2a, r_par3, r_par3a, r_aug, r_auga, r_augb, r_augc, r_for, r_fora, r_knx, r_fldo, r_fldoa, r_put, r_frz, r_frz2, r_frz3, r_frz4, r_cl, r_seto, r_setoa, r_wil, r_wila, r_wilf, r_wit, r_wita, r_wi1, r_wi1a, r_wi2, r_wi2a, r_wie, r_wiea, r_wiz, r_wiza, r_wizt, r_lc, r_lc0, r_lcn, r_lcc, r_lc1, r_lc2t, r_lc2f, r_lc3, r_yes, r_sub, r_sub1, r_sub2, r_sub3, r_dnx, r_drt, r_dxc, r_inx, r_init, r_ixc, t_raise, t_raise2, t_try, t_cat, t_catt, t_catf, t_sunx, t_surt, t_nx0, t_nx1, t_nx2, t_nx3, t_prop, t_prop2, t_xf, t_xf2, t_isx, t_isx2, t_wht, t_whf, t_equ, t_neu, t_el, List.reverse_cons, List.reverse_nil, isiDT, anyT, List.all_cons, List.all_nil, Option.isSome_some, Bool.and_true, Bool.true_and, u_lof, u_lof2, u_tof, u_tof2, u_isiT, u_dict, u_bl, u_own, u_ownN, u_has, u_hasN, u_bk, u_bk1, u_bk2, u_stat, u_ap, u_ap1, u_ap2, u_ex, u_ex1, u_ex2, u_ownL, u_olen, u_oix, u_oix1, u_oin, u_sumT, u_sumL, u_mu, u_mu1, u_hot, u_hot1, startX, u_mb, u_mb1, u_mb1f, u_mb2, u_rev, u_revf, u_wio, u_wex, u_wel, u_wef, u_wet, u_en, u_en0, u_enc, u_enn, Int.cast_ofNat_Int, u_wzx, u_wzl, u_wzt, u_wzm, u_zd, u_zd0, intsD, DL.intD, u_kd, othC, isTy, Bool.true_xor, Bool.false_xor, eqU_pl, p_int, p_bl, p_non, p_tup, p_lst, p_frl, p0_int, p0_bl, p0_non, deq, deqs, Bool.and_true, Bool.and_false, Bool.false_and, List.contains_cons, List.contains_nil, Bool.or_false, Bool.false_or, Bool.or_self, eq_self, beq_self_eq_true, Bool.not_true, Bool.not_false, List.flatten_cons, List.flatten_nil, isi_0, isi_1, isi_2, isi_3, isi_4, isi_5, isi_6, isi_7, isi_8, isi_9, isi_10, isi_11, isi_12, isi_13, isi_14, isi_15, isi_16, isi_17, isi_18, isi_19, isi_20, isi_21, isi_22, isi_23, isi_24, isi_25, isi_26, isi_27, isi_28, isi_29, isi_30, isi_31, isi_32, isi_33, isi_34, isi_35, isi_36, isi_37, isi_38, isi_39, isi_40, isi_41, isi_42, isi_43, isi_44, isi_45, isi_46, isi_47, isi_48, isi_49, isi_50, isi_51, isi_52, isi_53, isi_54, isi_55, isi_56, isi_57, isi_58, isi_59, isi_60, isi_61, isi_62, isi_63, isi_64, isi_65, isi_66, isi_67, isi_68, isi_69, isi_70, isi_71, isi_72, isi_73, isi_74, isi_75, isi_76, isi_77, isi_78, isi_79, isi_80, isi_81, isi_82, isi_83, isi_84, isi_85, isi_86, isi_87, isi_88, isi_89, isi_90, isi_91, isi_92, isi_93, isi_94])
local macro_rules
  | `(tactic| walk_at "dl") => `(tactic| try simp only [z_slt, z_slt1, z_slt2, z_slt3, g_gen, g_genm, g_genm1, g_log, g_logC, r_newD, r_put0, r_kw, r_kw1, r_kw2, r_kw0, r_kw00, c_wi, c_en, c_en1, c_for, c_for1, c_lc, c_lc1, c_lof, c_lof1, c_ap, c_ap1, c_ap2, y_p2, y_p21, y_oo, y_fo, y_foq, y_of, y_of2, c_si, c_si1, c_si2, c_si3, c_lu1, c_lu2, c_lu3, z_fl, z_fl1, z_fl2, z_ps, z_ps1, z_ps2, z_ps3, z_eqT, z_cat, z_cat1, z_cat2, y_pop, y_pop1, y_pop2, y_lcC, y_lcR, y_callR, t_wis, t_wisa, t_dicL, t_kpt, t_kpt1, t_kpt2, t_slst, t_m1s, t_m1s1, t_m1s2, t_catS, t_sls, t_sls1, t_sls2, t_sls3, t_fs, t_js0, t_js1, t_js2, t_js3, t_fmtI, t_fmtS, t_strI, t_insl, t_insl1, t_insl2, t_insl3, t_ors, t_dic, t_put, t_put1, t_put2, t_put3, t_base, y_cell, y_rem, y_rem1, y_rem2, x_subO, x_subO1, x_subO2, v_slo, v_slo1, w_ff, w_ft, w_tf, w_tt, false_and, and_false, isClsU, v_ix, v_ix1, v_ix2, v_inv, v_inv1, v_co, v_co1, v_co2, v_len, v_len1, v_f2or, isiD, tyD, clD, r_insobj, fldOf, DL.isNon, items_tup, items_lst, items_frl, hasCls, isCls, othTy, insD, DL.putK, DL.putD, initEnd, startI, startD, DL.wipeD, List.map_cons, List.map_nil, List.length_cons, List.length_nil, List.getElem?_cons_zero, List.getElem?_cons_succ, List.getElem?_nil, List.set_cons_zero, List.set_cons_succ, List.cons_append, List.nil_append, List.append_nil, List.replicate, Nat.sub_self, Nat.reduceSub, Nat.reduceAdd, Nat.reduceLeDiff, Nat.reduceEqDiff, Nat.reduceLT, Int.reduceLT, Int.reduceLE, if_true, if_false, Bool.not_true, Bool.not_false, reduceIte, reduceCtorEq, true_and, and_true, Nat.zero_add, Bool.true_eq_false, Bool.false_eq_true, eqU_int, eqU_str, eqU_bl, str_eq, str_beq, String.reduceEq, decide_true, decide_false, decide_eq_true_eq, pl_items, pl_st0, pl_st1, pl_fold, notOwn, List.mem_singleton, List.mem_cons, List.not_mem_nil, or_false, false_or, or_true, true_or, forall_eq, forall_eq_or_imp, implies_true, range_succ, range_zero, Int.reduceToNat, Int.reduceEq, Int.reduceNe, Int.reduceAdd, Int.reduceSub, Int.reduceMul, Int.reducePow, Int.reduceMod, Int.reduceDiv, atI_0, atI_1, atI_2, atI_3, rg1, rg2, startI, r_var, r_var2, r_c, r_w2, r_w2a, r_w2b, r_w1, r_w1a, r_wB, r_wBa, r_ch, r_ch1, r_ch2, r_ch3t, r_ch3f, r_and, r_andt, r_andf, r_or, r_ort, r_orf, r_not, r_nota, r_ife, r_ifet, r_ifef, r_andv, r_andvt, r_andvf, r_orv, r_orvt, r_orvf, r_notv, r_notva, r_nil, r_cons, r_cons1, r_cons2, r_tup, r_tupa, r_lst, r_lsta, r_lstc, r_lstca, r_wn, r_wna, r_call, r_calla, r_mk, r_mk1, r_mk2, r_mkc, r_mkc1, r_mkc2, r_me, r_me1, r_me2, r_bo, r_bo1, r_bo2, r_onone, r_osome, r_osomea, r_sl, r_sl1, r_sl2, r_sl3, r_sl3f, r_ii, r_ii0, r_ib, r_i1, r_plus, r_plusl, r_times, r_timesl, r_isn, r_notn, r_isb, r_notb, r_pm, r_pm1, DL.perm, z_neT, z_catT, r_eqd, r_ned, r_int1, r_int1b, r_max2, r_min2, r_abs, r_ix, r_ix2, r_ix3, r_len, r_len2, r_isi, r_isi2, r_fld, r_fld2, r_fld3, r_insobj, r_kx, r_next, r_never, r_seq, r_seqa, r_if, r_ift, r_iff, r_ret, r_retn, r_brk, r_cnt, r_drop, r_dropa, r_set, r_seta, r_asg, r_asga, r_name, r_namec, r_ktup, r_kunl, r_kcons, r_kcs, r_knil, r_par2, r_par2a, r_par3, r_par3a, r_aug, r_auga, r_augb, r_augc, r_for, r_fora, r_knx, r_fldo, r_fldoa, r_put, r_frz, r_frz2, r_frz3, r_frz4, r_cl, r_seto, r_setoa, r_wil, r_wila, r_wilf, r_wit, r_wita, r_wi1, r_wi1a, r_wi2, r_wi2a, r_wie, r_wiea, r_wiz, r_wiza, r_wizt, r_lc, r_lc0, r_lcn, r_lcc, r_lc1, r_lc2t, r_lc2f, r_lc3, r_yes, r_sub, r_sub1, r_sub2, r_sub3, r_dnx, r_drt, r_dxc, r_inx, r_init, r_ixc, t_raise, t_raise2, t_try, t_cat, t_catt, t_catf, t_sunx, t_surt, t_nx0, t_nx1, t_nx2, t_nx3, t_prop, t_prop2, t_xf, t_xf2, t_isx, t_isx2, t_wht, t_whf, t_equ, t_neu, t_el, List.reverse_cons, List.reverse_nil, isiDT, anyT, List.all_cons, List.all_nil, Option.isSome_some, Bool.and_true, Bool.true_and, u_lof, u_lof2, u_tof, u_tof2, u_isiT, u_dict, u_bl, u_own, u_ownN, u_has, u_hasN, u_bk, u_bk1, u_bk2, u_stat, u_ap, u_ap1, u_ap2, u_ex, u_ex1, u_ex2, u_ownL, u_olen, u_oix, u_oix1, u_oin, u_sumT, u_sumL, u_mu, u_mu1, u_hot, u_hot1, startX, u_mb, u_mb1, u_mb1f, u_mb2, u_rev, u_revf, u_wio, u_wex, u_wel, u_wef, u_wet, u_en, u_en0, u_enc, u_enn, Int.cast_ofNat_Int, u_wzx, u_wzl, u_wzt, u_wzm, u_zd, u_zd0, intsD, DL.intD, u_kd, othC, isTy, Bool.true_xor, Bool.false_xor, eqU_pl, p_int, p_bl, p_non, p_tup, p_lst, p_frl, p0_int, p0_bl, p0_non, deq, deqs, Bool.and_true, Bool.and_false, Bool.false_and, List.contains_cons, List.contains_nil, Bool.or_false, Bool.false_or, Bool.or_self, eq_self, beq_self_eq_true, Bool.not_true, Bool.not_false, List.flatten_cons, List.flatten_nil, isi_0, isi_1, isi_2, isi_3, isi_4, isi_5, isi_6, isi_7, isi_8, isi_9, isi_10, isi_11, isi_12, isi_13, isi_14, isi_15, isi_16, isi_17, isi_18, isi_19, isi_20, isi_21, isi_22, isi_23, isi_24, isi_25, isi_26, isi_27, isi_28, isi_29, isi_30, isi_31, isi_32, isi_33, isi_34, isi_35, isi_36, isi_37, isi_38, isi_39, isi_40, isi_41, isi_42, isi_43, isi_44, isi_45, isi_46, isi_47, isi_48, isi_49, isi_50, isi_51, isi_52, isi_53, isi_54, isi_55, isi_56, isi_57, isi_58, isi_59, isi_60, isi_61, isi_62, isi_63, isi_64, isi_65, isi_66, isi_67, isi_68, isi_69, isi_70, isi_71, isi_72, isi_73, isi_74, isi_75, isi_76, isi_77, isi_78, isi_79, isi_80, isi_81, isi_82, isi_83, isi_84, isi_85, isi_86, isi_87, isi_88, isi_89, isi_90, isi_91, isi_92, isi_93, isi_94])
local macro_rules
  | `(tactic| walk_at "cm") => `(tactic| first | exact .inl (.inr ⟨by omega, by omega⟩) | exact .inl (.inl ⟨by omega, by omega⟩) | exact cm_bd (by unfold Bd; omega) (by unfold Bd; omega))
local macro_rules
  | `(tactic| walk_at "cs") => `(tactic| repeat ((with_reducible refine And.intro ?_ ?_); (· first | decide | (walk_at "cm") | exact ⟨by decide, by decide, by decide⟩ | omega)))
local macro_rules
  | `(tactic| walk_at "go") => `(tactic| (walk_at "dl"; walk_at "cs"))
local macro_rules
  | `(tactic| walk_at "gn") => `(tactic| (walk_at "dn"; walk_at "cs"))
section
variable {Q : D → Mu → Prop} {Xd : XD} {μ : Mu}
theorem ii_int {i : Int} (h : Q (.bl true) μ) : sp_is_integer [.int i] μ Q Xd := by
  unfold sp_is_integer w_is_integer
  walk_at "dl"
  exact h
abbrev pr (x y : Int) : D := .tup [.int x, .int y]
abbrev pt (x y : Int) : D := .obj "Point" ["x", "y"] [.int x, .int y]
theorem point_init {Q : List Str → List D → Mu → Prop} {x y : Int} (h : Q ["x", "y"] [.int x, .int y] μ) : sp_Point_init [.int x, .int y] μ Q Xd := by
  unfold sp_Point_init w_Point_init
  refine ⟨rfl, fun a => ?_⟩
  walk_at "dl"
  refine ii_int ?_
  walk_at "dl"
  refine ii_int ?_
  walk_at "dl"
  exact h
/-- a point or a pair -/
def IsP (d : D) (x y : Int) : Prop := d = pr x y ∨ d = pt x y
theorem nums {d : D} {x y : Int} (hd : IsP d x y) (h : Q (pr x y) μ) : sp_numbers_of [d] μ Q Xd := by
  unfold sp_numbers_of w_numbers_of
  rcases hd with rfl | rfl
  · walk_at "dl"
    refine ii_int ?_
    walk_at "dl"
    refine ii_int ?_
    walk_at "dl"
    exact h
  · walk_at "dl"
    exact h
theorem less_ev {x y z w : Int} (h : Q (pr (x - z) (y - w)) μ) : sp_less [pr x y, pr z w] μ Q Xd := by
  unfold sp_less w_less
  walk_at "dl"
  exact h
theorem cross_ev {x y z w : Int} (h1 : CM x w) (h2 : CM y z) (h : Q (.int (x * w - y * z)) μ) : sp_cross_of [pr x y, pr z w] μ Q Xd := by
  unfold sp_cross_of w_cross_of
  walk_at "dl"
  exact ⟨h1, h2, h⟩
def sd (ax ay bx by_ px py : Int) : Int := (bx - ax) * (py - ay) - (by_ - ay) * (px - ax)
theorem sideof_ev {ax ay bx by_ px py : Int} (h1 : CM (bx - ax) (py - ay)) (h2 : CM (by_ - ay) (px - ax)) (h : Q (.int (sd ax ay bx by_ px py)) μ) : sp_side_of [pr ax ay, pr bx by_, pr px py] μ Q Xd := by
  unfold sp_side_of w_side_of
  walk_at "dl"
  refine less_ev ?_
  walk_at "dl"
  refine less_ev ?_
  walk_at "dl"
  exact cross_ev h1 h2 h
theorem draw_ev {p q many : Int} (ok : PoolOk p q) (h1 : 1 ≤ many) (h2 : Bd many) (h : ∀ r p' q', PoolOk p' q' → 0 ≤ r → r < many → Q (.int r) (pl μ p' q')) : sp__law_draw [.loc μ.length, .int many] (pl μ p q) Q Xd := by
  obtain ⟨p0, q0, q1⟩ := ok
  unfold sp__law_draw w__law_draw
  walk_at "dl"
  by_cases c : 0 < p
  · rw [decide_eq_true c]
    walk_at "dl"
    refine ⟨by omega, cd_bd (by omega) h2, ?_⟩
    exact h _ _ _ ⟨Int.ediv_nonneg p0 (by omega), q0, q1⟩ (Int.emod_nonneg _ (by omega)) (Int.emod_lt_of_pos _ (by omega))
  · rw [decide_eq_false c]
    walk_at "dl"
    have m1 := Int.emod_nonneg (q * 48271 + 11) (show (2147483647 : Int) ≠ 0 by decide)
    have m2 := Int.emod_lt_of_pos (q * 48271 + 11) (show (0 : Int) < 2147483647 by decide)
    refine ⟨cm_bd (by unfold Bd; omega) (by unfold Bd; omega), ?_⟩
    generalize (q * 48271 + 11) % 2147483647 = q' at m1 m2 ⊢
    exact ⟨cm_bd (by unfold Bd; omega) (by unfold Bd; omega), cd_bd (by omega) (by unfold Bd; omega), by omega, h _ _ _ ⟨p0, m1, m2⟩ (Int.emod_nonneg _ (by omega)) (Int.emod_lt_of_pos _ (by omega))⟩
theorem lpair_ev {p q : Int} {n : Nat} (ok : PoolOk p q) (hn : n ≤ 1000) (h : ∀ x y p' q', PoolOk p' q' → -(n : Int) ≤ x → x ≤ n → -(n : Int) ≤ y → y ≤ n → Q (pr x y) (pl μ p' q')) : sp__law_pair [.loc μ.length, .int n] (pl μ p q) Q Xd := by
  unfold sp__law_pair w__law_pair
  walk_at "dl"
  refine ⟨cm_bd (by unfold Bd; omega) (by unfold Bd; omega), draw_ev ok (by omega) (by unfold Bd; omega) fun r p1 q1 ok1 r0 r1 => ?_⟩
  walk_at "dl"
  refine ⟨cm_bd (by unfold Bd; omega) (by unfold Bd; omega), draw_ev ok1 (by omega) (by unfold Bd; omega) fun r2 p2 q2 ok2 r3 r4 => ?_⟩
  walk_at "dl"
  exact h _ _ _ _ ok2 (by omega) (by omega) (by omega) (by omega)
theorem hand_ev {ns : List Int} {k : Int} (hl : ns.length ≤ 63) (k0 : 0 ≤ k) (k1 : k ≤ 63) (h : ∀ p q, PoolOk p q → Q (.loc μ.length) (pl μ p q)) : sp__law_hand [.frl (ns.map D.int), .int k] μ Q Xd := by
  unfold sp__law_hand w__law_hand
  walk_at "dl"
  refine ⟨cut_few hl, ?_⟩
  obtain ⟨c, hc⟩ := cell_of (ns := ns) (lo := some k) (hi := some (k + 1))
  rw [hc]
  walk_at "dl"
  have m1 := Int.emod_nonneg c (show (2147483647 : Int) ≠ 0 by decide)
  have m2 := Int.emod_lt_of_pos c (show (0 : Int) < 2147483647 by decide)
  refine ⟨cm_bd (by unfold Bd; omega) (by unfold Bd; omega), cm_bd (by unfold Bd; omega) (by unfold Bd; omega), ⟨by decide, by decide, by decide⟩, .inl (.inl ?_), h _ _ ⟨?_, Int.emod_nonneg _ (by decide), ?_⟩⟩
  · split <;> decide
  · have e : (10 : Int) ^ Int.toNat 18 = 1000000000000000000 := by decide
    try rw [e]
    split <;> omega
  · have := Int.emod_lt_of_pos ((c % 2147483647 + 7919 * k + 1) * 48271) (show (0 : Int) < 2147483629 by decide)
    omega

abbrev pd (p : SA.P) : D := pr p.1 p.2
instance : Inhabited SA.T3 := ⟨⟨(0, 0), (0, 0), (0, 0)⟩⟩
theorem un {g : WG} {b : WS} {E : DEnds} {d : D} {ds : List D} {ρ : DS} {μ : Mu} (h : g d ρ μ fun ρ1 μ1 => b { E with nx := forL g b E ds, ct := forL g b E ds, bk := E.nx } ρ1 μ1) : forL g b E (d :: ds) ρ μ := by
  rw [forL]
  exact h
theorem ways_ev {a b c : SA.P} (h : Q (.lst [.tup [pd a, pd b], .tup [pd b, pd c], .tup [pd c, pd a]]) μ) : sp_ways_of [.lst [pd a, pd b, pd c]] μ Q Xd := by
  unfold sp_ways_of w_ways_of
  walk_at "go"
  exact h
def B6 (x : Int) : Prop := -1000000000000000000000000000000000000000000000000000000000000 ≤ x ∧ x ≤ 1000000000000000000000000000000000000000000000000000000000000
def BP (p : SA.P) : Prop := B6 p.1 ∧ B6 p.2
def BT (t : SA.T3) : Prop := BP t.a ∧ BP t.b ∧ BP t.c
theorem cm6 {a b c d : Int} (ha : B6 a) (hb : B6 b) (hc : B6 c) (hd : B6 d) : CM (a - b) (c - d) := by
  unfold B6 at *
  exact cm_bd (by unfold Bd; omega) (by unfold Bd; omega)
theorem sdp_ev {a b p : SA.P} (ha : BP a) (hb : BP b) (hp : BP p) (h : Q (.int (SA.sd a b p)) μ) : sp_side_of [pd a, pd b, pd p] μ Q Xd :=
  sideof_ev (cm6 hb.1 ha.1 hp.2 ha.2) (cm6 hb.2 ha.2 hp.1 ha.1) h
theorem lessp_ev {a b : SA.P} (h : Q (pd (SA.sb a b)) μ) : sp_less [pd a, pd b] μ Q Xd := less_ev h
theorem deq_pd (u v : SA.P) : deq (pd u) (pd v) = decide (u = v) := by
  have : (u = v) ↔ u.1 = v.1 ∧ u.2 = v.2 := ⟨fun h => by rw [h]; exact ⟨rfl, rfl⟩, fun h => Prod.ext h.1 h.2⟩
  simp [deq, deqs, this]
theorem bd6 {a b : Int} (ha : B6 a) (hb : B6 b) : Bd (a - b) := by
  unfold B6 Bd at *
  omega
theorem b6bd {x : Int} (h : B6 x) : Bd x := by
  unfold B6 Bd at *
  omega
def wyD (w : SA.P × SA.P) : D := .tup [pd w.1, pd w.2]

theorem gstep {x y : Int} (hx : 0 ≤ x) (hy : 0 < y) : Int.gcd y (x % y) = Int.gcd x y := by
  obtain ⟨n, rfl⟩ := Int.eq_ofNat_of_zero_le hx
  obtain ⟨m, rfl⟩ := Int.eq_ofNat_of_zero_le (Int.le_of_lt hy)
  show Nat.gcd m (n % m) = Nat.gcd n m
  rw [Nat.gcd_comm m, ← Nat.gcd_rec, Nat.gcd_comm]
theorem cdiv_ev {x y : Int} (hy : Bd y) (h : Q (.int (Int.gcd x y)) μ) : sp_common_divisor [.int x, .int y] μ Q Xd := by
  unfold sp_common_divisor w_common_divisor
  walk_at "dl"
  refine while_ind (fun n ρ μ' => μ' = μ ∧ ∃ a b : Int, ρ = [.v (.int a), .v (.int b)] ∧ 0 ≤ a ∧ 0 ≤ b ∧ Bd b ∧ Int.gcd a b = Int.gcd x y ∧ n = b.toNat) (fun n ρ μ' K hI hK => ?_) ⟨rfl, _, _, rfl, by split <;> omega, by split <;> omega, by unfold Bd at *; split <;> omega, ?_, rfl⟩
  · obtain ⟨rfl, a, b, rfl, a0, b0, bb, hg, rfl⟩ := hI
    walk_at "dl"
    by_cases c : 0 < b
    · rw [decide_eq_true c]
      walk_at "dl"
      refine ⟨c, ?_⟩
      have m1 := Int.emod_nonneg a (show b ≠ 0 by omega)
      have m2 := Int.emod_lt_of_pos a c
      exact hK _ _ _ (by omega) ⟨rfl, _, _, rfl, b0, m1, by unfold Bd at *; omega, by rw [gstep a0 c]; exact hg, rfl⟩
    · rw [decide_eq_false c]
      walk_at "dl"
      have e : b = 0 := by omega
      subst e
      rw [Int.gcd_zero_right] at hg
      rw [← hg] at h
      have e2 : ((a.natAbs : Nat) : Int) = a := by omega
      rw [e2] at h
      exact h
  · split <;> split <;> simp
theorem lowp_ev {u : SA.P} (hu : u ≠ SA.O) (b1 : Bd u.1) (b2 : Bd u.2) (h : Q (pd (SA.lw u)) μ) : sp_lowest_pair [pd u] μ Q Xd := by
  have g0 := SA.gcd_pos hu
  have gb : Bd (Int.gcd u.1 u.2 : Int) := by
    rw [SA.nz] at hu
    unfold Bd at *
    by_cases c : u.1 = 0
    · have : Int.gcd u.1 u.2 ≤ u.2.natAbs := Nat.le_of_dvd (by omega) (Int.gcd_dvd_natAbs_right u.1 u.2)
      omega
    · have : Int.gcd u.1 u.2 ≤ u.1.natAbs := Nat.le_of_dvd (by omega) (Int.gcd_dvd_natAbs_left u.1 u.2)
      omega
  unfold sp_lowest_pair w_lowest_pair
  walk_at "dl"
  refine cdiv_ev b2 ?_
  walk_at "dl"
  exact ⟨cd_bd g0 gb, cd_bd g0 gb, h⟩

/-! rules -/
inductive Rl where
  | tab (bs : List Bool)
  | half (w : SA.P) (ah : Bool)
def rlD : Rl → D
  | .tab bs => .obj "Table" ["truths"] [.lst (bs.map D.bl)]
  | .half w ah => .obj "Half" ["own_way", "own_ahead"] [pd w, .bl ah]
def tR (bs : List Bool) (d : SA.P) : Bool := (bs[(SO.kd d).toNat]?).getD false
def rlR : Rl → SA.P → Bool
  | .tab bs => tR bs
  | .half w ah => SA.hf w ah
def RlOk : Rl → Prop
  | .tab _ => False
  | .half w _ => w ≠ SA.O ∧ BP w
theorem half_has {w d : SA.P} {ah : Bool} (b1 : Bd w.1) (b2 : Bd w.2) (b3 : Bd d.1) (b4 : Bd d.2) (h : Q (.bl (SA.hf w ah d)) μ) : sp_Half_has [rlD (.half w ah), pd d] μ Q Xd := by
  unfold sp_Half_has w_Half_has rlD
  unfold SA.hf SA.cr at h
  walk_at "dl"
  refine cross_ev (cm_bd b1 b4) (cm_bd b2 b3) ?_
  walk_at "dl"
  by_cases c : w.1 * d.2 - w.2 * d.1 = 0
  · rw [if_neg (by omega)] at h
    rw [decide_eq_true c]
    walk_at "dl"
    refine ⟨cm_bd b3 b1, cm_bd b4 b2, ?_⟩
    walk_at "dl"
    cases ah <;> by_cases g : 0 < d.1 * w.1 + d.2 * w.2 <;> simp only [g, decide_true, decide_false] at h ⊢ <;> exact h
  · rw [if_pos c] at h
    rw [decide_eq_false c]
    walk_at "dl"
    exact h
theorem isow_ev {r : Rl} {t : SA.T3} {p : SA.P} (ok : RlOk r) (g : SA.Good t) (bt : BT t) (bp : BP p) (h : Q (.bl (SA.own (rlR r) t p)) μ) : sp_is_owned [rlD r, .lst [pd t.a, pd t.b, pd t.c], pd p] μ Q Xd := by
  obtain ⟨a, b, c⟩ := t
  obtain ⟨ba, bb, bc⟩ := bt
  simp only at ba bb bc
  have nz3 := SA.sd_ne g
  have hall : SA.own (rlR r) ⟨a, b, c⟩ p = [(a, b), (b, c), (c, a)].all fun w => SA.wOwn (rlR r) w.1 w.2 p := by
    unfold SA.own
    simp
  rw [hall] at h
  unfold sp_is_owned w_is_owned
  walk_at "go"
  refine ways_ev ?_
  walk_at "go"
  refine forL_pre (α := SA.P × SA.P) (f := wyD) (l := [(a, b), (b, c), (c, a)]) (fun pre ρ μ' => μ' = μ ∧ (∀ w ∈ pre, SA.wOwn (rlR r) w.1 w.2 p = true) ∧ ∃ s3 s4 s5 : Sl, ρ = [.v (rlD r), .v (.lst [pd a, pd b, pd c]), .v (pd p), s3, s4, s5])
    (fun pre w post e ρ μ' K hI hK => ?_) (fun ρ μ' hI => ?_) ⟨rfl, fun t ht => (nomatch ht), _, _, _, rfl⟩
  · obtain ⟨rfl, yes, s3, s4, s5, rfl⟩ := hI
    have hw : w ∈ [(a, b), (b, c), (c, a)] := by rw [e]; simp
    have bw : BP w.1 ∧ BP w.2 ∧ SA.sb w.2 w.1 ≠ SA.O := by
      simp only [List.mem_cons, List.not_mem_nil, or_false] at hw
      rcases hw with rfl | rfl | rfl
      · exact ⟨ba, bb, nz3.1⟩
      · exact ⟨bb, bc, nz3.2.1⟩
      · exact ⟨bc, ba, nz3.2.2⟩
    have no : SA.wOwn (rlR r) w.1 w.2 p = false → Q (.bl false) μ' := fun z => by
      have q : ([(a, b), (b, c), (c, a)].all fun w => SA.wOwn (rlR r) w.1 w.2 p) = false := by
        rw [List.all_eq_false]
        exact ⟨w, hw, by simp [z]⟩
      rw [q] at h
      exact h
    have go : SA.wOwn (rlR r) w.1 w.2 p = true → ∀ ρ', (∃ s3 s4 s5 : Sl, ρ' = [.v (rlD r), .v (.lst [pd a, pd b, pd c]), .v (pd p), s3, s4, s5]) → K ρ' μ' := fun z ρ' hρ => hK _ _ ⟨rfl, fun w' hw' => by
      rcases List.mem_append.mp hw' with q | q
      · exact yes w' q
      · rw [List.mem_singleton] at q
        rw [q, z], hρ⟩
    clear hK e yes h
    unfold wyD
    walk_at "go"
    refine sdp_ev bw.1 bw.2.1 bp ?_
    walk_at "go"
    by_cases l : SA.sd w.1 w.2 p < 0
    · rw [decide_eq_true l]
      walk_at "go"
      refine no ?_
      unfold SA.wOwn
      rw [decide_eq_false (by omega), decide_eq_false (by omega)]
      rfl
    rw [decide_eq_false l]
    walk_at "go"
    by_cases z : SA.sd w.1 w.2 p = 0
    · rw [SA.wOwn_zero z] at no go
      rw [decide_eq_true z]
      walk_at "go"
      cases r with
      | tab bs => exact ok.elim
      | half hw ah =>
        unfold rlD
        walk_at "go"
        refine lessp_ev ?_
        walk_at "go"
        refine half_has (b6bd ok.2.1) (b6bd ok.2.2) (bd6 bw.2.1.1 bw.1.1) (bd6 bw.2.1.2 bw.1.2) ?_
        cases v : SA.hf hw ah (SA.sb w.2 w.1)
        · walk_at "go"
          exact no v
        · walk_at "go"
          exact go v _ ⟨_, _, _, rfl⟩
    · rw [decide_eq_false z]
      walk_at "go"
      exact go (SA.wOwn_pos (by omega)) _ ⟨_, _, _, rfl⟩
  · obtain ⟨rfl, yes, s3, s4, s5, rfl⟩ := hI
    walk_at "go"
    refine b_go (F := fun b μ => Q (.bl b) μ) ?_ h
    exact (List.all_eq_true.mpr yes).symm

theorem pof_ev {x y : Int} (h : Q (pt x y) μ) : sp_point_of [pr x y] μ Q Xd := by
  unfold sp_point_of w_point_of
  walk_at "dl"
  refine point_init ?_
  exact h

theorem half_init {Q : List Str → List D → Mu → Prop} {w : SA.P} {ah : Bool} {d : D} (hd : IsP d w.1 w.2) (hw : w ≠ SA.O) (b1 : Bd w.1) (b2 : Bd w.2) (h : Q ["own_way", "own_ahead"] [pd (SA.lw w), .bl ah] μ) : sp_Half_init [d, .bl ah] μ Q Xd := by
  have e0 : (decide (w.1 = 0) && decide (w.2 = 0)) = false := by
    rw [SA.nz] at hw
    rw [Bool.and_eq_false_iff, decide_eq_false_iff_not, decide_eq_false_iff_not]
    omega
  unfold sp_Half_init w_Half_init
  refine ⟨rfl, fun x => ?_⟩
  walk_at "dl"
  unfold sp_way_in w_way_in
  walk_at "dl"
  refine nums hd ?_
  walk_at "dl"
  try simp only [Bool.and_true]
  rw [e0]
  walk_at "dl"
  refine lowp_ev hw b1 b2 ?_
  walk_at "dl"
  unfold sp_check_ahead w_check_ahead
  walk_at "dl"
  exact h

/-- the pool's cell, with other cells behind it -/
def pc (μ : Mu) (d e : D) (ν : Mu) : Mu := μ ++ .lst [d, e] :: ν
theorem pc_get {μ ν : Mu} {d e : D} : (pc μ d e ν)[μ.length]? = some (.lst [d, e]) := by
  unfold pc
  rw [List.getElem?_append_right (Nat.le_refl _), Nat.sub_self]
  rfl
theorem pc_set {μ ν : Mu} {d e : D} {c : Cell} : (pc μ d e ν).set μ.length c = μ ++ c :: ν := by
  unfold pc
  rw [List.set_append_right _ _ (Nat.le_refl _), Nat.sub_self]
  rfl
theorem pc_items {μ ν : Mu} {d e : D} : itemsD (.loc μ.length) (pc μ d e ν) = some [d, e] := by
  show (match (pc μ d e ν)[μ.length]? with
    | some (.lst ds) => some ds
    | _ => none) = _
  rw [pc_get]
theorem pc_st0 {μ ν : Mu} {d e x : D} {k : Mu → Prop} : stL (.loc μ.length) (.int 0) x (pc μ d e ν) k = k (pc μ x e ν) := by
  unfold stL
  simp only
  rw [pc_get]
  simp only
  rw [show ixN [d, e].length 0 = some 0 from rfl]
  simp only
  rw [pc_set]
  rfl
theorem pc_st1 {μ ν : Mu} {d e x : D} {k : Mu → Prop} : stL (.loc μ.length) (.int 1) x (pc μ d e ν) k = k (pc μ d x ν) := by
  unfold stL
  simp only
  rw [pc_get]
  simp only
  rw [show ixN [d, e].length 1 = some 1 from rfl]
  simp only
  rw [pc_set]
  rfl
theorem pc_app {μ ν xs : Mu} {d e : D} : pc μ d e ν ++ xs = pc μ d e (ν ++ xs) := by
  unfold pc
  rw [List.append_assoc, List.cons_append]
def pcn (μ ν : Mu) : Nat := μ.length + 1 + ν.length
theorem pc_len {μ ν : Mu} {d e : D} : (pc μ d e ν).length = pcn μ ν := by
  unfold pc pcn
  rw [List.length_append, List.length_cons]
  omega
theorem pcl_get {μ ν : Mu} {d e : D} {c : Cell} : (pc μ d e (ν ++ [c]))[pcn μ ν]? = some c := by
  rw [← pc_app, ← pc_len (d := d) (e := e)]
  exact List.getElem?_concat_length
theorem pcl_set {μ ν : Mu} {d e : D} {c c' : Cell} : (pc μ d e (ν ++ [c])).set (pcn μ ν) c' = pc μ d e (ν ++ [c']) := by
  rw [← pc_app, ← pc_app, ← pc_len (d := d) (e := e), List.set_append_right _ _ (Nat.le_refl _), Nat.sub_self]
  rfl
theorem pcl_items {μ ν : Mu} {d e : D} {ds : List D} : itemsD (.loc (pcn μ ν)) (pc μ d e (ν ++ [.lst ds])) = some ds := by
  show (match (pc μ d e (ν ++ [.lst ds]))[pcn μ ν]? with
    | some (.lst ds) => some ds
    | _ => none) = _
  rw [pcl_get]
theorem pcl_isC {μ ν : Mu} {d e : D} {ds : List D} {k : Prop} : isC (.loc (pcn μ ν)) (pc μ d e (ν ++ [.lst ds])) k = k := by
  unfold isC
  simp only
  rw [pcl_get]
theorem pcl_pop {μ ν : Mu} {d e x : D} {ds : List D} {j : Int} {Q : D → Mu → Prop} (h0 : 0 ≤ j) (h1 : j < 2 ^ 62) (hx : ds[j.toNat]? = some x) (h : Q x (pc μ d e (ν ++ [.lst (ds.eraseIdx j.toNat)]))) : popL (.loc (pcn μ ν)) (.int j) (pc μ d e (ν ++ [.lst ds])) Q := by
  unfold popL
  simp only
  rw [pcl_get]
  simp only
  refine ⟨h0, h1, ?_⟩
  rw [hx, pcl_set]
  exact h
theorem drawN_ev {ν : Mu} {p q many : Int} (ok : PoolOk p q) (h1 : 1 ≤ many) (h2 : Bd many) (h : ∀ r p' q', PoolOk p' q' → 0 ≤ r → r < many → Q (.int r) (pc μ (.int p') (.int q') ν)) : sp__law_draw [.loc μ.length, .int many] (pc μ (.int p) (.int q) ν) Q Xd := by
  obtain ⟨p0, q0, q1⟩ := ok
  unfold sp__law_draw w__law_draw
  walk_at "dl"
  simp only [pc_items]
  walk_at "dl"
  by_cases c : 0 < p
  · rw [decide_eq_true c]
    walk_at "dl"
    simp only [pc_items]
    walk_at "dl"
    simp only [pc_st0, pc_items]
    walk_at "dl"
    refine ⟨by omega, cd_bd (by omega) h2, ?_⟩
    simp only [pc_st0, pc_items]
    walk_at "dl"
    exact h _ _ _ ⟨Int.ediv_nonneg p0 (by omega), q0, q1⟩ (Int.emod_nonneg _ (by omega)) (Int.emod_lt_of_pos _ (by omega))
  · rw [decide_eq_false c]
    walk_at "dl"
    have m1 := Int.emod_nonneg (q * 48271 + 11) (show (2147483647 : Int) ≠ 0 by decide)
    have m2 := Int.emod_lt_of_pos (q * 48271 + 11) (show (0 : Int) < 2147483647 by decide)
    simp only [pc_items]
    walk_at "dl"
    refine ⟨cm_bd (by unfold Bd; omega) (by unfold Bd; omega), ?_⟩
    generalize (q * 48271 + 11) % 2147483647 = q' at m1 m2 ⊢
    simp only [pc_st1, pc_items]
    walk_at "dl"
    simp only [pc_items]
    walk_at "dl"
    try simp only [pc_items]
    walk_at "dl"
    exact ⟨cm_bd (by unfold Bd; omega) (by unfold Bd; omega), cd_bd (by omega) (by unfold Bd; omega), by omega, h _ _ _ ⟨p0, m1, m2⟩ (Int.emod_nonneg _ (by omega)) (Int.emod_lt_of_pos _ (by omega))⟩

theorem lpairN_ev {ν : Mu} {p q : Int} {n : Nat} (ok : PoolOk p q) (hn : n ≤ 1000) (h : ∀ x y p' q', PoolOk p' q' → -(n : Int) ≤ x → x ≤ n → -(n : Int) ≤ y → y ≤ n → Q (pr x y) (pc μ (.int p') (.int q') ν)) : sp__law_pair [.loc μ.length, .int n] (pc μ (.int p) (.int q) ν) Q Xd := by
  unfold sp__law_pair w__law_pair
  walk_at "dl"
  refine ⟨cm_bd (by unfold Bd; omega) (by unfold Bd; omega), drawN_ev ok (by omega) (by unfold Bd; omega) fun r p1 q1 ok1 r0 r1 => ?_⟩
  walk_at "dl"
  refine ⟨cm_bd (by unfold Bd; omega) (by unfold Bd; omega), drawN_ev ok1 (by omega) (by unfold Bd; omega) fun r2 p2 q2 ok2 r3 r4 => ?_⟩
  walk_at "dl"
  exact h _ _ _ _ ok2 (by omega) (by omega) (by omega) (by omega)
theorem btw_ev {i lo hi : Int} (h : Q (.bl (decide (lo ≤ i) && decide (i ≤ hi))) μ) : sp_is_between [.int i, .int lo, .int hi] μ Q Xd := by
  unfold sp_is_between w_is_between
  walk_at "go"
  refine ii_int ?_
  walk_at "go"
  by_cases c : lo ≤ i
  · rw [decide_eq_true c] at h ⊢
    walk_at "go"
    exact h
  · rw [decide_eq_false c] at h ⊢
    walk_at "go"
    exact h
abbrev T3i : Type := Nat × Nat × Nat
def triD (t : T3i) : D := .tup [.int (t.1 : Nat), .int (t.2.1 : Nat), .int (t.2.2 : Nat)]
def netD (ps : List SA.P) (tr : List T3i) : D := .obj "Net" ["pairs", "own_triples"] [.lst (ps.map pd), .lst (tr.map triD)]
def netC (ps : List SA.P) (tr : List T3i) : Cell := .ins "Net" ["pairs", "own_triples"] [.lst (ps.map pd), .lst (tr.map triD)]
theorem enumf_mem {α : Type} {f : α → D} {l : List α} {d : D} (h : d ∈ enumD (l.map f)) : ∃ (i : Nat) (a : α), a ∈ l ∧ d = .tup [.int i, f a] := by
  unfold enumD at h
  obtain ⟨i, hi⟩ := List.getElem?_of_mem h
  rw [List.getElem?_mapIdx, List.getElem?_map] at hi
  cases e : l[i]? with
  | none => rw [e] at hi; cases hi
  | some t =>
    rw [e] at hi
    cases hi
    exact ⟨i, t, List.mem_of_getElem? e, rfl⟩
theorem chkp_ev {f : SA.P → D} {ps : List SA.P} {d : D} (hd : IsL μ d (ps.map f)) (hf : ∀ p, IsP (f p) p.1 p.2) (hl : ps.length ≤ 100) (h : Q .non μ) : sp_check_points [d] μ Q Xd := by
  have hd' := hd
  unfold sp_check_points w_check_points
  rcases hd with rfl | ⟨n, rfl, en⟩
  all_goals
    walk_at "gn"
    try simp only [en]
    walk_at "gn"
    try simp only [isL_items hd']
    walk_at "gn"
    rw [List.length_map, decide_eq_false (show ¬ ((100 : Int) < (ps.length : Nat)) by omega)]
    walk_at "gn"
    refine KWic_go hd' fun C hC => ?_
    show forLC _ _ _ C _ _ _
  · refine forLC_inv (fun ρ μ' => μ' = μ ∧ ∃ s1 s2, ρ = [.v (.lst (ps.map f)), s1, s2]) (fun ρ μ' hI => hI.1 ▸ hC) (fun ρ μ' hI => ?_) (fun d hd ρ μ' K hI hK => ?_) ⟨rfl, _, _, rfl⟩
    · obtain ⟨rfl, s1, s2, rfl⟩ := hI
      walk_at "gn"
      exact h
    · obtain ⟨rfl, s1, s2, rfl⟩ := hI
      obtain ⟨i, t, _, rfl⟩ := enumf_mem hd
      walk_at "gn"
      refine nums (hf t) ?_
      walk_at "gn"
      exact hK _ _ ⟨rfl, _, _, rfl⟩
  · refine forLC_inv (fun ρ μ' => μ' = μ ∧ ∃ s1 s2, ρ = [.v (.loc n), s1, s2]) (fun ρ μ' hI => hI.1 ▸ hC) (fun ρ μ' hI => ?_) (fun d hd ρ μ' K hI hK => ?_) ⟨rfl, _, _, rfl⟩
    · obtain ⟨rfl, s1, s2, rfl⟩ := hI
      walk_at "gn"
      exact h
    · obtain ⟨rfl, s1, s2, rfl⟩ := hI
      obtain ⟨i, t, _, rfl⟩ := enumf_mem hd
      walk_at "gn"
      refine nums (hf t) ?_
      walk_at "gn"
      exact hK _ _ ⟨rfl, _, _, rfl⟩
def TrOk3 (n : Nat) (t : T3i) : Prop := (t.1 < n ∧ t.2.1 < n ∧ t.2.2 < n) ∧ t.1 ≠ t.2.1 ∧ t.2.1 ≠ t.2.2 ∧ t.2.2 ≠ t.1
theorem istr_ev {t : T3i} {n : Nat} (ok : TrOk3 n t) (h : Q (.bl true) μ) : sp_is_triple [triD t, .int (n : Nat)] μ Q Xd := by
  obtain ⟨a, b, c⟩ := t
  obtain ⟨⟨h1, h2, h3⟩, n1, n2, n3⟩ := ok
  simp only at h1 h2 h3 n1 n2 n3
  unfold sp_is_triple w_is_triple triD
  walk_at "gn"
  refine btw_ev ?_
  rw [decide_eq_true (by omega), decide_eq_true (by omega)]
  walk_at "gn"
  refine btw_ev ?_
  rw [decide_eq_true (by omega), decide_eq_true (by omega)]
  walk_at "gn"
  refine btw_ev ?_
  rw [decide_eq_true (by omega), decide_eq_true (by omega)]
  walk_at "gn"
  refine ⟨[true, true, true], rfl, ?_⟩
  walk_at "gn"
  rw [show (!(id true && (id true && id true))) = false from rfl]
  walk_at "gn"
  rw [decide_eq_false (show ¬ (((a : Nat) : Int) = (b : Nat)) by omega)]
  walk_at "gn"
  rw [decide_eq_false (show ¬ (((b : Nat) : Int) = (c : Nat)) by omega)]
  walk_at "gn"
  rw [decide_eq_false (show ¬ (((c : Nat) : Int) = (a : Nat)) by omega)]
  walk_at "gn"
  exact h
theorem chkt_ev {tr : List T3i} {n : Nat} {d : D} (hd : IsL μ d (tr.map triD)) (ok : ∀ t ∈ tr, TrOk3 n t) (hl : tr.length ≤ 100) (h : Q .non μ) : sp_check_triples [d, .int (n : Nat)] μ Q Xd := by
  have hd' := hd
  unfold sp_check_triples w_check_triples
  rcases hd with rfl | ⟨m, rfl, en⟩
  all_goals
    walk_at "gn"
    try simp only [en]
    walk_at "gn"
    try simp only [isL_items hd']
    walk_at "gn"
    rw [List.length_map, decide_eq_false (show ¬ ((100 : Int) < (tr.length : Nat)) by omega)]
    walk_at "gn"
    refine KWic_go hd' fun C hC => ?_
    show forLC _ _ _ C _ _ _
  · refine forLC_inv (fun ρ μ' => μ' = μ ∧ ∃ s1 s2, ρ = [.v (.lst (tr.map triD)), .v (.int (n : Nat)), s1, s2]) (fun ρ μ' hI => hI.1 ▸ hC) (fun ρ μ' hI => ?_) (fun d hd ρ μ' K hI hK => ?_) ⟨rfl, _, _, rfl⟩
    · obtain ⟨rfl, s1, s2, rfl⟩ := hI
      walk_at "gn"
      exact h
    · obtain ⟨rfl, s1, s2, rfl⟩ := hI
      obtain ⟨i, t, ht, rfl⟩ := enumf_mem hd
      walk_at "gn"
      refine istr_ev (ok t ht) ?_
      walk_at "gn"
      exact hK _ _ ⟨rfl, _, _, rfl⟩
  · refine forLC_inv (fun ρ μ' => μ' = μ ∧ ∃ s1 s2, ρ = [.v (.loc m), .v (.int (n : Nat)), s1, s2]) (fun ρ μ' hI => hI.1 ▸ hC) (fun ρ μ' hI => ?_) (fun d hd ρ μ' K hI hK => ?_) ⟨rfl, _, _, rfl⟩
    · obtain ⟨rfl, s1, s2, rfl⟩ := hI
      walk_at "gn"
      exact h
    · obtain ⟨rfl, s1, s2, rfl⟩ := hI
      obtain ⟨i, t, ht, rfl⟩ := enumf_mem hd
      walk_at "gn"
      refine istr_ev (ok t ht) ?_
      walk_at "gn"
      exact hK _ _ ⟨rfl, _, _, rfl⟩
theorem net_init {Q : List Str → List D → Mu → Prop} {f : SA.P → D} {ps : List SA.P} {tr : List T3i} {d e : D} (hd : IsL μ d (ps.map f)) (he : IsL μ e (tr.map triD)) (hf : ∀ p, IsP (f p) p.1 p.2) (hl : ps.length ≤ 100) (ht : tr.length ≤ 100) (ok : ∀ t ∈ tr, TrOk3 ps.length t) (h : Q ["pairs", "own_triples"] [.lst (ps.map pd), .lst (tr.map triD)] μ) : sp_Net_init [d, e] μ Q Xd := by
  have ed := isL_items hd
  have ee := isL_items he
  unfold sp_Net_init w_Net_init
  refine ⟨rfl, fun x => ?_⟩
  walk_at "gn"
  refine chkp_ev hd hf hl ?_
  walk_at "gn"
  rw [ed]
  walk_at "gn"
  rw [List.length_map]
  refine chkt_ev he ok ht ?_
  walk_at "gn"
  refine KWic_go hd fun C hC => ?_
  walk_at "gn"
  refine lcLC_mp (α := SA.P) (f := f) (l := ps) pd hC (fun p hp K hK => ?_) (by omega) ?_
  · walk_at "gn"
    refine nums (hf p) ?_
    walk_at "gn"
    exact hK
  walk_at "gn"
  rw [ee]
  walk_at "gn"
  exact h
def atP (ps : List SA.P) (i : Nat) : SA.P := (ps[i]?).getD (0, 0)
def NetOk (ps : List SA.P) (tr : List T3i) : Prop := ps.length ≤ 100 ∧ tr.length ≤ 100 ∧ (∀ p ∈ ps, BP p) ∧ ∀ t ∈ tr, t.1 < ps.length ∧ t.2.1 < ps.length ∧ t.2.2 < ps.length
theorem atP_at {ps : List SA.P} {i : Nat} (h : i < ps.length) : atI (ps.map pd) ((i : Nat) : Int) = some (pd (atP ps i)) := by
  rw [DL.atI_nat, List.getElem?_map, List.getElem?_eq_getElem h]
  unfold atP
  rw [List.getElem?_eq_getElem h]
  rfl
theorem atP_bp {ps : List SA.P} (hb : ∀ p ∈ ps, BP p) {i : Nat} (h : i < ps.length) : BP (atP ps i) := by
  unfold atP
  rw [List.getElem?_eq_getElem h]
  exact hb _ (List.getElem_mem h)
def IsN (μ : Mu) (d : D) (ps : List SA.P) (tr : List T3i) : Prop := d = netD ps tr ∨ ∃ n, d = .loc n ∧ μ[n]? = some (netC ps tr)
theorem isN_o {μ : Mu} {ps : List SA.P} {tr : List T3i} : IsN μ (netD ps tr) ps tr := .inl rfl
theorem isP_pd (p : SA.P) : IsP (pd p) p.1 p.2 := .inl rfl
theorem corn_ev {d : D} {ps : List SA.P} {tr : List T3i} {t : T3i} (hd : IsN μ d ps tr) (h1 : t.1 < ps.length) (h2 : t.2.1 < ps.length) (h3 : t.2.2 < ps.length) (h : Q (.lst [pd (atP ps t.1), pd (atP ps t.2.1), pd (atP ps t.2.2)]) μ) : sp_Net_corners_of [d, triD t] μ Q Xd := by
  unfold sp_Net_corners_of w_Net_corners_of triD
  rcases hd with rfl | ⟨n, rfl, en⟩
  · unfold netD
    walk_at "gn"
    rw [atP_at h1]
    walk_at "gn"
    rw [atP_at h2]
    walk_at "gn"
    rw [atP_at h3]
    walk_at "gn"
    exact h
  · unfold netC at en
    walk_at "gn"
    simp only [en]
    walk_at "gn"
    rw [atP_at h1]
    walk_at "gn"
    simp only [en]
    walk_at "gn"
    rw [atP_at h2]
    walk_at "gn"
    simp only [en]
    walk_at "gn"
    rw [atP_at h3]
    walk_at "gn"
    exact h
def aheads (w : SA.P) (ah : Bool) (ps : List SA.P) (tr : List T3i) (p : SA.P) : Nat := tr.countP fun t => SA.ahead w ah (atP ps t.1) (atP ps t.2.1) (atP ps t.2.2) p
def backs (w : SA.P) (ah : Bool) (ps : List SA.P) (tr : List T3i) (p : SA.P) : Nat := tr.countP fun t => SA.back w ah (atP ps t.1) (atP ps t.2.1) (atP ps t.2.2) p
theorem oc_ev {w p : SA.P} {ah : Bool} {ps : List SA.P} {tr : List T3i} {nd : D} (hn : IsN μ nd ps tr) (hw : w ≠ SA.O ∧ BP w) (bp : BP p) (ok : NetOk ps tr) (h : Q (.tup [.int (aheads w ah ps tr p : Nat), .int (backs w ah ps tr p : Nat)]) μ) : sp_owner_counts [rlD (.half w ah), nd, pd p] μ Q Xd := by
  obtain ⟨hl, ht, hb, hi⟩ := ok
  have ce := fun (Q : D → Mu → Prop) (Xd : XD) (t : T3i) h1 h2 h3 h => corn_ev (ps := ps) (tr := tr) (t := t) (μ := μ) (Q := Q) (Xd := Xd) hn h1 h2 h3 h
  have oe := fun (μ : Mu) (Q : D → Mu → Prop) (Xd : XD) (t : SA.T3) g bt h => isow_ev (r := .half w ah) (t := t) (p := p) (μ := μ) (Q := Q) (Xd := Xd) hw g bt bp h
  unfold sp_owner_counts w_owner_counts
  unfold rlD at oe ⊢
  rcases hn with rfl | ⟨n, rfl, en⟩
  · unfold netD at ce ⊢
    walk_at "gn"
    refine forL_pre (α := T3i) (f := triD) (l := tr) (fun pre ρ μ' => μ' = μ ∧ ∃ s5 s6 s7 s8 s9 : Sl, ρ = [.v (.obj "Half" ["own_way", "own_ahead"] [pd w, .bl ah]), .v (.obj "Net" ["pairs", "own_triples"] [.lst (ps.map pd), .lst (tr.map triD)]), .v (pd p), .v (.int (aheads w ah ps pre p : Nat)), .v (.int (backs w ah ps pre p : Nat)), s5, s6, s7, s8, s9])
      (fun pre t post e ρ μ' K hI hK => ?_) (fun ρ μ' hI => ?_) ⟨rfl, _, _, _, _, _, rfl⟩
    · obtain ⟨rfl, s5, s6, s7, s8, s9, rfl⟩ := hI
      have htm : t ∈ tr := by rw [e]; simp
      obtain ⟨i1, i2, i3⟩ := hi t htm
      have ba := atP_bp hb i1
      have bb := atP_bp hb i2
      have bc := atP_bp hb i3
      have cA : aheads w ah ps (pre ++ [t]) p = aheads w ah ps pre p + (if SA.ahead w ah (atP ps t.1) (atP ps t.2.1) (atP ps t.2.2) p then 1 else 0) := by
        unfold aheads
        rw [List.countP_append, List.countP_cons, List.countP_nil]
        simp
      have cB : backs w ah ps (pre ++ [t]) p = backs w ah ps pre p + (if SA.back w ah (atP ps t.1) (atP ps t.2.1) (atP ps t.2.2) p then 1 else 0) := by
        unfold backs
        rw [List.countP_append, List.countP_cons, List.countP_nil]
        simp
      rw [cA, cB] at hK
      generalize aheads w ah ps pre p = A at *
      generalize backs w ah ps pre p = B at *
      walk_at "gn"
      refine ce _ _ t i1 i2 i3 ?_
      generalize atP ps t.1 = a at *
      generalize atP ps t.2.1 = b at *
      generalize atP ps t.2.2 = c at *
      walk_at "gn"
      refine sdp_ev ba bb bc ?_
      walk_at "gn"
      unfold SA.ahead SA.back at hK
      have go : ∀ (x y : Int) (s5 s6 s7 s8 s9 : Sl), x = ((A + (if (decide (0 < SA.sd a b c) && SA.own (SA.hf w ah) ⟨a, b, c⟩ p) = true then 1 else 0) : Nat) : Int) → y = ((B + (if (decide (SA.sd a b c < 0) && SA.own (SA.hf w ah) ⟨a, c, b⟩ p) = true then 1 else 0) : Nat) : Int) → K [.v (.obj "Half" ["own_way", "own_ahead"] [pd w, .bl ah]), .v (.obj "Net" ["pairs", "own_triples"] [.lst (ps.map pd), .lst (tr.map triD)]), .v (pd p), .v (.int x), .v (.int y), s5, s6, s7, s8, s9] μ' := fun x y s5 s6 s7 s8 s9 ex ey => by
        rw [ex, ey]
        exact hK _ _ ⟨rfl, _, _, _, _, _, rfl⟩
      by_cases c1 : 0 < SA.sd a b c
      · have c2 : ¬ SA.sd a b c < 0 := by omega
        rw [decide_eq_true c1] at *
        walk_at "gn"
        refine oe _ _ _ ⟨a, b, c⟩ c1 ⟨ba, bb, bc⟩ ?_
        cases o : SA.own (rlR (.half w ah)) ⟨a, b, c⟩ p
        · have o' : SA.own (SA.hf w ah) ⟨a, b, c⟩ p = false := o
          walk_at "gn"
          rw [decide_eq_false c2]
          walk_at "gn"
          exact go _ _ _ _ _ _ _ (by rw [o']; simp) (by simp [c2])
        · have o' : SA.own (SA.hf w ah) ⟨a, b, c⟩ p = true := o
          walk_at "gn"
          rw [decide_eq_false c2]
          walk_at "gn"
          exact go _ _ _ _ _ _ _ (by rw [o']; simp) (by simp [c2])
      · rw [decide_eq_false c1] at *
        walk_at "gn"
        by_cases c2 : SA.sd a b c < 0
        · have g : SA.Good ⟨a, c, b⟩ := by
            unfold SA.Good
            simp only
            have : SA.sd a c b = - SA.sd a b c := by unfold SA.sd; grind
            omega
          rw [decide_eq_true c2] at *
          walk_at "gn"
          refine oe _ _ _ ⟨a, c, b⟩ g ⟨ba, bc, bb⟩ ?_
          cases o : SA.own (rlR (.half w ah)) ⟨a, c, b⟩ p
          · have o' : SA.own (SA.hf w ah) ⟨a, c, b⟩ p = false := o
            walk_at "gn"
            exact go _ _ _ _ _ _ _ (by simp) (by rw [o']; simp)
          · have o' : SA.own (SA.hf w ah) ⟨a, c, b⟩ p = true := o
            walk_at "gn"
            exact go _ _ _ _ _ _ _ (by simp) (by rw [o']; simp)
        · rw [decide_eq_false c2] at *
          walk_at "gn"
          exact go _ _ _ _ _ _ _ (by simp) (by simp)
    · obtain ⟨rfl, s5, s6, s7, s8, s9, rfl⟩ := hI
      walk_at "gn"
      exact h
  · unfold netC at en
    walk_at "gn"
    simp only [en]
    walk_at "gn"
    refine forL_pre (α := T3i) (f := triD) (l := tr) (fun pre ρ μ' => μ' = μ ∧ ∃ s5 s6 s7 s8 s9 : Sl, ρ = [.v (.obj "Half" ["own_way", "own_ahead"] [pd w, .bl ah]), .v (.loc n), .v (pd p), .v (.int (aheads w ah ps pre p : Nat)), .v (.int (backs w ah ps pre p : Nat)), s5, s6, s7, s8, s9])
      (fun pre t post e ρ μ' K hI hK => ?_) (fun ρ μ' hI => ?_) ⟨rfl, _, _, _, _, _, rfl⟩
    · obtain ⟨rfl, s5, s6, s7, s8, s9, rfl⟩ := hI
      have htm : t ∈ tr := by rw [e]; simp
      obtain ⟨i1, i2, i3⟩ := hi t htm
      have ba := atP_bp hb i1
      have bb := atP_bp hb i2
      have bc := atP_bp hb i3
      have cA : aheads w ah ps (pre ++ [t]) p = aheads w ah ps pre p + (if SA.ahead w ah (atP ps t.1) (atP ps t.2.1) (atP ps t.2.2) p then 1 else 0) := by
        unfold aheads
        rw [List.countP_append, List.countP_cons, List.countP_nil]
        simp
      have cB : backs w ah ps (pre ++ [t]) p = backs w ah ps pre p + (if SA.back w ah (atP ps t.1) (atP ps t.2.1) (atP ps t.2.2) p then 1 else 0) := by
        unfold backs
        rw [List.countP_append, List.countP_cons, List.countP_nil]
        simp
      rw [cA, cB] at hK
      generalize aheads w ah ps pre p = A at *
      generalize backs w ah ps pre p = B at *
      walk_at "gn"
      simp only [en]
      walk_at "gn"
      refine ce _ _ t i1 i2 i3 ?_
      generalize atP ps t.1 = a at *
      generalize atP ps t.2.1 = b at *
      generalize atP ps t.2.2 = c at *
      walk_at "gn"
      refine sdp_ev ba bb bc ?_
      walk_at "gn"
      unfold SA.ahead SA.back at hK
      have go : ∀ (x y : Int) (s5 s6 s7 s8 s9 : Sl), x = ((A + (if (decide (0 < SA.sd a b c) && SA.own (SA.hf w ah) ⟨a, b, c⟩ p) = true then 1 else 0) : Nat) : Int) → y = ((B + (if (decide (SA.sd a b c < 0) && SA.own (SA.hf w ah) ⟨a, c, b⟩ p) = true then 1 else 0) : Nat) : Int) → K [.v (.obj "Half" ["own_way", "own_ahead"] [pd w, .bl ah]), .v (.loc n), .v (pd p), .v (.int x), .v (.int y), s5, s6, s7, s8, s9] μ' := fun x y s5 s6 s7 s8 s9 ex ey => by
        rw [ex, ey]
        exact hK _ _ ⟨rfl, _, _, _, _, _, rfl⟩
      by_cases c1 : 0 < SA.sd a b c
      · have c2 : ¬ SA.sd a b c < 0 := by omega
        rw [decide_eq_true c1] at *
        walk_at "gn"
        refine oe _ _ _ ⟨a, b, c⟩ c1 ⟨ba, bb, bc⟩ ?_
        cases o : SA.own (rlR (.half w ah)) ⟨a, b, c⟩ p
        · have o' : SA.own (SA.hf w ah) ⟨a, b, c⟩ p = false := o
          walk_at "gn"
          rw [decide_eq_false c2]
          walk_at "gn"
          exact go _ _ _ _ _ _ _ (by rw [o']; simp) (by simp [c2])
        · have o' : SA.own (SA.hf w ah) ⟨a, b, c⟩ p = true := o
          walk_at "gn"
          rw [decide_eq_false c2]
          walk_at "gn"
          exact go _ _ _ _ _ _ _ (by rw [o']; simp) (by simp [c2])
      · rw [decide_eq_false c1] at *
        walk_at "gn"
        by_cases c2 : SA.sd a b c < 0
        · have g : SA.Good ⟨a, c, b⟩ := by
            unfold SA.Good
            simp only
            have : SA.sd a c b = - SA.sd a b c := by unfold SA.sd; grind
            omega
          rw [decide_eq_true c2] at *
          walk_at "gn"
          refine oe _ _ _ ⟨a, c, b⟩ g ⟨ba, bc, bb⟩ ?_
          cases o : SA.own (rlR (.half w ah)) ⟨a, c, b⟩ p
          · have o' : SA.own (SA.hf w ah) ⟨a, c, b⟩ p = false := o
            walk_at "gn"
            exact go _ _ _ _ _ _ _ (by simp) (by rw [o']; simp)
          · have o' : SA.own (SA.hf w ah) ⟨a, c, b⟩ p = true := o
            walk_at "gn"
            exact go _ _ _ _ _ _ _ (by simp) (by rw [o']; simp)
        · rw [decide_eq_false c2] at *
          walk_at "gn"
          exact go _ _ _ _ _ _ _ (by simp) (by simp)
    · obtain ⟨rfl, s5, s6, s7, s8, s9, rfl⟩ := hI
      walk_at "gn"
      exact h
theorem deq_triD (a b : T3i) : deq (triD a) (triD b) = decide (a = b) := by
  obtain ⟨a1, a2, a3⟩ := a
  obtain ⟨b1, b2, b3⟩ := b
  unfold triD
  simp only [deq, deqs, Bool.and_true]
  rw [← Bool.decide_and, ← Bool.decide_and]
  refine decide_eq_decide.mpr ⟨fun h => ?_, fun e => ?_⟩
  · simp only [Prod.mk.injEq]
    omega
  · simp only [Prod.mk.injEq] at e
    omega
theorem P5_net (ps : List SA.P) (tr : List T3i) : P5 (.tup [.lst (ps.map pd), .lst (tr.map triD)]) = true := by
  have a : Pn (Pn (Pn (Pn P0))) (.lst (ps.map pd)) = true := all_map (p := Pn (Pn (Pn P0))) fun p => rfl
  have b : Pn (Pn (Pn (Pn P0))) (.lst (tr.map triD)) = true := all_map (p := Pn (Pn (Pn P0))) fun p => rfl
  show ([D.lst (ps.map pd), D.lst (tr.map triD)].all (Pn (Pn (Pn (Pn P0))))) = true
  rw [List.all_cons, List.all_cons, List.all_nil, a, b]
  rfl
theorem neq_ev {d e : D} {ps qs : List SA.P} {tr us : List T3i} (hd : IsN μ d ps tr) (he : IsN μ e qs us) (h : Q (.bl (decide (ps = qs) && decide (tr = us))) μ) : sp_Net_eq [d, e] μ Q Xd := by
  have fin : ∀ K : Bool → Prop, K (decide (ps = qs) && decide (tr = us)) → eqU (.tup [.lst (ps.map pd), .lst (tr.map triD)]) (.tup [.lst (qs.map pd), .lst (us.map triD)]) K := fun K hK => by
    rw [eqU_pl (P5_net ps tr) (P5_net qs us)]
    rw [show deq (.tup [.lst (ps.map pd), .lst (tr.map triD)]) (.tup [.lst (qs.map pd), .lst (us.map triD)]) = (decide (ps = qs) && decide (tr = us)) from by
      simp only [deq, deqs, Bool.and_true]
      rw [deqs_map deq_pd, deqs_map deq_triD]]
    exact hK
  unfold sp_Net_eq w_Net_eq
  rcases hd with rfl | ⟨n, rfl, en⟩
  all_goals
    rcases he with rfl | ⟨m, rfl, em⟩
    all_goals
      try unfold netC at en
      try unfold netC at em
      try unfold netD
      walk_at "gn"
      try simp only [en]
      try simp only [em]
      walk_at "gn"
      try simp only [en]
      try simp only [em]
      walk_at "gn"
      try simp only [en]
      try simp only [em]
      walk_at "gn"
      try simp only [en]
      try simp only [em]
      walk_at "gn"
      try simp only [en]
      try simp only [em]
      walk_at "gn"
      refine fin _ ?_
      exact h

theorem lside_ev {ax ay bx by_ px py : Int} (h1 : CM (bx - ax) (py - ay)) (h2 : CM (by_ - ay) (px - ax)) (h : Q (.int (sd ax ay bx by_ px py)) μ) : sp__law_side [pr ax ay, pr bx by_, pr px py] μ Q Xd := by
  unfold sp__law_side w__law_side
  walk_at "dl"
  exact ⟨h1, h2, h⟩

/-! samples -/
def slv : Sl → Bool
  | .no => true
  | .v _ => true
  | _ => false
theorem plain_go {ρ : DS} {μ : Mu} {N : Prop} (h : ρ.all slv = true) (q : N) : μ = μ ∧ NoOwn ρ ∧ (∀ (i : Nat) c ks ds, ρ[i]? ≠ some (.exn c ks ds)) ∧ N := by
  have key : ∀ (i : Nat) x, ρ[i]? = some x → slv x = true := fun i x e => List.all_eq_true.mp h x (List.mem_of_getElem? e)
  refine ⟨rfl, fun i b c e => ?_, fun i c ks ds e => ?_, q⟩
  · have := key i _ e
    cases this
  · have := key i _ e
    cases this
theorem plain_go2 {ρ : DS} {N : Prop} (h : ρ.all slv = true) (q : N) : NoOwn ρ ∧ (∀ (i : Nat) c ks ds, ρ[i]? ≠ some (.exn c ks ds)) ∧ N := (plain_go (μ := []) h q).2
abbrev gd (st rx ry : Int) : D := .obj "Grid" ["step", "rest"] [.int st, .tup [.int rx, .int ry]]
def sam (r : List SA.P) : D := .obj "Samples" ["pairs"] [.lst (r.map pd)]
theorem ff_ev {a r st : Int} (hs : 1 ≤ st) (bs : Bd st) (h : Q (.int (SP.fst a r st)) μ) : sp_first_from [.int a, .int r, .int st] μ Q Xd := by
  unfold sp_first_from w_first_from
  walk_at "dl"
  exact ⟨by omega, h⟩
theorem pairs_gen {st rx ry : Int} {lo hi : SA.P} (hs : 1 ≤ st) (bs : Bd st) : sp_pairs_between [gd st rx ry, pd lo, pd hi] ((SP.box st rx ry lo hi).map pd) := by
  refine ⟨rfl, ?_⟩
  unfold wg_pairs_between
  intro μ
  walk_at "dl"
  refine ff_ev hs bs ?_
  refine plain_go rfl ?_
  refine ⟨fun n ds ρ => ∃ y s4, slv s4 = true ∧ n = (SP.ups y st hi.2).length ∧ ds = ((SP.ups y st hi.2).flatMap fun y => (SP.ups (SP.fst lo.1 rx st) st hi.1).map fun x => (x, y)).map pd ∧ ρ = [.v (gd st rx ry), .v (pd lo), .v (pd hi), .v (.int y), s4],
    ⟨_, _, _, rfl, rfl, rfl, rfl⟩, ?_⟩
  rintro n ds ρ ⟨y, s4, h4, rfl, rfl, rfl⟩ μ1
  walk_at "dl"
  by_cases c : y ≤ hi.2
  · rw [if_pos c]
    intro μ2
    walk_at "dl"
    refine ff_ev hs bs ?_
    refine plain_go rfl ?_
    refine ⟨fun n ds ρ => ∃ x, n = (SP.ups x st hi.1).length ∧ ds = ((SP.ups x st hi.1).map (fun x => (x, y)) ++ (SP.ups (y + st) st hi.2).flatMap fun y => (SP.ups (SP.fst lo.1 rx st) st hi.1).map fun x => (x, y)).map pd ∧ ρ = [.v (gd st rx ry), .v (pd lo), .v (pd hi), .v (.int y), .v (.int x)],
      ⟨_, _, rfl, ?_, rfl⟩, ?_⟩
    · rw [SP.ups_cons hs c, List.flatMap_cons]
    rintro n ds ρ ⟨x, rfl, rfl, rfl⟩ μ3
    walk_at "dl"
    by_cases c2 : x ≤ hi.1
    · rw [if_pos c2]
      refine ⟨pd (x, y), ((SP.ups (x + st) st hi.1).map (fun x => (x, y)) ++ (SP.ups (y + st) st hi.2).flatMap fun y => (SP.ups (SP.fst lo.1 rx st) st hi.1).map fun x => (x, y)).map pd, ?_, fun μ4 => ?_⟩
      · rw [SP.ups_cons hs c2, List.map_cons, List.cons_append, List.map_cons]
      · walk_at "go"
        intro μ5
        walk_at "dl"
        refine plain_go2 rfl ?_
        refine ⟨_, ?_, x + st, rfl, rfl, rfl⟩
        rw [SP.ups_cons hs c2]
        simp
    · rw [if_neg c2]
      intro μ4
      walk_at "dl"
      refine plain_go2 rfl ?_
      refine ⟨_, ?_, y + st, .v (.int x), rfl, rfl, ?_, rfl⟩
      · rw [SP.ups_cons (a := y) hs c]
        simp
      · rw [SP.ups_nil (a := x) hs (by omega)]
        rfl
  · rw [if_neg c]
    show _ = []
    rw [SP.ups_nil (a := y) hs (by omega)]
    rfl
/-- the least and the greatest numbers -/
def BoxOf (ps : List SA.P) (lo hi : SA.P) : Prop := (∀ p ∈ ps, lo.1 ≤ p.1 ∧ p.1 ≤ hi.1 ∧ lo.2 ≤ p.2 ∧ p.2 ≤ hi.2) ∧ (∃ p ∈ ps, p.1 = lo.1) ∧ (∃ p ∈ ps, p.2 = lo.2) ∧ (∃ p ∈ ps, p.1 = hi.1) ∧ ∃ p ∈ ps, p.2 = hi.2
theorem ints_of {α : Type} {f : α → Int} : ∀ {l : List α}, intsD (l.map fun a => D.int (f a)) = some (l.map f)
  | [] => rfl
  | a :: l => by
    rw [List.map_cons, intsD, ints_of]
    rfl
theorem box_ev {ps : List SA.P} (ne : ps ≠ []) (hl : ps.length ≤ 1000000) (h : ∀ lo hi, BoxOf ps lo hi → Q (.tup [pd lo, pd hi]) μ) : sp_box_of [.lst (ps.map pd)] μ Q Xd := by
  have pos : 0 < ps.length := List.length_pos_iff.mpr ne
  unfold sp_box_of w_box_of
  walk_at "go"
  refine lc_mp (α := SA.P) (f := pd) (l := ps) (fun p => .int p.1) (fun p hp ds acc hacc hK => ?_) hl ?_
  · walk_at "go"
    exact hK
  walk_at "go"
  refine ⟨_, ints_of, by rw [List.length_map]; exact pos, fun lx m1 m2 => ?_⟩
  walk_at "go"
  refine lc_mp (α := SA.P) (f := pd) (l := ps) (fun p => .int p.2) (fun p hp ds acc hacc hK => ?_) hl ?_
  · walk_at "go"
    exact hK
  walk_at "go"
  refine ⟨_, ints_of, by rw [List.length_map]; exact pos, fun ly m3 m4 => ?_⟩
  walk_at "go"
  refine lc_mp (α := SA.P) (f := pd) (l := ps) (fun p => .int p.1) (fun p hp ds acc hacc hK => ?_) hl ?_
  · walk_at "go"
    exact hK
  walk_at "go"
  refine ⟨_, ints_of, by rw [List.length_map]; exact pos, fun hx m5 m6 => ?_⟩
  walk_at "go"
  refine lc_mp (α := SA.P) (f := pd) (l := ps) (fun p => .int p.2) (fun p hp ds acc hacc hK => ?_) hl ?_
  · walk_at "go"
    exact hK
  walk_at "go"
  refine ⟨_, ints_of, by rw [List.length_map]; exact pos, fun hy m7 m8 => ?_⟩
  walk_at "go"
  simp only [List.mem_map] at m1 m3 m5 m7
  exact h (lx, ly) (hx, hy) ⟨fun p hp => ⟨m2 _ (List.mem_map.mpr ⟨p, hp, rfl⟩), m6 _ (List.mem_map.mpr ⟨p, hp, rfl⟩), m4 _ (List.mem_map.mpr ⟨p, hp, rfl⟩), m8 _ (List.mem_map.mpr ⟨p, hp, rfl⟩)⟩, m1, m3, m5, m7⟩
theorem once_ev {ns : List Int} (hl : ns.length ≤ 1000000) (h : ∀ r : List Int, r.Pairwise (· < ·) → (∀ x, x ∈ r ↔ x ∈ ns) → Q (.lst (r.map D.int)) μ) : sp_each_once [.lst (ns.map D.int)] μ Q Xd := by
  unfold sp_each_once w_each_once
  walk_at "go"
  refine lc_mp (α := Int) (f := D.int) (l := ns) (fun i => .int i) (fun p hp ds acc hacc hK => ?_) hl ?_
  · walk_at "go"
    exact hK
  walk_at "go"
  refine sortW_go fun s hp hs => ?_
  walk_at "go"
  refine forL_pre (α := Int) (f := D.int) (l := s) (fun pre ρ μ' => μ' = μ ∧ ∃ (r : List Int) (s2 : Sl), r.Pairwise (· < ·) ∧ (∀ x, x ∈ r ↔ x ∈ pre) ∧ r.length ≤ pre.length ∧ ρ = [.v (.lst (ns.map D.int)), .v (.lst (r.map D.int)), s2])
    (fun pre a post e ρ μ' K hI hK => ?_) (fun ρ μ' hI => ?_) ⟨rfl, [], _, by simp, by simp, Nat.le_refl _, rfl⟩
  · obtain ⟨rfl, r, s2, asc, mem, hlr, rfl⟩ := hI
    have hlen : r.length ≤ 1000000 := by
      have := congrArg List.length e
      rw [hp.length_eq, List.length_append] at this
      omega
    have le : ∀ x ∈ r, x ≤ a := fun x hx => by
      have h1 := (mem x).mp hx
      rw [e] at hs
      exact (List.pairwise_append.mp hs).2.2 x h1 a List.mem_cons_self
    have app : (∀ x ∈ r, x < a) → K [.v (.lst (ns.map D.int)), .v (.lst (r.map D.int ++ [.int a])), .v (.int a)] μ' := fun lt => by
      refine hK _ _ ⟨rfl, r ++ [a], .v (.int a), List.pairwise_append.mpr ⟨asc, by simp, fun x hx y hy => ?_⟩, fun x => ?_, ?_, ?_⟩
      · rw [List.mem_singleton.mp hy]; exact lt x hx
      · simp [mem x]
      · simp only [List.length_append, List.length_singleton]; omega
      · simp
    walk_at "go"
    rw [List.length_map]
    rcases List.eq_nil_or_concat r with rfl | ⟨r0, z, hr⟩
    · walk_at "go"
      exact app fun x hx => (nomatch hx)
    · rw [List.concat_eq_append] at hr
      subst hr
      rw [decide_eq_false (by simp; omega)]
      walk_at "go"
      have ez : atI ((r0 ++ [z]).map D.int) (-1) = some (.int z) := by
        have e1 : ixN (r0.length + 1) (-1) = some r0.length := by
          unfold ixN
          rw [if_neg (by decide), if_pos (by omega)]
          congr 1
          omega
        unfold atI
        rw [List.length_map, List.length_append, List.length_singleton, e1]
        simp
      rw [ez]
      walk_at "go"
      have hz := le z (by simp)
      by_cases c : z = a
      · subst c
        rw [decide_eq_true rfl]
        walk_at "go"
        refine hK _ _ ⟨rfl, r0 ++ [z], _, asc, fun x => ?_, ?_, rfl⟩
        · rw [mem x]
          simp only [List.mem_append, List.mem_singleton]
          refine ⟨.inl, fun q => q.elim id fun q => ?_⟩
          rw [q]
          exact (mem z).mp (by simp)
        · simp only [List.length_append, List.length_singleton] at hlr ⊢
          omega
      · rw [decide_eq_false c]
        walk_at "go"
        refine ⟨by rw [List.length_map]; simp at hlen ⊢; exact Nat.le_trans (by omega) (show 1000001 ≤ sizeLine by decide), ?_⟩
        refine app fun x hx => ?_
        rcases List.mem_append.mp hx with q | q
        · have := (List.pairwise_append.mp asc).2.2 x q z (by simp)
          omega
        · rw [List.mem_singleton.mp q]
          omega
  · obtain ⟨rfl, r, s2, asc, mem, _, rfl⟩ := hI
    walk_at "go"
    exact h r asc fun x => (mem x).trans hp.mem_iff
theorem rows_ev {ps : List SA.P} (hl : ps.length ≤ 1000000) (h : ∀ r, SP.Canon r → (∀ p, p ∈ r ↔ p ∈ ps) → Q (.lst (r.map pd)) μ) : sp_in_rows [.lst (ps.map pd)] μ Q Xd := by
  unfold sp_in_rows w_in_rows
  walk_at "go"
  refine lc_mp (α := SA.P) (f := pd) (l := ps) (fun p => .int p.2) (fun p hp ds acc hacc hK => ?_) hl ?_
  · walk_at "go"
    exact hK
  walk_at "go"
  rw [show (ps.map fun p => D.int p.2) = (ps.map (·.2)).map D.int from by simp]
  refine once_ev (by simpa using hl) fun ys asc mem => ?_
  walk_at "go"
  refine forL_pre (α := Int) (f := D.int) (l := ys) (fun pre ρ μ' => μ' = μ ∧ ∃ (r : List SA.P) (s2 : Sl), SP.Canon r ∧ (∀ p, p ∈ r ↔ p ∈ ps ∧ p.2 ∈ pre) ∧ ρ = [.v (.lst (ps.map pd)), .v (.lst (r.map pd)), s2, .no, .no])
    (fun pre y post e ρ μ' K hI hK => ?_) (fun ρ μ' hI => ?_) ⟨rfl, [], _, by simp [SP.Canon], by simp, rfl⟩
  · obtain ⟨rfl, r, s2, can, memr, rfl⟩ := hI
    have lr : r.length ≤ ps.length := SP.nodup_len (SP.canon_nodup can) fun x hx => ((memr x).mp hx).1
    walk_at "go"
    refine lc_filter (α := SA.P) (f := pd) (l := ps) (fun p => decide (p.2 = y)) (fun p => .int p.1) (fun p hp ds acc hacc hK1 hK2 => ?_) hl ?_
    · walk_at "go"
      by_cases c : p.2 = y
      · rw [decide_eq_true c]
        walk_at "go"
        exact hK1 (decide_eq_true c)
      · rw [decide_eq_false c]
        walk_at "go"
        exact hK2 (decide_eq_false c)
    walk_at "go"
    rw [show ((ps.filter fun p => decide (p.2 = y)).map fun p => D.int p.1) = ((ps.filter fun p => decide (p.2 = y)).map (·.1)).map D.int from by simp]
    have lf : (ps.filter fun p => decide (p.2 = y)).length ≤ ps.length := List.length_filter_le _ _
    refine once_ev (by rw [List.length_map]; omega) fun xs ascx memx => ?_
    have lx : xs.length ≤ ps.length := by
      have h1 := SP.nodup_len (l := xs) (l' := (ps.filter fun p => decide (p.2 = y)).map (·.1)) (List.Pairwise.imp (fun {a b} (q : a < b) => fun (e : a = b) => by omega) ascx) fun x hx => (memx x).mp hx
      rw [List.length_map] at h1
      omega
    walk_at "go"
    refine lc_mp (α := Int) (f := D.int) (l := xs) (fun x => pd (x, y)) (fun x hx ds acc hacc hK1 => ?_) (by omega) ?_
    · walk_at "go"
      exact hK1
    walk_at "go"
    refine ⟨by rw [List.length_map, List.length_map]; exact Nat.le_trans (by omega) (show 2000000 ≤ sizeLine by decide), ?_⟩
    refine hK _ _ ⟨rfl, r ++ xs.map (fun x => (x, y)), .v (.int y), SP.canon_app can ascx fun p hp => ?_, fun p => ?_, ?_⟩
    · rw [e] at asc
      exact (List.pairwise_append.mp asc).2.2 p.2 ((memr p).mp hp).2 y List.mem_cons_self
    · rw [List.mem_append, memr p, List.mem_append, List.mem_singleton, List.mem_map]
      constructor
      · rintro (⟨h1, h2⟩ | ⟨x, hx, rfl⟩)
        · exact ⟨h1, .inl h2⟩
        · obtain ⟨q, hq, rfl⟩ := List.mem_map.mp ((memx x).mp hx)
          obtain ⟨q1, q2⟩ := List.mem_filter.mp hq
          have q2 := of_decide_eq_true q2
          subst q2
          exact ⟨q1, .inr rfl⟩
      · rintro ⟨h1, h2 | h2⟩
        · exact .inl ⟨h1, h2⟩
        · refine .inr ⟨p.1, (memx _).mpr (List.mem_map.mpr ⟨p, List.mem_filter.mpr ⟨h1, decide_eq_true h2⟩, rfl⟩), ?_⟩
          rw [← h2]
    · simp
  · obtain ⟨rfl, r, s2, can, memr, rfl⟩ := hI
    walk_at "go"
    exact h r can fun p => (memr p).trans ⟨fun q => q.1, fun q => ⟨q, (mem _).mpr (List.mem_map.mpr ⟨p, q, rfl⟩)⟩⟩
theorem samp_init {Q : List Str → List D → Mu → Prop} {α : Type} {l : List α} {f : α → D} {p : α → SA.P} (hf : ∀ a ∈ l, IsP (f a) (p a).1 (p a).2) (hl : l.length ≤ 1000000) (h : ∀ r, SP.Canon r → (∀ q, q ∈ r ↔ q ∈ l.map p) → Q ["pairs"] [.lst (r.map pd)] μ) : sp_Samples_init [.lst (l.map f)] μ Q Xd := by
  unfold sp_Samples_init w_Samples_init
  refine ⟨rfl, fun x => ?_⟩
  walk_at "go"
  refine forL_inv (fun ρ μ' => μ' = μ ∧ ∃ s2 s3 : Sl, (s3 = .no ∨ ∃ d, s3 = .v d) ∧ ρ = [.own x (.ins "Samples" [] []), .v (.lst (l.map f)), s2, s3]) (fun ρ μ' hI => ?_) (fun d' hd' ρ μ' K hI hK => ?_) ⟨rfl, _, _, .inl rfl, rfl⟩
  · obtain ⟨rfl, s2, s3, n3, rfl⟩ := hI
    walk_at "go"
    refine ⟨by rcases n3 with rfl | ⟨d, rfl⟩ <;> exact True.intro, ?_⟩
    refine lc_mp (α := α) (f := f) (l := l) (fun a => pd (p a)) (fun a ha ds acc hacc hK => ?_) hl ?_
    · walk_at "go"
      refine nums (hf a ha) ?_
      walk_at "go"
      exact hK
    walk_at "go"
    rw [show (l.map fun a => pd (p a)) = (l.map p).map pd from by simp]
    refine rows_ev (by rw [List.length_map]; exact hl) fun r can mem => ?_
    walk_at "go"
    exact h r can mem
  · obtain ⟨rfl, s2, s3, n3, rfl⟩ := hI
    unfold enumD at hd'
    obtain ⟨i, hi2⟩ := List.getElem?_of_mem hd'
    rw [List.getElem?_mapIdx, List.getElem?_map] at hi2
    cases e : l[i]? with
    | none => rw [e] at hi2; cases hi2
    | some t =>
      rw [e] at hi2
      cases hi2
      walk_at "go"
      refine nums (hf t (List.mem_of_getElem? e)) ?_
      walk_at "go"
      exact hK _ _ ⟨rfl, _, _, .inr ⟨_, rfl⟩, rfl⟩

/-! told rules -/
def s4 (w : SA.P) : Prop := -4 ≤ w.1 ∧ w.1 ≤ 4 ∧ -4 ≤ w.2 ∧ w.2 ≤ 4
inductive Tr where
  | half (n : SA.P) (ah : Bool)
def trD : Tr → D
  | .half n ah => .tup [.str "half", pd n, .bl ah]
def TrOk : Tr → Prop
  | .half n _ => n ≠ SA.O ∧ s4 n
def trIn : Tr → SA.P → Bool
  | .half n ah => SA.hf n ah
theorem lw_s {w : SA.P} (h : -4 ≤ w.1 ∧ w.1 ≤ 4 ∧ -4 ≤ w.2 ∧ w.2 ≤ 4) : -4 ≤ (SA.lw w).1 ∧ (SA.lw w).1 ≤ 4 ∧ -4 ≤ (SA.lw w).2 ∧ (SA.lw w).2 ≤ 4 := by
  have h1 := Int.natAbs_ediv_le_natAbs w.1 (Int.gcd w.1 w.2 : Int)
  have h2 := Int.natAbs_ediv_le_natAbs w.2 (Int.gcd w.1 w.2 : Int)
  unfold SA.lw
  simp only
  omega
theorem hin_ev {n d : SA.P} {ah : Bool} (b1 : Bd n.1) (b2 : Bd n.2) (b3 : Bd d.1) (b4 : Bd d.2) (h : Q (.bl (SA.hf n ah d)) μ) : sp__law_half_in [pd n, .bl ah, pd d] μ Q Xd := by
  unfold sp__law_half_in w__law_half_in
  unfold SA.hf SA.cr at h
  walk_at "gn"
  refine ⟨cm_bd b1 b4, cm_bd b2 b3, ?_⟩
  walk_at "gn"
  by_cases c : n.1 * d.2 - n.2 * d.1 = 0
  · rw [if_neg (by omega)] at h
    rw [decide_eq_true c]
    walk_at "gn"
    refine ⟨cm_bd b1 b3, cm_bd b2 b4, ?_⟩
    walk_at "gn"
    rw [Int.mul_comm d.1 n.1, Int.mul_comm d.2 n.2] at h
    exact h
  · rw [if_pos c] at h
    rw [decide_eq_false c]
    walk_at "gn"
    exact h
theorem in_ev {t : Tr} {d : SA.P} (ht : TrOk t) (hd : d ≠ SA.O) (bd : BP d) (h : Q (.bl (trIn t d)) μ) : sp__law_in [trD t, pd d] μ Q Xd := by
  unfold sp__law_in w__law_in
  cases t with
  | half n ah =>
    have s := ht.2
    unfold s4 at s
    unfold trD
    walk_at "gn"
    refine hin_ev (n := n) (d := d) (by unfold Bd; omega) (by unfold Bd; omega) (b6bd bd.1) (b6bd bd.2) ?_
    walk_at "gn"
    exact h
theorem lways_ev {a b c : SA.P} (h : Q (.lst [wyD (a, b), wyD (b, c), wyD (c, a)]) μ) : sp__law_ways [.lst [pd a, pd b, pd c]] μ Q Xd := by
  unfold sp__law_ways w__law_ways
  walk_at "go"
  exact h
theorem lsd_ev {a b p : SA.P} (ha : BP a) (hb : BP b) (hp : BP p) (h : Q (.int (SA.sd a b p)) μ) : sp__law_side [pd a, pd b, pd p] μ Q Xd :=
  lside_ev (cm6 hb.1 ha.1 hp.2 ha.2) (cm6 hb.2 ha.2 hp.1 ha.1) h
theorem lowns_ev {tr : Tr} {t : SA.T3} {p : SA.P} (ok : TrOk tr) (g : SA.Good t) (bt : ∀ z ∈ [t.a, t.b, t.c], -1000000000000000000 ≤ z.1 ∧ z.1 ≤ 1000000000000000000 ∧ -1000000000000000000 ≤ z.2 ∧ z.2 ≤ 1000000000000000000) (bp : BP p) (h : Q (.bl (SA.own (trIn tr) t p)) μ) : sp__law_owns [trD tr, .lst [pd t.a, pd t.b, pd t.c], pd p] μ Q Xd := by
  obtain ⟨a, b, c⟩ := t
  have ba := bt a (by simp)
  have bb := bt b (by simp)
  have bc := bt c (by simp)
  have nz3 := SA.sd_ne g
  have hall : SA.own (trIn tr) ⟨a, b, c⟩ p = [(a, b), (b, c), (c, a)].all fun w => SA.wOwn (trIn tr) w.1 w.2 p := by
    unfold SA.own
    simp
  rw [hall] at h
  unfold sp__law_owns w__law_owns
  walk_at "go"
  refine lways_ev ?_
  walk_at "go"
  refine forL_pre (α := SA.P × SA.P) (f := wyD) (l := [(a, b), (b, c), (c, a)]) (fun pre ρ μ' => μ' = μ ∧ (∀ w ∈ pre, SA.wOwn (trIn tr) w.1 w.2 p = true) ∧ ∃ s3 s4 s5 : Sl, ρ = [.v (trD tr), .v (.lst [pd a, pd b, pd c]), .v (pd p), s3, s4, s5])
    (fun pre w post e ρ μ' K hI hK => ?_) (fun ρ μ' hI => ?_) ⟨rfl, fun t ht => (nomatch ht), _, _, _, rfl⟩
  · obtain ⟨rfl, yes, s3, s4, s5, rfl⟩ := hI
    have hw : w ∈ [(a, b), (b, c), (c, a)] := by rw [e]; simp
    have bw : BP w.1 ∧ BP w.2 ∧ SA.sb w.2 w.1 ≠ SA.O ∧ BP (SA.sb w.2 w.1) := by
      simp only [List.mem_cons, List.not_mem_nil, or_false] at hw
      rcases hw with rfl | rfl | rfl
      · exact ⟨by unfold BP B6; simp only; omega, by unfold BP B6; simp only; omega, nz3.1, by unfold BP B6 SA.sb; simp only; omega⟩
      · exact ⟨by unfold BP B6; simp only; omega, by unfold BP B6; simp only; omega, nz3.2.1, by unfold BP B6 SA.sb; simp only; omega⟩
      · exact ⟨by unfold BP B6; simp only; omega, by unfold BP B6; simp only; omega, nz3.2.2, by unfold BP B6 SA.sb; simp only; omega⟩
    have no : SA.wOwn (trIn tr) w.1 w.2 p = false → Q (.bl false) μ' := fun z => by
      have q : ([(a, b), (b, c), (c, a)].all fun w => SA.wOwn (trIn tr) w.1 w.2 p) = false := by
        rw [List.all_eq_false]
        exact ⟨w, hw, by simp [z]⟩
      rw [q] at h
      exact h
    have go : SA.wOwn (trIn tr) w.1 w.2 p = true → ∀ ρ', (∃ s3 s4 s5 : Sl, ρ' = [.v (trD tr), .v (.lst [pd a, pd b, pd c]), .v (pd p), s3, s4, s5]) → K ρ' μ' := fun z ρ' hρ => hK _ _ ⟨rfl, fun w' hw' => by
      rcases List.mem_append.mp hw' with q | q
      · exact yes w' q
      · rw [List.mem_singleton] at q
        rw [q, z], hρ⟩
    clear hK e yes h
    unfold wyD
    walk_at "go"
    refine lsd_ev bw.1 bw.2.1 bp ?_
    walk_at "go"
    by_cases l : SA.sd w.1 w.2 p < 0
    · rw [decide_eq_true l]
      walk_at "go"
      refine no ?_
      unfold SA.wOwn
      rw [decide_eq_false (by omega), decide_eq_false (by omega)]
      rfl
    rw [decide_eq_false l]
    walk_at "go"
    by_cases z : SA.sd w.1 w.2 p = 0
    · rw [SA.wOwn_zero z] at no go
      rw [decide_eq_true z]
      walk_at "go"
      refine in_ev (d := SA.sb w.2 w.1) ok bw.2.2.1 bw.2.2.2 ?_
      cases q : trIn tr (SA.sb w.2 w.1) with
      | true =>
        walk_at "go"
        exact go q _ ⟨_, _, _, rfl⟩
      | false =>
        walk_at "go"
        exact no q
    · rw [decide_eq_false z]
      walk_at "go"
      exact go (SA.wOwn_pos (by omega)) _ ⟨_, _, _, rfl⟩
  · obtain ⟨rfl, yes, s3, s4, s5, rfl⟩ := hI
    walk_at "go"
    have q : ([(a, b), (b, c), (c, a)].all fun w => SA.wOwn (trIn tr) w.1 w.2 p) = true := List.all_eq_true.mpr yes
    rw [q] at h
    exact h

theorem told_ev {ν : Mu} {p q : Int} (ok : PoolOk p q) (h : ∀ (w : SA.P) (ah : Bool) p' q', PoolOk p' q' → w ≠ SA.O → s4 w → Q (.tup [.str "half", pd w, .bl ah]) (pc μ (.int p') (.int q') ν)) : sp__law_told_half [.loc μ.length] (pc μ (.int p) (.int q) ν) Q Xd := by
  unfold sp__law_told_half w__law_told_half
  walk_at "gn"
  refine lpairN_ev (n := 4) ok (by decide) fun x y p1 q1 ok1 x0 x1 y0 y1 => ?_
  walk_at "gn"
  by_cases c : x = 0 ∧ y = 0
  · rw [show (decide (x = 0) && decide (y = 0)) = true from by simp [c.1, c.2]]
    walk_at "gn"
    refine drawN_ev ok1 (by decide) (by unfold Bd; omega) fun r p2 q2 ok2 r0 r1 => ?_
    walk_at "gn"
    exact h (3, -1) _ _ _ ok2 (by decide) (by unfold s4; decide)
  · rw [show (decide (x = 0) && decide (y = 0)) = false from by rw [Bool.and_eq_false_iff, decide_eq_false_iff_not, decide_eq_false_iff_not]; omega]
    walk_at "gn"
    refine drawN_ev ok1 (by decide) (by unfold Bd; omega) fun r p2 q2 ok2 r0 r1 => ?_
    walk_at "gn"
    exact h (x, y) _ _ _ ok2 (fun z => c ⟨congrArg Prod.fst z, congrArg Prod.snd z⟩) (by unfold s4; simp only; omega)
theorem nd_pop : ∀ {l : List Nat} {i x : Nat}, l.Nodup → l[i]? = some x → x ∉ l.eraseIdx i ∧ (l.eraseIdx i).Nodup ∧ (∀ y ∈ l.eraseIdx i, y ∈ l) ∧ (l.eraseIdx i).length + 1 = l.length
  | [], i, x, _, h => by simp at h
  | a :: l, 0, x, nd, h => by
    cases h
    rw [List.nodup_cons] at nd
    exact ⟨nd.1, nd.2, fun y hy => List.mem_cons_of_mem _ hy, rfl⟩
  | a :: l, i + 1, x, nd, h => by
    rw [List.nodup_cons] at nd
    rw [List.getElem?_cons_succ] at h
    obtain ⟨h1, h2, h3, h4⟩ := nd_pop nd.2 h
    rw [List.eraseIdx_cons_succ]
    refine ⟨fun hx => ?_, List.nodup_cons.mpr ⟨fun ha => nd.1 (h3 a ha), h2⟩, fun y hy => ?_, by rw [List.length_cons, List.length_cons, h4]⟩
    · rcases List.mem_cons.mp hx with e | e
      · exact nd.1 (e ▸ List.mem_of_getElem? h)
      · exact h1 e
    · rcases List.mem_cons.mp hy with e | e
      · exact e ▸ List.mem_cons_self
      · exact List.mem_cons_of_mem _ (h3 y e)
theorem er_map {α β : Type} (f : α → β) : ∀ (l : List α) (i : Nat), (l.map f).eraseIdx i = (l.eraseIdx i).map f
  | [], _ => rfl
  | _ :: _, 0 => rfl
  | a :: l, i + 1 => by
    rw [List.map_cons, List.eraseIdx_cons_succ, er_map f l i]
    rfl
def natD (n : Nat) : D := .int (n : Nat)
theorem pop3 {l : List Nat} {r : Int} (r0 : 0 ≤ r) (r1 : r < (l.length : Nat)) : ∃ x, l[r.toNat]? = some x ∧ (l.map natD)[r.toNat]? = some (natD x) ∧ (l.map natD).eraseIdx r.toNat = (l.eraseIdx r.toNat).map natD := by
  have hr : r.toNat < l.length := by omega
  refine ⟨l[r.toNat], List.getElem?_eq_getElem hr, by rw [List.getElem?_map, List.getElem?_eq_getElem hr]; rfl, ?_⟩
  exact er_map natD l _
theorem eqL_pd {ps qs : List SA.P} {K : Bool → Prop} (h : K (decide (ps = qs))) : eqU (.lst (ps.map pd)) (.lst (qs.map pd)) K := by
  have z : ∀ l : List SA.P, P5 (.lst (l.map pd)) = true := fun l => all_map (p := Pn (Pn (Pn (Pn P0)))) fun p => rfl
  rw [eqU_pl (z _) (z _), show deq (.lst (ps.map pd)) (.lst (qs.map pd)) = decide (ps = qs) from by rw [deq]; exact deqs_map deq_pd _ _]
  exact h
theorem lnet_ev {p q : Int} (ok : PoolOk p q) (h : ∀ (ps : List SA.P) (tr : List T3i) p' q' ν, PoolOk p' q' → 3 ≤ ps.length → ps.length ≤ 7 → (∀ z ∈ ps, -5 ≤ z.1 ∧ z.1 ≤ 5 ∧ -5 ≤ z.2 ∧ z.2 ≤ 5) → tr.length ≤ 7 → (∀ t ∈ tr, TrOk3 ps.length t) → Q (.tup [.lst (ps.map pd), .lst (tr.map triD)]) (pc μ (.int p') (.int q') ν)) : sp__law_net [.loc μ.length] (pl μ p q) Q Xd := by
  unfold sp__law_net w__law_net
  walk_at "gn"
  refine draw_ev ok (by decide) (by unfold Bd; omega) fun x p1 q1 ok1 x0 x1 => ?_
  walk_at "gn"
  refine lc_pool (α := SA.P) (f := pd) (fun k z => -5 ≤ z.1 ∧ z.1 ≤ 5 ∧ -5 ≤ z.2 ∧ z.2 ≤ 5) (by omega) (fun k hk p1 q1 ok1 K2 hK2 => ?_) (fun ps hl1 hl2 p2 q2 ok2 => ?_) ok1
  · walk_at "gn"
    refine lpair_ev (n := 5) ok1 (by decide) fun u v p3 q3 ok3 u0 u1 v0 v1 => ?_
    exact hK2 (u, v) _ _ ok3 ⟨u0, u1, v0, v1⟩
  walk_at "gn"
  intro a2
  walk_at "gn"
  have hb : ∀ z ∈ ps, -5 ≤ z.1 ∧ z.1 ≤ 5 ∧ -5 ≤ z.2 ∧ z.2 ≤ 5 := fun z hz => by
    obtain ⟨i, hi⟩ := List.getElem?_of_mem hz
    exact hl2 i z hi
  have hn3 : 3 ≤ ps.length := by omega
  have hn7 : ps.length ≤ 7 := by omega
  refine draw_ev ok2 (by decide) (by unfold Bd; omega) fun y p3 q3 ok3 y0 y1 => ?_
  walk_at "gn"
  refine forL_rng (fun i ρ μ' => ∃ (tr : List T3i) (p' q' : Int) (ν : Mu) (s3 s4 : Sl), (∀ a c, s4 ≠ Sl.own a c) ∧ PoolOk p' q' ∧ tr.length = i ∧ (∀ t ∈ tr, TrOk3 ps.length t) ∧ μ' = pc μ (.int p') (.int q') ν ∧ ρ = [.v (.loc μ.length), .v (.lst (ps.map pd)), .own a2 (.lst (tr.map triD)), s3, s4, .no, .no])
    (fun i hi ρ μ' K hI hK => ?_) (fun ρ μ' hI => ?_) ⟨[], _, _, [], _, _, (fun _ _ e => by cases e), ok3, rfl, (fun _ h => by cases h), rfl, rfl⟩
  · obtain ⟨tr, p4, q4, ν, s3, s4, no4, ok4, hlen, hall, rfl, rfl⟩ := hI
    walk_at "gn"
    rw [List.length_map, Int.toNat_natCast]
    refine ⟨by omega, ?_⟩
    unfold rangeD
    refine lc_mp (α := Nat) (f := fun k : Nat => D.int (0 + (k : Nat))) (l := List.range ps.length) natD (fun k hk ds acc hacc hK2 => ?_) (by rw [List.length_range]; omega) ?_
    · walk_at "gn"
      rw [show D.int (0 + (k : Nat)) = natD k from by unfold natD; rw [Int.zero_add]]
      exact hK2
    rw [y_cell, pc_len, pc_app]
    have nd0 : (List.range ps.length).Nodup := List.nodup_range
    have len0 : (List.range ps.length).length = ps.length := List.length_range
    have mem0 : ∀ x ∈ List.range ps.length, x < ps.length := fun x hx => List.mem_range.mp hx
    generalize List.range ps.length = l0 at *
    walk_at "go"
    simp only [pcl_isC, pcl_items]
    walk_at "go"
    rw [List.length_map]
    refine drawN_ev ok4 (by omega) (by unfold Bd; omega) fun r1 p5 q5 ok5 r10 r11 => ?_
    obtain ⟨x1, hx1, hm1, he1⟩ := pop3 r10 r11
    obtain ⟨no1, nd1, sub1, ln1⟩ := nd_pop nd0 hx1
    have lx1 := List.mem_of_getElem? hx1
    walk_at "go"
    refine pcl_pop r10 (by omega) hm1 ?_
    rw [he1]
    generalize l0.eraseIdx r1.toNat = l1 at *
    walk_at "go"
    simp only [pcl_isC, pcl_items]
    walk_at "go"
    rw [List.length_map]
    refine drawN_ev ok5 (by omega) (by unfold Bd; omega) fun r2 p6 q6 ok6 r20 r21 => ?_
    obtain ⟨x2, hx2, hm2, he2⟩ := pop3 r20 r21
    obtain ⟨no2, nd2, sub2, ln2⟩ := nd_pop nd1 hx2
    have lx2 := List.mem_of_getElem? hx2
    walk_at "go"
    refine pcl_pop r20 (by omega) hm2 ?_
    rw [he2]
    generalize l1.eraseIdx r2.toNat = l2 at *
    walk_at "go"
    simp only [pcl_isC, pcl_items]
    walk_at "go"
    rw [List.length_map]
    refine drawN_ev ok6 (by omega) (by unfold Bd; omega) fun r3 p7 q7 ok7 r30 r31 => ?_
    obtain ⟨x3, hx3, hm3, he3⟩ := pop3 r30 r31
    obtain ⟨no3, nd3, sub3, ln3⟩ := nd_pop nd2 hx3
    have lx3 := List.mem_of_getElem? hx3
    walk_at "go"
    refine pcl_pop r30 (by omega) hm3 ?_
    rw [he3]
    generalize l2.eraseIdx r3.toNat = l3 at *
    walk_at "go"
    refine ⟨by rw [List.length_map]; omega, ?_⟩
    refine hK _ _ ⟨tr ++ [(x1, x2, x3)], _, _, _, _, .v (.loc (pcn μ ν)), (fun _ _ e => by cases e), ok7, by rw [List.length_append, List.length_singleton, hlen], fun t ht => ?_, rfl, by rw [List.map_append]; rfl⟩
    rcases List.mem_append.mp ht with q | q
    · exact hall t q
    · rw [List.mem_singleton] at q
      subst q
      refine ⟨⟨mem0 _ lx1, mem0 _ (sub1 _ lx2), mem0 _ (sub1 _ (sub2 _ lx3))⟩, fun e => no1 (by have e : x1 = x2 := e; rw [e]; exact lx2), fun e => no2 (by have e : x2 = x3 := e; rw [e]; exact lx3), fun e => no1 (by have e : x3 = x1 := e; rw [← e]; exact sub2 _ lx3)⟩
  · obtain ⟨tr, p4, q4, ν, s3, s4, no4, ok4, hlen, hall, rfl, rfl⟩ := hI
    walk_at "gn"
    exact h ps tr _ _ ν ok4 hn3 hn7 hb (by omega) hall
/-- numbers of a great point -/
def Gp (z : SA.P) : Prop := -1000000000000000000 ≤ z.1 ∧ z.1 ≤ 1000000000000000000 ∧ -1000000000000000000 ≤ z.2 ∧ z.2 ≤ 1000000000000000000
theorem gp_bp {z : SA.P} (h : Gp z) : BP z := by
  unfold Gp at h
  unfold BP B6
  omega
theorem lcnt_ev {n p : SA.P} {ah : Bool} {ps : List SA.P} {tr : List T3i} {d : D} (hd : IsL μ d (ps.map pd)) (hn : n ≠ SA.O ∧ s4 n) (bp : BP p) (sm : ∀ z ∈ ps, Gp z) (ok : NetOk ps tr) (h : Q (.tup [.int (aheads n ah ps tr p : Nat), .int (backs n ah ps tr p : Nat)]) μ) : sp__law_counted [.tup [.str "half", pd n, .bl ah], d, .lst (tr.map triD), pd p] μ Q Xd := by
  obtain ⟨hl, ht, hb, hi⟩ := ok
  have oe := fun (μ : Mu) (Q : D → Mu → Prop) (Xd : XD) (t : SA.T3) g bt h => lowns_ev (tr := .half n ah) (t := t) (p := p) (μ := μ) (Q := Q) (Xd := Xd) hn g bt bp h
  have ed := isL_items hd
  unfold sp__law_counted w__law_counted
  unfold trD at oe
  walk_at "gn"
  refine forL_pre (α := T3i) (f := triD) (l := tr) (fun pre ρ μ' => μ' = μ ∧ ∃ s6 s7 s8 s9 s10 s11 : Sl, ρ = [.v (.tup [.str "half", pd n, .bl ah]), .v d, .v (.lst (tr.map triD)), .v (pd p), .v (.int (aheads n ah ps pre p : Nat)), .v (.int (backs n ah ps pre p : Nat)), s6, s7, s8, s9, s10, s11])
    (fun pre t post e ρ μ' K hI hK => ?_) (fun ρ μ' hI => ?_) ⟨rfl, _, _, _, _, _, _, rfl⟩
  · obtain ⟨rfl, s6, s7, s8, s9, s10, s11, rfl⟩ := hI
    have htm : t ∈ tr := by rw [e]; simp
    obtain ⟨i1, i2, i3⟩ := hi t htm
    have cA : aheads n ah ps (pre ++ [t]) p = aheads n ah ps pre p + (if SA.ahead n ah (atP ps t.1) (atP ps t.2.1) (atP ps t.2.2) p then 1 else 0) := by
      unfold aheads
      rw [List.countP_append, List.countP_cons, List.countP_nil]
      simp
    have cB : backs n ah ps (pre ++ [t]) p = backs n ah ps pre p + (if SA.back n ah (atP ps t.1) (atP ps t.2.1) (atP ps t.2.2) p then 1 else 0) := by
      unfold backs
      rw [List.countP_append, List.countP_cons, List.countP_nil]
      simp
    rw [cA, cB] at hK
    generalize aheads n ah ps pre p = A at *
    generalize backs n ah ps pre p = B at *
    have smAt : ∀ i, i < ps.length → Gp (atP ps i) := fun i hi => by
      unfold atP
      rw [List.getElem?_eq_getElem hi]
      exact sm _ (List.getElem_mem hi)
    rw [show triD t = .tup [.int (t.1 : Nat), .int (t.2.1 : Nat), .int (t.2.2 : Nat)] from rfl]
    walk_at "gn"
    rw [ed]
    walk_at "gn"
    rw [atP_at i1]
    walk_at "gn"
    rw [ed]
    walk_at "gn"
    rw [atP_at i2]
    walk_at "gn"
    rw [ed]
    walk_at "gn"
    rw [atP_at i3]
    have sa := smAt _ i1
    have sb := smAt _ i2
    have sc := smAt _ i3
    generalize atP ps t.1 = a at *
    generalize atP ps t.2.1 = b at *
    generalize atP ps t.2.2 = c at *
    walk_at "gn"
    refine lsd_ev (gp_bp sa) (gp_bp sb) (gp_bp sc) ?_
    have go : ∀ (x y : Int) (s6 s7 s8 s9 s10 s11 : Sl), x = ((A + (if (decide (0 < SA.sd a b c) && SA.own (SA.hf n ah) ⟨a, b, c⟩ p) = true then 1 else 0) : Nat) : Int) → y = ((B + (if (decide (SA.sd a b c < 0) && SA.own (SA.hf n ah) ⟨a, c, b⟩ p) = true then 1 else 0) : Nat) : Int) → K [.v (.tup [.str "half", pd n, .bl ah]), .v d, .v (.lst (tr.map triD)), .v (pd p), .v (.int x), .v (.int y), s6, s7, s8, s9, s10, s11] μ' := fun x y s6 s7 s8 s9 s10 s11 ex ey => by
      rw [ex, ey]
      exact hK _ _ ⟨rfl, _, _, _, _, _, _, rfl⟩
    have b3 : ∀ u v w : SA.P, Gp u → Gp v → Gp w → ∀ z ∈ [u, v, w], -1000000000000000000 ≤ z.1 ∧ z.1 ≤ 1000000000000000000 ∧ -1000000000000000000 ≤ z.2 ∧ z.2 ≤ 1000000000000000000 := fun u v w hu hv hw z hz => by
      unfold Gp at hu hv hw
      simp only [List.mem_cons, List.not_mem_nil, or_false] at hz
      rcases hz with rfl | rfl | rfl <;> omega
    clear hK
    walk_at "gn"
    by_cases c1 : 0 < SA.sd a b c
    · have c2 : ¬ SA.sd a b c < 0 := by omega
      rw [decide_eq_true c1] at *
      walk_at "gn"
      refine oe _ _ _ ⟨a, b, c⟩ c1 (b3 _ _ _ sa sb sc) ?_
      cases o : SA.own (trIn (.half n ah)) ⟨a, b, c⟩ p
      all_goals
        have o' : SA.own (SA.hf n ah) ⟨a, b, c⟩ p = _ := o
        walk_at "gn"
        refine lsd_ev (gp_bp sa) (gp_bp sb) (gp_bp sc) ?_
        walk_at "gn"
        rw [decide_eq_false c2]
        walk_at "gn"
        exact go _ _ _ _ _ _ _ _ (by rw [o']; simp) (by simp [c2])
    · rw [decide_eq_false c1] at *
      walk_at "gn"
      refine lsd_ev (gp_bp sa) (gp_bp sb) (gp_bp sc) ?_
      walk_at "gn"
      by_cases c2 : SA.sd a b c < 0
      · have g : SA.Good ⟨a, c, b⟩ := by
          unfold SA.Good
          simp only
          have : SA.sd a c b = - SA.sd a b c := by unfold SA.sd; grind
          omega
        rw [decide_eq_true c2] at *
        walk_at "gn"
        refine oe _ _ _ ⟨a, c, b⟩ g (b3 _ _ _ sa sc sb) ?_
        cases o : SA.own (trIn (.half n ah)) ⟨a, c, b⟩ p
        all_goals
          have o' : SA.own (SA.hf n ah) ⟨a, c, b⟩ p = _ := o
          walk_at "gn"
          exact go _ _ _ _ _ _ _ _ (by simp) (by rw [o']; simp)
      · rw [decide_eq_false c2] at *
        walk_at "gn"
        exact go _ _ _ _ _ _ _ _ (by simp) (by simp)
  · obtain ⟨rfl, s6, s7, s8, s9, s10, s11, rfl⟩ := hI
    walk_at "gn"
    exact h
theorem btw1_ev {i lo hi : Int} (h1 : lo ≤ i) (h2 : i ≤ hi) (h : Q (.bl true) μ) : sp_is_between [.int i, .int lo, .int hi] μ Q Xd := by
  unfold sp_is_between w_is_between
  walk_at "go"
  refine ii_int ?_
  walk_at "go"
  rw [decide_eq_true h1]
  walk_at "go"
  rw [decide_eq_true h2]
  exact h
theorem grid_init {Q : List Str → List D → Mu → Prop} {st x y : Int} {d : D} (hd : IsP d x y) (h1 : 1 ≤ st) (h2 : st ≤ 1000000000000000000000000000000) (h : Q ["step", "rest"] [.int st, .tup [.int (x % st), .int (y % st)]] μ) : sp_Grid_init [.int st, d] μ Q Xd := by
  have bs : Bd st := by unfold Bd; omega
  unfold sp_Grid_init w_Grid_init
  refine ⟨rfl, fun a => ?_⟩
  walk_at "go"
  refine btw1_ev h1 h2 ?_
  walk_at "go"
  refine nums hd ?_
  walk_at "dl"
  exact ⟨by omega, by omega, h⟩

theorem spts_ev {r : List SA.P} (hl : r.length ≤ 1000000) (h : Q (.lst (r.map fun p => pt p.1 p.2)) μ) : sp_Samples_points [sam r] μ Q Xd := by
  unfold sp_Samples_points w_Samples_points sam
  walk_at "go"
  refine lc_mp (α := SA.P) (f := pd) (l := r) (fun p => pt p.1 p.2) (fun a ha ds acc hacc hK => ?_) hl ?_
  · walk_at "go"
    refine pof_ev ?_
    walk_at "go"
    exact hK
  walk_at "go"
  exact h

theorem ppair_ev {x y : Int} (h : Q (pr x y) μ) : sp_Point_pair [pt x y] μ Q Xd := by
  unfold sp_Point_pair w_Point_pair
  walk_at "gn"
  exact h
end
end K46

set_option Elab.async false
set_option linter.all false
set_option maxRecDepth 100000
set_option maxHeartbeats 4000000
set_option autoImplicit false
set_option exponentiation.threshold 3000
namespace K46
open PySem PySem.Spec PyProof.Rows L2 DL
local macro_rules
  | `(tactic| walk_at "dk") => `(tactic| try simp only [z_slt, z_slt1, z_slt2, z_slt3, g_gen, g_genm, g_genm1, g_log, g_logC, r_newD, r_put0, r_kw, r_kw1, r_kw2, r_kw0, r_kw00, c_wi, c_en, c_en1, c_for, c_for1, c_lc, c_lc1, c_lof, c_lof1, c_ap, c_ap1, c_ap2, y_p2, y_p21, y_oo, y_fo, y_foq, y_of, y_of2, c_si, c_si1, c_si2, c_si3, c_lu1, c_lu2, c_lu3, z_fl, z_fl1, z_fl2, z_ps, z_ps1, z_ps2, z_ps3, z_eqT, z_cat, z_cat1, z_cat2, y_pop, y_pop1, y_pop2, y_lcC, y_lcR, y_callR, t_wis, t_wisa, t_dicL, t_kpt, t_kpt1, t_kpt2, t_slst, t_m1s, t_m1s1, t_m1s2, t_catS, t_sls, t_sls1, t_sls2, t_sls3, t_fs, t_js0, t_js1, t_js2, t_js3, t_fmtI, t_fmtS, t_strI, t_insl, t_insl1, t_insl2, t_insl3, t_ors, t_dic, t_put, t_put1, t_put2, t_put3, t_base, y_cell, y_rem, y_rem1, y_rem2, x_subO, x_subO1, x_subO2, v_slo, v_slo1, w_ff, w_ft, w_tf, w_tt, false_and, and_false, v_ix, v_ix1, v_ix2, v_inv, v_inv1, v_co, v_co1, v_co2, v_len, v_len1, isiD, tyD, clD, r_insobj, fldOf, DL.isNon, items_tup, items_lst, items_frl, hasCls, othTy, insD, DL.putK, DL.putD, initEnd, startI, startD, DL.wipeD, List.map_cons, List.map_nil, List.length_cons, List.length_nil, List.getElem?_cons_zero, List.getElem?_cons_succ, List.getElem?_nil, List.set_cons_zero, List.set_cons_succ, List.cons_append, List.nil_append, List.append_nil, List.replicate, Nat.sub_self, Nat.reduceSub, Nat.reduceAdd, Nat.reduceLeDiff, Nat.reduceEqDiff, Nat.reduceLT, Int.reduceLT, Int.reduceLE, if_true, if_false, Bool.not_true, Bool.not_false, reduceIte, reduceCtorEq, true_and, and_true, Nat.zero_add, Bool.true_eq_false, Bool.false_eq_true, eqU_int, eqU_str, eqU_bl, str_eq, str_beq, String.reduceEq, decide_true, decide_false, decide_eq_true_eq, pl_items, pl_st0, pl_st1, pl_fold, notOwn, List.mem_singleton, List.mem_cons, List.not_mem_nil, or_false, false_or, or_true, true_or, forall_eq, forall_eq_or_imp, implies_true, Int.reduceToNat, Int.reduceEq, Int.reduceNe, Int.reduceAdd, Int.reduceSub, Int.reduceMul, Int.reducePow, Int.reduceMod, Int.reduceDiv, atI_0, atI_1, atI_2, atI_3, rg1, rg2, startI, r_var, r_var2, r_c, r_w2, r_w2a, r_w2b, r_w1, r_w1a, r_wB, r_wBa, r_ch, r_ch1, r_ch2, r_ch3t, r_ch3f, r_and, r_andt, r_andf, r_or, r_ort, r_orf, r_not, r_nota, r_ife, r_ifet, r_ifef, r_andv, r_andvt, r_andvf, r_orv, r_orvt, r_orvf, r_notv, r_notva, r_nil, r_cons, r_cons1, r_cons2, r_tup, r_tupa, r_lst, r_lsta, r_lstc, r_lstca, r_wn, r_wna, r_call, r_calla, r_mk, r_mk1, r_mk2, r_mkc, r_mkc1, r_mkc2, r_me, r_me1, r_me2, r_bo, r_bo1, r_bo2, r_onone, r_osome, r_osomea, r_sl, r_sl1, r_sl2, r_sl3, r_sl3f, r_ii, r_ii0, r_ib, r_i1, r_plus, r_plusl, r_times, r_timesl, r_isn, r_notn, r_isb, r_notb, r_pm, r_pm1, DL.perm, z_neT, z_catT, r_eqd, r_ned, r_int1, r_int1b, r_max2, r_min2, r_abs, r_ix, r_ix2, r_ix3, r_len, r_len2, r_isi, r_isi2, r_fld, r_fld2, r_fld3, r_insobj, r_kx, r_next, r_never, r_seq, r_seqa, r_if, r_ift, r_iff, r_ret, r_retn, r_brk, r_cnt, r_drop, r_dropa, r_set, r_seta, r_asg, r_asga, r_name, r_namec, r_ktup, r_kunl, r_kcons, r_kcs, r_knil, r_par2, r_par2a, r_par3, r_par3a, r_aug, r_auga, r_augb, r_augc, r_for, r_fora, r_knx, r_fldo, r_fldoa, r_put, r_frz, r_frz2, r_frz3, r_frz4, r_cl, r_seto, r_setoa, r_wil, r_wila, r_wilf, r_wit, r_wita, r_wi1, r_wi1a, r_wi2, r_wi2a, r_wie, r_wiea, r_wiz, r_wiza, r_wizt, r_lc, r_lc0, r_lcn, r_lcc, r_lc1, r_lc2t, r_lc2f, r_lc3, r_yes, r_sub, r_sub1, r_sub2, r_sub3, r_dnx, r_drt, r_dxc, r_inx, r_init, r_ixc, t_raise, t_raise2, t_try, t_cat, t_catt, t_catf, t_sunx, t_surt, t_nx0, t_nx1, t_nx2, t_nx3, t_prop, t_prop2, t_xf, t_xf2, t_isx, t_isx2, t_wht, t_whf, t_equ, t_neu, t_el, List.reverse_cons, List.reverse_nil, isiDT, anyT, List.all_cons, List.all_nil, Option.isSome_some, Bool.and_true, Bool.true_and, u_lof, u_lof2, u_tof, u_tof2, u_isiT, u_dict, u_bl, u_ownN, u_has, u_hasN, u_bk, u_bk1, u_bk2, u_stat, u_ap, u_ap1, u_ap2, u_ex, u_ex1, u_ex2, u_ownL, u_olen, u_oix, u_oix1, u_oin, u_sumT, u_sumL, u_mu, u_mu1, u_hot, u_hot1, startX, u_mb, u_mb1, u_mb1f, u_mb2, u_rev, u_revf, u_wio, u_wex, u_wel, u_wef, u_wet, u_en, u_en0, u_enc, u_enn, Int.cast_ofNat_Int, u_wzx, u_wzl, u_wzt, u_wzm, u_zd, u_zd0, intsD, DL.intD, u_kd, isTy, Bool.true_xor, Bool.false_xor, eqU_pl, p_int, p_bl, p_non, p_tup, p_lst, p_frl, p0_int, p0_bl, p0_non, deq, deqs, Bool.and_true, Bool.and_false, Bool.false_and, List.contains_cons, List.contains_nil, Bool.or_false, Bool.false_or, Bool.or_self, eq_self, beq_self_eq_true, Bool.not_true, Bool.not_false, List.flatten_cons, List.flatten_nil, isi_0, isi_1, isi_2, isi_3, isi_4, isi_5, isi_6, isi_7, isi_8, isi_9, isi_10, isi_11, isi_12, isi_13, isi_14, isi_15, isi_16, isi_17, isi_18, isi_19, isi_20, isi_21, isi_22, isi_23, isi_24, isi_25, isi_26, isi_27, isi_28, isi_29, isi_30, isi_31, isi_32, isi_33, isi_34, isi_35, isi_36, isi_37, isi_38, isi_39, isi_40, isi_41, isi_42, isi_43, isi_44, isi_45, isi_46, isi_47, isi_48, isi_49, isi_50, isi_51, isi_52, isi_53, isi_54, isi_55, isi_56, isi_57, isi_58, isi_59, isi_60, isi_61, isi_62, isi_63, isi_64, isi_65, isi_66, isi_67, isi_68, isi_69, isi_70, isi_71, isi_72, isi_73, isi_74, isi_75, isi_76, isi_77, isi_78, isi_79, isi_80, isi_81, isi_82, isi_83, isi_84, isi_85, isi_86, isi_87, isi_88, isi_89, isi_90, isi_91, isi_92, isi_93, isi_94])
local macro_rules
  | `(tactic| walk_at "ds") => `(tactic| try simp only [z_slt, z_slt1, z_slt2, z_slt3, g_gen, g_genm, g_genm1, g_log, g_logC, r_newD, r_put0, r_kw, r_kw1, r_kw2, r_kw0, r_kw00, c_wi, c_en, c_en1, c_for, c_for1, c_lc, c_lc1, c_lof, c_lof1, c_ap, c_ap1, c_ap2, y_p2, y_p21, y_oo, y_fo, y_foq, y_of, y_of2, c_si, c_si1, c_si2, c_si3, c_lu1, c_lu2, c_lu3, z_fl, z_fl1, z_fl2, z_ps, z_ps1, z_ps2, z_ps3, z_eqT, z_cat, z_cat1, z_cat2, y_pop, y_pop1, y_pop2, y_lcC, y_lcR, y_callR, t_wis, t_wisa, t_dicL, t_kpt, t_kpt1, t_kpt2, t_slst, t_m1s, t_m1s1, t_m1s2, t_catS, t_sls, t_sls1, t_sls2, t_sls3, t_fs, t_js0, t_js1, t_js2, t_js3, t_fmtI, t_fmtS, t_strI, t_insl, t_insl1, t_insl2, t_insl3, t_ors, t_dic, t_put, t_put1, t_put2, t_put3, t_base, y_cell, y_rem, y_rem1, y_rem2, x_subO, x_subO1, x_subO2, v_slo, v_slo1, w_ff, w_ft, w_tf, w_tt, false_and, and_false, isClsU, v_ix, v_ix1, v_ix2, v_inv, v_inv1, v_co, v_co1, v_co2, v_len, v_len1, v_f2or, isiD, tyD, clD, r_insobj, fldOf, DL.isNon, items_tup, items_lst, items_frl, hasCls, isCls, othTy, insD, DL.putK, DL.putD, initEnd, startI, startD, DL.wipeD, List.map_cons, List.map_nil, List.length_cons, List.length_nil, List.getElem?_cons_zero, List.getElem?_cons_succ, List.getElem?_nil, List.set_cons_zero, List.set_cons_succ, List.cons_append, List.nil_append, List.append_nil, List.replicate, Nat.sub_self, Nat.reduceSub, Nat.reduceAdd, Nat.reduceLeDiff, Nat.reduceEqDiff, Nat.reduceLT, Int.reduceLT, Int.reduceLE, if_true, if_false, Bool.not_true, Bool.not_false, reduceIte, reduceCtorEq, true_and, and_true, Nat.zero_add, Bool.true_eq_false, Bool.false_eq_true, eqU_int, eqU_str, eqU_bl, str_eq, str_beq, String.reduceEq, decide_true, decide_false, decide_eq_true_eq, pl_items, pl_st0, pl_st1, pl_fold, notOwn, List.mem_singleton, List.mem_cons, List.not_mem_nil, or_false, false_or, or_true, true_or, forall_eq, forall_eq_or_imp, implies_true, Int.reduceToNat, Int.reduceEq, Int.reduceNe, Int.reduceAdd, Int.reduceSub, Int.reduceMul, Int.reducePow, Int.reduceMod, Int.reduceDiv, atI_0, atI_1, atI_2, atI_3, rg1, rg2, startI, r_var, r_var2, r_c, r_w2, r_w2a, r_w2b, r_w1, r_w1a, r_wB, r_wBa, r_ch, r_ch1, r_ch2, r_ch3t, r_ch3f, r_and, r_andt, r_andf, r_or, r_ort, r_orf, r_not, r_nota, r_ife, r_ifet, r_ifef, r_andv, r_andvt, r_andvf, r_orv, r_orvt, r_orvf, r_notv, r_notva, r_nil, r_cons, r_cons1, r_cons2, r_tup, r_tupa, r_lst, r_lsta, r_lstc, r_lstca, r_wn, r_wna, r_call, r_calla, r_mk, r_mk1, r_mk2, r_mkc, r_mkc1, r_mkc2, r_me, r_me1, r_me2, r_bo, r_bo1, r_bo2, r_onone, r_osome, r_osomea, r_sl, r_sl1, r_sl2, r_sl3, r_sl3f, r_ii, r_ii0, r_ib, r_i1, r_plus, r_plusl, r_times, r_timesl, r_isn, r_notn, r_isb, r_notb, r_pm, r_pm1, DL.perm, z_neT, z_catT, r_eqd, r_ned, r_int1, r_int1b, r_max2, r_min2, r_abs, r_ix, r_ix2, r_ix3, r_len, r_len2, r_isi, r_isi2, r_fld, r_fld2, r_fld3, r_insobj, r_kx, r_next, r_never, r_seqa, r_if, r_ift, r_iff, r_ret, r_retn, r_brk, r_cnt, r_drop, r_dropa, r_set, r_seta, r_asg, r_asga, r_name, r_namec, r_ktup, r_kunl, r_kcons, r_kcs, r_knil, r_par2, r_par2a, r_par3, r_par3a, r_aug, r_auga, r_augb, r_augc, r_for, r_fora, r_knx, r_fldo, r_fldoa, r_put, r_frz, r_frz2, r_frz3, r_frz4, r_cl, r_seto, r_setoa, r_wil, r_wila, r_wilf, r_wit, r_wita, r_wi1, r_wi1a, r_wi2, r_wi2a, r_wie, r_wiea, r_wiz, r_wiza, r_wizt, r_lc, r_lc0, r_lcn, r_lcc, r_lc1, r_lc2t, r_lc2f, r_lc3, r_yes, r_sub, r_sub1, r_sub2, r_sub3, r_dnx, r_drt, r_dxc, r_inx, r_init, r_ixc, t_raise, t_raise2, t_try, t_cat, t_catt, t_catf, t_sunx, t_surt, t_nx0, t_nx1, t_nx2, t_nx3, t_prop, t_prop2, t_xf, t_xf2, t_isx, t_isx2, t_wht, t_whf, t_equ, t_neu, t_el, List.reverse_cons, List.reverse_nil, isiDT, anyT, List.all_cons, List.all_nil, Option.isSome_some, Bool.and_true, Bool.true_and, u_lof, u_lof2, u_tof, u_tof2, u_isiT, u_dict, u_bl, u_own, u_ownN, u_has, u_hasN, u_bk, u_bk1, u_bk2, u_stat, u_ap, u_ap1, u_ap2, u_ex, u_ex1, u_ex2, u_ownL, u_olen, u_oix, u_oix1, u_oin, u_sumT, u_sumL, u_mu, u_mu1, u_hot, u_hot1, startX, u_mb, u_mb1, u_mb1f, u_mb2, u_rev, u_revf, u_wio, u_wex, u_wel, u_wef, u_wet, u_en, u_en0, u_enc, u_enn, Int.cast_ofNat_Int, u_wzx, u_wzl, u_wzt, u_wzm, u_zd, u_zd0, intsD, DL.intD, u_kd, othC, isTy, Bool.true_xor, Bool.false_xor, eqU_pl, p_int, p_bl, p_non, p_tup, p_lst, p_frl, p0_int, p0_bl, p0_non, deq, deqs, Bool.and_true, Bool.and_false, Bool.false_and, List.contains_cons, List.contains_nil, Bool.or_false, Bool.false_or, Bool.or_self, eq_self, beq_self_eq_true, Bool.not_true, Bool.not_false, List.flatten_cons, List.flatten_nil, isi_0, isi_1, isi_2, isi_3, isi_4, isi_5, isi_6, isi_7, isi_8, isi_9, isi_10, isi_11, isi_12, isi_13, isi_14, isi_15, isi_16, isi_17, isi_18, isi_19, isi_20, isi_21, isi_22, isi_23, isi_24, isi_25, isi_26, isi_27, isi_28, isi_29, isi_30, isi_31, isi_32, isi_33, isi_34, isi_35, isi_36, isi_37, isi_38, isi_39, isi_40, isi_41, isi_42, isi_43, isi_44, isi_45, isi_46, isi_47, isi_48, isi_49, isi_50, isi_51, isi_52, isi_53, isi_54, isi_55, isi_56, isi_57, isi_58, isi_59, isi_60, isi_61, isi_62, isi_63, isi_64, isi_65, isi_66, isi_67, isi_68, isi_69, isi_70, isi_71, isi_72, isi_73, isi_74, isi_75, isi_76, isi_77, isi_78, isi_79, isi_80, isi_81, isi_82, isi_83, isi_84, isi_85, isi_86, isi_87, isi_88, isi_89, isi_90, isi_91, isi_92, isi_93, isi_94])
local macro_rules
  | `(tactic| walk_at "dn") => `(tactic| try simp only [z_slt, z_slt1, z_slt2, z_slt3, g_gen, g_genm, g_genm1, g_log, g_logC, r_newD, r_put0, r_kw, r_kw1, r_kw2, r_kw0, r_kw00, c_wi, c_en, c_en1, c_for, c_for1, c_lc, c_lc1, c_lof, c_lof1, c_ap, c_ap1, c_ap2, y_p2, y_p21, y_oo, y_fo, y_foq, y_of, y_of2, c_si, c_si1, c_si2, c_si3, c_lu1, c_lu2, c_lu3, z_fl, z_fl1, z_fl2, z_ps, z_ps1, z_ps2, z_ps3, z_eqT, z_cat, z_cat1, z_cat2, y_pop, y_pop1, y_pop2, y_lcC, y_lcR, y_callR, t_wis, t_wisa, t_dicL, t_kpt, t_kpt1, t_kpt2, t_slst, t_m1s, t_m1s1, t_m1s2, t_catS, t_sls, t_sls1, t_sls2, t_sls3, t_fs, t_js0, t_js1, t_js2, t_js3, t_fmtI, t_fmtS, t_strI, t_insl, t_insl1, t_insl2, t_insl3, t_ors, t_dic, t_put, t_put1, t_put2, t_put3, t_base, y_cell, y_rem, y_rem1, y_rem2, x_subO, x_subO1, x_subO2, v_slo, v_slo1, w_ff, w_ft, w_tf, w_tt, false_and, and_false, isClsU, v_ix, v_ix1, v_ix2, v_inv, v_inv1, v_co, v_co1, v_co2, v_len, v_len1, v_f2or, isiD, tyD, clD, r_insobj, fldOf, DL.isNon, items_tup, items_lst, items_frl, hasCls, isCls, othTy, insD, DL.putK, DL.putD, initEnd, startI, startD, DL.wipeD, List.map_cons, List.map_nil, List.length_cons, List.length_nil, List.getElem?_cons_zero, List.getElem?_cons_succ, List.getElem?_nil, List.set_cons_zero, List.set_cons_succ, List.cons_append, List.nil_append, List.append_nil, List.replicate, Nat.sub_self, Nat.reduceSub, Nat.reduceAdd, Nat.reduceLeDiff, Nat.reduceEqDiff, Nat.reduceLT, Int.reduceLT, Int.reduceLE, if_true, if_false, Bool.not_true, Bool.not_false, reduceIte, reduceCtorEq, true_and, and_true, Nat.zero_add, Bool.true_eq_false, Bool.false_eq_true, eqU_int, eqU_str, eqU_bl, str_eq, str_beq, String.reduceEq, decide_true, decide_false, decide_eq_true_eq, pl_items, pl_st0, pl_st1, pl_fold, notOwn, List.mem_singleton, List.mem_cons, List.not_mem_nil, or_false, false_or, or_true, true_or, forall_eq, forall_eq_or_imp, implies_true, Int.reduceToNat, Int.reduceEq, Int.reduceNe, Int.reduceAdd, Int.reduceSub, Int.reduceMul, Int.reducePow, Int.reduceMod, Int.reduceDiv, atI_0, atI_1, atI_2, atI_3, rg1, rg2, startI, r_var, r_var2, r_c, r_w2, r_w2a, r_w2b, r_w1, r_w1a, r_wB, r_wBa, r_ch, r_ch1, r_ch2, r_ch3t, r_ch3f, r_and, r_andt, r_andf, r_or, r_ort, r_orf, r_not, r_nota, r_ife, r_ifet, r_ifef, r_andv, r_andvt, r_andvf, r_orv, r_orvt, r_orvf, r_notv, r_notva, r_nil, r_cons, r_cons1, r_cons2, r_tup, r_tupa, r_lst, r_lsta, r_lstc, r_lstca, r_wn, r_wna, r_call, r_calla, r_mk, r_mk1, r_mk2, r_mkc, r_mkc1, r_mkc2, r_me, r_me1, r_me2, r_bo, r_bo1, r_bo2, r_onone, r_osome, r_osomea, r_sl, r_sl1, r_sl2, r_sl3, r_sl3f, r_ii, r_ii0, r_ib, r_i1, r_plus, r_plusl, r_times, r_timesl, r_isn, r_notn, r_isb, r_notb, r_pm, r_pm1, DL.perm, z_neT, z_catT, r_eqd, r_ned, r_int1, r_int1b, r_max2, r_min2, r_abs, r_ix, r_ix2, r_ix3, r_len, r_len2, r_isi, r_isi2, r_fld, r_fld2, r_fld3, r_insobj, r_kx, r_next, r_never, r_seq, r_seqa, r_if, r_ift, r_iff, r_ret, r_retn, r_brk, r_cnt, r_drop, r_dropa, r_set, r_seta, r_asg, r_asga, r_name, r_namec, r_ktup, r_kunl, r_kcons, r_kcs, r_knil, r_par2, r_par2a, r_par3, r_par3a, r_aug, r_auga, r_augb, r_augc, r_for, r_fora, r_knx, r_fldo, r_fldoa, r_put, r_frz, r_frz2, r_frz3, r_frz4, r_cl, r_seto, r_setoa, r_wil, r_wila, r_wilf, r_wit, r_wita, r_wi1, r_wi1a, r_wi2, r_wi2a, r_wie, r_wiea, r_wiz, r_wiza, r_wizt, r_lc, r_lc0, r_lcn, r_lcc, r_lc1, r_lc2t, r_lc2f, r_lc3, r_yes, r_sub, r_sub1, r_sub2, r_sub3, r_dnx, r_drt, r_dxc, r_inx, r_init, r_ixc, t_raise, t_raise2, t_try, t_cat, t_catt, t_catf, t_sunx, t_surt, t_nx0, t_nx1, t_nx2, t_nx3, t_prop, t_prop2, t_xf, t_xf2, t_isx, t_isx2, t_wht, t_whf, t_equ, t_neu, t_el, List.reverse_cons, List.reverse_nil, isiDT, anyT, List.all_cons, List.all_nil, Option.isSome_some, Bool.and_true, Bool.true_and, u_lof, u_lof2, u_tof, u_tof2, u_isiT, u_dict, u_bl, u_own, u_ownN, u_has, u_hasN, u_bk, u_bk1, u_bk2, u_stat, u_ap, u_ap1, u_ap2, u_ex, u_ex1, u_ex2, u_ownL, u_olen, u_oix, u_oix1, u_oin, u_sumT, u_sumL, u_mu, u_mu1, u_hot, u_hot1, startX, u_mb, u_mb1, u_mb1f, u_mb2, u_rev, u_revf, u_wio, u_wex, u_wel, u_wef, u_wet, u_en, u_en0, u_enc, u_enn, Int.cast_ofNat_Int, u_wzx, u_wzl, u_wzt, u_wzm, u_zd, u_zd0, intsD, DL.intD, u_kd, othC, isTy, Bool.true_xor, Bool.false_xor, eqU_pl, p_int, p_bl, p_non, p_tup, p_lst, p_frl, p0_int, p0_bl, p0_non, deq, deqs, Bool.and_true, Bool.and_false, Bool.false_and, List.contains_cons, List.contains_nil, Bool.or_false, Bool.false_or, Bool.or_self, eq_self, beq_self_eq_true, Bool.not_true, Bool.not_false, List.flatten_cons, List.flatten_nil, isi_0, isi_1, isi_2, isi_3, isi_4, isi_5, isi_6, isi_7, isi_8, isi_9, isi_10, isi_11, isi_12, isi_13, isi_14, isi_15, isi_16, isi_17, isi_18, isi_19, isi_20, isi_21, isi_22, isi_23, isi_24, isi_25, isi_26, isi_27, isi_28, isi_29, isi_30, isi_31, isi_32, isi_33, isi_34, isi_35, isi_36, isi_37, isi_38, isi_39, isi_40, isi_41, isi_42, isi_43, isi_44, isi_45, isi_46, isi_47, isi_48, isi_49, isi_50, isi_51, isi_52, isi_53, isi_54, isi_55, isi_56, isi_57, isi_58, isi_59, isi_60, isi_61, isi_62, isi_63, isi_64, isi_65, isi_66, isi_67, isi_68, isi_69, isi_70, isi_71, isi_72, isi_73, isi_74, isi_75, isi_76, isi_77, isi_78, isi_79, isi_80, isi_81, isi_82, isi_83, isi_84, isi_85, isi_86, isi_87, isi_88, isi_89, isi_90, isi_91, isi_92, isi_93, isi_94])
local macro_rules
  | `(tactic| walk_at "dl1") => `(tactic| simp only [z_slt, z_slt1, z_slt2, z_slt3, g_gen, g_genm, g_genm1, g_log, g_logC, r_newD, r_put0, r_kw, r_kw1, r_kw2, r_kw0, r_kw00, c_wi, c_en, c_en1, c_for, c_for1, c_lc, c_lc1, c_lof, c_lof1, c_ap, c_ap1, c_ap2, y_p2, y_p21, y_oo, y_fo, y_foq, y_of, y_of2, c_si, c_si1, c_si2, c_si3, c_lu1, c_lu2, c_lu3, z_fl, z_fl1, z_fl2, z_ps, z_ps1, z_ps2, z_ps3, z_eqT, z_cat, z_cat1, z_cat2, y_pop, y_pop1, y_pop2, y_lcC, y_lcR, y_callR, t_wis, t_wisa, t_dicL, t_kpt, t_kpt1, t_kpt2, t_slst, t_m1s, t_m1s1, t_m1s2, t_catS, t_sls, t_sls1, t_sls2, t_sls3, t_fs, t_js0, t_js1, t_js2, t_js3, t_fmtI, t_fmtS, t_strI, t_insl, t_insl1, t_insl2, t_insl3, t_ors, t_dic, t_put, t_put1, t_put2, t_put3, t_base, y_cell, y_rem, y_rem1, y_rem2, x_subO, x_subO1, x_subO2, v_slo, v_slo1, w_ff, w_ft, w_tf, w_tt, false_and, and_false, isClsU, v_ix, v_ix1, v_ix2, v_inv, v_inv1, v_co, v_co1, v_co2, v_len, v_len1, v_f2or, isiD, tyD, clD, r_insobj, fldOf, DL.isNon, items_tup, items_lst, items_frl, hasCls, isCls, othTy, insD, DL.putK, DL.putD, initEnd, startI, startD, DL.wipeD, List.map_cons, List.map_nil, List.length_cons, List.length_nil, List.getElem?_cons_zero, List.getElem?_cons_succ, List.getElem?_nil, List.set_cons_zero, List.set_cons_succ, List.cons_append, List.nil_append, List.append_nil, List.replicate, Nat.sub_self, Nat.reduceSub, Nat.reduceAdd, Nat.reduceLeDiff, Nat.reduceEqDiff, Nat.reduceLT, Int.reduceLT, Int.reduceLE, if_true, if_false, Bool.not_true, Bool.not_false, reduceIte, reduceCtorEq, true_and, and_true, Nat.zero_add, Bool.true_eq_false, Bool.false_eq_true, eqU_int, eqU_str, eqU_bl, str_eq, str_beq, String.reduceEq, decide_true, decide_false, decide_eq_true_eq, pl_items, pl_st0, pl_st1, pl_fold, notOwn, List.mem_singleton, List.mem_cons, List.not_mem_nil, or_false, false_or, or_true, true_or, forall_eq, forall_eq_or_imp, implies_true, range_succ, range_zero, Int.reduceToNat, Int.reduceEq, Int.reduceNe, Int.reduceAdd, Int.reduceSub, Int.reduceMul, Int.reducePow, Int.reduceMod, Int.reduceDiv, atI_0, atI_1, atI_2, atI_3, rg1, rg2, startI, r_var, r_var2, r_c, r_w2, r_w2a, r_w2b, r_w1, r_w1a, r_wB, r_wBa, r_ch, r_ch1, r_ch2, r_ch3t, r_ch3f, r_and, r_andt, r_andf, r_or, r_ort, r_orf, r_not, r_nota, r_ife, r_ifet, r_ifef, r_andv, r_andvt, r_andvf, r_orv, r_orvt, r_orvf, r_notv, r_notva, r_nil, r_cons, r_cons1, r_cons2, r_tup, r_tupa, r_lst, r_lsta, r_lstc, r_lstca, r_wn, r_wna, r_call, r_calla, r_mk, r_mk1, r_mk2, r_mkc, r_mkc1, r_mkc2, r_me, r_me1, r_me2, r_bo, r_bo1, r_bo2, r_onone, r_osome, r_osomea, r_sl, r_sl1, r_sl2, r_sl3, r_sl3f, r_ii, r_ii0, r_ib, r_i1, r_plus, r_plusl, r_times, r_timesl, r_isn, r_notn, r_isb, r_notb, r_pm, r_pm1, DL.perm, z_neT, z_catT, r_eqd, r_ned, r_int1, r_int1b, r_max2, r_min2, r_abs, r_ix, r_ix2, r_ix3, r_len, r_len2, r_isi, r_isi2, r_fld, r_fld2, r_fld3, r_insobj, r_kx, r_next, r_never, r_seq, r_seqa, r_if, r_ift, r_iff, r_ret, r_retn, r_brk, r_cnt, r_drop, r_dropa, r_set, r_seta, r_asg, r_asga, r_name, r_namec, r_ktup, r_kunl, r_kcons, r_kcs, r_knil, r_par2, r_par2a, r_par3, r_par3a, r_aug, r_auga, r_augb, r_augc, r_for, r_fora, r_knx, r_fldo, r_fldoa, r_put, r_frz, r_frz2, r_frz3, r_frz4, r_cl, r_seto, r_setoa, r_wil, r_wila, r_wilf, r_wit, r_wita, r_wi1, r_wi1a, r_wi2, r_wi2a, r_wie, r_wiea, r_wiz, r_wiza, r_wizt, r_lc, r_lc0, r_lcn, r_lcc, r_lc1, r_lc2t, r_lc2f, r_lc3, r_yes, r_sub, r_sub1, r_sub2, r_sub3, r_dnx, r_drt, r_dxc, r_inx, r_init, r_ixc, t_raise, t_raise2, t_try, t_cat, t_catt, t_catf, t_sunx, t_surt, t_nx0, t_nx1, t_nx2, t_nx3, t_prop, t_prop2, t_xf, t_xf2, t_isx, t_isx2, t_wht, t_whf, t_equ, t_neu, t_el, List.reverse_cons, List.reverse_nil, isiDT, anyT, List.all_cons, List.all_nil, Option.isSome_some, Bool.and_true, Bool.true_and, u_lof, u_lof2, u_tof, u_tof2, u_isiT, u_dict, u_bl, u_own, u_ownN, u_has, u_hasN, u_bk, u_bk1, u_bk2, u_stat, u_ap, u_ap1, u_ap2, u_ex, u_ex1, u_ex2, u_ownL, u_olen, u_oix, u_oix1, u_oin, u_sumT, u_sumL, u_mu, u_mu1, u_hot, u_hot1, startX, u_mb, u_mb1, u_mb1f, u_mb2, u_rev, u_revf, u_wio, u_wex, u_wel, u_wef, u_wet, u_en, u_en0, u_enc, u_enn, Int.cast_ofNat_Int, u_wzx, u_wzl, u_wzt, u_wzm, u_zd, u_zd0, intsD, DL.intD, u_kd, othC, isTy, Bool.true_xor, Bool.false_xor, eqU_pl, p_int, p_bl, p_non, p_tup, p_lst, p_frl, p0_int, p0_bl, p0_non, deq, deqs, Bool.and_true, Bool.and_false, Bool.false_and, List.contains_cons, List.contains_nil, Bool.or_false, Bool.false_or, Bool.or_self, eq_self, beq_self_eq_true, Bool.not_true, Bool.not_false, List.flatten_cons, List.flatten_nil, isi_0, isi_1, isi_2, isi_3, isi_4, isi_5, isi_6, isi_7, isi_8, isi_9, isi_10, isi_11, isi_12, isi_13, isi_14, isi_15, isi_16, isi_17, isi_18, isi_19, isi_20, isi_21, isi_22, isi_23, isi_24, isi_25, isi_26, isi_27, isi_28, isi_29, isi_30, isi_31, isi_32, isi_33, isi_34, isi_35, isi_36, isi_37, isi_38, isi_39, isi_40, isi_41, isi_42, isi_43, isi_44, isi_45, isi_46, isi_47, isi_48, isi_49, isi_50, isi_51, isi_52, isi_53, isi_54, isi_55, isi_56, isi_57, isi_58, isi_59, isi_60, isi_61, isi_62, isi_63, isi_64, isi_65, isi_66, isi_67, isi_68, isi_69, isi_70, isi_71, isi_72, isi_73, isi_74, isi_75, isi_76, isi_77, isi_78, isi_79, isi_80, isi_81, isi_82, isi_83, isi_84, isi_85, isi_86, isi_87, isi_88, isi_89, isi_90, isi_91, isi_92, isi_93, isi_94])
local macro_rules
  | `(tactic| walk_at "dl") => `(tactic| try simp only [z_slt, z_slt1, z_slt2, z_slt3, g_gen, g_genm, g_genm1, g_log, g_logC, r_newD, r_put0, r_kw, r_kw1, r_kw2, r_kw0, r_kw00, c_wi, c_en, c_en1, c_for, c_for1, c_lc, c_lc1, c_lof, c_lof1, c_ap, c_ap1, c_ap2, y_p2, y_p21, y_oo, y_fo, y_foq, y_of, y_of2, c_si, c_si1, c_si2, c_si3, c_lu1, c_lu2, c_lu3, z_fl, z_fl1, z_fl2, z_ps, z_ps1, z_ps2, z_ps3, z_eqT, z_cat, z_cat1, z_cat2, y_pop, y_pop1, y_pop2, y_lcC, y_lcR, y_callR, t_wis, t_wisa, t_dicL, t_kpt, t_kpt1, t_kpt2, t_slst, t_m1s, t_m1s1, t_m1s2, t_catS, t_sls, t_sls1, t_sls2, t_sls3, t_fs, t_js0, t_js1, t_js2, t_js3, t_fmtI, t_fmtS, t_strI, t_insl, t_insl1, t_insl2, t_insl3, t_ors, t_dic, t_put, t_put1, t_put2, t_put3, t_base, y_cell, y_rem, y_rem1, y_rem2, x_subO, x_subO1, x_subO2, v_slo, v_slo1, w_ff, w_ft, w_tf, w_tt, false_and, and_false, isClsU, v_ix, v_ix1, v_ix2, v_inv, v_inv1, v_co, v_co1, v_co2, v_len, v_len1, v_f2or, isiD, tyD, clD, r_insobj, fldOf, DL.isNon, items_tup, items_lst, items_frl, hasCls, isCls, othTy, insD, DL.putK, DL.putD, initEnd, startI, startD, DL.wipeD, List.map_cons, List.map_nil, List.length_cons, List.length_nil, List.getElem?_cons_zero, List.getElem?_cons_succ, List.getElem?_nil, List.set_cons_zero, List.set_cons_succ, List.cons_append, List.nil_append, List.append_nil, List.replicate, Nat.sub_self, Nat.reduceSub, Nat.reduceAdd, Nat.reduceLeDiff, Nat.reduceEqDiff, Nat.reduceLT, Int.reduceLT, Int.reduceLE, if_true, if_false, Bool.not_true, Bool.not_false, reduceIte, reduceCtorEq, true_and, and_true, Nat.zero_add, Bool.true_eq_false, Bool.false_eq_true, eqU_int, eqU_str, eqU_bl, str_eq, str_beq, String.reduceEq, decide_true, decide_false, decide_eq_true_eq, pl_items, pl_st0, pl_st1, pl_fold, notOwn, List.mem_singleton, List.mem_cons, List.not_mem_nil, or_false, false_or, or_true, true_or, forall_eq, forall_eq_or_imp, implies_true, range_succ, range_zero, Int.reduceToNat, Int.reduceEq, Int.reduceNe, Int.reduceAdd, Int.reduceSub, Int.reduceMul, Int.reducePow, Int.reduceMod, Int.reduceDiv, atI_0, atI_1, atI_2, atI_3, rg1, rg2, startI, r_var, r_var2, r_c, r_w2, r_w2a, r_w2b, r_w1, r_w1a, r_wB, r_wBa, r_ch, r_ch1, r_ch2, r_ch3t, r_ch3f, r_and, r_andt, r_andf, r_or, r_ort, r_orf, r_not, r_nota, r_ife, r_ifet, r_ifef, r_andv, r_andvt, r_andvf, r_orv, r_orvt, r_orvf, r_notv, r_notva, r_nil, r_cons, r_cons1, r_cons2, r_tup, r_tupa, r_lst, r_lsta, r_lstc, r_lstca, r_wn, r_wna, r_call, r_calla, r_mk, r_mk1, r_mk2, r_mkc, r_mkc1, r_mkc2, r_me, r_me1, r_me2, r_bo, r_bo1, r_bo2, r_onone, r_osome, r_osomea, r_sl, r_sl1, r_sl2, r_sl3, r_sl3f, r_ii, r_ii0, r_ib, r_i1, r_plus, r_plusl, r_times, r_timesl, r_isn, r_notn, r_isb, r_notb, r_pm, r_pm1, DL.perm, z_neT, z_catT, r_eqd, r_ned, r_int1, r_int1b, r_max2, r_min2, r_abs, r_ix, r_ix2, r_ix3, r_len, r_len2, r_isi, r_isi2, r_fld, r_fld2, r_fld3, r_insobj, r_kx, r_next, r_never, r_seq, r_seqa, r_if, r_ift, r_iff, r_ret, r_retn, r_brk, r_cnt, r_drop, r_dropa, r_set, r_seta, r_asg, r_asga, r_name, r_namec, r_ktup, r_kunl, r_kcons, r_kcs, r_knil, r_par2, r_par2a, r_par3, r_par3a, r_aug, r_auga, r_augb, r_augc, r_for, r_fora, r_knx, r_fldo, r_fldoa, r_put, r_frz, r_frz2, r_frz3, r_frz4, r_cl, r_seto, r_setoa, r_wil, r_wila, r_wilf, r_wit, r_wita, r_wi1, r_wi1a, r_wi2, r_wi2a, r_wie, r_wiea, r_wiz, r_wiza, r_wizt, r_lc, r_lc0, r_lcn, r_lcc, r_lc1, r_lc2t, r_lc2f, r_lc3, r_yes, r_sub, r_sub1, r_sub2, r_sub3, r_dnx, r_drt, r_dxc, r_inx, r_init, r_ixc, t_raise, t_raise2, t_try, t_cat, t_catt, t_catf, t_sunx, t_surt, t_nx0, t_nx1, t_nx2, t_nx3, t_prop, t_prop2, t_xf, t_xf2, t_isx, t_isx2, t_wht, t_whf, t_equ, t_neu, t_el, List.reverse_cons, List.reverse_nil, isiDT, anyT, List.all_cons, List.all_nil, Option.isSome_some, Bool.and_true, Bool.true_and, u_lof, u_lof2, u_tof, u_tof2, u_isiT, u_dict, u_bl, u_own, u_ownN, u_has, u_hasN, u_bk, u_bk1, u_bk2, u_stat, u_ap, u_ap1, u_ap2, u_ex, u_ex1, u_ex2, u_ownL, u_olen, u_oix, u_oix1, u_oin, u_sumT, u_sumL, u_mu, u_mu1, u_hot, u_hot1, startX, u_mb, u_mb1, u_mb1f, u_mb2, u_rev, u_revf, u_wio, u_wex, u_wel, u_wef, u_wet, u_en, u_en0, u_enc, u_enn, Int.cast_ofNat_Int, u_wzx, u_wzl, u_wzt, u_wzm, u_zd, u_zd0, intsD, DL.intD, u_kd, othC, isTy, Bool.true_xor, Bool.false_xor, eqU_pl, p_int, p_bl, p_non, p_tup, p_lst, p_frl, p0_int, p0_bl, p0_non, deq, deqs, Bool.and_true, Bool.and_false, Bool.false_and, List.contains_cons, List.contains_nil, Bool.or_false, Bool.false_or, Bool.or_self, eq_self, beq_self_eq_true, Bool.not_true, Bool.not_false, List.flatten_cons, List.flatten_nil, isi_0, isi_1, isi_2, isi_3, isi_4, isi_5, isi_6, isi_7, isi_8, isi_9, isi_10, isi_11, isi_12, isi_13, isi_14, isi_15, isi_16, isi_17, isi_18, isi_19, isi_20, isi_21, isi_22, isi_23, isi_24, isi_25, isi_26, isi_27, isi_28, isi_29, isi_30, isi_31, isi_32, isi_33, isi_34, isi_35, isi_36, isi_37, isi_38, isi_39, isi_40, isi_41, isi_42, isi_43, isi_44, isi_45, isi_46, isi_47, isi_48, isi_49, isi_50, isi_51, isi_52, isi_53, isi_54, isi_55, isi_56, isi_57, isi_58, isi_59, isi_60, isi_61, isi_62, isi_63, isi_64, isi_65, isi_66, isi_67, isi_68, isi_69, isi_70, isi_71, isi_72, isi_73, isi_74, isi_75, isi_76, isi_77, isi_78, isi_79, isi_80, isi_81, isi_82, isi_83, isi_84, isi_85, isi_86, isi_87, isi_88, isi_89, isi_90, isi_91, isi_92, isi_93, isi_94])
local macro_rules
  | `(tactic| walk_at "cm") => `(tactic| first | exact .inl (.inr ⟨by omega, by omega⟩) | exact .inl (.inl ⟨by omega, by omega⟩) | exact cm_bd (by unfold Bd; omega) (by unfold Bd; omega))
local macro_rules
  | `(tactic| walk_at "cs") => `(tactic| repeat ((with_reducible refine And.intro ?_ ?_); (· first | decide | (walk_at "cm") | exact ⟨by decide, by decide, by decide⟩ | omega)))
local macro_rules
  | `(tactic| walk_at "go") => `(tactic| (walk_at "dl"; walk_at "cs"))
local macro_rules
  | `(tactic| walk_at "gn") => `(tactic| (walk_at "dn"; walk_at "cs"))
section
variable {Q : D → Mu → Prop} {Xd : XD} {μ : Mu}
theorem ah_lw {n : SA.P} {ah : Bool} (hn : n ≠ SA.O) {ps : List SA.P} {tr : List T3i} {p : SA.P} : aheads (SA.lw n) ah ps tr p = aheads n ah ps tr p ∧ backs (SA.lw n) ah ps tr p = backs n ah ps tr p := by
  have e : SA.hf (SA.lw n) ah = SA.hf n ah := funext fun d => SA.hf_lw hn
  constructor
  · unfold aheads SA.ahead
    rw [e]
  · unfold backs SA.back
    rw [e]
/-- the nearest multiple, the greater one of two -/
def nr (m n : Int) : Int := (2 * n + m) / (2 * m) * m
def stp (m n : Int) (b : Option (Int × Int)) (k : Int) : Option (Int × Int) := match b with
  | none => some ((if k * m - n < 0 then -(k * m - n) else k * m - n), k * m)
  | some b => if (if k * m - n < 0 then -(k * m - n) else k * m - n) ≤ b.1 then some ((if k * m - n < 0 then -(k * m - n) else k * m - n), k * m) else some b
def fld (m n : Int) (j : Nat) : Option (Int × Int) := (List.range j).foldl (fun b i => stp m n b (-20 + (i : Nat))) none
theorem fld_nr : ∀ m : Nat, m < 10 → ∀ n : Nat, n < 11 → 1 ≤ m → (fld m ((n : Int) - 5) 41).map (·.2) = some (nr m ((n : Int) - 5)) := by decide +kernel
theorem fld_bd : ∀ m : Nat, m < 10 → ∀ n : Nat, n < 11 → 1 ≤ m → nr m (nr m ((n : Int) - 5)) = nr m ((n : Int) - 5) ∧ -10 ≤ nr m ((n : Int) - 5) ∧ nr m ((n : Int) - 5) ≤ 10 := by decide +kernel
theorem fld_succ {m n : Int} {j : Nat} : fld m n (j + 1) = stp m n (fld m n j) (-20 + (j : Nat)) := by
  unfold fld
  rw [List.range_succ, List.foldl_append]
  rfl
def optD : Option (Int × Int) → D
  | none => .non
  | some b => .tup [.int b.1, .int b.2]
theorem lnear_ev {m n : Int} (m1 : 1 ≤ m) (m9 : m ≤ 9) (n1 : -5 ≤ n) (n5 : n ≤ 5) (h : Q (.int (nr m n)) μ) : sp__law_nearest [.int n, .int m] μ Q Xd := by
  have e41 := fld_nr m.toNat (by omega) (n + 5).toNat (by omega) (by omega)
  rw [show ((m.toNat : Nat) : Int) = m from by omega, show (((n + 5).toNat : Nat) : Int) - 5 = n from by omega] at e41
  unfold sp__law_nearest w__law_nearest
  walk_at "gn"
  refine forL_rng (lo := -20) (n := 41) (fun j ρ μ' => μ' = μ ∧ ∃ s3 s4 : Sl, ρ = [.v (.int n), .v (.int m), .v (optD (fld m n j)), s3, s4]) (fun j hj ρ μ' K hI hK => ?_) (fun ρ μ' hI => ?_) ⟨rfl, _, _, rfl⟩
  · obtain ⟨rfl, s3, s4, rfl⟩ := hI
    rw [fld_succ] at hK
    have bk : -200 ≤ ((-20 : Int) + (j : Nat)) * m ∧ ((-20 : Int) + (j : Nat)) * m ≤ 1000 := by
      have : m = 1 ∨ m = 2 ∨ m = 3 ∨ m = 4 ∨ m = 5 ∨ m = 6 ∨ m = 7 ∨ m = 8 ∨ m = 9 := by omega
      rcases this with rfl | rfl | rfl | rfl | rfl | rfl | rfl | rfl | rfl <;> omega
    cases e : fld m n j with
    | none =>
      rw [e] at hK
      unfold optD
      walk_at "gn"
      exact hK _ _ ⟨rfl, _, _, rfl⟩
    | some b =>
      rw [e] at hK
      unfold optD
      walk_at "gn"
      have st : stp m n (some b) (-20 + (j : Nat)) = if (if (-20 + (j : Nat) : Int) * m - n < 0 then -((-20 + (j : Nat) : Int) * m - n) else (-20 + (j : Nat) : Int) * m - n) ≤ b.1 then some ((if (-20 + (j : Nat) : Int) * m - n < 0 then -((-20 + (j : Nat) : Int) * m - n) else (-20 + (j : Nat) : Int) * m - n), (-20 + (j : Nat) : Int) * m) else some b := rfl
      by_cases c : (if (-20 + (j : Nat) : Int) * m - n < 0 then -((-20 + (j : Nat) : Int) * m - n) else (-20 + (j : Nat) : Int) * m - n) ≤ b.1
      · rw [if_pos c] at st
        rw [decide_eq_true c]
        walk_at "gn"
        rw [st] at hK
        exact hK _ _ ⟨rfl, _, _, rfl⟩
      · rw [if_neg c] at st
        rw [decide_eq_false c]
        walk_at "gn"
        rw [st] at hK
        exact hK _ _ ⟨rfl, _, _, rfl⟩
  · obtain ⟨rfl, s3, s4, rfl⟩ := hI
    rw [Option.map_eq_some_iff] at e41
    obtain ⟨b, eb, e2⟩ := e41
    rw [eb]
    unfold optD
    walk_at "gn"
    rw [e2]
    exact h
theorem near_ev {m n : Int} (m1 : 1 ≤ m) (m9 : m ≤ 9) (n1 : -10 ≤ n) (n5 : n ≤ 10) (h : Q (.int (nr m n)) μ) : sp_nearest [.int n, .int m] μ Q Xd := by
  unfold sp_nearest w_nearest
  walk_at "gn"
  have := Int.natAbs_ediv_le_natAbs (2 * n + m) (2 * m)
  exact ⟨cd_bd (by omega) (by unfold Bd; omega), cm_bd (by unfold Bd; omega) (by unfold Bd; omega), h⟩
theorem snap_ev {m : Int} {ps : List SA.P} {tr : List T3i} (m1 : 1 ≤ m) (m9 : m ≤ 9) (hb : ∀ z ∈ ps, -10 ≤ z.1 ∧ z.1 ≤ 10 ∧ -10 ≤ z.2 ∧ z.2 ≤ 10) (hl : ps.length ≤ 100) (ht : tr.length ≤ 100) (hok : ∀ t ∈ tr, TrOk3 ps.length t) (h : Q (netD (ps.map fun z => (nr m z.1, nr m z.2)) tr) μ) : sp_snapped [netD ps tr, .int m] μ Q Xd := by
  unfold sp_snapped w_snapped
  unfold netD at h ⊢
  walk_at "gn"
  unfold sp_check_least w_check_least
  walk_at "gn"
  refine ii_int ?_
  walk_at "gn"
  rw [decide_eq_false (by omega)]
  walk_at "gn"
  refine lc_mp (α := SA.P) (f := pd) (l := ps) (fun z => pd (nr m z.1, nr m z.2)) (fun z hz ds acc hacc hK => ?_) (by omega) ?_
  · have bz := hb z hz
    walk_at "gn"
    refine near_ev m1 m9 bz.1 bz.2.1 ?_
    walk_at "gn"
    refine near_ev m1 m9 bz.2.2.1 bz.2.2.2 ?_
    walk_at "gn"
    exact hK
  walk_at "gn"
  rw [show (ps.map fun z => pd (nr m z.1, nr m z.2)) = (ps.map fun z => (nr m z.1, nr m z.2)).map pd from by rw [List.map_map]; rfl]
  refine net_init (f := pd) (ps := ps.map fun z => (nr m z.1, nr m z.2)) (tr := tr) isL_l isL_l isP_pd (by rw [List.length_map]; exact hl) ht (by rw [List.length_map]; exact hok) ?_
  walk_at "gn"
  exact h
/-- the samples at which nets are unlike -/
def dif (w : SA.P) (ah : Bool) (ps qs : List SA.P) (tr : List T3i) (p : SA.P) : Bool := !(decide (aheads w ah ps tr p = aheads w ah qs tr p) && decide (backs w ah ps tr p = backs w ah qs tr p))
theorem none_off {w p lo hi : SA.P} {ah : Bool} {ps : List SA.P} {tr : List T3i} (hok : ∀ t ∈ tr, t.1 < ps.length ∧ t.2.1 < ps.length ∧ t.2.2 < ps.length) (hb : ∀ z ∈ ps, lo.1 ≤ z.1 ∧ z.1 ≤ hi.1 ∧ lo.2 ≤ z.2 ∧ z.2 ≤ hi.2)
    (no : ¬ (lo.1 ≤ p.1 ∧ p.1 ≤ hi.1 ∧ lo.2 ≤ p.2 ∧ p.2 ≤ hi.2)) : aheads w ah ps tr p = 0 ∧ backs w ah ps tr p = 0 := by
  have at_ : ∀ i, i < ps.length → lo.1 ≤ (atP ps i).1 ∧ (atP ps i).1 ≤ hi.1 ∧ lo.2 ≤ (atP ps i).2 ∧ (atP ps i).2 ≤ hi.2 := fun i hi => by
    unfold atP
    rw [List.getElem?_eq_getElem hi]
    exact hb _ (List.getElem_mem hi)
  constructor
  · unfold aheads
    rw [List.countP_eq_zero]
    intro t ht hc
    unfold SA.ahead at hc
    rw [Bool.and_eq_true, decide_eq_true_eq] at hc
    refine no (SA.own_box (t := ⟨atP ps t.1, atP ps t.2.1, atP ps t.2.2⟩) hc.1 hc.2 fun q hq => ?_)
    simp only [List.mem_cons, List.not_mem_nil, or_false] at hq
    rcases hq with rfl | rfl | rfl
    · exact at_ _ (hok t ht).1
    · exact at_ _ (hok t ht).2.1
    · exact at_ _ (hok t ht).2.2
  · unfold backs
    rw [List.countP_eq_zero]
    intro t ht hc
    unfold SA.back at hc
    rw [Bool.and_eq_true, decide_eq_true_eq] at hc
    have g : SA.Good ⟨atP ps t.1, atP ps t.2.2, atP ps t.2.1⟩ := by
      unfold SA.Good
      simp only
      have : SA.sd (atP ps t.1) (atP ps t.2.2) (atP ps t.2.1) = - SA.sd (atP ps t.1) (atP ps t.2.1) (atP ps t.2.2) := by unfold SA.sd; grind
      omega
    refine no (SA.own_box g hc.2 fun q hq => ?_)
    simp only [List.mem_cons, List.not_mem_nil, or_false] at hq
    rcases hq with rfl | rfl | rfl
    · exact at_ _ (hok t ht).1
    · exact at_ _ (hok t ht).2.2
    · exact at_ _ (hok t ht).2.1
theorem dif_box {w p lo hi : SA.P} {ah : Bool} {ps qs : List SA.P} {tr : List T3i} (h1 : ∀ t ∈ tr, t.1 < ps.length ∧ t.2.1 < ps.length ∧ t.2.2 < ps.length) (h2 : ∀ t ∈ tr, t.1 < qs.length ∧ t.2.1 < qs.length ∧ t.2.2 < qs.length) (hb : ∀ z ∈ ps ++ qs, lo.1 ≤ z.1 ∧ z.1 ≤ hi.1 ∧ lo.2 ≤ z.2 ∧ z.2 ≤ hi.2)
    (hd : dif w ah ps qs tr p = true) : lo.1 ≤ p.1 ∧ p.1 ≤ hi.1 ∧ lo.2 ≤ p.2 ∧ p.2 ≤ hi.2 := by
  by_cases c : lo.1 ≤ p.1 ∧ p.1 ≤ hi.1 ∧ lo.2 ≤ p.2 ∧ p.2 ≤ hi.2
  · exact c
  · exfalso
    have a1 := none_off (w := w) (ah := ah) h1 (fun z hz => hb z (List.mem_append_left _ hz)) c
    have a2 := none_off (w := w) (ah := ah) h2 (fun z hz => hb z (List.mem_append_right _ hz)) c
    unfold dif at hd
    rw [a1.1, a1.2, a2.1, a2.2] at hd
    simp at hd
theorem unlike_ev {w : SA.P} {ah : Bool} {ps qs : List SA.P} {tr : List T3i} {st : Int} (hw : w ≠ SA.O ∧ BP w) (s1 : 1 ≤ st) (s2 : st ≤ 2) (h1 : 1 ≤ ps.length) (l2 : qs.length = ps.length) (h7 : ps.length ≤ 7) (hb : ∀ z ∈ ps ++ qs, -10 ≤ z.1 ∧ z.1 ≤ 10 ∧ -10 ≤ z.2 ∧ z.2 ≤ 10) (ht : tr.length ≤ 100) (hok : ∀ t ∈ tr, TrOk3 ps.length t)
    (h : ∀ r, SP.Canon r → (∀ p, p ∈ r ↔ (-10 ≤ p.1 ∧ p.1 ≤ 10 ∧ -10 ≤ p.2 ∧ p.2 ≤ 10) ∧ p.1 % st = 0 ∧ p.2 % st = 0 ∧ dif w ah ps qs tr p = true) → Q (sam r) μ) : sp_unlike [rlD (.half w ah), netD ps tr, netD qs tr, gd st 0 0] μ Q Xd := by
  have bp : ∀ z ∈ ps ++ qs, BP z := fun z hz => by have := hb z hz; unfold BP B6; omega
  have n1 : NetOk ps tr := ⟨by omega, ht, fun z hz => bp z (List.mem_append_left _ hz), fun t h => (hok t h).1⟩
  have n2 : NetOk qs tr := ⟨by omega, ht, fun z hz => bp z (List.mem_append_right _ hz), fun t h => by rw [l2]; exact (hok t h).1⟩
  unfold sp_unlike w_unlike
  unfold netD
  walk_at "gn"
  refine ⟨by rw [List.length_map, List.length_map, sizeLine_eq]; omega, ?_⟩
  intro a5
  rw [← List.map_append, List.length_map, decide_eq_true (by rw [List.length_append]; omega)]
  walk_at "gn"
  refine box_ev (ps := ps ++ qs) (fun z => by rw [List.append_eq_nil_iff] at z; rw [z.1] at h1; simp at h1) (by rw [List.length_append]; omega) fun lo hi hbox => ?_
  walk_at "gn"
  refine gen_go (pairs_gen s1 (by unfold Bd; omega)) ?_
  have cnb : ∀ z ∈ ps ++ qs, lo.1 ≤ z.1 ∧ z.1 ≤ hi.1 ∧ lo.2 ≤ z.2 ∧ z.2 ≤ hi.2 := hbox.1
  have lohi : -10 ≤ lo.1 ∧ hi.1 ≤ 10 ∧ -10 ≤ lo.2 ∧ hi.2 ≤ 10 := by
    obtain ⟨_, ⟨z1, m1, e1⟩, ⟨z2, m2, e2⟩, ⟨z3, m3, e3⟩, z4, m4, e4⟩ := hbox
    have c1 := hb z1 m1
    have c2 := hb z2 m2
    have c3 := hb z3 m3
    have c4 := hb z4 m4
    omega
  have few := SP.few (l := SP.box st 0 0 lo hi) (lo := lo) (hi := hi) (n := 22) (m := 22) (SP.box_canon s1) (fun p hp => by
    have := (SP.box_mem s1).mp hp
    exact ⟨this.1.1, this.1.2.1, this.2.1, this.2.2.1⟩) (by omega) (by omega)
  refine forL_pre (α := SA.P) (f := pd) (l := SP.box st 0 0 lo hi) (fun pre ρ μ' => μ' = μ ∧ ∃ s8 : Sl, ρ = [.v (rlD (.half w ah)), .v (netD ps tr), .v (netD qs tr), .v (gd st 0 0), .v (.lst ((ps ++ qs).map pd)), .own a5 (.lst ((pre.filter (dif w ah ps qs tr)).map pd)), .v (pd lo), .v (pd hi), s8])
    (fun pre x post e ρ μ' K hI hK => ?_) (fun ρ μ' hI => ?_) ⟨rfl, _, rfl⟩
  · obtain ⟨rfl, s8, rfl⟩ := hI
    have hx : x ∈ SP.box st 0 0 lo hi := by rw [e]; simp
    have hm := (SP.box_mem s1).mp hx
    have bx : BP x := by unfold BP B6; omega
    have ll : pre.length ≤ 1000 := by
      rw [e, List.length_append] at few
      omega
    have lf := List.length_filter_le (dif w ah ps qs tr) pre
    have eF : ((pre ++ [x]).filter (dif w ah ps qs tr)).map pd = (pre.filter (dif w ah ps qs tr)).map pd ++ (if dif w ah ps qs tr x = true then [pd x] else []) := by
      rw [List.filter_append, List.map_append, List.filter_cons, List.filter_nil]
      split <;> rfl
    rw [eF] at hK
    walk_at "gn"
    refine oc_ev isN_o hw bx n1 ?_
    walk_at "gn"
    refine oc_ev isN_o hw bx n2 ?_
    walk_at "gn"
    rw [show decide (((aheads w ah ps tr x : Nat) : Int) = ((aheads w ah qs tr x : Nat) : Int)) = decide (aheads w ah ps tr x = aheads w ah qs tr x) from decide_eq_decide.mpr (by omega), show decide (((backs w ah ps tr x : Nat) : Int) = ((backs w ah qs tr x : Nat) : Int)) = decide (backs w ah ps tr x = backs w ah qs tr x) from decide_eq_decide.mpr (by omega)]
    rw [show (!(decide (aheads w ah ps tr x = aheads w ah qs tr x) && decide (backs w ah ps tr x = backs w ah qs tr x))) = dif w ah ps qs tr x from rfl]
    cases ed : dif w ah ps qs tr x
    · rw [ed, if_neg (by decide), List.append_nil] at hK
      walk_at "gn"
      exact hK _ _ ⟨rfl, _, rfl⟩
    · rw [ed, if_pos rfl] at hK
      walk_at "gn"
      refine ⟨by rw [List.length_map]; omega, ?_⟩
      exact hK _ _ ⟨rfl, _, rfl⟩
  · obtain ⟨rfl, s8, rfl⟩ := hI
    walk_at "gn"
    refine samp_init (α := SA.P) (f := pd) (p := id) (fun a _ => .inl rfl) (Nat.le_trans (List.length_filter_le _ _) (by omega)) fun r can mem => ?_
    walk_at "gn"
    refine h r can fun p => ?_
    rw [mem, List.map_id, List.mem_filter, SP.box_mem s1]
    rw [Int.sub_zero, Int.sub_zero]
    constructor
    · rintro ⟨⟨⟨a1, a2, a3⟩, b1, b2, b3⟩, hd⟩
      exact ⟨⟨by omega, by omega, by omega, by omega⟩, a3, b3, hd⟩
    · rintro ⟨⟨a1, a2, a3, a4⟩, b1, b2, hd⟩
      have := dif_box n1.2.2.2 n2.2.2.2 cnb hd
      exact ⟨⟨⟨this.1, this.2.1, b1⟩, this.2.2.1, this.2.2.2, b2⟩, hd⟩
def rw_ (C : Int → Int → Bool) (y : Int) (j : Nat) : List SA.P := ((List.range j).filter fun i : Nat => C (-10 + (i : Nat)) y).map fun i : Nat => (-10 + ((i : Nat) : Int), y)
def rs (C : Int → Int → Bool) (j : Nat) : List SA.P := (List.range j).flatMap fun i : Nat => rw_ C (-10 + (i : Nat)) 21
theorem rw_succ {C : Int → Int → Bool} {y : Int} {j : Nat} : rw_ C y (j + 1) = rw_ C y j ++ (if C (-10 + (j : Nat)) y = true then [(-10 + ((j : Nat) : Int), y)] else []) := by
  unfold rw_
  rw [List.range_succ, List.filter_append, List.map_append, List.filter_cons, List.filter_nil]
  split <;> rfl
theorem rs_succ {C : Int → Int → Bool} {j : Nat} : rs C (j + 1) = rs C j ++ rw_ C (-10 + (j : Nat)) 21 := by
  unfold rs
  rw [List.range_succ, List.flatMap_append, List.flatMap_cons, List.flatMap_nil, List.append_nil]
theorem rw_len {C : Int → Int → Bool} {y : Int} {j : Nat} : (rw_ C y j).length ≤ j := by
  unfold rw_
  rw [List.length_map]
  exact Nat.le_trans (List.length_filter_le _ _) (by rw [List.length_range]; exact Nat.le_refl _)
theorem rs_len {C : Int → Int → Bool} : ∀ j : Nat, (rs C j).length ≤ 21 * j
  | 0 => Nat.le_refl _
  | j + 1 => by
    rw [rs_succ, List.length_append]
    have := rs_len (C := C) j
    have := rw_len (C := C) (y := -10 + (j : Nat)) (j := 21)
    omega
theorem asc21 {c : Nat → Bool} : (((List.range 21).filter c).map fun i : Nat => -10 + ((i : Nat) : Int)).Pairwise (· < ·) := by
  rw [List.pairwise_map]
  refine List.Pairwise.imp ?_ (List.Pairwise.filter _ List.pairwise_lt_range)
  intro a b h
  omega
theorem rs_canon {C : Int → Int → Bool} : SP.Canon (rs C 21) := by
  have e : rs C 21 = ((List.range 21).map fun i : Nat => -10 + ((i : Nat) : Int)).flatMap fun y => (((List.range 21).filter fun i : Nat => C (-10 + (i : Nat)) y).map fun i : Nat => -10 + ((i : Nat) : Int)).map fun x => (x, y) := by
    rw [List.flatMap_map]
    unfold rs
    congr 1
    funext y
    unfold rw_
    rw [List.map_map]
    rfl
  rw [e]
  refine SP.canon_rows (xs := fun y => ((List.range 21).filter fun i : Nat => C (-10 + (i : Nat)) y).map fun i : Nat => -10 + ((i : Nat) : Int)) ?_ fun y => asc21
  have := asc21 (c := fun _ => true)
  rw [List.filter_eq_self.mpr fun _ _ => rfl] at this
  exact this
theorem rs_mem {C : Int → Int → Bool} {p : SA.P} : p ∈ rs C 21 ↔ (-10 ≤ p.1 ∧ p.1 ≤ 10 ∧ -10 ≤ p.2 ∧ p.2 ≤ 10) ∧ C p.1 p.2 = true := by
  unfold rs rw_
  rw [List.mem_flatMap]
  constructor
  · rintro ⟨y, hy, hp⟩
    rw [List.mem_range] at hy
    obtain ⟨x, hx, rfl⟩ := List.mem_map.mp hp
    obtain ⟨hx, hc⟩ := List.mem_filter.mp hx
    rw [List.mem_range] at hx
    exact ⟨⟨by simp only; omega, by simp only; omega, by simp only; omega, by simp only; omega⟩, hc⟩
  · rintro ⟨⟨h1, h2, h3, h4⟩, hc⟩
    refine ⟨(p.2 + 10).toNat, List.mem_range.mpr (by omega), List.mem_map.mpr ⟨(p.1 + 10).toNat, List.mem_filter.mpr ⟨List.mem_range.mpr (by omega), ?_⟩, ?_⟩⟩
    · rw [show (-10 + (((p.1 + 10).toNat : Nat) : Int)) = p.1 from by omega, show (-10 + (((p.2 + 10).toNat : Nat) : Int)) = p.2 from by omega]
      exact hc
    · exact Prod.ext (by simp only; omega) (by simp only; omega)
theorem lref_ev {ps : List SA.P} {tr : List T3i} {d : D} {x : PyData} {s : Str} (hd : d = .int 0 ∨ d = .int (-1) ∨ d = .non ∨ d = .bl true) (hp : toP d = some x) (hc : reprC x) (hs : x.shown = s) (h : Q (.str s) μ) : sp__law_refused [netD ps tr, d] μ Q Xd := by
  unfold sp__law_refused w__law_refused
  walk_at "dl"
  unfold sp_snapped w_snapped
  walk_at "dl"
  unfold sp_check_least w_check_least
  rcases hd with rfl | rfl | rfl | rfl
  · walk_at "dl"
    refine ii_int ?_
    walk_at "dl"
    exact ⟨by decide +kernel, x, hp, hc, by rw [hs]; exact h⟩
  · walk_at "dl"
    refine ii_int ?_
    walk_at "dl"
    exact ⟨by decide +kernel, x, hp, hc, by rw [hs]; exact h⟩
  · walk_at "dl"
    unfold sp_is_integer w_is_integer
    walk_at "dl"
    exact ⟨by decide +kernel, x, hp, hc, by rw [hs]; exact h⟩
  · walk_at "dl"
    unfold sp_is_integer w_is_integer
    walk_at "dl"
    exact ⟨by decide +kernel, x, hp, hc, by rw [hs]; exact h⟩
def Iv (ns : List Int) (ρ : DS) (_ : Mu) : Prop := ∃ s1 s2 s3 s4 s5 s6 s7 s8 s9 s10 s11 s12 s13 s14 s15 s16 s17 : Sl, slv s12 = true ∧ slv s13 = true ∧ slv s14 = true ∧ slv s16 = true ∧ slv s17 = true ∧ ρ = [.v (.frl (ns.map D.int)), s1, s2, s3, s4, s5, s6, s7, s8, s9, s10, s11, s12, s13, s14, s15, s16, s17]
theorem law_ev {ns : List Int} (hl : ns.length ≤ 63) (h : ∀ μ, Q (.bl true) μ) : sp_law [.frl (ns.map D.int)] [] Q Xd := by
  unfold sp_law w_law
  walk_at "dn"
  obtain ⟨t1, t2, t3⟩ := turns_ok (n := (ns.map D.int).length) (m := 6) (by decide)
  refine ⟨t1, t2, ?_⟩
  change forL _ _ _ (rangeD 0 (turns (ns.map D.int).length 6).toNat) _ _
  refine forL_inv (Iv ns) (fun ρ μ hI => ?_) (fun d hd ρ μ K hI hK => ?_) ?_
  · obtain ⟨s1, s2, s3, s4, s5, s6, s7, s8, s9, s10, s11, s12, s13, s14, s15, s16, s17, h12, h13, h14, h16, h17, rfl⟩ := hI
    walk_at "gn"
    exact h _
  · obtain ⟨i, hi, rfl⟩ := mem_range hd
    obtain ⟨s1, s2, s3, s4, s5, s6, s7, s8, s9, s10, s11, s12, s13, s14, s15, s16, s17, h12, h13, h14, h16, h17, rfl⟩ := hI
    walk_at "gn"
    refine hand_ev hl (by omega) (by omega) fun p q ok => ?_
    walk_at "gn"
    refine lnet_ev ok fun ps tr p q ν ok h3 h7 hb ht hok => ?_
    walk_at "gn"
    refine told_ev ok fun n ah p q ok n0 n4 => ?_
    walk_at "gn"
    have n4' := n4
    unfold K46.s4 at n4'
    refine half_init (w := n) (ah := ah) (d := pd n) (.inl rfl) n0 (by unfold Bd; omega) (by unfold Bd; omega) ?_
    walk_at "gn"
    rw [show D.obj "Half" ["own_way", "own_ahead"] [pd (SA.lw n), .bl ah] = rlD (.half (SA.lw n) ah) from rfl]
    refine net_init (f := pd) (ps := ps) (tr := tr) isL_l isL_l isP_pd (by omega) (by omega) hok ?_
    walk_at "gn"
    rw [show D.obj "Net" ["pairs", "own_triples"] [D.lst (ps.map pd), D.lst (tr.map triD)] = netD ps tr from rfl]
    refine drawN_ev ok (by decide) (by unfold Bd; omega) fun r p q ok r0 r1 => ?_
    walk_at "gn"
    obtain ⟨m, hm⟩ : ∃ m, m = 1 + r := ⟨_, rfl⟩
    rw [← hm]
    have m1 : 1 ≤ m := by omega
    have m9 : m ≤ 9 := by omega
    clear hm
    have b10 : ∀ z ∈ ps, -10 ≤ z.1 ∧ z.1 ≤ 10 ∧ -10 ≤ z.2 ∧ z.2 ≤ 10 := fun z hz => by have := hb z hz; omega
    have nb : ∀ x : Int, -5 ≤ x → x ≤ 5 → nr m (nr m x) = nr m x ∧ -10 ≤ nr m x ∧ nr m x ≤ 10 := fun x h1 h2 => by
      have := fld_bd m.toNat (by omega) (x + 5).toNat (by omega) (by omega)
      rw [show ((m.toNat : Nat) : Int) = m from by omega, show (((x + 5).toNat : Nat) : Int) - 5 = x from by omega] at this
      exact this
    refine snap_ev m1 m9 b10 (by omega) (by omega) hok ?_
    walk_at "gn"
    obtain ⟨qs, hqs⟩ : ∃ qs, qs = ps.map fun z => (nr m z.1, nr m z.2) := ⟨_, rfl⟩
    have lqs : qs.length = ps.length := by rw [hqs, List.length_map]
    have q10 : ∀ z ∈ qs, -10 ≤ z.1 ∧ z.1 ≤ 10 ∧ -10 ≤ z.2 ∧ z.2 ≤ 10 := fun z hz => by
      rw [hqs] at hz
      obtain ⟨v, hv, rfl⟩ := List.mem_map.mp hz
      have bv := hb v hv
      have e1 := nb v.1 (by omega) (by omega)
      have e2 := nb v.2 (by omega) (by omega)
      simp only
      omega
    have qq : (qs.map fun z => (nr m z.1, nr m z.2)) = qs := by
      rw [hqs, List.map_map]
      refine List.map_congr_left fun v hv => ?_
      have bv := hb v hv
      show (nr m (nr m v.1), nr m (nr m v.2)) = (nr m v.1, nr m v.2)
      rw [(nb v.1 (by omega) (by omega)).1, (nb v.2 (by omega) (by omega)).1]
    have p1 : (ps.map fun z => (nr 1 z.1, nr 1 z.2)) = ps := by
      have : ∀ x, nr 1 x = x := fun x => by unfold nr; omega
      rw [show (fun z : SA.P => (nr 1 z.1, nr 1 z.2)) = id from funext fun z => by rw [this, this]; rfl, List.map_id]
    have okq : ∀ t ∈ tr, TrOk3 qs.length t := by rw [lqs]; exact hok
    refine ⟨⟨by cases s14 <;> first | exact True.intro | (cases h14; done), by cases s13 <;> first | exact True.intro | (cases h13; done)⟩, ?_⟩
    refine lc_mp (α := SA.P) (f := pd) (l := ps) (fun z => pd (nr m z.1, nr m z.2)) (fun z hz ds acc hacc hK2 => ?_) (by omega) ?_
    · have bz := hb z hz
      walk_at "gn"
      refine lnear_ev m1 m9 bz.1 bz.2.1 ?_
      walk_at "gn"
      refine lnear_ev m1 m9 bz.2.2.1 bz.2.2.2 ?_
      walk_at "gn"
      exact hK2
    rw [show (ps.map fun z => pd (nr m z.1, nr m z.2)) = qs.map pd from by rw [hqs, List.map_map]; rfl, ← hqs]
    clear hqs
    walk_at "gn"
    refine net_init (f := pd) (ps := qs) (tr := tr) isL_l isL_l isP_pd (by omega) (by omega) okq ?_
    walk_at "gn"
    rw [show D.obj "Net" ["pairs", "own_triples"] [D.lst (qs.map pd), D.lst (tr.map triD)] = netD qs tr from rfl]
    first | refine ⟨rfl, rfl, neq_ev isN_o isN_o ?_⟩ | refine ⟨rfl, neq_ev isN_o isN_o ?_⟩ | refine neq_ev isN_o isN_o ?_
    rw [decide_eq_true rfl, decide_eq_true rfl]
    walk_at "gn"
    refine net_init (f := pd) (ps := ps) (tr := tr) isL_l isL_l isP_pd (by omega) (by omega) hok ?_
    walk_at "gn"
    rw [show D.obj "Net" ["pairs", "own_triples"] [D.lst (ps.map pd), D.lst (tr.map triD)] = netD ps tr from rfl]
    first | refine ⟨rfl, rfl, neq_ev isN_o isN_o ?_⟩ | refine ⟨rfl, neq_ev isN_o isN_o ?_⟩ | refine neq_ev isN_o isN_o ?_
    rw [decide_eq_true rfl, decide_eq_true rfl]
    walk_at "gn"
    refine snap_ev (by decide) (by decide) b10 (by omega) (by omega) hok ?_
    rw [p1]
    walk_at "gn"
    first | refine ⟨rfl, rfl, neq_ev isN_o isN_o ?_⟩ | refine ⟨rfl, neq_ev isN_o isN_o ?_⟩ | refine neq_ev isN_o isN_o ?_
    rw [decide_eq_true rfl, decide_eq_true rfl]
    walk_at "gn"
    refine snap_ev m1 m9 q10 (by omega) (by omega) okq ?_
    rw [qq]
    walk_at "gn"
    first | refine ⟨rfl, rfl, neq_ev isN_o isN_o ?_⟩ | refine ⟨rfl, neq_ev isN_o isN_o ?_⟩ | refine neq_ev isN_o isN_o ?_
    rw [decide_eq_true rfl, decide_eq_true rfl]
    walk_at "gn"
    refine drawN_ev ok (by decide) (by unfold Bd; omega) fun r p q ok r0 r1 => ?_
    walk_at "gn"
    obtain ⟨st, hst⟩ : ∃ st, st = 1 + r := ⟨_, rfl⟩
    rw [← hst]
    have st1 : 1 ≤ st := by omega
    have st2 : st ≤ 2 := by omega
    clear hst
    intro a12
    obtain ⟨M, hM⟩ : ∃ M, M = pc μ (.int p) (.int q) ν := ⟨_, rfl⟩
    rw [← hM]
    obtain ⟨C, hC⟩ : ∃ C : Int → Int → Bool, C = fun x y => dif n ah ps qs tr (x, y) && (decide (x % st = 0) && decide (y % st = 0)) := ⟨_, rfl⟩
    have gps : ∀ z ∈ ps, Gp z := fun z hz => by have := b10 z hz; unfold Gp; omega
    have gqs : ∀ z ∈ qs, Gp z := fun z hz => by have := q10 z hz; unfold Gp; omega
    have nps : NetOk ps tr := ⟨by omega, by omega, fun z hz => gp_bp (gps z hz), fun t h => (hok t h).1⟩
    have nqs : NetOk qs tr := ⟨by omega, by omega, fun z hz => gp_bp (gqs z hz), fun t h => (okq t h).1⟩
    have hwl : SA.lw n ≠ SA.O ∧ BP (SA.lw n) := by
      have lb := lw_s n4
      exact ⟨SA.lw_nz n0, by unfold BP B6; omega⟩
    refine forL_rng (lo := -10) (n := 21) (fun j ρ ξ => ξ = M ∧ ∃ s13 s14 s15 : Sl, slv s13 = true ∧ slv s14 = true ∧ ρ = [.v (.frl (ns.map D.int)), .v (.int (0 + (i : Nat))), .v (.loc μ.length), .v (.lst (ps.map pd)), .v (.lst (tr.map triD)), .v (.tup [.str "half", pd n, .bl ah]), .v (rlD (.half (SA.lw n) ah)), .v (netD ps tr), .v (.int m), .v (netD qs tr), .v (.lst (qs.map pd)), .v (.int st), .own a12 (.lst ((rs C j).map pd)), s13, s14, s15, s16, s17]) (fun jy hjy ρ ξ K1 hI hK1 => ?_) (fun ρ ξ hI => ?_) ⟨rfl, _, _, _, h13, h14, rfl⟩
    · clear h13 h14
      obtain ⟨rfl, s13, s14, s15, h13, h14, rfl⟩ := hI
      rw [rs_succ] at hK1
      have ly := rs_len (C := C) jy
      walk_at "gn"
      refine forL_rng (lo := -10) (n := 21) (fun j ρ ξ' => ξ' = ξ ∧ ∃ s14 s15 : Sl, slv s14 = true ∧ ρ = [.v (.frl (ns.map D.int)), .v (.int (0 + (i : Nat))), .v (.loc μ.length), .v (.lst (ps.map pd)), .v (.lst (tr.map triD)), .v (.tup [.str "half", pd n, .bl ah]), .v (rlD (.half (SA.lw n) ah)), .v (netD ps tr), .v (.int m), .v (netD qs tr), .v (.lst (qs.map pd)), .v (.int st), .own a12 (.lst ((rs C jy ++ rw_ C (-10 + (jy : Nat)) j).map pd)), .v (.int (-10 + (jy : Nat))), s14, s15, s16, s17]) (fun jx hjx ρ ξ' K2 hI hK2 => ?_) (fun ρ ξ' hI => ?_) ⟨rfl, _, _, h14, by unfold rw_; rw [List.range_zero, List.filter_nil, List.map_nil, List.append_nil]⟩
      · clear h13 h14
        obtain ⟨rfl, s14, s15, h14, rfl⟩ := hI
        have lx := rw_len (C := C) (y := -10 + (jy : Nat)) (j := jx)
        rw [rw_succ] at hK2
        walk_at "gn"
        obtain ⟨z, hz⟩ : ∃ z : SA.P, z = (-10 + ((jx : Nat) : Int), -10 + ((jy : Nat) : Int)) := ⟨_, rfl⟩
        rw [show D.tup [D.int (-10 + ((jx : Nat) : Int)), D.int (-10 + ((jy : Nat) : Int))] = pd z from by rw [hz]]
        have bz : BP z := by rw [hz]; unfold BP B6; simp only; omega
        refine lcnt_ev isL_l ⟨n0, n4⟩ bz gps nps ?_
        walk_at "gn"
        rw [show D.tup [D.int (-10 + ((jx : Nat) : Int)), D.int (-10 + ((jy : Nat) : Int))] = pd z from by rw [hz]]
        refine lcnt_ev isL_l ⟨n0, n4⟩ bz gqs nqs ?_
        walk_at "gn"
        have hCz : C (-10 + ((jx : Nat) : Int)) (-10 + ((jy : Nat) : Int)) = (dif n ah ps qs tr z && (decide ((-10 + ((jx : Nat) : Int)) % st = 0) && decide ((-10 + ((jy : Nat) : Int)) % st = 0))) := by rw [hC, hz]
        rw [show decide (((aheads n ah ps tr z : Nat) : Int) = ((aheads n ah qs tr z : Nat) : Int)) = decide (aheads n ah ps tr z = aheads n ah qs tr z) from decide_eq_decide.mpr (by omega), show decide (((backs n ah ps tr z : Nat) : Int) = ((backs n ah qs tr z : Nat) : Int)) = decide (backs n ah ps tr z = backs n ah qs tr z) from decide_eq_decide.mpr (by omega)]
        rw [show (!(decide (aheads n ah ps tr z = aheads n ah qs tr z) && decide (backs n ah ps tr z = backs n ah qs tr z))) = dif n ah ps qs tr z from rfl]
        generalize dif n ah ps qs tr z = dz at *
        cases dz
        · rw [hCz, Bool.false_and, if_neg (by decide), List.append_nil] at hK2
          walk_at "gn"
          exact hK2 _ _ ⟨rfl, _, _, rfl, rfl⟩
        · rw [Bool.true_and] at hCz
          walk_at "gn"
          by_cases c1 : (-10 + ((jx : Nat) : Int)) % st = 0
          · rw [decide_eq_true c1] at hCz ⊢
            walk_at "gn"
            by_cases c2 : (-10 + ((jy : Nat) : Int)) % st = 0
            · rw [decide_eq_true c2] at hCz ⊢
              rw [hCz, show (true && true) = true from rfl, if_pos rfl, ← List.append_assoc, List.map_append (l₁ := rs C jy ++ rw_ C (-10 + (jy : Nat)) jx)] at hK2
              walk_at "gn"
              refine ⟨by rw [List.length_map, List.length_append]; omega, ?_⟩
              exact hK2 _ _ ⟨rfl, _, _, rfl, rfl⟩
            · rw [decide_eq_false c2] at hCz ⊢
              rw [hCz, Bool.and_false, if_neg (by decide), List.append_nil] at hK2
              walk_at "gn"
              exact hK2 _ _ ⟨rfl, _, _, rfl, rfl⟩
          · rw [decide_eq_false c1] at hCz ⊢
            rw [hCz, Bool.false_and, if_neg (by decide), List.append_nil] at hK2
            walk_at "gn"
            exact hK2 _ _ ⟨rfl, _, _, rfl, rfl⟩
      · clear h13 h14
        obtain ⟨rfl, s14, s15, h14, rfl⟩ := hI
        exact hK1 _ _ ⟨rfl, _, _, _, rfl, h14, rfl⟩
    · clear h13 h14
      obtain ⟨rfl, s13, s14, s15, h13, h14, rfl⟩ := hI
      walk_at "gn"
      refine grid_init (x := 0) (y := 0) (.inl rfl) (by omega) (by omega) ?_
      rw [Int.zero_emod]
      walk_at "gn"
      refine unlike_ev hwl st1 st2 (by omega) lqs h7 (fun z hz => (List.mem_append.mp hz).elim (b10 z) (q10 z)) (by omega) hok fun S can mem => ?_
      have ed : ∀ p, dif (SA.lw n) ah ps qs tr p = dif n ah ps qs tr p := fun p => by
        unfold dif
        rw [(ah_lw n0).1, (ah_lw n0).2, (ah_lw n0).1, (ah_lw n0).2]
      have eS : S = rs C 21 := SP.canon_ext can rs_canon fun p => by
        rw [mem, rs_mem, hC, ed, Bool.and_eq_true, Bool.and_eq_true, decide_eq_true_eq, decide_eq_true_eq]
        constructor
        · rintro ⟨a, b, c, d⟩
          exact ⟨a, d, b, c⟩
        · rintro ⟨a, d, b, c⟩
          exact ⟨a, b, c, d⟩
      rw [eS]
      have lS := rs_len (C := C) 21
      walk_at "gn"
      refine ⟨rfl, rfl, spts_ev (by omega) ?_⟩
      walk_at "gn"
      refine ⟨by cases s16 <;> first | exact True.intro | (cases h16; done), ?_⟩
      refine lc_mp (α := SA.P) (f := fun p => pt p.1 p.2) (l := rs C 21) pd (fun z hz ds acc hacc hK2 => ?_) (by omega) ?_
      · walk_at "gn"
        refine ppair_ev ?_
        walk_at "gn"
        exact hK2
      walk_at "gn"
      refine eqL_pd ?_
      rw [decide_eq_true rfl]
      walk_at "go"
      refine ⟨by cases s17 <;> first | exact True.intro | (cases h17; done), ?_⟩
      refine lref_ev (d := .int 0) (x := .int 0) (s := "0") (.inl rfl) (by rw [toP]) (by unfold reprC; decide +kernel) (by decide +kernel) ?_
      walk_at "go"
      refine lref_ev (d := .int (-1)) (x := .int (-1)) (s := "-1") (.inr (.inl rfl)) (by rw [toP]) (by unfold reprC; decide +kernel) (by decide +kernel) ?_
      walk_at "go"
      refine lref_ev (d := .non) (x := .none) (s := "None") (.inr (.inr (.inl rfl))) (by rw [toP]) (by unfold reprC; trivial) (by decide +kernel) ?_
      walk_at "go"
      refine lref_ev (d := .bl true) (x := .bool true) (s := "True") (.inr (.inr (.inr rfl))) (by rw [toP]) (by unfold reprC; trivial) (by decide +kernel) ?_
      walk_at "go"
      rw [eqU_pl (by decide +kernel) (by decide +kernel)]
      rw [show deq (.lst [.str "0", .str "-1", .str "None", .str "True"]) (.lst [.str "0", .str "-1", .str "None", .str "True"]) = true from by decide +kernel]
      walk_at "gn"
      exact hK _ _ ⟨_, _, _, _, _, _, _, _, _, _, _, _, _, _, _, _, _, rfl, h13, h14, h16, h17, rfl⟩
  · exact ⟨_, _, _, _, _, _, _, _, _, _, _, _, _, _, _, _, _, rfl, rfl, rfl, rfl, rfl, rfl⟩
end
end K46

set_option Elab.async false
set_option linter.all false
set_option maxRecDepth 100000
set_option maxHeartbeats 0
namespace K46
open PySem PySem.Spec PyProof.Rows L2 DL
theorem law_at {P : Program} {w : World} {K : PySem.W.Frag} {mg : Str → Option Value} {h : Heap} {f : Addr} (X : K.In h) (G : h.Ns mainGlobals mg) (hm : mg ("law" : Str) = some (.ref f)) (c : SaysY fa fn exB K) :
    ∃ fd : FuncData, (∀ (s : Shared) (v : Value), BindsTo s fd ⟨[v], []⟩ [("script", v)]) ∧ ∀ base : Heap, K.In base → base.Ns mainGlobals mg → FnG P w K mg base 9 f fd ["script"] (toSp ⟨K, mg, none⟩ sp_law) := by
  have A : Hd K mg := ⟨c.d, c.more, h, X, G⟩
  obtain ⟨fd, F⟩ := A.c.def_ 50
  have e := hm.symm.trans A.g_law
  cases e
  have b := FunD.bindsA (ps := ["script"]) F fun _ _ _ _ _ _ us hl => match us, hl with | [_], _ => rfl
  exact ⟨fd, fun s v => b s [v] rfl, fun base _ _ => def_ok F sc_law (fun ds μ Q Xd h => h.1) (fun cdv A2 fr s H E hr hgd => d_law A hr hgd) fun ds μ Q Xd h => h.2⟩
end K46
open PySem PySem.W PySem.Calls PyProof.Rows
theorem PySem.Challenge.cw_filledonce_k46_snapped_and_unlike_holds : PySem.Challenge.rw_filledonce_k46_snapped_and_unlike.Holds := by
  w_on; o_law
  refine HandSHeadRun.head_any (r := OpenLaw.row PySem.Challenge.rw_filledonce_k46_snapped_and_unlike) (q := view (OpenLaw.row PySem.Challenge.rw_filledonce_k46_snapped_and_unlike).prog [83]) (H := K46.hk) (ob := K46.ob) (M := 9000) (loose := K46.loose) (d := HandSHeadRun.topDef (OpenLaw.row PySem.Challenge.rw_filledonce_k46_snapped_and_unlike).prog 83) (kwd := []) K46.ob_eq
    (by kernel_rfl) (fun s => by kernel_rfl) K46.run (by kernel_rfl) (by kernel_rfl) (by kernel_rfl) (by rfl) (by first | assumption | decide +kernel) (by decide +kernel) ⟨rfl, rfl, rfl, rfl, rfl, by decide +kernel⟩ ?hw ?hc
  case hw => w_witness2
  case hc =>
    refine DL.walk_ofD (l := PySem.Challenge.rw_filledonce_k46_snapped_and_unlike) (n := 63) (k := 9) (x := "script") (sp := K46.sp_law) rfl (by decide) (by kernel_rfl) ⟨rfl, by decide, by decide⟩ ?F fun ns hl => K46.law_ev hl fun _ => rfl
    intro w mg fa h Y G hmg0
    obtain ⟨K, KX, c⟩ := Y
    have hmg : mg ("law" : PySem.Str) = some (.ref fa) := by
      have e : (HandSHeadRun.topDef (OpenLaw.row PySem.Challenge.rw_filledonce_k46_snapped_and_unlike).prog 83).name = ("law" : PySem.Str) := by kernel_rfl
      rw [← e]
      exact hmg0
    obtain ⟨fd, hb, hF⟩ := K46.law_at (P := (PySem.Challenge.rw_filledonce_k46_snapped_and_unlike).prog) (w := w) KX G hmg c
    exact ⟨K, fd, KX, hb, hF⟩

