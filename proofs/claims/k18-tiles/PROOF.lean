import PyProof.Rows.All
import PyProof.Rows.TupTab
import Wide.All
import OpenK.AllK
import Wide.FinOn
import HandS.ForMost
import HandS.Exc
import HandS.ExcInit
import HandS.ExcField
import HandS.ExcIs
import HandS.TryOnly
import HandS.WordsExc
import HandS.IsInst
import HandS.Wide
import HandS.WideMore
import HandS.Walk
import HandS.Zip
import HandS.Style
import HandS.RaiseMore
import HandS.Deep
import HandS.Defaults
import HandS.HeadHook2
import KE.KOpsOwn
import HandS.NoneIn
import HandS.Property
import HandS.ClsMeth
import HandS.SlotsOwn
import HandS.Ends
import HandS.HeadEnd
import HandS.HeadHook4
import HandS.Head2
import KE.KExcIs
import PyProof.CallFns
import PyProof.ReprRoads
import HandS.HeadNt
import HandS.Spec
import HandS.Head0
import HandS.Head1
import PyProof.InstNe
import HandS.OwnEq
import HandS.HotCalls
import PyProof.NeKinds
import HandS.Star
import HandS.SetFor
import KE.DataFind
import OpenK.KMake
import HandS.SortInts
import PySem.Challenge.RW_filledonce_k18_whole_tiles_of_the_plane
import HandS.GenList
import HandS.MakeKwOnly
import KE.KStateDown
import Lean
set_option Elab.async false
set_option linter.all false
set_option maxRecDepth 100000
set_option maxHeartbeats 4000000
set_option autoImplicit false
/-! The value layer: data in place of the heap. -/
namespace DL
open PySem PySem.Spec PyProof.Rows L2

/-- a datum: what a value is worth -/
inductive D where
  | non | bl (b : Bool) | int (i : Int) | str (s : Str)
  | tup (ds : List D) | lst (ds : List D)
  /-- a list that is known to the object (the script) -/
  | frl (ds : List D)
  /-- an instance that is not changed any more: its class, its attributes' names and values -/
  | obj (c : Str) (ks : List Str) (ds : List D)
  /-- a changeable thing, by its number -/
  | loc (n : Nat)
  | ty (n : String) | cls (c : Str)
  /-- any tracked thing -/
  | opq (o : HO)
/-- a changeable thing -/
inductive Cell where
  | lst (ds : List D)
  | ins (c : Str) (ks : List Str) (ds : List D)
  /-- a pool of draws -/
  | pool
/-- a slot: empty, a datum, or a thing of the def's own that is being filled -/
inductive Sl where
  | no | v (d : D) | own (a : Addr) (c : Cell)
  /-- the exception that a suite holds -/
  | exn (c : Str) (ks : List Str) (ds : List D)
structure Gx where
  K : PySem.W.Frag
  mg : Str → Option Value
  ex : Option (Addr × Addr × Addr)
def PoolOk (p q : Int) : Prop := 0 ≤ p ∧ 0 ≤ q ∧ q < 2147483647

mutual
def Rep (G : Gx) (m : List Addr) (E : Hp) : D → V → Prop
  | .non, v => v = .non
  | .bl b, v => v = .bl b
  | .int i, v => v = .int i
  | .str s, v => v = .str s
  | .ty n, v => v = .ty n
  | .cls c, v => ∃ C, G.mg c = some (.ref C) ∧ v = .ref C
  | .tup ds, v => ∃ a vs, v = .ref a ∧ SqT G.K E a vs ∧ Reps G m E ds vs
  | .lst ds, v => ∃ a vs, v = .ref a ∧ E a = some (.lst vs) ∧ Reps G m E ds vs
  | .frl ds, v => ∃ a vs, v = .ref a ∧ SqL G.K E a vs ∧ Reps G m E ds vs
  | .obj c ks ds, v => ∃ a C dx vs, v = .ref a ∧ G.mg c = some (.ref C) ∧ E a = some (.ins C dx (ks.zip vs)) ∧ ks.length = ds.length ∧ Reps G m E ds vs
  | .loc n, v => ∃ a, v = .ref a ∧ m[n]? = some a
  | .opq o, v => ∃ a, v = .ref a ∧ E a = some o
def Reps (G : Gx) (m : List Addr) (E : Hp) : List D → List V → Prop
  | [], vs => vs = []
  | d :: ds, vs => ∃ v r, vs = v :: r ∧ Rep G m E d v ∧ Reps G m E ds r
end

theorem SqT.same {K : PySem.W.Frag} {H H' : Hp} {a : Addr} {xs : List V} (e : Same H H') (h : SqT K H a xs) : SqT K H' a xs := by
  rcases h with (h | ⟨o, h⟩) | h
  · exact .inl (.inl (e _ _ h))
  · exact .inl (.inr ⟨o, e _ _ h⟩)
  · exact .inr h
theorem pre_get {m m' : List Addr} {n : Nat} {a : Addr} (hp : m <+: m') (h : m[n]? = some a) : m'[n]? = some a := by
  obtain ⟨e, rfl⟩ := hp
  obtain ⟨hl, _⟩ := List.getElem?_eq_some_iff.mp h
  rw [List.getElem?_append_left hl]
  exact h
mutual
theorem Rep.mono {G : Gx} {m m' : List Addr} {E E' : Hp} (hp : m <+: m') (he : Same E E') : ∀ (d : D) (v : V), Rep G m E d v → Rep G m' E' d v
  | .non, v, r => by rw [Rep] at r ⊢; exact r
  | .bl b, v, r => by rw [Rep] at r ⊢; exact r
  | .int i, v, r => by rw [Rep] at r ⊢; exact r
  | .str s, v, r => by rw [Rep] at r ⊢; exact r
  | .ty n, v, r => by rw [Rep] at r ⊢; exact r
  | .cls c, v, r => by rw [Rep] at r ⊢; exact r
  | .tup ds, v, r => by
    rw [Rep] at r ⊢
    obtain ⟨a, vs, e, s, q⟩ := r
    exact ⟨a, vs, e, SqT.same he s, Reps.mono hp he _ _ q⟩
  | .lst ds, v, r => by
    rw [Rep] at r ⊢
    obtain ⟨a, vs, e, s, q⟩ := r
    exact ⟨a, vs, e, he _ _ s, Reps.mono hp he _ _ q⟩
  | .frl ds, v, r => by
    rw [Rep] at r ⊢
    obtain ⟨a, vs, e, s, q⟩ := r
    exact ⟨a, vs, e, Same.seq he s, Reps.mono hp he _ _ q⟩
  | .obj c ks ds, v, r => by
    rw [Rep] at r ⊢
    obtain ⟨a, C, dx, vs, e, g, s, l, q⟩ := r
    exact ⟨a, C, dx, vs, e, g, he _ _ s, l, Reps.mono hp he _ _ q⟩
  | .loc n, v, r => by
    rw [Rep] at r ⊢
    obtain ⟨a, e, s⟩ := r
    exact ⟨a, e, pre_get hp s⟩
  | .opq o, v, r => by
    rw [Rep] at r ⊢
    obtain ⟨a, e, s⟩ := r
    exact ⟨a, e, he _ _ s⟩
theorem Reps.mono {G : Gx} {m m' : List Addr} {E E' : Hp} (hp : m <+: m') (he : Same E E') : ∀ (ds : List D) (vs : List V), Reps G m E ds vs → Reps G m' E' ds vs
  | [], vs, r => by rw [Reps] at r ⊢; exact r
  | d :: ds, vs, r => by
    rw [Reps] at r ⊢
    obtain ⟨v, t, e, s, q⟩ := r
    exact ⟨v, t, e, Rep.mono hp he _ _ s, Reps.mono hp he _ _ q⟩
end
theorem Reps.len {G : Gx} {m : List Addr} {E : Hp} : ∀ {ds : List D} {vs : List V}, Reps G m E ds vs → ds.length = vs.length
  | [], vs, r => by rw [Reps] at r; rw [r]; rfl
  | d :: ds, vs, r => by
    rw [Reps] at r
    obtain ⟨v, t, e, _, q⟩ := r
    rw [e, List.length_cons, List.length_cons, Reps.len q]
theorem Reps.nil {G : Gx} {m : List Addr} {E : Hp} : Reps G m E [] [] := by rw [Reps]
theorem Reps.cons {G : Gx} {m : List Addr} {E : Hp} {d : D} {ds : List D} {v : V} {vs : List V} (h : Rep G m E d v) (t : Reps G m E ds vs) : Reps G m E (d :: ds) (v :: vs) := by
  rw [Reps]; exact ⟨v, vs, rfl, h, t⟩
theorem Reps.uncons {G : Gx} {m : List Addr} {E : Hp} {d : D} {ds : List D} {vs : List V} (h : Reps G m E (d :: ds) vs) : ∃ v r, vs = v :: r ∧ Rep G m E d v ∧ Reps G m E ds r := by
  rw [Reps] at h; exact h
theorem Reps.get {G : Gx} {m : List Addr} {E : Hp} : ∀ {ds : List D} {vs : List V} {i : Nat} {d : D}, Reps G m E ds vs → ds[i]? = some d → ∃ v, vs[i]? = some v ∧ Rep G m E d v
  | [], _, _, _, _, h => by simp at h
  | d0 :: ds, vs, 0, d, r, h => by
    obtain ⟨v, t, rfl, q, _⟩ := r.uncons
    simp at h; subst h
    exact ⟨v, rfl, q⟩
  | d0 :: ds, vs, i + 1, d, r, h => by
    obtain ⟨v, t, rfl, _, q⟩ := r.uncons
    obtain ⟨u, e, s⟩ := Reps.get (i := i) (d := d) q (by simpa using h)
    exact ⟨u, by simpa using e, s⟩
theorem Reps.get' {G : Gx} {m : List Addr} {E : Hp} {ds : List D} {vs : List V} {i : Nat} {v : V} (r : Reps G m E ds vs) (h : vs[i]? = some v) : ∃ d, ds[i]? = some d ∧ Rep G m E d v := by
  obtain ⟨hl, _⟩ := List.getElem?_eq_some_iff.mp h
  have hd : i < ds.length := by rw [r.len]; exact hl
  obtain ⟨u, e, s⟩ := r.get (List.getElem?_eq_getElem hd)
  rw [h] at e; cases e
  exact ⟨_, List.getElem?_eq_getElem hd, s⟩
theorem Reps.append {G : Gx} {m : List Addr} {E : Hp} : ∀ {ds es : List D} {vs us : List V}, Reps G m E ds vs → Reps G m E es us → Reps G m E (ds ++ es) (vs ++ us)
  | [], es, vs, us, r, q => by rw [Reps] at r; subst r; exact q
  | d :: ds, es, vs, us, r, q => by
    obtain ⟨v, t, rfl, h, r'⟩ := r.uncons
    exact Reps.cons h (Reps.append r' q)
theorem Reps.take {G : Gx} {m : List Addr} {E : Hp} : ∀ {ds : List D} {vs : List V} (n : Nat), Reps G m E ds vs → Reps G m E (ds.take n) (vs.take n)
  | ds, vs, 0, r => by simp [Reps]
  | [], vs, n + 1, r => by rw [Reps] at r; subst r; simp [Reps]
  | d :: ds, vs, n + 1, r => by
    obtain ⟨v, t, rfl, h, r'⟩ := r.uncons
    exact Reps.cons h (Reps.take n r')
theorem Reps.drop {G : Gx} {m : List Addr} {E : Hp} : ∀ {ds : List D} {vs : List V} (n : Nat), Reps G m E ds vs → Reps G m E (ds.drop n) (vs.drop n)
  | ds, vs, 0, r => r
  | [], vs, n + 1, r => by rw [Reps] at r; subst r; simp [Reps]
  | d :: ds, vs, n + 1, r => by
    obtain ⟨v, t, rfl, h, r'⟩ := r.uncons
    exact Reps.drop n r'
theorem Reps.set {G : Gx} {m : List Addr} {E : Hp} {d : D} {v : V} (h : Rep G m E d v) : ∀ {ds : List D} {vs : List V} (n : Nat), Reps G m E ds vs → Reps G m E (ds.set n d) (vs.set n v)
  | [], vs, n, r => by rw [Reps] at r; subst r; simp [Reps]
  | d0 :: ds, vs, 0, r => by
    obtain ⟨u, t, rfl, _, r'⟩ := r.uncons
    exact Reps.cons h r'
  | d0 :: ds, vs, n + 1, r => by
    obtain ⟨u, t, rfl, q, r'⟩ := r.uncons
    exact Reps.cons q (Reps.set h n r')
theorem Reps.eraseIdx {G : Gx} {m : List Addr} {E : Hp} : ∀ {ds : List D} {vs : List V} (n : Nat), Reps G m E ds vs → Reps G m E (ds.eraseIdx n) (vs.eraseIdx n)
  | [], vs, n, r => by rw [Reps] at r; subst r; simp [Reps]
  | d0 :: ds, vs, 0, r => by
    obtain ⟨u, t, rfl, _, r'⟩ := r.uncons
    exact r'
  | d0 :: ds, vs, n + 1, r => by
    obtain ⟨u, t, rfl, q, r'⟩ := r.uncons
    exact Reps.cons q (Reps.eraseIdx n r')
theorem Reps.reverse {G : Gx} {m : List Addr} {E : Hp} : ∀ {ds : List D} {vs : List V}, Reps G m E ds vs → Reps G m E ds.reverse vs.reverse
  | [], vs, r => by rw [Reps] at r; subst r; exact Reps.nil
  | d0 :: ds, vs, r => by
    obtain ⟨u, t, rfl, q, r'⟩ := r.uncons
    rw [List.reverse_cons, List.reverse_cons]
    exact Reps.append (Reps.reverse r') (Reps.cons q Reps.nil)
theorem Reps.map_of {G : Gx} {m : List Addr} {E : Hp} {α : Type} {f : α → D} {g : α → V} (h : ∀ x, Rep G m E (f x) (g x)) : ∀ l : List α, Reps G m E (l.map f) (l.map g)
  | [] => Reps.nil
  | x :: l => Reps.cons (h x) (Reps.map_of h l)

/-! ### what is seen of the heap: all but the hidden and the changeable -/
noncomputable def vis (W : Addr → Prop) (m : List Addr) (H : Hp) : Hp := fun b => open Classical in if W b ∨ b ∈ m then none else H b
theorem vis_some {W : Addr → Prop} {m : List Addr} {H : Hp} {b : Addr} {o : HO} : vis W m H b = some o ↔ (¬ W b ∧ b ∉ m ∧ H b = some o) := by
  unfold vis
  by_cases h : W b ∨ b ∈ m
  · rw [if_pos h]
    constructor
    · intro z; cases z
    · rintro ⟨h1, h2, _⟩
      exact absurd h (by simp [h1, h2])
  · rw [if_neg h]
    constructor
    · intro z
      exact ⟨fun q => h (.inl q), fun q => h (.inr q), z⟩
    · exact fun z => z.2.2
theorem vis_le {W : Addr → Prop} {m : List Addr} {H : Hp} : Same (vis W m H) H := fun b o h => (vis_some.mp h).2.2
def CellOk (G : Gx) (m : List Addr) (E H : Hp) (c : Cell) (a : Addr) : Prop :=
  match c with
  | .lst ds => ∃ vs, H a = some (.lst vs) ∧ Reps G m E ds vs
  | .ins c ks ds => ∃ C dx vs, G.mg c = some (.ref C) ∧ H a = some (.ins C dx (ks.zip vs)) ∧ ks.length = ds.length ∧ Reps G m E ds vs
  | .pool => ∃ p q, PoolOk p q ∧ H a = some (.lst [.int p, .int q])
structure MuOk (G : Gx) (W : Addr → Prop) (m : List Addr) (μ : List Cell) (H : Hp) : Prop where
  len : m.length = μ.length
  nd : m.Nodup
  out : ∀ a ∈ m, ¬ W a
  hw : ∀ z, W z → H z ≠ none
  cell : ∀ (n : Nat) (c : Cell) (a : Addr), μ[n]? = some c → m[n]? = some a → CellOk G m (vis W m H) H c a
theorem CellOk.there {G : Gx} {m : List Addr} {E H : Hp} {c : Cell} {a : Addr} (h : CellOk G m E H c a) : H a ≠ none := by
  cases c with
  | lst ds => obtain ⟨_, e, _⟩ := h; rw [e]; intro z; cases z
  | ins c ks ds => obtain ⟨_, _, _, _, e, _⟩ := h; rw [e]; intro z; cases z
  | pool => obtain ⟨_, _, _, e⟩ := h; rw [e]; intro z; cases z
theorem CellOk.keep {G : Gx} {m m' : List Addr} {E E' H H' : Hp} {c : Cell} {a : Addr} (hp : m <+: m') (he : Same E E') (e : H' a = H a) (h : CellOk G m E H c a) : CellOk G m' E' H' c a := by
  cases c with
  | lst ds =>
    obtain ⟨vs, h1, h2⟩ := h
    exact ⟨vs, e.trans h1, Reps.mono hp he _ _ h2⟩
  | ins c ks ds =>
    obtain ⟨C, dx, vs, h0, h1, hl, h2⟩ := h
    exact ⟨C, dx, vs, h0, e.trans h1, hl, Reps.mono hp he _ _ h2⟩
  | pool =>
    obtain ⟨p, q, h0, h1⟩ := h
    exact ⟨p, q, h0, e.trans h1⟩
theorem MuOk.mem {G : Gx} {W : Addr → Prop} {m : List Addr} {μ : List Cell} {H : Hp} (M : MuOk G W m μ H) {a : Addr} (h : a ∈ m) : H a ≠ none := by
  obtain ⟨n, hn, e⟩ := List.mem_iff_getElem.mp h
  have hn' : n < μ.length := by rw [← M.len]; exact hn
  exact (M.cell n μ[n] a (List.getElem?_eq_getElem hn') (by rw [List.getElem?_eq_getElem hn, e])).there
/-- a step of code: what was hidden stays, what was seen stays -/
structure Step (G : Gx) (W : Addr → Prop) (m : List Addr) (H : Hp) (m' : List Addr) (μ' : List Cell) (H' : Hp) : Prop where
  pre : m <+: m'
  hid : ∀ z, W z → H' z = H z
  mu : MuOk G W m' μ' H'
  same : Same (vis W m H) (vis W m' H')
theorem Step.refl {G : Gx} {W : Addr → Prop} {m : List Addr} {μ : List Cell} {H : Hp} (M : MuOk G W m μ H) : Step G W m H m μ H := ⟨List.prefix_refl _, fun _ _ => rfl, M, Same.refl _⟩
theorem Step.trans {G : Gx} {W : Addr → Prop} {m m1 m2 : List Addr} {μ1 μ2 : List Cell} {H H1 H2 : Hp} (a : Step G W m H m1 μ1 H1) (b : Step G W m1 H1 m2 μ2 H2) : Step G W m H m2 μ2 H2 :=
  ⟨a.pre.trans b.pre, fun z h => (b.hid z h).trans (a.hid z h), b.mu, a.same.trans b.same⟩
abbrev Mu := List Cell
abbrev DS := List Sl
/-- behind an expression -/
def VPost (G : Gx) (W : Addr → Prop) (m : List Addr) (H : Hp) (Q : D → Mu → Prop) (v : V) (H' : Hp) : Prop :=
  ∃ m' d μ', Step G W m H m' μ' H' ∧ Rep G m' (vis W m' H') d v ∧ Q d μ'
theorem VPost.now {G : Gx} {W : Addr → Prop} {m : List Addr} {μ : Mu} {H : Hp} {Q : D → Mu → Prop} {d : D} {v : V} (M : MuOk G W m μ H) (r : Rep G m (vis W m H) d v) (q : Q d μ) : VPost G W m H Q v H := ⟨m, d, μ, .refl M, r, q⟩
theorem VPost.from {G : Gx} {W : Addr → Prop} {m m1 : List Addr} {μ1 : Mu} {H H1 H' : Hp} {Q : D → Mu → Prop} {v : V} (s : Step G W m H m1 μ1 H1) (p : VPost G W m1 H1 Q v H') : VPost G W m H Q v H' := by
  obtain ⟨m', d, μ', s', r, q⟩ := p
  exact ⟨m', d, μ', s.trans s', r, q⟩
theorem VPost.imp {G : Gx} {W : Addr → Prop} {m : List Addr} {H H' : Hp} {Q Q' : D → Mu → Prop} {v : V} (p : VPost G W m H Q v H') (h : ∀ d μ, Q d μ → Q' d μ) : VPost G W m H Q' v H' := by
  obtain ⟨m', d, μ', s', r, q⟩ := p
  exact ⟨m', d, μ', s', r, h _ _ q⟩
/-- an exception's data: its class, its attributes -/
abbrev XD := Str → List Str → List D → Mu → Prop
def XPost (G : Gx) (W : Addr → Prop) (m : List Addr) (H : Hp) (Xd : XD) (cls : Value) (d : Option Addr) (H' : Hp) : Prop :=
  ∃ m' c ks es μ' C dd vs, Step G W m H m' μ' H' ∧ cls = .ref C ∧ d = some dd ∧ G.mg c = some (.ref C) ∧ vis W m' H' dd = some (.xd (ks.zip vs)) ∧ ks.length = es.length ∧ Reps G m' (vis W m' H') es vs ∧ Xd c ks es μ'
theorem XPost.from {G : Gx} {W : Addr → Prop} {m m1 : List Addr} {μ1 : Mu} {H H1 H' : Hp} {Xd : XD} {cls : Value} {d : Option Addr} (s : Step G W m H m1 μ1 H1) (p : XPost G W m1 H1 Xd cls d H') : XPost G W m H Xd cls d H' := by
  obtain ⟨m', c, ks, es, μ', C, dd, vs, s', r⟩ := p
  exact ⟨m', c, ks, es, μ', C, dd, vs, s.trans s', r⟩
theorem XPost.imp {G : Gx} {W : Addr → Prop} {m : List Addr} {H H' : Hp} {Xd Xd' : XD} {cls : Value} {d : Option Addr} (p : XPost G W m H Xd cls d H') (h : ∀ c ks es μ, Xd c ks es μ → Xd' c ks es μ) : XPost G W m H Xd' cls d H' := by
  obtain ⟨m', c, ks, es, μ', C, dd, vs, s', e1, e2, e3, e4, e5, e6, q⟩ := p
  exact ⟨m', c, ks, es, μ', C, dd, vs, s', e1, e2, e3, e4, e5, e6, h _ _ _ _ q⟩
/-- a new thing, seen -/
theorem MuOk.fresh {G : Gx} {W : Addr → Prop} {m : List Addr} {μ : Mu} {H : Hp} (M : MuOk G W m μ H) {p : Addr} (np : H p = none) : ¬ W p ∧ p ∉ m :=
  ⟨fun z => M.hw p z np, fun z => M.mem z np⟩
theorem vis_upd {G : Gx} {W : Addr → Prop} {m : List Addr} {μ : Mu} {H : Hp} (M : MuOk G W m μ H) {p : Addr} {o : HO} (np : H p = none) : vis W m (upd H p o) = upd (vis W m H) p o := by
  obtain ⟨h1, h2⟩ := M.fresh np
  funext b
  by_cases hb : b = p
  · subst hb
    rw [upd_same]
    exact vis_some.mpr ⟨h1, h2, upd_same⟩
  · rw [upd_ne hb]
    unfold vis
    rw [upd_ne hb]
theorem same_new {H : Hp} {p : Addr} {o : HO} (np : H p = none) : Same H (upd H p o) := fun b x e => by
  rw [upd_ne (ne_of_none e np)]; exact e
theorem vis_none {W : Addr → Prop} {m : List Addr} {H : Hp} {p : Addr} (np : H p = none) : vis W m H p = none := by
  cases e : vis W m H p with
  | none => rfl
  | some o => rw [(vis_some.mp e).2.2] at np; cases np
theorem MuOk.laid {G : Gx} {W : Addr → Prop} {m : List Addr} {μ : Mu} {H : Hp} (M : MuOk G W m μ H) {p : Addr} {o : HO} (np : H p = none) : MuOk G W m μ (upd H p o) := by
  obtain ⟨h1, h2⟩ := M.fresh np
  refine ⟨M.len, M.nd, M.out, fun z hz => ?_, fun n c a hc ha => ?_⟩
  · by_cases e : z = p
    · subst e; rw [upd_same]; intro q; cases q
    · rw [upd_ne e]; exact M.hw z hz
  · have ne : a ≠ p := fun e => h2 (e ▸ List.mem_of_getElem? ha)
    rw [vis_upd M np]
    exact (M.cell n c a hc ha).keep (List.prefix_refl _) (same_new (vis_none np)) (upd_ne ne)
theorem Step.laid {G : Gx} {W : Addr → Prop} {m : List Addr} {μ : Mu} {H : Hp} (M : MuOk G W m μ H) {p : Addr} {o : HO} (np : H p = none) : Step G W m H m μ (upd H p o) := by
  refine ⟨List.prefix_refl _, fun z hz => upd_ne fun e => ?_, M.laid np, ?_⟩
  · subst e; exact M.hw z hz np
  · rw [vis_upd M np]; exact same_new (vis_none np)

/-! ### slots -/
def ownW (Z : Addr → Prop) (σ : L2.St) (ρ : DS) (b : Addr) : Prop := Z b ∨ ∃ (i : Nat) (c : Cell), ρ[i]? = some (Sl.own b c)
def ExOk (G : Gx) (m : List Addr) (E : Hp) (o : Option (Option V)) (c : Str) (ks : List Str) (ds : List D) : Prop :=
  ∃ a C dd vs, G.ex = some (a, C, dd) ∧ G.mg c = some (.ref C) ∧ o = some (some (V.ref a)) ∧ E dd = some (.xd (ks.zip vs)) ∧ ks.length = ds.length ∧ Reps G m E ds vs
theorem ExOk.mono {G : Gx} {m m' : List Addr} {E E' : Hp} {o : Option (Option V)} {c : Str} {ks : List Str} {ds : List D} (hp : m <+: m') (he : Same E E') (h : ExOk G m E o c ks ds) : ExOk G m' E' o c ks ds := by
  obtain ⟨a, C, dd, vs, h1, h2, h3, h4, h5, h6⟩ := h
  exact ⟨a, C, dd, vs, h1, h2, h3, he _ _ h4, h5, Reps.mono hp he _ _ h6⟩
structure SR (G : Gx) (Z : Addr → Prop) (m : List Addr) (σ : L2.St) (H : Hp) (ρ : DS) (μ : Mu) : Prop where
  len : ρ.length = σ.length
  mu : MuOk G (ownW Z σ ρ) m μ H
  val : ∀ (i : Nat) d, ρ[i]? = some (Sl.v d) → ∃ v, σ[i]? = some (some v) ∧ Rep G m (vis (ownW Z σ ρ) m H) d v
  own : ∀ (i : Nat) a c, ρ[i]? = some (Sl.own a c) → σ[i]? = some (some (V.ref a)) ∧ ¬ Z a ∧ CellOk G m (vis (ownW Z σ ρ) m H) H c a
  dis : ∀ (i j : Nat) (a : Addr) c c', ρ[i]? = some (Sl.own a c) → ρ[j]? = some (Sl.own a c') → i = j
  exn : ∀ (i : Nat) c ks ds, ρ[i]? = some (Sl.exn c ks ds) → ExOk G m (vis (ownW Z σ ρ) m H) (σ[i]?) c ks ds
theorem SR.step {G : Gx} {Z : Addr → Prop} {m m' : List Addr} {σ : L2.St} {H H' : Hp} {ρ : DS} {μ μ' : Mu} (S : SR G Z m σ H ρ μ) (s : Step G (ownW Z σ ρ) m H m' μ' H') : SR G Z m' σ H' ρ μ' := by
  refine ⟨S.len, s.mu, fun i d e => ?_, fun i a c e => ?_, S.dis, fun i c ks ds e => (S.exn i c ks ds e).mono s.pre s.same⟩
  · obtain ⟨v, e1, r⟩ := S.val i d e
    exact ⟨v, e1, Rep.mono s.pre s.same _ _ r⟩
  · obtain ⟨e1, nz, r⟩ := S.own i a c e
    exact ⟨e1, nz, r.keep s.pre s.same (s.hid a (.inr ⟨i, c, e⟩))⟩

/-! ### expressions -/
abbrev WE := DS → Mu → (D → Mu → Prop) → XD → Prop
/-- a reading by data as a reading: where the state is told by data -/
def lift (G : Gx) (W : WX) (w : WE) : TE := fun σ H Q' => ∃ Z m ρ μ Q Xd, SR G Z m σ H ρ μ ∧ w ρ μ Q Xd ∧ (∀ v H', VPost G (ownW Z σ ρ) m H Q v H' → Q' v H') ∧ ∀ cls d H', XPost G (ownW Z σ ρ) m H Xd cls d H' → W cls d σ H'
abbrev gx (X : Cx) (ex : Option (Addr × Addr × Addr)) : Gx := ⟨X.K, X.mg, ex⟩
abbrev DE (ex : Option (Addr × Addr × Addr)) (W : WX) (X : Cx) (e : Expr) (w : WE) : Prop := PE X e (lift (gx X ex) W w)
theorem pe_weak {X : Cx} {e : Expr} {t t' : TE} (h : PE X e t) (k : ∀ σ H Q, t' σ H Q → t σ H Q) : PE X e t' := ⟨fun pins s σ H Q I q => h.run pins s σ H Q I (k σ H Q q)⟩
/-- a name -/
def wVar (i : Nat) : WE := fun ρ μ Q _ => match ρ[i]? with
  | some (.v d) => Q d μ
  | _ => False
def wC (d : D) : WE := fun _ μ Q _ => Q d μ
section
variable {ex : Option (Addr × Addr × Addr)} {W : WX} {X : Cx}
theorem de_name {e : Expr} {i : Nat} (h : PE X e (tVar i)) : DE ex W X e (wVar i) := pe_weak h fun σ H Q' q => by
  obtain ⟨Z, m, ρ, μ, Q, Xd, S, q, k, kx⟩ := q
  unfold wVar at q
  split at q
  · rename_i d e
    obtain ⟨v, e1, r⟩ := S.val i d e
    exact ⟨v, e1, k v H (.now S.mu r q)⟩
  · exact q.elim
theorem dv (i : Nat) {x : Str} {pos : Pos} (hN : X.N[i]? = some x := by rfl) (hv : Vis X.env.scope x := by first | exact Or.inl rfl | exact Or.inr (Or.inl rfl) | exact Or.inr (Or.inr rfl)) (hd : (x == ("__debug__" : Str)) = false := by decide)
    (hcd : (x == ("__classdict__" : Str)) = false := by decide) : DE ex W X (.Name x pos) (wVar i) := de_name (pe_var hN hv hd hcd)
theorem de_c {e : Expr} {v : V} {d : D} (h : PE X e (tC v)) (hr : ∀ m E, Rep (gx X ex) m E d v) : DE ex W X e (wC d) := pe_weak h fun σ H Q' q => by
  obtain ⟨Z, m, ρ, μ, Q, Xd, S, q, k, kx⟩ := q
  exact k v H (.now S.mu (hr _ _) q)
theorem de_int {i j pos} : DE ex W X (.Constant (.int i) j pos) (wC (.int i)) := de_c pe_int fun _ _ => by rw [Rep]
theorem de_bl {b j pos} : DE ex W X (.Constant (.bool b) j pos) (wC (.bl b)) := de_c pe_bl fun _ _ => by rw [Rep]
theorem de_non {j pos} : DE ex W X (.Constant .none j pos) (wC .non) := de_c pe_non fun _ _ => by rw [Rep]
theorem de_str {x j pos} : DE ex W X (.Constant (.str x) j pos) (wC (.str x)) := de_c pe_str fun _ _ => by rw [Rep]
/-- a class of the text, as a value -/
theorem de_cls {x : Str} {C : Addr} {pos : Pos} (hg : Gl X x) (hm : X.mg x = some (.ref C)) (hd : (x == ("__debug__" : Str)) = false := by decide) : DE ex W X (.Name x pos) (wC (.cls x)) :=
  de_c (pe_glob hg hm (v := .ref C) rfl hd) fun _ _ => by rw [Rep]; exact ⟨C, hm, rfl⟩
/-- a built-in type, as a value -/
theorem de_ty {x : Str} {T : String} {pos : Pos} (hg : Gl X x) (hm : X.mg x = none) (hv : bootBuiltins x = some (.type T)) (hn : x ≠ "__name__" := by decide) (hd : (x == ("__debug__" : Str)) = false := by decide) : DE ex W X (.Name x pos) (wC (.ty T)) :=
  de_c (pe_bltn hg hm hv (v := .ty T) rfl hn hd) fun _ _ => by rw [Rep]
/-- a module's int -/
theorem de_gint {x : Str} {i : Int} {t : Tok} {pos : Pos} (hg : Gl X x) (hm : X.mg x = some (.int i t)) (hd : (x == ("__debug__" : Str)) = false := by decide) : DE ex W X (.Name x pos) (wC (.int i)) :=
  de_c (pe_glob hg hm (v := .int i) ⟨t, rfl⟩ hd) fun _ _ => by rw [Rep]
end
/-! ### operations on values -/
abbrev F2 := D → D → Mu → (D → Mu → Prop) → Prop
abbrev F1 := D → Mu → (D → Mu → Prop) → Prop
abbrev FN := List D → Mu → (D → Mu → Prop) → Prop
def w2 (f : F2) (wa wb : WE) : WE := fun ρ μ Q Xd => wa ρ μ (fun x μ1 => wb ρ μ1 (fun y μ2 => f x y μ2 Q) Xd) Xd
def w1 (f : F1) (wa : WE) : WE := fun ρ μ Q Xd => wa ρ μ (fun x μ1 => f x μ1 Q) Xd
def S2 (G : Gx) (r : R2) (f : F2) : Prop := ∀ (Z : Addr → Prop) (m : List Addr) (μ : Mu) (H : Hp) (x y : D) (u v : V) (Q : D → Mu → Prop) (Q' : VK),
  MuOk G Z m μ H → Rep G m (vis Z m H) x u → Rep G m (vis Z m H) y v → f x y μ Q → (∀ z H', VPost G Z m H Q z H' → Q' z H') → r u v H Q'
def S1 (G : Gx) (r : V → Hp → VK → Prop) (f : F1) : Prop := ∀ (Z : Addr → Prop) (m : List Addr) (μ : Mu) (H : Hp) (x : D) (u : V) (Q : D → Mu → Prop) (Q' : VK),
  MuOk G Z m μ H → Rep G m (vis Z m H) x u → f x μ Q → (∀ z H', VPost G Z m H Q z H' → Q' z H') → r u H Q'
def SN (G : Gx) (r : List V → Hp → VK → Prop) (f : FN) : Prop := ∀ (Z : Addr → Prop) (m : List Addr) (μ : Mu) (H : Hp) (xs : List D) (us : List V) (Q : D → Mu → Prop) (Q' : VK),
  MuOk G Z m μ H → Reps G m (vis Z m H) xs us → f xs μ Q → (∀ z H', VPost G Z m H Q z H' → Q' z H') → r us H Q'
/-- one operand behind another -/
theorem lift_bind {G : Gx} {W : WX} {wa : WE} {σ : L2.St} {H : Hp} {Q' : VK} {f : D → DS → Mu → (D → Mu → Prop) → XD → Prop} {R : V → Hp → Prop}
    (q : lift G W (fun ρ μ Q Xd => wa ρ μ (fun x μ1 => f x ρ μ1 Q Xd) Xd) σ H Q')
    (h : ∀ (Z : Addr → Prop) (m : List Addr) (ρ : DS) (μ : Mu) (Q : D → Mu → Prop) (Xd : XD) (x : D) (v : V) (H1 : Hp), SR G Z m σ H1 ρ μ → Rep G m (vis (ownW Z σ ρ) m H1) x v → f x ρ μ Q Xd →
      (∀ v H', VPost G (ownW Z σ ρ) m H1 Q v H' → Q' v H') → (∀ cls d H', XPost G (ownW Z σ ρ) m H1 Xd cls d H' → W cls d σ H') → R v H1) : lift G W wa σ H R := by
  obtain ⟨Z, m, ρ, μ, Q, Xd, S, q, k, kx⟩ := q
  refine ⟨Z, m, ρ, μ, _, Xd, S, q, fun v H1 P => ?_, kx⟩
  obtain ⟨m1, d, μ1, s1, r1, q1⟩ := P
  exact h Z m1 ρ μ1 Q Xd d v H1 (S.step s1) r1 q1 (fun v H' P => k v H' (VPost.from s1 P)) fun cls d H' P => kx cls d H' (XPost.from s1 P)
theorem lift_w2 {G : Gx} {W : WX} {r : R2} {f : F2} (hf : S2 G r f) {wa wb : WE} {σ : L2.St} {H : Hp} {Q' : VK} (q : lift G W (w2 f wa wb) σ H Q') : tOp r (lift G W wa) (lift G W wb) σ H Q' := by
  refine lift_bind (f := fun x ρ μ1 Q Xd => wb ρ μ1 (fun y μ2 => f x y μ2 Q) Xd) q fun Z m ρ μ Q Xd x v H1 S r1 q1 k kx => ?_
  refine ⟨Z, m, ρ, μ, _, Xd, S, q1, fun u H2 P => ?_, kx⟩
  obtain ⟨m2, y, μ2, s2, r2, q2⟩ := P
  exact hf _ m2 μ2 H2 x y v u Q Q' s2.mu (Rep.mono s2.pre s2.same _ _ r1) r2 q2 fun z H' P => k z H' (VPost.from s2 P)
theorem lift_w1 {G : Gx} {W : WX} {r : V → Hp → VK → Prop} {f : F1} (hf : S1 G r f) {wa : WE} {σ : L2.St} {H : Hp} {Q' : VK} (q : lift G W (w1 f wa) σ H Q') : tUn r (lift G W wa) σ H Q' := by
  refine lift_bind (f := fun x ρ μ1 Q Xd => f x μ1 Q) q fun Z m ρ μ Q Xd x v H1 S r1 q1 k kx => ?_
  exact hf _ m μ H1 x v Q Q' S.mu r1 q1 k
section
variable {ex : Option (Addr × Addr × Addr)} {W : WX} {X : Cx} {a b c : Expr} {wa wb wc : WE} {pos : Pos}
theorem de_op {op : Operator} {r : R2} {f : F2} (ho : OpR X (binaryOp op) r) (hf : S2 (gx X ex) r f) (ha : DE ex W X a wa) (hb : DE ex W X b wb) : DE ex W X (.BinOp a op b pos) (w2 f wa wb) := pe_weak (pe_op ho ha hb) fun _ _ _ q => lift_w2 hf q
theorem de_un {op : UnaryOp} {r : V → Hp → VK → Prop} {f : F1} (ho : UnR X (unaryOp op) r) (hf : S1 (gx X ex) r f) (ha : DE ex W X a wa) : DE ex W X (.UnaryOp op a pos) (w1 f wa) := pe_weak (pe_un ho ha) fun _ _ _ q => lift_w1 hf q
theorem de_cmp {op : CmpOp} {r : R2} {f : F2} (ho : OpR X (compareOp op) r) (hf : S2 (gx X ex) r f) (ha : DE ex W X a wa) (hb : DE ex W X b wb) (hm : behindInMarks op b = false) : DE ex W X (.Compare a [op] [b] pos) (w2 f wa wb) := pe_weak (pe_cmpR ho ha hb hm) fun _ _ _ q => lift_w2 hf q
theorem de_ix {r : R2} {f : F2} (hr : IxR X r) (hf : S2 (gx X ex) r f) (ha : DE ex W X a wa) (hb : DE ex W X b wb) (hs : PlainIx b := by exact fun _ _ => rfl) : DE ex W X (.Subscript a b pos) (w2 f wa wb) := pe_weak (pe_ix hr ha hb hs) fun _ _ _ q => lift_w2 hf q
end
/-! ### tests -/
abbrev WT := DS → Mu → (Bool → Mu → Prop) → XD → Prop
def BPost (G : Gx) (Z : Addr → Prop) (m : List Addr) (H : Hp) (Q : Bool → Mu → Prop) (b : Bool) (H' : Hp) : Prop :=
  ∃ m' μ', Step G Z m H m' μ' H' ∧ Q b μ'
theorem BPost.from {G : Gx} {Z : Addr → Prop} {m m1 : List Addr} {μ1 : Mu} {H H1 H' : Hp} {Q : Bool → Mu → Prop} {v : Bool} (s : Step G Z m H m1 μ1 H1) (p : BPost G Z m1 H1 Q v H') : BPost G Z m H Q v H' := by
  obtain ⟨m', μ', s', q⟩ := p
  exact ⟨m', μ', s.trans s', q⟩
def liftT (G : Gx) (W : WX) (w : WT) : TT := fun σ H Q' => ∃ Z m ρ μ Q Xd, SR G Z m σ H ρ μ ∧ w ρ μ Q Xd ∧ (∀ b H', BPost G (ownW Z σ ρ) m H Q b H' → Q' b H') ∧ ∀ cls d H', XPost G (ownW Z σ ρ) m H Xd cls d H' → W cls d σ H'
abbrev DT (ex : Option (Addr × Addr × Addr)) (W : WX) (X : Cx) (e : Expr) (w : WT) : Prop := PT X e (liftT (gx X ex) W w)
abbrev DW (ex : Option (Addr × Addr × Addr)) (W : WX) (X : Cx) (e : Expr) (w : WT) : Prop := PW X e (liftT (gx X ex) W w)
theorem pt_weak {X : Cx} {e : Expr} {t t' : TT} (h : PT X e t) (k : ∀ σ H Q, t' σ H Q → t σ H Q) : PT X e t' := ⟨fun pins s σ H Q I q => h.run pins s σ H Q I (k σ H Q q)⟩
theorem pw_weak {X : Cx} {e : Expr} {t t' : TT} (h : PW X e t) (k : ∀ σ H Q, t' σ H Q → t σ H Q) : PW X e t' := ⟨fun wh pins s σ H Q I q => h.run wh pins s σ H Q I (k σ H Q q)⟩
/-- an expression that gives a truth, as a test -/
def fBool : D → (Bool → Prop) → Prop
  | .bl b, Q => Q b
  | _, _ => False
def wB (w : WE) : WT := fun ρ μ Q Xd => w ρ μ (fun d μ1 => fBool d fun b => Q b μ1) Xd
theorem fBool_of {d : D} {Q : Bool → Prop} (h : fBool d Q) : ∃ b, d = .bl b ∧ Q b := by
  cases d <;> first | exact h.elim | exact ⟨_, rfl, h⟩
theorem lift_wB {G : Gx} {W : WX} {w : WE} {σ : L2.St} {H : Hp} {Q' : Bool → Hp → Prop} (q : liftT G W (wB w) σ H Q') : tTest (lift G W w) σ H Q' := by
  obtain ⟨Z, m, ρ, μ, Q, Xd, S, q, k, kx⟩ := q
  refine ⟨Z, m, ρ, μ, _, Xd, S, q, fun v H1 P => ?_, kx⟩
  obtain ⟨m1, d, μ1, s1, r1, q1⟩ := P
  obtain ⟨b, rfl, q2⟩ := fBool_of q1
  rw [Rep] at r1
  exact ⟨b, r1, k b H1 ⟨m1, μ1, s1, q2⟩⟩
section
variable {ex : Option (Addr × Addr × Addr)} {W : WX} {X : Cx} {a b c : Expr} {wa wb wc : WE} {ta tb tc : WT} {pos : Pos} {rest : List Expr}
theorem dt_val (h : DE ex W X a wa) (he : ∀ whole, isTrue a X.env whole = (do let v ← whole; standAt a.pos; holding [v] (truthy v)) := by intro _; rfl) : DT ex W X a (wB wa) :=
  pt_weak (pt_val h he) fun _ _ _ q => lift_wB q
theorem dt_cmp {op : CmpOp} {r : R2} {f : F2} (ho : OpR X (compareOp op) r) (hf : S2 (gx X ex) r f) (ha : DE ex W X a wa) (hb : DE ex W X b wb) (hm : behindInMarks op b = false) : DT ex W X (.Compare a [op] [b] pos) (wB (w2 f wa wb)) :=
  pt_weak (pt_cmpR ho ha hb hm) fun σ H Q q => by
    have h := lift_wB q
    obtain h : lift _ _ _ σ H _ := h
    exact lift_w2 hf h
/-- chained comparisons -/
def wChain (f f' : F2) (wa wb wc : WE) : WE := fun ρ μ Q Xd => wa ρ μ (fun x μ1 => wb ρ μ1 (fun y μ2 => f x y μ2 fun z μ3 => fBool z fun k => if k = true then wc ρ μ3 (fun w' μ4 => f' y w' μ4 Q) Xd else Q (.bl false) μ3) Xd) Xd
theorem lift_chain {G : Gx} {r r' : R2} {f f' : F2} (hf : S2 G r f) (hf' : S2 G r' f') {σ : L2.St} {H : Hp} {Q' : VK} (q : lift G W (wChain f f' wa wb wc) σ H Q') : tChain r r' (lift G W wa) (lift G W wb) (lift G W wc) σ H Q' := by
  refine lift_bind (f := fun x ρ μ1 Q Xd => wb ρ μ1 (fun y μ2 => f x y μ2 fun z μ3 => fBool z fun k => if k = true then wc ρ μ3 (fun w' μ4 => f' y w' μ4 Q) Xd else Q (.bl false) μ3) Xd) q fun Z m ρ μ Q Xd x v H1 S r1 q1 k kx => ?_
  refine ⟨Z, m, ρ, μ, _, Xd, S, q1, fun u H2 P => ?_, kx⟩
  obtain ⟨m2, y, μ2, s2, r2, q2⟩ := P
  refine hf _ m2 μ2 H2 x y v u _ _ s2.mu (Rep.mono s2.pre s2.same _ _ r1) r2 q2 fun z H3 P => ?_
  obtain ⟨m3, zd, μ3, s3, r3, q3⟩ := P
  obtain ⟨b, rfl, q4⟩ := fBool_of q3
  rw [Rep] at r3
  refine ⟨b, r3, ?_⟩
  have S3 := (S.step s2).step s3
  cases b with
  | false =>
    rw [if_neg Bool.false_ne_true] at q4 ⊢
    exact k _ _ (VPost.from (s2.trans s3) (.now s3.mu (by rw [Rep]) q4))
  | true =>
    rw [if_pos rfl] at q4 ⊢
    refine ⟨Z, m3, ρ, μ3, _, Xd, S3, q4, fun w' H4 P => ?_, fun cls d H' P => kx cls d H' (XPost.from (s2.trans s3) P)⟩
    obtain ⟨m4, wd, μ4, s4, r4, q5⟩ := P
    exact hf' _ m4 μ4 H4 y wd u w' Q Q' s4.mu (Rep.mono (s3.trans s4).pre (s3.trans s4).same _ _ r2) r4 q5 fun z H' P => k z H' (VPost.from ((s2.trans s3).trans s4) P)
theorem de_chain {op op' : CmpOp} {r r' : R2} {f f' : F2} (ho : OpR X (compareOp op) r) (hf : S2 (gx X ex) r f) (ho' : OpR X (compareOp op') r') (hf' : S2 (gx X ex) r' f') (ha : DE ex W X a wa) (hb : DE ex W X b wb) (hc : DE ex W X c wc)
    (hm : lastMarks [op, op'] [b, c] = false := by with_unfolding_all rfl) : DE ex W X (.Compare a [op, op'] [b, c] pos) (wChain f f' wa wb wc) := pe_weak (pe_chain ho ho' ha hb hc hm) fun _ _ _ q => lift_chain hf hf' q
theorem dt_chain {op op' : CmpOp} {r r' : R2} {f f' : F2} (ho : OpR X (compareOp op) r) (hf : S2 (gx X ex) r f) (ho' : OpR X (compareOp op') r') (hf' : S2 (gx X ex) r' f') (ha : DE ex W X a wa) (hb : DE ex W X b wb) (hc : DE ex W X c wc)
    (hm : lastMarks [op, op'] [b, c] = false := by with_unfolding_all rfl) : DT ex W X (.Compare a [op, op'] [b, c] pos) (wB (wChain f f' wa wb wc)) := pt_weak (pt_chain ho ho' ha hb hc hm) fun σ H Q q => by
    have h := lift_wB q
    obtain h : lift _ _ _ σ H _ := h
    exact lift_chain hf hf' h
/-! and, or, not, as tests -/
def wAnd (t u : WT) : WT := fun ρ μ Q Xd => t ρ μ (fun c μ1 => if c = true then u ρ μ1 Q Xd else Q false μ1) Xd
def wOr (t u : WT) : WT := fun ρ μ Q Xd => t ρ μ (fun c μ1 => if c = true then Q true μ1 else u ρ μ1 Q Xd) Xd
def wNot (t : WT) : WT := fun ρ μ Q Xd => t ρ μ (fun c μ1 => Q (!c) μ1) Xd
theorem dw_and1 (h : DT ex W X a ta) : DW ex W X (.BoolOp .And [a] pos) ta := pw_and1 h
theorem dw_or1 (h : DT ex W X a ta) : DW ex W X (.BoolOp .Or [a] pos) ta := pw_or1 h
theorem dw_and (ha : DT ex W X a ta) (hb : DW ex W X (.BoolOp .And (b :: rest) pos) tb) : DW ex W X (.BoolOp .And (a :: b :: rest) pos) (wAnd ta tb) := pw_weak (pw_and ha hb) fun σ H Q' q => by
  obtain ⟨Z, m, ρ, μ, Q, Xd, S, q, k, kx⟩ := q
  refine ⟨Z, m, ρ, μ, _, Xd, S, q, fun c H1 P => ?_, kx⟩
  obtain ⟨m1, μ1, s1, q1⟩ := P
  cases c with
  | false => exact k false H1 ⟨m1, μ1, s1, q1⟩
  | true =>
    rw [if_pos rfl] at q1 ⊢
    exact ⟨Z, m1, ρ, μ1, _, Xd, S.step s1, q1, fun b H2 P => k b H2 (BPost.from s1 P), fun cls d H' P => kx cls d H' (XPost.from s1 P)⟩
theorem dw_or (ha : DT ex W X a ta) (hb : DW ex W X (.BoolOp .Or (b :: rest) pos) tb) : DW ex W X (.BoolOp .Or (a :: b :: rest) pos) (wOr ta tb) := pw_weak (pw_or ha hb) fun σ H Q' q => by
  obtain ⟨Z, m, ρ, μ, Q, Xd, S, q, k, kx⟩ := q
  refine ⟨Z, m, ρ, μ, _, Xd, S, q, fun c H1 P => ?_, kx⟩
  obtain ⟨m1, μ1, s1, q1⟩ := P
  cases c with
  | true => exact k true H1 ⟨m1, μ1, s1, q1⟩
  | false =>
    rw [if_neg Bool.false_ne_true] at q1 ⊢
    exact ⟨Z, m1, ρ, μ1, _, Xd, S.step s1, q1, fun b H2 P => k b H2 (BPost.from s1 P), fun cls d H' P => kx cls d H' (XPost.from s1 P)⟩
theorem dt_w {e : Expr} (h : DW ex W X e ta) : DT ex W X e ta := PW.pt h
theorem dt_not (h : DT ex W X a ta) : DT ex W X (.UnaryOp .Not a pos) (wNot ta) := pt_weak (pt_not h) fun σ H Q' q => by
  obtain ⟨Z, m, ρ, μ, Q, Xd, S, q, k, kx⟩ := q
  refine ⟨Z, m, ρ, μ, _, Xd, S, q, fun c H1 P => ?_, kx⟩
  obtain ⟨m1, μ1, s1, q1⟩ := P
  exact k (!c) H1 ⟨m1, μ1, s1, q1⟩
end
end DL

set_option Elab.async false
set_option linter.all false
set_option maxRecDepth 100000
set_option maxHeartbeats 4000000
set_option autoImplicit false
namespace DL
open PySem PySem.Spec PyProof.Rows L2
/-! ### argument lists, displays, calls -/
abbrev WA := DS → Mu → (List D → Mu → Prop) → XD → Prop
def APost (G : Gx) (Z : Addr → Prop) (m : List Addr) (H : Hp) (Q : List D → Mu → Prop) (vs : List V) (H' : Hp) : Prop :=
  ∃ m' ds μ', Step G Z m H m' μ' H' ∧ Reps G m' (vis Z m' H') ds vs ∧ Q ds μ'
theorem APost.from {G : Gx} {Z : Addr → Prop} {m m1 : List Addr} {μ1 : Mu} {H H1 H' : Hp} {Q : List D → Mu → Prop} {vs : List V} (s : Step G Z m H m1 μ1 H1) (p : APost G Z m1 H1 Q vs H') : APost G Z m H Q vs H' := by
  obtain ⟨m', d, μ', s', r, q⟩ := p
  exact ⟨m', d, μ', s.trans s', r, q⟩
def liftA (G : Gx) (W : WX) (w : WA) : TA := fun σ H Q' => ∃ Z m ρ μ Q Xd, SR G Z m σ H ρ μ ∧ w ρ μ Q Xd ∧ (∀ vs H', APost G (ownW Z σ ρ) m H Q vs H' → Q' vs H') ∧ ∀ cls d H', XPost G (ownW Z σ ρ) m H Xd cls d H' → W cls d σ H'
abbrev DA (ex : Option (Addr × Addr × Addr)) (W : WX) (X : Cx) (es : List Expr) (w : WA) : Prop := PA X es (liftA (gx X ex) W w)
theorem pa_weak {X : Cx} {es : List Expr} {t t' : TA} (h : PA X es t) (k : ∀ σ H Q, t' σ H Q → t σ H Q) : PA X es t' := ⟨fun pos pins s σ H Q I q => h.run pos pins s σ H Q I (k σ H Q q)⟩
def wNil : WA := fun _ μ Q _ => Q [] μ
def wCons (wa : WE) (wr : WA) : WA := fun ρ μ Q Xd => wa ρ μ (fun d μ1 => wr ρ μ1 (fun ds μ2 => Q (d :: ds) μ2) Xd) Xd
def wTup (wa : WA) : WE := fun ρ μ Q Xd => wa ρ μ (fun ds μ1 => ds.length ≤ 1000 ∧ Q (.tup ds) μ1) Xd
def wLst (wa : WA) : WE := fun ρ μ Q Xd => wa ρ μ (fun ds μ1 => ds.length ≤ 1000 ∧ Q (.lst ds) μ1) Xd
def wN (f : FN) (wa : WA) : WE := fun ρ μ Q Xd => wa ρ μ (fun ds μ1 => f ds μ1 Q) Xd
abbrev DSp := List D → Mu → (D → Mu → Prop) → XD → Prop
def wCall (sp : DSp) (wa : WA) : WE := fun ρ μ Q Xd => wa ρ μ (fun ds μ1 => sp ds μ1 Q Xd) Xd
theorem le1000 {n : Nat} (h : n ≤ 1000) : n ≤ sizeLine := Nat.le_trans h (by decide)
section
variable {ex : Option (Addr × Addr × Addr)} {W : WX} {X : Cx} {e : Expr} {es : List Expr} {wa : WE} {ws : WA} {pos : Pos}
theorem da_nil : DA ex W X [] wNil := pa_weak pa_nil fun σ H Q' q => by
  obtain ⟨Z, m, ρ, μ, Q, Xd, S, q, k, kx⟩ := q
  exact k [] H ⟨m, [], μ, .refl S.mu, Reps.nil, q⟩
theorem lift_cons {G : Gx} {σ : L2.St} {H : Hp} {Q' : List V → Hp → Prop} (q : liftA G W (wCons wa ws) σ H Q') : tCons (lift G W wa) (liftA G W ws) σ H Q' := by
  obtain ⟨Z, m, ρ, μ, Q, Xd, S, q, k, kx⟩ := q
  refine ⟨Z, m, ρ, μ, _, Xd, S, q, fun v H1 P => ?_, kx⟩
  obtain ⟨m1, d, μ1, s1, r1, q1⟩ := P
  refine ⟨Z, m1, ρ, μ1, _, Xd, S.step s1, q1, fun vs H2 P => ?_, fun cls d H' P => kx cls d H' (XPost.from s1 P)⟩
  obtain ⟨m2, ds, μ2, s2, r2, q2⟩ := P
  exact k _ _ ⟨m2, d :: ds, μ2, s1.trans s2, Reps.cons (Rep.mono s2.pre s2.same _ _ r1) r2, q2⟩
theorem da_cons (ha : DE ex W X e wa) (hr : DA ex W X es ws) (hs : starEach (e :: es) X.env = (false, eval e X.env) :: starEach es X.env := by rfl) : DA ex W X (e :: es) (wCons wa ws) :=
  pa_weak (pa_cons ha hr hs) fun _ _ _ q => lift_cons q
theorem de_tup {x1} (h : DA ex W X es ws) : DE ex W X (.Tuple es x1 pos) (wTup ws) := pe_weak (pe_tup h) fun σ H Q' q => by
  obtain ⟨Z, m, ρ, μ, Q, Xd, S, q, k, kx⟩ := q
  refine ⟨Z, m, ρ, μ, _, Xd, S, q, fun vs H1 P => ?_, kx⟩
  obtain ⟨m1, ds, μ1, s1, r1, hl, q1⟩ := P
  refine ⟨by rw [← r1.len]; exact le1000 hl, fun p np => k _ _ ?_⟩
  have s2 := Step.laid (o := .tup vs) s1.mu np
  refine VPost.from s1 ⟨m1, _, μ1, s2, ?_, q1⟩
  rw [Rep]
  refine ⟨p, vs, rfl, .inl (.inl ?_), Reps.mono s2.pre s2.same _ _ r1⟩
  rw [vis_upd s1.mu np, upd_same]
theorem lift_lst {G : Gx} {σ : L2.St} {H : Hp} {Q' : VK} (q : lift G W (wLst ws) σ H Q') : tLst (liftA G W ws) σ H Q' := by
  obtain ⟨Z, m, ρ, μ, Q, Xd, S, q, k, kx⟩ := q
  refine ⟨Z, m, ρ, μ, _, Xd, S, q, fun vs H1 P => ?_, kx⟩
  obtain ⟨m1, ds, μ1, s1, r1, hl, q1⟩ := P
  refine ⟨by rw [← r1.len]; exact le1000 hl, fun p np => k _ _ ?_⟩
  have s2 := Step.laid (o := .lst vs) s1.mu np
  refine VPost.from s1 ⟨m1, _, μ1, s2, ?_, q1⟩
  rw [Rep]
  refine ⟨p, vs, rfl, ?_, Reps.mono s2.pre s2.same _ _ r1⟩
  rw [vis_upd s1.mu np, upd_same]
theorem de_lst (h : DA ex W X es ws) : DE ex W X (.List es pos) (wLst ws) := pe_weak (pe_lst h) fun _ _ _ q => lift_lst q
theorem lift_wN {G : Gx} {r : List V → Hp → VK → Prop} {f : FN} (hf : SN G r f) {σ : L2.St} {H : Hp} {Q' : VK} (q : lift G W (wN f ws) σ H Q') : tCB r (liftA G W ws) σ H Q' := by
  obtain ⟨Z, m, ρ, μ, Q, Xd, S, q, k, kx⟩ := q
  refine ⟨Z, m, ρ, μ, _, Xd, S, q, fun vs H1 P => ?_, kx⟩
  obtain ⟨m1, ds, μ1, s1, r1, q1⟩ := P
  exact hf _ m1 μ1 H1 ds vs Q Q' s1.mu r1 q1 fun z H' P => k z H' (VPost.from s1 P)
theorem de_callB {x : Str} {id : String} {p : Pos} {r : List V → Hp → VK → Prop} {f : FN} (hc : CallR X (.builtin id) r) (hf : SN (gx X ex) r f) (hg : Gl X x) (hm : X.mg x = none) (hv : bootBuiltins x = some (.builtin id)) (ha : DA ex W X (e :: es) ws)
    (hn : x ≠ "__name__" := by decide) (hdb : (x == ("__debug__" : Str)) = false := by decide) (he : starEach (e :: es) X.env = (false, eval e X.env) :: starEach es X.env := by rfl) (hpl : (backTo pos (starEach es X.env)).any (·.1) = false := by rfl) :
    DE ex W X (.Call (.Name x p) (e :: es) [] pos) (wN f ws) := pe_weak (pe_callB hc hg hm hv ha hn hdb he hpl) fun _ _ _ q => lift_wN hf q
theorem de_callTy {x : Str} {T : String} {p : Pos} {r : List V → Hp → VK → Prop} {f : FN} (hc : CallR X (.type T) r) (hf : SN (gx X ex) r f) (hg : Gl X x) (hm : X.mg x = none) (hv : bootBuiltins x = some (.type T)) (ha : DA ex W X (e :: es) ws)
    (hn : x ≠ "__name__" := by decide) (hdb : (x == ("__debug__" : Str)) = false := by decide) (he : starEach (e :: es) X.env = (false, eval e X.env) :: starEach es X.env := by rfl) (hpl : (backTo pos (starEach es X.env)).any (·.1) = false := by rfl) :
    DE ex W X (.Call (.Name x p) (e :: es) [] pos) (wN f ws) := pe_weak (pe_callTy hc hg hm hv ha hn hdb he hpl) fun _ _ _ q => lift_wN hf q
/-- a def keeps its promise wherever no repr is under way -/
structure FnG (P : Program) (wd : World) (K : PySem.W.Frag) (mg : Str → Option Value) (bs : Heap) (k : Nat) (f : Addr) (fd : FuncData) (ps : List Str) (sp : Sp) : Prop where
  len : ∀ vs H Q E, sp vs H Q E → vs.length = ps.length
  run : ∀ (A : Around) (fr : List Env) (s : Shared) (H : Hp) (args : Args) (us : List Value) (vs : List V) (Q : VK) (E : XK), Room k A → A.guards = some [] → Env0 P wd K mg bs A fr s H → BindsTo s fd args (ps.zip us) → Vals vs us →
    sp vs H Q E → codeAny (model P wd) A (.call (.ref f) args) (CR (L2.CX P wd) fr P wd H s Q E) s
section
variable {k : Nat} {f : Addr} {fd : FuncData} {ps : List Str} {sp0 : Sp}
theorem run_fnG {pins : List (Addr × Obj)} {σ : L2.St} {H : Hp} {s : Shared} {Q : VK} {us : List Value} {vs : List V} (F : FnG X.prog X.w X.K X.mg X.base k f fd ps sp0) (hr : Room k X.A) (hgd : X.A.guards = some []) (hb : Binds X.K fd ps []) (tk : Takes X W)
    (I : Inv X pins σ H s) (rv : Vals vs us) (h : sp0 vs H Q (L2.WE W σ)) : wpAny (model X.prog X.w) X.A (call (.ref f) us) (EP X pins σ Q) X.xe s := by
  have e0 : us.length = ps.length := rv.length.symm.trans (F.len _ _ _ _ h)
  have bd : BindsTo s fd ⟨us, []⟩ (ps.zip us) := by simpa using hb s us I.kIn (by simpa using e0)
  refine wpAny_call (codeAny_mono (F.run X.A X.stack s H ⟨us, []⟩ us vs Q _ hr hgd I.env0 bd rv h) fun res s2 hres => ?_)
  match res, hres with
  | .error er, hres => exact passAt tk σ pins H s er s2 I hres
  | .ok (.ret u), hres => exact I.after hres
end
/-- what a def promises, told by data -/
def toSp (G : Gx) (sp : DSp) : Sp := fun vs H Q' E => ∃ Z m μ ds Q Xd, MuOk G Z m μ H ∧ Reps G m (vis Z m H) ds vs ∧ sp ds μ Q Xd ∧ (∀ v H', VPost G Z m H Q v H' → Q' v H') ∧ ∀ cls d H', XPost G Z m H Xd cls d H' → E cls d H'
theorem lift_call {G : Gx} {sp : DSp} {σ : L2.St} {H : Hp} {Q' : VK} (q : lift G W (wCall sp ws) σ H Q') : tCallS (toSp G sp) (L2.WE W) (liftA G W ws) σ H Q' := by
  obtain ⟨Z, m, ρ, μ, Q, Xd, S, q, k, kx⟩ := q
  refine ⟨Z, m, ρ, μ, _, Xd, S, q, fun vs H1 P => ?_, kx⟩
  obtain ⟨m1, ds, μ1, s1, r1, q1⟩ := P
  exact ⟨_, m1, μ1, ds, Q, Xd, s1.mu, r1, q1, fun v H' P => k v H' (VPost.from s1 P), fun cls d H' P => kx cls d H' (XPost.from s1 P)⟩
theorem de_call {x : Str} {k : Nat} {f : Addr} {fd : FuncData} {ps : List Str} {sp : DSp} {p : Pos} (F : FnG X.prog X.w X.K X.mg X.base k f fd ps (toSp (gx X ex) sp)) (hr : Room k X.A) (hgd : X.A.guards = some []) (hg : Gl X x) (hm : X.mg x = some (.ref f))
    (hk : PySem.W.keepIn X.K (.ref f) = true) (hb : Binds X.K fd ps []) (tk : Takes X W) (ha : DA ex W X (e :: es) ws) (hdb : (x == ("__debug__" : Str)) = false := by decide)
    (he : starEach (e :: es) X.env = (false, eval e X.env) :: starEach es X.env := by rfl) (hpl : (backTo pos (starEach es X.env)).any (·.1) = false := by rfl) :
    DE ex W X (.Call (.Name x p) (e :: es) [] pos) (wCall sp ws) := by
  refine ⟨fun pins s σ H Q I h => ?_⟩
  refine wpAny_Call_Name_kw (ld_glob I hg hm ?_ hdb)
  exact PySem.W.callWith_K (h₀ := X.base) I.ok.mod.kin hk (thn (ha.run pos pins s σ H _ I (lift_call h)) fun us s1 ⟨vs, H1, I1, rv, q⟩ => ⟨I1.kIn, run_fnG F hr hgd hb tk I1 rv q⟩) he hpl
end

/-! ### statements -/
abbrev XS := Str → List Str → List D → DS → Mu → Prop
structure DEnds where
  nx : DS → Mu → Prop
  rt : D → Mu → Prop
  bk : DS → Mu → Prop := fun _ _ => False
  ct : DS → Mu → Prop := fun _ _ => False
  xc : XS := fun _ _ _ _ _ => False
abbrev WS := DEnds → DS → Mu → Prop
structure SStep (G : Gx) (Z : Addr → Prop) (m : List Addr) (σ : L2.St) (ρ : DS) (H : Hp) (m' : List Addr) (σ' : L2.St) (ρ' : DS) (H' : Hp) : Prop where
  pre : m <+: m'
  hid : ∀ z, Z z → H' z = H z
  same : Same (vis (ownW Z σ ρ) m H) (vis (ownW Z σ' ρ') m' H')
theorem SStep.refl {G : Gx} {Z : Addr → Prop} {m : List Addr} {σ : L2.St} {ρ : DS} {H : Hp} : SStep G Z m σ ρ H m σ ρ H := ⟨List.prefix_refl _, fun _ _ => rfl, Same.refl _⟩
theorem SStep.trans {G : Gx} {Z : Addr → Prop} {m m1 m2 : List Addr} {σ σ1 σ2 : L2.St} {ρ ρ1 ρ2 : DS} {H H1 H2 : Hp} (a : SStep G Z m σ ρ H m1 σ1 ρ1 H1) (b : SStep G Z m1 σ1 ρ1 H1 m2 σ2 ρ2 H2) : SStep G Z m σ ρ H m2 σ2 ρ2 H2 :=
  ⟨a.pre.trans b.pre, fun z h => (b.hid z h).trans (a.hid z h), a.same.trans b.same⟩
theorem SStep.of {G : Gx} {Z : Addr → Prop} {m m' : List Addr} {σ : L2.St} {ρ : DS} {μ' : Mu} {H H' : Hp} (s : Step G (ownW Z σ ρ) m H m' μ' H') : SStep G Z m σ ρ H m' σ ρ H' := ⟨s.pre, fun z h => s.hid z (.inl h), s.same⟩
def SPost (G : Gx) (Z : Addr → Prop) (m : List Addr) (σ : L2.St) (ρ : DS) (H : Hp) (P : DS → Mu → Prop) (σ' : L2.St) (H' : Hp) : Prop :=
  ∃ m' ρ' μ', SR G Z m' σ' H' ρ' μ' ∧ SStep G Z m σ ρ H m' σ' ρ' H' ∧ P ρ' μ'
def RPost (G : Gx) (Z : Addr → Prop) (m : List Addr) (σ : L2.St) (ρ : DS) (H : Hp) (Q : D → Mu → Prop) (v : V) (H' : Hp) : Prop :=
  ∃ m' d μ', m <+: m' ∧ (∀ z, Z z → H' z = H z) ∧ MuOk G Z m' μ' H' ∧ Same (vis (ownW Z σ ρ) m H) (vis Z m' H') ∧ Rep G m' (vis Z m' H') d v ∧ Q d μ'
def XSPost (G : Gx) (Z : Addr → Prop) (m : List Addr) (σ : L2.St) (ρ : DS) (H : Hp) (Xs : XS) (cls : Value) (d : Option Addr) (σ' : L2.St) (H' : Hp) : Prop :=
  ∃ m' c ks es ρ' μ' C dd vs, SR G Z m' σ' H' ρ' μ' ∧ SStep G Z m σ ρ H m' σ' ρ' H' ∧ cls = .ref C ∧ d = some dd ∧ G.mg c = some (.ref C) ∧ vis (ownW Z σ' ρ') m' H' dd = some (.xd (ks.zip vs)) ∧ ks.length = es.length ∧
    Reps G m' (vis (ownW Z σ' ρ') m' H') es vs ∧ Xs c ks es ρ' μ'
section
variable {G : Gx} {Z : Addr → Prop} {m m1 : List Addr} {σ σ1 σ' : L2.St} {ρ ρ1 : DS} {H H1 H' : Hp}
theorem SPost.from {P : DS → Mu → Prop} (s : SStep G Z m σ ρ H m1 σ1 ρ1 H1) (p : SPost G Z m1 σ1 ρ1 H1 P σ' H') : SPost G Z m σ ρ H P σ' H' := by
  obtain ⟨m', ρ', μ', S, s', q⟩ := p
  exact ⟨m', ρ', μ', S, s.trans s', q⟩
theorem RPost.from {Q : D → Mu → Prop} {v : V} (s : SStep G Z m σ ρ H m1 σ1 ρ1 H1) (p : RPost G Z m1 σ1 ρ1 H1 Q v H') : RPost G Z m σ ρ H Q v H' := by
  obtain ⟨m', d, μ', h1, h2, h3, h4, h5, h6⟩ := p
  exact ⟨m', d, μ', s.pre.trans h1, fun z hz => (h2 z hz).trans (s.hid z hz), h3, s.same.trans h4, h5, h6⟩
theorem XSPost.from {Xs : XS} {cls : Value} {d : Option Addr} (s : SStep G Z m σ ρ H m1 σ1 ρ1 H1) (p : XSPost G Z m1 σ1 ρ1 H1 Xs cls d σ' H') : XSPost G Z m σ ρ H Xs cls d σ' H' := by
  obtain ⟨m', c, ks, es, ρ', μ', C, dd, vs, S, s', r⟩ := p
  exact ⟨m', c, ks, es, ρ', μ', C, dd, vs, S, s.trans s', r⟩
theorem vis_own {m : List Addr} {H : Hp} : Same (vis (ownW Z σ ρ) m H) (vis Z m H) := fun b o h => by
  obtain ⟨h1, h2, h3⟩ := vis_some.mp h
  exact vis_some.mpr ⟨fun z => h1 (.inl z), h2, h3⟩
theorem MuOk.out_own {μ : Mu} (M : MuOk G (ownW Z σ ρ) m μ H) : MuOk G Z m μ H :=
  ⟨M.len, M.nd, fun a h z => M.out a h (.inl z), fun z h => M.hw z (.inl h), fun n c a h1 h2 => (M.cell n c a h1 h2).keep (List.prefix_refl _) vis_own rfl⟩
theorem RPost.of {Q : D → Mu → Prop} {v : V} (p : VPost G (ownW Z σ ρ) m H Q v H') : RPost G Z m σ ρ H Q v H' := by
  obtain ⟨m', d, μ', s, r, q⟩ := p
  exact ⟨m', d, μ', s.pre, fun z h => s.hid z (.inl h), s.mu.out_own, s.same.trans vis_own, Rep.mono (List.prefix_refl _) vis_own _ _ r, q⟩
theorem XSPost.of {μ : Mu} (S : SR G Z m σ H ρ μ) {Xs : XS} {cls : Value} {d : Option Addr} (p : XPost G (ownW Z σ ρ) m H (fun c ks es μ' => Xs c ks es ρ μ') cls d H') : XSPost G Z m σ ρ H Xs cls d σ H' := by
  obtain ⟨m', c, ks, es, μ', C, dd, vs, s, e1, e2, e3, e4, e5, e6, q⟩ := p
  exact ⟨m', c, ks, es, ρ, μ', C, dd, vs, S.step s, SStep.of s, e1, e2, e3, e4, e5, e6, q⟩
end
def liftS (G : Gx) (W : WX) (w : WS) : TS := fun D σ H => ∃ Z m ρ μ E, SR G Z m σ H ρ μ ∧ w E ρ μ ∧ (∀ σ' H', SPost G Z m σ ρ H E.nx σ' H' → D.nx σ' H') ∧ (∀ v H', RPost G Z m σ ρ H E.rt v H' → D.rt v H') ∧
  (∀ σ' H', SPost G Z m σ ρ H E.bk σ' H' → D.bk σ' H') ∧ (∀ σ' H', SPost G Z m σ ρ H E.ct σ' H' → D.ct σ' H') ∧ ∀ cls d σ' H', XSPost G Z m σ ρ H E.xc cls d σ' H' → W cls d σ' H'
abbrev DSt (ex : Option (Addr × Addr × Addr)) (W : WX) (X : Cx) (st : Stmt) (w : WS) : Prop := PS X st (liftS (gx X ex) W w)
abbrev DSs (ex : Option (Addr × Addr × Addr)) (W : WX) (X : Cx) (st : List Stmt) (w : WS) : Prop := PSs X st (liftS (gx X ex) W w)
theorem ps_weak {X : Cx} {st : Stmt} {t t' : TS} (h : PS X st t) (k : ∀ D σ H, t' D σ H → t D σ H) : PS X st t' := ⟨fun pins s σ H D I q => h.run pins s σ H D I (k D σ H q)⟩
theorem pss_weak {X : Cx} {st : List Stmt} {t t' : TS} (h : PSs X st t) (k : ∀ D σ H, t' D σ H → t D σ H) : PSs X st t' := ⟨fun pins s σ H D I q => h.run pins s σ H D I (k D σ H q)⟩
def sNext : WS := fun E ρ μ => E.nx ρ μ
def sSeq (a b : WS) : WS := fun E ρ μ => a { E with nx := fun ρ' μ' => b E ρ' μ' } ρ μ
def sIf (t : WT) (a b : WS) : WS := fun E ρ μ => t ρ μ (fun c μ1 => if c = true then a E ρ μ1 else b E ρ μ1) fun c ks es μ' => E.xc c ks es ρ μ'
def sRet (wa : WE) : WS := fun E ρ μ => wa ρ μ E.rt fun c ks es μ' => E.xc c ks es ρ μ'
def sRetN : WS := fun E _ μ => E.rt .non μ
def sDrop (wa : WE) : WS := fun E ρ μ => wa ρ μ (fun _ μ1 => E.nx ρ μ1) fun c ks es μ' => E.xc c ks es ρ μ'
def sBreak : WS := fun E ρ μ => E.bk ρ μ
def sCont : WS := fun E ρ μ => E.ct ρ μ
def sNever : WS := fun _ _ _ => False
section
variable {ex : Option (Addr × Addr × Addr)} {W : WX} {X : Cx} {e : Expr} {es : List Expr} {wa : WE} {ws : WA} {pos : Pos} {st : Stmt} {rest : List Stmt} {a b : WS} {t : WT}
theorem dss_nil : DSs ex W X [] sNext := pss_weak pss_nil fun D σ H q => by
  obtain ⟨Z, m, ρ, μ, E, S, q, kn, kr, kb, kc, kx⟩ := q
  exact kn σ H ⟨m, ρ, μ, S, .refl, q⟩
theorem dss_cons (h1 : DSt ex W X st a) (h2 : DSs ex W X rest b) : DSs ex W X (st :: rest) (sSeq a b) := pss_weak (pss_cons h1 h2) fun D σ H q => by
  obtain ⟨Z, m, ρ, μ, E, S, q, kn, kr, kb, kc, kx⟩ := q
  refine ⟨Z, m, ρ, μ, _, S, q, fun σ1 H1 P => ?_, kr, kb, kc, kx⟩
  obtain ⟨m1, ρ1, μ1, S1, s1, q1⟩ := P
  exact ⟨Z, m1, ρ1, μ1, E, S1, q1, fun σ' H' P => kn σ' H' (SPost.from s1 P), fun v H' P => kr v H' (RPost.from s1 P), fun σ' H' P => kb σ' H' (SPost.from s1 P), fun σ' H' P => kc σ' H' (SPost.from s1 P), fun cls d σ' H' P => kx cls d σ' H' (XSPost.from s1 P)⟩
theorem dss_one (h1 : DSt ex W X st a) : DSs ex W X [st] a := pss_one h1
theorem ds_if {c : Expr} {x y : List Stmt} (hc : DT ex W X c t) (ha : DSs ex W X x a) (hb : DSs ex W X y b) : DSt ex W X (.If c x y pos) (sIf t a b) := ps_weak (ps_if hc ha hb) fun D σ H q => by
  obtain ⟨Z, m, ρ, μ, E, S, q, kn, kr, kb, kc, kx⟩ := q
  refine ⟨Z, m, ρ, μ, _, _, S, q, fun c H1 P => ?_, fun cls d H' P => kx cls d σ H' (XSPost.of S P)⟩
  obtain ⟨m1, μ1, s1, q1⟩ := P
  have S1 := S.step s1
  have s2 : SStep (gx X ex) Z m σ ρ H m1 σ ρ H1 := SStep.of s1
  cases c with
  | true =>
    rw [if_pos rfl] at q1 ⊢
    exact ⟨Z, m1, ρ, μ1, E, S1, q1, fun σ' H' P => kn σ' H' (SPost.from s2 P), fun v H' P => kr v H' (RPost.from s2 P), fun σ' H' P => kb σ' H' (SPost.from s2 P), fun σ' H' P => kc σ' H' (SPost.from s2 P), fun cls d σ' H' P => kx cls d σ' H' (XSPost.from s2 P)⟩
  | false =>
    rw [if_neg Bool.false_ne_true] at q1 ⊢
    exact ⟨Z, m1, ρ, μ1, E, S1, q1, fun σ' H' P => kn σ' H' (SPost.from s2 P), fun v H' P => kr v H' (RPost.from s2 P), fun σ' H' P => kb σ' H' (SPost.from s2 P), fun σ' H' P => kc σ' H' (SPost.from s2 P), fun cls d σ' H' P => kx cls d σ' H' (XSPost.from s2 P)⟩
theorem ds_ret (h : DE ex W X e wa) : DSt ex W X (.Return (some e) pos) (sRet wa) := ps_weak (ps_ret h) fun D σ H q => by
  obtain ⟨Z, m, ρ, μ, E, S, q, kn, kr, kb, kc, kx⟩ := q
  exact ⟨Z, m, ρ, μ, _, _, S, q, fun v H1 P => kr v H1 (RPost.of P), fun cls d H' P => kx cls d σ H' (XSPost.of S P)⟩
theorem ds_expr (h : DE ex W X e wa) (hs : swapsWith e none pos.line X.env = pure false := by rfl) : DSt ex W X (.Expr e pos) (sDrop wa) := ps_weak (ps_expr h hs) fun D σ H q => by
  obtain ⟨Z, m, ρ, μ, E, S, q, kn, kr, kb, kc, kx⟩ := q
  refine ⟨Z, m, ρ, μ, _, _, S, q, fun v H1 P => ?_, fun cls d H' P => kx cls d σ H' (XSPost.of S P)⟩
  obtain ⟨m1, d, μ1, s1, r1, q1⟩ := P
  exact kn σ H1 ⟨m1, ρ, μ1, S.step s1, SStep.of s1, q1⟩
theorem ds_continue : DSt ex W X (.Continue pos) sCont := ps_weak ps_continue fun D σ H q => by
  obtain ⟨Z, m, ρ, μ, E, S, q, kn, kr, kb, kc, kx⟩ := q
  exact kc σ H ⟨m, ρ, μ, S, .refl, q⟩
end
/-! ### a slot is stored -/
theorem own_set {Z : Addr → Prop} {σ : L2.St} {ρ : DS} {i : Nat} {v : V} {d : D} {b : Addr} (h : ownW Z (σ.set i (some v)) (ρ.set i (.v d)) b) : ownW Z σ ρ b := by
  rcases h with h | ⟨j, ds, e1⟩
  · exact .inl h
  · by_cases hj : i = j
    · subst hj
      rw [List.getElem?_set] at e1
      simp at e1
    · rw [List.getElem?_set_ne hj] at e1
      exact .inr ⟨j, ds, e1⟩
theorem vis_mono {Z Z' : Addr → Prop} {m : List Addr} {H : Hp} (h : ∀ b, Z' b → Z b) : Same (vis Z m H) (vis Z' m H) := fun b o e => by
  obtain ⟨h1, h2, h3⟩ := vis_some.mp e
  exact vis_some.mpr ⟨fun z => h1 (h b z), h2, h3⟩
theorem MuOk.less {G : Gx} {Z Z' : Addr → Prop} {m : List Addr} {μ : Mu} {H : Hp} (M : MuOk G Z m μ H) (h : ∀ b, Z' b → Z b) : MuOk G Z' m μ H :=
  ⟨M.len, M.nd, fun a ha z => M.out a ha (h a z), fun z hz => M.hw z (h z hz), fun n c a h1 h2 => (M.cell n c a h1 h2).keep (List.prefix_refl _) (vis_mono h) rfl⟩
theorem SR.set {G : Gx} {Z : Addr → Prop} {m : List Addr} {σ : L2.St} {H : Hp} {ρ : DS} {μ : Mu} (S : SR G Z m σ H ρ μ) {i : Nat} {d : D} {v : V} (r : Rep G m (vis (ownW Z σ ρ) m H) d v) :
    SR G Z m (σ.set i (some v)) H (ρ.set i (.v d)) μ ∧ SStep G Z m σ ρ H m (σ.set i (some v)) (ρ.set i (.v d)) H := by
  have sm : Same (vis (ownW Z σ ρ) m H) (vis (ownW Z (σ.set i (some v)) (ρ.set i (.v d))) m H) := vis_mono fun b => own_set
  refine ⟨⟨by simpa using S.len, S.mu.less fun b => own_set, fun j e h => ?_, fun j a c h => ?_, fun j k a c c' h1 h2 => ?_, fun j c ks ds h => ?_⟩, List.prefix_refl _, fun _ _ => rfl, sm⟩
  · by_cases hj : i = j
    · subst hj
      rw [List.getElem?_set] at h
      simp at h
      obtain ⟨hl, rfl⟩ := h
      have hl' : i < σ.length := by rw [← S.len]; exact hl
      exact ⟨v, by simp [hl'], Rep.mono (List.prefix_refl _) sm _ _ r⟩
    · rw [List.getElem?_set_ne hj] at h
      obtain ⟨u, e1, q⟩ := S.val j e h
      exact ⟨u, by rw [List.getElem?_set_ne hj]; exact e1, Rep.mono (List.prefix_refl _) sm _ _ q⟩
  · by_cases hj : i = j
    · subst hj
      rw [List.getElem?_set] at h
      simp at h
    · rw [List.getElem?_set_ne hj] at h
      obtain ⟨e1, nz, q⟩ := S.own j a c h
      exact ⟨by rw [List.getElem?_set_ne hj]; exact e1, nz, q.keep (List.prefix_refl _) sm rfl⟩
  · have nj : i ≠ j := fun e => by subst e; rw [List.getElem?_set] at h1; simp at h1
    have nk : i ≠ k := fun e => by subst e; rw [List.getElem?_set] at h2; simp at h2
    rw [List.getElem?_set_ne nj] at h1
    rw [List.getElem?_set_ne nk] at h2
    exact S.dis j k a c c' h1 h2
  · have nj : i ≠ j := fun e => by subst e; rw [List.getElem?_set] at h; simp at h
    rw [List.getElem?_set_ne nj] at h ⊢
    exact (S.exn j c ks ds h).mono (List.prefix_refl _) sm
def sSet (i : Nat) (wa : WE) : WS := fun E ρ μ => wa ρ μ (fun d μ1 => E.nx (ρ.set i (.v d)) μ1) fun c ks es μ' => E.xc c ks es ρ μ'
/-! ### targets -/
abbrev WG := D → DS → Mu → (DS → Mu → Prop) → Prop
abbrev WGs := List D → DS → Mu → (DS → Mu → Prop) → Prop
def liftG (G : Gx) (g : WG) : TG := fun v σ H Q' => ∃ Z m ρ μ d Q, SR G Z m σ H ρ μ ∧ Rep G m (vis (ownW Z σ ρ) m H) d v ∧ g d ρ μ Q ∧ ∀ σ' H', SPost G Z m σ ρ H Q σ' H' → Q' σ' H'
def liftGs (G : Gx) (g : WGs) : TGs := fun vs σ H Q' => ∃ Z m ρ μ ds Q, SR G Z m σ H ρ μ ∧ Reps G m (vis (ownW Z σ ρ) m H) ds vs ∧ g ds ρ μ Q ∧ ∀ σ' H', SPost G Z m σ ρ H Q σ' H' → Q' σ' H'
abbrev DG (ex : Option (Addr × Addr × Addr)) (X : Cx) (e : Expr) (g : WG) : Prop := PG X e (liftG (gx X ex) g)
abbrev DGs (ex : Option (Addr × Addr × Addr)) (X : Cx) (e : List Expr) (g : WGs) : Prop := PGs X e (liftGs (gx X ex) g)
theorem pg_weak {X : Cx} {e : Expr} {t t' : TG} (h : PG X e t) (k : ∀ v σ H Q, t' v σ H Q → t v σ H Q) : PG X e t' := ⟨fun pins s σ H v u Q I r q => h.run pins s σ H v u Q I r (k v σ H Q q)⟩
theorem pgs_weak {X : Cx} {e : List Expr} {t t' : TGs} (h : PGs X e t) (k : ∀ v σ H Q, t' v σ H Q → t v σ H Q) : PGs X e t' := ⟨fun pins s σ H v u Q I r q => h.run pins s σ H v u Q I r (k v σ H Q q)⟩
def kName (i : Nat) : WG := fun d ρ μ Q => Q (ρ.set i (.v d)) μ
def kNil : WGs := fun ds ρ μ Q => match ds with
  | [] => Q ρ μ
  | _ :: _ => False
def kCons (g : WG) (gs : WGs) : WGs := fun ds ρ μ Q => match ds with
  | d :: r => g d ρ μ fun ρ1 μ1 => gs r ρ1 μ1 Q
  | [] => False
def kTup (n : Nat) (gs : WGs) : WG := fun d ρ μ Q => match d with
  | .tup ds => ds.length = n ∧ gs ds ρ μ Q
  | _ => False
section
variable {ex : Option (Addr × Addr × Addr)} {W : WX} {X : Cx} {e : Expr} {es : List Expr} {pos : Pos}
theorem dg_name {i : Nat} {x : Str} (hN : X.N.Nodup) (hi : X.N[i]? = some x) (hx : Loc X.env.scope x := by first | exact Or.inl rfl | exact Or.inr rfl) (hf : X.fn x = true ∨ X.env.scope.names.lookup x = some .local := by first | exact .inl rfl | exact .inr rfl | assumption) :
    DG ex X (.Name x pos) (kName i) := pg_weak (pg_name hN hi hx hf) fun v σ H Q' q => by
  obtain ⟨Z, m, ρ, μ, d, Q, S, r, q, k⟩ := q
  obtain ⟨S1, s1⟩ := S.set (i := i) r
  exact k _ _ ⟨m, _, μ, S1, s1, q⟩
theorem dgs_nil : DGs ex X [] kNil := pgs_weak pgs_nil fun vs σ H Q' q => by
  obtain ⟨Z, m, ρ, μ, ds, Q, S, r, q, k⟩ := q
  cases ds with
  | nil => rw [Reps] at r; exact ⟨r, k _ _ ⟨m, ρ, μ, S, .refl, q⟩⟩
  | cons d ds => exact q.elim
theorem dgs_cons {g : WG} {gs : WGs} (h1 : DG ex X e g) (h2 : DGs ex X es gs) (hs : (assignEach (e :: es) X.env).map (·.2) = assign e X.env :: (assignEach es X.env).map (·.2) := by rfl) : DGs ex X (e :: es) (kCons g gs) :=
  pgs_weak (pgs_cons h1 h2 hs) fun vs σ H Q' q => by
  obtain ⟨Z, m, ρ, μ, ds, Q, S, r, q, k⟩ := q
  cases ds with
  | nil => exact q.elim
  | cons d ds =>
    obtain ⟨v, vr, rfl, r1, r2⟩ := r.uncons
    refine ⟨v, vr, rfl, Z, m, ρ, μ, d, _, S, r1, q, fun σ1 H1 P => ?_⟩
    obtain ⟨m1, ρ1, μ1, S1, s1, q1⟩ := P
    exact ⟨Z, m1, ρ1, μ1, ds, Q, S1, Reps.mono s1.pre s1.same _ _ r2, q1, fun σ' H' P => k σ' H' (SPost.from s1 P)⟩
theorem dg_tup {k : Nat} {gs : WGs} {n : Nat} (hc : X.calm = true) (h : DGs ex X es gs) (hn : (assignEach es X.env).length = n := by rfl) (hst : (assignEach es X.env).findIdx? (·.1) = none := by rfl) : DG ex X (.Tuple es k pos) (kTup n gs) :=
  pg_weak (pg_tup hc h hn hst) fun v σ H Q' q => by
  obtain ⟨Z, m, ρ, μ, d, Q, S, r, q, k⟩ := q
  cases d with
  | tup ds =>
    obtain ⟨hl, q⟩ := q
    rw [Rep] at r
    obtain ⟨a, vs, e1, st, rs⟩ := r
    exact ⟨a, vs, e1, SqT.same vis_le st, by rw [← rs.len]; exact hl, Z, m, ρ, μ, ds, Q, S, rs, q, k⟩
  | _ => exact q.elim
/-- target = value -/
def sAsg (wa : WE) (g : WG) : WS := fun E ρ μ => wa ρ μ (fun d μ1 => g d ρ μ1 E.nx) fun c ks es μ' => E.xc c ks es ρ μ'
theorem ds_asg {tg : Expr} {wa : WE} {g : WG} (he : DE ex W X e wa) (hg : DG ex X tg g) (hs : swapsWithSole [tg] e pos.line X.env = pure false := by rfl) (hw : swappedStores [tg] e X.env = pure none := by rfl)
    (h1 : (assignEach [tg] X.env).map (·.2) = [assign tg X.env] := by rfl) : DSt ex W X (.Assign [tg] e pos) (sAsg wa g) := ps_weak (ps_asg he hg hs hw h1) fun D σ H q => by
  obtain ⟨Z, m, ρ, μ, E, S, q, kn, kr, kb, kc, kx⟩ := q
  refine ⟨Z, m, ρ, μ, _, _, S, q, fun v H1 P => ?_, fun cls d H' P => kx cls d σ H' (XSPost.of S P)⟩
  obtain ⟨m1, d, μ1, s1, r1, q1⟩ := P
  exact ⟨Z, m1, ρ, μ1, d, _, S.step s1, r1, q1, fun σ' H' P => kn σ' H' (SPost.from (SStep.of s1) P)⟩
theorem ds_set {i : Nat} {x : Str} {wa : WE} {pos' : Pos} (hN : X.N.Nodup) (hi : X.N[i]? = some x) (he : DE ex W X e wa) (hx : Loc X.env.scope x := by first | exact Or.inl rfl | exact Or.inr rfl)
    (hs : swapsWith e (some (.Name x pos')) pos.line X.env = pure false := by rfl) (hf : X.fn x = true ∨ X.env.scope.names.lookup x = some .local := by first | exact .inl rfl | exact .inr rfl | assumption) :
    DSt ex W X (.Assign [.Name x pos'] e pos) (sSet i wa) := ps_weak (ps_set (i := i) hN hi hx he hs hf) fun D σ H q => by
  obtain ⟨Z, m, ρ, μ, E, S, q, kn, kr, kb, kc, kx⟩ := q
  refine ⟨Z, m, ρ, μ, _, _, S, q, fun v H1 P => ?_, fun cls d H' P => kx cls d σ H' (XSPost.of S P)⟩
  obtain ⟨m1, d, μ1, s1, r1, q1⟩ := P
  obtain ⟨S1, s2⟩ := (S.step s1).set (i := i) r1
  exact kn _ _ ⟨m1, _, μ1, S1, (SStep.of s1).trans s2, q1⟩
/-- a, b = x, y and a, b, c = x, y, z: plain local names -/
def kPar2 (i j : Nat) (E : DEnds) (ρ : DS) : List D → Mu → Prop
  | [a, b], μ1 => E.nx ((ρ.set i (.v a)).set j (.v b)) μ1
  | _, _ => False
def kPar3 (i j l : Nat) (E : DEnds) (ρ : DS) : List D → Mu → Prop
  | [a, b, c], μ1 => E.nx (((ρ.set i (.v a)).set j (.v b)).set l (.v c)) μ1
  | _, _ => False
theorem kPar2_of {i j : Nat} {E : DEnds} {ρ : DS} {ds : List D} {μ : Mu} (h : kPar2 i j E ρ ds μ) : ∃ a b, ds = [a, b] ∧ E.nx ((ρ.set i (.v a)).set j (.v b)) μ := by
  match ds, h with
  | [a, b], h => exact ⟨a, b, rfl, h⟩
theorem kPar3_of {i j l : Nat} {E : DEnds} {ρ : DS} {ds : List D} {μ : Mu} (h : kPar3 i j l E ρ ds μ) : ∃ a b c, ds = [a, b, c] ∧ E.nx (((ρ.set i (.v a)).set j (.v b)).set l (.v c)) μ := by
  match ds, h with
  | [a, b, c], h => exact ⟨a, b, c, rfl, h⟩
def sPar2 (i j : Nat) (wa : WA) : WS := fun E ρ μ => wa ρ μ (kPar2 i j E ρ) fun c ks es μ' => E.xc c ks es ρ μ'
def sPar3 (i j l : Nat) (wa : WA) : WS := fun E ρ μ => wa ρ μ (kPar3 i j l E ρ) fun c ks es μ' => E.xc c ks es ρ μ'
theorem ds_par2 {i j : Nat} {x y : Str} {a b : Expr} {ws : WA} {px py pt : Pos} {kt k2 pt2} (hc : X.calm = true) (hN : X.N.Nodup) (hi : X.N[i]? = some x) (hj : X.N[j]? = some y) (hij : i ≠ j)
    (ha : DA ex W X [a, b] ws) (hx : X.env.scope.names.lookup x = some .local := by rfl) (hy : X.env.scope.names.lookup y = some .local := by rfl)
    (hw : swappedStores [.Tuple [.Name x px, .Name y py] kt pt] (.Tuple [a, b] k2 pt2) X.env = pure (some [x, y]) := by rfl)
    (hs : swapsWithSole [.Tuple [.Name x px, .Name y py] kt pt] (.Tuple [a, b] k2 pt2) pos.line X.env = pure false := by rfl) :
    DSt ex W X (.Assign [.Tuple [.Name x px, .Name y py] kt pt] (.Tuple [a, b] k2 pt2) pos) (sPar2 i j ws) := ps_weak (ps_par hc hN hi hj hij hx hy ha hw hs) fun D σ H q => by
  obtain ⟨Z, m, ρ, μ, E, S, q, kn, kr, kb, kc, kx⟩ := q
  refine ⟨Z, m, ρ, μ, kPar2 i j E ρ, _, S, q, fun vs H1 P => ?_, fun cls d H' P => kx cls d σ H' (XSPost.of S P)⟩
  obtain ⟨m1, ds, μ1, s1, r1, q1⟩ := P
  obtain ⟨d1, d2, rfl, q1⟩ := kPar2_of q1
  obtain ⟨v1, _, rfl, h1, r1⟩ := r1.uncons
  obtain ⟨v2, _, rfl, h2, r1⟩ := r1.uncons
  rw [Reps] at r1
  subst r1
  obtain ⟨S1, t1⟩ := (S.step s1).set (i := i) h1
  obtain ⟨S2, t2⟩ := S1.set (i := j) (Rep.mono t1.pre t1.same _ _ h2)
  exact ⟨v1, v2, rfl, kn _ _ ⟨m1, _, μ1, S2, ((SStep.of s1).trans t1).trans t2, q1⟩⟩
theorem ds_par3 {i j l : Nat} {x y z : Str} {a b c : Expr} {ws : WA} {px py pz pt : Pos} {kt k2 pt2} (hc : X.calm = true) (hN : X.N.Nodup) (hi : X.N[i]? = some x) (hj : X.N[j]? = some y) (hl : X.N[l]? = some z) (hij : i ≠ j) (hil : i ≠ l) (hjl : j ≠ l)
    (ha : DA ex W X [a, b, c] ws) (hx : X.env.scope.names.lookup x = some .local := by rfl) (hy : X.env.scope.names.lookup y = some .local := by rfl) (hz : X.env.scope.names.lookup z = some .local := by rfl)
    (hw : swappedStores [.Tuple [.Name x px, .Name y py, .Name z pz] kt pt] (.Tuple [a, b, c] k2 pt2) X.env = pure (some [x, y, z]) := by rfl)
    (hs : swapsWithSole [.Tuple [.Name x px, .Name y py, .Name z pz] kt pt] (.Tuple [a, b, c] k2 pt2) pos.line X.env = pure false := by rfl) :
    DSt ex W X (.Assign [.Tuple [.Name x px, .Name y py, .Name z pz] kt pt] (.Tuple [a, b, c] k2 pt2) pos) (sPar3 i j l ws) := ps_weak (ps_par3 hc hN hi hj hl hij hil hjl hx hy hz ha hw hs) fun D σ H q => by
  obtain ⟨Z, m, ρ, μ, E, S, q, kn, kr, kb, kc, kx⟩ := q
  refine ⟨Z, m, ρ, μ, kPar3 i j l E ρ, _, S, q, fun vs H1 P => ?_, fun cls d H' P => kx cls d σ H' (XSPost.of S P)⟩
  obtain ⟨m1, ds, μ1, s1, r1, q1⟩ := P
  obtain ⟨d1, d2, d3, rfl, q1⟩ := kPar3_of q1
  obtain ⟨v1, _, rfl, h1, r1⟩ := r1.uncons
  obtain ⟨v2, _, rfl, h2, r1⟩ := r1.uncons
  obtain ⟨v3, _, rfl, h3, r1⟩ := r1.uncons
  rw [Reps] at r1
  subst r1
  obtain ⟨S1, t1⟩ := (S.step s1).set (i := i) h1
  obtain ⟨S2, t2⟩ := S1.set (i := j) (Rep.mono t1.pre t1.same _ _ h2)
  obtain ⟨S3, t3⟩ := S2.set (i := l) (Rep.mono (t1.trans t2).pre (t1.trans t2).same _ _ h3)
  exact ⟨v1, v2, v3, rfl, kn _ _ ⟨m1, _, μ1, S3, (((SStep.of s1).trans t1).trans t2).trans t3, q1⟩⟩
/-- name op= e -/
def sAug (i : Nat) (f : F2) (wa : WE) : WS := fun E ρ μ => match ρ[i]? with
  | some (.v x) => wa ρ μ (fun y μ1 => f x y μ1 fun z μ2 => E.nx (ρ.set i (.v z)) μ2) fun c ks es μ' => E.xc c ks es ρ μ'
  | _ => False
theorem ds_aug {i : Nat} {x : Str} {wa : WE} {op : Operator} {r : R2} {f : F2} {pos' : Pos} (ho : OpR X (inplaceOp op) r) (hf2 : S2 (gx X ex) r f) (hN : X.N.Nodup) (hi : X.N[i]? = some x) (he : DE ex W X e wa) (hx : Loc X.env.scope x := by first | exact Or.inl rfl | exact Or.inr rfl)
    (hf : X.fn x = true ∨ X.env.scope.names.lookup x = some .local := by first | exact .inl rfl | exact .inr rfl | assumption) : DSt ex W X (.AugAssign (.Name x pos') op e pos) (sAug i f wa) := ps_weak (ps_aug (i := i) (ti := r) hN hi hx he (fun pins s σ H x y v u Q I rx ry q => ho pins s σ H x y v u Q I rx ry q) hf) fun D σ H q => by
  obtain ⟨Z, m, ρ, μ, E, S, q, kn, kr, kb, kc, kx⟩ := q
  unfold sAug at q
  split at q
  · rename_i d ed
    obtain ⟨v, e1, r0⟩ := S.val i d ed
    refine ⟨v, e1, Z, m, ρ, μ, _, _, S, q, fun u H1 P => ?_, fun cls d H' P => kx cls d σ H' (XSPost.of S P)⟩
    obtain ⟨m1, y, μ1, s1, r1, q1⟩ := P
    refine hf2 _ m1 μ1 H1 d y v u _ _ s1.mu (Rep.mono s1.pre s1.same _ _ r0) r1 q1 fun z H' P => ?_
    obtain ⟨m2, zd, μ2, s2, r2, q2⟩ := P
    obtain ⟨S2, t2⟩ := ((S.step s1).step s2).set (i := i) r2
    exact kn _ _ ⟨m2, _, μ2, S2, (SStep.of (s1.trans s2)).trans t2, q2⟩
  · exact q.elim
end

/-! ### a def -/
def startD (N : List Str) (ds : List D) : DS := ds.map Sl.v ++ List.replicate (N.length - ds.length) Sl.no
theorem start_own {Z : Addr → Prop} {N : List Str} {ds : List D} {vs : List V} : ownW Z (L2.start N vs) (startD N ds) = Z := by
  funext b
  apply propext
  constructor
  · rintro (h | ⟨i, es, e1⟩)
    · exact h
    · unfold startD at e1
      rw [List.getElem?_append] at e1
      split at e1
      · rw [List.getElem?_map] at e1
        cases q : ds[i]? with
        | none => rw [q] at e1; cases e1
        | some d => rw [q] at e1; cases e1
      · have := List.mem_of_getElem? e1
        rw [List.mem_replicate] at this
        exact nomatch this.2
  · exact fun h => .inl h
theorem SR.start {G : Gx} {Z : Addr → Prop} {m : List Addr} {H : Hp} {μ : Mu} {N : List Str} {ds : List D} {vs : List V} (M : MuOk G Z m μ H) (r : Reps G m (vis Z m H) ds vs) : SR G Z m (L2.start N vs) H (startD N ds) μ := by
  refine ⟨by simp [startD, L2.start, r.len], by rw [start_own]; exact M, fun i d e => ?_, fun i a es e => ?_, fun i j a es fs e1 e2 => ?_, fun i c ks es e1 => ?_⟩
  · unfold startD at e
    rw [List.getElem?_append] at e
    split at e
    · rename_i hl
      rw [List.getElem?_map] at e
      rw [List.length_map] at hl
      cases q : ds[i]? with
      | none => rw [q] at e; cases e
      | some d' =>
        rw [q] at e
        cases e
        obtain ⟨v, ev, rv⟩ := r.get q
        refine ⟨v, ?_, by rw [start_own]; exact rv⟩
        unfold L2.start
        rw [List.getElem?_append_left (by rw [List.length_map, ← r.len]; exact hl), List.getElem?_map, ev]
        rfl
    · have := List.mem_of_getElem? e
      rw [List.mem_replicate] at this
      exact nomatch this.2
  · unfold startD at e
    rw [List.getElem?_append] at e
    split at e
    · rw [List.getElem?_map] at e
      cases q : ds[i]? with
      | none => rw [q] at e; cases e
      | some d' => rw [q] at e; cases e
    · have := List.mem_of_getElem? e
      rw [List.mem_replicate] at this
      exact nomatch this.2
  · unfold startD at e1
    rw [List.getElem?_append] at e1
    split at e1
    · rw [List.getElem?_map] at e1
      cases q : ds[i]? with
      | none => rw [q] at e1; cases e1
      | some d' => rw [q] at e1; cases e1
    · have := List.mem_of_getElem? e1
      rw [List.mem_replicate] at this
      exact nomatch this.2
  · unfold startD at e1
    rw [List.getElem?_append] at e1
    split at e1
    · rw [List.getElem?_map] at e1
      cases q : ds[i]? with
      | none => rw [q] at e1; cases e1
      | some d' => rw [q] at e1; cases e1
    · have := List.mem_of_getElem? e1
      rw [List.mem_replicate] at this
      exact nomatch this.2
section
variable {P : Program} {w : World} {K : PySem.W.Frag} {mg : Str → Option Value} {base : Heap}
/-- the ends of a def's body -/
def defE (Q : D → Mu → Prop) (Xd : XD) : DEnds := { nx := fun _ μ => Q .non μ, rt := Q, xc := fun c ks es _ μ => Xd c ks es μ }
theorem fnG_of {x qual : Str} {params : Arguments} {body : List Stmt} {scope : Scope} {dvs : List V} {kws : List (Str × V)} {f : Addr} {fd : FuncData} {N ps : List Str} {k : Nat} {sp : Sp} (F : FunD K x qual params body scope dvs kws f fd) (S : FnScope N ps scope)
    (len : ∀ vs H Q E, sp vs H Q E → vs.length = ps.length)
    (hbody : ∀ (cdv : Value) (A : Around) (fr : List Env) (s : Shared) (H : Hp) (vs : List V) (Q : VK) (E : XK), Room k (A.deeper (envOfC qual scope s.heap.objs.size f cdv)) → (A.deeper (envOfC qual scope s.heap.objs.size f cdv)).guards = some [] → sp vs H Q E →
      ∃ t, PSs (cxOf (L2.CX P w) P w K mg base N qual scope f cdv A fr s H E) body t ∧ t { nx := fun _ H' => Q .non H', rt := Q } (L2.start N vs) H) : FnG P w K mg base (k + 1) f fd ps sp := by
  obtain ⟨oc, od, dV, kV, doc, pm, an, cdv, ct, osl, rfl, lk, hcd, _, _⟩ := F.ex
  refine ⟨len, fun A fr s H args us vs Q E room gd env bd rv hsp => ?_⟩
  have hlen := len _ _ _ _ hsp
  have kin : K.In s.heap := env.mod.kin.keeps fun b o e => (env.bs b o e).1
  have nolim : s.heap.NoLimit := env.mod.nolimit.keeps fun b o e => (env.bs b o e).1
  have kinds : ∀ y ∈ ps.zip us, scope.names.lookup y.1 = some .local ∨ (scope.names.lookup y.1 = some .cell ∧ ((cellsFrom (s.heap.objs.size + 1) scope.names []).lookup y.1).isSome = true) := by
    rintro ⟨n, v⟩ hy
    exact (S.par n (List.of_mem_zip hy).1).elim .inl fun q => .inr ⟨q, PySem.W.cellsFrom_some _ _ _ (.inl q)⟩
  refine codeAny_call_function room.depth (kin _ _ lk) rfl S.co S.gen rfl (PySem.W.codeRec_of kin hcd) (bd _ _ _ _ ?_)
  refine wpAny_newFunctionEnv_cells S.kind kinds fun env1 he1 s1 made => ?_
  subst he1
  refine ⟨nolim.keeps made.toInCall.keep, codeAny_func ?_⟩
  obtain ⟨t, ht, hq⟩ := hbody cdv A fr s H vs Q E (room.deeper _) gd hsp
  have I : Inv (cxOf (L2.CX P w) P w K mg base N qual scope f cdv A fr s H E) [] (L2.start N vs) H s1 := inv_start S room.hd env hlen rv made
  refine wpAny_mono (ht.run [] s1 (L2.start N vs) H _ I hq) (fun fl s2 hs => ?_) fun er s2 hs => hs
  match fl, hs with
  | .ret u, ⟨v, σ2, H2, J, rv2, q⟩ => exact ⟨v, H2, J.os, J.bare, J.base, J.hok, rv2, q⟩
  | .next, ⟨σ2, H2, J, q⟩ => exact ⟨V.non, H2, J.os, J.bare, J.base, J.hok, rfl, q⟩
  | .brk, ⟨_, _, _, q⟩ => exact q.elim
  | .cont, ⟨_, _, _, q⟩ => exact q.elim
theorem def_ok {x qual : Str} {params : Arguments} {body : List Stmt} {scope : Scope} {dvs : List V} {kws : List (Str × V)} {f : Addr} {fd : FuncData} {N ps : List Str} {k : Nat} {sp : DSp} {wb : WS} (F : FunD K x qual params body scope dvs kws f fd) (S : FnScope N ps scope)
    (len : ∀ ds μ Q Xd, sp ds μ Q Xd → ds.length = ps.length)
    (hbody : ∀ (cdv : Value) (A : Around) (fr : List Env) (s : Shared) (H : Hp) (E : XK), Room k (A.deeper (envOfC qual scope s.heap.objs.size f cdv)) → (A.deeper (envOfC qual scope s.heap.objs.size f cdv)).guards = some [] →
      DSs none (fun cls d _ H' => E cls d H') (cxOf (L2.CX P w) P w K mg base N qual scope f cdv A fr s H E) body wb)
    (hw : ∀ ds μ Q Xd, sp ds μ Q Xd → wb (defE Q Xd) (startD N ds) μ) : FnG P w K mg base (k + 1) f fd ps (toSp ⟨K, mg, none⟩ sp) := by
  refine fnG_of F S (fun vs H Q E h => ?_) (fun cdv A outer s H vs Q E hr hgd h => ?_)
  · obtain ⟨Z, m, μ, ds, Q', Xd, M, r, q, _⟩ := h
    rw [← r.len]
    exact len _ _ _ _ q
  · refine ⟨_, hbody cdv A outer s H E hr hgd, ?_⟩
    obtain ⟨Z, m, μ, ds, Q', Xd, M, r, q, kq, kx⟩ := h
    refine ⟨Z, m, startD N ds, μ, defE Q' Xd, .start M r, hw ds μ Q' Xd q, fun σ' H' P => ?_, fun v H' P => ?_, fun σ' H' P => ?_, fun σ' H' P => ?_, fun cls d σ' H' P => ?_⟩
    · obtain ⟨m', ρ', μ', S', s', q'⟩ := P
      have z := s'.same
      rw [start_own] at z
      exact kq _ _ ⟨m', .non, μ', ⟨s'.pre, s'.hid, S'.mu.out_own, z.trans vis_own⟩, by rw [Rep], q'⟩
    · obtain ⟨m', d, μ', h1, h2, h3, h4, h5, h6⟩ := P
      rw [start_own] at h4
      exact kq _ _ ⟨m', d, μ', ⟨h1, h2, h3, h4⟩, h5, h6⟩
    · obtain ⟨m', ρ', μ', S', s', q'⟩ := P
      exact q'.elim
    · obtain ⟨m', ρ', μ', S', s', q'⟩ := P
      exact q'.elim
    · obtain ⟨m', c, ks, es, ρ', μ', C, dd, vs', S', s', e1, e2, e3, e4, e5, e6, q'⟩ := P
      have z := s'.same
      rw [start_own] at z
      exact kx _ _ _ ⟨m', c, ks, es, μ', C, dd, vs', ⟨s'.pre, s'.hid, S'.mu.out_own, z.trans vis_own⟩, e1, e2, e3, vis_own _ _ e4, e5, Reps.mono (List.prefix_refl _) vis_own _ _ e6, q'⟩
end
end DL

set_option Elab.async false
set_option linter.all false
set_option maxRecDepth 100000
set_option maxHeartbeats 4000000
set_option autoImplicit false
namespace DL
open PySem PySem.Spec PyProof.Rows L2
/-! ### operations on ints -/
def fII (C : Int → Int → Prop) (g : Int → Int → Int) : F2
  | .int i, .int j, μ, Q => C i j ∧ Q (.int (g i j)) μ
  | _, _, _, _ => False
def fII0 (g : Int → Int → Int) : F2
  | .int i, .int j, μ, Q => Q (.int (g i j)) μ
  | _, _, _, _ => False
def fIB (g : Int → Int → Bool) : F2
  | .int i, .int j, μ, Q => Q (.bl (g i j)) μ
  | _, _, _, _ => False
def fI (g : Int → Int) : F1
  | .int i, μ, Q => Q (.int (g i)) μ
  | _, _, _ => False
theorem fII_of {C : Int → Int → Prop} {g : Int → Int → Int} {x y : D} {μ : Mu} {Q : D → Mu → Prop} (h : fII C g x y μ Q) : ∃ i j, x = .int i ∧ y = .int j ∧ C i j ∧ Q (.int (g i j)) μ := by
  unfold fII at h
  split at h
  · exact ⟨_, _, rfl, rfl, h⟩
  · exact h.elim
theorem fII0_of {g : Int → Int → Int} {x y : D} {μ : Mu} {Q : D → Mu → Prop} (h : fII0 g x y μ Q) : ∃ i j, x = .int i ∧ y = .int j ∧ Q (.int (g i j)) μ := by
  unfold fII0 at h
  split at h
  · exact ⟨_, _, rfl, rfl, h⟩
  · exact h.elim
theorem fIB_of {g : Int → Int → Bool} {x y : D} {μ : Mu} {Q : D → Mu → Prop} (h : fIB g x y μ Q) : ∃ i j, x = .int i ∧ y = .int j ∧ Q (.bl (g i j)) μ := by
  unfold fIB at h
  split at h
  · exact ⟨_, _, rfl, rfl, h⟩
  · exact h.elim
theorem s2_II {G : Gx} {C : Int → Int → Prop} {g : Int → Int → Int} : S2 G (rI C fun i j => .int (g i j)) (fII C g) := by
  intro Z m μ H x y u v Q Q' M rx ry h k
  obtain ⟨i, j, rfl, rfl, c, q⟩ := fII_of h
  rw [Rep] at rx ry
  exact ⟨i, j, rx, ry, c, k _ _ (.now M (by rw [Rep]) q)⟩
theorem s2_II0 {G : Gx} {g : Int → Int → Int} : S2 G (rI0 fun i j => .int (g i j)) (fII0 g) := by
  intro Z m μ H x y u v Q Q' M rx ry h k
  obtain ⟨i, j, rfl, rfl, q⟩ := fII0_of h
  rw [Rep] at rx ry
  exact ⟨i, j, rx, ry, k _ _ (.now M (by rw [Rep]) q)⟩
theorem s2_IB {G : Gx} {g : Int → Int → Bool} : S2 G (rI0 fun i j => .bl (g i j)) (fIB g) := by
  intro Z m μ H x y u v Q Q' M rx ry h k
  obtain ⟨i, j, rfl, rfl, q⟩ := fIB_of h
  rw [Rep] at rx ry
  exact ⟨i, j, rx, ry, k _ _ (.now M (by rw [Rep]) q)⟩
theorem fI_of {g : Int → Int} {x : D} {μ : Mu} {Q : D → Mu → Prop} (h : fI g x μ Q) : ∃ i, x = .int i ∧ Q (.int (g i)) μ := by
  unfold fI at h
  split at h
  · exact ⟨_, rfl, h⟩
  · exact h.elim
theorem s1_I {G : Gx} {g : Int → Int} : S1 G (rU fun i => .int (g i)) (fI g) := by
  intro Z m μ H x u Q Q' M rx h k
  obtain ⟨i, rfl, q⟩ := fI_of h
  rw [Rep] at rx
  exact ⟨i, rx, k _ _ (.now M (by rw [Rep]) q)⟩
abbrev fAdd : F2 := fII0 fun i j => i + j
abbrev fSub : F2 := fII0 fun i j => i - j
def CM (i j : Int) : Prop := CMul i j ∨ CMulW i j
theorem op_mulU {X : Cx} : OpR X (binaryOp .Mult) (rI CM fun i j => .int (i * j)) := by
  intro pins s σ H x y v u Q I rx ry h
  obtain ⟨i, j, e1, e2, c, q⟩ := h
  rcases c with c | c
  · exact op_mul pins s σ H x y v u Q I rx ry ⟨i, j, e1, e2, c, q⟩
  · exact op_mulW pins s σ H x y v u Q I rx ry ⟨i, j, e1, e2, c, q⟩
abbrev fMul : F2 := fII CM fun i j => i * j
abbrev fDiv : F2 := fII CDivW fun i j => i / j
abbrev fMod : F2 := fII (fun _ j => 0 < j) fun i j => i % j
abbrev fPow : F2 := fII CPow fun i j => i ^ j.toNat
abbrev fNeg : F1 := fI fun i => -i
abbrev fLt : F2 := fIB fun i j => decide (i < j)
abbrev fLe : F2 := fIB fun i j => decide (i ≤ j)
abbrev fGt : F2 := fIB fun i j => decide (j < i)
abbrev fGe : F2 := fIB fun i j => decide (j ≤ i)
abbrev fEqI : F2 := fIB fun i j => decide (i = j)
abbrev fNeI : F2 := fIB fun i j => !decide (i = j)
/-- is, is not of a value and None -/
def isNon : D → Bool
  | .non => true
  | _ => false
def fIsN : F2
  | x, .non, μ, Q => Q (.bl (isNon x)) μ
  | _, _, _, _ => False
def fNotN : F2
  | x, .non, μ, Q => Q (.bl (!isNon x)) μ
  | _, _, _, _ => False
theorem rep_non {G : Gx} {m : List Addr} {E : Hp} {x : D} {u : V} (r : Rep G m E x u) : decide (u = .non) = isNon x := by
  cases x <;> rw [Rep] at r
  case non => subst r; rfl
  case bl => subst r; rfl
  case int => subst r; rfl
  case str => subst r; rfl
  case ty => subst r; rfl
  case tup => obtain ⟨a, vs, rfl, _⟩ := r; rfl
  case lst => obtain ⟨a, vs, rfl, _⟩ := r; rfl
  case frl => obtain ⟨a, vs, rfl, _⟩ := r; rfl
  case obj => obtain ⟨a, C, dx, vs, rfl, _⟩ := r; rfl
  case loc => obtain ⟨a, rfl, _⟩ := r; rfl
  case cls => obtain ⟨C, _, rfl⟩ := r; rfl
  case opq => obtain ⟨a, rfl, _⟩ := r; rfl
theorem s2_isN {G : Gx} : S2 G (fun x y H Q => y = .non ∧ Q (.bl (decide (x = .non))) H) fIsN := by
  intro Z m μ H x y u v Q Q' M rx ry h k
  unfold fIsN at h
  split at h
  · rw [Rep] at ry
    refine ⟨ry, k _ _ (.now M (d := .bl _) ?_ h)⟩
    rw [Rep, rep_non rx]
  · exact h.elim
theorem s2_notN {G : Gx} : S2 G (fun x y H Q => y = .non ∧ Q (.bl (!decide (x = .non))) H) fNotN := by
  intro Z m μ H x y u v Q Q' M rx ry h k
  unfold fNotN at h
  split at h
  · rw [Rep] at ry
    refine ⟨ry, k _ _ (.now M (d := .bl _) ?_ h)⟩
    rw [Rep, rep_non rx]
  · exact h.elim
section
variable {ex : Option (Addr × Addr × Addr)} {W : WX} {X : Cx} {a b c : Expr} {wa wb wc : WE} {pos : Pos}
theorem de_sub (ha : DE ex W X a wa) (hb : DE ex W X b wb) : DE ex W X (.BinOp a .Sub b pos) (w2 fSub wa wb) := de_op op_sub s2_II0 ha hb
theorem de_div (ha : DE ex W X a wa) (hb : DE ex W X b wb) : DE ex W X (.BinOp a .FloorDiv b pos) (w2 fDiv wa wb) := de_op op_fdivW s2_II ha hb
theorem de_mod (ha : DE ex W X a wa) (hb : DE ex W X b wb) : DE ex W X (.BinOp a .Mod b pos) (w2 fMod wa wb) := de_op op_mod s2_II ha hb
theorem de_pow (ha : DE ex W X a wa) (hb : DE ex W X b wb) : DE ex W X (.BinOp a .Pow b pos) (w2 fPow wa wb) := de_op op_pow s2_II ha hb
theorem de_neg (ha : DE ex W X a wa) : DE ex W X (.UnaryOp .USub a pos) (w1 fNeg wa) := de_un un_neg s1_I ha
end
/-! ### data of the library, and == by it -/
mutual
def toP : D → Option PyData
  | .non => some .none
  | .bl b => some (.bool b)
  | .int i => some (.int i)
  | .str s => some (.str s)
  | .tup ds => (toPs ds).map .tuple
  | .lst ds => (toPs ds).map .list
  | .frl ds => (toPs ds).map .list
  | _ => none
def toPs : List D → Option (List PyData)
  | [] => some []
  | d :: ds => match toP d, toPs ds with
    | some p, some ps => some (p :: ps)
    | _, _ => none
end
mutual
theorem dp_of {G : Gx} {m : List Addr} {E H : Hp} (hE : Same E H) : ∀ (d : D) (v : V) (p : PyData), Rep G m E d v → toP d = some p → Dp G.K H v p
  | .non, v, p, r, e => by rw [Rep] at r; rw [toP] at e; cases e; subst r; exact .non
  | .bl b, v, p, r, e => by rw [Rep] at r; rw [toP] at e; cases e; subst r; exact .bl b
  | .int i, v, p, r, e => by rw [Rep] at r; rw [toP] at e; cases e; subst r; exact .int i
  | .str s, v, p, r, e => by rw [Rep] at r; rw [toP] at e; cases e; subst r; exact .str s
  | .tup ds, v, p, r, e => by
    rw [Rep] at r; rw [toP] at e
    obtain ⟨a, vs, rfl, s, q⟩ := r
    cases h : toPs ds with
    | none => rw [h] at e; cases e
    | some ps =>
      rw [h] at e; cases e
      exact .tup (SqT.same hE s) (dps_of hE ds vs ps q h)
  | .lst ds, v, p, r, e => by
    rw [Rep] at r; rw [toP] at e
    obtain ⟨a, vs, rfl, s, q⟩ := r
    cases h : toPs ds with
    | none => rw [h] at e; cases e
    | some ps =>
      rw [h] at e; cases e
      exact .lst (.inl (.inl (hE _ _ s))) (dps_of hE ds vs ps q h)
  | .frl ds, v, p, r, e => by
    rw [Rep] at r; rw [toP] at e
    obtain ⟨a, vs, rfl, s, q⟩ := r
    cases h : toPs ds with
    | none => rw [h] at e; cases e
    | some ps =>
      rw [h] at e; cases e
      exact .lst (Same.seq hE s) (dps_of hE ds vs ps q h)
  | .obj _ _ _, v, p, r, e => by simp [toP] at e
  | .loc _, v, p, r, e => by simp [toP] at e
  | .ty _, v, p, r, e => by simp [toP] at e
  | .cls _, v, p, r, e => by simp [toP] at e
  | .opq _, v, p, r, e => by simp [toP] at e
theorem dps_of {G : Gx} {m : List Addr} {E H : Hp} (hE : Same E H) : ∀ (ds : List D) (vs : List V) (ps : List PyData), Reps G m E ds vs → toPs ds = some ps → DpAll G.K H vs ps
  | [], vs, ps, r, e => by rw [Reps] at r; rw [toPs] at e; cases e; subst r; exact .nil
  | d :: ds, vs, ps, r, e => by
    obtain ⟨v, t, rfl, h, q⟩ := r.uncons
    rw [toPs] at e
    cases h1 : toP d with
    | none => rw [h1] at e; cases e
    | some p =>
      cases h2 : toPs ds with
      | none => rw [h1, h2] at e; cases e
      | some ps' =>
        rw [h1, h2] at e; cases e
        exact .cons (dp_of hE d v p h h1) (dps_of hE ds t ps' q h2)
end
/-- == of data -/
def eqD (x y : D) (k : Bool → Prop) : Prop := ∃ p q, toP x = some p ∧ toP y = some q ∧ SeqAt.shaped p = true ∧ SeqAt.shaped q = true ∧ k (PyData.eqv p q)
def fEqD : F2 := fun x y μ Q => eqD x y fun b => Q (.bl b) μ
def fNeD : F2 := fun x y μ Q => eqD x y fun b => Q (.bl (!b)) μ
theorem s2_eqD {G : Gx} : S2 G (rEqD G.K) fEqD := by
  intro Z m μ H x y u v Q Q' M rx ry h k
  obtain ⟨p, q, e1, e2, s1, s2, h⟩ := h
  exact ⟨p, q, dp_of vis_le _ _ _ rx e1, dp_of vis_le _ _ _ ry e2, s1, s2, k _ _ (.now M (by rw [Rep]) h)⟩
theorem s2_neD {G : Gx} : S2 G (rNeD G.K) fNeD := by
  intro Z m μ H x y u v Q Q' M rx ry h k
  obtain ⟨p, q, e1, e2, s1, s2, h⟩ := h
  exact ⟨p, q, dp_of vis_le _ _ _ rx e1, dp_of vis_le _ _ _ ry e2, s1, s2, k _ _ (.now M (by rw [Rep]) h)⟩
/-- in, not in, a list's index: data -/
def fInD : F2 := fun x y μ Q => ∃ p qs, toP x = some p ∧ toP y = some (.list qs) ∧ SeqAt.shaped p = true ∧ SeqAt.shaped (.list qs) = true ∧ Q (.bl (qs.any fun z => PyData.eqv z p)) μ
theorem s2_inD {G : Gx} : S2 G (rInD G.K) fInD := by
  intro Z m μ H x y u v Q Q' M rx ry h k
  obtain ⟨p, q, e1, e2, s1, s2, h⟩ := h
  exact ⟨p, q, dp_of vis_le _ _ _ rx e1, dp_of vis_le _ _ _ ry e2, s1, s2, k _ _ (.now M (by rw [Rep]) h)⟩
/-! ### items, lengths, cuts -/
/-- the items of a list or a tuple -/
def itemsD (d : D) (μ : Mu) : Option (List D) := match d with
  | .tup ds => some ds
  | .lst ds => some ds
  | .frl ds => some ds
  | .loc n => match μ[n]? with
    | some (.lst ds) => some ds
    | _ => none
  | _ => none
def fIx : F2 := fun x y μ Q => match itemsD x μ, y with
  | some ds, .int i => match atI ds i with
    | some d => Q d μ
    | none => False
  | _, _ => False
theorem atI_rep {G : Gx} {m : List Addr} {E : Hp} {ds : List D} {vs : List V} {i : Int} {d : D} (r : Reps G m E ds vs) (h : atI ds i = some d) : ∃ v, atI vs i = some v ∧ Rep G m E d v := by
  unfold atI at h ⊢
  rw [← r.len]
  cases e : ixN ds.length i with
  | none => rw [e] at h; cases h
  | some j =>
    rw [e] at h
    obtain ⟨v, e1, q⟩ := r.get (show ds[j]? = some d from h)
    exact ⟨v, e1, q⟩
theorem items_rep {G : Gx} {Z : Addr → Prop} {m : List Addr} {μ : Mu} {H : Hp} {x : D} {u : V} {ds : List D} (M : MuOk G Z m μ H) (r : Rep G m (vis Z m H) x u) (h : itemsD x μ = some ds) :
    ∃ a vs, u = .ref a ∧ (SqL G.K H a vs ∨ SqT G.K H a vs) ∧ Reps G m (vis Z m H) ds vs := by
  unfold itemsD at h
  split at h
  · cases h
    rw [Rep] at r
    obtain ⟨a, vs, e, s, q⟩ := r
    exact ⟨a, vs, e, .inr (SqT.same vis_le s), q⟩
  · cases h
    rw [Rep] at r
    obtain ⟨a, vs, e, s, q⟩ := r
    exact ⟨a, vs, e, .inl (.inl (.inl (vis_le _ _ s))), q⟩
  · cases h
    rw [Rep] at r
    obtain ⟨a, vs, e, s, q⟩ := r
    exact ⟨a, vs, e, .inl (Same.seq vis_le s), q⟩
  · rename_i n
    split at h
    · rename_i es e1
      cases h
      rw [Rep] at r
      obtain ⟨a, e, s⟩ := r
      obtain ⟨vs, h1, h2⟩ := M.cell n _ a e1 s
      exact ⟨a, vs, e, .inl (.inl (.inl h1)), h2⟩
    · cases h
  · cases h
def rIxLT (K : PySem.W.Frag) : R2 := fun x y H Q => rIxL K x y H Q ∨ rIxT K x y H Q
theorem s2_ix {G : Gx} : S2 G (rIxLT G.K) fIx := by
  intro Z m μ H x y u v Q Q' M rx ry h k
  unfold fIx at h
  split at h
  · rename_i ds i e1
    split at h
    · rename_i d e2
      rw [Rep] at ry
      obtain ⟨a, vs, e, s, q⟩ := items_rep M rx e1
      obtain ⟨w, ew, rw'⟩ := atI_rep q e2
      have fin := k w H (.now M rw' h)
      rcases s with s | s
      · exact .inl ⟨a, vs, i, w, e, ry, s, ew, fin⟩
      · exact .inr ⟨a, vs, i, w, e, ry, s, ew, fin⟩
    · exact h.elim
  · exact h.elim
def fLen : FN := fun xs μ Q => match xs with
  | [x] => match itemsD x μ with
    | some ds => Q (.int ds.length) μ
    | none => False
  | _ => False
theorem sn_len {G : Gx} : SN G (fun xs H Q => ∃ p ys, xs = [.ref p] ∧ (SqL G.K H p ys ∨ SqT G.K H p ys) ∧ Q (.int ys.length) H) fLen := by
  intro Z m μ H xs us Q Q' M r h k
  unfold fLen at h
  split at h
  · rename_i x
    split at h
    · rename_i ds e1
      obtain ⟨v, t, rfl, r1, r2⟩ := r.uncons
      rw [Reps] at r2
      subst r2
      obtain ⟨a, vs, rfl, s, q⟩ := items_rep M r1 e1
      exact ⟨a, vs, rfl, s, k _ _ (.now M (by rw [Rep, q.len]) h)⟩
    · exact h.elim
  · exact h.elim
/-- the cut of a list -/
def cutD (ds : List D) (lo hi : Option Int) : List D := (ds.drop (HT.sIx ds.length 0 lo)).take (HT.sIx ds.length ds.length hi - HT.sIx ds.length 0 lo)
theorem cut_rep {G : Gx} {m : List Addr} {E : Hp} {ds : List D} {vs : List V} {lo hi : Option Int} (r : Reps G m E ds vs) : Reps G m E (cutD ds lo hi) (cutV vs lo hi) := by
  unfold cutD cutV
  rw [← r.len]
  exact (r.drop _).take _
/-- a part of a slice -/
abbrev WO := DS → Mu → (Option Int → Mu → Prop) → XD → Prop
def oNone : WO := fun _ μ Q _ => Q none μ
def intOr (d : D) (Q : Int → Prop) : Prop := match d with
  | .int i => Q i
  | _ => False
theorem intOr_of {d : D} {Q : Int → Prop} (h : intOr d Q) : ∃ i, d = .int i ∧ Q i := by
  cases d <;> first | exact h.elim | exact ⟨_, rfl, h⟩
def oSome (wa : WE) : WO := fun ρ μ Q Xd => wa ρ μ (fun d μ1 => intOr d fun i => Q (some i) μ1) Xd
def OPost (G : Gx) (Z : Addr → Prop) (m : List Addr) (H : Hp) (Q : Option Int → Mu → Prop) (o : Option Int) (H' : Hp) : Prop := ∃ m' μ', Step G Z m H m' μ' H' ∧ Q o μ'
def liftO (G : Gx) (W : WX) (w : WO) : TO := fun σ H Q' => ∃ Z m ρ μ Q Xd, SR G Z m σ H ρ μ ∧ w ρ μ Q Xd ∧ (∀ o H', OPost G (ownW Z σ ρ) m H Q o H' → Q' o H') ∧ ∀ cls d H', XPost G (ownW Z σ ρ) m H Xd cls d H' → W cls d σ H'
abbrev DO (ex : Option (Addr × Addr × Addr)) (W : WX) (X : Cx) (e : Option Expr) (w : WO) : Prop := PO X e (liftO (gx X ex) W w)
theorem po_weak {X : Cx} {e : Option Expr} {t t' : TO} (h : PO X e t) (k : ∀ σ H Q, t' σ H Q → t σ H Q) : PO X e t' := ⟨fun pins s σ H Q I q => h.run pins s σ H Q I (k σ H Q q)⟩
def lstOr (d : D) (Q : List D → Prop) : Prop := match d with
  | .lst ds => Q ds
  | .frl ds => Q ds
  | _ => False
theorem lstOr_of {d : D} {Q : List D → Prop} (h : lstOr d Q) : ∃ ds, (d = .lst ds ∨ d = .frl ds) ∧ Q ds := by
  unfold lstOr at h
  split at h
  · exact ⟨_, .inl rfl, h⟩
  · exact ⟨_, .inr rfl, h⟩
  · exact h.elim
theorem lstOr_rep {G : Gx} {m : List Addr} {E : Hp} {d : D} {u : V} {Q : List D → Prop} (h : lstOr d Q) (r : Rep G m E d u) : ∃ ds a vs, u = .ref a ∧ SqL G.K E a vs ∧ Reps G m E ds vs ∧ Q ds := by
  obtain ⟨ds, e | e, q⟩ := lstOr_of h
  · subst e
    rw [Rep] at r
    obtain ⟨a, vs, e, s, r⟩ := r
    exact ⟨_, a, vs, e, .inl (.inl s), r, q⟩
  · subst e
    rw [Rep] at r
    obtain ⟨a, vs, e, s, r⟩ := r
    exact ⟨_, a, vs, e, s, r, q⟩
theorem SqL.same' {K : PySem.W.Frag} {H H' : Hp} {a : Addr} {xs : List V} (e : Same H H') (h : SqL K H a xs) : SqL K H' a xs := Same.seq e h
def wSl (wa : WE) (lo hi : WO) : WE := fun ρ μ Q Xd => wa ρ μ (fun x μ1 => lo ρ μ1 (fun l μ2 => hi ρ μ2 (fun u μ3 => lstOr x fun ds => Q (.lst (cutD ds l u)) μ3) Xd) Xd) Xd
section
variable {ex : Option (Addr × Addr × Addr)} {W : WX} {X : Cx} {a b c : Expr} {wa wb wc : WE} {wl wh : WO} {lo hi : Option Expr} {pos p2 : Pos}
theorem do_none : DO ex W X none oNone := po_weak po_none fun σ H Q' q => by
  obtain ⟨Z, m, ρ, μ, Q, Xd, S, q, k, kx⟩ := q
  exact k _ _ ⟨m, μ, .refl S.mu, q⟩
theorem do_some (h : DE ex W X a wa) : DO ex W X (some a) (oSome wa) := po_weak (po_some h) fun σ H Q' q => by
  obtain ⟨Z, m, ρ, μ, Q, Xd, S, q, k, kx⟩ := q
  refine ⟨Z, m, ρ, μ, _, Xd, S, q, fun v H1 P => ?_, kx⟩
  obtain ⟨m1, d, μ1, s1, r1, q1⟩ := P
  obtain ⟨i, rfl, q2⟩ := intOr_of q1
  rw [Rep] at r1
  exact ⟨i, r1, k _ _ ⟨m1, μ1, s1, q2⟩⟩
theorem de_slice (ha : DE ex W X a wa) (hl : DO ex W X lo wl) (hh : DO ex W X hi wh) : DE ex W X (.Subscript a (.Slice lo hi none p2) pos) (wSl wa wl wh) := pe_weak (pe_slice sl_list ha hl hh) fun σ H Q' q => by
  refine lift_bind (f := fun x ρ μ1 Q Xd => wl ρ μ1 (fun l μ2 => wh ρ μ2 (fun u μ3 => lstOr x fun ds => Q (.lst (cutD ds l u)) μ3) Xd) Xd) q fun Z m ρ μ Q Xd x v H1 S r1 q1 k kx => ?_
  refine ⟨Z, m, ρ, μ, _, Xd, S, q1, fun l H2 P => ?_, kx⟩
  obtain ⟨m2, μ2, s2, q2⟩ := P
  refine ⟨Z, m2, ρ, μ2, _, Xd, S.step s2, q2, fun u H3 P => ?_, fun cls d H' P => kx cls d H' (XPost.from s2 P)⟩
  obtain ⟨m3, μ3, s3, q3⟩ := P
  obtain ⟨ds, p, vs, e, sq, rs, q4⟩ := lstOr_rep q3 (Rep.mono (s2.trans s3).pre (s2.trans s3).same _ _ r1)
  refine ⟨p, vs, e, SqL.same' vis_le sq, fun np hnp => k _ _ ?_⟩
  have s4 := Step.laid (o := .lst (cutV vs l u)) s3.mu hnp
  refine VPost.from (s2.trans s3) ⟨m3, _, μ3, s4, ?_, q4⟩
  rw [Rep]
  refine ⟨np, _, rfl, ?_, cut_rep (Reps.mono s4.pre s4.same _ _ rs)⟩
  rw [vis_upd s3.mu hnp, upd_same]
theorem de_item (ha : DE ex W X a wa) (hb : DE ex W X b wb) (hs : PlainIx b := by exact fun _ _ => rfl) : DE ex W X (.Subscript a b pos) (w2 fIx wa wb) := de_ix (ix_list.or ix_tup) (s2_ix (G := gx X ex)) ha hb hs
end
/-! ### lists put together -/
def fCat : F2
  | .lst a, .lst b, μ, Q => a.length + b.length ≤ sizeLine ∧ Q (.lst (a ++ b)) μ
  | _, _, _, _ => False
theorem s2_cat {G : Gx} : S2 G rCat fCat := by
  intro Z m μ H x y u v Q Q' M rx ry h k
  unfold fCat at h
  split at h
  · obtain ⟨hl, h⟩ := h
    rw [Rep] at rx ry
    obtain ⟨p, vs, rfl, sp, rp⟩ := rx
    obtain ⟨q, us, rfl, sq, rq⟩ := ry
    refine ⟨p, q, vs, us, rfl, rfl, vis_le _ _ sp, vis_le _ _ sq, by rw [← rp.len, ← rq.len]; exact hl, fun t nt => k _ _ ?_⟩
    have s4 := Step.laid (o := .lst (vs ++ us)) M nt
    refine ⟨m, _, μ, s4, ?_, h⟩
    rw [Rep]
    refine ⟨t, _, rfl, ?_, Reps.append (Reps.mono s4.pre s4.same _ _ rp) (Reps.mono s4.pre s4.same _ _ rq)⟩
    rw [vis_upd M nt, upd_same]
  · exact h.elim
def fRep : F2
  | .lst a, .int n, μ, Q => -(2 ^ 63) ≤ n ∧ n < 2 ^ 63 ∧ a.length * n.toNat ≤ sizeLine ∧ Q (.lst (List.replicate n.toNat a).flatten) μ
  | _, _, _, _ => False
theorem Reps.reps {G : Gx} {m : List Addr} {E : Hp} {ds : List D} {vs : List V} (r : Reps G m E ds vs) : ∀ n : Nat, Reps G m E (List.replicate n ds).flatten (List.replicate n vs).flatten
  | 0 => Reps.nil
  | n + 1 => by
    rw [List.replicate_succ, List.replicate_succ, List.flatten_cons, List.flatten_cons]
    exact Reps.append r (Reps.reps r n)
theorem fRep_of {x y : D} {μ : Mu} {Q : D → Mu → Prop} (h : fRep x y μ Q) : ∃ a n, x = .lst a ∧ y = .int n ∧ -(2 ^ 63) ≤ n ∧ n < 2 ^ 63 ∧ a.length * n.toNat ≤ sizeLine ∧ Q (.lst (List.replicate n.toNat a).flatten) μ := by
  unfold fRep at h
  split at h
  · exact ⟨_, _, rfl, rfl, h⟩
  · exact h.elim
theorem s2_rep {G : Gx} : S2 G rRep fRep := by
  intro Z m μ H x y u v Q Q' M rx ry h k
  obtain ⟨a, n, rfl, rfl, h1, h2, hl, h⟩ := fRep_of h
  rw [Rep] at rx
  rw [Rep] at ry
  obtain ⟨p, vs, rfl, sp, rp⟩ := rx
  refine ⟨p, n, vs, rfl, ry, vis_le _ _ sp, h1, h2, by rw [← rp.len]; exact hl, fun t nt => k _ _ ?_⟩
  have s4 := Step.laid (o := .lst (List.replicate n.toNat vs).flatten) M nt
  refine ⟨m, _, μ, s4, ?_, h⟩
  rw [Rep]
  refine ⟨t, _, rfl, ?_, Reps.reps (Reps.mono s4.pre s4.same _ _ rp) _⟩
  rw [vis_upd M nt, upd_same]
/-! ### calls of built-ins -/
def fInt1 : FN := fun xs μ Q => match xs with
  | [.int i] => Q (.int i) μ
  | [.bl b] => Q (.int (if b then 1 else 0)) μ
  | _ => False
theorem sn_int1 {G : Gx} : SN G (fun xs H Q => (∃ i, xs = [.int i] ∧ Q (.int i) H) ∨ ∃ k, xs = [.bl k] ∧ Q (.int (if k then 1 else 0)) H) fInt1 := by
  intro Z m μ H xs us Q Q' M r h k
  unfold fInt1 at h
  split at h
  · obtain ⟨v, t, rfl, r1, r2⟩ := r.uncons
    rw [Reps] at r2
    rw [Rep] at r1
    subst r1 r2
    exact .inl ⟨_, rfl, k _ _ (.now M (by rw [Rep]) h)⟩
  · obtain ⟨v, t, rfl, r1, r2⟩ := r.uncons
    rw [Reps] at r2
    rw [Rep] at r1
    subst r1 r2
    exact .inr ⟨_, rfl, k _ _ (.now M (by rw [Rep]) h)⟩
  · exact h.elim
def fMax2 : FN := fun xs μ Q => match xs with
  | [.int i, .int j] => Q (.int (if j > i then j else i)) μ
  | _ => False
def fMin2 : FN := fun xs μ Q => match xs with
  | [.int i, .int j] => Q (.int (if j < i then j else i)) μ
  | _ => False
def fAbs : FN := fun xs μ Q => match xs with
  | [.int i] => Q (.int (if i < 0 then -i else i)) μ
  | _ => False
theorem sn_max2 {G : Gx} : SN G (fun xs H Q => ∃ i j, xs = [.int i, .int j] ∧ Q (.int (if j > i then j else i)) H) fMax2 := by
  intro Z m μ H xs us Q Q' M r h k
  unfold fMax2 at h
  split at h
  · obtain ⟨v, t, rfl, r1, r2⟩ := r.uncons
    obtain ⟨v2, t2, rfl, r3, r4⟩ := r2.uncons
    rw [Reps] at r4
    rw [Rep] at r1 r3
    subst r1 r3 r4
    exact ⟨_, _, rfl, k _ _ (.now M (by rw [Rep]) h)⟩
  · exact h.elim
theorem sn_min2 {G : Gx} : SN G (fun xs H Q => ∃ i j, xs = [.int i, .int j] ∧ Q (.int (if j < i then j else i)) H) fMin2 := by
  intro Z m μ H xs us Q Q' M r h k
  unfold fMin2 at h
  split at h
  · obtain ⟨v, t, rfl, r1, r2⟩ := r.uncons
    obtain ⟨v2, t2, rfl, r3, r4⟩ := r2.uncons
    rw [Reps] at r4
    rw [Rep] at r1 r3
    subst r1 r3 r4
    exact ⟨_, _, rfl, k _ _ (.now M (by rw [Rep]) h)⟩
  · exact h.elim
theorem sn_abs {G : Gx} : SN G (fun xs H Q => ∃ i, xs = [.int i] ∧ Q (.int (if i < 0 then -i else i)) H) fAbs := by
  intro Z m μ H xs us Q Q' M r h k
  unfold fAbs at h
  split at h
  · obtain ⟨v, t, rfl, r1, r2⟩ := r.uncons
    rw [Reps] at r2
    rw [Rep] at r1
    subst r1 r2
    exact ⟨_, rfl, k _ _ (.now M (by rw [Rep]) h)⟩
  · exact h.elim
/-- the ints of a list of ints -/
def intD : D → Option Int
  | .int i => some i
  | _ => none
theorem intD_of {d : D} {i : Int} (h : intD d = some i) : d = .int i := by
  cases d <;> first | (cases h; done) | (cases h; rfl)
def intsD : List D → Option (List Int)
  | [] => some []
  | d :: ds => match intD d, intsD ds with
    | some i, some ns => some (i :: ns)
    | _, _ => none
theorem ints_rep {G : Gx} {m : List Addr} {E : Hp} : ∀ {ds : List D} {vs : List V} {ns : List Int}, Reps G m E ds vs → intsD ds = some ns → vs = ns.map V.int
  | [], vs, ns, r, e => by rw [Reps] at r; rw [intsD] at e; cases e; exact r
  | d :: ds, vs, ns, r, e => by
    obtain ⟨v, t, rfl, r1, r2⟩ := r.uncons
    rw [intsD] at e
    split at e
    · rename_i i ms h1 h2
      cases e
      have e1 := intD_of h1
      subst e1
      rw [Rep] at r1
      subst r1
      rw [ints_rep r2 h2]
      rfl
    · cases e
theorem reps_ints {G : Gx} {m : List Addr} {E : Hp} (ns : List Int) : Reps G m E (ns.map D.int) (ns.map V.int) := Reps.map_of (fun _ => by rw [Rep]) ns
end DL

set_option Elab.async false
set_option linter.all false
set_option maxRecDepth 100000
set_option maxHeartbeats 4000000
set_option autoImplicit false
namespace DL
open PySem PySem.Spec PyProof.Rows L2 RZ
/-! ### what is walked -/
abbrev WI := DS → Mu → (List D → Mu → Prop) → XD → Prop
/-- an iterator that gives the data ds, as long as what E0 shows stands -/
structure ItOk (G : Gx) (J : It) (m0 : List Addr) (E0 : Hp) (ds : List D) : Prop where
  go : ∀ (i : Nat) H, i < ds.length → Same E0 H → J.go i H
  stop : ∀ H, Same E0 H → J.stop ds.length H
  yld : ∀ (i : Nat) H x H3, i < ds.length → Same E0 H → J.yld i H x H3 → ∃ d, ds[i]? = some d ∧ ((H3 = H ∧ Rep G m0 E0 d x) ∨ ∃ T o, H T = none ∧ H3 = upd H T o ∧ ∀ m E, m0 <+: m → Same E0 E → E T = some o → Rep G m E d x)
def IPost (G : Gx) (Z : Addr → Prop) (m : List Addr) (H : Hp) (Q : List D → Mu → Prop) (J : It) (H' : Hp) : Prop :=
  ∃ m' ds μ', Step G Z m H m' μ' H' ∧ ItOk G J m' (vis Z m' H') ds ∧ Q ds μ'
/-- the same, as long as what is hidden stands, too -/
structure ItOkF (G : Gx) (J : It) (m0 : List Addr) (E0 : Hp) (F : Hp → Prop) (ds : List D) : Prop where
  go : ∀ (i : Nat) H, i < ds.length → Same E0 H → F H → J.go i H
  stop : ∀ H, Same E0 H → F H → J.stop ds.length H
  yld : ∀ (i : Nat) H x H3, i < ds.length → Same E0 H → F H → J.yld i H x H3 → ∃ d, ds[i]? = some d ∧ ((H3 = H ∧ Rep G m0 E0 d x) ∨ ∃ T o, H T = none ∧ H3 = upd H T o ∧ ∀ m E, m0 <+: m → Same E0 E → E T = some o → Rep G m E d x)
theorem ItOk.toF {G : Gx} {J : It} {m0 : List Addr} {E0 : Hp} {F : Hp → Prop} {ds : List D} (h : ItOk G J m0 E0 ds) : ItOkF G J m0 E0 F ds := ⟨fun i H a b _ => h.go i H a b, fun H b _ => h.stop H b, fun i H x H3 a b _ c => h.yld i H x H3 a b c⟩
def IPostF (G : Gx) (Z : Addr → Prop) (m : List Addr) (H : Hp) (Q : List D → Mu → Prop) (J : It) (H' : Hp) : Prop :=
  ∃ m' ds μ' F, Step G Z m H m' μ' H' ∧ (∀ H2, (∀ z, Z z → H2 z = H' z) → F H2) ∧ ItOkF G J m' (vis Z m' H') F ds ∧ Q ds μ'
theorem IPost.toF {G : Gx} {Z : Addr → Prop} {m : List Addr} {H : Hp} {Q : List D → Mu → Prop} {J : It} {H' : Hp} (p : IPost G Z m H Q J H') : IPostF G Z m H Q J H' := by
  obtain ⟨m', ds, μ', s, ok, q⟩ := p
  exact ⟨m', ds, μ', fun _ => True, s, fun _ _ => trivial, ok.toF, q⟩
def liftIF (G : Gx) (W : WX) (w : WI) : TI := fun σ H R => ∃ Z m ρ μ Q Xd, SR G Z m σ H ρ μ ∧ w ρ μ Q Xd ∧ (∀ J H', IPostF G (ownW Z σ ρ) m H Q J H' → R J H') ∧ ∀ cls d H', XPost G (ownW Z σ ρ) m H Xd cls d H' → W cls d σ H'
def liftI (G : Gx) (W : WX) (w : WI) : TI := fun σ H R => ∃ Z m ρ μ Q Xd, SR G Z m σ H ρ μ ∧ w ρ μ Q Xd ∧ (∀ J H', IPost G (ownW Z σ ρ) m H Q J H' → R J H') ∧ ∀ cls d H', XPost G (ownW Z σ ρ) m H Xd cls d H' → W cls d σ H'
abbrev DI (ex : Option (Addr × Addr × Addr)) (W : WX) (X : Cx) (tg e : Expr) (w : WI) : Prop := PI X tg e (liftI (gx X ex) W w)
theorem pi_weak {X : Cx} {tg e : Expr} {t t' : TI} (h : PI X tg e t) (k : ∀ σ H Q, t' σ H Q → t σ H Q) : PI X tg e t' := ⟨fun pins s σ H Q I q => h.run pins s σ H Q I (k σ H Q q)⟩
abbrev DIF (ex : Option (Addr × Addr × Addr)) (W : WX) (X : Cx) (tg e : Expr) (w : WI) : Prop := PI X tg e (liftIF (gx X ex) W w)
theorem DI.toF {ex : Option (Addr × Addr × Addr)} {W : WX} {X : Cx} {tg e : Expr} {w : WI} (h : DI ex W X tg e w) : DIF ex W X tg e w := pi_weak h fun σ H R q => by
  obtain ⟨Z, m, ρ, μ, Q, Xd, S, q, k, kx⟩ := q
  exact ⟨Z, m, ρ, μ, Q, Xd, S, q, fun J H' P => k J H' P.toF, kx⟩
def tupOr (d : D) (Q : List D → Prop) : Prop := match d with
  | .tup ds => Q ds
  | _ => False
theorem tupOr_of {d : D} {Q : List D → Prop} (h : tupOr d Q) : ∃ ds, d = .tup ds ∧ Q ds := by
  unfold tupOr at h
  split at h
  · exact ⟨_, rfl, h⟩
  · exact h.elim
def wiL (wa : WE) : WI := fun ρ μ Q Xd => wa ρ μ (fun d μ1 => lstOr d fun ds => Q ds μ1) Xd
def wiT (wa : WE) : WI := fun ρ μ Q Xd => wa ρ μ (fun d μ1 => tupOr d fun ds => Q ds μ1) Xd
/-- lo, lo + 1, .. -/
def rangeD (lo : Int) (n : Nat) : List D := (List.range n).map fun (k : Nat) => D.int (lo + (k : Int))
def rg1 (ds : List D) (Q : List D → Prop) : Prop := match ds with
  | [.int j] => -(2 ^ 62) ≤ j ∧ j < 2 ^ 62 ∧ Q (rangeD 0 j.toNat)
  | _ => False
def rg2 (ds : List D) (Q : List D → Prop) : Prop := match ds with
  | [.int i, .int j] => (-(2 ^ 62) ≤ i ∧ i < 2 ^ 62 ∧ -(2 ^ 62) ≤ j ∧ j < 2 ^ 62) ∧ Q (rangeD i (j - i).toNat)
  | _ => False
theorem rg1_of {ds : List D} {Q : List D → Prop} (h : rg1 ds Q) : ∃ j : Int, ds = [.int j] ∧ -(2 ^ 62) ≤ j ∧ j < 2 ^ 62 ∧ Q (rangeD 0 j.toNat) := by
  unfold rg1 at h
  split at h
  · exact ⟨_, rfl, h⟩
  · exact h.elim
theorem rg2_of {ds : List D} {Q : List D → Prop} (h : rg2 ds Q) : ∃ i j : Int, ds = [.int i, .int j] ∧ (-(2 ^ 62) ≤ i ∧ i < 2 ^ 62 ∧ -(2 ^ 62) ≤ j ∧ j < 2 ^ 62) ∧ Q (rangeD i (j - i).toNat) := by
  unfold rg2 at h
  split at h
  · exact ⟨_, _, rfl, h⟩
  · exact h.elim
def wiR1 (wa : WA) : WI := fun ρ μ Q Xd => wa ρ μ (fun ds μ1 => rg1 ds fun es => Q es μ1) Xd
def wiR2 (wa : WA) : WI := fun ρ μ Q Xd => wa ρ μ (fun ds μ1 => rg2 ds fun es => Q es μ1) Xd
/-- enumerate, zip -/
def enumD (ds : List D) : List D := ds.mapIdx fun i d => D.tup [.int (i : Nat), d]
def zipD (a b : List D) : List D := (a.zip b).map fun p => D.tup [p.1, p.2]
def lst1 (ds : List D) (Q : List D → Prop) : Prop := match ds with
  | [d] => lstOr d Q
  | _ => False
def wiEnum (wa : WA) : WI := fun ρ μ Q Xd => wa ρ μ (fun ds μ1 => lst1 ds fun es => Q (enumD es) μ1) Xd
def zip2 (ds : List D) (Q : List D → Prop) : Prop := match ds with
  | [a, b] => match a, b with
    | .tup xs, .tup ys => Q (zipD xs ys)
    | .lst xs, .lst ys => Q (zipD xs ys)
    | .frl xs, .lst ys => Q (zipD xs ys)
    | .lst xs, .frl ys => Q (zipD xs ys)
    | _, _ => False
  | _ => False
def wiZip (wa : WA) : WI := fun ρ μ Q Xd => wa ρ μ (fun ds μ1 => zip2 ds fun es => Q es μ1) Xd
theorem itok_list {G : Gx} {m : List Addr} {E : Hp} {a : Addr} {vs : List V} {ds : List D} (s : SqL G.K E a vs) (r : Reps G m E ds vs) : ItOk G (Itl G.K a) m E ds := by
  refine ⟨fun i H hi hs => ?_, fun H hs => ⟨vs, Same.seq hs s, by rw [r.len]; exact Nat.le_refl _⟩, fun i H x H3 hi hs y => ?_⟩
  · obtain ⟨v, e, _⟩ := r.get (List.getElem?_eq_getElem hi)
    exact ⟨vs, v, Same.seq hs s, e⟩
  · obtain ⟨e, y⟩ := y
    obtain ⟨d, ed, rd⟩ := r.get' (y vs (Same.seq hs s))
    exact ⟨d, ed, .inl ⟨e, rd⟩⟩
theorem itok_tup {G : Gx} {m : List Addr} {E : Hp} {a : Addr} {vs : List V} {ds : List D} (s : SqT G.K E a vs) (r : Reps G m E ds vs) : ItOk G (Itt G.K a) m E ds := by
  refine ⟨fun i H hi hs => ?_, fun H hs => ⟨vs, SqT.same hs s, by rw [r.len]; exact Nat.le_refl _⟩, fun i H x H3 hi hs y => ?_⟩
  · obtain ⟨v, e, _⟩ := r.get (List.getElem?_eq_getElem hi)
    exact ⟨vs, v, SqT.same hs s, e⟩
  · obtain ⟨e, y⟩ := y
    obtain ⟨d, ed, rd⟩ := r.get' (y vs (SqT.same hs s))
    exact ⟨d, ed, .inl ⟨e, rd⟩⟩
theorem itok_range {G : Gx} {m : List Addr} {E : Hp} {lo : Int} {n : Nat} : ItOk G (Itr lo n) m E (rangeD lo n) := by
  have hl : (rangeD lo n).length = n := by simp [rangeD]
  refine ⟨fun i H hi hs => ?_, fun H hs => ?_, fun i H x H3 hi hs y => ?_⟩
  · rw [hl] at hi; exact hi
  · rw [hl]; exact Nat.le_refl _
  · rw [hl] at hi
    obtain ⟨e, ex⟩ := y
    refine ⟨.int (lo + i), ?_, .inl ⟨e, by rw [Rep]; exact ex⟩⟩
    simp [rangeD, hi]
theorem itok_enum {G : Gx} {m : List Addr} {E : Hp} {a : Addr} {vs : List V} {ds : List D} (s : SqL G.K E a vs) (r : Reps G m E ds vs) : ItOk G (Ite G.K a) m E (enumD ds) := by
  have hl : (enumD ds).length = ds.length := by simp [enumD]
  refine ⟨fun i H hi hs => ?_, fun H hs => ⟨vs, Same.seq hs s, by rw [hl, r.len]; exact Nat.le_refl _⟩, fun i H x H3 hi hs y => ?_⟩
  · rw [hl] at hi
    obtain ⟨v, e, _⟩ := r.get (List.getElem?_eq_getElem hi)
    exact ⟨vs, v, Same.seq hs s, e⟩
  · obtain ⟨T, x', e, nT, eH, y⟩ := y
    obtain ⟨d, ed, rd⟩ := r.get' (y vs (Same.seq hs s))
    refine ⟨.tup [.int (i : Nat), d], ?_, .inr ⟨T, _, nT, eH, fun m' E' hp hE eT => ?_⟩⟩
    · simp only [enumD, List.getElem?_mapIdx, ed, Option.map_some]
    · rw [Rep]
      exact ⟨T, _, e, .inl (.inl eT), Reps.cons (by rw [Rep]) (Reps.cons (Rep.mono hp hE _ _ rd) Reps.nil)⟩
section
variable {ex : Option (Addr × Addr × Addr)} {W : WX} {X : Cx} {tg e : Expr} {wa : WE} {ws : WA} {p pos : Pos}
theorem di_list (h : DE ex W X e wa) : DI ex W X tg e (wiL wa) := pi_weak (pi_list h) fun σ H R q => by
  obtain ⟨Z, m, ρ, μ, Q, Xd, S, q, k, kx⟩ := q
  refine ⟨Z, m, ρ, μ, _, Xd, S, q, fun v H1 P => ?_, kx⟩
  obtain ⟨m1, d, μ1, s1, r1, q1⟩ := P
  obtain ⟨ds, a, vs, e, sq, rs, q2⟩ := lstOr_rep q1 r1
  exact ⟨a, e, ⟨vs, Same.seq vis_le sq⟩, k _ _ ⟨m1, ds, μ1, s1, itok_list (G := gx X ex) sq rs, q2⟩⟩
theorem di_tup (h : DE ex W X e wa) : DI ex W X tg e (wiT wa) := pi_weak (pi_tup h) fun σ H R q => by
  obtain ⟨Z, m, ρ, μ, Q, Xd, S, q, k, kx⟩ := q
  refine ⟨Z, m, ρ, μ, _, Xd, S, q, fun v H1 P => ?_, kx⟩
  obtain ⟨m1, d, μ1, s1, r1, q1⟩ := P
  obtain ⟨ds, rfl, q2⟩ := tupOr_of q1
  rw [Rep] at r1
  obtain ⟨a, vs, e, sq, rs⟩ := r1
  exact ⟨a, e, ⟨vs, SqT.same vis_le sq⟩, k _ _ ⟨m1, ds, μ1, s1, itok_tup (G := gx X ex) sq rs, q2⟩⟩
theorem di_range1 (hg : Gl X "range") (hm : X.mg "range" = none) (ha : DA ex W X [e] ws) (hs : starEach [e] X.env = [(false, eval e X.env)] := by rfl) : DI ex W X tg (.Call (.Name "range" p) [e] [] pos) (wiR1 ws) := pi_weak (pi_range1 hg hm ha hs) fun σ H R q => by
  obtain ⟨Z, m, ρ, μ, Q, Xd, S, q, k, kx⟩ := q
  refine ⟨Z, m, ρ, μ, _, Xd, S, q, fun vs H1 P => ?_, kx⟩
  obtain ⟨m1, ds, μ1, s1, r1, q1⟩ := P
  obtain ⟨j, rfl, h1, h2, q2⟩ := rg1_of q1
  obtain ⟨v, t, rfl, r2, r3⟩ := r1.uncons
  rw [Reps] at r3
  rw [Rep] at r2
  subst r2 r3
  exact ⟨j, rfl, h1, h2, k _ _ ⟨m1, _, μ1, s1, itok_range, q2⟩⟩
theorem di_range2 {e2 : Expr} (hg : Gl X "range") (hm : X.mg "range" = none) (ha : DA ex W X [e, e2] ws) (hs : starEach [e, e2] X.env = [(false, eval e X.env), (false, eval e2 X.env)] := by rfl) (hs2 : starEach [e2] X.env = [(false, eval e2 X.env)] := by rfl) :
    DI ex W X tg (.Call (.Name "range" p) [e, e2] [] pos) (wiR2 ws) := pi_weak (pi_range2 hg hm ha hs hs2) fun σ H R q => by
  obtain ⟨Z, m, ρ, μ, Q, Xd, S, q, k, kx⟩ := q
  refine ⟨Z, m, ρ, μ, _, Xd, S, q, fun vs H1 P => ?_, kx⟩
  obtain ⟨m1, ds, μ1, s1, r1, q1⟩ := P
  obtain ⟨i, j, rfl, h1, q2⟩ := rg2_of q1
  obtain ⟨v, t, rfl, r2, r3⟩ := r1.uncons
  obtain ⟨v', t', rfl, r4, r5⟩ := r3.uncons
  rw [Reps] at r5
  rw [Rep] at r2
  rw [Rep] at r4
  subst r2 r4 r5
  exact ⟨i, j, rfl, h1, k _ _ ⟨m1, _, μ1, s1, itok_range, q2⟩⟩
theorem lst_rep' {G : Gx} {m : List Addr} {E : Hp} {d : D} {ds : List D} {u : V} (h : d = .lst ds ∨ d = .frl ds) (r : Rep G m E d u) : ∃ a vs, u = .ref a ∧ SqL G.K E a vs ∧ Reps G m E ds vs := by
  obtain ⟨es, a, vs, h1, h2, h3, h4⟩ := lstOr_rep (Q := fun es => es = ds) (by rcases h with e | e <;> (subst e; rfl)) r
  exact ⟨a, vs, h1, h2, h4 ▸ h3⟩
end
/-! ### a list of the def's own, walked while it stands -/
def ownL (o : Option Sl) (k : List D → Prop) : Prop := match o with
  | some (.own _ (.lst ds)) => k ds
  | _ => False
theorem ownL_of {o : Option Sl} {k : List D → Prop} (h : ownL o k) : ∃ p ds, o = some (.own p (.lst ds)) ∧ k ds := by
  unfold ownL at h
  split at h
  · exact ⟨_, _, rfl, h⟩
  · exact h.elim
def wiOwn (i : Nat) : WI := fun ρ μ Q _ => ownL (ρ[i]?) fun ds => Q ds μ
theorem itokF_own {G : Gx} {m : List Addr} {E : Hp} {a : Addr} {vs : List V} {ds : List D} (r : Reps G m E ds vs) : ItOkF G (Itl G.K a) m E (fun H => H a = some (.lst vs)) ds := by
  refine ⟨fun i H hi hs hf => ?_, fun H hs hf => ⟨vs, .inl (.inl hf), by rw [r.len]; exact Nat.le_refl _⟩, fun i H x H3 hi hs hf y => ?_⟩
  · obtain ⟨v, e, _⟩ := r.get (List.getElem?_eq_getElem hi)
    exact ⟨vs, v, .inl (.inl hf), e⟩
  · obtain ⟨e, y⟩ := y
    obtain ⟨d, ed, rd⟩ := r.get' (y vs (.inl (.inl hf)))
    exact ⟨d, ed, .inl ⟨e, rd⟩⟩
/-! ### for -/
def forL (g : WG) (b : WS) (E : DEnds) : List D → DS → Mu → Prop
  | [], ρ, μ => E.nx ρ μ
  | d :: ds, ρ, μ => g d ρ μ fun ρ1 μ1 => b { E with nx := forL g b E ds, ct := forL g b E ds, bk := E.nx } ρ1 μ1
def sFor (wi : WI) (g : WG) (b : WS) : WS := fun E ρ μ => wi ρ μ (fun ds μ1 => forL g b E ds ρ μ1) fun c ks es μ' => E.xc c ks es ρ μ'
theorem SR.laid {G : Gx} {Z : Addr → Prop} {m : List Addr} {σ : L2.St} {H : Hp} {ρ : DS} {μ : Mu} (S : SR G Z m σ H ρ μ) {p : Addr} {o : HO} (np : H p = none) : SR G Z m σ (upd H p o) ρ μ ∧ SStep G Z m σ ρ H m σ ρ (upd H p o) :=
  ⟨S.step (Step.laid S.mu np), SStep.of (μ' := μ) (Step.laid S.mu np)⟩
theorem forL_cons {g : WG} {b : WS} {E : DEnds} {ds : List D} {i : Nat} {d : D} {ρ : DS} {μ : Mu} (hd : ds[i]? = some d) (h : forL g b E (ds.drop i) ρ μ) :
    g d ρ μ fun ρ1 μ1 => b { E with nx := forL g b E (ds.drop (i + 1)), ct := forL g b E (ds.drop (i + 1)), bk := E.nx } ρ1 μ1 := by
  obtain ⟨hi, e⟩ := List.getElem?_eq_some_iff.mp hd
  rw [List.drop_eq_getElem_cons hi, forL, e] at h
  exact h
section
variable {ex : Option (Addr × Addr × Addr)} {W : WX} {X : Cx} {tg iter : Expr} {body : List Stmt} {wi : WI} {g : WG} {b : WS} {pos : Pos}
theorem ds_for (hp : PassesOwn (model X.prog X.w) X.A X.env X.xe) (hc : X.calm = true) (hi : DI ex W X tg iter wi) (hg : DG ex X tg g) (hb : DSs ex W X body b) (hs : ∀ x, foldedSetIterable iter X.env x = pure x := by intro _; rfl) :
    DSt ex W X (.For tg iter body [] pos) (sFor wi g b) := ps_weak (ps_for hp hc hi hg hb hs) fun De σ H q => by
  obtain ⟨Z, m, ρ, μ, E, S, q, kn, kr, kb, kc, kx⟩ := q
  refine ⟨Z, m, ρ, μ, _, _, S, q, fun J H1 P => ?_, fun cls d H' P => kx cls d σ H' (XSPost.of S P)⟩
  obtain ⟨m1, ds, μ1, s1, ok, q1⟩ := P
  have t1 : SStep (gx X ex) Z m σ ρ H m1 σ ρ H1 := SStep.of s1
  refine ⟨fun i n σ' H' => n = ds.length - i ∧ i ≤ ds.length ∧ ∃ m' ρ' μ', SR (gx X ex) Z m' σ' H' ρ' μ' ∧ SStep (gx X ex) Z m1 σ ρ H1 m' σ' ρ' H' ∧ forL g b E (ds.drop i) ρ' μ', ⟨_, rfl, Nat.zero_le _, m1, ρ, μ1, S.step s1, .refl, q1⟩, ?_⟩
  rintro i n σ' H' ⟨rfl, hle, m', ρ', μ', S', s', q'⟩
  have vis' : Same (vis (ownW Z σ ρ) m1 H1) H' := s'.same.trans vis_le
  by_cases hlt : i < ds.length
  · refine .inr ⟨ok.go i H' hlt vis', fun σ2 H2 => ∃ m2 ρ2 μ2, SR (gx X ex) Z m2 σ2 H2 ρ2 μ2 ∧ SStep (gx X ex) Z m1 σ ρ H1 m2 σ2 ρ2 H2 ∧ forL g b E (ds.drop (i + 1)) ρ2 μ2,
      fun σ2 H2 ⟨m2, ρ2, μ2, S2, s2, q2⟩ => ⟨_, (by omega : ds.length - (i + 1) < ds.length - i), rfl, hlt, m2, ρ2, μ2, S2, s2, q2⟩, fun x H3 y => ?_⟩
    obtain ⟨d, ed, hy⟩ := ok.yld i H' x H3 hlt vis' y
    have q2 := forL_cons ed q'
    have : ∃ S3 : SR (gx X ex) Z m' σ' H3 ρ' μ', SStep (gx X ex) Z m1 σ ρ H1 m' σ' ρ' H3 ∧ Rep (gx X ex) m' (vis (ownW Z σ' ρ') m' H3) d x := by
      rcases hy with ⟨rfl, rd⟩ | ⟨T, o, nT, rfl, rd⟩
      · exact ⟨S', s', Rep.mono s'.pre s'.same _ _ rd⟩
      · obtain ⟨S3, s3⟩ := S'.laid (o := o) nT
        exact ⟨S3, s'.trans s3, rd _ _ s'.pre (s'.trans s3).same (by rw [vis_upd S'.mu nT, upd_same])⟩
    obtain ⟨S3, s3, rd⟩ := this
    refine ⟨Z, m', ρ', μ', d, _, S3, rd, q2, fun σ4 H4 P => ?_⟩
    obtain ⟨m4, ρ4, μ4, S4, s4, q4⟩ := P
    have t4 := s3.trans s4
    refine ⟨Z, m4, ρ4, μ4, _, S4, q4, fun σ5 H5 P => ?_, fun v H5 P => kr v H5 (RPost.from (t1.trans t4) P), fun σ5 H5 P => kn σ5 H5 (SPost.from (t1.trans t4) P), fun σ5 H5 P => ?_, fun cls d σ5 H5 P => kx cls d σ5 H5 (XSPost.from (t1.trans t4) P)⟩
    · obtain ⟨m5, ρ5, μ5, S5, s5, q5⟩ := P
      exact ⟨m5, ρ5, μ5, S5, t4.trans s5, q5⟩
    · obtain ⟨m5, ρ5, μ5, S5, s5, q5⟩ := P
      exact ⟨m5, ρ5, μ5, S5, t4.trans s5, q5⟩
  · have e : i = ds.length := by omega
    subst e
    refine .inl ⟨ok.stop H' vis', kn σ' H' ⟨m', ρ', μ', S', t1.trans s', ?_⟩⟩
    rw [List.drop_length, forL] at q'
    exact q'
/-! ### while -/
def whileL (c : WT) (b : WS) (E : DEnds) : Nat → DS → Mu → Prop
  | 0, _, _ => False
  | n + 1, ρ, μ => c ρ μ (fun k μ1 => if k = true then b { E with nx := whileL c b E n, ct := whileL c b E n, bk := E.nx } ρ μ1 else E.nx ρ μ1) fun c ks es μ' => E.xc c ks es ρ μ'
def sWhile (c : WT) (b : WS) : WS := fun E ρ μ => ∃ n, whileL c b E n ρ μ
theorem ds_while {c : Expr} {t : WT} (hp : PassesOwn (model X.prog X.w) X.A X.env X.xe) (hc : DT ex W X c t) (hb : DSs ex W X body b) : DSt ex W X (.While c body [] pos) (sWhile t b) := ps_weak (ps_while hp hc hb) fun De σ H q => by
  obtain ⟨Z, m, ρ, μ, E, S, ⟨n, q⟩, kn, kr, kb, kc, kx⟩ := q
  refine ⟨fun n σ' H' => ∃ m' ρ' μ', SR (gx X ex) Z m' σ' H' ρ' μ' ∧ SStep (gx X ex) Z m σ ρ H m' σ' ρ' H' ∧ whileL t b E n ρ' μ', ⟨n, m, ρ, μ, S, .refl, q⟩, ?_⟩
  rintro n σ' H' ⟨m', ρ', μ', S', s', q'⟩
  cases n with
  | zero => exact q'.elim
  | succ n =>
    refine ⟨Z, m', ρ', μ', _, _, S', q', fun k H1 P => ?_, fun cls d H1 P => kx cls d σ' H1 (XSPost.from s' (XSPost.of S' P))⟩
    obtain ⟨m1, μ1, s1, q1⟩ := P
    have t1 := s'.trans (SStep.of s1)
    cases k with
    | true =>
      rw [if_pos rfl] at q1 ⊢
      refine ⟨fun σ2 H2 => ∃ m2 ρ2 μ2, SR (gx X ex) Z m2 σ2 H2 ρ2 μ2 ∧ SStep (gx X ex) Z m σ ρ H m2 σ2 ρ2 H2 ∧ whileL t b E n ρ2 μ2, fun σ2 H2 h2 => ⟨n, Nat.lt_succ_self _, h2⟩, ?_⟩
      refine ⟨Z, m1, ρ', μ1, _, S'.step s1, q1, fun σ5 H5 P => ?_, fun v H5 P => kr v H5 (RPost.from t1 P), fun σ5 H5 P => kn σ5 H5 (SPost.from t1 P), fun σ5 H5 P => ?_, fun cls d σ5 H5 P => kx cls d σ5 H5 (XSPost.from t1 P)⟩
      · obtain ⟨m5, ρ5, μ5, S5, s5, q5⟩ := P
        exact ⟨m5, ρ5, μ5, S5, t1.trans s5, q5⟩
      · obtain ⟨m5, ρ5, μ5, S5, s5, q5⟩ := P
        exact ⟨m5, ρ5, μ5, S5, t1.trans s5, q5⟩
    | false =>
      rw [if_neg Bool.false_ne_true] at q1 ⊢
      exact kn σ' H1 ⟨m1, ρ', μ1, S'.step s1, t1, q1⟩
end
end DL

set_option Elab.async false
set_option linter.all false
set_option maxRecDepth 100000
set_option maxHeartbeats 4000000
set_option autoImplicit false
namespace DL
open PySem PySem.Spec PyProof.Rows L2
/-! ### comprehensions -/
def wipeD (ρ : DS) : List Nat → DS
  | [] => ρ
  | v :: vs => (wipeD ρ vs).set v .no
theorem wipeD_len (ρ : DS) : ∀ vs, (wipeD ρ vs).length = ρ.length
  | [] => rfl
  | v :: vs => by rw [wipeD, List.length_set, wipeD_len]
theorem wipeD_get {ρ : DS} {i : Nat} {x : Sl} (hx : x ≠ .no) : ∀ {vs : List Nat}, (wipeD ρ vs)[i]? = some x → ρ[i]? = some x ∧ i ∉ vs
  | [], h => ⟨h, by simp⟩
  | v :: vs, h => by
    rw [wipeD] at h
    by_cases hv : v = i
    · subst hv
      rw [List.getElem?_set] at h
      simp at h
      exact absurd h.2.symm hx
    · rw [List.getElem?_set_ne hv] at h
      obtain ⟨h1, h2⟩ := wipeD_get hx h
      exact ⟨h1, by simp [h2, Ne.symm hv]⟩
theorem wipe_get {σ : L2.St} {i : Nat} : ∀ {vs : List Nat}, i ∉ vs → (wipe σ vs)[i]? = σ[i]?
  | [], _ => rfl
  | v :: vs, h => by
    rw [wipe, List.getElem?_set_ne (fun e => h (by simp [e]))]
    exact wipe_get fun q => h (by simp [q])
/-- no slot at vs is a list that is being filled -/
def noOwn (ρ : DS) (vs : List Nat) : Prop := ∀ v ∈ vs, ∀ a ds, ρ[v]? ≠ some (.own a ds)
theorem own_wipe {Z : Addr → Prop} {σ : L2.St} {ρ : DS} {vs : List Nat} {b : Addr} (h : ownW Z (wipe σ vs) (wipeD ρ vs) b) : ownW Z σ ρ b := by
  rcases h with h | ⟨i, ds, e1⟩
  · exact .inl h
  · obtain ⟨e3, e4⟩ := wipeD_get (by intro z; cases z) e1
    exact .inr ⟨i, ds, e3⟩
theorem own_wipe' {Z : Addr → Prop} {σ : L2.St} {ρ : DS} {vs : List Nat} (no : noOwn ρ vs) : ownW Z (wipe σ vs) (wipeD ρ vs) = ownW Z σ ρ := by
  funext b
  refine propext ⟨own_wipe, fun h => ?_⟩
  rcases h with h | ⟨i, ds, e1⟩
  · exact .inl h
  · have hi : i ∉ vs := fun q => no i q b ds e1
    refine .inr ⟨i, ds, ?_⟩
    have : ∀ {l : List Nat}, i ∉ l → (wipeD ρ l)[i]? = ρ[i]? := by
      intro l
      induction l with
      | nil => intro _; rfl
      | cons v l ih =>
        intro hv
        rw [wipeD, List.getElem?_set_ne (fun e => hv (by simp [e]))]
        exact ih fun q => hv (by simp [q])
    rw [this hi]; exact e1
/-- hiding one thing more -/
def addZ (Z : Addr → Prop) (D : Addr) : Addr → Prop := fun b => Z b ∨ b = D
theorem own_add {Z : Addr → Prop} {D : Addr} {σ : L2.St} {ρ : DS} : ownW (addZ Z D) σ ρ = addZ (ownW Z σ ρ) D := by
  funext b
  apply propext
  unfold ownW addZ
  constructor
  · rintro ((h | h) | h)
    · exact .inl (.inl h)
    · exact .inr h
    · exact .inl (.inr h)
  · rintro ((h | h) | h)
    · exact .inl (.inl h)
    · exact .inr h
    · exact .inl (.inr h)
theorem SR.wiped {G : Gx} {Z : Addr → Prop} {m : List Addr} {σ : L2.St} {H : Hp} {ρ : DS} {μ : Mu} (S : SR G Z m σ H ρ μ) {vs : List Nat} (no : noOwn ρ vs) : SR G Z m (wipe σ vs) H (wipeD ρ vs) μ := by
  refine ⟨by rw [wipeD_len, wipe_length]; exact S.len, by rw [own_wipe' no]; exact S.mu, fun i d e => ?_, fun i a ds e => ?_, fun i j a ds es e1 e2 => ?_, fun i c ks ds e => ?_⟩
  · obtain ⟨e1, e2⟩ := wipeD_get (by intro z; cases z) e
    obtain ⟨v, h1, h2⟩ := S.val i d e1
    exact ⟨v, by rw [wipe_get e2]; exact h1, by rw [own_wipe' no]; exact h2⟩
  · obtain ⟨e1, e2⟩ := wipeD_get (by intro z; cases z) e
    obtain ⟨h1, h2, h4⟩ := S.own i a ds e1
    exact ⟨by rw [wipe_get e2]; exact h1, h2, by rw [own_wipe' no]; exact h4⟩
  · obtain ⟨h1, h2⟩ := wipeD_get (by intro z; cases z) e1
    obtain ⟨h3, h4⟩ := wipeD_get (by intro z; cases z) e2
    exact S.dis i j a ds es h1 h3
  · obtain ⟨e1, e2⟩ := wipeD_get (by intro z; cases z) e
    rw [wipe_get e2, own_wipe' no]
    exact S.exn i c ks ds e1
/-- the new list is hidden: it is in nobody's sight -/
theorem MuOk.hide {G : Gx} {Z : Addr → Prop} {m : List Addr} {μ : Mu} {H : Hp} (M : MuOk G Z m μ H) {D : Addr} {o : HO} (nD : H D = none) : MuOk G (addZ Z D) m μ (upd H D o) ∧ Same (vis Z m H) (vis (addZ Z D) m (upd H D o)) := by
  obtain ⟨h1, h2⟩ := M.fresh nD
  have sm : Same (vis Z m H) (vis (addZ Z D) m (upd H D o)) := fun b x e => by
    obtain ⟨z1, z2, z3⟩ := vis_some.mp e
    have hb : b ≠ D := fun q => by rw [q, nD] at z3; cases z3
    exact vis_some.mpr ⟨fun q => q.elim z1 hb, z2, by rw [upd_ne hb]; exact z3⟩
  refine ⟨⟨M.len, M.nd, fun a ha q => q.elim (M.out a ha) fun e => h2 (e ▸ ha), fun z hz => ?_, fun n c a hc ha => ?_⟩, sm⟩
  · rcases hz with hz | hz
    · by_cases e : z = D
      · rw [e, upd_same]; intro q; cases q
      · rw [upd_ne e]; exact M.hw z hz
    · rw [hz, upd_same]; intro q; cases q
  · have hb : a ≠ D := fun e => h2 (e ▸ List.mem_of_getElem? ha)
    exact (M.cell n c a hc ha).keep (List.prefix_refl _) sm (upd_ne hb)
theorem vis_hidden {Z : Addr → Prop} {m : List Addr} {H : Hp} {D : Addr} {o : HO} : vis (addZ Z D) m (upd H D o) = vis (addZ Z D) m H := by
  funext b
  unfold vis
  by_cases hb : b = D
  · rw [if_pos (.inl (.inr hb)), if_pos (.inl (.inr hb))]
  · rw [upd_ne hb]
/-- a hidden thing is written -/
theorem MuOk.hid {G : Gx} {Z : Addr → Prop} {m : List Addr} {μ : Mu} {H : Hp} {D : Addr} {o : HO} (M : MuOk G (addZ Z D) m μ H) : MuOk G (addZ Z D) m μ (upd H D o) := by
  refine ⟨M.len, M.nd, M.out, fun z hz => ?_, fun n c a hc ha => ?_⟩
  · by_cases e : z = D
    · rw [e, upd_same]; intro q; cases q
    · rw [upd_ne e]; exact M.hw z hz
  · have hb : a ≠ D := fun e => M.out a (List.mem_of_getElem? ha) (.inr e)
    rw [vis_hidden]
    exact (M.cell n c a hc ha).keep (List.prefix_refl _) (Same.refl _) (upd_ne hb)
theorem SR.hid {G : Gx} {Z : Addr → Prop} {m : List Addr} {σ : L2.St} {H : Hp} {ρ : DS} {μ : Mu} {D : Addr} {o : HO} (S : SR G (addZ Z D) m σ H ρ μ) : SR G (addZ Z D) m σ (upd H D o) ρ μ := by
  have e := own_add (Z := Z) (D := D) (σ := σ) (ρ := ρ)
  refine ⟨S.len, ?_, fun i d h => ?_, fun i a ds h => ?_, S.dis, fun i c ks ds h => ?_⟩
  · rw [e]; exact MuOk.hid (e ▸ S.mu)
  · obtain ⟨v, h1, h2⟩ := S.val i d h
    rw [e] at h2
    exact ⟨v, h1, by rw [e, vis_hidden]; exact h2⟩
  · obtain ⟨h1, h2, h4⟩ := S.own i a ds h
    rw [e] at h4
    exact ⟨h1, h2, by rw [e, vis_hidden]; exact h4.keep (List.prefix_refl _) (Same.refl _) (upd_ne (fun q => h2 (.inr q)))⟩
  · have z := S.exn i c ks ds h
    rw [e] at z ⊢
    rw [vis_hidden]
    exact z
/-- a comprehension's target: what it does to the slots -/
def LcG (G : Gx) (vs : List Nat) (g : TG) (k : WG) : Prop := ∀ (Z : Addr → Prop) (m : List Addr) (μ : Mu) (σ : L2.St) (H : Hp) (ρ : DS) (d : D) (v : V) (Q : DS → Mu → Prop) (R : L2.St → Hp → Prop),
  SR G Z m σ H ρ μ → Rep G m (vis (ownW Z σ ρ) m H) d v → k d ρ μ Q → (∀ σ' ρ', SR G Z m σ' H ρ' μ → ownW Z σ' ρ' = ownW Z σ ρ → wipe σ' vs = wipe σ vs → Q ρ' μ → R σ' H) → g v σ H R
theorem wipe_set {σ : L2.St} {i : Nat} {x : Option V} : ∀ {vs : List Nat}, i ∈ vs → wipe (σ.set i x) vs = wipe σ vs
  | v :: vs, h => by
    rw [wipe, wipe]
    by_cases hi : i ∈ vs
    · rw [wipe_set hi]
    · have e : v = i := by simpa [hi, eq_comm] using h
      subst e
      have : ∀ {l : List Nat}, v ∉ l → wipe (σ.set v x) l = (wipe σ l).set v x := by
        intro l
        induction l with
        | nil => intro _; rfl
        | cons u l ih =>
          intro hu
          rw [wipe, wipe, ih fun q => hu (by simp [q]), List.set_comm _ _ (fun q => hu (by simp [q]))]
      rw [this hi, List.set_set]
theorem own_set_no {Z : Addr → Prop} {σ : L2.St} {ρ : DS} {i : Nat} {v : V} {d : D} (h : ∀ a ds, ρ[i]? ≠ some (.own a ds)) : ownW Z (σ.set i (some v)) (ρ.set i (.v d)) = ownW Z σ ρ := by
  funext b
  refine propext ⟨own_set, fun q => ?_⟩
  rcases q with q | ⟨j, ds, e1⟩
  · exact .inl q
  · have hj : i ≠ j := fun e => h b ds (e ▸ e1)
    exact .inr ⟨j, ds, by rw [List.getElem?_set_ne hj]; exact e1⟩
/-- a slot that is not being filled: checked where it is stored -/
def notOwn (ρ : DS) (i : Nat) : Prop := match ρ[i]? with
  | some (.own _ _) => False
  | _ => True
theorem notOwn_of {ρ : DS} {i : Nat} (h : notOwn ρ i) : ∀ a ds, ρ[i]? ≠ some (.own a ds) := fun a ds e => by
  unfold notOwn at h
  rw [e] at h
  exact h
def kNameC (i : Nat) : WG := fun d ρ μ Q => notOwn ρ i ∧ Q (ρ.set i (.v d)) μ
theorem lcg_name {G : Gx} {vs : List Nat} {i : Nat} (hi : i ∈ vs) : LcG G vs (gName i) (kNameC i) := by
  intro Z m μ σ H ρ d v Q R S r q k
  obtain ⟨no, q⟩ := q
  have no := notOwn_of no
  obtain ⟨S1, s1⟩ := S.set (i := i) r
  exact k _ _ S1 (own_set_no no) (wipe_set hi) q
def LcGs (G : Gx) (vs : List Nat) (g : TGs) (k : WGs) : Prop := ∀ (Z : Addr → Prop) (m : List Addr) (μ : Mu) (σ : L2.St) (H : Hp) (ρ : DS) (ds : List D) (us : List V) (Q : DS → Mu → Prop) (R : L2.St → Hp → Prop),
  SR G Z m σ H ρ μ → Reps G m (vis (ownW Z σ ρ) m H) ds us → k ds ρ μ Q → (∀ σ' ρ', SR G Z m σ' H ρ' μ → ownW Z σ' ρ' = ownW Z σ ρ → wipe σ' vs = wipe σ vs → Q ρ' μ → R σ' H) → g us σ H R
theorem lcgs_nil {G : Gx} {vs : List Nat} : LcGs G vs gNil kNil := by
  intro Z m μ σ H ρ ds us Q R S r q k
  cases ds with
  | nil => rw [Reps] at r; exact ⟨r, k _ _ S rfl rfl q⟩
  | cons d ds => exact q.elim
theorem lcgs_cons {G : Gx} {vs : List Nat} {g : TG} {k : WG} {gs : TGs} {ks : WGs} (h1 : LcG G vs g k) (h2 : LcGs G vs gs ks) : LcGs G vs (gCons g gs) (kCons k ks) := by
  intro Z m μ σ H ρ ds us Q R S r q kk
  cases ds with
  | nil => exact q.elim
  | cons d ds =>
    obtain ⟨v, vr, rfl, r1, r2⟩ := r.uncons
    refine ⟨v, vr, rfl, h1 Z m μ σ H ρ d v _ _ S r1 q fun σ' ρ' S' ow e q' => ?_⟩
    exact h2 Z m μ σ' H ρ' ds vr Q R S' (by rw [ow]; exact r2) q' fun σ2 ρ2 S2 ow2 e2 q2 => kk σ2 ρ2 S2 (ow2.trans ow) (e2.trans e) q2
theorem lcg_tup {G : Gx} {vs : List Nat} {n : Nat} {gs : TGs} {ks : WGs} (h : LcGs G vs gs ks) : LcG G vs (gTup G.K n gs) (kTup n ks) := by
  intro Z m μ σ H ρ d v Q R S r q k
  cases d with
  | tup ds =>
    obtain ⟨hl, q⟩ := q
    rw [Rep] at r
    obtain ⟨a, us, e1, st, rs⟩ := r
    exact ⟨a, us, e1, SqT.same vis_le st, by rw [← rs.len]; exact hl, h Z m μ σ H ρ ds us Q R S rs q k⟩
  | _ => exact q.elim
theorem wipe_at {σ : L2.St} {i : Nat} : ∀ {vs : List Nat}, i ∈ vs → (wipe σ vs).set i none = wipe σ vs
  | v :: vs, h => by
    by_cases e : v = i
    · subst e; rw [wipe, List.set_set]
    · have hi : i ∈ vs := by
        rcases List.mem_cons.mp h with q | q
        · exact absurd q.symm e
        · exact q
      rw [wipe, List.set_comm _ _ e, wipe_at hi]
theorem wipe_sub {σ : L2.St} {vs : List Nat} : ∀ {us : List Nat}, (∀ u ∈ us, u ∈ vs) → wipe (wipe σ vs) us = wipe σ vs
  | [], _ => rfl
  | u :: us, h => by rw [wipe, wipe_sub fun x hx => h x (by simp [hx]), wipe_at (h u (by simp))]
theorem wipe_wipe (σ : L2.St) (vs : List Nat) : wipe (wipe σ vs) vs = wipe σ vs := wipe_sub fun _ h => h
def WF : WX := fun _ _ _ _ => False
def xF : XD := fun _ _ _ _ => False
def lcL (g : WG) (tt : WT) (te : WE) (ρw : DS) : List D → List D → Mu → (D → Mu → Prop) → Prop
  | [], acc, μ, Q => Q (.lst acc) μ
  | d :: ds, acc, μ, Q => g d ρw μ fun ρ2 μ2 => tt ρ2 μ2 (fun b μ3 => if b = true then te ρ2 μ3 (fun y μ4 => acc.length < 1000000 ∧ lcL g tt te ρw ds (acc ++ [y]) μ4 Q) xF else lcL g tt te ρw ds acc μ3 Q) xF
def wLc (wi : WI) (g : WG) (tt : WT) (te : WE) (vs : List Nat) : WE := fun ρ μ Q Xd => wi ρ μ (fun ds μ1 => (∀ v ∈ vs, notOwn ρ v) ∧ lcL g tt te (wipeD ρ vs) ds [] μ1 Q) Xd
theorem xpF {G : Gx} {Z : Addr → Prop} {m : List Addr} {H H' : Hp} {cls : Value} {d : Option Addr} (p : XPost G Z m H xF cls d H') : False := by
  obtain ⟨_, _, _, _, _, _, _, _, _, _, _, _, _, _, _, q⟩ := p
  exact q
abbrev DTs (X : Cx) (ifs : List Expr) (w : WT) : Prop := PTs X ifs (liftT (gx X none) WF w)
def wYes : WT := fun _ μ Q _ => Q true μ
theorem pts_weak {X : Cx} {es : List Expr} {t t' : TT} (h : PTs X es t) (k : ∀ σ H Q, t' σ H Q → t σ H Q) : PTs X es t' := ⟨fun pins s σ H Q I q => h.run pins s σ H Q I (k σ H Q q)⟩
theorem dts_nil {X : Cx} : DTs X [] wYes := pts_weak pts_nil fun σ H Q' q => by
  obtain ⟨Z, m, ρ, μ, Q, Xd, S, q, k, kx⟩ := q
  exact k true H ⟨m, μ, .refl S.mu, q⟩
theorem lift_lc {G : Gx} {W : WX} {wi : WI} {g : TG} {k : WG} {tt : WT} {te : WE} {vs : List Nat} (hg : LcG G vs g k) {σ : L2.St} {H : Hp} {Q' : VK} (q : lift G W (wLc wi k tt te vs) σ H Q') :
    tLc (liftIF G W wi) g (liftT G WF tt) (lift G WF te) vs σ H Q' := by
  obtain ⟨Z, m, ρ, μ, Q, Xd, S, q, kq, kx⟩ := q
  refine ⟨Z, m, ρ, μ, _, Xd, S, q, fun J H1 P => ?_, kx⟩
  obtain ⟨m1, ds, μ1, F, s1, hF, ok, no', q1⟩ := P
  have no : noOwn ρ vs := fun v hv a ds => notOwn_of (no' v hv) a ds
  intro D nD
  have S1 := S.step s1
  have E0 := own_wipe' (Z := Z) (σ := σ) (ρ := ρ) (vs := vs) no
  have Sw := S1.wiped (vs := vs) no
  obtain ⟨Mh, sh⟩ := MuOk.hide (o := .lst []) S1.mu nD
  -- the state of a turn
  have base : SR G (addZ Z D) m1 (wipe σ vs) (upd H1 D (.lst [])) (wipeD ρ vs) μ1 := by
    refine ⟨Sw.len, by rw [own_add, E0]; exact Mh, fun i d e => ?_, fun i a es e => ?_, Sw.dis, fun i c ks es e => ?_⟩
    · obtain ⟨v, h1, h2⟩ := Sw.val i d e
      rw [E0] at h2
      exact ⟨v, h1, by rw [own_add, E0]; exact Rep.mono (List.prefix_refl _) sh _ _ h2⟩
    · obtain ⟨h1, h2, h4⟩ := Sw.own i a es e
      rw [E0] at h4
      have na : a ≠ D := fun z => h4.there (by rw [z, nD])
      exact ⟨h1, fun z => z.elim h2 na, by rw [own_add, E0]; exact h4.keep (List.prefix_refl _) sh (upd_ne na)⟩
    · have z := Sw.exn i c ks es e
      rw [E0] at z
      rw [own_add, E0]
      exact z.mono (List.prefix_refl _) sh
  have nDW : ¬ ownW Z σ ρ D := fun z => S1.mu.hw D z nD
  let In : List DL.D → Hp → Prop := fun rest H' => ∃ m' μ' acc us, m1 <+: m' ∧ (∀ z, ownW Z σ ρ z → H' z = H1 z) ∧ SR G (addZ Z D) m' (wipe σ vs) H' (wipeD ρ vs) μ' ∧ Same (vis (ownW Z σ ρ) m1 H1) (vis (addZ (ownW Z σ ρ) D) m' H') ∧
    H' D = some (.lst us) ∧ Reps G m' (vis (addZ (ownW Z σ ρ) D) m' H') acc us ∧ lcL k tt te (wipeD ρ vs) rest acc μ' Q
  refine ⟨fun i n H' => n = ds.length - i ∧ i ≤ ds.length ∧ In (ds.drop i) H', ⟨_, rfl, Nat.zero_le _, m1, μ1, [], [], List.prefix_refl _, fun z hz => upd_ne fun e => nDW (e ▸ hz), base, sh, upd_same, Reps.nil, q1⟩, ?_⟩
  rintro i n H' ⟨rfl, hle, m', μ', acc, us, pm, hid, S', sm, hD, ra, q'⟩
  have vis' : Same (vis (ownW Z σ ρ) m1 H1) H' := sm.trans vis_le
  by_cases hlt : i < ds.length
  · refine .inr ⟨ok.go i H' hlt vis' (hF H' hid), In (ds.drop (i + 1)), fun H2 h2 => ⟨_, (by omega : ds.length - (i + 1) < ds.length - i), rfl, hlt, h2⟩, fun x H3 y => ?_⟩
    obtain ⟨d, ed, hy⟩ := ok.yld i H' x H3 hlt vis' (hF H' hid) y
    obtain ⟨hi', ee⟩ := List.getElem?_eq_some_iff.mp ed
    rw [List.drop_eq_getElem_cons hi', lcL, ee] at q'
    have ow : ownW (addZ Z D) (wipe σ vs) (wipeD ρ vs) = addZ (ownW Z σ ρ) D := by rw [own_add, E0]
    have : SR G (addZ Z D) m' (wipe σ vs) H3 (wipeD ρ vs) μ' ∧ Same (vis (addZ (ownW Z σ ρ) D) m' H') (vis (addZ (ownW Z σ ρ) D) m' H3) ∧ (∀ z, addZ (ownW Z σ ρ) D z → H3 z = H' z) ∧ Rep G m' (vis (addZ (ownW Z σ ρ) D) m' H3) d x := by
      rcases hy with ⟨rfl, rd⟩ | ⟨T, o, nT, rfl, rd⟩
      · exact ⟨S', Same.refl _, fun _ _ => rfl, Rep.mono pm sm _ _ rd⟩
      · have st := Step.laid (o := o) S'.mu nT
        rw [ow] at st
        exact ⟨S'.step (by rw [ow]; exact st), st.same, st.hid, rd _ _ pm (sm.trans st.same) (by rw [vis_upd (ow ▸ S'.mu) nT, upd_same])⟩
    obtain ⟨S3, sm3, hid3, rd⟩ := this
    refine hg (addZ Z D) m' μ' (wipe σ vs) H3 (wipeD ρ vs) d x _ _ S3 (by rw [ow]; exact rd) q' fun σ4 ρ4 S4 ow4 ew q4 => ⟨?_, ?_⟩
    · exact ew.trans (wipe_wipe σ vs)
    · refine ⟨addZ Z D, m', ρ4, μ', _, _, S4, q4, fun b H5 P => ?_, fun cls dd H5 P => (xpF P).elim⟩
      obtain ⟨m5, μ5, s5, q5⟩ := P
      rw [ow4, ow] at s5
      have back : ∀ {m6 μ6 H6}, Step G (addZ (ownW Z σ ρ) D) m' H3 m6 μ6 H6 → SR G (addZ Z D) m6 (wipe σ vs) H6 (wipeD ρ vs) μ6 := fun {m6 μ6 H6} s6 => S3.step (by rw [ow]; exact s6)
      cases b with
      | false =>
        rw [if_neg Bool.false_ne_true] at q5 ⊢
        exact ⟨m5, μ5, acc, us, pm.trans s5.pre, fun z hz => ((s5.hid z (.inl hz)).trans (hid3 z (.inl hz))).trans (hid z hz), back s5, (sm.trans sm3).trans s5.same, ((s5.hid D (.inr rfl)).trans (hid3 D (.inr rfl))).trans hD, Reps.mono s5.pre (sm3.trans s5.same) _ _ ra, q5⟩
      | true =>
        rw [if_pos rfl] at q5 ⊢
        refine ⟨addZ Z D, m5, ρ4, μ5, _, _, S4.step (by rw [ow4, ow]; exact s5), q5, fun u H6 P => ?_, fun cls dd H6 P => (xpF P).elim⟩
        obtain ⟨m6, yd, μ6, s6, r6, hlen, q6⟩ := P
        rw [ow4, ow] at s6 r6
        have s56 := s5.trans s6
        refine ⟨us, ((s56.hid D (.inr rfl)).trans (hid3 D (.inr rfl))).trans hD, by rw [← ra.len]; exact Nat.lt_of_lt_of_le hlen (by decide), ?_⟩
        refine ⟨m6, μ6, acc ++ [yd], us ++ [u], pm.trans s56.pre, fun z hz => ?_, (back s56).hid, ?_, upd_same, ?_, q6⟩
        · have hb : z ≠ D := fun e => nDW (e ▸ hz)
          rw [upd_ne hb]
          exact ((s56.hid z (.inl hz)).trans (hid3 z (.inl hz))).trans (hid z hz)
        · rw [vis_hidden]
          exact (sm.trans sm3).trans s56.same
        · rw [vis_hidden]
          exact Reps.append (Reps.mono s56.pre (sm3.trans s56.same) _ _ ra) (Reps.cons r6 Reps.nil)
  · have e : i = ds.length := by omega
    subst e
    rw [List.drop_length, lcL] at q'
    refine .inl ⟨ok.stop H' vis' (hF H' hid), kq _ _ (VPost.from s1 ?_)⟩
    have ow : ownW (addZ Z D) (wipe σ vs) (wipeD ρ vs) = addZ (ownW Z σ ρ) D := by rw [own_add, E0]
    have M' := S'.mu
    rw [ow] at M'
    have sub : ∀ b, ownW Z σ ρ b → addZ (ownW Z σ ρ) D b := fun b h => .inl h
    refine ⟨m', .lst acc, μ', ⟨pm, hid, M'.less sub, sm.trans (vis_mono sub)⟩, ?_, q'⟩
    rw [Rep]
    exact ⟨D, us, rfl, vis_some.mpr ⟨nDW, fun z => M'.out D z (.inr rfl), hD⟩, Reps.mono (List.prefix_refl _) (vis_mono sub) _ _ ra⟩
section
variable {W : WX} {X : Cx} {elt tg iter : Expr} {ifs : List Expr} {scope : Scope} {own : List (Str × Nat)} {pos : Pos} {wi : WI} {g : TG} {k : WG} {tt : WT} {te : WE}
theorem de_lcF (hc : X.calm = true) (hN : X.N.Nodup) (hi : DIF none W X tg iter wi) (ok : BlkOk X.N X.env.scope scope own) (hk : LcG (gx X none) (own.map (·.2)) g k)
    (hg : ∀ (s : Shared) (H : Hp) (C : Addr) (cl : List (Str × Addr)) (fp : List Addr), PG (X.blk s H scope (compEnvC scope cl C X.env) fp) tg g) (ht : ∀ (s : Shared) (H : Hp) (C : Addr) (cl : List (Str × Addr)) (fp : List Addr), DTs (X.blk s H scope (compEnvC scope cl C X.env) fp) ifs tt)
    (he : ∀ (s : Shared) (H : Hp) (C : Addr) (cl : List (Str × Addr)) (fp : List Addr), DE none WF (X.blk s H scope (compEnvC scope cl C X.env) fp) elt te) (hs : ∀ x, foldedSetIterable iter X.env x = pure x := by intro _; rfl) :
    DE none W X (.ListComp elt [⟨tg, iter, ifs, 0⟩] scope pos) (wLc wi k tt te (own.map (·.2))) := pe_weak (pe_lc hc hN hi ok hg ht he hs) fun _ _ _ q => lift_lc hk q
theorem de_lc (hc : X.calm = true) (hN : X.N.Nodup) (hi : DI none W X tg iter wi) (ok : BlkOk X.N X.env.scope scope own) (hk : LcG (gx X none) (own.map (·.2)) g k)
    (hg : ∀ (s : Shared) (H : Hp) (C : Addr) (cl : List (Str × Addr)) (fp : List Addr), PG (X.blk s H scope (compEnvC scope cl C X.env) fp) tg g) (ht : ∀ (s : Shared) (H : Hp) (C : Addr) (cl : List (Str × Addr)) (fp : List Addr), DTs (X.blk s H scope (compEnvC scope cl C X.env) fp) ifs tt)
    (he : ∀ (s : Shared) (H : Hp) (C : Addr) (cl : List (Str × Addr)) (fp : List Addr), DE none WF (X.blk s H scope (compEnvC scope cl C X.env) fp) elt te) (hs : ∀ x, foldedSetIterable iter X.env x = pure x := by intro _; rfl) :
    DE none W X (.ListComp elt [⟨tg, iter, ifs, 0⟩] scope pos) (wLc wi k tt te (own.map (·.2))) := de_lcF hc hN hi.toF ok hk hg ht he hs
theorem ds_setLcF {i : Nat} {y : Str} {py spos : Pos} (hc : X.calm = true) (hN : X.N.Nodup) (hy : X.N[i]? = some y) (hsw : swapsWith (.ListComp elt [⟨tg, iter, ifs, 0⟩] scope pos) (some (.Name y py)) spos.line X.env = pure true)
    (hi : DIF none W X tg iter wi) (ok : BlkOk X.N X.env.scope scope own) (hk : LcG (gx X none) (own.map (·.2)) g k)
    (hg : ∀ (s : Shared) (H : Hp) (C : Addr) (cl : List (Str × Addr)) (fp : List Addr), PG (X.blk s H scope (compEnvC scope cl C X.env) fp) tg g) (ht : ∀ (s : Shared) (H : Hp) (C : Addr) (cl : List (Str × Addr)) (fp : List Addr), DTs (X.blk s H scope (compEnvC scope cl C X.env) fp) ifs tt)
    (he : ∀ (s : Shared) (H : Hp) (C : Addr) (cl : List (Str × Addr)) (fp : List Addr), DE none WF (X.blk s H scope (compEnvC scope cl C X.env) fp) elt te) (hyl : X.env.scope.names.lookup y = some .local := by rfl) (hs : ∀ x, foldedSetIterable iter X.env x = pure x := by intro _; rfl) :
    DSt none W X (.Assign [.Name y py] (.ListComp elt [⟨tg, iter, ifs, 0⟩] scope pos) spos) (sSet i (wLc wi k tt te (own.map (·.2)))) := ps_weak (ps_setLc hc hN hy hyl hsw hi ok hg ht he hs) fun De σ H q => by
  obtain ⟨Z, m, ρ, μ, E, S, q, kn, kr, kb, kc, kx⟩ := q
  refine lift_lc (W := W) hk ⟨Z, m, ρ, μ, _, _, S, q, fun v H1 P => ?_, fun cls d H' P => kx cls d σ H' (XSPost.of S P)⟩
  obtain ⟨m1, d, μ1, s1, r1, q1⟩ := P
  obtain ⟨S1, s2⟩ := (S.step s1).set (i := i) r1
  exact kn _ _ ⟨m1, _, μ1, S1, (SStep.of s1).trans s2, q1⟩
theorem ds_setLc {i : Nat} {y : Str} {py spos : Pos} (hc : X.calm = true) (hN : X.N.Nodup) (hy : X.N[i]? = some y) (hsw : swapsWith (.ListComp elt [⟨tg, iter, ifs, 0⟩] scope pos) (some (.Name y py)) spos.line X.env = pure true)
    (hi : DI none W X tg iter wi) (ok : BlkOk X.N X.env.scope scope own) (hk : LcG (gx X none) (own.map (·.2)) g k)
    (hg : ∀ (s : Shared) (H : Hp) (C : Addr) (cl : List (Str × Addr)) (fp : List Addr), PG (X.blk s H scope (compEnvC scope cl C X.env) fp) tg g) (ht : ∀ (s : Shared) (H : Hp) (C : Addr) (cl : List (Str × Addr)) (fp : List Addr), DTs (X.blk s H scope (compEnvC scope cl C X.env) fp) ifs tt)
    (he : ∀ (s : Shared) (H : Hp) (C : Addr) (cl : List (Str × Addr)) (fp : List Addr), DE none WF (X.blk s H scope (compEnvC scope cl C X.env) fp) elt te) (hyl : X.env.scope.names.lookup y = some .local := by rfl) (hs : ∀ x, foldedSetIterable iter X.env x = pure x := by intro _; rfl) :
    DSt none W X (.Assign [.Name y py] (.ListComp elt [⟨tg, iter, ifs, 0⟩] scope pos) spos) (sSet i (wLc wi k tt te (own.map (·.2)))) := ds_setLcF hc hN hy hsw hi.toF ok hk hg ht he hyl hs
end
end DL

set_option Elab.async false
set_option linter.all false
set_option maxRecDepth 100000
set_option maxHeartbeats 4000000
set_option autoImplicit false
namespace DL
open PySem PySem.Spec PyProof.Rows L2
/-! ### cells made and written -/
theorem vis_cell {Z : Addr → Prop} {m : List Addr} {H : Hp} {p : Addr} {o : HO} (np : H p = none) : vis Z (m ++ [p]) (upd H p o) = vis Z m H := by
  funext b
  by_cases hb : b = p
  · subst hb
    rw [vis_none np]
    unfold vis
    rw [if_pos (.inr (by simp))]
  · unfold vis
    rw [upd_ne hb]
    by_cases h : Z b ∨ b ∈ m
    · rw [if_pos h, if_pos (h.imp id fun q => List.mem_append_left _ q)]
    · rw [if_neg h, if_neg (by simpa [hb] using h)]
theorem Step.cell {G : Gx} {Z : Addr → Prop} {m : List Addr} {μ : Mu} {H : Hp} (M : MuOk G Z m μ H) {p : Addr} {o : HO} {c : Cell} (np : H p = none) (hc : CellOk G (m ++ [p]) (vis Z m H) (upd H p o) c p) :
    Step G Z m H (m ++ [p]) (μ ++ [c]) (upd H p o) := by
  obtain ⟨h1, h2⟩ := M.fresh np
  have ev := vis_cell (Z := Z) (m := m) (o := o) np
  have pre : m <+: m ++ [p] := List.prefix_append _ _
  refine ⟨pre, fun z hz => upd_ne fun e => ?_, ⟨by simp [M.len], ?_, fun a ha => ?_, fun z hz => ?_, fun n d a hd ha => ?_⟩, by rw [ev]; exact Same.refl _⟩
  · subst e; exact M.hw z hz np
  · rw [List.nodup_append]
    refine ⟨M.nd, by simp, fun a ha b hb => ?_⟩
    rw [List.mem_singleton] at hb
    subst hb
    exact fun e => h2 (e ▸ ha)
  · rcases List.mem_append.mp ha with q | q
    · exact M.out a q
    · rw [List.mem_singleton] at q; subst q; exact h1
  · by_cases e : z = p
    · subst e; rw [upd_same]; intro q; cases q
    · rw [upd_ne e]; exact M.hw z hz
  · rw [ev]
    by_cases hn : n < m.length
    · rw [List.getElem?_append_left hn] at ha
      rw [List.getElem?_append_left (by rw [← M.len]; exact hn)] at hd
      have hb : a ≠ p := fun e => h2 (e ▸ List.mem_of_getElem? ha)
      exact (M.cell n d a hd ha).keep pre (Same.refl _) (upd_ne hb)
    · have hlt := (List.getElem?_eq_some_iff.mp ha).1
      have e : n = m.length := by simp at hlt; omega
      subst e
      rw [List.getElem?_concat_length] at ha
      rw [M.len, List.getElem?_concat_length] at hd
      cases ha
      cases hd
      exact hc
theorem vis_put {Z : Addr → Prop} {m : List Addr} {H : Hp} {a : Addr} {o : HO} (ha : a ∈ m) : vis Z m (upd H a o) = vis Z m H := by
  funext b
  unfold vis
  by_cases hb : b = a
  · subst hb
    rw [if_pos (.inr ha), if_pos (.inr ha)]
  · rw [upd_ne hb]
theorem Step.put {G : Gx} {Z : Addr → Prop} {m : List Addr} {μ : Mu} {H : Hp} (M : MuOk G Z m μ H) {n : Nat} {a : Addr} {o : HO} {c : Cell} (ha : m[n]? = some a) (hc : CellOk G m (vis Z m H) (upd H a o) c a) :
    Step G Z m H m (μ.set n c) (upd H a o) := by
  have hm := List.mem_of_getElem? ha
  have ev := vis_put (Z := Z) (H := H) (o := o) hm
  refine ⟨List.prefix_refl _, fun z hz => upd_ne fun e => M.out a hm (e ▸ hz), ⟨by rw [List.length_set]; exact M.len, M.nd, M.out, fun z hz => ?_, fun k d b hd hb => ?_⟩, by rw [ev]; exact Same.refl _⟩
  · by_cases e : z = a
    · subst e; rw [upd_same]; intro q; cases q
    · rw [upd_ne e]; exact M.hw z hz
  · rw [ev]
    by_cases hk : n = k
    · subst hk
      rw [ha] at hb
      cases hb
      have hl : n < μ.length := by rw [← M.len]; exact (List.getElem?_eq_some_iff.mp ha).1
      rw [List.getElem?_set_self hl] at hd
      cases hd
      exact hc
    · rw [List.getElem?_set_ne hk] at hd
      have hab : b ≠ a := fun e => by
        subst e
        obtain ⟨l1, e1⟩ := List.getElem?_eq_some_iff.mp ha
        obtain ⟨l2, e2⟩ := List.getElem?_eq_some_iff.mp hb
        exact hk ((List.getElem_inj M.nd).mp (e1.trans e2.symm))
      exact (M.cell k d b hd hb).keep (List.prefix_refl _) (Same.refl _) (upd_ne hab)
/-- a list display whose list is changed later: a cell -/
def wLstC (wa : WA) : WE := fun ρ μ Q Xd => wa ρ μ (fun ds μ1 => ds.length ≤ 1000 ∧ Q (.loc μ1.length) (μ1 ++ [.lst ds])) Xd
section
variable {ex : Option (Addr × Addr × Addr)} {W : WX} {X : Cx} {e o i : Expr} {es : List Expr} {wa wo wi : WE} {ws : WA} {pos : Pos}
theorem de_lstC (h : DA ex W X es ws) : DE ex W X (.List es pos) (wLstC ws) := pe_weak (pe_lst h) fun σ H Q' q => by
  obtain ⟨Z, m, ρ, μ, Q, Xd, S, q, k, kx⟩ := q
  refine ⟨Z, m, ρ, μ, _, Xd, S, q, fun vs H1 P => ?_, kx⟩
  obtain ⟨m1, ds, μ1, s1, r1, hl, q1⟩ := P
  refine ⟨by rw [← r1.len]; exact le1000 hl, fun p np => k _ _ ?_⟩
  have s2 : Step (gx X ex) (ownW Z σ ρ) m1 H1 (m1 ++ [p]) (μ1 ++ [.lst ds]) (upd H1 p (.lst vs)) := Step.cell s1.mu np ⟨vs, upd_same, Reps.mono (List.prefix_append _ _) (Same.refl _) _ _ r1⟩
  refine VPost.from s1 ⟨_, _, _, s2, ?_, q1⟩
  rw [Rep]
  exact ⟨p, rfl, by rw [← s1.mu.len]; exact List.getElem?_concat_length⟩
/-- cell[i] = d -/
def stL (o i d : D) (μ : Mu) (k : Mu → Prop) : Prop := match o, i with
  | .loc n, .int j => match μ[n]? with
    | some (.lst ds) => match ixN ds.length j with
      | some x => k (μ.set n (.lst (ds.set x d)))
      | none => False
    | _ => False
  | _, _ => False
theorem stL_of {o i d : D} {μ : Mu} {k : Mu → Prop} (h : stL o i d μ k) : ∃ n j ds x, o = .loc n ∧ i = .int j ∧ μ[n]? = some (.lst ds) ∧ ixN ds.length j = some x ∧ k (μ.set n (.lst (ds.set x d))) := by
  unfold stL at h
  split at h
  · split at h
    · split at h
      · exact ⟨_, _, _, _, rfl, rfl, by assumption, by assumption, h⟩
      · exact h.elim
    · exact h.elim
  · exact h.elim
def kSub (wo wi : WE) : WG := fun d ρ μ Q => wo ρ μ (fun x μ1 => wi ρ μ1 (fun y μ2 => stL x y d μ2 fun μ3 => Q ρ μ3) xF) xF
theorem dg_sub (ho : DE none WF X o wo) (hi : DE none WF X i wi)
    (ha : ∀ v, assign (.Subscript o i pos) X.env v = (do
      let ov ← holding [v] (eval o X.env)
      let iv ← holding [v, ov] (eval i X.env)
      standAt pos
      holding [v, ov, iv] (setItem ov iv v)
      release [v, ov, iv] []) := by intro _; rfl) : DG none X (.Subscript o i pos) (kSub wo wi) := pg_weak (pg_sub ho hi set_list ha) fun v σ H Q' q => by
  obtain ⟨Z, m, ρ, μ, d, Q, S, r, q, k⟩ := q
  refine ⟨Z, m, ρ, μ, _, _, S, q, fun x H1 P => ?_, fun cls dd H1 P => (xpF P).elim⟩
  obtain ⟨m1, xd, μ1, s1, r1, q1⟩ := P
  refine ⟨Z, m1, ρ, μ1, _, _, S.step s1, q1, fun y H2 P => ?_, fun cls dd H1 P => (xpF P).elim⟩
  obtain ⟨m2, yd, μ2, s2, r2, q2⟩ := P
  obtain ⟨n, j, ds, z, rfl, rfl, e1, e2, q3⟩ := stL_of q2
  have s12 := s1.trans s2
  have r1' := Rep.mono s2.pre s2.same _ _ r1
  rw [Rep] at r1'
  rw [Rep] at r2
  obtain ⟨a, rfl, ea⟩ := r1'
  obtain ⟨vs, hv, rv⟩ := s2.mu.cell n _ a e1 ea
  have rd := Rep.mono s12.pre s12.same _ _ r
  refine ⟨a, vs, j, z, rfl, r2, hv, by rw [← rv.len]; exact e2, ?_⟩
  have s3 : Step (gx X none) (ownW Z σ ρ) m2 H2 m2 (μ2.set n (.lst (ds.set z d))) (upd H2 a (.lst (vs.set z v))) := Step.put s2.mu ea ⟨_, upd_same, Reps.set rd z rv⟩
  have s13 := s12.trans s3
  exact k _ _ ⟨m2, ρ, _, S.step s13, SStep.of s13, q3⟩
end
/-! ### and, or, if as values -/
section
variable {ex : Option (Addr × Addr × Addr)} {W : WX} {X : Cx} {a b c : Expr} {wa wb : WE} {t : WT} {pos : Pos} {rest : List Expr}
def wIf (t : WT) (wa wb : WE) : WE := fun ρ μ Q Xd => t ρ μ (fun k μ1 => if k = true then wa ρ μ1 Q Xd else wb ρ μ1 Q Xd) Xd
theorem de_if (hc : DT ex W X c t) (ha : DE ex W X a wa) (hb : DE ex W X b wb) : DE ex W X (.IfExp c a b pos) (wIf t wa wb) := pe_weak (pe_ifExp hc ha hb) fun σ H Q' q => by
  obtain ⟨Z, m, ρ, μ, Q, Xd, S, q, k, kx⟩ := q
  refine ⟨Z, m, ρ, μ, _, Xd, S, q, fun c H1 P => ?_, kx⟩
  obtain ⟨m1, μ1, s1, q1⟩ := P
  cases c with
  | true =>
    rw [if_pos rfl] at q1 ⊢
    exact ⟨Z, m1, ρ, μ1, Q, Xd, S.step s1, q1, fun v H2 P => k v H2 (VPost.from s1 P), fun cls d H' P => kx cls d H' (XPost.from s1 P)⟩
  | false =>
    rw [if_neg Bool.false_ne_true] at q1 ⊢
    exact ⟨Z, m1, ρ, μ1, Q, Xd, S.step s1, q1, fun v H2 P => k v H2 (VPost.from s1 P), fun cls d H' P => kx cls d H' (XPost.from s1 P)⟩
/-- a and b, a or b where a is a bool -/
def wAndV (wa wb : WE) : WE := fun ρ μ Q Xd => wa ρ μ (fun x μ1 => fBool x fun k => if k = true then wb ρ μ1 Q Xd else Q (.bl false) μ1) Xd
def wOrV (wa wb : WE) : WE := fun ρ μ Q Xd => wa ρ μ (fun x μ1 => fBool x fun k => if k = true then Q (.bl true) μ1 else wb ρ μ1 Q Xd) Xd
end
end DL

set_option Elab.async false
set_option linter.all false
set_option maxRecDepth 100000
set_option maxHeartbeats 4000000
set_option autoImplicit false
namespace DL
open PySem PySem.Spec PyProof.Rows L2
section
variable {ex : Option (Addr × Addr × Addr)} {W : WX} {X : Cx} {a b c : Expr} {wa wb : WE} {t : WT} {pos : Pos} {rest : List Expr}
theorem de_one {op : BoolOp} (h : DE ex W X a wa) : DE ex W X (.BoolOp op [a] pos) wa := pe_one h
theorem de_and (ha : DE ex W X a wa) (hb : DE ex W X (.BoolOp .And (b :: rest) pos) wb) : DE ex W X (.BoolOp .And (a :: b :: rest) pos) (wAndV wa wb) := pe_weak (pe_and ha hb) fun σ H Q' q => by
  obtain ⟨Z, m, ρ, μ, Q, Xd, S, q, k, kx⟩ := q
  refine ⟨Z, m, ρ, μ, _, Xd, S, q, fun v H1 P => ?_, kx⟩
  obtain ⟨m1, d, μ1, s1, r1, q1⟩ := P
  obtain ⟨c, rfl, q2⟩ := fBool_of q1
  rw [Rep] at r1
  clear q1
  have q1 := q2
  clear q2
  refine ⟨c, r1, ?_⟩
  cases c with
  | true =>
    rw [if_pos rfl] at q1 ⊢
    exact ⟨Z, m1, ρ, μ1, Q, Xd, S.step s1, q1, fun v H2 P => k v H2 (VPost.from s1 P), fun cls d H' P => kx cls d H' (XPost.from s1 P)⟩
  | false =>
    rw [if_neg Bool.false_ne_true] at q1 ⊢
    exact k _ _ (VPost.from s1 (.now s1.mu (by rw [Rep]) q1))
def wNotV (wa : WE) : WE := fun ρ μ Q Xd => wa ρ μ (fun x μ1 => fBool x fun k => Q (.bl (!k)) μ1) Xd
theorem de_not (ha : DE ex W X a wa) : DE ex W X (.UnaryOp .Not a pos) (wNotV wa) := pe_weak (pe_not ha) fun σ H Q' q => by
  obtain ⟨Z, m, ρ, μ, Q, Xd, S, q, k, kx⟩ := q
  refine ⟨Z, m, ρ, μ, _, Xd, S, q, fun v H1 P => ?_, kx⟩
  obtain ⟨m1, d, μ1, s1, r1, q1⟩ := P
  obtain ⟨c, rfl, q2⟩ := fBool_of q1
  rw [Rep] at r1
  exact ⟨c, r1, k _ _ (VPost.from s1 (.now s1.mu (by rw [Rep]) q2))⟩
/-! (a, b, ..) = a list of that length -/
def kUnl (n : Nat) (gs : WGs) : WG := fun d ρ μ Q => match d with
  | .lst ds => ds.length = n ∧ gs ds ρ μ Q
  | .frl ds => ds.length = n ∧ gs ds ρ μ Q
  | _ => False
theorem kUnl_of {n : Nat} {gs : WGs} {d : D} {ρ : DS} {μ : Mu} {Q : DS → Mu → Prop} (h : kUnl n gs d ρ μ Q) : ∃ ds, (d = .lst ds ∨ d = .frl ds) ∧ ds.length = n ∧ gs ds ρ μ Q := by
  unfold kUnl at h
  split at h
  · exact ⟨_, .inl rfl, h⟩
  · exact ⟨_, .inr rfl, h⟩
  · exact h.elim
theorem dg_unl {es : List Expr} {k : Nat} {gs : WGs} {n : Nat} (hc : X.calm = true) (h : DGs ex X es gs) (hn : (assignEach es X.env).length = n := by rfl) (hst : (assignEach es X.env).findIdx? (·.1) = none := by rfl) : DG ex X (.Tuple es k pos) (kUnl n gs) :=
  pg_weak (pg_unl hc h hn hst) fun v σ H Q' q => by
  obtain ⟨Z, m, ρ, μ, d, Q, S, r, q, k⟩ := q
  obtain ⟨ds, hd, hl, q⟩ := kUnl_of q
  obtain ⟨a, vs, e1, st, rs⟩ := lst_rep' hd r
  exact ⟨a, vs, e1, Same.seq vis_le st, by rw [← rs.len]; exact hl, Z, m, ρ, μ, ds, Q, S, rs, q, k⟩
end
/-! ### isinstance -/
inductive TyN where
  | b (n : String) | c (c : Str)
  deriving DecidableEq
def tyD (d : D) (μ : Mu) : Option TyN := match d with
  | .non => some (.b "NoneType")
  | .bl _ => some (.b "bool")
  | .int _ => some (.b "int")
  | .str _ => some (.b "str")
  | .tup _ => some (.b "tuple")
  | .lst _ => some (.b "list")
  | .frl _ => some (.b "list")
  | .obj c _ _ => some (.c c)
  | .loc n => match μ[n]? with
    | some (.lst _) => some (.b "list")
    | some (.ins c _ _) => some (.c c)
    | _ => none
  | .opq (.dK _) => some (.b "dict")
  | _ => none
def clD : D → Option TyN
  | .ty n => some (.b n)
  | .cls c => some (.c c)
  | _ => none
/-- what of the text a class must have that type(x) is it -/
structure InsT (K : PySem.W.Frag) (C : Addr) : Prop where
  cl : Cls K C
  ca : PySem.W.findIn K (.ref C) "__class__" = some (some (.builtin "object.__class__"))
  cn : PySem.W.specialIn K (.builtin "object.__class__") "__get__" = some (some (.builtin "getset_descriptor.__get__"))
  ct : PySem.W.takesIn K (.builtin "object.__class__") = some true
  cm : PySem.W.mroIn K C (.type "object") = some true
def TyVal (G : Gx) : TyN → Value → Prop
  | .b n, v => v = .type n
  | .c c, v => ∃ C, G.mg c = some (.ref C) ∧ v = .ref C
/-- the answers of isinstance that are known: by a table -/
structure IsiTab (G : Gx) (f : TyN → TyN → Option Bool) : Prop where
  ok : ∀ t u b, f t u = some b → ∀ tv uv, TyVal G t tv → TyVal G u uv → PySem.W.kitOne G.K tv uv = some b
  ins : ∀ c u b, f (.c c) u = some b → ∀ C, G.mg c = some (.ref C) → InsT G.K C
theorem tyX_of {G : Gx} {Z : Addr → Prop} {m : List Addr} {μ : Mu} {H : Hp} {x : D} {v : V} {t : TyN} (M : MuOk G Z m μ H) (r : Rep G m (vis Z m H) x v) (h : tyD x μ = some t) (hi : ∀ c, t = .c c → ∀ C, G.mg c = some (.ref C) → InsT G.K C) :
    ∃ tv, TyVal G t tv ∧ TyX G.K H v tv := by
  unfold tyD at h
  split at h
  · cases h; rw [Rep] at r; subst r; exact ⟨_, rfl, .base .non⟩
  · cases h; rw [Rep] at r; subst r; exact ⟨_, rfl, .base (.bl _)⟩
  · cases h; rw [Rep] at r; subst r; exact ⟨_, rfl, .base (.int _)⟩
  · cases h; rw [Rep] at r; subst r; exact ⟨_, rfl, .base (.str _)⟩
  · cases h; rw [Rep] at r
    obtain ⟨a, vs, rfl, s, _⟩ := r
    refine ⟨_, rfl, ?_⟩
    rcases SqT.same vis_le s with (s | ⟨o, s⟩) | ⟨o, its, n, s, c, _⟩
    · exact .base (.tup s)
    · exact .fTuple s
    · exact .kTuple s c
  · cases h; rw [Rep] at r
    obtain ⟨a, vs, rfl, s, _⟩ := r
    exact ⟨_, rfl, .base (.lst (vis_le _ _ s))⟩
  · cases h; rw [Rep] at r
    obtain ⟨a, vs, rfl, s, _⟩ := r
    refine ⟨_, rfl, ?_⟩
    rcases Same.seq vis_le s with (s | ⟨o, s⟩) | ⟨o, its, n, s, c, _⟩
    · exact .base (.lst s)
    · exact .base (.frz s)
    · exact .kList s c
  · cases h; rw [Rep] at r
    obtain ⟨a, C, dx, vs, rfl, g, s, _⟩ := r
    have i := hi _ rfl C g
    exact ⟨_, ⟨C, g, rfl⟩, .base (.ins (vis_le _ _ s) i.cl i.ca i.cn i.ct i.cm)⟩
  · rw [Rep] at r
    obtain ⟨a, rfl, ea⟩ := r
    split at h
    · rename_i e1
      cases h
      obtain ⟨vs, h1, _⟩ := M.cell _ _ a e1 ea
      exact ⟨_, rfl, .base (.lst h1)⟩
    · rename_i e1
      cases h
      obtain ⟨C, dx, vs, g, h1, _⟩ := M.cell _ _ a e1 ea
      have i := hi _ rfl C g
      exact ⟨_, ⟨C, g, rfl⟩, .base (.ins h1 i.cl i.ca i.cn i.ct i.cm)⟩
    · cases h
  · cases h; rw [Rep] at r
    obtain ⟨a, rfl, s⟩ := r
    exact ⟨_, rfl, .base (.dK (vis_le _ _ s))⟩
  · cases h
theorem clV_of {G : Gx} {m : List Addr} {E : Hp} {x : D} {v : V} {u : TyN} (r : Rep G m E x v) (h : clD x = some u) : ∃ uv, TyVal G u uv ∧ ClsV v uv := by
  unfold clD at h
  split at h
  · cases h; rw [Rep] at r; subst r; exact ⟨_, rfl, .ty _⟩
  · cases h; rw [Rep] at r
    obtain ⟨C, g, rfl⟩ := r
    exact ⟨_, ⟨C, g, rfl⟩, .own C⟩
  · cases h
def isiD (f : TyN → TyN → Option Bool) (x c : D) (μ : Mu) : Option Bool := match tyD x μ, clD c with
  | some t, some u => f t u
  | _, _ => none
def fIsi (f : TyN → TyN → Option Bool) : FN := fun xs μ Q => match xs with
  | [x, c] => match isiD f x c μ with
    | some b => Q (.bl b) μ
    | none => False
  | _ => False
theorem isiD_of {f : TyN → TyN → Option Bool} {x c : D} {μ : Mu} {b : Bool} (h : isiD f x c μ = some b) : ∃ t u, tyD x μ = some t ∧ clD c = some u ∧ f t u = some b := by
  unfold isiD at h
  split at h
  · exact ⟨_, _, by assumption, by assumption, h⟩
  · cases h
theorem fIsi_of {f : TyN → TyN → Option Bool} {xs : List D} {μ : Mu} {Q : D → Mu → Prop} (h : fIsi f xs μ Q) : ∃ x c b, xs = [x, c] ∧ isiD f x c μ = some b ∧ Q (.bl b) μ := by
  unfold fIsi at h
  split at h
  · split at h
    · exact ⟨_, _, _, rfl, by assumption, h⟩
    · exact h.elim
  · exact h.elim
theorem sn_isi {G : Gx} {f : TyN → TyN → Option Bool} (T : IsiTab G f) : SN G (rIsi G.K) (fIsi f) := by
  intro Z m μ H xs us Q Q' M r h k
  obtain ⟨x, c, b, rfl, hb, q⟩ := fIsi_of h
  obtain ⟨v, t, rfl, r1, r2⟩ := r.uncons
  obtain ⟨v', t', rfl, r3, r4⟩ := r2.uncons
  rw [Reps] at r4
  subst r4
  obtain ⟨tn, un, h1, h2, h3⟩ := isiD_of hb
  obtain ⟨tv, t1, t2⟩ := tyX_of M r1 h1 fun c e C g => T.ins c un b (e ▸ h3) C g
  obtain ⟨uv, u1, u2⟩ := clV_of r3 h2
  exact ⟨v, v', tv, uv, b, rfl, u2, t2, T.ok _ _ _ h3 _ _ t1 u1, k _ _ (.now M (by rw [Rep]) q)⟩
/-! ### attributes -/
/-- an instance: class, names, values -/
def insD (d : D) (μ : Mu) : Option (Str × List Str × List D) := match d with
  | .obj c ks ds => some (c, ks, ds)
  | .loc n => match μ[n]? with
    | some (.ins c ks ds) => some (c, ks, ds)
    | _ => none
  | _ => none
theorem ins_rep {G : Gx} {Z : Addr → Prop} {m : List Addr} {μ : Mu} {H : Hp} {x : D} {v : V} {c : Str} {ks : List Str} {ds : List D} (M : MuOk G Z m μ H) (r : Rep G m (vis Z m H) x v) (h : insD x μ = some (c, ks, ds)) :
    ∃ a C dx vs, v = .ref a ∧ G.mg c = some (.ref C) ∧ H a = some (.ins C dx (ks.zip vs)) ∧ ks.length = ds.length ∧ Reps G m (vis Z m H) ds vs := by
  unfold insD at h
  split at h
  · cases h
    rw [Rep] at r
    obtain ⟨a, C, dx, vs, e, g, s, l, q⟩ := r
    exact ⟨a, C, dx, vs, e, g, vis_le _ _ s, l, q⟩
  · split at h
    · rename_i e1
      cases h
      rw [Rep] at r
      obtain ⟨a, e, ea⟩ := r
      obtain ⟨C, dx, vs, g, s, l, q⟩ := M.cell _ _ a e1 ea
      exact ⟨a, C, dx, vs, e, g, s, l, q⟩
    · cases h
  · cases h
/-- the value of a name -/
def fldOf (f : Str) : List Str → List D → Option D
  | k :: ks, d :: ds => if f == k then some d else fldOf f ks ds
  | _, _ => none
theorem fldOf_rep {G : Gx} {m : List Addr} {E : Hp} {f : Str} : ∀ {ks : List Str} {ds : List D} {vs : List V} {d : D}, Reps G m E ds vs → fldOf f ks ds = some d → ∃ v, (ks.zip vs).lookup f = some v ∧ Rep G m E d v
  | [], ds, vs, d, r, h => by cases ds <;> cases h
  | k :: ks, [], vs, d, r, h => by cases h
  | k :: ks, d0 :: ds, vs, d, r, h => by
    obtain ⟨v, t, rfl, r1, r2⟩ := r.uncons
    rw [List.zip_cons_cons, List.lookup_cons]
    rw [fldOf] at h
    cases e : f == k with
    | true => rw [e] at h; cases h; exact ⟨v, rfl, r1⟩
    | false => rw [e] at h; exact fldOf_rep r2 h
def fFld (c f : Str) : F1 := fun x μ Q => match insD x μ with
  | some (c', ks, ds) => c' = c ∧ match fldOf f ks ds with
    | some d => Q d μ
    | none => False
  | none => False
theorem fFld_of {c f : Str} {x : D} {μ : Mu} {Q : D → Mu → Prop} (h : fFld c f x μ Q) : ∃ ks ds d, insD x μ = some (c, ks, ds) ∧ fldOf f ks ds = some d ∧ Q d μ := by
  unfold fFld at h
  split at h
  · rename_i e
    obtain ⟨rfl, h⟩ := h
    split at h
    · exact ⟨_, _, _, e, by assumption, h⟩
    · exact h.elim
  · exact h.elim
def rFld (K : PySem.W.Frag) (f : Str) : V → Hp → VK → Prop := fun x H1 Q => ∃ a C dx fs v, x = .ref a ∧ H1 a = some (.ins C dx fs) ∧ Cls K C ∧ NoAttr K C f ∧ fs.lookup f = some v ∧ Q v H1
theorem s1_fld {G : Gx} {c f : Str} {C : Addr} (hm : G.mg c = some (.ref C)) (hc : Cls G.K C) (hn : NoAttr G.K C f) : S1 G (rFld G.K f) (fFld c f) := by
  intro Z m μ H x u Q Q' M rx h k
  obtain ⟨ks, ds, d, e1, e2, q⟩ := fFld_of h
  obtain ⟨a, C', dx, vs, rfl, g, s, l, rs⟩ := ins_rep M rx e1
  rw [hm] at g
  cases g
  obtain ⟨v, ev, rv⟩ := fldOf_rep rs e2
  exact ⟨a, C, dx, _, v, rfl, s, hc, hn, ev, k _ _ (.now M rv q)⟩
section
variable {ex : Option (Addr × Addr × Addr)} {W : WX} {X : Cx} {e o value : Expr} {wa wo : WE} {pos pos' : Pos}
theorem de_fld {c f : Str} {C : Addr} (hm : X.mg c = some (.ref C)) (hc : Cls X.K C) (hn : NoAttr X.K C f) (he : DE ex W X e wa) (hb : attributeBase e f X.env (eval e X.env) = eval e X.env := by rfl) : DE ex W X (.Attribute e f pos) (w1 (fFld c f) wa) :=
  pe_weak (pe_fld he hb) fun _ _ _ q => lift_w1 (G := gx X ex) (s1_fld hm hc hn) q
end
/-! stored -/
def putK (f : Str) : List Str → List Str
  | [] => [f]
  | g :: r => if g = f then g :: r else g :: putK f r
def putD {α : Type} (f : Str) (y : α) : List Str → List α → List α
  | [], _ => [y]
  | g :: r, x :: xs => if g = f then y :: xs else x :: putD f y r xs
  | _ :: _, [] => []
theorem putF_zip (f : Str) (y : V) : ∀ (ks : List Str) (vs : List V), ks.length = vs.length → putF f y (ks.zip vs) = (putK f ks).zip (putD f y ks vs)
  | [], [], _ => rfl
  | [], _ :: _, h => nomatch h
  | _ :: _, [], h => nomatch h
  | g :: r, x :: xs, h => by
    have ih := putF_zip f y r xs (by simpa using h)
    rw [List.zip_cons_cons, putK, putD, putF]
    by_cases e : g = f
    · rw [if_pos e, if_pos e, if_pos e, List.zip_cons_cons]
    · rw [if_neg e, if_neg e, if_neg e, List.zip_cons_cons, ih]
theorem putD_len (f : Str) : ∀ (ks : List Str) (ds : List D) (d : D), ks.length = ds.length → (putK f ks).length = (putD f d ks ds).length
  | [], [], _, _ => rfl
  | [], _ :: _, _, h => nomatch h
  | _ :: _, [], _, h => nomatch h
  | g :: r, x :: xs, d, h => by
    have ih := putD_len f r xs d (by simpa using h)
    rw [putK, putD]
    by_cases e : g = f
    · rw [if_pos e, if_pos e]; exact h
    · rw [if_neg e, if_neg e, List.length_cons, List.length_cons, ih]
theorem putD_rep {G : Gx} {m : List Addr} {E : Hp} {f : Str} {d : D} {v : V} (rd : Rep G m E d v) : ∀ {ks : List Str} {ds : List D} {vs : List V}, ks.length = ds.length → Reps G m E ds vs → Reps G m E (putD f d ks ds) (putD f v ks vs)
  | [], [], vs, _, r => by rw [Reps] at r; subst r; exact Reps.cons rd Reps.nil
  | [], _ :: _, _, h, _ => nomatch h
  | _ :: _, [], _, h, _ => nomatch h
  | g :: r, x :: xs, vs, h, q => by
    obtain ⟨u, t, rfl, q1, q2⟩ := q.uncons
    rw [putD, putD]
    by_cases e : g = f
    · rw [if_pos e, if_pos e]; exact Reps.cons rd q2
    · rw [if_neg e, if_neg e]; exact Reps.cons q1 (putD_rep rd (by simpa using h) q2)
/-- an own thing is written -/
theorem own_put {Z : Addr → Prop} {σ : L2.St} {ρ : DS} {i : Nat} {a : Addr} {c c' : Cell} (hi : ρ[i]? = some (.own a c)) : ownW Z σ (ρ.set i (.own a c')) = ownW Z σ ρ := by
  have hil := (List.getElem?_eq_some_iff.mp hi).1
  funext b
  apply propext
  constructor
  · rintro (h | ⟨j, e, h1⟩)
    · exact .inl h
    · by_cases hj : i = j
      · subst hj
        rw [List.getElem?_set_self hil] at h1
        cases h1
        exact .inr ⟨i, c, hi⟩
      · rw [List.getElem?_set_ne hj] at h1; exact .inr ⟨j, e, h1⟩
  · rintro (h | ⟨j, e, h1⟩)
    · exact .inl h
    · by_cases hj : i = j
      · subst hj
        rw [hi] at h1
        cases h1
        exact .inr ⟨i, c', List.getElem?_set_self hil⟩
      · exact .inr ⟨j, e, by rw [List.getElem?_set_ne hj]; exact h1⟩
theorem SR.putOwn {G : Gx} {Z : Addr → Prop} {m : List Addr} {σ : L2.St} {H : Hp} {ρ : DS} {μ : Mu} (S : SR G Z m σ H ρ μ) {i : Nat} {c c' : Cell} {a : Addr} {o : HO} (hi : ρ[i]? = some (.own a c))
    (hc : CellOk G m (vis (ownW Z σ ρ) m H) (upd H a o) c' a) : SR G Z m σ (upd H a o) (ρ.set i (.own a c')) μ ∧ SStep G Z m σ ρ H m σ (ρ.set i (.own a c')) (upd H a o) := by
  have hil := (List.getElem?_eq_some_iff.mp hi).1
  obtain ⟨hs, nz, _⟩ := S.own i a c hi
  have ow : ownW Z σ (ρ.set i (.own a c')) = ownW Z σ ρ := own_put hi
  have wa : ownW Z σ ρ a := .inr ⟨i, c, hi⟩
  have ev : vis (ownW Z σ ρ) m (upd H a o) = vis (ownW Z σ ρ) m H := by
    funext b
    unfold vis
    by_cases hb : b = a
    · rw [hb, if_pos (.inl wa), if_pos (.inl wa)]
    · rw [upd_ne hb]
  refine ⟨⟨by rw [List.length_set]; exact S.len, ?_, fun j d e => ?_, fun j b e h => ?_, fun j k b e f h1 h2 => ?_, fun j c ks ds h => ?_⟩, List.prefix_refl _, fun z hz => upd_ne fun e => nz (e ▸ hz), by rw [ow, ev]; exact Same.refl _⟩
  · rw [ow]
    refine ⟨S.mu.len, S.mu.nd, S.mu.out, fun z hz => ?_, fun n d b hd hb => ?_⟩
    · by_cases e : z = a
      · rw [e, upd_same]; intro q; cases q
      · rw [upd_ne e]; exact S.mu.hw z hz
    · rw [ev]
      have nb : b ≠ a := fun e => S.mu.out b (List.mem_of_getElem? hb) (e ▸ wa)
      exact (S.mu.cell n d b hd hb).keep (List.prefix_refl _) (Same.refl _) (upd_ne nb)
  · rw [ow, ev]
    have hj : i ≠ j := fun q => by subst q; rw [List.getElem?_set_self hil] at e; cases e
    rw [List.getElem?_set_ne hj] at e
    exact S.val j d e
  · rw [ow, ev]
    by_cases hj : i = j
    · subst hj
      rw [List.getElem?_set_self hil] at h
      cases h
      exact ⟨hs, nz, hc⟩
    · rw [List.getElem?_set_ne hj] at h
      obtain ⟨h1, h2, h3⟩ := S.own j b e h
      exact ⟨h1, h2, h3.keep (List.prefix_refl _) (Same.refl _) (upd_ne fun q => hj (S.dis i j a c e hi (q ▸ h)))⟩
  · have get : ∀ {l : Nat} {b : Addr} {es : Cell}, (ρ.set i (Sl.own a c'))[l]? = some (Sl.own b es) → ∃ es2 : Cell, ρ[l]? = some (Sl.own b es2) := fun {l b es} h => by
      by_cases hj : i = l
      · subst hj
        rw [List.getElem?_set_self hil] at h
        cases h
        exact ⟨c, hi⟩
      · rw [List.getElem?_set_ne hj] at h; exact ⟨es, h⟩
    obtain ⟨_, g1⟩ := get h1
    obtain ⟨_, g2⟩ := get h2
    exact S.dis j k b _ _ g1 g2
  · rw [ow, ev]
    have hj : i ≠ j := fun q => by subst q; rw [List.getElem?_set_self hil] at h; cases h
    rw [List.getElem?_set_ne hj] at h
    exact S.exn j c ks ds h
/-- self.f = value, self the thing that is being made -/
def putOwnI (c0 : Str) (i : Nat) (f : Str) (d : D) (ρ : DS) (k : DS → Prop) : Prop := match ρ[i]? with
  | some (.own a (.ins c ks ds)) => c = c0 ∧ ks.length < 1000 ∧ k (ρ.set i (.own a (.ins c (putK f ks) (putD f d ks ds))))
  | _ => False
theorem putOwnI_of {c : Str} {i : Nat} {f : Str} {d : D} {ρ : DS} {k : DS → Prop} (h : putOwnI c i f d ρ k) : ∃ a ks ds, ρ[i]? = some (.own a (.ins c ks ds)) ∧ ks.length < 1000 ∧ k (ρ.set i (.own a (.ins c (putK f ks) (putD f d ks ds)))) := by
  unfold putOwnI at h
  split at h
  · rename_i e
    obtain ⟨rfl, h⟩ := h
    exact ⟨_, _, _, e, h⟩
  · exact h.elim
def sFldO (c : Str) (i : Nat) (f : Str) (wa : WE) : WS := fun E ρ μ => wa ρ μ (fun d μ1 => putOwnI c i f d ρ fun ρ1 => E.nx ρ1 μ1) fun c ks es μ' => E.xc c ks es ρ μ'
section
variable {ex : Option (Addr × Addr × Addr)} {W : WX} {X : Cx} {e o value : Expr} {wa wo : WE} {pos pos' p0 : Pos}
theorem ds_fldO {i : Nat} {x c f : Str} {C : Addr} (hm : X.mg c = some (.ref C)) (hc : Cls X.K C) (hn : NoAttr X.K C f) (hN : X.N[i]? = some x) (hv : DE ex W X value wa) (hs : swapsWith value (some (.Attribute (.Name x p0) f pos')) pos.line X.env = pure false)
    (hvis : Vis X.env.scope x := by first | exact Or.inl rfl | exact Or.inr (Or.inl rfl) | exact Or.inr (Or.inr rfl)) (hd : (x == ("__debug__" : Str)) = false := by decide) (hcd : (x == ("__classdict__" : Str)) = false := by decide) :
    DSt ex W X (.Assign [.Attribute (.Name x p0) f pos'] value pos) (sFldO c i f wa) := ps_weak (ps_fld (pe_var hN hvis hd hcd) hv hs) fun De σ H q => by
  obtain ⟨Z, m, ρ, μ, E, S, q, kn, kr, kb, kc, kx⟩ := q
  refine ⟨Z, m, ρ, μ, _, _, S, q, fun v H1 P => ?_, fun cls d H' P => kx cls d σ H' (XSPost.of S P)⟩
  obtain ⟨m1, d, μ1, s1, r1, q1⟩ := P
  obtain ⟨a, ks, ds, hi, hl, q2⟩ := putOwnI_of q1
  have S1 := S.step s1
  obtain ⟨ha, nz, C0, dx, vs, g, hv, l, rs⟩ := S1.own i a _ hi
  have hC : C0 = C := by
    have g' : X.mg c = some (.ref C0) := g
    rw [hm] at g'; cases g'; rfl
  subst hC
  have lv : ks.length = vs.length := by rw [l]; exact rs.len
  refine ⟨_, ha, a, C0, dx, _, rfl, hv, hc, hn, by rw [List.length_zip, ← lv, Nat.min_self]; exact hl, ?_⟩
  obtain ⟨S2, s2⟩ := S1.putOwn (o := .ins C0 dx (putF f v (ks.zip vs))) (c' := .ins c (putK f ks) (putD f d ks ds)) hi ⟨C0, dx, putD f v ks vs, g, by rw [upd_same, putF_zip f v ks vs lv], putD_len f ks ds d l, putD_rep r1 l rs⟩
  exact kn _ _ ⟨m1, _, μ1, S2, (SStep.of s1).trans s2, q2⟩
end
end DL

set_option Elab.async false
set_option linter.all false
set_option maxRecDepth 100000
set_option maxHeartbeats 4000000
set_option autoImplicit false
namespace DL
open PySem PySem.Spec PyProof.Rows L2
/-! ### an own thing let go: a datum -/
def cellD : Cell → Option D
  | .lst ds => some (.lst ds)
  | .ins c ks ds => some (.obj c ks ds)
  | .pool => none
theorem cellD_rep {G : Gx} {m : List Addr} {E H : Hp} {c : Cell} {a : Addr} {d : D} (h : CellOk G m E H c a) (e : cellD c = some d) {E' : Hp} (hE : Same E E') (ha : ∀ o, H a = some o → E' a = some o) : Rep G m E' d (.ref a) := by
  cases c with
  | lst ds =>
    cases e
    obtain ⟨vs, h1, h2⟩ := h
    rw [Rep]
    exact ⟨a, vs, rfl, ha _ h1, Reps.mono (List.prefix_refl _) hE _ _ h2⟩
  | ins c ks ds =>
    cases e
    obtain ⟨C, dx, vs, g, h1, l, h2⟩ := h
    rw [Rep]
    exact ⟨a, C, dx, vs, rfl, g, ha _ h1, l, Reps.mono (List.prefix_refl _) hE _ _ h2⟩
  | pool => cases e
theorem SR.free {G : Gx} {Z : Addr → Prop} {m : List Addr} {σ : L2.St} {H : Hp} {ρ : DS} {μ : Mu} (S : SR G Z m σ H ρ μ) {i : Nat} {a : Addr} {c : Cell} {d : D} (hi : ρ[i]? = some (.own a c)) (hd : cellD c = some d) :
    SR G Z m σ H (ρ.set i (.v d)) μ ∧ SStep G Z m σ ρ H m σ (ρ.set i (.v d)) H := by
  have hil := (List.getElem?_eq_some_iff.mp hi).1
  obtain ⟨hs, nz, hc⟩ := S.own i a c hi
  have sub : ∀ b, ownW Z σ (ρ.set i (.v d)) b → ownW Z σ ρ b := fun b h => by
    rcases h with h | ⟨j, e, h1⟩
    · exact .inl h
    · by_cases hj : i = j
      · subst hj; rw [List.getElem?_set_self hil] at h1; cases h1
      · rw [List.getElem?_set_ne hj] at h1; exact .inr ⟨j, e, h1⟩
  have sm := vis_mono (m := m) (H := H) sub
  have nw : ¬ ownW Z σ (ρ.set i (.v d)) a := by
    rintro (h | ⟨j, e, h1⟩)
    · exact nz h
    · by_cases hj : i = j
      · subst hj; rw [List.getElem?_set_self hil] at h1; cases h1
      · rw [List.getElem?_set_ne hj] at h1; exact hj (S.dis i j a c e hi h1)
  refine ⟨⟨by rw [List.length_set]; exact S.len, S.mu.less sub, fun j e h => ?_, fun j b e h => ?_, fun j k b e f h1 h2 => ?_, fun j c ks ds h => ?_⟩, List.prefix_refl _, fun _ _ => rfl, sm⟩
  · by_cases hj : i = j
    · subst hj
      rw [List.getElem?_set_self hil] at h
      cases h
      exact ⟨_, hs, cellD_rep hc hd sm fun o ho => vis_some.mpr ⟨nw, fun q => S.mu.out a q (.inr ⟨i, c, hi⟩), ho⟩⟩
    · rw [List.getElem?_set_ne hj] at h
      obtain ⟨v, h1, h2⟩ := S.val j e h
      exact ⟨v, h1, Rep.mono (List.prefix_refl _) sm _ _ h2⟩
  · by_cases hj : i = j
    · subst hj; rw [List.getElem?_set_self hil] at h; cases h
    · rw [List.getElem?_set_ne hj] at h
      obtain ⟨h1, h2, h3⟩ := S.own j b e h
      exact ⟨h1, h2, h3.keep (List.prefix_refl _) sm rfl⟩
  · have get : ∀ {l : Nat} {b : Addr} {es : Cell}, (ρ.set i (Sl.v d))[l]? = some (Sl.own b es) → ρ[l]? = some (Sl.own b es) := fun {l b es} h => by
      by_cases hj : i = l
      · subst hj; rw [List.getElem?_set_self hil] at h; cases h
      · rw [List.getElem?_set_ne hj] at h; exact h
    exact S.dis j k b _ _ (get h1) (get h2)
  · have hj : i ≠ j := fun q => by subst q; rw [List.getElem?_set_self hil] at h; cases h
    rw [List.getElem?_set_ne hj] at h
    exact (S.exn j c ks ds h).mono (List.prefix_refl _) sm
/-- ahead of a statement: the thing at slot i is let go -/
def frz (i : Nat) (ρ : DS) (k : DS → Prop) : Prop := match ρ[i]? with
  | some (.own _ c) => match cellD c with
    | some d => k (ρ.set i (.v d))
    | none => False
  | _ => False
def sFrz (i : Nat) (w : WS) : WS := fun E ρ μ => frz i ρ fun ρ1 => w E ρ1 μ
section
variable {ex : Option (Addr × Addr × Addr)} {W : WX} {X : Cx} {st : Stmt} {sts : List Stmt} {w : WS} {e : Expr} {wa : WE} {ws : WA} {es : List Expr} {pos : Pos}
/-! ### a list of the def's own: made -/
theorem SR.born {G : Gx} {Z : Addr → Prop} {m : List Addr} {σ : L2.St} {H : Hp} {ρ : DS} {μ : Mu} (S : SR G Z m σ H ρ μ) {i : Nat} {p : Addr} {o : HO} {c : Cell} (np : H p = none) (hi : i < ρ.length) (hc : CellOk G m (vis (ownW Z σ ρ) m H) (upd H p o) c p) :
    SR G Z m (σ.set i (some (.ref p))) (upd H p o) (ρ.set i (.own p c)) μ ∧ SStep G Z m σ ρ H m (σ.set i (some (.ref p))) (ρ.set i (.own p c)) (upd H p o) := by
  have hil : i < σ.length := by rw [← S.len]; exact hi
  obtain ⟨f1, f2⟩ := S.mu.fresh np
  have sub : ∀ b, ownW Z (σ.set i (some (.ref p))) (ρ.set i (.own p c)) b → addZ (ownW Z σ ρ) p b := fun b h => by
    rcases h with h | ⟨j, e, h1⟩
    · exact .inl (.inl h)
    · by_cases hj : i = j
      · subst hj; rw [List.getElem?_set_self hi] at h1; cases h1; exact .inr rfl
      · rw [List.getElem?_set_ne hj] at h1; exact .inl (.inr ⟨j, e, h1⟩)
  obtain ⟨Mh, sh⟩ := MuOk.hide (o := o) S.mu np
  have sm : Same (vis (ownW Z σ ρ) m H) (vis (ownW Z (σ.set i (some (.ref p))) (ρ.set i (.own p c))) m (upd H p o)) := sh.trans (vis_mono sub)
  have nzp : ¬ Z p := fun h => f1 (.inl h)
  have old : ∀ {j : Nat} {e : Cell}, ρ[j]? ≠ some (Sl.own p e) := fun {j e} h => f1 (.inr ⟨j, e, h⟩)
  refine ⟨⟨by rw [List.length_set, List.length_set]; exact S.len, Mh.less sub, fun j e h => ?_, fun j b e h => ?_, fun j k b e f h1 h2 => ?_, fun j c ks ds h => ?_⟩, List.prefix_refl _, fun z hz => upd_ne fun q => nzp (q ▸ hz), sm⟩
  · by_cases hj : i = j
    · subst hj; rw [List.getElem?_set_self hi] at h; cases h
    · rw [List.getElem?_set_ne hj] at h
      obtain ⟨v, h1, h2⟩ := S.val j e h
      exact ⟨v, by rw [List.getElem?_set_ne hj]; exact h1, Rep.mono (List.prefix_refl _) sm _ _ h2⟩
  · by_cases hj : i = j
    · subst hj
      rw [List.getElem?_set_self hi] at h
      cases h
      exact ⟨List.getElem?_set_self hil, nzp, hc.keep (List.prefix_refl _) sm rfl⟩
    · rw [List.getElem?_set_ne hj] at h
      obtain ⟨h1, h2, h3⟩ := S.own j b e h
      refine ⟨by rw [List.getElem?_set_ne hj]; exact h1, h2, h3.keep (List.prefix_refl _) sm (upd_ne fun q => ?_)⟩
      subst q
      exact old h
  · by_cases hj : i = j
    · subst hj
      rw [List.getElem?_set_self hi] at h1
      cases h1
      by_cases hk : i = k
      · exact hk
      · rw [List.getElem?_set_ne hk] at h2
        exact absurd h2 old
    · rw [List.getElem?_set_ne hj] at h1
      by_cases hk : i = k
      · subst hk
        rw [List.getElem?_set_self hi] at h2
        cases h2
        exact absurd h1 old
      · rw [List.getElem?_set_ne hk] at h2
        exact S.dis j k b e f h1 h2
  · have hj : i ≠ j := fun q => by subst q; rw [List.getElem?_set_self hi] at h; cases h
    rw [List.getElem?_set_ne hj] at h ⊢
    exact (S.exn j c ks ds h).mono (List.prefix_refl _) sm
def sSetO (i : Nat) (wa : WA) : WS := fun E ρ μ => wa ρ μ (fun ds μ1 => ds.length ≤ 1000 ∧ i < ρ.length ∧ ∀ p, E.nx (ρ.set i (.own p (.lst ds))) μ1) fun c ks es μ' => E.xc c ks es ρ μ'
theorem ds_setO {i : Nat} {x : Str} {pos' lp : Pos} (hN : X.N.Nodup) (hi : X.N[i]? = some x) (he : DA ex W X es ws) (hx : Loc X.env.scope x := by first | exact Or.inl rfl | exact Or.inr rfl)
    (hs : swapsWith (.List es lp) (some (.Name x pos')) pos.line X.env = pure false := by rfl) (hf : X.fn x = true ∨ X.env.scope.names.lookup x = some .local := by first | exact .inl rfl | exact .inr rfl | assumption) :
    DSt ex W X (.Assign [.Name x pos'] (.List es lp) pos) (sSetO i ws) := ps_weak (ps_set (i := i) hN hi hx (pe_lst he) hs hf) fun D σ H q => by
  obtain ⟨Z, m, ρ, μ, E, S, q, kn, kr, kb, kc, kx⟩ := q
  refine ⟨Z, m, ρ, μ, _, _, S, q, fun vs H1 P => ?_, fun cls d H' P => kx cls d σ H' (XSPost.of S P)⟩
  obtain ⟨m1, ds, μ1, s1, r1, hl, hil, q1⟩ := P
  refine ⟨by rw [← r1.len]; exact le1000 hl, fun p np => kn _ _ ?_⟩
  obtain ⟨S2, s2⟩ := (S.step s1).born (o := .lst vs) (c := .lst ds) np hil ⟨vs, upd_same, r1⟩
  exact ⟨m1, _, μ1, S2, (SStep.of s1).trans s2, q1 p⟩
end
end DL

set_option Elab.async false
set_option linter.all false
set_option maxRecDepth 100000
set_option maxHeartbeats 4000000
set_option autoImplicit false
namespace DL
open PySem PySem.Spec PyProof.Rows L2
/-! ### __init__ and the making of instances -/
abbrev ISp := List D → Mu → (List Str → List D → Mu → Prop) → XD → Prop
def InitPost (G : Gx) (Z : Addr → Prop) (x : Addr) (c : Str) (m : List Addr) (H : Hp) (Q : List Str → List D → Mu → Prop) (H' : Hp) : Prop :=
  ∃ m' ks es μ', m <+: m' ∧ (∀ z, Z z → H' z = H z) ∧ MuOk G (addZ Z x) m' μ' H' ∧ Same (vis (addZ Z x) m H) (vis (addZ Z x) m' H') ∧ CellOk G m' (vis (addZ Z x) m' H') H' (.ins c ks es) x ∧ Q ks es μ'
def XInit (G : Gx) (Z : Addr → Prop) (x : Addr) (m : List Addr) (H : Hp) (Xd : XD) (cls : Value) (d : Option Addr) (H' : Hp) : Prop :=
  ∃ m' c ks es μ' C dd vs, m <+: m' ∧ (∀ z, Z z → H' z = H z) ∧ MuOk G Z m' μ' H' ∧ Same (vis (addZ Z x) m H) (vis Z m' H') ∧ cls = .ref C ∧ d = some dd ∧ G.mg c = some (.ref C) ∧ vis Z m' H' dd = some (.xd (ks.zip vs)) ∧ ks.length = es.length ∧
    Reps G m' (vis Z m' H') es vs ∧ Xd c ks es μ'
def toSpI (G : Gx) (c : Str) (sp : ISp) : Sp := fun vs H Q' E => ∃ x us C dx Z m μ ds Q Xd, vs = .ref x :: us ∧ G.mg c = some (.ref C) ∧ H x = some (.ins C dx []) ∧ ¬ Z x ∧ MuOk G (addZ Z x) m μ H ∧ Reps G m (vis (addZ Z x) m H) ds us ∧ sp ds μ Q Xd ∧
  (∀ H', InitPost G Z x c m H Q H' → Q' .non H') ∧ ∀ cls d H', XInit G Z x m H Xd cls d H' → E cls d H'
def startI (N : List Str) (c : Str) (x : Addr) (ds : List D) : DS := .own x (.ins c [] []) :: (ds.map Sl.v ++ List.replicate (N.length - ds.length - 1) Sl.no)
theorem startI_own {N : List Str} {c : Str} {x : Addr} {ds : List D} {i : Nat} {a : Addr} {e : Cell} (h : (startI N c x ds)[i]? = some (.own a e)) : i = 0 ∧ a = x ∧ e = .ins c [] [] := by
  unfold startI at h
  cases i with
  | zero => cases h; exact ⟨rfl, rfl, rfl⟩
  | succ i =>
    rw [List.getElem?_cons_succ] at h
    have hm := List.mem_of_getElem? h
    rcases List.mem_append.mp hm with q | q
    · obtain ⟨d, _, q⟩ := List.mem_map.mp q
      cases q
    · rw [List.mem_replicate] at q
      exact nomatch q.2
theorem startI_ownW {Z : Addr → Prop} {N : List Str} {c : Str} {x : Addr} {ds : List D} {σ : L2.St} : ownW Z σ (startI N c x ds) = addZ Z x := by
  funext b
  apply propext
  constructor
  · rintro (h | ⟨i, e, h⟩)
    · exact .inl h
    · obtain ⟨_, rfl, _⟩ := startI_own h
      exact .inr rfl
  · rintro (h | h)
    · exact .inl h
    · subst h
      exact .inr ⟨0, _, rfl⟩
theorem SR.startI {G : Gx} {Z : Addr → Prop} {m : List Addr} {H : Hp} {μ : Mu} {N : List Str} {ds : List D} {us : List V} {c : Str} {C x dx : Addr} (g : G.mg c = some (.ref C)) (hx : H x = some (.ins C dx [])) (nz : ¬ Z x) (M : MuOk G (addZ Z x) m μ H)
    (r : Reps G m (vis (addZ Z x) m H) ds us) : SR G Z m (L2.start N (.ref x :: us)) H (startI N c x ds) μ := by
  have ow := startI_ownW (Z := Z) (N := N) (c := c) (x := x) (ds := ds) (σ := L2.start N (.ref x :: us))
  refine ⟨?_, by rw [ow]; exact M, fun i d e => ?_, fun i a e h => ?_, fun i j a e f h1 h2 => ?_, fun i c2 ks es e => ?_⟩
  · have hl := r.len
    simp [startI, DL.startI, L2.start]
    omega
  · rw [ow]
    unfold DL.startI at e
    cases i with
    | zero => cases e
    | succ i =>
      rw [List.getElem?_cons_succ, List.getElem?_append] at e
      split at e
      · rename_i hl
        rw [List.getElem?_map] at e
        rw [List.length_map] at hl
        cases q : ds[i]? with
        | none => rw [q] at e; cases e
        | some d' =>
          rw [q] at e
          cases e
          obtain ⟨v, ev, rv⟩ := r.get q
          refine ⟨v, ?_, rv⟩
          unfold L2.start
          rw [List.map_cons, List.cons_append, List.getElem?_cons_succ, List.getElem?_append_left (by rw [List.length_map, ← r.len]; exact hl), List.getElem?_map, ev]
          rfl
      · have := List.mem_of_getElem? e
        rw [List.mem_replicate] at this
        exact nomatch this.2
  · obtain ⟨rfl, rfl, rfl⟩ := startI_own h
    exact ⟨rfl, nz, C, dx, [], g, hx, rfl, Reps.nil⟩
  · rw [(startI_own h1).1, (startI_own h2).1]
  · unfold DL.startI at e
    have hm := List.mem_of_getElem? e
    rcases List.mem_cons.mp hm with q | q
    · cases q
    · rcases List.mem_append.mp q with q | q
      · obtain ⟨d, _, q⟩ := List.mem_map.mp q
        cases q
      · rw [List.mem_replicate] at q
        exact nomatch q.2
/-- the ends of an __init__'s body -/
def initEnd (c : Str) (x : Addr) (Q : List Str → List D → Prop) (ρ : DS) : Prop := match ρ[0]? with
  | some (Sl.own a (Cell.ins c' ks ds)) => a = x ∧ c' = c ∧ Q ks ds
  | _ => False
theorem initEnd_of {c : Str} {x : Addr} {Q : List Str → List D → Prop} {ρ : DS} (h : initEnd c x Q ρ) : ∃ ks ds, ρ[0]? = some (.own x (.ins c ks ds)) ∧ Q ks ds := by
  unfold initEnd at h
  split at h
  · rename_i e
    obtain ⟨rfl, rfl, h⟩ := h
    exact ⟨_, _, e, h⟩
  · exact h.elim
def defI (c : Str) (x : Addr) (Q : List Str → List D → Mu → Prop) (Xd : XD) : DEnds := { nx := fun ρ μ => initEnd c x (fun ks ds => Q ks ds μ) ρ, rt := fun _ _ => False, xc := fun c ks es _ μ => Xd c ks es μ }
section
variable {P : Program} {w : World} {K : PySem.W.Frag} {mg : Str → Option Value} {base : Heap}
theorem def_okI {x qual : Str} {params : Arguments} {body : List Stmt} {scope : Scope} {dvs : List V} {kws : List (Str × V)} {f : Addr} {fd : FuncData} {N ps : List Str} {k : Nat} {c : Str} {sp : ISp} {wb : WS} (F : FunD K x qual params body scope dvs kws f fd) (S : FnScope N ps scope)
    (len : ∀ ds μ Q Xd, sp ds μ Q Xd → ds.length + 1 = ps.length)
    (hbody : ∀ (cdv : Value) (A : Around) (fr : List Env) (s : Shared) (H : Hp) (E : XK), Room k (A.deeper (envOfC qual scope s.heap.objs.size f cdv)) → (A.deeper (envOfC qual scope s.heap.objs.size f cdv)).guards = some [] →
      DSs none (fun cls d _ H' => E cls d H') (cxOf (L2.CX P w) P w K mg base N qual scope f cdv A fr s H E) body wb)
    (hw : ∀ ds μ Q Xd (a : Addr), sp ds μ Q Xd → wb (defI c a Q Xd) (startI N c a ds) μ) : FnG P w K mg base (k + 1) f fd ps (toSpI ⟨K, mg, none⟩ c sp) := by
  refine fnG_of F S (fun vs H Q E h => ?_) (fun cdv A outer s H vs Q E hr hgd h => ?_)
  · obtain ⟨a, us, C, dx, Z, m, μ, ds, Q', Xd, rfl, _, _, _, _, r, q, _⟩ := h
    rw [List.length_cons, ← r.len]
    exact len _ _ _ _ q
  · refine ⟨_, hbody cdv A outer s H E hr hgd, ?_⟩
    obtain ⟨a, us, C, dx, Z, m, μ, ds, Q', Xd, rfl, g, hx, nz, M, r, q, kq, kx⟩ := h
    refine ⟨Z, m, startI N c a ds, μ, defI c a Q' Xd, .startI g hx nz M r, hw ds μ Q' Xd a q, fun σ' H' P => ?_, fun v H' P => ?_, fun σ' H' P => ?_, fun σ' H' P => ?_, fun cls d σ' H' P => ?_⟩
    · obtain ⟨m', ρ', μ', S', s', q'⟩ := P
      obtain ⟨ks, es, h0, q2⟩ := initEnd_of q'
      obtain ⟨_, _, hc⟩ := S'.own 0 a _ h0
      have z := s'.same
      rw [startI_ownW] at z
      have sub : ∀ b, addZ Z a b → ownW Z σ' ρ' b := fun b h => by
        rcases h with h | h
        · exact .inl h
        · subst h; exact .inr ⟨0, _, h0⟩
      have sm := vis_mono (m := m') (H := H') sub
      exact kq _ ⟨m', ks, es, μ', s'.pre, s'.hid, S'.mu.less sub, z.trans sm, hc.keep (List.prefix_refl _) sm rfl, q2⟩
    · obtain ⟨m', d, μ', h1, h2, h3, h4, h5, h6⟩ := P
      exact h6.elim
    · obtain ⟨m', ρ', μ', S', s', q'⟩ := P
      exact q'.elim
    · obtain ⟨m', ρ', μ', S', s', q'⟩ := P
      exact q'.elim
    · obtain ⟨m', c', ks, es, ρ', μ', C', dd, vs', S', s', e1, e2, e3, e4, e5, e6, q'⟩ := P
      have z := s'.same
      rw [startI_ownW] at z
      exact kx _ _ _ ⟨m', c', ks, es, μ', C', dd, vs', s'.pre, s'.hid, S'.mu.out_own, z.trans vis_own, e1, e2, e3, vis_own _ _ e4, e5, Reps.mono (List.prefix_refl _) vis_own _ _ e6, q'⟩
end
/-! made -/
section
variable {ex : Option (Addr × Addr × Addr)} {W : WX} {X : Cx} {e o : Expr} {es : List Expr} {wa wo : WE} {ws : WA} {pos p apos : Pos} {k : Nat} {f C : Addr} {fd : FuncData} {ps : List Str} {c : Str}
theorem run_makeG {sp : Sp} {pins : List (Addr × Obj)} {σ : L2.St} {H : Hp} {s : Shared} {Q : VK} {us : List Value} {vs : List V} (M : Mk X.K C f) (F : FnG X.prog X.w X.K X.mg X.base k f fd ps sp) (hr : Room (k + 1) X.A) (hgd : X.A.guards = some []) (hb : Binds X.K fd ps [])
    (tk : Takes X W) (I : Inv X pins σ H s) (r : Vals vs us)
    (h : ∀ x dx, H x = none → H dx = none → dx ≠ x → sp (.ref x :: vs) (upd (upd H dx (.own x)) x (.ins C dx [])) (fun v H2 => v = .non ∧ Q (.ref x) H2) (L2.WE W σ)) :
    wpAny (model X.prog X.w) X.A (call (.ref C) us) (EP X pins σ Q) X.xe s := by
  have hq := h (s.heap.objs.size + 1) s.heap.objs.size (I.hok.fresh (Nat.le_succ _)) (I.hok.fresh (Nat.le_refl _)) (Nat.ne_of_lt (Nat.lt_succ_self _))
  have I2 := Inv.made (C := C) I
  have r2 : Vals (V.ref (s.heap.objs.size + 1) :: vs) (Value.ref (s.heap.objs.size + 1) :: us) := .cons rfl r
  have hl : (Value.ref (s.heap.objs.size + 1) :: us).length = ps.length := r2.length.symm.trans (F.len _ _ _ _ hq)
  have bd := hb _ (Value.ref (s.heap.objs.size + 1) :: us) I2.kIn (by simpa using hl)
  rw [List.append_nil] at bd
  refine wpAny_call (make_map (f := f) I.kIn M.makes M.init (beq_iff_eq.mp M.fn) (codeAny_mono (F.run _ X.stack _ _ ⟨Value.ref (s.heap.objs.size + 1) :: us, []⟩ (Value.ref (s.heap.objs.size + 1) :: us) _ _ _ (hr.make C us []) hgd (I2.env0.make C us []) bd r2 hq) fun res s2 hres => ?_))
  match res, hres with
  | .error er, hres => exact passAt tk σ pins _ _ er s2 I2 hres
  | .ok (.ret u), hres =>
    obtain ⟨v, H', I3, rv, ev, q3⟩ := I2.after hres
    subst ev
    exact ⟨rv, ⟨V.ref (s.heap.objs.size + 1), H', I3, rfl, q3⟩⟩
/-- C(..): the made thing as a datum; as a cell -/
def wMake (c : Str) (sp : ISp) (wa : WA) : WE := fun ρ μ Q Xd => wa ρ μ (fun ds μ1 => sp ds μ1 (fun ks es μ2 => Q (.obj c ks es) μ2) Xd) Xd
def wMakeC (c : Str) (sp : ISp) (wa : WA) : WE := fun ρ μ Q Xd => wa ρ μ (fun ds μ1 => sp ds μ1 (fun ks es μ2 => Q (.loc μ2.length) (μ2 ++ [.ins c ks es])) Xd) Xd
theorem made_in {G : Gx} {Z : Addr → Prop} {m : List Addr} {μ : Mu} {H : Hp} (M : MuOk G Z m μ H) {x dx C : Addr} (nx : H x = none) (nd : H dx = none) (ne : dx ≠ x) :
    ¬ Z x ∧ MuOk G (addZ Z x) m μ (upd (upd H dx (.own x)) x (.ins C dx [])) ∧ Same (vis Z m H) (vis (addZ Z x) m (upd (upd H dx (.own x)) x (.ins C dx []))) ∧ ∀ z, Z z → upd (upd H dx (.own x)) x (.ins C dx []) z = H z := by
  have s1 := Step.laid (o := .own x) M nd
  have nx' : upd H dx (.own x) x = none := by rw [upd_ne (Ne.symm ne)]; exact nx
  obtain ⟨M2, sm⟩ := MuOk.hide (o := .ins C dx []) s1.mu nx'
  have nz : ¬ Z x := fun z => M.hw x z nx
  refine ⟨nz, M2, s1.same.trans sm, fun z hz => ?_⟩
  have hb : z ≠ x := fun q => nz (q ▸ hz)
  exact (upd_ne hb).trans (s1.hid z hz)
theorem lift_make {G : Gx} {sp : ISp} {b : Bool} (hm : G.mg c = some (.ref C)) {σ : L2.St} {H : Hp} {Q' : VK} (q : lift G W (if b = true then wMake c sp ws else wMakeC c sp ws) σ H Q') :
    liftA G W ws σ H fun vs H1 => ∀ x dx, H1 x = none → H1 dx = none → dx ≠ x → toSpI G c sp (.ref x :: vs) (upd (upd H1 dx (.own x)) x (.ins C dx [])) (fun v H2 => v = .non ∧ Q' (.ref x) H2) (L2.WE W σ) := by
  obtain ⟨Z, m, ρ, μ, Q, Xd, S, q, k, kx⟩ := q
  cases b with
  | true =>
    rw [if_pos rfl] at q
    refine ⟨Z, m, ρ, μ, _, Xd, S, q, fun vs H1 P x dx nx nd ne => ?_, kx⟩
    obtain ⟨m1, ds, μ1, s1, r1, q1⟩ := P
    obtain ⟨nz, M2, sm, hid⟩ := made_in (C := C) s1.mu nx nd ne
    refine ⟨x, vs, C, dx, _, m1, μ1, ds, _, Xd, rfl, hm, upd_same, nz, M2, Reps.mono (List.prefix_refl _) sm _ _ r1, q1, fun H' P => ⟨rfl, k _ _ (VPost.from s1 ?_)⟩, fun cls d H' P => kx cls d H' (XPost.from s1 ?_)⟩
    · obtain ⟨m', ks, es, μ', h1, h2, h3, h4, h5, h6⟩ := P
      have sub : ∀ b, ownW Z σ ρ b → addZ (ownW Z σ ρ) x b := fun b h => .inl h
      refine ⟨m', _, μ', ⟨h1, fun z hz => (h2 z hz).trans (hid z hz), h3.less sub, (sm.trans h4).trans (vis_mono sub)⟩, ?_, h6⟩
      exact cellD_rep h5 rfl (vis_mono sub) fun o ho => vis_some.mpr ⟨nz, fun q => h3.out x q (.inr rfl), ho⟩
    · obtain ⟨m', c', ks, es, μ', C', dd, vs', h1, h2, h3, h4, e1, e2, e3, e4, e5, e6, h6⟩ := P
      exact ⟨m', c', ks, es, μ', C', dd, vs', ⟨h1, fun z hz => (h2 z hz).trans (hid z hz), h3, sm.trans h4⟩, e1, e2, e3, e4, e5, e6, h6⟩
  | false =>
    rw [if_neg Bool.false_ne_true] at q
    refine ⟨Z, m, ρ, μ, _, Xd, S, q, fun vs H1 P x dx nx nd ne => ?_, kx⟩
    obtain ⟨m1, ds, μ1, s1, r1, q1⟩ := P
    obtain ⟨nz, M2, sm, hid⟩ := made_in (C := C) s1.mu nx nd ne
    refine ⟨x, vs, C, dx, _, m1, μ1, ds, _, Xd, rfl, hm, upd_same, nz, M2, Reps.mono (List.prefix_refl _) sm _ _ r1, q1, fun H' P => ⟨rfl, k _ _ (VPost.from s1 ?_)⟩, fun cls d H' P => kx cls d H' (XPost.from s1 ?_)⟩
    · obtain ⟨m', ks, es, μ', h1, h2, h3, h4, h5, h6⟩ := P
      have sub : ∀ b, ownW Z σ ρ b → addZ (ownW Z σ ρ) x b := fun b h => .inl h
      have sm2 : vis (ownW Z σ ρ) (m' ++ [x]) H' = vis (addZ (ownW Z σ ρ) x) m' H' := by
        funext b
        unfold vis addZ
        by_cases hb : (ownW Z σ ρ b ∨ b = x) ∨ b ∈ m'
        · rw [if_pos hb, if_pos]
          rcases hb with (h | h) | h
          · exact .inl h
          · exact .inr (by simp [h])
          · exact .inr (by simp [h])
        · rw [if_neg hb, if_neg]
          rintro (h | h)
          · exact hb (.inl (.inl h))
          · rcases List.mem_append.mp h with q | q
            · exact hb (.inr q)
            · exact hb (.inl (.inr (by simpa using q)))
      have nm : x ∉ m' := fun q => h3.out x q (.inr rfl)
      have pre : m' <+: m' ++ [x] := List.prefix_append _ _
      refine ⟨m' ++ [x], _, μ' ++ [.ins c ks es], ⟨h1.trans pre, fun z hz => (h2 z hz).trans (hid z hz), ⟨by simp [h3.len], ?_, fun a ha => ?_, fun z hz => h3.hw z (.inl hz), fun n d a hd ha => ?_⟩, by rw [sm2]; exact sm.trans h4⟩, ?_, h6⟩
      · rw [List.nodup_append]
        refine ⟨h3.nd, by simp, fun a ha b hb => ?_⟩
        rw [List.mem_singleton] at hb
        subst hb
        exact fun e => nm (e ▸ ha)
      · rcases List.mem_append.mp ha with q | q
        · exact fun z => h3.out a q (.inl z)
        · rw [List.mem_singleton] at q; subst q; exact nz
      · rw [sm2]
        by_cases hn : n < m'.length
        · rw [List.getElem?_append_left hn] at ha
          rw [List.getElem?_append_left (by rw [← h3.len]; exact hn)] at hd
          exact (h3.cell n d a hd ha).keep pre (Same.refl _) rfl
        · have hlt := (List.getElem?_eq_some_iff.mp ha).1
          have e : n = m'.length := by simp at hlt; omega
          subst e
          rw [List.getElem?_concat_length] at ha
          rw [h3.len, List.getElem?_concat_length] at hd
          cases ha
          cases hd
          exact h5.keep pre (Same.refl _) rfl
      · rw [Rep]
        exact ⟨x, rfl, by rw [← h3.len]; exact List.getElem?_concat_length⟩
    · obtain ⟨m', c', ks, es, μ', C', dd, vs', h1, h2, h3, h4, e1, e2, e3, e4, e5, e6, h6⟩ := P
      exact ⟨m', c', ks, es, μ', C', dd, vs', ⟨h1, fun z hz => (h2 z hz).trans (hid z hz), h3, sm.trans h4⟩, e1, e2, e3, e4, e5, e6, h6⟩
theorem de_makeB (b : Bool) {x : Str} {sp : ISp} (M : Mk X.K C f) (F : FnG X.prog X.w X.K X.mg X.base k f fd ps (toSpI (gx X ex) x sp)) (hr : Room (k + 1) X.A) (hgd : X.A.guards = some []) (hg : Gl X x) (hm : X.mg x = some (.ref C)) (hb : Binds X.K fd ps [])
    (tk : Takes X W) (ha : DA ex W X (e :: es) ws) (hdb : (x == ("__debug__" : Str)) = false := by decide)
    (he : starEach (e :: es) X.env = (false, eval e X.env) :: starEach es X.env := by rfl) (hpl : (backTo pos (starEach es X.env)).any (·.1) = false := by rfl) :
    DE ex W X (.Call (.Name x p) (e :: es) [] pos) (if b = true then wMake x sp ws else wMakeC x sp ws) := by
  refine ⟨fun pins s σ H Q I h => ?_⟩
  refine wpAny_Call_Name_kw (ld_glob I hg hm ?_ hdb)
  refine PySem.W.callWith_K (h₀ := X.base) I.ok.mod.kin M.kp (thn (ha.run pos pins s σ H _ I (lift_make (G := gx X ex) hm h)) fun us s1 ⟨vs, H1, I1, r, q⟩ => ⟨I1.kIn, ?_⟩) he hpl
  exact run_makeG M F hr hgd hb tk I1 r q
theorem de_make {x : Str} {sp : ISp} (M : Mk X.K C f) (F : FnG X.prog X.w X.K X.mg X.base k f fd ps (toSpI (gx X ex) x sp)) (hr : Room (k + 1) X.A) (hgd : X.A.guards = some []) (hg : Gl X x) (hm : X.mg x = some (.ref C)) (hb : Binds X.K fd ps [])
    (tk : Takes X W) (ha : DA ex W X (e :: es) ws) (hdb : (x == ("__debug__" : Str)) = false := by decide)
    (he : starEach (e :: es) X.env = (false, eval e X.env) :: starEach es X.env := by rfl) (hpl : (backTo pos (starEach es X.env)).any (·.1) = false := by rfl) :
    DE ex W X (.Call (.Name x p) (e :: es) [] pos) (wMake x sp ws) := de_makeB true M F hr hgd hg hm hb tk ha hdb he hpl
end
end DL

set_option Elab.async false
set_option linter.all false
set_option maxRecDepth 100000
set_option maxHeartbeats 4000000
set_option autoImplicit false
namespace DL
open PySem PySem.Spec PyProof.Rows L2
/-! ### methods -/
def hasCls (c m : Str) (d : D) (μ : Mu) (Q : Prop) : Prop := match insD d μ with
  | some (c', ks, _) => c' = c ∧ ks.contains m = false ∧ Q
  | none => False
theorem hasCls_of {c m : Str} {d : D} {μ : Mu} {Q : Prop} (h : hasCls c m d μ Q) : ∃ ks ds, insD d μ = some (c, ks, ds) ∧ ks.contains m = false ∧ Q := by
  unfold hasCls at h
  split at h
  · rename_i e
    obtain ⟨rfl, h⟩ := h
    exact ⟨_, _, e, h⟩
  · exact h.elim
theorem lookup_zip_none {α : Type} {m : Str} : ∀ {ks : List Str} {vs : List α}, ks.contains m = false → (ks.zip vs).lookup m = none
  | [], _, _ => by simp
  | _ :: _, [], _ => by simp
  | k :: ks, v :: vs, h => by
    rw [List.contains_cons, Bool.or_eq_false_iff] at h
    rw [List.zip_cons_cons, List.lookup_cons, h.1]
    exact lookup_zip_none h.2
/-- o.m(..) -/
def wMeth (c m : Str) (sp : DSp) (wo : WE) (wa : WA) : WE := fun ρ μ Q Xd => wo ρ μ (fun x μ1 => hasCls c m x μ1 (wa ρ μ1 (fun ds μ2 => sp (x :: ds) μ2 Q Xd) Xd)) Xd
section
variable {ex : Option (Addr × Addr × Addr)} {W : WX} {X : Cx} {e o : Expr} {es : List Expr} {wa wo : WE} {ws : WA} {pos p apos : Pos} {k : Nat} {f C : Addr} {fd : FuncData} {ps : List Str} {c m : Str} {sp : DSp}
def tMethG (K : PySem.W.Frag) (C : Addr) (m : Str) (sp : Sp) (W : WX) (to : TE) (ta : TA) : TE := fun σ H Q => to σ H fun x H1 => ∃ a dx fs, x = .ref a ∧ H1 a = some (.ins C dx fs) ∧ fs.lookup m = none ∧ ta σ H1 fun vs H2 => sp (.ref a :: vs) H2 Q (L2.WE W σ)
theorem pe_methG {sp : Sp} {to : TE} {ta : TA} {pl : Sem Bool} (he : PE X o to) (hc : Cls X.K C) (hm : Meth X.K C m f) (F : FnG X.prog X.w X.K X.mg X.base k f fd ps sp) (hr : Room k X.A) (hgd : X.A.guards = some []) (hb : Binds X.K fd ps []) (tk : Takes X W) (ha : PA X (e :: es) ta)
    (hst : starEach (e :: es) X.env = (false, eval e X.env) :: starEach es X.env) (hpl : (backTo pos (starEach es X.env)).any (·.1) = false)
    (ht : eval (.Call (.Attribute o m apos) (e :: es) [] pos) X.env = (do
      let ov ← eval o X.env
      standAt apos.atName
      let (f, first) ← holding [ov] (getMethod ov m pl)
      callWith pos f first (backTo pos (starEach (e :: es) X.env)) (backToKw pos (keywordEach [] X.env)))) :
    PE X (.Call (.Attribute o m apos) (e :: es) [] pos) (tMethG X.K C m sp W to ta) := by
  refine ⟨fun pins s σ H Q I h => ?_⟩
  refine PySem.W.methodCall_KW (pl := pl) (thn (he.run pins s σ H _ I h) fun u s1 hx => ?_) ht
  obtain ⟨x, H1, I1, rx, a, dx, fs, ex, ea, l, q⟩ := hx
  subst ex
  obtain rfl : u = Value.ref a := rx
  refine getmeth_ok I1 ea hc hm l ?_
  refine PySem.W.callWith_K (first := [.ref a]) (h₀ := X.base) I.ok.mod.kin hm.kp (thn (ha.run pos pins s1 σ H1 _ I1 q) fun us s2 hx => ?_) hst hpl
  obtain ⟨vs, H2, I2, r, q2⟩ := hx
  exact ⟨I2.kIn, run_fnG (us := .ref a :: us) (vs := .ref a :: vs) F hr hgd hb tk I2 (.cons rfl r) q2⟩
theorem lift_meth {G : Gx} {C : Addr} (hmC : G.mg c = some (.ref C)) {σ : L2.St} {H : Hp} {Q' : VK} (q : lift G W (wMeth c m sp wo ws) σ H Q') : tMethG G.K C m (toSp G sp) W (lift G W wo) (liftA G W ws) σ H Q' := by
  obtain ⟨Z, m0, ρ, μ, Q, Xd, S, q, k, kx⟩ := q
  refine ⟨Z, m0, ρ, μ, _, Xd, S, q, fun v H1 P => ?_, kx⟩
  obtain ⟨m1, x, μ1, s1, r1, q1⟩ := P
  obtain ⟨ks, ds, hi, hks, q2⟩ := hasCls_of q1
  obtain ⟨a, C', dx, vs, rfl, g, ha, l, rs⟩ := ins_rep s1.mu r1 hi
  rw [hmC] at g
  cases g
  refine ⟨a, dx, _, rfl, ha, lookup_zip_none hks, Z, m1, ρ, μ1, _, Xd, S.step s1, q2, fun us H2 P => ?_, fun cls d H' P => kx cls d H' (XPost.from s1 P)⟩
  obtain ⟨m2, es, μ2, s2, r2, q3⟩ := P
  exact ⟨_, m2, μ2, x :: es, Q, Xd, s2.mu, Reps.cons (Rep.mono s2.pre s2.same _ _ r1) r2, q3, fun v H' P => k v H' (VPost.from (s1.trans s2) P), fun cls d H' P => kx cls d H' (XPost.from (s1.trans s2) P)⟩
theorem de_meth {pl : Sem Bool} (hmC : X.mg c = some (.ref C)) (hc : Cls X.K C) (hm : Meth X.K C m f) (F : FnG X.prog X.w X.K X.mg X.base k f fd ps (toSp (gx X ex) sp)) (hr : Room k X.A) (hgd : X.A.guards = some []) (hb : Binds X.K fd ps []) (tk : Takes X W) (he : DE ex W X o wo) (ha : DA ex W X (e :: es) ws)
    (hst : starEach (e :: es) X.env = (false, eval e X.env) :: starEach es X.env := by rfl) (hpl : (backTo pos (starEach es X.env)).any (·.1) = false := by rfl)
    (ht : eval (.Call (.Attribute o m apos) (e :: es) [] pos) X.env = (do
      let ov ← eval o X.env
      standAt apos.atName
      let (f, first) ← holding [ov] (getMethod ov m pl)
      callWith pos f first (backTo pos (starEach (e :: es) X.env)) (backToKw pos (keywordEach [] X.env))) := by rfl) :
    DE ex W X (.Call (.Attribute o m apos) (e :: es) [] pos) (wMeth c m sp wo ws) := pe_weak (pe_methG he hc hm F hr hgd hb tk ha hst hpl ht) fun _ _ _ q => lift_meth (G := gx X ex) hmC q
end
/-! ### own operators -/
/-- what of the text an operator of a class needs: the def; beside a value of a built-in type -/
structure OpFn (K : PySem.W.Frag) (C : Addr) (op : Operator) (f : Addr) : Prop where
  first : PySem.W.selfFirst K C = true
  at_ : PySem.W.findIn K (.ref C) (PySem.dunder op.info.2) = some (some (.ref f))
  fn : PySem.W.isFn K (.ref f) = true
  back : ∃ rc, PySem.W.findIn K (.ref C) (PySem.dunderR op.info.2) = some rc ∧ (rc = none ∨ ∃ g : Addr, rc = some (.ref g))
structure OpTy (K : PySem.W.Frag) (C : Addr) (op : Operator) (T : String) : Prop where
  fo : ∃ r, PySem.W.findIn K (.type T) (PySem.dunder op.info.2) = some r
  ro : ∃ r, PySem.W.findIn K (.type T) (PySem.dunderR op.info.2) = some r
  sub : PySem.W.subIn K (.type T) (.ref C) = some false

section
open PySem.W
variable {prog : Program} {w : World} {A : Around} {E : Value → Shared → Prop} {s : Shared} {K : Frag} {x C g : Addr} {ox : Obj} {od : Option Obj} {T : String}
end
/-- the other operand: of a built-in type that is listed, or of the class itself -/
def othTy (c : Str) (Ts : List String) (y : D) (μ : Mu) (Q : Prop) : Prop := match tyD y μ with
  | some (.b T) => T ∈ Ts ∧ Q
  | some (.c c') => c' = c ∧ Q
  | none => False
def isCls (c : Str) (d : D) (μ : Mu) (Q : Prop) : Prop := match insD d μ with
  | some (c', _, _) => c' = c ∧ Q
  | none => False
theorem isCls_of {c : Str} {d : D} {μ : Mu} {Q : Prop} (h : isCls c d μ Q) : ∃ ks ds, insD d μ = some (c, ks, ds) ∧ Q := by
  unfold isCls at h
  split at h
  · rename_i e
    obtain ⟨rfl, h⟩ := h
    exact ⟨_, _, e, h⟩
  · exact h.elim
/-- x op y by x's own def -/
def wBinO (c : Str) (Ts : List String) (sp : DSp) (wa wb : WE) : WE := fun ρ μ Q Xd => wa ρ μ (fun x μ1 => wb ρ μ1 (fun y μ2 => isCls c x μ2 (othTy c Ts y μ2 (sp [x, y] μ2 Q Xd))) Xd) Xd
section
variable {ex : Option (Addr × Addr × Addr)} {W : WX} {X : Cx} {a b : Expr} {wa wb : WE} {pos : Pos} {k : Nat} {f C : Addr} {fd : FuncData} {ps : List Str} {c : Str} {sp : DSp} {Ts : List String}
end
end DL

set_option Elab.async false
set_option linter.all false
set_option maxRecDepth 100000
set_option maxHeartbeats 4000000
set_option autoImplicit false
namespace DL
open PySem PySem.Spec PyProof.Rows L2
/-! ### what can be called, by name -/
section
variable {P : Program} {w : World} {K : PySem.W.Frag} {mg : Str → Option Value} {base : Heap}
structure CallD (P : Program) (w : World) (K : PySem.W.Frag) (mg : Str → Option Value) (base : Heap) (k : Nat) (x : Str) (ps : List Str) (sp : DSp) : Prop where
  ex : ∃ f fd, mg x = some (.ref f) ∧ PySem.W.keepIn K (.ref f) = true ∧ Binds K fd ps [] ∧ FnG P w K mg base k f fd ps (toSp ⟨K, mg, none⟩ sp)
structure MethD (P : Program) (w : World) (K : PySem.W.Frag) (mg : Str → Option Value) (base : Heap) (k : Nat) (c m : Str) (ps : List Str) (sp : DSp) : Prop where
  ex : ∃ C f fd, mg c = some (.ref C) ∧ Cls K C ∧ Meth K C m f ∧ Binds K fd ps [] ∧ FnG P w K mg base k f fd ps (toSp ⟨K, mg, none⟩ sp)
structure MakeD (P : Program) (w : World) (K : PySem.W.Frag) (mg : Str → Option Value) (base : Heap) (k : Nat) (c : Str) (ps : List Str) (sp : ISp) : Prop where
  ex : ∃ C f fd, mg c = some (.ref C) ∧ Mk K C f ∧ Binds K fd ps [] ∧ FnG P w K mg base k f fd ps (toSpI ⟨K, mg, none⟩ c sp)
structure OperD (P : Program) (w : World) (K : PySem.W.Frag) (mg : Str → Option Value) (base : Heap) (k : Nat) (c : Str) (op : Operator) (Ts : List String) (ps : List Str) (sp : DSp) : Prop where
  ex : ∃ C f fd, mg c = some (.ref C) ∧ InsT K C ∧ OpFn K C op f ∧ (∀ T ∈ Ts, OpTy K C op T) ∧ Binds K fd ps [] ∧ FnG P w K mg base k f fd ps (toSp ⟨K, mg, none⟩ sp)
structure FldD (K : PySem.W.Frag) (mg : Str → Option Value) (c f : Str) : Prop where
  ex : ∃ C, mg c = some (.ref C) ∧ Cls K C ∧ NoAttr K C f
end
section
variable {W : WX} {X : Cx} {e o : Expr} {es : List Expr} {wa wo : WE} {ws : WA} {pos p apos : Pos} {k j : Nat} {ps : List Str} {x c m : Str} {sp : DSp}
theorem de_callD (C : CallD X.prog X.w X.K X.mg X.base k x ps sp) (hr : Room j X.A) (hkj : k ≤ j) (hgd : X.A.guards = some []) (hg : Gl X x) (tk : Takes X W) (ha : DA none W X (e :: es) ws) (hdb : (x == ("__debug__" : Str)) = false := by decide)
    (he : starEach (e :: es) X.env = (false, eval e X.env) :: starEach es X.env := by rfl) (hpl : (backTo pos (starEach es X.env)).any (·.1) = false := by rfl) : DE none W X (.Call (.Name x p) (e :: es) [] pos) (wCall sp ws) := by
  obtain ⟨f, fd, h1, h2, h3, F⟩ := C.ex
  exact de_call F (hr.mono hkj) hgd hg h1 h2 h3 tk ha hdb he hpl
theorem de_methD {pl : Sem Bool} (C : MethD X.prog X.w X.K X.mg X.base k c m ps sp) (hr : Room j X.A) (hkj : k ≤ j) (hgd : X.A.guards = some []) (tk : Takes X W) (he : DE none W X o wo) (ha : DA none W X (e :: es) ws)
    (hst : starEach (e :: es) X.env = (false, eval e X.env) :: starEach es X.env := by rfl) (hpl : (backTo pos (starEach es X.env)).any (·.1) = false := by rfl)
    (ht : eval (.Call (.Attribute o m apos) (e :: es) [] pos) X.env = (do
      let ov ← eval o X.env
      standAt apos.atName
      let (f, first) ← holding [ov] (getMethod ov m pl)
      callWith pos f first (backTo pos (starEach (e :: es) X.env)) (backToKw pos (keywordEach [] X.env))) := by rfl) : DE none W X (.Call (.Attribute o m apos) (e :: es) [] pos) (wMeth c m sp wo ws) := by
  obtain ⟨Ca, f, fd, h1, h2, h3, h4, F⟩ := C.ex
  exact de_meth h1 h2 h3 F (hr.mono hkj) hgd h4 tk he ha hst hpl ht
theorem de_makeD {isp : ISp} (C : MakeD X.prog X.w X.K X.mg X.base k x ps isp) (hr : Room j X.A) (hkj : k + 1 ≤ j) (hgd : X.A.guards = some []) (hg : Gl X x) (tk : Takes X W) (ha : DA none W X (e :: es) ws) (hdb : (x == ("__debug__" : Str)) = false := by decide)
    (he : starEach (e :: es) X.env = (false, eval e X.env) :: starEach es X.env := by rfl) (hpl : (backTo pos (starEach es X.env)).any (·.1) = false := by rfl) : DE none W X (.Call (.Name x p) (e :: es) [] pos) (wMake x isp ws) := by
  obtain ⟨Ca, f, fd, h1, h2, h3, F⟩ := C.ex
  exact de_make h2 F (hr.mono hkj) hgd hg h1 h3 tk ha hdb he hpl
theorem de_fldD {f : Str} (C : FldD X.K X.mg c f) (he : DE none W X e wa) (hb : attributeBase e f X.env (eval e X.env) = eval e X.env := by rfl) : DE none W X (.Attribute e f pos) (w1 (fFld c f) wa) := by
  obtain ⟨Ca, h1, h2, h3⟩ := C.ex
  exact de_fld h1 h2 h3 he hb
theorem ds_fldOD {i : Nat} {f : Str} {value : Expr} {p0 pos' : Pos} (C : FldD X.K X.mg c f) (hN : X.N[i]? = some x) (hv : DE none W X value wa) (hs : swapsWith value (some (.Attribute (.Name x p0) f pos')) pos.line X.env = pure false := by rfl)
    (hvis : Vis X.env.scope x := by first | exact Or.inl rfl | exact Or.inr (Or.inl rfl) | exact Or.inr (Or.inr rfl)) (hd : (x == ("__debug__" : Str)) = false := by decide) (hcd : (x == ("__classdict__" : Str)) = false := by decide) :
    DSt none W X (.Assign [.Attribute (.Name x p0) f pos'] value pos) (sFldO c i f wa) := by
  obtain ⟨Ca, h1, h2, h3⟩ := C.ex
  exact ds_fldO h1 h2 h3 hN hv hs hvis hd hcd
theorem room64 {A : Around} (h : Room k A) : A.units + 64 < cLine := by have := h.un; omega
theorem room65 {A : Around} (h : Room k A) : A.units + 65 < cLine := by have := h.un; omega
end
/-! ### one rule for several kinds -/
def F2.or (f g : F2) : F2 := fun x y μ Q => f x y μ Q ∨ g x y μ Q
theorem s2_or {G : Gx} {r r' : R2} {f g : F2} (h1 : S2 G r f) (h2 : S2 G r' g) : S2 G (fun x y H Q => r x y H Q ∨ r' x y H Q) (F2.or f g) := by
  intro Z m μ H x y u v Q Q' M rx ry h k
  rcases h with h | h
  · exact .inl (h1 Z m μ H x y u v Q Q' M rx ry h k)
  · exact .inr (h2 Z m μ H x y u v Q Q' M rx ry h k)
/-- + of ints or lists, * of ints or a list and an int -/
def fPlus : F2
  | .int i, .int j, μ, Q => Q (.int (i + j)) μ
  | .lst a, .lst b, μ, Q => a.length + b.length ≤ sizeLine ∧ Q (.lst (a ++ b)) μ
  | _, _, _, _ => False
def fTimes : F2
  | .int i, .int j, μ, Q => CM i j ∧ Q (.int (i * j)) μ
  | .lst a, .int n, μ, Q => -(2 ^ 63) ≤ n ∧ n < 2 ^ 63 ∧ a.length * n.toNat ≤ sizeLine ∧ Q (.lst (List.replicate n.toNat a).flatten) μ
  | _, _, _, _ => False
theorem S2.imp {G : Gx} {r : R2} {f g : F2} (h : S2 G r f) (k : ∀ x y μ Q, g x y μ Q → f x y μ Q) : S2 G r g := fun Z m μ H x y u v Q Q' M rx ry q kk => h Z m μ H x y u v Q Q' M rx ry (k _ _ _ _ q) kk
theorem s2_plus {G : Gx} : S2 G (fun x y H Q => rI0 (fun i j => .int (i + j)) x y H Q ∨ rCat x y H Q) fPlus := (s2_or s2_II0 s2_cat).imp fun x y μ Q h => by
  unfold fPlus at h
  split at h
  · exact .inl h
  · exact .inr h
  · exact h.elim
theorem s2_times {G : Gx} : S2 G (fun x y H Q => rI CM (fun i j => .int (i * j)) x y H Q ∨ rRep x y H Q) fTimes := (s2_or s2_II s2_rep).imp fun x y μ Q h => by
  unfold fTimes at h
  split at h
  · exact .inl h
  · exact .inr h
  · exact h.elim
section
variable {ex : Option (Addr × Addr × Addr)} {W : WX} {X : Cx} {a b : Expr} {wa wb : WE} {pos : Pos}
theorem de_plus (ha : DE ex W X a wa) (hb : DE ex W X b wb) : DE ex W X (.BinOp a .Add b pos) (w2 fPlus wa wb) := de_op (op_add.or op_cat) s2_plus ha hb
theorem de_times (ha : DE ex W X a wa) (hb : DE ex W X b wb) : DE ex W X (.BinOp a .Mult b pos) (w2 fTimes wa wb) := de_op (op_mulU.or op_rep) s2_times ha hb
end
/-! ### the end: the law's def at the script -/
theorem mu_none {G : Gx} {H : Hp} : MuOk G (fun _ => False) [] [] H := ⟨rfl, by simp, fun a h => by simp at h, fun z h => h.elim, fun n c a h _ => by simp at h⟩
theorem vis_none_all {H : Hp} : vis (fun _ => False) [] H = H := by
  funext b
  unfold vis
  rw [if_neg (by simp)]
theorem sp_start {K : PySem.W.Frag} {mg : Str → Option Value} {sp : DSp} {H : Hp} {a : Addr} {ns : List Int} (hS : SqL K H a (ns.map V.int)) (h : sp [.frl (ns.map D.int)] [] (fun d _ => d = .bl true) xF) :
    toSp ⟨K, mg, none⟩ sp [.ref a] H (fun v _ => v = .bl true) fun _ _ _ => False := by
  refine ⟨fun _ => False, [], [], _, _, _, mu_none, ?_, h, fun v H' P => ?_, fun cls d H' P => xpF P⟩
  · rw [vis_none_all]
    refine Reps.cons ?_ Reps.nil
    rw [Rep]
    exact ⟨a, _, rfl, hS, reps_ints ns⟩
  · obtain ⟨m', d, μ', s, r, rfl⟩ := P
    rw [Rep] at r
    exact r
theorem call_at {P : Program} {w : World} {K : PySem.W.Frag} {mg bm : Str → Option Value} {k : Nat} {fa sc : Addr} {fd : FuncData} {x : Str} {sp : Sp} {s1 : Shared} {vs : List Value} {ns : List Int}
    (kin : K.In s1.heap) (gl : s1.heap.Ns mainGlobals mg) (bl : s1.heap.Ns builtinsNs bm) (bb : ∀ y : Str, y ≠ "__name__" → bm y = bootBuiltins y) (nolim : s1.heap.NoLimit) (gens : s1.gens = #[])
    (at_ : s1.heap.get? sc = some { cls := .type "list", data := .seq vs.toArray }) (iv : IntsAre vs ns) (few : ns.length ≤ sizeLine) (room : Room k callerA)
    (F : ∀ base : Heap, K.In base → base.Ns mainGlobals mg → FnG P w K mg base k fa fd [x] sp) (bind : ∀ (s : Shared) (u : Value), BindsTo s fd ⟨[u], []⟩ [(x, u)])
    (holds : ∀ H : Hp, SqL K H sc (ns.map V.int) → sp [.ref sc] H (fun v _ => v = .bl true) fun _ _ _ => False) :
    codeAny (model P w) callerA (.call (.ref fa) ⟨[.ref sc], []⟩) (fun r s' => r = .ok (.ret (.bool true)) ∧ OldK s1.heap s'.heap ∧ s'.os = s1.os ∧ AllBare s'.gens) s1 := by
  have lenI := iv.length
  have main : ∀ H : Hp, (∀ b, H b = none ∨ ∃ o xs, H b = some (.frz o (.lst xs))) → SqL K H sc (ns.map V.int) → HOk P w H s1.heap → (∀ b, H b ≠ none → b = sc) → (H sc ≠ none → K.lookup sc = none) →
      codeAny (model P w) callerA (.call (.ref fa) ⟨[.ref sc], []⟩) (fun r s' => r = .ok (.ret (.bool true)) ∧ OldK s1.heap s'.heap ∧ s'.os = s1.os ∧ AllBare s'.gens) s1 := by
    intro H frz isL hok alone free
    have none_of : ∀ {b : Addr}, b ≠ sc → H b = none := fun {b} nb => by
      cases z : H b with
      | none => rfl
      | some u => exact absurd (alone b (by rw [z]; simp)) nb
    have seen : ∀ {b : Addr} {o : Obj}, s1.heap.get? b = some o → H b = none → (hidT s1.heap H).get? b = some o := fun e n => hidT_get e n
    have notSc : ∀ {b : Addr} {o : Obj} {es : Array DictEntry} {ep : Nat}, s1.heap.get? b = some o → o.data = .dict es ep → b ≠ sc := fun {b o es ep} e d z => by
      subst z
      rw [at_] at e
      cases e
      cases (show Data.seq vs.toArray _ = Data.dict es ep from d)
    have names : ∀ {b : Addr} {m : Str → Option Value}, s1.heap.Ns b m → (hidT s1.heap H).Ns b m := fun {b m} hn => by
      obtain ⟨o, es, ep, e, d, r⟩ := hn
      exact ⟨o, es, ep, seen e (none_of (notSc e d)), d, r⟩
    have inB : K.In (hidT s1.heap H) := fun b o e => seen (kin b o e) (by
      cases z : H b with
      | none => rfl
      | some u =>
        have eb := alone b (by rw [z]; simp)
        subst eb
        rw [free (by rw [z]; simp)] at e
        cases e)
    obtain ⟨lm, l1, l2⟩ := nolim
    have md : Mod K mg (hidT s1.heap H) := ⟨inB, names gl, ⟨bm, names bl, bb⟩, ⟨lm, names l1, l2⟩⟩
    have env : Env0 P w K mg (hidT s1.heap H) callerA [] s1 H := ⟨rfl, md, fun b o e => of_hidT e, Nat.le_of_eq (hidT_size _ _), trivial, fun b hb => by simp [frs] at hb, hok, .of_eq gens⟩
    refine codeAny_mono ((F _ inB (names gl)).run callerA [] s1 H ⟨[.ref sc], []⟩ [.ref sc] [.ref sc] _ _ room rfl env (bind s1 (.ref sc)) (.cons rfl .nil) (holds H isL)) fun res s2 out => ?_
    match res, out with
    | .error er, out =>
      obtain ⟨_, _, _, _, _, _, _, _, _, _, _, _, z⟩ := out
      exact z.elim
    | .ok (.ret u), out =>
      obtain ⟨v, H', os, bare, un, hok', rv, ev⟩ := out
      have ev' : v = .bl true := ev
      subst ev'
      obtain rfl : u = Value.bool true := rv
      refine ⟨rfl, OldK.of_keep fun b o e => ?_, os, bare⟩
      rcases frz b with z | ⟨ob, xs, z⟩
      · exact un.keep b o e z (by simp [frs]) (by simp)
      · obtain ⟨e1, _⟩ := hok b _ z
        obtain ⟨e2, _⟩ := hok' b _ (un.frzs b ob _ z)
        rw [e] at e1
        cases e1
        exact e2
  cases hk : K.lookup sc with
  | some o =>
    have e := kin sc o hk
    rw [at_] at e
    cases e
    have isL : SqL K (fun _ => none) sc (ns.map V.int) := .inr ⟨_, vs.toArray, _, hk, rfl, rfl, rfl, by rw [List.size_toArray, lenI]; exact few, by simpa using vals_ints iv⟩
    exact main (fun _ => none) (fun _ => .inl rfl) isL (fun b u z => nomatch z) (fun b z => absurd rfl z) (fun z => absurd rfl z)
  | none =>
    obtain ⟨HH, eq1, eq2⟩ : ∃ HH : Hp, (∀ b, b = sc → HH b = some (.frz { cls := .type "list", data := .seq vs.toArray } (.lst (ns.map V.int)))) ∧ ∀ b, b ≠ sc → HH b = none :=
      ⟨fun b => if b = sc then some (.frz { cls := .type "list", data := .seq vs.toArray } (.lst (ns.map V.int))) else none, fun b hb => if_pos hb, fun b hb => if_neg hb⟩
    refine main HH (fun b => ?_) (.inl (.inr ⟨_, eq1 sc rfl⟩)) (fun b u z => ?_) (fun b z => ?_) fun _ => hk
    · by_cases hb : b = sc
      · exact .inr ⟨_, _, eq1 b hb⟩
      · exact .inl (eq2 b hb)
    · by_cases hb : b = sc
      · rw [eq1 b hb] at z
        cases z
        subst hb
        exact ⟨at_, by rw [List.length_map]; exact few, vs, _, vals_ints iv, at_⟩
      · rw [eq2 b hb] at z
        cases z
    · by_cases hb : b = sc
      · exact hb
      · exact absurd (eq2 b hb) z
/-- the goal that the head leaves, from the promise of the law's def -/
theorem walk_ofD {l : PySem.W.OpenLaw} {n k : Nat} {q : Program} {loose : List Str} {XP : (Str → Option Value) → Heap → Prop} {YP : World → Heap → Prop} {d : DefRec} {x : Str} {sp : DSp}
    (most : l.most = some n) (small : n ≤ sizeLine) (nodef : d.params.defaults = []) (room : Room k callerA)
    (F : ∀ (w : World) (mg : Str → Option Value) (fa : Addr) (h : Heap), YP w h → h.Ns mainGlobals mg → mg d.name = some (.ref fa) →
      ∃ (K : PySem.W.Frag) (fd : FuncData), K.In h ∧ (∀ (s : Shared) (u : Value), BindsTo s fd ⟨[u], []⟩ [(x, u)]) ∧ ∀ base : Heap, K.In base → base.Ns mainGlobals mg → FnG l.prog w K mg base k fa fd [x] (toSp ⟨K, mg, none⟩ sp))
    (holds : ∀ ns : List Int, ns.length ≤ n → sp [.frl (ns.map D.int)] [] (fun d _ => d = .bl true) xF) : PySem.W.WalkO q loose XP YP l.row.toRowW d [] (fun f vs => PySem.call f vs) := by
  refine Att.attach_call most nodef fun w s0 s1 mg bm fa o pm cd doc a vs ns G Y ho hd hcd hmg hobj hints hlen hgens => ?_
  obtain ⟨K, fd, kin, bind, hF⟩ := F w mg fa _ Y G.T.g hmg
  exact call_at kin G.T.g G.T.b G.T.builtins G.T.nolimit hgens hobj hints (Nat.le_trans hlen small) room hF bind fun H hS => sp_start hS (holds ns hlen)
end DL

set_option Elab.async false
set_option linter.all false
set_option maxRecDepth 100000
set_option maxHeartbeats 4000000
set_option autoImplicit false
namespace DL
open PySem PySem.Spec PyProof.Rows L2
/-! ### isinstance by a table -/
abbrev IsiL := List ((TyN × TyN) × Bool)
def isiF (L : IsiL) (t u : TyN) : Option Bool := (L.find? fun e => decide (e.1 = (t, u))).map (·.2)
def tvK (K : PySem.W.Frag) : TyN → Value
  | .b n => .type n
  | .c c => .ref (He.ga K c)
def insB (K : PySem.W.Frag) (c : Str) : Bool := (He.Fa.cls c).ok K && (He.eqO (PySem.W.findIn K (.ref (He.ga K c)) "__class__") (some (some (.builtin "object.__class__"))) && (He.eqO (PySem.W.specialIn K (.builtin "object.__class__") "__get__") (some (some (.builtin "getset_descriptor.__get__"))) &&
  (decide (PySem.W.takesIn K (.builtin "object.__class__") = some true) && decide (PySem.W.mroIn K (He.ga K c) (.type "object") = some true))))
theorem insB_ok {K : PySem.W.Frag} {c : Str} (h : insB K c = true) : InsT K (He.ga K c) := by
  obtain ⟨h1, h⟩ := He.ba h
  obtain ⟨h2, h⟩ := He.ba h
  obtain ⟨h3, h⟩ := He.ba h
  obtain ⟨h4, h5⟩ := He.ba h
  exact ⟨He.cls_ok h1, He.eqO_ok h2, He.eqO_ok h3, of_decide_eq_true h4, of_decide_eq_true h5⟩
def tyB (K : PySem.W.Frag) : TyN → Bool
  | .b _ => true
  | .c c => (He.Fa.glo c).ok K && insB K c
def clB (K : PySem.W.Frag) : TyN → Bool
  | .b _ => true
  | .c c => (He.Fa.glo c).ok K
def isiB (L : IsiL) (K : PySem.W.Frag) : Bool := L.all fun e => tyB K e.1.1 && (clB K e.1.2 && decide (PySem.W.kitOne K (tvK K e.1.1) (tvK K e.1.2) = some e.2))
section
variable {K : PySem.W.Frag} {h : Heap} {mg : Str → Option Value} (X : K.In h) (G : h.Ns mainGlobals mg)
include X G
theorem tv_of {t : TyN} {v : Value} {ex : Option (Addr × Addr × Addr)} (c : clB K t = true) (hv : TyVal ⟨K, mg, ex⟩ t v) : v = tvK K t := by
  cases t with
  | b n => exact hv
  | c c0 =>
    obtain ⟨C, h1, rfl⟩ := hv
    have h1' : mg c0 = some (.ref C) := h1
    rw [He.glo_ok X G c] at h1'
    cases h1'
    rfl
theorem isiTab_of {L : IsiL} {ex : Option (Addr × Addr × Addr)} (c : isiB L K = true) : IsiTab ⟨K, mg, ex⟩ (isiF L) := by
  have get : ∀ {t u b}, isiF L t u = some b → tyB K t = true ∧ clB K u = true ∧ PySem.W.kitOne K (tvK K t) (tvK K u) = some b := fun {t u b} e => by
    unfold isiF at e
    obtain ⟨z, e1, e2⟩ := Option.map_eq_some_iff.mp e
    have m := List.mem_of_find?_eq_some e1
    have p : z.1 = (t, u) := by
      have q := List.find?_some e1
      exact of_decide_eq_true q
    obtain ⟨zz, bb⟩ := z
    cases p
    cases e2
    have q := List.all_eq_true.mp c _ m
    obtain ⟨q1, q⟩ := He.ba q
    obtain ⟨q2, q3⟩ := He.ba q
    exact ⟨q1, q2, of_decide_eq_true q3⟩
  have lo : ∀ {t}, tyB K t = true → clB K t = true := fun {t} e => by
    cases t with
    | b n => rfl
    | c c0 => exact (He.ba e).1
  refine ⟨fun t u b e tv uv ht hu => ?_, fun c0 u b e C g => ?_⟩
  · obtain ⟨q1, q2, q3⟩ := get e
    rw [tv_of X G (lo q1) ht, tv_of X G q2 hu]
    exact q3
  · obtain ⟨q1, _, _⟩ := get e
    obtain ⟨q2, q4⟩ := He.ba q1
    have g' : mg c0 = some (.ref C) := g
    rw [He.glo_ok X G q2] at g'
    cases g'
    exact insB_ok q4
end
/-! ### own operators -/
/-! ### names, compared -/
theorem str_iff (a b : String) : Str.ofString a = Str.ofString b ↔ a = b := by
  constructor
  · intro h
    rw [Str.ofString_eq_toList, Str.ofString_eq_toList] at h
    have h1 := congrArg (fun z : Str => z.cps.toList) h
    have h2 : a.toList.map Char.toNat = b.toList.map Char.toNat := by simpa using h1
    have inj : ∀ {l k : List Char}, l.map Char.toNat = k.map Char.toNat → l = k := by
      intro l
      induction l with
      | nil => intro k e; cases k with
        | nil => rfl
        | cons c k => cases e
      | cons c l ih => intro k e; cases k with
        | nil => cases e
        | cons d k =>
          rw [List.map_cons, List.map_cons] at e
          injection e with e1 e2
          have : c = d := Char.ext (UInt32.toNat.inj e1)
          rw [this, ih e2]
    exact String.toList_inj.mp (inj h2)
  · intro h; rw [h]
theorem str_eq (a b : String) : (Str.ofString a = Str.ofString b) = (a = b) := propext (str_iff a b)
theorem str_beq (a b : String) : (Str.ofString a == Str.ofString b) = decide (a = b) := by
  by_cases h : a = b
  · subst h; simp
  · rw [decide_eq_false h]
    exact beq_eq_false_iff_ne.mpr fun e => h ((str_iff a b).mp e)
/-! ### boot -/
theorem bt_int : bootBuiltins "int" = some (.type "int") := by decide +kernel
theorem bt_bool : bootBuiltins "bool" = some (.type "bool") := by decide +kernel
theorem bt_tuple : bootBuiltins "tuple" = some (.type "tuple") := by decide +kernel
theorem bt_list : bootBuiltins "list" = some (.type "list") := by decide +kernel
theorem bt_len : bootBuiltins "len" = some (.builtin "len") := by decide +kernel
theorem bt_abs : bootBuiltins "abs" = some (.builtin "abs") := by decide +kernel
theorem bt_max : bootBuiltins "max" = some (.builtin "max") := by decide +kernel
theorem bt_min : bootBuiltins "min" = some (.builtin "min") := by decide +kernel
theorem bt_sorted : bootBuiltins "sorted" = some (.builtin "sorted") := by decide +kernel
theorem bt_isinstance : bootBuiltins "isinstance" = some (.builtin "isinstance") := by decide +kernel
theorem bt_all : bootBuiltins "all" = some (.builtin "all") := by decide +kernel
theorem bt_any : bootBuiltins "any" = some (.builtin "any") := by decide +kernel
end DL

set_option Elab.async false
set_option linter.all false
set_option maxRecDepth 100000
set_option maxHeartbeats 4000000
set_option autoImplicit false
namespace DL
open PySem PySem.Spec PyProof.Rows L2
/-! ### exceptions of the text: raised -/
structure RaiseD (P : Program) (w : World) (K : PySem.W.Frag) (mg : Str → Option Value) (base : Heap) (k : Nat) (c : Str) (ks : List Str) : Prop where
  ex : ∃ C fI fd ps sp, mg c = some (.ref C) ∧ OexC K C ∧ PySem.W.findIn K (.ref C) "__init__" = some (some (.ref fI)) ∧ PySem.W.typeIn K (.ref fI) = some (.type "function") ∧ Binds K fd ps [] ∧ FnOk P w K mg base CX0 k fI fd ps sp ∧
    ∀ a ws H Q E, ws.length = ks.length → H a = some (exo a C none) → (∀ d H2, H d = none → d ≠ a → H2 a = some (exo a C (some d)) → H2 d = some (exd d (ks.zip ws).reverse) → (∀ b, b ≠ a → b ≠ d → H2 b = H b) → Q .non H2) → sp (.ref a :: ws) H Q E
def sRaise (c : Str) (ks : List Str) (wa : WA) : WS := fun E ρ μ => wa ρ μ (fun ds μ1 => ds.length ≤ 1000 ∧ ds.length = ks.length ∧ E.xc c ks.reverse ds.reverse ρ μ1) fun c ks es μ' => E.xc c ks es ρ μ'
theorem zip_reverse {α β : Type} : ∀ (xs : List α) (ys : List β), xs.length = ys.length → (xs.zip ys).reverse = xs.reverse.zip ys.reverse := by
  intro xs ys h
  rw [List.zip_eq_zipWith, List.zip_eq_zipWith]
  exact List.reverse_zipWith h
section
variable {W : WX} {X : Cx} {e : Expr} {es : List Expr} {ws : WA} {p pos pos' : Pos} {k j : Nat} {c : Str} {ks : List Str}
theorem ds_raiseD (R : RaiseD X.prog X.w X.K X.mg X.base k c ks) (hc : X.calm = true) (hr : Room j X.A) (hkj : k + 1 ≤ j) (hg : Gl X c) (tk : Takes X W) (ha : DA none W X (e :: es) ws) (hdb : (c == ("__debug__" : Str)) = false := by decide)
    (he : starEach (e :: es) X.env = (false, eval e X.env) :: starEach es X.env := by rfl) (hpl : (backTo pos (starEach es X.env)).any (·.1) = false := by rfl) :
    DSt none W X (.Raise (some (.Call (.Name c p) (e :: es) [] pos)) none pos') (sRaise c ks ws) := by
  obtain ⟨C, fI, fd, ps, sp, hm, T, hi, hf, hb, F, hsp⟩ := R.ex
  have mk := pmk_oex (ta := liftA (gx X none) W ws) (p := p) (pos := pos) T hi hf F (hr.mono hkj) hb .nil pass0 hg hm ha hdb he hpl
  refine ps_weak (ps_raise hc tk mk) fun De σ H q => ?_
  obtain ⟨Z, m, ρ, μ, E, S, q, kn, kr, kb, kc, kx⟩ := q
  refine ⟨Z, m, ρ, μ, _, _, S, q, fun vs H1 P => ?_, fun cls d H' P => kx cls d σ H' (XSPost.of S P)⟩
  obtain ⟨m1, ds, μ1, s1, r1, hl, hn, q1⟩ := P
  refine ⟨by rw [← r1.len]; exact hl, fun a na => ?_⟩
  rw [List.append_nil]
  have lv : vs.length = ks.length := by rw [← r1.len]; exact hn
  refine hsp a vs _ _ _ lv upd_same fun d H2 nd ne ha2 hd2 hold => ⟨rfl, d, _, ha2, hd2, ?_, ?_⟩
  · rw [upd_ne ne] at nd; exact nd
  · rw [upd_ne ne] at nd
    have same : upd (del H2 a) d (.xd (ks.zip vs).reverse) = upd H1 d (.xd (ks.zip vs).reverse) := by
      funext b
      by_cases hb : b = d
      · subst hb; rw [upd_same, upd_same]
      · rw [upd_ne hb, upd_ne hb]
        by_cases hba : b = a
        · subst hba; rw [del_same, na]
        · rw [del_ne hba, hold b hba hb, upd_ne hba]
    rw [same]
    have s2 := Step.laid (o := .xd (ks.zip vs).reverse) s1.mu nd
    have s12 := s1.trans s2
    refine kx _ _ σ _ (XSPost.from (SStep.of s12) ?_)
    refine ⟨m1, c, ks.reverse, ds.reverse, ρ, μ1, C, d, vs.reverse, S.step s12, .refl, rfl, rfl, hm, ?_, by rw [List.length_reverse, List.length_reverse]; exact hn.symm, ?_, q1⟩
    · rw [vis_upd s1.mu nd, upd_same, zip_reverse ks vs lv.symm]
    · exact Reps.reverse (Reps.mono s2.pre s2.same _ _ r1)
end
/-! the __init__ of an exception: one attribute, two -/
theorem raise1 {P : Program} {w : World} {K : PySem.W.Frag} {mg : Str → Option Value} {base : Heap} {c f x y qual : Str} {params : Arguments} {scope : Scope} {C fI : Addr} {fd : FuncData} {body : List Stmt}
    (hm : mg c = some (.ref C)) (T : OexC K C) (hno : PySem.W.findIn K (.ref C) f = some none) (hi : PySem.W.findIn K (.ref C) "__init__" = some (some (.ref fI))) (hf : PySem.W.typeIn K (.ref fI) = some (.type "function"))
    (F : FunD K "__init__" qual params body scope [] [] fI fd) (S : FnScope [x, y] [x, y] scope) (hb : Binds K fd [x, y] [])
    (hd : ∀ (cdv : Value) (A : Around) (fr : List Env) (s : Shared) (H : Hp) (E : XK), PSs (cxOf CX0 P w K mg base [x, y] qual scope fI cdv A fr s H E) body (tOst K f (tVar 0) (tVar 1))) : RaiseD P w K mg base 1 c [f] := by
  refine ⟨C, fI, fd, [x, y], fun vs H Q E => ∃ a v, vs = [.ref a, v] ∧ H a = some (exo a C none) ∧ ∀ dx, H dx = none → dx ≠ a → Q .non (upd (upd H dx (exd dx [(f, v)])) a (exo a C (some dx))), hm, T, hi, hf, hb, ?_, ?_⟩
  · refine F.ok S (fun vs H Q E h => ?_) (fun cdv A fr s H vs Q E hr h => ⟨tOst K f (tVar 0) (tVar 1), ?_, ?_⟩)
    · obtain ⟨a, v, rfl, _⟩ := h
      rfl
    · exact hd _ _ _ _ _ _
    · obtain ⟨a, v, rfl, ea, hq⟩ := h
      refine ⟨v, rfl, .ref a, rfl, a, C, rfl, T, hno, .inl ⟨ea, hq⟩⟩
  · intro a ws H Q E hl ea h
    match ws, hl with
    | [v], _ =>
      refine ⟨a, v, rfl, ea, fun dx nd ne => h dx _ nd ne upd_same ?_ fun b hba hbd => ?_⟩
      · rw [upd_ne ne, upd_same]; rfl
      · rw [upd_ne hba, upd_ne hbd]
end DL

set_option Elab.async false
set_option linter.all false
set_option maxRecDepth 100000
set_option maxHeartbeats 4000000
set_option autoImplicit false
namespace DL
open PySem PySem.Spec PyProof.Rows L2
/-! ### what does not hang on the caught exception -/
mutual
theorem Rep.ex {K : PySem.W.Frag} {mg : Str → Option Value} {e1 e2 : Option (Addr × Addr × Addr)} {m : List Addr} {E : Hp} : ∀ (d : D) (v : V), Rep ⟨K, mg, e1⟩ m E d v → Rep ⟨K, mg, e2⟩ m E d v
  | .non, v, r => by rw [Rep] at r ⊢; exact r
  | .bl b, v, r => by rw [Rep] at r ⊢; exact r
  | .int i, v, r => by rw [Rep] at r ⊢; exact r
  | .str s, v, r => by rw [Rep] at r ⊢; exact r
  | .ty n, v, r => by rw [Rep] at r ⊢; exact r
  | .cls c, v, r => by rw [Rep] at r ⊢; exact r
  | .tup ds, v, r => by
    rw [Rep] at r ⊢
    obtain ⟨a, vs, e, s, q⟩ := r
    exact ⟨a, vs, e, s, Reps.ex ds vs q⟩
  | .lst ds, v, r => by
    rw [Rep] at r ⊢
    obtain ⟨a, vs, e, s, q⟩ := r
    exact ⟨a, vs, e, s, Reps.ex ds vs q⟩
  | .frl ds, v, r => by
    rw [Rep] at r ⊢
    obtain ⟨a, vs, e, s, q⟩ := r
    exact ⟨a, vs, e, s, Reps.ex ds vs q⟩
  | .obj c ks ds, v, r => by
    rw [Rep] at r ⊢
    obtain ⟨a, C, dx, vs, e, g, s, l, q⟩ := r
    exact ⟨a, C, dx, vs, e, g, s, l, Reps.ex ds vs q⟩
  | .loc n, v, r => by rw [Rep] at r ⊢; exact r
  | .opq o, v, r => by rw [Rep] at r ⊢; exact r
theorem Reps.ex {K : PySem.W.Frag} {mg : Str → Option Value} {e1 e2 : Option (Addr × Addr × Addr)} {m : List Addr} {E : Hp} : ∀ (ds : List D) (vs : List V), Reps ⟨K, mg, e1⟩ m E ds vs → Reps ⟨K, mg, e2⟩ m E ds vs
  | [], vs, r => by rw [Reps] at r ⊢; exact r
  | d :: ds, vs, r => by
    rw [Reps] at r ⊢
    obtain ⟨v, t, e, s, q⟩ := r
    exact ⟨v, t, e, Rep.ex d v s, Reps.ex ds t q⟩
end
section
variable {K : PySem.W.Frag} {mg : Str → Option Value} {e1 e2 : Option (Addr × Addr × Addr)} {Z : Addr → Prop} {m : List Addr} {μ : Mu} {H E : Hp} {σ : L2.St} {ρ : DS}
theorem CellOk.ex {c : Cell} {a : Addr} (h : CellOk ⟨K, mg, e1⟩ m E H c a) : CellOk ⟨K, mg, e2⟩ m E H c a := by
  cases c with
  | lst ds =>
    obtain ⟨vs, h1, h2⟩ := h
    exact ⟨vs, h1, Reps.ex _ _ h2⟩
  | ins c ks ds =>
    obtain ⟨C, dx, vs, h0, h1, hl, h2⟩ := h
    exact ⟨C, dx, vs, h0, h1, hl, Reps.ex _ _ h2⟩
  | pool => exact h
theorem MuOk.ex (M : MuOk ⟨K, mg, e1⟩ Z m μ H) : MuOk ⟨K, mg, e2⟩ Z m μ H := ⟨M.len, M.nd, M.out, M.hw, fun n c a h1 h2 => (M.cell n c a h1 h2).ex⟩
/-- no slot holds an exception -/
def noExn (ρ : DS) : Bool := ρ.all fun s => match s with
  | .exn _ _ _ => false
  | _ => true
theorem SR.ex (S : SR ⟨K, mg, e1⟩ Z m σ H ρ μ) (hx : ∀ (i : Nat) c ks ds, ρ[i]? ≠ some (Sl.exn c ks ds)) : SR ⟨K, mg, e2⟩ Z m σ H ρ μ := by
  refine ⟨S.len, S.mu.ex, fun i d e => ?_, fun i a c e => ?_, S.dis, fun i c ks ds e => absurd e (hx i c ks ds)⟩
  · obtain ⟨v, h1, h2⟩ := S.val i d e
    exact ⟨v, h1, Rep.ex _ _ h2⟩
  · obtain ⟨h1, h2, h3⟩ := S.own i a c e
    exact ⟨h1, h2, h3.ex⟩
end
/-! ### try: .. except C as e: .. -/
def exOf (a : Addr) (cls : Value) (d : Option Addr) : Option (Addr × Addr × Addr) := match cls, d with
  | .ref C, some dd => some (a, C, dd)
  | _, _ => none
def suiteE (i : Nat) (E : DEnds) : DEnds := { nx := fun ρ2 μ2 => noExn (ρ2.set i .no) = true ∧ E.nx (ρ2.set i .no) μ2, rt := E.rt, bk := fun ρ2 μ2 => noExn (ρ2.set i .no) = true ∧ E.bk (ρ2.set i .no) μ2, ct := fun ρ2 μ2 => noExn (ρ2.set i .no) = true ∧ E.ct (ρ2.set i .no) μ2 }
def caught (mt : Str → Option Bool) (i : Nat) (wsu : WS) (E : DEnds) : XS := fun c ks es ρ' μ' => match mt c with
  | some true => wsu (suiteE i E) (ρ'.set i (.exn c ks es)) μ'
  | some false => E.xc c ks es ρ' μ'
  | none => False
def sTry (mt : Str → Option Bool) (i : Nat) (wb wsu : WS) : WS := fun E ρ μ => wb { E with xc := caught mt i wsu E } ρ μ
section
variable {W : WX} {X : Cx} {x n : Str} {cv : Value} {i : Nat} {body suite : List Stmt} {b0 : Stmt} {np pos pos' : Pos} {wb wsu : WS} {mt : Str → Option Bool}
end
/-! in the suite: e.f, isinstance(e, C) -/
def KExn (o : Option Sl) (k : Str → List Str → List D → Prop) : Prop := match o with
  | some (.exn c ks ds) => k c ks ds
  | _ => False
def getX (cs : List Str) (f : Str) (Q : D → Prop) : Str → List Str → List D → Prop := fun c ks ds => c ∈ cs ∧ match fldOf f ks ds with
  | some d => Q d
  | none => False
def wXf (cs : List Str) (i : Nat) (f : Str) : WE := fun ρ μ Q _ => KExn (ρ[i]?) (getX cs f fun d => Q d μ)
def wIsE (f : TyN → TyN → Option Bool) (i : Nat) (cn : Str) : WE := fun ρ μ Q _ => KExn (ρ[i]?) fun c _ _ => match f (.c c) (.c cn) with
  | some b => Q (.bl b) μ
  | none => False
/-- isinstance of caught exceptions: by a table -/
structure IsxTab (K : PySem.W.Frag) (mg : Str → Option Value) (f : TyN → TyN → Option Bool) : Prop where
  ok : ∀ c u b, f (.c c) (.c u) = some b → ∀ C U, mg c = some (.ref C) → mg u = some (.ref U) → ExcC K C ∧ PySem.W.kitOne K (.ref C) (.ref U) = some b
section
variable {X : Cx} {a : Addr} {oe : Obj} {cls : Value} {d : Option Addr} {pn : List (Addr × Obj)} {pos p1 p2 p3 : Pos} {x n cn : Str} {i : Nat} {cs : List Str}
end
end DL

set_option Elab.async false
set_option linter.all false
set_option maxRecDepth 100000
set_option maxHeartbeats 4000000
set_option autoImplicit false
namespace DL
open PySem PySem.Spec PyProof.Rows L2
/-! ### repr -/
end DL

set_option Elab.async false
set_option linter.all false
set_option maxRecDepth 100000
set_option maxHeartbeats 4000000
set_option autoImplicit false
namespace DL
open PySem PySem.Spec PyProof.Rows L2
/-! ### what the head tells of exceptions -/
def oexB (K : PySem.W.Frag) (C : Addr) : Bool := (match K.lookup C with
  | some ⟨.type "type", _, .cls cd, sl⟩ => (match cd.mro, sl.toList with
    | .ref C' :: bm, [_, _, _, _, some (.builtin n), _] => decide (C' = C) && (decide (n = "ValueError.__new__") && (cd.hasDict && (!cd.hasDel && PySem.HandSPX.refsVE bm)))
    | _, _ => false)
  | _ => false) && (He.eqO (PySem.W.findIn K (.ref C) "__setattr__") (some (some (.builtin "object.__setattr__"))) && (decide (PySem.W.subIn K (.ref C) (.type "BaseException") = some true) && (decide (PySem.W.typeIn K (.ref C) = some (.type "type")) && PySem.W.keepIn K (.ref C))))
theorem oexB_ok {K : PySem.W.Frag} {C : Addr} (h : oexB K C = true) : OexC K C := by
  obtain ⟨h1, h⟩ := He.ba h
  obtain ⟨h2, h⟩ := He.ba h
  obtain ⟨h3, h⟩ := He.ba h
  obtain ⟨h4, h5⟩ := He.ba h
  refine ⟨?_, He.eqO_ok h2, of_decide_eq_true h3, of_decide_eq_true h4, h5⟩
  split at h1
  · rename_i dd cd sl ho
    split at h1
    · rename_i C' bm k0 k1 k2 k3 n k5 em es
      obtain ⟨g1, h1⟩ := He.ba h1
      obtain ⟨g2, h1⟩ := He.ba h1
      obtain ⟨g3, h1⟩ := He.ba h1
      obtain ⟨g4, g5⟩ := He.ba h1
      have g1 := of_decide_eq_true g1
      have g2 := of_decide_eq_true g2
      rw [Bool.not_eq_true'] at g4
      obtain ⟨nm, bs, mro, ns, qn, hd, sn, sub, ab, col, dl⟩ := cd
      dsimp only at em g3 g4
      subst em g1 g2 g3 g4
      have hsl : sl = #[k0, k1, k2, k3, some (.builtin "ValueError.__new__"), k5] := by
        obtain ⟨l⟩ := sl
        simp only at es
        rw [es]
      subst hsl
      exact ⟨nm, qn, ns, bs, bm, sn, sub, ab, col, dd, k0, k1, k2, k3, k5, ho, g5⟩
    · cases h1
  · cases h1
/-- an exception class with its __init__, which stores the attributes ks -/
def rxB (K : PySem.W.Frag) (c : Str) (ks : List Str) : Bool := (He.Fa.glo c).ok K && (oexB K (He.ga K c) && (He.eqO (PySem.W.findIn K (.ref (He.ga K c)) "__init__") (some (some (.ref (He.ma K (He.ga K c) "__init__")))) &&
  (decide (PySem.W.typeIn K (.ref (He.ma K (He.ga K c) "__init__")) = some (.type "function")) && ks.all fun f => He.eqO (PySem.W.findIn K (.ref (He.ga K c)) f) (some none))))
theorem rxB_ok {K : PySem.W.Frag} {c : Str} {ks : List Str} (h : rxB K c ks = true) : OexC K (He.ga K c) ∧ PySem.W.findIn K (.ref (He.ga K c)) "__init__" = some (some (.ref (He.fAd K (c, some "__init__")))) ∧
    PySem.W.typeIn K (.ref (He.fAd K (c, some "__init__"))) = some (.type "function") ∧ ∀ f ∈ ks, PySem.W.findIn K (.ref (He.ga K c)) f = some none := by
  obtain ⟨h1, h⟩ := He.ba h
  obtain ⟨h2, h⟩ := He.ba h
  obtain ⟨h3, h⟩ := He.ba h
  obtain ⟨h4, h5⟩ := He.ba h
  exact ⟨oexB_ok h2, He.eqO_ok h3, of_decide_eq_true h4, fun f hf => He.eqO_ok (List.all_eq_true.mp h5 f hf)⟩
section
variable {K : PySem.W.Frag} {h : Heap} {mg : Str → Option Value} (X : K.In h) (G : h.Ns mainGlobals mg)
include X G
theorem rx_glo {c : Str} {ks : List Str} (b : rxB K c ks = true) : mg c = some (.ref (He.ga K c)) := He.glo_ok X G (He.ba b).1
end
/-! which exceptions a clause catches -/
section
variable {K : PySem.W.Frag} {h : Heap} {mg : Str → Option Value} (X : K.In h) (G : h.Ns mainGlobals mg)
include X G
/-! fields, isinstance -/
omit X G in
end
abbrev IsxL := List ((Str × Str) × Bool)
end DL

set_option Elab.async false
set_option linter.all false
set_option maxRecDepth 100000
set_option maxHeartbeats 4000000
set_option autoImplicit false
namespace DL
open PySem PySem.Spec PyProof.Rows L2
/-! ### properties -/
structure PropD (P : Program) (w : World) (K : PySem.W.Frag) (mg : Str → Option Value) (base : Heap) (k : Nat) (c f : Str) (ps : List Str) (sp : DSp) : Prop where
  ex : ∃ C p g fd, mg c = some (.ref C) ∧ Cls K C ∧ PropOf K C f p g ∧ Binds K fd ps [] ∧ FnG P w K mg base k g fd ps (toSp ⟨K, mg, none⟩ sp)
def wProp (c : Str) (sp : DSp) (wa : WE) : WE := fun ρ μ Q Xd => wa ρ μ (fun x μ1 => isCls c x μ1 (sp [x] μ1 Q xF)) Xd
section
variable {ex : Option (Addr × Addr × Addr)} {W : WX} {X : Cx} {e : Expr} {wa : WE} {pos : Pos} {k j : Nat} {ps : List Str} {c f : Str} {sp : DSp} {C p g a dx : Addr} {fd : FuncData}
theorem getprop_G {sp : Sp} {fs : List (Str × V)} {pins : List (Addr × Obj)} {σ : L2.St} {H : Hp} {s : Shared} {Q : VK} {b : Bool} {E' : Value → Shared → Prop} (I : Inv X pins σ H s) (at_ : H a = some (.ins C dx fs)) (cl : Cls X.K C) (hp : PropOf X.K C f p g)
    (F : FnG X.prog X.w X.K X.mg X.base k g fd ps sp) (hr : Room (k + 1) X.A) (hgd : X.A.guards = some []) (hb : Binds X.K fd ps []) (h : sp [.ref a] H Q fun _ _ _ => False) : wpAny (model X.prog X.w) X.A (getAttr (.ref a) f b) (EP X pins σ Q) E' s := by
  obtain ⟨mA, O, _⟩ := ins_get I.hok at_
  obtain ⟨od, J, _⟩ := O.look
  obtain ⟨rest, hrec⟩ := hp.rec_
  have I1 := I.tok (s.toks + 1)
  have hl : [Value.ref a].length = ps.length := (F.len _ _ _ _ h)
  have bd := hb { s with toks := s.toks + 1 } [.ref a] I1.kIn (by simpa using hl)
  rw [List.append_nil] at bd
  have hcl : (PySem.W.clsIn X.K C).isSome = true := by
    obtain ⟨cd, e1, _⟩ := PySem.W.any_some cl.hd
    rw [e1]; rfl
  refine PySem.W.get_bind I.kIn J (PySem.W.plainGet_of (cl.get f)).1 (PySem.W.findObj_data hcl hp.at_ hp.get hp.tak) (PySem.W.plainGet_of (cl.get f)).2 (wpAny_call (PySem.W.prop_get (s := { s with toks := s.toks + 1 }) I.kIn hrec ?_))
  refine codeAny_mono (F.run X.A.in1 X.stack { s with toks := s.toks + 1 } H ⟨[.ref a], []⟩ [.ref a] [.ref a] Q _ hr.in1 hgd I1.env0.in1 bd (.cons rfl .nil) h) fun res s2 out => ?_
  match res, out with
  | .error er, out =>
    obtain ⟨_, _, _, _, _, _, _, _, _, _, _, _, z⟩ := out
    exact z.elim
  | .ok (.ret u), out =>
    obtain ⟨v, H', I3, rv, q3⟩ := I1.after out
    show wpAny _ _ (handedOut u) _ _ _
    rw [PySem.W.handedOut_of (handed_of rv)]
    exact wpAny_pure ⟨v, H', I3, rv, q3⟩
theorem de_propD (D : PropD X.prog X.w X.K X.mg X.base k c f ps sp) (hr : Room j X.A) (hkj : k + 1 ≤ j) (hgd : X.A.guards = some []) (he : DE none W X e wa) (hab : attributeBase e f X.env (eval e X.env) = eval e X.env := by rfl) : DE none W X (.Attribute e f pos) (wProp c sp wa) := by
  obtain ⟨C, p, g, fd, h1, h2, h3, h4, F⟩ := D.ex
  refine ⟨fun pins s σ H Q' I h => ?_⟩
  obtain ⟨Z, m, ρ, μ, Q, Xd, S, q, kq, kx⟩ := h
  refine attr_of hab (thn (he.run pins s σ H _ I ⟨Z, m, ρ, μ, _, Xd, S, q, fun v H1 P => P, kx⟩) fun u s1 hu => ?_)
  obtain ⟨v, H1, I1, rv, m1, x, μ1, s1, r1, q1⟩ := hu
  obtain ⟨ks, ds, hi, q2⟩ := isCls_of q1
  obtain ⟨a, C', dx, vs, rfl, g', hp, l, rs⟩ := ins_rep s1.mu r1 hi
  have g2 : X.mg c = some (.ref C') := g'
  rw [h1] at g2
  cases g2
  obtain rfl : u = Value.ref a := rv
  refine getprop_G I1 hp h2 h3 F (hr.mono hkj) hgd h4 ⟨_, m1, μ1, [x], Q, xF, s1.mu, Reps.cons r1 Reps.nil, q2, fun v H' P => kq v H' (VPost.from s1 P), fun cls d H' P => (xpF P).elim⟩
end
/-! from the head's facts -/
def getA (K : PySem.W.Frag) (c f : Str) : Addr := match PySem.W.recIn K (He.ma K (He.ga K c) f) "property" with
  | some (.ref g :: _) => g
  | _ => 0
def propB (K : PySem.W.Frag) (c f : Str) : Bool := (He.Fa.glo c).ok K && ((He.Fa.cls c).ok K && (He.eqO (PySem.W.findIn K (.ref (He.ga K c)) f) (some (some (.ref (He.ma K (He.ga K c) f)))) && (He.eqO (PySem.W.specialIn K (.ref (He.ma K (He.ga K c) f)) "__get__") (some (some (.builtin "property.__get__"))) &&
  (decide (PySem.W.takesIn K (.ref (He.ma K (He.ga K c) f)) = some true) && (match PySem.W.recIn K (He.ma K (He.ga K c) f) "property" with
    | some (.ref _ :: _) => true
    | _ => false)))))
theorem propD_of {P : Program} {w : World} {K : PySem.W.Frag} {h : Heap} {mg : Str → Option Value} {base : Heap} {k : Nat} {c f : Str} {ps : List Str} {sp : DSp} {fd : FuncData} (X : K.In h) (G : h.Ns mainGlobals mg)
    (B : propB K c f = true) (bi : Binds K fd ps []) (F : FnG P w K mg base k (getA K c f) fd ps (toSp ⟨K, mg, none⟩ sp)) : PropD P w K mg base k c f ps sp := by
  obtain ⟨h1, B⟩ := He.ba B
  obtain ⟨h2, B⟩ := He.ba B
  obtain ⟨h3, B⟩ := He.ba B
  obtain ⟨h4, B⟩ := He.ba B
  obtain ⟨h5, h6⟩ := He.ba B
  refine ⟨_, _, _, fd, He.glo_ok X G h1, He.cls_ok h2, ⟨He.eqO_ok h3, He.eqO_ok h4, of_decide_eq_true h5, ?_⟩, bi, F⟩
  unfold getA
  split at h6
  · rename_i g rest e
    rw [e]
    exact ⟨rest, rfl⟩
  · cases h6
/-! ### the Hook: defs at any address, and one Bool more -/
abbrev AlY : Type := He.AlD × Bool
structure SaysY (fa : List He.Fa) (fn : List He5.DefA) (ex : PySem.W.Frag → Bool) (K : PySem.W.Frag) : Prop where
  d : He5.SaysA fa fn K
  more : ex K = true
/-! a module's int -/
theorem de_gintE {ex : Option (Addr × Addr × Addr)} {W : WX} {X : Cx} {x : Str} {i : Int} {pos : Pos} (hg : Gl X x) (hm : ∃ t, X.mg x = some (.int i t)) (hd : (x == ("__debug__" : Str)) = false := by decide) : DE ex W X (.Name x pos) (wC (.int i)) := by
  obtain ⟨t, hm⟩ := hm
  exact de_gint hg hm hd
end DL

set_option Elab.async false
set_option linter.all false
set_option maxRecDepth 100000
set_option maxHeartbeats 4000000
set_option autoImplicit false
namespace DL
open PySem PySem.Spec PyProof.Rows L2
/-! ### == of scalars or of data -/
def atomV : D → Option V
  | .non => some .non
  | .bl b => some (.bl b)
  | .int i => some (.int i)
  | .str s => some (.str s)
  | _ => none
theorem atom_rep {G : Gx} {m : List Addr} {E : Hp} {x : D} {u v : V} (r : Rep G m E x u) (h : atomV x = some v) : u = v := by
  cases x <;> first | (rw [Rep] at r; cases h; exact r) | cases h
def eqU (x y : D) (k : Bool → Prop) : Prop := (∃ u v, atomV x = some u ∧ atomV y = some v ∧ scal u v = true ∧ k (decide (u = v))) ∨ eqD x y k
def fEqU : F2 := fun x y μ Q => eqU x y fun b => Q (.bl b) μ
def fNeU : F2 := fun x y μ Q => eqU x y fun b => Q (.bl (!b)) μ
theorem s2_eqU {G : Gx} : S2 G (fun x y H Q => rEq x y H Q ∨ rEqD G.K x y H Q) fEqU := by
  intro Z m μ H x y u v Q Q' M rx ry h k
  rcases h with ⟨u', v', e1, e2, hs, q⟩ | h
  · cases atom_rep rx e1
    cases atom_rep ry e2
    exact .inl ⟨hs, k _ _ (.now M (by rw [Rep]) q)⟩
  · exact .inr (s2_eqD Z m μ H x y u v Q Q' M rx ry h k)
theorem s2_neU {G : Gx} : S2 G (fun x y H Q => rNe x y H Q ∨ rNeD G.K x y H Q) fNeU := by
  intro Z m μ H x y u v Q Q' M rx ry h k
  rcases h with ⟨u', v', e1, e2, hs, q⟩ | h
  · cases atom_rep rx e1
    cases atom_rep ry e2
    exact .inl ⟨hs, k _ _ (.now M (by rw [Rep]) q)⟩
  · exact .inr (s2_neD Z m μ H x y u v Q Q' M rx ry h k)
theorem op_eqU {X : Cx} (hu : X.A.units + 64 < cLine) : OpR X (compareOp .Eq) (fun x y H Q => rEq x y H Q ∨ rEqD X.K x y H Q) := op_eq.or (op_eqD hu)
theorem op_neU {X : Cx} (hu : X.A.units + 64 < cLine) : OpR X (compareOp .NotEq) (fun x y H Q => rNe x y H Q ∨ rNeD X.K x y H Q) := op_ne.or (op_neD hu)
end DL

set_option Elab.async false
set_option linter.all false
set_option maxRecDepth 100000
set_option maxHeartbeats 4000000
set_option autoImplicit false
namespace DL
open PySem PySem.Spec PyProof.Rows L2
/-! ### sum, max, min, sorted of ints; any, all of truths -/
def lstInts (x : D) (k : List Int → Prop) : Prop := lstOr x fun ds => ∃ ns, intsD ds = some ns ∧ k ns
def boolD : D → Option Bool
  | .bl b => some b
  | _ => none
def boolsD : List D → Option (List Bool)
  | [] => some []
  | d :: ds => match boolD d, boolsD ds with
    | some i, some ns => some (i :: ns)
    | _, _ => none
theorem boolD_of {d : D} {b : Bool} (h : boolD d = some b) : d = .bl b := by
  cases d <;> first | (cases h; done) | (cases h; rfl)
theorem bools_rep {G : Gx} {m : List Addr} {E : Hp} : ∀ {ds : List D} {vs : List V} {bs : List Bool}, Reps G m E ds vs → boolsD ds = some bs → vs = bs.map V.bl
  | [], vs, ns, r, e => by rw [Reps] at r; rw [boolsD] at e; cases e; exact r
  | d :: ds, vs, ns, r, e => by
    obtain ⟨v, t, rfl, r1, r2⟩ := r.uncons
    rw [boolsD] at e
    split at e
    · rename_i i ms h1 h2
      cases e
      have e1 := boolD_of h1
      subst e1
      rw [Rep] at r1
      subst r1
      rw [bools_rep r2 h2]
      rfl
    · cases e
def lstBools (x : D) (k : List Bool → Prop) : Prop := lstOr x fun ds => ∃ bs, boolsD ds = some bs ∧ k bs
theorem lstInts_rep {G : Gx} {m : List Addr} {E : Hp} {d : D} {u : V} {k : List Int → Prop} (h : lstInts d k) (r : Rep G m E d u) : ∃ ns a, u = .ref a ∧ SqL G.K E a (ns.map V.int) ∧ k ns := by
  obtain ⟨ds, a, vs, e, s, rs, ns, hn, q⟩ := lstOr_rep h r
  have := ints_rep rs hn
  subst this
  exact ⟨ns, a, e, s, q⟩
theorem lstBools_rep {G : Gx} {m : List Addr} {E : Hp} {d : D} {u : V} {k : List Bool → Prop} (h : lstBools d k) (r : Rep G m E d u) : ∃ ns a, u = .ref a ∧ SqL G.K E a (ns.map V.bl) ∧ k ns := by
  obtain ⟨ds, a, vs, e, s, rs, ns, hn, q⟩ := lstOr_rep h r
  have := bools_rep rs hn
  subst this
  exact ⟨ns, a, e, s, q⟩
def fMaxL : FN := fun xs μ Q => match xs with
  | [x] => lstInts x fun ns => 0 < ns.length ∧ ∀ m, m ∈ ns → (∀ y, y ∈ ns → y ≤ m) → Q (.int m) μ
  | _ => False
def fMinL : FN := fun xs μ Q => match xs with
  | [x] => lstInts x fun ns => 0 < ns.length ∧ ∀ m, m ∈ ns → (∀ y, y ∈ ns → m ≤ y) → Q (.int m) μ
  | _ => False
def fAny : FN := fun xs μ Q => match xs with
  | [x] => lstBools x fun bs => Q (.bl (bs.any id)) μ
  | _ => False
def fAll : FN := fun xs μ Q => match xs with
  | [x] => lstBools x fun bs => Q (.bl (bs.all id)) μ
  | _ => False
section
variable {G : Gx}
theorem sn_maxL : SN G (rMax G.K) fMaxL := by
  intro Z m μ H xs us Q Q' M r h k
  unfold fMaxL at h
  split at h
  · obtain ⟨v, t, rfl, r1, r2⟩ := r.uncons
    rw [Reps] at r2
    subst r2
    obtain ⟨ns, a, rfl, s, hl, q⟩ := lstInts_rep h r1
    exact ⟨a, ns, rfl, Same.seq vis_le s, hl, fun z z1 z2 => k _ _ (.now M (by rw [Rep]) (q z z1 z2))⟩
  · exact h.elim
theorem sn_minL : SN G (rMin G.K) fMinL := by
  intro Z m μ H xs us Q Q' M r h k
  unfold fMinL at h
  split at h
  · obtain ⟨v, t, rfl, r1, r2⟩ := r.uncons
    rw [Reps] at r2
    subst r2
    obtain ⟨ns, a, rfl, s, hl, q⟩ := lstInts_rep h r1
    exact ⟨a, ns, rfl, Same.seq vis_le s, hl, fun z z1 z2 => k _ _ (.now M (by rw [Rep]) (q z z1 z2))⟩
  · exact h.elim
theorem sn_any : SN G (rAny G.K) fAny := by
  intro Z m μ H xs us Q Q' M r h k
  unfold fAny at h
  split at h
  · obtain ⟨v, t, rfl, r1, r2⟩ := r.uncons
    rw [Reps] at r2
    subst r2
    obtain ⟨ns, a, rfl, s, q⟩ := lstBools_rep h r1
    exact ⟨a, ns, rfl, Same.seq vis_le s, k _ _ (.now M (by rw [Rep]) q)⟩
  · exact h.elim
theorem sn_all : SN G (rAll G.K) fAll := by
  intro Z m μ H xs us Q Q' M r h k
  unfold fAll at h
  split at h
  · obtain ⟨v, t, rfl, r1, r2⟩ := r.uncons
    rw [Reps] at r2
    subst r2
    obtain ⟨ns, a, rfl, s, q⟩ := lstBools_rep h r1
    exact ⟨a, ns, rfl, Same.seq vis_le s, k _ _ (.now M (by rw [Rep]) q)⟩
  · exact h.elim
end
end DL

set_option Elab.async false
set_option linter.all false
set_option maxRecDepth 100000
set_option maxHeartbeats 4000000
set_option autoImplicit false
namespace DL
open PySem PySem.Spec PyProof.Rows L2


theorem runEq3 {r : PySem.W.OpenRow} {q : Program} {H : PySem.W.Hook} {ob : PySem.W.SharedT → H.α} {M : Nat} {loose : List Str} {w : World}
    (h1 : ∀ os : OsState, (HandSHeadRun.endF (HandSHeadRun.stepQ (HandSHeadRun.denQ HandSHeadRun.tabQ) r.prog w) M r.prog w os).map (fun s => HandSHeadRun.looksF r.prog (PySem.W.boot_heap w.params) s.abs) = some true)
    (h2 : ∀ os : OsState, (HandSHeadRun.endF (HandSHeadRun.stepQ (HandSHeadRun.denQ HandSHeadRun.tabQ) r.prog w) M r.prog w os).map (fun s => HandSHeadRun.seenQ q loose (importedModules r.prog.main.body) (fun s => PySem.W.xlAt q [] s && PySem.W.recOk r.toRowW.records s) s.abs) = some (PySem.W.openGood q loose))
    (h3 : ∀ os : OsState, (HandSHeadRun.endF (HandSHeadRun.stepQ (HandSHeadRun.denQ HandSHeadRun.tabQ) r.prog w) M r.prog w os).map (fun s => ob s) = some (H.val w)) : HandSHeadRun.RunEq r q H ob M loose w := by
  intro os
  have a1 := h1 os
  have a2 := h2 os
  have a3 := h3 os
  generalize HandSHeadRun.endF (HandSHeadRun.stepQ (HandSHeadRun.denQ HandSHeadRun.tabQ) r.prog w) M r.prog w os = e at a1 a2 a3 ⊢
  cases e with
  | none => cases a1
  | some s =>
    rw [Option.map_some] at a1 a2 a3 ⊢
    rw [Option.some.inj a1, Option.some.inj a2, Option.some.inj a3]
/-! ### list(x), tuple(x) -/
def fListOf : FN := fun xs μ Q => match xs with
  | [x] => match itemsD x μ with
    | some ds => Q (.lst ds) μ
    | none => False
  | _ => False
theorem sn_listOf {G : Gx} : SN G (fun xs H Q => ∃ p ys, xs = [.ref p] ∧ (SqL G.K H p ys ∨ SqT G.K H p ys) ∧ ∀ l, H l = none → Q (.ref l) (upd H l (.lst ys))) fListOf := by
  intro Z m μ H xs us Q Q' M r h k
  unfold fListOf at h
  split at h
  · split at h
    · rename_i ds e1
      obtain ⟨v, t, rfl, r1, r2⟩ := r.uncons
      rw [Reps] at r2
      subst r2
      obtain ⟨a, vs, rfl, s, q⟩ := items_rep M r1 e1
      refine ⟨a, vs, rfl, s, fun l nl => k _ _ ?_⟩
      have s4 := Step.laid (o := .lst vs) M nl
      refine ⟨m, _, μ, s4, ?_, h⟩
      rw [Rep]
      refine ⟨l, _, rfl, ?_, Reps.mono s4.pre s4.same _ _ q⟩
      rw [vis_upd M nl, upd_same]
    · exact h.elim
  · exact h.elim
def fTupOf : FN := fun xs μ Q => match xs with
  | [x] => match itemsD x μ with
    | some ds => Q (.tup ds) μ
    | none => False
  | _ => False
/-! ### isinstance(x, (A, B)) -/
theorem call_isiS {X : Cx} : CallR X (.builtin "isinstance") (fun xs H Q => ∃ (x : V) (tp : Addr) (cs : List V) (t : Value) (us : List Value) (b : Bool), xs = [x, .ref tp] ∧ SqT X.K H tp cs ∧ Paired ClsV cs us ∧ TyX X.K H x t ∧ PySem.W.kitAny X.K t us = some b ∧ Q (.bl b) H) := by
  intro pins s σ H xs us Q I r h
  obtain ⟨x, tp, cs, t, ws, b, rfl, hT, k, ty, e, q⟩ := h
  obtain ⟨u1, u2, rfl, r1, r2⟩ := vals2 r
  cases (show u2 = Value.ref tp from r2)
  obtain ⟨P, Z, p, hx⟩ := kit_of I r1 ty
  obtain ⟨its, o, n, rv, h1, h2, h3⟩ := sqT_at I.hok I.kIn hT
  have e3 := ClsV.all k rv
  subst e3
  obtain ⟨oc, od, dt, sl⟩ := o
  simp only at h2 h3
  subst h2 h3
  exact PySem.W.kia_tup Z I.kIn p h1 e hx fun tk => ⟨.bl b, H, I.tok tk, rfl, q⟩
def anyT (f : TyN → TyN → Option Bool) (t : TyN) : List D → Option Bool
  | [] => some false
  | c :: cs => match clD c with
    | some u => match f t u with
      | some true => if cs.all (fun d => (clD d).isSome) then some true else none
      | some false => anyT f t cs
      | none => none
    | none => none
def isiDT (f : TyN → TyN → Option Bool) (x : D) (cs : List D) (μ : Mu) : Option Bool := match tyD x μ with
  | some t => match cs with
    | [] => none
    | c :: r => anyT f t (c :: r)
  | none => none
def fIsiT (f : TyN → TyN → Option Bool) : FN := fun xs μ Q => match xs with
  | [x, .tup cs] => match isiDT f x cs μ with
    | some b => Q (.bl b) μ
    | none => False
  | _ => False
theorem clVs_of {G : Gx} {m : List Addr} {E : Hp} : ∀ {cs : List D} {vs : List V}, Reps G m E cs vs → cs.all (fun d => (clD d).isSome) = true → ∃ us, Paired ClsV vs us
  | [], vs, r, _ => by rw [Reps] at r; subst r; exact ⟨[], .nil⟩
  | c :: cs, vs, r, h => by
    obtain ⟨v, t, rfl, r1, r2⟩ := r.uncons
    rw [List.all_cons, Bool.and_eq_true_iff] at h
    obtain ⟨u, hu⟩ := Option.isSome_iff_exists.mp h.1
    obtain ⟨uv, _, u2⟩ := clV_of r1 hu
    obtain ⟨us, p⟩ := clVs_of r2 h.2
    exact ⟨_, .cons u2 p⟩
theorem anyT_ok {G : Gx} {f : TyN → TyN → Option Bool} (T : IsiTab G f) {m : List Addr} {E : Hp} {t : TyN} {tv : Value} (ht : TyVal G t tv) : ∀ {cs : List D} {vs : List V} {b : Bool}, Reps G m E cs vs → anyT f t cs = some b →
    ∃ us, Paired ClsV vs us ∧ PySem.W.kitAny G.K tv us = some b
  | [], vs, b, r, e => by
    rw [Reps] at r; subst r
    rw [anyT] at e; cases e
    exact ⟨[], .nil, rfl⟩
  | c :: cs, vs, b, r, e => by
    obtain ⟨v, t', rfl, r1, r2⟩ := r.uncons
    rw [anyT] at e
    split at e
    · rename_i u hu
      obtain ⟨uv, u1, u2⟩ := clV_of r1 hu
      split at e
      · rename_i hf
        split at e
        · rename_i ha
          cases e
          obtain ⟨us, p⟩ := clVs_of r2 ha
          refine ⟨_, .cons u2 p, ?_⟩
          rw [PySem.W.kitAny, T.ok _ _ _ hf _ _ ht u1]
        · cases e
      · rename_i hf
        obtain ⟨us, p, q⟩ := anyT_ok T ht r2 e
        refine ⟨_, .cons u2 p, ?_⟩
        rw [PySem.W.kitAny, T.ok _ _ _ hf _ _ ht u1]
        exact q
      · cases e
    · cases e
theorem sn_isiT {G : Gx} {f : TyN → TyN → Option Bool} (T : IsiTab G f) : SN G (fun xs H Q => ∃ (x : V) (tp : Addr) (cs : List V) (t : Value) (us : List Value) (b : Bool), xs = [x, .ref tp] ∧ SqT G.K H tp cs ∧ Paired ClsV cs us ∧ TyX G.K H x t ∧ PySem.W.kitAny G.K t us = some b ∧ Q (.bl b) H) (fIsiT f) := by
  intro Z m μ H xs us Q Q' M r h k
  unfold fIsiT at h
  split at h
  · rename_i x cs
    split at h
    · rename_i b hb
      obtain ⟨v, t, rfl, r1, r2⟩ := r.uncons
      obtain ⟨v', t', rfl, r3, r4⟩ := r2.uncons
      rw [Reps] at r4
      subst r4
      rw [Rep] at r3
      obtain ⟨tp, vs, rfl, st, rs⟩ := r3
      unfold isiDT at hb
      split at hb
      · rename_i tn h1
        split at hb
        · cases hb
        · rename_i c cr
          obtain ⟨tv, t1, t2⟩ := tyX_of M r1 h1 fun c' e C g => by
            subst e
            rw [anyT] at hb
            split at hb
            · rename_i u hu
              split at hb
              · rename_i hf
                exact T.ins c' u _ hf C g
              · rename_i hf
                exact T.ins c' u _ hf C g
              · cases hb
            · cases hb
          obtain ⟨us, p, q⟩ := anyT_ok T t1 rs hb
          exact ⟨v, tp, vs, tv, us, b, rfl, SqT.same vis_le st, p, t2, q, k _ _ (.now M (by rw [Rep]) h)⟩
      · cases hb
    · exact h.elim
  · exact h.elim
/-! ### a dict of one int beside an int -/
def wDictII (i j : Int) : WE := fun _ μ Q _ => Q (.opq (.dK [(.inl i, .int j)])) μ
section
variable {ex : Option (Addr × Addr × Addr)} {W : WX} {X : Cx} {pos p1 p2 : Pos} {n1 n2 : Nat} {i j : Int}
end
end DL

set_option Elab.async false
set_option linter.all false
set_option maxRecDepth 100000
set_option maxHeartbeats 4000000
set_option autoImplicit false
namespace DL
open PySem PySem.Spec PyProof.Rows L2
/-! ### comparisons and `in` by own defs -/
structure CmpFn (K : PySem.W.Frag) (C : Addr) (nm : Str) (f : Addr) : Prop where
  at_ : PySem.W.findIn K (.ref C) nm = some (some (.ref f))
  fn : PySem.W.isFn K (.ref f) = true
/-- the class has no own `__ne__` -/
structure NeFn (K : PySem.W.Frag) (C : Addr) : Prop where
  at_ : PySem.W.findIn K (.ref C) "__ne__" = some (some (.builtin "object.__ne__"))
  top : PySem.W.mroIn K C (.type "object") = some true
section
open PySem.W
variable {prog : Program} {w : World} {A : Around} {E : Value → Shared → Prop} {s : Shared} {K : Frag} {x C g : Addr} {ox : Obj} {od : Option Obj} {b tb : Value}
theorem one_bind (self : Value) : bindSpecial (.builtin "object.__ne__") self = pure (.builtin "object.__ne__", [self]) :=
  (Slot.of (T := "object") (name := "__ne__") (owner := "object") (n := "__ne__") (by rw [typeLookup_type, builtinLookup_eq_fast]; kernel_rfl) (by decide +kernel) (by decide +kernel) (by decide +kernel)
    (.inl (by decide +kernel)) (by rw [isSubtype_type]; kernel_rfl)).bind self
theorem one_plain : plainId "object.__ne__" = true := by decide +kernel
/-- x.__ne__(b) as object has it, by the own `__eq__` -/
theorem call_ne {QQ : Value → Shared → Prop} (hu : A.in1.units < cLine) (X : K.In s.heap) (I : InstAt s.heap x ox C od) (N : NeFn K C) (T : CmpFn K C "__eq__" g)
    (run : wpAny (model prog w) A.in1 (call (.ref g) [.ref x, b]) (fun r s' => ∃ k, r = .bool k ∧ QQ (.bool (!k)) s') E s) : wpAny (model prog w) A (call (.builtin "object.__ne__") [.ref x, b]) QQ E s := by
  have inst : Looks (model prog w) s.heap (isInstance (.ref x) (.type "object")) true := I.type.andThen (looks_mroIn X N.top)
  refine wpAny_call (codeAny_call_builtin one_plain F.cmpEntry_ne (@check_slot (model prog w) _ _ s "object.__ne__" "object" "__ne__" (.ref x) [b] [] _ F.cmpKind_ne F.cmpSplit_ne inst (F.cmpArgs_ne _ _) ?_))
  unfold Builtin.«object.__ne__»
  have seen : wpAny (model prog w) A.in1 (callSpecialIfBound? (.ref x) "__eq__" [b]) (fun r s' => ∃ k, r = some (.bool k) ∧ QQ (.bool (!k)) s') E s :=
    ifBound_K X I T.at_ T.fn (wpAny_mono run (fun r s' hr => by
      obtain ⟨k, rfl, q⟩ := hr
      exact ⟨k, rfl, q⟩) fun _ _ e => e)
  repeat (first
    | with_reducible refine wpAny_cRoomFor hu ?_
    | (refine wpAny_bind (m := callSpecialIfBound? (.ref x) (Str.ofString "__eq__") [b]) (wpAny_mono seen (fun r s' hr => by
        obtain ⟨k, rfl, q⟩ := hr
        repeat (first | exact q | exact wpAny_pure q | exact wpAny_truthy_bool q | (refine wpAny_bind (m := truthy (.bool _)) (wpAny_truthy_bool ?_)) | wp_step)) fun _ _ e => e))
    | wp_step)
/-- x != b by the own `__eq__` -/
theorem ne_own {QQ : Value → Shared → Prop} (hu : A.units + 1 < cLine) (X : K.In s.heap) (I : InstAt s.heap x ox C od) (hb : Looks (model prog w) s.heap (typeOf b) tb) (hn : notFirst K C tb = true) (N : NeFn K C) (T : CmpFn K C "__eq__" g)
    (run : wpAny (model prog w) A.in1 (call (.ref g) [.ref x, b]) (fun r s' => ∃ k, r = .bool k ∧ QQ (.bool (!k)) s') E s) : wpAny (model prog w) A (richCompare .NotEq (.ref x) b) QQ E s := by
  have hu' : A.in1.units < cLine := hu
  have tried : wpAny (model prog w) A (tryCompare (.ref x) "__ne__" b) (fun r s' => ∃ v, r = some v ∧ QQ v s') E s := by
    unfold tryCompare
    simp only [callSpecialIfBound?, bindSpecialIfBound?]
    have ans : wpAny (model prog w) A (call (.builtin "object.__ne__") ([.ref x] ++ [b])) (fun r s' => ∃ k, r = .bool k ∧ QQ (.bool k) s') E s :=
      call_ne (QQ := fun r s' => ∃ k, r = .bool k ∧ QQ (.bool k) s') hu' X I N T (wpAny_mono run (fun r s' hr => by
        obtain ⟨k, rfl, q⟩ := hr
        exact ⟨k, rfl, !k, rfl, q⟩) fun _ _ e => e)
    have rest : wpAny (model prog w) A (call (.builtin "object.__ne__") ([.ref x] ++ [b]) >>= fun v => pure (some v)) (fun r s' => ∃ k, r = some (.bool k) ∧ QQ (.bool k) s') E s :=
      wpAny_bind (wpAny_mono ans (fun r s' hr => by
        obtain ⟨k, rfl, q⟩ := hr
        exact wpAny_pure ⟨k, rfl, q⟩) fun _ _ e => e)
    refine wpAny_bind (wpAny_mono (Q := fun r s' => ∃ k, r = some (.bool k) ∧ QQ (.bool k) s') (E := E) ?_ (fun r s' hr => ?_) fun _ _ e => e)
    · refine wpAny_holding (wpAny_bind (wpAny_bind (wpAny_bind (I.type.here ((looks_findIn X N.at_).here ?_)))))
      refine wpAny_bind (wpAny_askSetting (wpAny_ite ?_))
      have bd : Looks (model prog w) s.heap (bindSpecial (.builtin "object.__ne__") (.ref x)) (.builtin "object.__ne__", [.ref x]) := Looks.of_pure (one_bind _)
      split
      · exact wpAny_bind (bd.here (wpAny_pure (by exact rest)))
      · exact wpAny_tryCatch (wpAny_bind (bd.here (wpAny_pure (by exact rest))))
    · obtain ⟨k, rfl, q⟩ := hr
      exact wpAny_pure ⟨_, rfl, q⟩
  unfold richCompare
  simp only [oneThing_ref]
  refine wpAny_holding (wpAny_bind (wpAny_cRoomFor (Nat.lt_of_succ_lt hu) ?_))
  refine wpAny_bind (I.type.here (wpAny_bind (hb.here ?_)))
  have fin : wpAny (model prog w) A (tryCompare (.ref x) "__ne__" b) (fun r s' => ∃ v, r = some v ∧ QQ v s') E s := tried
  split
  · rename_i q
    have e : subIn K tb (.ref C) = some false := by
      rcases Bool.or_eq_true_iff.mp hn with e | e
      · rw [beq_iff_eq.mp e] at q; simp at q
      · exact beq_iff_eq.mp e
    refine wpAny_bind ((looks_subIn X e).here ?_)
    simp only [Bool.false_eq_true, if_false]
    refine wpAny_bind (wpAny_mono fin (fun r s' z => ?_) fun _ _ e => e)
    obtain ⟨v, rfl, hq⟩ := z
    exact wpAny_pure hq
  · refine wpAny_bind (wpAny_pure ?_)
    simp only [Bool.false_eq_true, if_false]
    refine wpAny_bind (wpAny_mono fin (fun r s' z => ?_) fun _ _ e => e)
    obtain ⟨v, rfl, hq⟩ := z
    exact wpAny_pure hq
end
/-- the other operand: of a listed built-in type or class -/
def othC (Ts : List String) (Cs : List Str) (y : D) (μ : Mu) (Q : Prop) : Prop := match tyD y μ with
  | some (.b T) => T ∈ Ts ∧ Q
  | some (.c c') => c' ∈ Cs ∧ Q
  | none => False
theorem othC_of {Ts : List String} {Cs : List Str} {y : D} {μ : Mu} {Q : Prop} (h : othC Ts Cs y μ Q) : ((∃ T, tyD y μ = some (.b T) ∧ T ∈ Ts) ∨ ∃ c, tyD y μ = some (.c c) ∧ c ∈ Cs) ∧ Q := by
  unfold othC at h
  split at h
  · exact ⟨.inl ⟨_, by assumption, h.1⟩, h.2⟩
  · exact ⟨.inr ⟨_, by assumption, h.1⟩, h.2⟩
  · exact h.elim
structure CmpD (P : Program) (w : World) (K : PySem.W.Frag) (mg : Str → Option Value) (base : Heap) (k : Nat) (c nm : Str) (Ts : List String) (Cs : List Str) (ps : List Str) (sp : DSp) : Prop where
  ex : ∃ C f fd, mg c = some (.ref C) ∧ CmpFn K C nm f ∧ (∀ T ∈ Ts, PySem.W.notFirst K C (.type T) = true) ∧ (∀ c' ∈ Cs, ∀ C', mg c' = some (.ref C') → InsT K C' ∧ PySem.W.notFirst K C (.ref C') = true) ∧ Binds K fd ps [] ∧ FnG P w K mg base k f fd ps (toSp ⟨K, mg, none⟩ sp)
/-- what the operands are, by values -/
def Opd (G : Gx) (c : Str) (Ts : List String) (Cs : List Str) (x y : V) (H : Hp) : Prop := ∃ p C dx fs t, x = .ref p ∧ G.mg c = some (.ref C) ∧ H p = some (.ins C dx fs) ∧ TyX G.K H y t ∧ ((∃ T ∈ Ts, t = .type T) ∨ ∃ c' ∈ Cs, ∃ C', G.mg c' = some (.ref C') ∧ t = .ref C')
def rOwnN (G : Gx) (c : Str) (Ts : List String) (Cs : List Str) (sp : DSp) : R2 := fun x y H Q => Opd G c Ts Cs x y H ∧ ∀ E, toSp G sp [x, y] H (fun v H' => ∃ k, v = .bl k ∧ Q (.bl (!k)) H') E
def fOwn (c : Str) (Ts : List String) (Cs : List Str) (sp : DSp) : F2 := fun x y μ Q => isCls c x μ (othC Ts Cs y μ (sp [x, y] μ Q xF))
def fOwnN (c : Str) (Ts : List String) (Cs : List Str) (sp : DSp) : F2 := fun x y μ Q => isCls c x μ (othC Ts Cs y μ (sp [x, y] μ (fun d μ1 => fBool d fun b => Q (.bl (!b)) μ1) xF))
section
variable {X : Cx} {k j : Nat} {ps : List Str} {c nm : Str} {Ts : List String} {Cs : List Str} {sp : DSp}
theorem opd_of {base : Heap} {P : Program} {w : World} {G : Gx} {Z : Addr → Prop} {m : List Addr} {μ : Mu} {H : Hp} {x y : D} {u v : V} {ks : List Str} {ds : List D} (D : CmpD P w G.K G.mg base k c nm Ts Cs ps sp) (M : MuOk G Z m μ H) (rx : Rep G m (vis Z m H) x u) (ry : Rep G m (vis Z m H) y v)
    (hi : insD x μ = some (c, ks, ds)) (hty : (∃ T, tyD y μ = some (.b T) ∧ T ∈ Ts) ∨ ∃ c', tyD y μ = some (.c c') ∧ c' ∈ Cs) : Opd G c Ts Cs u v H := by
  obtain ⟨C, f, fd, g1, g2, g3, g4, g5, F⟩ := D.ex
  obtain ⟨p, C', dx, vs, rfl, g, hp, l, rs⟩ := ins_rep M rx hi
  rcases hty with ⟨T, e, hT'⟩ | ⟨c', e, hc'⟩
  · obtain ⟨tv, t1, t2⟩ := tyX_of (G := G) M ry e (fun c' z => nomatch z)
    exact ⟨p, C', dx, _, tv, rfl, g, hp, t2, .inl ⟨T, hT', t1⟩⟩
  · obtain ⟨tv, t1, t2⟩ := tyX_of (G := G) M ry e (fun c2 z C2 g2' => by
      cases z
      exact (g4 c' hc' C2 g2').1)
    exact ⟨p, C', dx, _, tv, rfl, g, hp, t2, .inr ⟨c', hc', t1⟩⟩
theorem s2_ownN {base : Heap} {P : Program} {w : World} {G : Gx} (hG : G.ex = none) (D : CmpD P w G.K G.mg base k c nm Ts Cs ps sp) : S2 G (rOwnN G c Ts Cs sp) (fOwnN c Ts Cs sp) := by
  intro Z m μ H x y u v Q Q' M rx ry h kk
  obtain ⟨ks, ds, hi, q3⟩ := isCls_of h
  obtain ⟨hty, q4⟩ := othC_of q3
  refine ⟨opd_of D M rx ry hi hty, fun E => ⟨Z, m, μ, [x, y], _, xF, M, Reps.cons rx (Reps.cons ry Reps.nil), q4, fun z H' P => ?_, fun cls d H' P => (xpF P).elim⟩⟩
  obtain ⟨m', d, μ', s1, r1, q1⟩ := P
  obtain ⟨b, rfl, q2⟩ := fBool_of q1
  rw [Rep] at r1
  exact ⟨b, r1, kk _ _ ⟨m', _, μ', s1, by rw [Rep], q2⟩⟩
theorem op_ownNe (D : CmpD X.prog X.w X.K X.mg X.base k c "__eq__" Ts Cs ps sp) (N : ∀ C, X.mg c = some (.ref C) → NeFn X.K C) (hr : Room j X.A) (hkj : k + 1 ≤ j) (hgd : X.A.guards = some []) : OpR X (compareOp .NotEq) (rOwnN (gx X none) c Ts Cs sp) := by
  intro pins s σ H x y v u Q I rx ry h
  obtain ⟨C, f, fd, g1, g2, g3, g4, g5, F⟩ := D.ex
  obtain ⟨⟨p, C', dx, fs, t, rfl, gm, hp, ty, cs⟩, q⟩ := h
  have gm' : X.mg c = some (.ref C') := gm
  rw [g1] at gm'
  cases gm'
  obtain rfl : v = Value.ref p := rx
  obtain ⟨mA, O2, _⟩ := ins_get I.hok hp
  obtain ⟨od, J, _⟩ := O2.look
  obtain ⟨PP, Z, pp, _⟩ := kit_of I ry ty
  have lk := Z.ty (model X.prog X.w) s.heap I.kIn pp
  have nf : PySem.W.notFirst X.K C t = true := by
    rcases cs with ⟨T, hT, rfl⟩ | ⟨c', hc, C2, g, rfl⟩
    · exact g3 T hT
    · exact (g4 c' hc C2 g).2
  have hr2 := hr.mono hkj
  have hl : [Value.ref p, u].length = ps.length := F.len _ _ _ _ (q fun _ _ _ => False)
  have bd := g5 s [.ref p, u] I.kIn (by simpa using hl)
  rw [List.append_nil] at bd
  refine ne_own (by have := hr.un; omega) I.kIn J lk nf (N C g1) g2 (wpAny_call (codeAny_mono (F.run X.A.in1 X.stack s H ⟨[.ref p, u], []⟩ [.ref p, u] [.ref p, y] _ (fun _ _ _ => False) hr2.in1 hgd I.env0.in1 bd (.cons rfl (.cons ry .nil)) (q _)) fun res s2 out => ?_))
  match res, out with
  | .error er, out =>
    obtain ⟨_, _, _, _, _, _, _, _, _, _, _, _, z⟩ := out
    exact z.elim
  | .ok (.ret w2), out =>
    obtain ⟨v2, H', I3, rv, b, rfl, q3⟩ := I.after out
    obtain rfl : w2 = Value.bool b := rv
    exact ⟨b, rfl, .bl (!b), H', I3, rfl, q3⟩
/-! y in x by x's own `__contains__` -/
def fHas (c : Str) (sp : DSp) : F2 := fun y x μ Q => isCls c x μ (sp [x, y] μ (fun d μ1 => fBool d fun b => Q (.bl b) μ1) xF)
def fHasN (c : Str) (sp : DSp) : F2 := fun y x μ Q => isCls c x μ (sp [x, y] μ (fun d μ1 => fBool d fun b => Q (.bl (!b)) μ1) xF)
structure HasD (P : Program) (w : World) (K : PySem.W.Frag) (mg : Str → Option Value) (base : Heap) (k : Nat) (c : Str) (ps : List Str) (sp : DSp) : Prop where
  ex : ∃ C f fd, mg c = some (.ref C) ∧ CmpFn K C "__contains__" f ∧ Binds K fd ps [] ∧ FnG P w K mg base k f fd ps (toSp ⟨K, mg, none⟩ sp)
end
/-! from the head's facts -/
def cmpB (K : PySem.W.Frag) (c nm : Str) (Ts : List String) (Cs : List Str) : Bool := (He.Fa.glo c).ok K && (He.eqO (PySem.W.findIn K (.ref (He.ga K c)) nm) (some (some (.ref (He.ma K (He.ga K c) nm)))) && (PySem.W.isFn K (.ref (He.ma K (He.ga K c) nm)) &&
  (Ts.all (fun T => PySem.W.notFirst K (He.ga K c) (.type T)) && Cs.all fun c' => (He.Fa.glo c').ok K && (insB K c' && PySem.W.notFirst K (He.ga K c) (.ref (He.ga K c'))))))
theorem cmpD_of {P : Program} {w : World} {K : PySem.W.Frag} {h : Heap} {mg : Str → Option Value} {base : Heap} {k : Nat} {c nm : Str} {Ts : List String} {Cs : List Str} {ps : List Str} {sp : DSp} {fd : FuncData} (X : K.In h) (G : h.Ns mainGlobals mg)
    (B : cmpB K c nm Ts Cs = true) (bi : Binds K fd ps []) (F : FnG P w K mg base k (He.fAd K (c, some nm)) fd ps (toSp ⟨K, mg, none⟩ sp)) : CmpD P w K mg base k c nm Ts Cs ps sp := by
  obtain ⟨h1, B⟩ := He.ba B
  obtain ⟨h2, B⟩ := He.ba B
  obtain ⟨h3, B⟩ := He.ba B
  obtain ⟨h4, h5⟩ := He.ba B
  refine ⟨_, _, fd, He.glo_ok X G h1, ⟨He.eqO_ok h2, h3⟩, fun T hT => List.all_eq_true.mp h4 T hT, fun c' hc C' g => ?_, bi, F⟩
  obtain ⟨q1, q2⟩ := He.ba (List.all_eq_true.mp h5 c' hc)
  obtain ⟨q2, q3⟩ := He.ba q2
  rw [He.glo_ok X G q1] at g
  cases g
  exact ⟨insB_ok q2, q3⟩
def neB (K : PySem.W.Frag) (c : Str) : Bool := (He.Fa.glo c).ok K && (He.eqO (PySem.W.findIn K (.ref (He.ga K c)) "__ne__") (some (some (.builtin "object.__ne__"))) && decide (PySem.W.mroIn K (He.ga K c) (.type "object") = some true))
theorem ne_of {K : PySem.W.Frag} {h : Heap} {mg : Str → Option Value} {c : Str} (X : K.In h) (G : h.Ns mainGlobals mg) (B : neB K c = true) : ∀ C, mg c = some (.ref C) → NeFn K C := by
  obtain ⟨h1, B⟩ := He.ba B
  obtain ⟨h2, h3⟩ := He.ba B
  intro C g
  rw [He.glo_ok X G h1] at g
  cases g
  exact ⟨He.eqO_ok h2, of_decide_eq_true h3⟩
end DL

set_option Elab.async false
set_option linter.all false
set_option maxRecDepth 100000
set_option maxHeartbeats 4000000
set_option autoImplicit false
namespace DL
open PySem PySem.Spec PyProof.Rows L2
/-! ### y op x, y of a built-in type, by x's own `__rop__` -/
structure RfFn (K : PySem.W.Frag) (C : Addr) (op : Operator) (f : Addr) : Prop where
  first : PySem.W.selfFirst K C = true
  at_ : ∃ g : Addr, PySem.W.findIn K (.ref C) (PySem.dunder op.info.2) = some (some (.ref g))
  back : PySem.W.findIn K (.ref C) (PySem.dunderR op.info.2) = some (some (.ref f))
  fn : PySem.W.isFn K (.ref f) = true
/-- what of the built-in type: whether it has the operator itself (l) -/
structure RfTy (K : PySem.W.Frag) (C : Addr) (op : Operator) (T : String) (l : Bool) : Prop where
  ex : ∃ fo ro, PySem.W.findIn K (.type T) (PySem.dunder op.info.2) = some fo ∧ PySem.W.findIn K (.type T) (PySem.dunderR op.info.2) = some ro ∧ ((fo.isSome && !isSeqSlot fo) || (ro.isSome && !isSeqSlot ro)) = l
  sub : PySem.W.subIn K (.ref C) (.type T) = some false
section
open PySem.W
variable {prog : Program} {w : World} {A : Around} {E : Value → Shared → Prop} {s : Shared} {K : Frag} {x C g : Addr} {ox : Obj} {od : Option Obj} {T : String}
end
section
open PySem.W
variable {prog : Program} {w : World} {A : Around} {E : Value → Shared → Prop} {s : Shared}
end
/-- y op x by x's own reflected def -/
structure BackD (P : Program) (w : World) (K : PySem.W.Frag) (mg : Str → Option Value) (base : Heap) (k : Nat) (c : Str) (op : Operator) (T : String) (l : Bool) (ps : List Str) (sp : DSp) : Prop where
  ex : ∃ C f fd, mg c = some (.ref C) ∧ RfFn K C op f ∧ RfTy K C op T l ∧ Binds K fd ps [] ∧ FnG P w K mg base k f fd ps (toSp ⟨K, mg, none⟩ sp)
def isTy (T : String) (y : D) (μ : Mu) (Q : Prop) : Prop := match tyD y μ with
  | some (.b T') => T' = T ∧ Q
  | _ => False
def wBack (c : Str) (T : String) (sp : DSp) (wa wb : WE) : WE := fun ρ μ Q Xd => wa ρ μ (fun y μ1 => wb ρ μ1 (fun x μ2 => isTy T y μ2 (isCls c x μ2 (sp [x, y] μ2 Q Xd))) Xd) Xd
section
variable {W : WX} {X : Cx} {a b : Expr} {wa wb : WE} {pos : Pos} {k j : Nat} {ps : List Str} {c : Str} {sp : DSp} {T : String} {l : Bool}
end
end DL

set_option Elab.async false
set_option linter.all false
set_option maxRecDepth 100000
set_option maxHeartbeats 4000000
set_option autoImplicit false
namespace DL
open PySem PySem.Spec PyProof.Rows L2
/-! ### C.m(), m a staticmethod -/
structure StatD (P : Program) (w : World) (K : PySem.W.Frag) (mg : Str → Option Value) (base : Heap) (k : Nat) (c m : Str) (ps : List Str) (sp : DSp) : Prop where
  ex : ∃ C p g fd, mg c = some (.ref C) ∧ PySem.W.specialIn K (.ref C) "__getattribute__" = some (some (.builtin "type.__getattribute__")) ∧ PySem.W.typeIn K (.ref C) = some (.type "type") ∧ PySem.W.readsIn K C (.type "type") = true ∧
    PySem.W.findCls K (.ref C) (.type "type") m = some (.get (.builtin "staticmethod.__get__") (.ref p) .none (.ref C)) ∧ (∃ rest, PySem.W.recIn K p "staticmethod" = some (.ref g :: rest)) ∧ PySem.W.handedIn (.ref g) = true ∧ PySem.W.keepIn K (.ref g) = true ∧
    Binds K fd ps [] ∧ FnG P w K mg base k g fd ps (toSp ⟨K, mg, none⟩ sp)
def wStat (sp : DSp) : WE := fun _ μ Q Xd => sp [] μ Q Xd
section
variable {W : WX} {X : Cx} {o : Expr} {pos apos : Pos} {k j : Nat} {ps : List Str} {c m : Str} {sp : DSp}
theorem de_statD {pl : Sem Bool} (D : StatD X.prog X.w X.K X.mg X.base k c m ps sp) (hr : Room j X.A) (hkj : k ≤ j) (hgd : X.A.guards = some []) (tk : Takes X W) (he : DE none W X o (wC (.cls c)))
    (ht : eval (.Call (.Attribute o m apos) [] [] pos) X.env = (do
      let ov ← eval o X.env
      standAt apos.atName
      let (f, first) ← holding [ov] (getMethod ov m pl)
      callWith pos f first (backTo pos (starEach [] X.env)) (backToKw pos (keywordEach [] X.env))) := by rfl) :
    DE none W X (.Call (.Attribute o m apos) [] [] pos) (wStat sp) := by
  obtain ⟨C, p, g, fd, g1, g2, g3, g4, g5, ⟨rest, g6⟩, g7, g8, g9, F⟩ := D.ex
  refine ⟨fun pins s σ H Q' I h => ?_⟩
  obtain ⟨Z, m0, ρ, μ, Q, Xd, S, q, kq, kx⟩ := h
  refine PySem.W.methodCall_KW (pl := pl) (thn (he.run pins s σ H (fun v H1 => v = .ref C ∧ ∃ m1, Step (gx X none) (ownW Z σ ρ) m0 H m1 μ H1) I ⟨Z, m0, ρ, μ, fun d μ1 => d = .cls c ∧ μ1 = μ, xF, S, ⟨rfl, rfl⟩, fun v H1 P => ?_, fun cls d H' P => (xpF P).elim⟩) fun u s1 hu => ?_) ht
  · obtain ⟨m1, d, μ1, s1, r1, rfl, rfl⟩ := P
    rw [Rep] at r1
    obtain ⟨C', gm, rfl⟩ := r1
    have gm' : X.mg c = some (.ref C') := gm
    rw [g1] at gm'
    cases gm'
    exact ⟨rfl, m1, s1⟩
  · obtain ⟨v, H1, I1, rv, rfl, m1, s1'⟩ := hu
    obtain rfl : u = Value.ref C := rv
    obtain ⟨mf, hF⟩ := I1.fr
    refine PySem.W.method_of_cls hF I1.ok.mod.kin g2 (PySem.W.cls_sm hF I1.ok.mod.kin g3 g4 g5 g6 g7 ?_)
    have I2 := I1.tok (s1.toks + 1)
    exact PySem.W.callWith_K0 (first := []) I2.kIn g8 (run_fnG (us := []) (vs := []) F (hr.mono hkj) hgd g9 tk I2 .nil ⟨_, m1, μ, [], Q, Xd, s1'.mu, Reps.nil, q, fun v H' P => kq v H' (VPost.from s1' P), fun cls d H' P => kx cls d H' (XPost.from s1' P)⟩)
end
def statB (K : PySem.W.Frag) (c m : Str) : Bool := (He.Fa.glo c).ok K && (He.eqO (PySem.W.specialIn K (.ref (He.ga K c)) "__getattribute__") (some (some (.builtin "type.__getattribute__"))) && (decide (PySem.W.typeIn K (.ref (He.ga K c)) = some (.type "type")) && (PySem.W.readsIn K (He.ga K c) (.type "type") &&
  (He5.wrapB K (He.ga K c) "staticmethod" "staticmethod.__get__" m && (PySem.W.handedIn (.ref (He5.wf K (He.ga K c) "staticmethod" m)) && PySem.W.keepIn K (.ref (He5.wf K (He.ga K c) "staticmethod" m)))))))
theorem statD_of {P : Program} {w : World} {K : PySem.W.Frag} {h : Heap} {mg : Str → Option Value} {base : Heap} {k : Nat} {c m : Str} {ps : List Str} {sp : DSp} {fd : FuncData} (X : K.In h) (G : h.Ns mainGlobals mg)
    (B : statB K c m = true) (bi : Binds K fd ps []) (F : FnG P w K mg base k (He5.wf K (He.ga K c) "staticmethod" m) fd ps (toSp ⟨K, mg, none⟩ sp)) : StatD P w K mg base k c m ps sp := by
  obtain ⟨h1, B⟩ := He.ba B
  obtain ⟨h2, B⟩ := He.ba B
  obtain ⟨h3, B⟩ := He.ba B
  obtain ⟨h4, B⟩ := He.ba B
  obtain ⟨h5, B⟩ := He.ba B
  obtain ⟨h6, h7⟩ := He.ba B
  obtain ⟨w1, w2⟩ := He5.wrapB_ok h5
  exact ⟨_, _, _, fd, He.glo_ok X G h1, He.eqO_ok h2, of_decide_eq_true h3, h4, w1, w2, h6, h7, bi, F⟩
/-! ### a list of the def's own -/
section
variable {ex : Option (Addr × Addr × Addr)} {W : WX} {X : Cx} {tg e : Expr} {es : List Expr} {wa : WE} {ws : WA} {pos p0 apos cpos : Pos} {i : Nat} {x : Str}
theorem di_own (hN : X.N[i]? = some x) (hv : Vis X.env.scope x := by first | exact Or.inl rfl | exact Or.inr (Or.inl rfl) | exact Or.inr (Or.inr rfl)) (hd : (x == ("__debug__" : Str)) = false := by decide) (hcd : (x == ("__classdict__" : Str)) = false := by decide) :
    DIF ex W X tg (.Name x pos) (wiOwn i) := pi_weak (pi_list (pe_var hN hv hd hcd)) fun σ H R q => by
  obtain ⟨Z, m, ρ, μ, Q, Xd, S, q, k, kx⟩ := q
  obtain ⟨p, ds, hi, q⟩ := ownL_of q
  obtain ⟨hs, nz, vs, hp, rs⟩ := S.own i p _ hi
  exact ⟨_, hs, p, rfl, ⟨vs, .inl (.inl hp)⟩, k _ _ ⟨m, ds, μ, fun H2 => H2 p = some (.lst vs), .refl S.mu, fun H2 hz => (hz p (.inr ⟨i, _, hi⟩)).trans hp, itokF_own (G := gx X ex) rs, q⟩⟩
def appO (i : Nat) (wa : WA) (E : DEnds) (ρ : DS) (μ : Mu) (o : Option Sl) : Prop := match o with
  | some (.own p (.lst ds)) => wa ρ μ (fun xs μ1 => ds.length < 1000000 ∧ ∃ d, xs = [d] ∧ E.nx (ρ.set i (.own p (.lst (ds ++ [d])))) μ1) fun c ks es μ' => E.xc c ks es ρ μ'
  | _ => False
def sAppO (i : Nat) (wa : WA) : WS := fun E ρ μ => appO i wa E ρ μ (ρ[i]?)
/-- .. a list put behind it -/
def extO (i : Nat) (wa : WA) (E : DEnds) (ρ : DS) (μ : Mu) (o : Option Sl) : Prop := match o with
  | some (.own p (.lst ds)) => wa ρ μ (fun xs μ1 => ∃ zs, xs = [.lst zs] ∧ ds.length + zs.length ≤ 1000000 ∧ E.nx (ρ.set i (.own p (.lst (ds ++ zs)))) μ1) fun c ks es μ' => E.xc c ks es ρ μ'
  | _ => False
def sExtO (i : Nat) (wa : WA) : WS := fun E ρ μ => extO i wa E ρ μ (ρ[i]?)
theorem appO_of {wa : WA} {E : DEnds} {ρ : DS} {μ : Mu} {o : Option Sl} {i : Nat} (h : appO i wa E ρ μ o) : ∃ p ds, o = some (.own p (.lst ds)) ∧ wa ρ μ (fun xs μ1 => ds.length < 1000000 ∧ ∃ d, xs = [d] ∧ E.nx (ρ.set i (.own p (.lst (ds ++ [d])))) μ1) fun c ks es μ' => E.xc c ks es ρ μ' := by
  unfold appO at h
  split at h
  · exact ⟨_, _, rfl, h⟩
  · exact h.elim
theorem lt_line {n : Nat} (h : n < 1000000) : n < sizeLine := Nat.lt_of_lt_of_le h (by decide)
theorem ds_appO (hN : X.N[i]? = some x) (ha : DA ex W X [e] ws) (hv : Vis X.env.scope x := by first | exact Or.inl rfl | exact Or.inr (Or.inl rfl) | exact Or.inr (Or.inr rfl)) (hd : (x == ("__debug__" : Str)) = false := by decide) (hcd : (x == ("__classdict__" : Str)) = false := by decide)
    (hbase : attributeBase (.Name x p0) "append" X.env (eval (.Name x p0) X.env) = eval (.Name x p0) X.env := by rfl)
    (hfew : ((backTo cpos (starEach [e] X.env)).all (fun x => !x.1) && (backToKw cpos (keywordEach [] X.env)).all (fun x => x.1.isSome)
      && decide (([e] : List Expr).length + ([] : List Keyword).length + (if ([] : List Keyword).isEmpty then 0 else 1) < 30)) = true := by rfl)
    (hline : (apos.endLine == cpos.line) = true := by rfl) (hs : starEach [e] X.env = (false, eval e X.env) :: starEach [] X.env := by rfl) (hplain : (backTo cpos (starEach [] X.env)).any (·.1) = false := by rfl)
    (hsw : swapsWith (.Call (.Attribute (.Name x p0) "append" apos) [e] [] cpos) none pos.line X.env = pure false := by rfl) :
    DSt ex W X (.Expr (.Call (.Attribute (.Name x p0) "append" apos) [e] [] cpos) pos) (sAppO i ws) :=
  ps_weak (ps_expr (pe_bm PySem.F.plainAttrs_list PySem.F.slot_list_append PySem.F.type_list_append mt_append (pe_var hN hv hd hcd) ha hbase hfew hline hs hplain) hsw) fun De σ H q => by
  obtain ⟨Z, m, ρ, μ, E, S, q, kn, kr, kb, kc, kx⟩ := q
  obtain ⟨p, ds, hi, q⟩ := appO_of q
  obtain ⟨hs, nz, vs0, hp0, rs0⟩ := S.own i p _ hi
  refine ⟨_, hs, .inl ⟨rfl, _, .inl (.inl hp0)⟩, Z, m, ρ, μ, _, _, S, q, fun xs H1 P => ?_, fun cls d H' P => kx cls d σ H' (XSPost.of S P)⟩
  obtain ⟨m1, es, μ1, s1, r1, hl, d, rfl, q1⟩ := P
  obtain ⟨v, t, rfl, r3, r2⟩ := r1.uncons
  rw [Reps] at r2
  subst r2
  have S1 := S.step s1
  obtain ⟨_, _, vs, hp, rs⟩ := S1.own i p _ hi
  refine ⟨p, vs, v, rfl, rfl, hp, by rw [← rs.len]; exact lt_line hl, ?_⟩
  obtain ⟨S2, s2⟩ := S1.putOwn (o := .lst (vs ++ [v])) (c' := .lst (ds ++ [d])) hi ⟨vs ++ [v], upd_same, Reps.append rs (Reps.cons r3 Reps.nil)⟩
  exact kn _ _ ⟨m1, _, μ1, S2, (SStep.of s1).trans s2, q1⟩
/-! read: len(x), x[j], e in x -/
def wOwnLen (i : Nat) : WE := fun ρ μ Q _ => ownL (ρ[i]?) fun ds => Q (.int ds.length) μ
def wOwnIx (i : Nat) (wb : WE) : WE := fun ρ μ Q Xd => ownL (ρ[i]?) fun ds => wb ρ μ (fun y μ1 => intOr y fun j => match atI ds j with
    | some d => Q d μ1
    | none => False) Xd
def ownIn (neg : Bool) (x : D) (ds : List D) (Q : Bool → Prop) : Prop := ∃ p qs, toP x = some p ∧ toPs ds = some qs ∧ SeqAt.shaped p = true ∧ SeqAt.shaped (.list qs) = true ∧ Q (neg ^^ qs.any fun z => PyData.eqv z p)
def wOwnIn (neg : Bool) (i : Nat) (wa : WE) : WE := fun ρ μ Q Xd => ownL (ρ[i]?) fun ds => wa ρ μ (fun x μ1 => ownIn neg x ds fun b => Q (.bl b) μ1) Xd
end
end DL

set_option Elab.async false
set_option linter.all false
set_option maxRecDepth 100000
set_option maxHeartbeats 4000000
set_option autoImplicit false
namespace DL
open PySem PySem.Spec PyProof.Rows L2
/-! ### a dict of the module whose keys are tuples of ints -/
def intsV : List Value → Option (List Int)
  | [] => some []
  | .int i _ :: r => (intsV r).map (i :: ·)
  | _ => none
def keyInts (K : PySem.W.Frag) (a : Addr) : Option (List Int) := match K.lookup a with
  | some ⟨.type "tuple", _, .seq its _, _⟩ => intsV its.toList
  | _ => none
def hashT (ks : List Int) : Int := reduceHash (Builtin.Tuple.tupleHashOf (ks.map hashInt))
def rdE (K : PySem.W.Frag) (e : DictEntry) : Option (List Int × Addr × Value) := match e.key with
  | .ref a => (keyInts K a).map fun ks => (ks, a, e.val)
  | _ => none
def rdAll (K : PySem.W.Frag) : List DictEntry → Option (List (List Int × Addr × Value))
  | [] => some []
  | e :: r => match rdE K e, rdAll K r with
    | some x, some xs => if e.hash = hashT x.1 then some (x :: xs) else none
    | _, _ => none
def intV : Value → Option Int
  | .int i _ => some i
  | _ => none
theorem intsV_is {prog : Program} {w : World} : ∀ {vs : List Value} {ks : List Int}, intsV vs = some ks → ItemsAre (intKind prog w) ks vs
  | [], ks, h => by cases h; exact .nil
  | v :: vs, ks, h => by
    cases v with
    | int i t =>
      obtain ⟨r, hr, rfl⟩ := Option.map_eq_some_iff.mp (show (intsV vs).map (i :: ·) = some ks from h)
      exact .cons (intKind_is prog w i t) (intsV_is hr)
    | _ => cases h
theorem keyInts_is {prog : Program} {w : World} {K : PySem.W.Frag} {h : Heap} {a : Addr} {ks : List Int} (X : K.In h) (e : keyInts K a = some ks) : IsTupleKey (intKind prog w) h ks a := by
  unfold keyInts at e
  split at e
  · rename_i dd its n sl e1
    exact ⟨_, its, n, X _ _ e1, rfl, rfl, intsV_is e⟩
  · cases e
theorem rdAll_is {K : PySem.W.Frag} : ∀ {es : List DictEntry} {xs : List (List Int × Addr × Value)}, rdAll K es = some xs → es = xs.map (fun x => ⟨hashT x.1, .ref x.2.1, x.2.2⟩) ∧ ∀ x ∈ xs, keyInts K x.2.1 = some x.1
  | [], xs, h => by cases h; exact ⟨rfl, fun x hx => by cases hx⟩
  | e :: es, xs, h => by
    rw [rdAll] at h
    split at h
    · rename_i x xs' h1 h2
      split at h
      · rename_i hh
        cases h
        obtain ⟨q1, q2⟩ := rdAll_is h2
        unfold rdE at h1
        split at h1
        · rename_i a ha
          obtain ⟨ks, hk, rfl⟩ := Option.map_eq_some_iff.mp h1
          obtain ⟨eh, ek, ev⟩ := e
          simp only at ha hh
          subst ha hh
          refine ⟨by rw [List.map_cons, ← q1], fun y hy => ?_⟩
          rcases List.mem_cons.mp hy with rfl | hy
          · exact hk
          · exact q2 y hy
        · cases h1
      · cases h
    · cases h
def kdB (K : PySem.W.Frag) (d : Addr) (L : List (List Int × Int)) : Bool := !(d == sysModules) && (match K.lookup d with
  | some ⟨.type "dict", none, .dict es _, sl⟩ => decide (sl.size = 0) && (match rdAll K es.toList with
    | some xs => decide ((xs.map (·.1)).Nodup) && decide (xs.map (fun x => (x.1, intV x.2.2)) = L.map fun p => (p.1, some p.2))
    | none => false)
  | _ => false)
def kdGet (L : List (List Int × Int)) (ks : List Int) : Option Int := (L.find? fun x => decide (x.1 = ks)).map (·.2)
theorem find_two {xs : List (List Int × Addr × Value)} {L : List (List Int × Int)} {ks : List Int} {v : Int} (e : xs.map (fun x => (x.1, intV x.2.2)) = L.map fun p => (p.1, some p.2)) (h : kdGet L ks = some v) :
    ∃ a t, atKey xs ks = some (a, .int v t) := by
  induction xs generalizing L with
  | nil =>
    cases L with
    | nil => cases h
    | cons p L => cases e
  | cons x xs ih =>
    cases L with
    | nil => cases e
    | cons p L =>
      rw [List.map_cons, List.map_cons] at e
      injection e with e1 e2
      have e3 : x.1 = p.1 := congrArg Prod.fst e1
      have e4 : intV x.2.2 = some p.2 := congrArg Prod.snd e1
      unfold kdGet at h
      unfold atKey
      rw [List.find?_cons] at h ⊢
      rw [e3]
      by_cases c : p.1 = ks
      · rw [decide_eq_true c] at h ⊢
        cases h
        obtain ⟨k, a, u⟩ := x
        cases u <;> first | (cases e4; done) | skip
        cases e4
        exact ⟨a, _, rfl⟩
      · rw [decide_eq_false c] at h ⊢
        exact ih e2 h
def rKd (K : PySem.W.Frag) (L : List (List Int × Int)) : R2 := fun x y H Q => ∃ d a ks v, x = .ref d ∧ y = .ref a ∧ kdB K d L = true ∧ SqT K H a (ks.map V.int) ∧ kdGet L ks = some v ∧ Q (.int v) H
theorem vals_ints {prog : Program} {w : World} : ∀ {ks : List Int} {us : List Value}, Vals (ks.map V.int) us → ItemsAre (intKind prog w) ks us
  | [], us, h => by cases h; exact .nil
  | k :: ks, us, h => by
    cases h with
    | cons r1 r2 =>
      obtain ⟨t, rfl⟩ := r1
      exact .cons (intKind_is prog w k t) (vals_ints r2)
theorem ix_kd {X : Cx} {L : List (List Int × Int)} (hu : X.A.units + 1 < cLine) : IxR X (rKd X.K L) := by
  intro value slice pins s σ H x y v u Q I rx ry h hs
  obtain ⟨d, a, ks, r, rfl, rfl, B, sq, g, q⟩ := h
  obtain rfl : v = Value.ref d := rx
  obtain rfl : u = Value.ref a := ry
  unfold kdB at B
  rw [Bool.and_eq_true_iff] at B
  obtain ⟨B0, B⟩ := B
  split at B
  · rename_i es ep sl hl
    rw [Bool.and_eq_true_iff] at B
    obtain ⟨B1, B⟩ := B
    split at B
    · rename_i xs hx
      rw [Bool.and_eq_true_iff] at B
      obtain ⟨B2, B3⟩ := B
      obtain ⟨q1, q2⟩ := rdAll_is hx
      obtain ⟨a', t, hp⟩ := find_two (of_decide_eq_true B3) g
      have hsl : sl = #[] := Array.eq_empty_of_size_eq_zero (of_decide_eq_true B1)
      subst hsl
      have hd : s.heap.DictOfH (tupleKind (intKind X.prog X.w)) d xs := ⟨_, es, ep, I.kIn _ _ hl, ⟨rfl, rfl, rfl⟩, rfl, q1, fun x hx' => keyInts_is I.kIn (q2 x hx'), of_decide_eq_true B2⟩
      obtain ⟨its, o, n, rv, h1, h2, h3⟩ := sqT_at I.hok I.kIn sq
      have hkey : IsTupleKey (intKind X.prog X.w) s.heap ks a := ⟨o, _, n, h1, h2, h3, vals_ints rv⟩
      exact tail_any hd.typeIs slot_dict_getitem.lookup (wpAny_getItem_heap (knd := tupleKind (intKind X.prog X.w)) hu hkey hd hp ⟨.int r, H, I.tok _, ⟨_, rfl⟩, q⟩) hs
    · cases B
  · cases B
def fKd (L : List (List Int × Int)) : F1 := fun y μ Q => tupOr y fun ds => ∃ ks, intsD ds = some ks ∧ ∃ v, kdGet L ks = some v ∧ Q (.int v) μ
section
variable {ex : Option (Addr × Addr × Addr)} {W : WX} {X : Cx} {b : Expr} {wb : WE} {pos p0 : Pos} {x : Str} {L : List (List Int × Int)} {d : Addr}
theorem de_kd (hu : X.A.units + 1 < cLine) (hg : Gl X x) (hm : X.mg x = some (.ref d)) (B : kdB X.K d L = true) (hb : DE ex W X b wb) (hs : PlainIx b := by exact fun _ _ => rfl) (hd : (x == ("__debug__" : Str)) = false := by decide) :
    DE ex W X (.Subscript (.Name x p0) b pos) (w1 (fKd L) wb) := pe_weak (pe_ix (ix_kd (L := L) hu) (pe_glob hg hm (v := .ref d) rfl hd) hb hs) fun σ H Q' q => by
  obtain ⟨Z, m, ρ, μ, Q, Xd, S, q, k, kx⟩ := q
  refine ⟨Z, m, ρ, μ, _, Xd, S, q, fun v H1 P => ?_, kx⟩
  obtain ⟨m1, y, μ1, s1, r1, q1⟩ := P
  obtain ⟨ds, rfl, ks, hk, r, hr, q2⟩ := tupOr_of q1
  rw [Rep] at r1
  obtain ⟨a, vs, rfl, sq, rs⟩ := r1
  have e := ints_rep rs hk
  subst e
  exact ⟨d, a, ks, r, rfl, rfl, B, SqT.same vis_le sq, hr, k _ _ (VPost.from s1 (.now s1.mu (by rw [Rep]) q2))⟩
end
/-! ### plain data of the module -/
end DL

set_option Elab.async false
set_option linter.all false
set_option maxRecDepth 100000
set_option maxHeartbeats 4000000
set_option autoImplicit false
namespace DL
open PySem PySem.Spec PyProof.Rows L2 RZ
/-! ### zip(a tuple, a list) -/
section
variable {prog : Program} {w : World} {A : Around} {E : Value → Shared → Prop} {s : Shared} {zz pT pO u v m n : Addr} {c1 c2 : Nat} {ps qs : Array Value} {p q a0 b0 : Value}
end
/-! made -/
abbrev mx1 (h : Heap) (m : Addr) : Heap := h.push { cls := .type "tuple_iterator", data := .fields #[.ref m, .int 0 0] }
abbrev mx2 (h : Heap) (m n : Addr) : Heap := (mx1 h m).push { cls := .type "list_iterator", data := .fields #[.ref n, .int 0 0] }
abbrev mx3 (h : Heap) (m n : Addr) : Heap := (mx2 h m n).push { cls := .type "tuple", data := .seq #[.ref h.objs.size, .ref (mx1 h m).objs.size] }
abbrev mx4 (h : Heap) (m n : Addr) : Heap := (mx3 h m n).push { cls := .type "tuple", data := .seq #[.none, .none] }
abbrev mx5 (h : Heap) (m n : Addr) : Heap := (mx4 h m n).push { cls := .type "zip", data := .fields #[.none, .bool false, .bool false, .ref (mx2 h m n).objs.size, .ref (mx3 h m n).objs.size] }
section
variable {prog : Program} {w : World} {A : Around} {E : Value → Shared → Prop} {s : Shared}
end
def zipX2 (ds : List D) (Q : List D → Prop) : Prop := match ds with
  | [a, b] => match a, b with
    | .tup xs, .tup ys => Q (zipD xs ys)
    | .lst xs, .lst ys => Q (zipD xs ys)
    | .frl xs, .lst ys => Q (zipD xs ys)
    | .lst xs, .frl ys => Q (zipD xs ys)
    | .tup xs, .lst ys => Q (zipD xs ys)
    | _, _ => False
  | _ => False
def wiZipX (wa : WA) : WI := fun ρ μ Q Xd => wa ρ μ (fun ds μ1 => zipX2 ds fun es => Q es μ1) Xd
end DL

set_option Elab.async false
set_option linter.all false
set_option maxRecDepth 100000
set_option maxHeartbeats 4000000
set_option autoImplicit false
namespace DL
open PySem PySem.Spec PyProof.Rows L2 RZ
/-! ### enumerate(a tuple) -/
section
variable {prog : Program} {w : World} {A : Around} {E : Value → Shared → Prop} {s : Shared} {en it m : Addr} {i : Nat} {ps : Array Value} {p old : Value}
theorem ent_item {QQ : Value → Shared → Prop} (ke : IsEnum s.heap en it i old) (ki : s.heap.IsTupleIter it m i) (km : s.heap.IsTuple m ps) (hp : ps[i]? = some p) (ne : en ≠ it)
    (out : ∀ h', IsEnumOut h' en it ((i : Int) + 1) p s.heap.objs.size → h'.IsTupleIter it m (i + 1) → h'.get? s.heap.objs.size = some { cls := .type "tuple", data := .seq #[.int i s.toks, p] } → h'.objs.size = s.heap.objs.size + 1 →
      (∀ b o, b ≠ en → b ≠ it → s.heap.get? b = some o → h'.get? b = some o) → QQ (.ref s.heap.objs.size) { s with heap := h', toks := s.toks + 1 }) :
    wpAny (model prog w) A (Builtin.«enumerate.__next__» ⟨[.ref en], []⟩) (fun fin s' => ∃ v, fin = .done (.ret v) ∧ QQ v s') E s := by
  obtain ⟨hp0, g, d, tk, os⟩ := s
  show wpAny _ _ (field (.ref en) 2 >>= _) _ _ _
  refine wpAny_bind (wpAny_field ke rfl (x := .ref it) rfl (wpAny_bind (nextOf_tuple_item ki km hp fun g1 i1 e1 => ?_)))
  replace e1 : Heap.SameBut it hp0 g1 := e1
  have k1 : IsEnum g1 en it i old := (e1.2 en ne).trans ke
  show wpAny _ _ (field (.ref en) 3 >>= _) _ _ ⟨g1, g, d, tk, os⟩
  refine wpAny_bind (wpAny_field k1 rfl (x := rawInt i) rfl ?_)
  show wpAny _ _ (field (.ref en) 4 >>= _) _ _ ⟨g1, g, d, tk, os⟩
  refine wpAny_bind (wpAny_field k1 rfl (x := .none) rfl ?_)
  show wpAny _ _ (mkInt i >>= _) _ _ ⟨g1, g, d, tk, os⟩
  refine wpAny_bind (wpAny_mkInt ?_)
  show wpAny _ _ (setField (.ref en) 3 (rawInt ((i : Int) + 1)) >>= _) _ _ ⟨g1, g, d, tk + 1, os⟩
  refine wpAny_bind (wpAny_setField_rec k1 (by simp) fun g2 k2 e2 => ?_)
  replace e2 : Heap.SameBut en g1 g2 := e2
  replace k2 : IsEnum g2 en it ((i : Int) + 1) old := k2
  show wpAny _ _ (setField (.ref en) 4 .none >>= _) _ _ ⟨g2, g, d, tk + 1, os⟩
  refine wpAny_bind (wpAny_setField_rec k2 (by simp) fun g3 k3 e3 => ?_)
  replace e3 : Heap.SameBut en g2 g3 := e3
  replace k3 : IsEnum g3 en it ((i : Int) + 1) old := k3
  show wpAny _ _ (newTuple [.int i tk, p] >>= _) _ _ ⟨g3, g, d, tk + 1, os⟩
  refine wpAny_bind (wpAny_newTuple ?_)
  have k4 : IsEnum (g3.push { cls := .type "tuple", data := .seq #[.int i tk, p] }) en it ((i : Int) + 1) old := Heap.get?_push_of_some _ k3
  generalize eq4 : g3.push { cls := .type "tuple", data := .seq #[.int i tk, p] } = g4 at k4
  have sz3 : g3.objs.size = hp0.objs.size := by rw [e3.1, e2.1, e1.1]
  have lt : en < hp0.objs.size := Heap.lt_size ke
  have t4 : g4.get? hp0.objs.size = some { cls := .type "tuple", data := .seq #[.int i tk, p] } := by rw [← eq4, ← sz3]; exact Heap.get?_push_size _ rfl
  have sz4 : g4.objs.size = hp0.objs.size + 1 := by rw [← eq4, Heap.size_push, sz3]
  have old4 : ∀ b o, b ≠ en → b ≠ it → hp0.get? b = some o → g4.get? b = some o := fun b o c1 c2 k => by
    rw [← eq4]; exact Heap.get?_push_of_some _ (e3.extBut b o c1 (e2.extBut b o c1 (e1.extBut b o c2 k)))
  have i4 : g4.IsTupleIter it m (i + 1) := by
    rw [← eq4]; exact ((i1.extBut e2.extBut (Ne.symm ne)).extBut e3.extBut (Ne.symm ne)).at fun o k => Heap.get?_push_of_some _ k
  show wpAny _ _ (Builtin.SmallTypes.ownedTupleIsFree (.ref en) >>= _) _ _ ⟨g4, g, d, tk + 1, os⟩
  rw [sz3]
  clear eq4 k3 e3 k2 e2 k1 e1 i1 sz3 g3 g2 g1
  refine wpAny_bind ?_
  unfold Builtin.SmallTypes.ownedTupleIsFree
  refine wpAny_bind (wpAny_field k4 rfl (x := .none) rfl (wpAny_pure ?_))
  simp only [if_true]
  refine wpAny_bind (wpAny_rule (wpAny_bind (wpAny_field k4 rfl (x := old) rfl (wpAny_bind (wpAny_setField_rec k4 (by simp) fun g5 k5 e5 => ?_)))))
  replace e5 : Heap.SameBut en g4 g5 := e5
  replace k5 : IsEnum g5 en it ((i : Int) + 1) p := k5
  show wpAny _ _ (Builtin.SmallTypes.ownedTupleHandOut (.ref en) (.ref hp0.objs.size) >>= _) _ _ ⟨g5, g, d, tk + 1, os⟩
  refine wpAny_bind ?_
  unfold Builtin.SmallTypes.ownedTupleHandOut
  refine wpAny_bind (wpAny_setField_rec k5 (by simp) fun g6 k6 e6 => ?_)
  replace e6 : Heap.SameBut en g5 g6 := e6
  replace k6 : IsEnumOut g6 en it ((i : Int) + 1) p hp0.objs.size := k6
  refine wpAny_setField_rec k6 (by simp) fun g7 k7 e7 => ?_
  replace e7 : Heap.SameBut en g6 g7 := e7
  replace k7 : IsEnumOut g7 en it ((i : Int) + 1) p hp0.objs.size := k7
  refine wpAny_bind (wpAny_letGo (wpAny_pure ⟨_, rfl, out g7 k7 ?_ ?_ ?_ ?_⟩))
  · exact ((i4.extBut e5.extBut (Ne.symm ne)).extBut e6.extBut (Ne.symm ne)).extBut e7.extBut (Ne.symm ne)
  · exact e7.extBut _ _ (Nat.ne_of_gt lt) (e6.extBut _ _ (Nat.ne_of_gt lt) (e5.extBut _ _ (Nat.ne_of_gt lt) t4))
  · rw [e7.1, e6.1, e5.1, sz4]
  · exact fun b o c1 c2 k => e7.extBut b o c1 (e6.extBut b o c1 (e5.extBut b o c1 (old4 b o c1 c2 k)))
theorem ent_next {QQ : Option Value → Shared → Prop} (ke : IsEnum s.heap en it i old) (ki : s.heap.IsTupleIter it m i) (km : s.heap.IsTuple m ps) (hp : ps[i]? = some p) (ne : en ≠ it)
    (out : ∀ h', IsEnumOut h' en it ((i : Int) + 1) p s.heap.objs.size → h'.IsTupleIter it m (i + 1) → h'.get? s.heap.objs.size = some { cls := .type "tuple", data := .seq #[.int i s.toks, p] } → h'.objs.size = s.heap.objs.size + 1 →
      (∀ b o, b ≠ en → b ≠ it → s.heap.get? b = some o → h'.get? b = some o) → QQ (some (.ref s.heap.objs.size)) { s with heap := h', toks := s.toks + 1 }) : wpAny (model prog w) A (pyNext (.ref en)) QQ E s := by
  have ty : s.TypeIs (.ref en) "enumerate" := ⟨_, ke, rfl⟩
  unfold pyNext
  exact wpAny_bind (wpAny_attempt (wpAny_callSpecial?_slot (name := Str.ofString "__next__") ty F.slot_enumerate_next
    (wpAny_call_entry F.slot_enumerate_next ty F.entry_enumerate_next (ent_item ke ki km hp ne fun h' a b c d k => wpAny_pure (out h' a b c d k)) (F.args_enumerate_next_1 _))))
theorem ent_stop {QQ : Option Value → Shared → Prop} (hh : A.handled = none) (ke : IsEnum s.heap en it i old) (ki : s.heap.IsTupleIter it m i) (km : s.heap.IsTuple m ps) (hp : ps[i]? = none)
    (out : ∀ h', Heap.ExtBut it s.heap h' → QQ none { s with heap := h' }) : wpAny (model prog w) A (pyNext (.ref en)) QQ E s := by
  have ty : s.TypeIs (.ref en) "enumerate" := ⟨_, ke, rfl⟩
  unfold pyNext
  refine wpAny_bind (wpAny_attempt (wpAny_callSpecial?_slot (name := Str.ofString "__next__") ty F.slot_enumerate_next (wpAny_call_entry F.slot_enumerate_next ty F.entry_enumerate_next ?_ (F.args_enumerate_next_1 _))))
  show wpAny _ _ (field (.ref en) 2 >>= _) _ _ _
  refine wpAny_bind (wpAny_field ke rfl (x := .ref it) rfl (wpAny_bind (nextOf_tuple_end hh ki km hp fun h' x e1 he => ?_)))
  obtain ⟨o, ho, hc⟩ := he
  exact wpAny_bind (wpAny_isInstance (T := "StopIteration") (b := true) ⟨o, ho, hc⟩ isSubtype_stop (wpAny_pure (out _ e1)))
abbrev en1 (h : Heap) (m : Addr) : Heap := h.push { cls := .type "tuple_iterator", data := .fields #[.ref m, .int 0 0] }
abbrev en2 (h : Heap) (m : Addr) : Heap := (en1 h m).push { cls := .type "enumerate", data := .fields #[.none, .bool false, .ref h.objs.size, rawInt 0, .none, .none] }
theorem ent_new (m : Addr) (dd : Option Addr) (ps : Array Value) (n : Nat) (sl : Array (Option Value)) :
    Meets (Builtin.«enumerate.__new__» ⟨[.type "enumerate", .ref m], []⟩) (fun _ R s => s.heap.get? m = some ⟨.type "tuple", dd, .seq ps n, sl⟩ ∧ R (.ok (.ret (.ref (en1 s.heap m).objs.size))) { s with heap := en2 s.heap m }) :=
  .of_wp fun prog w A R s h => by
    obtain ⟨hp0, g, d, tk, os⟩ := s
    obtain ⟨hm, h⟩ := h
    have hsub := sub_enumerate
    have M1 : Heap.IsTuple (Shared.heap ⟨hp0, g, d, tk, os⟩) m ps := ⟨_, hm, rfl, n, rfl⟩
    wp_walk using wpAny_loadPart' hm
    refine wpAny_stack_any fun st => wpAny_pure ?_
    split
    · rename_i c _ _ _ _ _
      cases (c == Value.type "enumerate")
      · wp_walk using wpAny_loadPart' hm, wpAny_pyIter_tuple M1
        exact ⟨_, rfl, h⟩
      · wp_walk using wpAny_loadPart' hm, wpAny_pyIter_tuple M1
        exact ⟨_, rfl, h⟩
    · wp_walk using wpAny_loadPart' hm, wpAny_pyIter_tuple M1
      exact ⟨_, rfl, h⟩
theorem ent_call {QQ : Value → Shared → Prop} (km : s.heap.IsTuple m ps)
    (out : ∀ h', IsEnum h' (s.heap.objs.size + 1) s.heap.objs.size 0 .none → h'.IsTupleIter s.heap.objs.size m 0 → (∀ b o, s.heap.get? b = some o → h'.get? b = some o) → QQ (.ref (s.heap.objs.size + 1)) { s with heap := h' }) :
    wpAny (model prog w) A (call (.type "enumerate") [.ref m]) QQ E s := by
  obtain ⟨⟨c, dct, dt, sl⟩, hl, hc, n, hd⟩ := km
  simp only at hc hd
  subst hc hd
  refine callType_new F.called_enumerate (by decide) (F.typeCall_enumerate_1 _) (F.newCall_enumerate_1 _) (fun obj => F.args_object_init_2 obj _) F.entry_enumerate_new (ent_new m dct ps n sl) ⟨hl, ?_⟩
  have k1 : (en1 s.heap m).objs.size = s.heap.objs.size + 1 := Heap.size_push ..
  have j2 : (en2 s.heap m).get? (en1 s.heap m).objs.size = some _ := Heap.get?_push_size _ rfl
  have j1 : (en2 s.heap m).get? s.heap.objs.size = some _ := Heap.get?_push_of_some _ (Heap.get?_push_size _ rfl)
  show _ ∧ _
  rw [k1] at j2 ⊢
  exact ⟨⟨_, j2, rfl⟩, out _ j2 ⟨_, j1, rfl, rfl⟩ fun b o x => Heap.get?_push_of_some _ (Heap.get?_push_of_some _ x)⟩
end
/-- the tuple at a as it stands at each turn, each item in a new pair -/
def IteT (K : PySem.W.Frag) (a : Addr) : It :=
  ⟨fun i H => ∃ (xs : List V) (x : V), SqT K H a xs ∧ xs[i]? = some x, fun i H v H' => ∃ T x, v = .ref T ∧ H T = none ∧ H' = upd H T (.tup [.int (i : Nat), x]) ∧ ∀ xs, SqT K H a xs → xs[i]? = some x, fun i H => ∃ xs : List V, SqT K H a xs ∧ xs.length ≤ i⟩
theorem turn_ent {P : Program} {w : World} {K : PySem.W.Frag} {elts : List Expr} {kk : Nat} {tpos : Pos} (a en it : Addr) :
    Turn P w K (.Tuple elts kk tpos) (IteT K a) [en, it] en (fun i h => (∃ old, IsEnum h en it ((i : Nat) : Int) old) ∧ h.IsTupleIter it a i ∧ en ≠ it) where
  mem := by simp
  obj := fun i h st b hb => by
    obtain ⟨⟨old, he⟩, ⟨o, ho, hc, hd⟩, _⟩ := st
    have at_ : b = en ∨ b = it := by simpa using hb
    rcases at_ with rfl | rfl
    · exact ⟨_, he, fun v q => nomatch q⟩
    · exact ⟨o, ho, fun v q => by rw [hd] at q; cases q⟩
  keep := fun i h h' st k => by
    obtain ⟨⟨old, he⟩, hi, ne⟩ := st
    exact ⟨⟨old, k en (by simp) _ he⟩, hi.at fun o q => k it (by simp) o q, ne⟩
  item := by
    intro X hP hw hK hc i pins s σ H E I hf st hg
    subst hP hw hK
    obtain ⟨⟨old, ke⟩, ki, ne⟩ := st
    obtain ⟨xs, x, sx, hx⟩ := hg
    obtain ⟨its, rv, p, _⟩ := I.tuple sx
    obtain ⟨u, hu, ru⟩ := rv.get hx
    have l1 : en < s.heap.objs.size := Heap.lt_size ke
    have l2 : it < s.heap.objs.size := by obtain ⟨_, q, _⟩ := ki; exact Heap.lt_size q
    refine ent_next ke ki (show s.heap.IsTuple a its.toArray from p) (p := u) (by simpa using hu) ne fun h' ho i' hT hsz old' => ?_
    refine ⟨_, rfl, wpAny_letOwnedTupleGo_enum (s := { s with heap := h', toks := s.toks + 1 }) ho fun h2 he2 sb => ?_⟩
    have T2 : h2.get? s.heap.objs.size = some { cls := .type "tuple", data := .seq #[.int i s.toks, u] } := (sb.2 _ (Nat.ne_of_gt l1)).trans hT
    have new : ObjOk X.prog X.w (upd H s.heap.objs.size (.tup [.int (i : Nat), x])) h2 s.heap.objs.size (.tup [.int (i : Nat), x]) := ⟨by show 2 ≤ sizeLine; decide, [.int i s.toks, u], .cons ⟨_, rfl⟩ (.cons ru .nil), ⟨_, T2, rfl, _, rfl⟩⟩
    have I1 : Inv X pins σ (upd H s.heap.objs.size (.tup [.int (i : Nat), x])) { s with heap := h2, toks := s.toks + 1 } := I.turnedNew (ch := [en, it]) (fun b ob hb q => by
      have nb : ∀ d, d ∈ [en, it] → b ≠ d := fun d hd e => hb (e ▸ hd)
      exact (sb.2 b (nb _ (by simp))).trans (old' b ob (nb _ (by simp)) (nb _ (by simp)) q)) hf (Nat.le_refl _) new
    refine ⟨.ref s.heap.objs.size, _, I1, rfl, ⟨_, x, rfl, I.hok.fresh (Nat.le_refl _), rfl, fun ys hy => by rw [I.tuple_inj hy sx]; exact hx⟩, ⟨⟨u, ?_⟩, i'.at fun o q => (sb.2 it (Ne.symm ne)).trans q, ne⟩, fun b hb => ?_⟩
    · rw [show ((i + 1 : Nat) : Int) = (i : Int) + 1 by omega]
      exact he2
    · have lt : b < s.heap.objs.size := by
        have at_ : b = en ∨ b = it := by simpa using hb
        rcases at_ with rfl | rfl
        · exact l1
        · exact l2
      rw [upd_ne (Nat.ne_of_lt lt)]
      exact (hf b hb).1
  done := by
    intro X hP hw hK hc i pins s σ H E I hf st hg
    subst hP hw hK
    obtain ⟨⟨old, ke⟩, ki, ne⟩ := st
    obtain ⟨xs, sx, hx⟩ := hg
    obtain ⟨its, rv, p, _⟩ := I.tuple sx
    obtain ⟨f0, f1, f2, f3, f4, f5⟩ := hf it (by simp)
    have hl := rv.length
    exact ent_stop (I.ok.hd hc) ke ki (show s.heap.IsTuple a its.toArray from p) (by simp; omega) fun h' eb => ⟨rfl, I.turned (t' := s.toks) (fun b o hb q => eb b o hb q) f0 f1 f3 f4 f5⟩
  self := fun A i s Q E st h => by
    obtain ⟨⟨_, he⟩, _⟩ := st
    exact wpAny_pyIter_enum he h
/-- enumerate of a list or a tuple -/
def iEnumX (K : PySem.W.Frag) (ta : TA) : TI := fun σ H R => ta σ H fun vs H1 => ∃ a xs, vs = [.ref a] ∧ ((SqL K H1 a xs ∧ R (Ite K a) H1) ∨ (SqT K H1 a xs ∧ R (IteT K a) H1))
theorem pi_enumX {X : Cx} {e : Expr} {ta : TA} {p pos tpos : Pos} {elts : List Expr} {kk : Nat} (hg : Gl X "enumerate") (hm : X.mg "enumerate" = none) (ha : PA X [e] ta) (hs : starEach [e] X.env = [(false, eval e X.env)] := by rfl) :
    PI X (.Tuple elts kk tpos) (.Call (.Name "enumerate" p) [e] [] pos) (iEnumX X.K ta) := by
  refine ⟨fun pins s σ H R I h => ?_⟩
  refine Call_ (ld_blt I hg hm boot_enumerate (PyProof.Rows.callWith_type1 (thn (ha.run pos pins s σ H _ I h) fun us s1 got => ?_) hs rfl))
  obtain ⟨vs, H1, I1, r1, a, xs, rfl, cs⟩ := got
  obtain ⟨u, rfl, r⟩ := r1.one
  obtain rfl : u = Value.ref a := r
  have fresh2 : ∀ b, b ∈ [s1.heap.objs.size + 1, s1.heap.objs.size] → FpOk X pins H1 b := fun b hb => by
    have hle : s1.heap.objs.size ≤ b := by
      simp only [List.mem_cons, List.not_mem_nil, or_false] at hb
      rcases hb with z | z <;> omega
    exact I1.fpOk hle (I1.hok.fresh hle)
  rcases cs with ⟨sx, q⟩ | ⟨sx, q⟩
  · obtain ⟨its, rv, p', hz⟩ := I1.list sx
    exact call_enumerate_list p'.isList fun h' he hit hsz hk => wpAny_pyIter_enum he ⟨s1.heap.objs.size + 1, [s1.heap.objs.size + 1, s1.heap.objs.size], _, _, H1, rfl, I1.kept (t' := s1.toks) hk, turn_enum a (s1.heap.objs.size + 1) s1.heap.objs.size, ⟨⟨.none, he⟩, hit, Nat.succ_ne_self _⟩, fresh2, q⟩
  · obtain ⟨its, rv, p', hz⟩ := I1.tuple sx
    exact ent_call (show s1.heap.IsTuple a its.toArray from p') fun h' he hit hk => wpAny_pyIter_enum he ⟨s1.heap.objs.size + 1, [s1.heap.objs.size + 1, s1.heap.objs.size], _, _, H1, rfl, I1.kept (t' := s1.toks) hk, turn_ent a (s1.heap.objs.size + 1) s1.heap.objs.size, ⟨⟨.none, he⟩, hit, Nat.succ_ne_self _⟩, fresh2, q⟩
theorem itok_ent {G : Gx} {m : List Addr} {E : Hp} {a : Addr} {vs : List V} {ds : List D} (s : SqT G.K E a vs) (r : Reps G m E ds vs) : ItOk G (IteT G.K a) m E (enumD ds) := by
  have hl : (enumD ds).length = ds.length := by simp [enumD]
  refine ⟨fun i H hi hs => ?_, fun H hs => ⟨vs, SqT.same hs s, by rw [hl, r.len]; exact Nat.le_refl _⟩, fun i H x H3 hi hs y => ?_⟩
  · rw [hl] at hi
    obtain ⟨v, e, _⟩ := r.get (List.getElem?_eq_getElem hi)
    exact ⟨vs, v, SqT.same hs s, e⟩
  · obtain ⟨T, x', e, nT, eH, y⟩ := y
    obtain ⟨d, ed, rd⟩ := r.get' (y vs (SqT.same hs s))
    refine ⟨.tup [.int (i : Nat), d], by simp only [enumD, List.getElem?_mapIdx, ed, Option.map_some], .inr ⟨T, _, nT, eH, fun m' E' hp hE eT => ?_⟩⟩
    rw [Rep]
    exact ⟨T, _, e, .inl (.inl eT), Reps.cons (by rw [Rep]) (Reps.cons (Rep.mono hp hE _ _ rd) Reps.nil)⟩
def enX (ds : List D) (Q : List D → Prop) : Prop := match ds with
  | [.lst es] => Q (enumD es)
  | [.frl es] => Q (enumD es)
  | [.tup es] => Q (enumD es)
  | _ => False
theorem enX_of {ds : List D} {Q : List D → Prop} (h : enX ds Q) : ∃ d es, ds = [d] ∧ ((d = .lst es ∨ d = .frl es) ∨ d = .tup es) ∧ Q (enumD es) := by
  unfold enX at h
  split at h
  · exact ⟨_, _, rfl, .inl (.inl rfl), h⟩
  · exact ⟨_, _, rfl, .inl (.inr rfl), h⟩
  · exact ⟨_, _, rfl, .inr rfl, h⟩
  · exact h.elim
def wiEnumX (wa : WA) : WI := fun ρ μ Q Xd => wa ρ μ (fun ds μ1 => enX ds fun es => Q es μ1) Xd
theorem di_enumX {ex : Option (Addr × Addr × Addr)} {W : WX} {X : Cx} {e : Expr} {elts : List Expr} {kk : Nat} {tpos p pos : Pos} {ws : WA} (hg : Gl X "enumerate") (hm : X.mg "enumerate" = none) (ha : DA ex W X [e] ws) (hs : starEach [e] X.env = [(false, eval e X.env)] := by rfl) :
    DI ex W X (.Tuple elts kk tpos) (.Call (.Name "enumerate" p) [e] [] pos) (wiEnumX ws) := pi_weak (pi_enumX hg hm ha hs) fun σ H R q => by
  obtain ⟨Z, m, ρ, μ, Q, Xd, S, q, k, kx⟩ := q
  refine ⟨Z, m, ρ, μ, _, Xd, S, q, fun vs H1 P => ?_, kx⟩
  obtain ⟨m1, ds, μ1, s1, r1, q1⟩ := P
  obtain ⟨d, es, rfl, h, q2⟩ := enX_of q1
  obtain ⟨v, t, rfl, r2, r3⟩ := r1.uncons
  rw [Reps] at r3
  subst r3
  rcases h with h | rfl
  · obtain ⟨a, va, rfl, sa, ra⟩ := lst_rep' h r2
    exact ⟨a, va, rfl, .inl ⟨Same.seq vis_le sa, k _ _ ⟨m1, _, μ1, s1, itok_enum (G := gx X ex) sa ra, q2⟩⟩⟩
  · rw [Rep] at r2
    obtain ⟨a, va, rfl, sa, ra⟩ := r2
    exact ⟨a, va, rfl, .inr ⟨SqT.same vis_le sa, k _ _ ⟨m1, _, μ1, s1, itok_ent (G := gx X ex) sa ra, q2⟩⟩⟩
end DL

set_option Elab.async false
set_option linter.all false
set_option maxRecDepth 100000
set_option maxHeartbeats 4000000
set_option autoImplicit false
namespace DL
open PySem PySem.Spec PyProof.Rows L2
/-! ### sum of a list or a tuple of ints -/
section
variable {prog : Program} {w : World} {A : Around} {E : Value → Shared → Prop} {s : Shared} {l : Addr}
end
def fSumX : FN := fun xs μ Q => match xs with
  | [.tup ds] => ∃ ns, intsD ds = some ns ∧ Q (.int ns.sum) μ
  | [x] => lstInts x fun ns => Q (.int ns.sum) μ
  | _ => False
end DL

set_option Elab.async false
set_option linter.all false
set_option maxRecDepth 100000
set_option maxHeartbeats 4000000
set_option autoImplicit false
namespace DL
open PySem PySem.Spec PyProof.Rows L2
/-! ### f(e) in an except suite: a def that gets the caught exception -/
abbrev XSp := Str → List Str → List D → Mu → (D → Mu → Prop) → Prop
def startX (N : List Str) (c : Str) (ks : List Str) (es : List D) : DS := (List.replicate N.length Sl.no).set 0 (.exn c ks es)
def toSpX (K : PySem.W.Frag) (mg : Str → Option Value) (a : Addr) (cls : Value) (d : Option Addr) (sp : XSp) (H : Hp) (Q : VK) : Prop :=
  ∃ (Z : Addr → Prop) (m : List Addr) (μ : Mu) (c : Str) (ks : List Str) (es : List D) (C dd : Addr) (vs : List V) (Qd : D → Mu → Prop), MuOk ⟨K, mg, none⟩ Z m μ H ∧ exOf a cls d = some (a, C, dd) ∧ mg c = some (.ref C) ∧ vis Z m H dd = some (.xd (ks.zip vs)) ∧ ks.length = es.length ∧
    Reps ⟨K, mg, none⟩ m (vis Z m H) es vs ∧ sp c ks es μ Qd ∧ ∀ v H', VPost ⟨K, mg, none⟩ Z m H Qd v H' → Q v H'
structure FnX (P : Program) (wd : World) (K : PySem.W.Frag) (mg : Str → Option Value) (bs : Heap) (k : Nat) (f : Addr) (fd : FuncData) (ps : List Str) (sp : XSp) : Prop where
  one : ps.length = 1
  run : ∀ (A : Around) (fr : List Env) (s : Shared) (H : Hp) (args : Args) (a : Addr) (oe : Obj) (cls : Value) (d : Option Addr) (Q : VK), L2H.RoomH k A → A.guards = some [] → A.handled = some (.ref a) → L2H.PinOk fr H s (a, oe) → Zc cls d oe → (∃ vs, oe.data = .fields vs) →
    Env0 P wd K mg bs A fr s H → BindsTo s fd args (ps.zip [.ref a]) → toSpX K mg a cls d sp H Q → codeAny (model P wd) A (.call (.ref f) args) (CR (L2.CX P wd) fr P wd H s Q (fun _ _ _ => False)) s
section
variable {P : Program} {w : World} {K : PySem.W.Frag} {mg : Str → Option Value} {base : Heap}
structure HotD (P : Program) (w : World) (K : PySem.W.Frag) (mg : Str → Option Value) (base : Heap) (k : Nat) (x : Str) (ps : List Str) (sp : XSp) : Prop where
  ex : ∃ f fd, mg x = some (.ref f) ∧ PySem.W.keepIn K (.ref f) = true ∧ Binds K fd ps [] ∧ FnX P w K mg base k f fd ps sp
end
def wHotX (sp : XSp) (i : Nat) : WE := fun ρ μ Q _ => KExn (ρ[i]?) fun c ks es => sp c ks es μ Q
section
variable {X : Cx} {a : Addr} {oe : Obj} {cls : Value} {d : Option Addr} {pn : List (Addr × Obj)} {pos p1 p2 : Pos} {x y : Str} {i j k : Nat} {ps : List Str} {sp : XSp}
end
end DL

set_option Elab.async false
set_option linter.all false
set_option maxRecDepth 100000
set_option maxHeartbeats 4000000
set_option autoImplicit false
namespace DL
open PySem PySem.Spec PyProof.Rows L2
/-! ### xs.index(x), xs.count(x) of data; xs[::-1] -/
def isL (x : D) (k : Prop) : Prop := match x with
  | .lst _ => k
  | .frl _ => k
  | _ => False
def wMb (f : F2) (wo wa : WE) : WE := fun ρ μ Q Xd => wo ρ μ (fun x μ1 => isL x (wa ρ μ1 (fun y μ2 => f x y μ2 Q) Xd)) Xd
section
variable {ex : Option (Addr × Addr × Addr)} {W : WX} {X : Cx} {e o : Expr} {wa wo : WE} {pos apos : Pos} {id : String} {name : Str} {r : V → List V → Hp → VK → Prop} {f : F2}
/-! xs[::-1] -/
def fRev : F1 := fun x μ Q => lstOr x fun ds => Q (.lst ds.reverse) μ
end
end DL

set_option Elab.async false
set_option linter.all false
set_option maxRecDepth 100000
set_option maxHeartbeats 4000000
set_option autoImplicit false
namespace DL
open PySem PySem.Spec PyProof.Rows L2
/-! ### ==, != of lists whose items have an own `__eq__`, all alike -/
section
variable {prog : Program} {w : World} {A : Around} {R : Result → Shared → Prop}
end
def prsO (c : Str) (sp : DSp) (μ : Mu) (ds es : List D) : Prop := ds.length = es.length ∧ ∀ (i : Nat) d e, ds[i]? = some d → es[i]? = some e → isCls c d μ (isCls c e μ (sp [d, e] μ (fun r μ' => r = .bl true ∧ μ' = μ) xF))
section
variable {X : Cx} {k j : Nat} {ps : List Str} {c : Str} {Ts : List String} {Cs : List Str} {sp : DSp} {r : Bool}
end
end DL

set_option Elab.async false
set_option linter.all false
set_option maxRecDepth 100000
set_option maxHeartbeats 4000000
set_option autoImplicit false
namespace DL
open PySem PySem.Spec PyProof.Rows L2
/-! ### o.m(..) where o is of one of two classes, each with its own m -/
def wMethU (c1 c2 m : Str) (sp1 sp2 : DSp) (wo : WE) (wa : WA) : WE := fun ρ μ Q Xd => wo ρ μ (fun x μ1 => hasCls c1 m x μ1 (wa ρ μ1 (fun ds μ2 => sp1 (x :: ds) μ2 Q Xd) Xd) ∨ hasCls c2 m x μ1 (wa ρ μ1 (fun ds μ2 => sp2 (x :: ds) μ2 Q Xd) Xd)) Xd
section
variable {W : WX} {X : Cx} {e o : Expr} {es : List Expr} {wo : WE} {ws : WA} {pos p apos : Pos} {k1 k2 j : Nat} {ps1 ps2 : List Str} {c1 c2 m : Str} {sp1 sp2 : DSp}
/-- what is left of the call when the object is known -/
def TlM (G : Gx) (W : WX) (C : Addr) (m : Str) (sp : DSp) (ws : WA) (σ : L2.St) (Q : VK) (x : V) (H1 : Hp) : Prop := ∃ a dx fs, x = .ref a ∧ H1 a = some (.ins C dx fs) ∧ fs.lookup m = none ∧ liftA G W ws σ H1 fun vs H2 => toSp G sp (.ref a :: vs) H2 Q (L2.WE W σ)
theorem tlm_of {G : Gx} {C : Addr} {c m : Str} {sp : DSp} (hmC : G.mg c = some (.ref C)) {Z : Addr → Prop} {m0 m1 : List Addr} {ρ : DS} {μ1 : Mu} {Q : D → Mu → Prop} {Xd : XD} {σ : L2.St} {H H1 : Hp} {Q' : VK} {x : D} {v : V} (S1 : SR G Z m1 σ H1 ρ μ1) (s1 : Step G (ownW Z σ ρ) m0 H m1 μ1 H1)
    (r1 : Rep G m1 (vis (ownW Z σ ρ) m1 H1) x v) (k : ∀ v H', VPost G (ownW Z σ ρ) m0 H Q v H' → Q' v H') (kx : ∀ cls d H', XPost G (ownW Z σ ρ) m0 H Xd cls d H' → W cls d σ H')
    (h : hasCls c m x μ1 (ws ρ μ1 (fun ds μ2 => sp (x :: ds) μ2 Q Xd) Xd)) : TlM G W C m sp ws σ Q' v H1 := by
  obtain ⟨ks, ds, hi, hks, q2⟩ := hasCls_of h
  obtain ⟨a, C', dx, vs, rfl, g, ha, l, rs⟩ := ins_rep S1.mu r1 hi
  rw [hmC] at g
  cases g
  refine ⟨a, dx, _, rfl, ha, lookup_zip_none hks, Z, m1, ρ, μ1, _, Xd, S1, q2, fun us H2 P => ?_, fun cls d H' P => kx cls d H' (XPost.from s1 P)⟩
  obtain ⟨m2, es, μ2, s2, r2, q3⟩ := P
  exact ⟨_, m2, μ2, x :: es, Q, Xd, s2.mu, Reps.cons (Rep.mono s2.pre s2.same _ _ r1) r2, q3, fun v H' P => k v H' (VPost.from (s1.trans s2) P), fun cls d H' P => kx cls d H' (XPost.from (s1.trans s2) P)⟩
theorem de_methU {pl : Sem Bool} (D1 : MethD X.prog X.w X.K X.mg X.base k1 c1 m ps1 sp1) (D2 : MethD X.prog X.w X.K X.mg X.base k2 c2 m ps2 sp2) (hr : Room j X.A) (h1 : k1 ≤ j) (h2 : k2 ≤ j) (hgd : X.A.guards = some []) (tk : Takes X W) (he : DE none W X o wo) (ha : DA none W X (e :: es) ws)
    (hst : starEach (e :: es) X.env = (false, eval e X.env) :: starEach es X.env := by rfl) (hpl : (backTo pos (starEach es X.env)).any (·.1) = false := by rfl)
    (ht : eval (.Call (.Attribute o m apos) (e :: es) [] pos) X.env = (do
      let ov ← eval o X.env
      standAt apos.atName
      let (f, first) ← holding [ov] (getMethod ov m pl)
      callWith pos f first (backTo pos (starEach (e :: es) X.env)) (backToKw pos (keywordEach [] X.env))) := by rfl) : DE none W X (.Call (.Attribute o m apos) (e :: es) [] pos) (wMethU c1 c2 m sp1 sp2 wo ws) := by
  obtain ⟨C1, f1, fd1, a1, a2, a3, a4, F1⟩ := D1.ex
  obtain ⟨C2, f2, fd2, b1, b2, b3, b4, F2⟩ := D2.ex
  refine ⟨fun pins s σ H Q' I q => ?_⟩
  have hw : lift (gx X none) W wo σ H fun v H1 => TlM (gx X none) W C1 m sp1 ws σ Q' v H1 ∨ TlM (gx X none) W C2 m sp2 ws σ Q' v H1 := by
    obtain ⟨Z, m0, ρ, μ, Q, Xd, S, q, k, kx⟩ := q
    refine ⟨Z, m0, ρ, μ, _, Xd, S, q, fun v H1 P => ?_, kx⟩
    obtain ⟨m1, x, μ1, s1, r1, q1⟩ := P
    rcases q1 with q1 | q1
    · exact .inl (tlm_of a1 (S.step s1) s1 r1 k kx q1)
    · exact .inr (tlm_of b1 (S.step s1) s1 r1 k kx q1)
  refine PySem.W.methodCall_KW (pl := pl) (thn (he.run pins s σ H _ I hw) fun u s1 hx => ?_) ht
  obtain ⟨x, H1, I1, rx, cs⟩ := hx
  rcases cs with ⟨a, dx, fs, ex, ea, l, q⟩ | ⟨a, dx, fs, ex, ea, l, q⟩
  · subst ex
    obtain rfl : u = Value.ref a := rx
    refine getmeth_ok I1 ea a2 a3 l ?_
    refine PySem.W.callWith_K (first := [.ref a]) (h₀ := X.base) I.ok.mod.kin a3.kp (thn (ha.run pos pins s1 σ H1 _ I1 q) fun us s2 hx => ?_) hst hpl
    obtain ⟨vs, H2, I2, r, q2⟩ := hx
    exact ⟨I2.kIn, run_fnG (us := .ref a :: us) (vs := .ref a :: vs) F1 (hr.mono h1) hgd a4 tk I2 (.cons rfl r) q2⟩
  · subst ex
    obtain rfl : u = Value.ref a := rx
    refine getmeth_ok I1 ea b2 b3 l ?_
    refine PySem.W.callWith_K (first := [.ref a]) (h₀ := X.base) I.ok.mod.kin b3.kp (thn (ha.run pos pins s1 σ H1 _ I1 q) fun us s2 hx => ?_) hst hpl
    obtain ⟨vs, H2, I2, r, q2⟩ := hx
    exact ⟨I2.kIn, run_fnG (us := .ref a :: us) (vs := .ref a :: vs) F2 (hr.mono h2) hgd b4 tk I2 (.cons rfl r) q2⟩
end
end DL

set_option Elab.async false
set_option linter.all false
set_option maxRecDepth 100000
set_option maxHeartbeats 4000000
set_option autoImplicit false
namespace DL
open PySem PySem.Spec PyProof.Rows L2
/-! ### own special methods, of one class or of several with one def: o[i], ~o, o(x), len(o) -/
structure SpcD (P : Program) (w : World) (K : PySem.W.Frag) (mg : Str → Option Value) (base : Heap) (k : Nat) (cs : List Str) (nm : Str) (ps : List Str) (sp : DSp) : Prop where
  ex : ∃ f fd, PySem.W.isFn K (.ref f) = true ∧ PySem.W.fnIn K f = true ∧ (∀ c ∈ cs, ∃ C, mg c = some (.ref C) ∧ PySem.W.findIn K (.ref C) nm = some (some (.ref f)) ∧ PySem.W.noSeq K C = true) ∧ Binds K fd ps [] ∧ FnG P w K mg base k f fd ps (toSp ⟨K, mg, none⟩ sp)
def isClsU (cs : List Str) (d : D) (μ : Mu) (Q : Prop) : Prop := match insD d μ with
  | some (c', _, _) => c' ∈ cs ∧ Q
  | none => False
section
variable {W : WX} {X : Cx} {k : Nat} {f : Addr} {fd : FuncData} {ps : List Str} {sp0 : Sp}
end
section
variable {W : WX} {X : Cx} {k : Nat} {f : Addr} {fd : FuncData} {ps : List Str} {sp0 : Sp}
end
section
variable {W : WX} {X : Cx} {a b : Expr} {wa wb : WE} {ws : WA} {pos p apos : Pos} {k j : Nat} {ps cs : List Str} {nm : Str} {sp : DSp}
/-- o[i] -/
def wIxO (cs : List Str) (sp : DSp) (wa wb : WE) : WE := fun ρ μ Q Xd => wa ρ μ (fun x μ1 => wb ρ μ1 (fun i μ2 => isClsU cs x μ2 (sp [x, i] μ2 Q Xd)) Xd) Xd
/-- ~o -/
def wInv (cs : List Str) (sp : DSp) (wa : WE) : WE := fun ρ μ Q Xd => wa ρ μ (fun x μ1 => isClsU cs x μ1 (sp [x] μ1 Q Xd)) Xd
/-- o(x, ..) -/
def wCallO (cs : List Str) (sp : DSp) (wo : WE) (wa : WA) : WE := fun ρ μ Q Xd => wo ρ μ (fun x μ1 => isClsU cs x μ1 (wa ρ μ1 (fun ds μ2 => isClsU cs x μ2 (sp (x :: ds) μ2 Q Xd)) Xd)) Xd
/-- len(o) -/
def fLenO (cs : List Str) (sp : DSp) : FN := fun xs μ Q => match xs with
  | [x] => isClsU cs x μ (sp [x] μ (fun d μ1 => match d with
    | .int n => 0 ≤ n ∧ n < 2 ^ 62 ∧ Q (.int n) μ1
    | _ => False) xF)
  | _ => False
end
/-! from the head's facts -/
end DL

set_option Elab.async false
set_option linter.all false
set_option maxRecDepth 100000
set_option maxHeartbeats 4000000
set_option autoImplicit false
namespace DL
open PySem PySem.Spec PyProof.Rows L2
/-! ### a comprehension's list, kept as the def's own -/
noncomputable def without (H : Hp) (D : Addr) : Hp := fun b => open Classical in if b = D then none else H b
def sSetLcO (i : Nat) (w : WE) : WS := fun E ρ μ => w ρ μ (fun d μ1 => ∃ acc, d = .lst acc ∧ i < ρ.length ∧ ∀ p, E.nx (ρ.set i (.own p (.lst acc))) μ1) fun c ks es μ' => E.xc c ks es ρ μ'
section
variable {W : WX} {X : Cx} {elt tg iter : Expr} {ifs : List Expr} {scope : Scope} {own : List (Str × Nat)} {pos : Pos} {wi : WI} {g : TG} {k : WG} {tt : WT} {te : WE}
end
end DL

set_option Elab.async false
set_option linter.all false
set_option maxRecDepth 100000
set_option maxHeartbeats 2000000
/-! The Hook over a written list of addresses (no search of the heap in the kernel's run). -/
namespace DL
open PySem PySem.Spec PyProof.Rows L2
def obsL (as : List Addr) (fa : List He.Fa) (fn : List He5.DefA) (ex : PySem.W.Frag → Bool) (g : Addr → Option Obj) : AlY := (He5.obsA fa fn (He.frG g as), ex (He.frG g as))
def hookL (as : List Addr) (fa : List He.Fa) (fn : List He5.DefA) (ex : PySem.W.Frag → Bool) : PySem.W.Hook where
  α := AlY
  obs := fun s => obsL as fa fn ex s.heap.get?
  val := fun _ => (He5.valA fn, true)
  says := fun _ h => ∃ K : PySem.W.Frag, K.In h ∧ SaysY fa fn ex K
  of := fun _ _ e => ⟨_, He.frG_in, congrArg (fun z : AlY => z.1) e, congrArg (fun z : AlY => z.2) e⟩
  keeps := fun _ _ _ hx k => let ⟨K, hK, c⟩ := hx; ⟨K, PySem.W.Frag.In.keeps hK k, c⟩
theorem obsL_eq {as : List Addr} {fa : List He.Fa} {fn : List He5.DefA} {ex : PySem.W.Frag → Bool} {g : Addr → Option Obj} {s : Shared} (h : ∀ a, g a = s.heap.get? a) : obsL as fa fn ex g = (hookL as fa fn ex).obs s := by
  have e : g = s.heap.get? := funext h
  rw [e] <;> rfl
end DL

set_option Elab.async false
set_option linter.all false
set_option maxRecDepth 100000
set_option maxHeartbeats 2000000
/-! A comprehension in a suite (an exception is held). -/
namespace DL
open PySem PySem.Spec PyProof.Rows L2
section
variable {ex : Option (Addr × Addr × Addr)} {W : WX} {X : Cx} {elt tg iter : Expr} {ifs : List Expr} {scope : Scope} {own : List (Str × Nat)} {pos : Pos} {wi : WI} {g : TG} {k : WG} {tt : WT} {te : WE}
abbrev DTsX (ex : Option (Addr × Addr × Addr)) (X : Cx) (ifs : List Expr) (w : WT) : Prop := PTs X ifs (liftT (gx X ex) WF w)
end
end DL

set_option Elab.async false
set_option linter.all false
set_option maxRecDepth 100000
set_option maxHeartbeats 2000000
/-! A store into a list of the def's own: x[i] = v. -/
namespace DL
open PySem PySem.Spec PyProof.Rows L2
section
variable {X : Cx} {ix : Expr} {wi : WE} {pos p0 : Pos} {i : Nat} {x : Str}
def stO (i : Nat) (p : Addr) (ds : List D) (y d : D) (ρ : DS) (k : DS → Prop) : Prop := match y with
  | .int j => match ixN ds.length j with
    | some z => k (ρ.set i (.own p (.lst (ds.set z d))))
    | none => False
  | _ => False
def subO (i : Nat) (wi : WE) (d : D) (ρ : DS) (μ : Mu) (Q : DS → Mu → Prop) (o : Option Sl) : Prop := match o with
  | some (.own p (.lst ds)) => wi ρ μ (fun y μ2 => stO i p ds y d ρ fun ρ' => Q ρ' μ2) xF
  | _ => False
def kSubO (i : Nat) (wi : WE) : WG := fun d ρ μ Q => subO i wi d ρ μ Q (ρ[i]?)
end
end DL

set_option Elab.async false
set_option linter.all false
set_option maxRecDepth 100000
set_option maxHeartbeats 4000000
set_option autoImplicit false
/-! xs.remove(x) of data, of a list of the def's own. -/
namespace DL
open PySem PySem.Spec PyProof.Rows L2
section
variable {ex : Option (Addr × Addr × Addr)} {W : WX} {X : Cx} {e : Expr} {wa : WE} {pos p0 apos cpos : Pos} {i : Nat} {x : Str}
/-- the item that is taken away -/
def remD (ds : List D) (y : D) (k : List D → Prop) : Prop := ∃ p qs, toP y = some p ∧ toPs ds = some qs ∧ SeqAt.shaped p = true ∧ SeqAt.shaped (.list qs) = true ∧ ∃ (j : Nat) (z : PyData), qs[j]? = some z ∧ PyData.eqv z p = true ∧ (∀ (m : Nat) (z' : PyData), m < j → qs[m]? = some z' → PyData.eqv z' p = false) ∧ k (ds.eraseIdx j)
def remO (i : Nat) (wa : WA) (E : DEnds) (ρ : DS) (μ : Mu) (o : Option Sl) : Prop := match o with
  | some (.own p (.lst ds)) => wa ρ μ (fun xs μ1 => ∃ d, xs = [d] ∧ remD ds d fun ds' => E.nx (ρ.set i (.own p (.lst ds'))) μ1) fun c ks es μ' => E.xc c ks es ρ μ'
  | _ => False
def sRemO (i : Nat) (wa : WA) : WS := fun E ρ μ => remO i wa E ρ μ (ρ[i]?)
theorem Reps.erase {G : Gx} {m : List Addr} {E : Hp} : ∀ {ds : List D} {vs : List V} (j : Nat), Reps G m E ds vs → Reps G m E (ds.eraseIdx j) (vs.eraseIdx j)
  | [], vs, j, r => by
    rw [Reps] at r
    subst r
    exact Reps.nil
  | d :: ds, vs, j, r => by
    obtain ⟨v, t, rfl, r1, r2⟩ := r.uncons
    cases j with
    | zero => exact r2
    | succ j => exact Reps.cons r1 (Reps.erase j r2)
end
end DL

set_option Elab.async false
set_option linter.all false
set_option maxRecDepth 100000
set_option maxHeartbeats 4000000
set_option autoImplicit false
/-! xs.pop(i) of a cell. -/
namespace DL
open PySem PySem.Spec PyProof.Rows L2
def isC (x : D) (μ : Mu) (k : Prop) : Prop := match x with
  | .loc n => match μ[n]? with
    | some (.lst _) => k
    | _ => False
  | _ => False
def popL (x y : D) (μ : Mu) (Q : D → Mu → Prop) : Prop := match x, y with
  | .loc n, .int j => match μ[n]? with
    | some (.lst ds) => 0 ≤ j ∧ j < 2 ^ 62 ∧ (match ds[j.toNat]? with
      | some d => Q d (μ.set n (.lst (ds.eraseIdx j.toNat)))
      | none => False)
    | _ => False
  | _, _ => False
def wPopL (wo wa : WE) : WE := fun ρ μ Q Xd => wo ρ μ (fun x μ1 => isC x μ1 (wa ρ μ1 (fun y μ2 => popL x y μ2 Q) Xd)) Xd
section
variable {W : WX} {X : Cx} {e o : Expr} {wa wo : WE} {pos apos : Pos}
end
end DL

set_option Elab.async false
set_option linter.all false
set_option maxRecDepth 100000
set_option maxHeartbeats 4000000
set_option autoImplicit false
/-! A comprehension's list kept as a cell. -/
namespace DL
open PySem PySem.Spec PyProof.Rows L2
def cellQ (Q : D → Mu → Prop) : D → Mu → Prop := fun d μ => match d with
  | .lst acc => Q (.loc μ.length) (μ ++ [.lst acc])
  | _ => False
def wLcC (wi : WI) (k : WG) (tt : WT) (te : WE) (vs : List Nat) : WE := fun ρ μ Q Xd => wLc wi k tt te vs ρ μ (cellQ Q) Xd
section
variable {W : WX} {X : Cx} {elt tg iter : Expr} {ifs : List Expr} {scope : Scope} {own : List (Str × Nat)} {pos : Pos} {wi : WI} {g : TG} {k : WG} {tt : WT} {te : WE}
end
end DL

set_option Elab.async false
set_option linter.all false
set_option maxRecDepth 100000
set_option maxHeartbeats 2000000
set_option autoImplicit false
/-! x in found, x not in found of an own list, as tests. -/
namespace DL
open PySem PySem.Spec PyProof.Rows L2
section
variable {ex : Option (Addr × Addr × Addr)} {W : WX} {X : Cx} {e : Expr} {wa : WE} {pos p0 : Pos} {i : Nat} {x : Str}
end
end DL

set_option Elab.async false
set_option linter.all false
set_option maxRecDepth 100000
set_option maxHeartbeats 4000000
set_option autoImplicit false
/-! Changeable instances: attributes stored, property setters; == of tuples of own things; a sum of lists as an own list. -/
namespace DL
open PySem PySem.Spec PyProof.Rows L2
/-! ### o.f = value, o a cell -/
def putL (c f : Str) (x d : D) (μ : Mu) (k : Mu → Prop) : Prop := match x with
  | .loc n => match μ[n]? with
    | some (.ins c' ks ds) => c' = c ∧ ks.length < 1000 ∧ k (μ.set n (.ins c (putK f ks) (putD f d ks ds)))
    | _ => False
  | _ => False
def sFldL (c f : Str) (wo wa : WE) : WS := fun E ρ μ => wa ρ μ (fun d μ1 => wo ρ μ1 (fun x μ2 => putL c f x d μ2 (E.nx ρ)) (fun c ks es μ' => E.xc c ks es ρ μ')) fun c ks es μ' => E.xc c ks es ρ μ'
section
variable {W : WX} {X : Cx} {o value : Expr} {wa wo : WE} {pos pos' : Pos}
/-! ### o.f = value, f a property with a setter -/
structure SetD (P : Program) (w : World) (K : PySem.W.Frag) (mg : Str → Option Value) (base : Heap) (k : Nat) (c f : Str) (ps : List Str) (sp : DSp) : Prop where
  ex : ∃ C p g fd, mg c = some (.ref C) ∧ Cls K C ∧ PySem.W.takerIn K C f = some (some (.ref p)) ∧ PySem.W.typeIn K (.ref p) = some (.type "property") ∧ (∃ a rest, PySem.W.recIn K p "property" = some (a :: .ref g :: rest)) ∧ Binds K fd ps [] ∧ FnG P w K mg base k g fd ps (toSp ⟨K, mg, none⟩ sp)
def sPropS (c : Str) (sp : DSp) (wo wa : WE) : WS := fun E ρ μ => wa ρ μ (fun d μ1 => wo ρ μ1 (fun x μ2 => isCls c x μ2 (sp [x, d] μ2 (fun _ μ3 => E.nx ρ μ3) (fun c ks es μ' => E.xc c ks es ρ μ'))) (fun c ks es μ' => E.xc c ks es ρ μ')) fun c ks es μ' => E.xc c ks es ρ μ'
end
/-! ### == of tuples whose items have an own `__eq__` -/
def tupE (x : D) (k : List D → Prop) : Prop := match x with
  | .tup ds => k ds
  | _ => False
def fEqT (c : Str) (sp : DSp) : F2 := fun x y μ Q => tupE x fun ds => tupE y fun es => prsO c sp μ ds es ∧ Q (.bl true) μ
section
variable {X : Cx} {k j : Nat} {ps : List Str} {c : Str} {Ts : List String} {Cs : List Str} {sp : DSp}
end
/-! ### x = a + b, lists, x the def's own -/
def catO (x y : D) (k : List D → Prop) : Prop := match x, y with
  | .lst a, .lst b => a.length + b.length ≤ 1000 ∧ k (a ++ b)
  | _, _ => False
def sSetCat (i : Nat) (wa wb : WE) : WS := fun E ρ μ => wa ρ μ (fun x μ1 => wb ρ μ1 (fun y μ2 => catO x y fun ds => i < ρ.length ∧ ∀ p, E.nx (ρ.set i (.own p (.lst ds))) μ2) (fun c ks es μ' => E.xc c ks es ρ μ')) fun c ks es μ' => E.xc c ks es ρ μ'
section
variable {W : WX} {X : Cx} {a b : Expr} {wa wb : WE} {pos : Pos}
end
end DL

set_option Elab.async false
set_option linter.all false
set_option maxRecDepth 100000
set_option maxHeartbeats 4000000
set_option autoImplicit false
/-! Loops over lists that may be cells: the cell must stand at each turn. list(x), x.append(v), o[i] = v with cells. -/
namespace DL
open PySem PySem.Spec PyProof.Rows L2
structure ItOkC (G : Gx) (J : It) (m0 : List Addr) (E0 : Hp) (C : Mu → Prop) (ds : List D) : Prop where
  go : ∀ (i : Nat) (Z : Addr → Prop) (m : List Addr) (μ : Mu) H, i < ds.length → m0 <+: m → Same E0 (vis Z m H) → MuOk G Z m μ H → C μ → J.go i H
  stop : ∀ (Z : Addr → Prop) (m : List Addr) (μ : Mu) H, m0 <+: m → Same E0 (vis Z m H) → MuOk G Z m μ H → C μ → J.stop ds.length H
  yld : ∀ (i : Nat) (Z : Addr → Prop) (m : List Addr) (μ : Mu) H x H3, i < ds.length → m0 <+: m → Same E0 (vis Z m H) → MuOk G Z m μ H → C μ → J.yld i H x H3 →
    ∃ d, ds[i]? = some d ∧ ((H3 = H ∧ Rep G m (vis Z m H) d x) ∨ ∃ T o, H T = none ∧ H3 = upd H T o ∧ ∀ E, Same (vis Z m H) E → E T = some o → Rep G m E d x)
abbrev WIC := DS → Mu → (List D → (Mu → Prop) → Mu → Prop) → XD → Prop
def IPostC (G : Gx) (Z : Addr → Prop) (m : List Addr) (H : Hp) (Q : List D → (Mu → Prop) → Mu → Prop) (J : It) (H' : Hp) : Prop :=
  ∃ m' ds μ' C, Step G Z m H m' μ' H' ∧ ItOkC G J m' (vis Z m' H') C ds ∧ Q ds C μ'
def liftIC (G : Gx) (W : WX) (w : WIC) : TI := fun σ H R => ∃ Z m ρ μ Q Xd, SR G Z m σ H ρ μ ∧ w ρ μ Q Xd ∧ (∀ J H', IPostC G (ownW Z σ ρ) m H Q J H' → R J H') ∧ ∀ cls d H', XPost G (ownW Z σ ρ) m H Xd cls d H' → W cls d σ H'
abbrev DIC (ex : Option (Addr × Addr × Addr)) (W : WX) (X : Cx) (tg e : Expr) (w : WIC) : Prop := PI X tg e (liftIC (gx X ex) W w)
/-- a list, shown or a cell -/
def celOr (d : D) (μ : Mu) (k : List D → (Mu → Prop) → Prop) : Prop := match d with
  | .lst ds => k ds fun _ => True
  | .frl ds => k ds fun _ => True
  | .loc n => match μ[n]? with
    | some (.lst ds) => k ds fun μ' => μ'[n]? = some (.lst ds)
    | _ => False
  | _ => False
def wiCel (wa : WE) : WIC := fun ρ μ Q Xd => wa ρ μ (fun d μ1 => celOr d μ1 fun ds C => Q ds C μ1) Xd
def cel1 (ds : List D) (μ : Mu) (k : List D → (Mu → Prop) → Prop) : Prop := match ds with
  | [d] => celOr d μ fun es C => k (enumD es) C
  | _ => False
def wiEnC (wa : WA) : WIC := fun ρ μ Q Xd => wa ρ μ (fun ds μ1 => cel1 ds μ1 fun es C => Q es C μ1) Xd
section
variable {ex : Option (Addr × Addr × Addr)} {W : WX} {X : Cx} {tg e : Expr} {wa : WE} {ws : WA} {p pos : Pos}
end
/-! ### for -/
def forLC (g : WG) (b : WS) (E : DEnds) (C : Mu → Prop) : List D → DS → Mu → Prop
  | [], ρ, μ => C μ ∧ E.nx ρ μ
  | d :: ds, ρ, μ => C μ ∧ g d ρ μ fun ρ1 μ1 => b { E with nx := forLC g b E C ds, ct := forLC g b E C ds, bk := E.nx } ρ1 μ1
def sForC (wi : WIC) (g : WG) (b : WS) : WS := fun E ρ μ => wi ρ μ (fun ds C μ1 => forLC g b E C ds ρ μ1) fun c ks es μ' => E.xc c ks es ρ μ'
section
variable {ex : Option (Addr × Addr × Addr)} {W : WX} {X : Cx} {tg iter : Expr} {body : List Stmt} {wi : WIC} {g : WG} {b : WS} {pos : Pos}
end
/-! ### comprehensions -/
def lcLC (g : WG) (tt : WT) (te : WE) (ρw : DS) (C : Mu → Prop) : List D → List D → Mu → (D → Mu → Prop) → Prop
  | [], acc, μ, Q => C μ ∧ Q (.lst acc) μ
  | d :: ds, acc, μ, Q => C μ ∧ g d ρw μ fun ρ2 μ2 => tt ρ2 μ2 (fun b μ3 => if b = true then te ρ2 μ3 (fun y μ4 => acc.length < 1000000 ∧ lcLC g tt te ρw C ds (acc ++ [y]) μ4 Q) xF else lcLC g tt te ρw C ds acc μ3 Q) xF
def wLcU (wi : WIC) (g : WG) (tt : WT) (te : WE) (vs : List Nat) : WE := fun ρ μ Q Xd => wi ρ μ (fun ds C μ1 => (∀ v ∈ vs, notOwn ρ v) ∧ lcLC g tt te (wipeD ρ vs) C ds [] μ1 Q) Xd
section
variable {W : WX} {X : Cx} {elt tg iter : Expr} {ifs : List Expr} {scope : Scope} {own : List (Str × Nat)} {pos : Pos} {wi : WIC} {g : TG} {k : WG} {tt : WT} {te : WE}
end
/-! ### list(x) as a cell; x.append(v) of a cell -/
def fListOfC : FN := fun xs μ Q => match xs with
  | [x] => match itemsD x μ with
    | some ds => Q (.loc μ.length) (μ ++ [.lst ds])
    | none => False
  | _ => False
def appL (x y : D) (μ : Mu) (Q : D → Mu → Prop) : Prop := match x with
  | .loc n => match μ[n]? with
    | some (.lst ds) => ds.length < 1000000 ∧ Q .non (μ.set n (.lst (ds ++ [y])))
    | _ => False
  | _ => False
def wAppL (wo wa : WE) : WE := fun ρ μ Q Xd => wo ρ μ (fun x μ1 => isC x μ1 (wa ρ μ1 (fun y μ2 => appL x y μ2 Q) Xd)) Xd
section
variable {W : WX} {X : Cx} {e o : Expr} {wa wo : WE} {pos apos : Pos}
end
/-! ### o[i] = v by an own `__setitem__` -/
def sSetIx (cs : List Str) (sp : DSp) (wo wi wa : WE) : WS := fun E ρ μ => wa ρ μ (fun d μ1 => wo ρ μ1 (fun x μ2 => wi ρ μ2 (fun y μ3 => isClsU cs x μ3 (sp [x, y, d] μ3 (fun _ μ4 => E.nx ρ μ4) (fun c ks es μ' => E.xc c ks es ρ μ'))) (fun c ks es μ' => E.xc c ks es ρ μ')) (fun c ks es μ' => E.xc c ks es ρ μ')) fun c ks es μ' => E.xc c ks es ρ μ'
section
variable {W : WX} {X : Cx} {o ix value : Expr} {wa wo wi : WE} {pos p1 : Pos} {k j : Nat} {ps cs : List Str} {sp : DSp}
end
end DL

set_option Elab.async false
set_option linter.all false
set_option maxRecDepth 100000
set_option maxHeartbeats 4000000
set_option autoImplicit false
/-! ==, != of lists whose items have an own `__eq__`, either list shown or a cell. -/
namespace DL
open PySem PySem.Spec PyProof.Rows L2
section
variable {X : Cx} {k j : Nat} {ps : List Str} {c : Str} {Ts : List String} {Cs : List Str} {sp : DSp} {r : Bool}
end
end DL

set_option Elab.async false
set_option linter.all false
set_option maxRecDepth 100000
set_option maxHeartbeats 4000000
set_option autoImplicit false
/-! A list, shown or a cell, against the empty list. -/
namespace DL
open PySem PySem.Spec PyProof.Rows L2
section
variable {prog : Program} {w : World} {A : Around}
end
/-- a, b = e, []: the second a list of the def's own -/
def sPar2O (i j : Nat) (wa : WE) : WS := fun E ρ μ => wa ρ μ (fun d μ1 => j < ρ.length ∧ ∀ p, E.nx ((ρ.set j (.own p (.lst []))).set i (.v d)) μ1) fun c ks es μ' => E.xc c ks es ρ μ'
end DL

set_option Elab.async false
set_option linter.all false
set_option maxRecDepth 100000
set_option maxHeartbeats 4000000
set_option autoImplicit false
/-! ==, != of lists of tuples whose items are pairs or things with an own `__eq__`, all alike. -/
namespace DL
open PySem PySem.Spec PyProof.Rows L2
section
variable {X : Cx} {k j : Nat} {ps : List Str} {c : Str} {Ts : List String} {Cs : List Str} {sp : DSp}
end
section
variable {X : Cx} {k j : Nat} {ps : List Str} {c : Str} {Ts : List String} {Cs : List Str} {sp : DSp}
end
end DL

set_option Elab.async false
set_option linter.all false
set_option maxRecDepth 100000
set_option maxHeartbeats 4000000
set_option autoImplicit false
namespace DL
open PySem PySem.Spec PyProof.Rows L2
/-! sorted of ints, any number of them -/
def fSortW : FN := fun xs μ Q => match xs with
  | [x] => lstInts x fun ns => ∀ ns' : List Int, ns'.Perm ns → ns'.Pairwise (· ≤ ·) → Q (.lst (ns'.map D.int)) μ
  | _ => False
theorem sn_sortW {G : Gx} : SN G (rSortedI G.K) fSortW := by
  intro Z m μ H xs us Q Q' M r h k
  unfold fSortW at h
  split at h
  · obtain ⟨v, t, rfl, r1, r2⟩ := r.uncons
    rw [Reps] at r2
    subst r2
    obtain ⟨ns, a, rfl, s, q⟩ := lstInts_rep h r1
    refine ⟨a, ns, rfl, Same.seq vis_le s, fun ns' p h1 h2 np => k _ _ ?_⟩
    have s2 := Step.laid (o := .lst (ns'.map V.int)) M np
    refine ⟨m, _, μ, s2, ?_, q ns' h1 h2⟩
    rw [Rep]
    exact ⟨p, _, rfl, by rw [vis_upd M np, upd_same], reps_ints ns'⟩
  · exact h.elim
theorem sortW_go {ns : List Int} {μ : Mu} {Q : D → Mu → Prop} (h : ∀ ns' : List Int, ns'.Perm ns → ns'.Pairwise (· ≤ ·) → Q (.lst (ns'.map D.int)) μ) : fSortW [.lst (ns.map D.int)] μ Q := by
  have e : intsD (ns.map D.int) = some ns := by
    induction ns with
    | nil => rfl
    | cons a l ih =>
      have hl : intsD (l.map D.int) = some l := by
        clear ih h
        induction l with
        | nil => rfl
        | cons b l ih => rw [List.map_cons, intsD, ih]; rfl
      rw [List.map_cons, intsD, hl]
      rfl
  exact ⟨ns, e, h⟩
end DL

set_option Elab.async false
set_option linter.all false
set_option maxRecDepth 100000
set_option maxHeartbeats 4000000
set_option autoImplicit false
/-! An __init__ that returns early. -/
namespace DL
open PySem PySem.Spec PyProof.Rows L2
/-- its end is a return -/
def liftR (G : Gx) (W : WX) (w : WS) : TS := fun D σ H => ∃ Z m ρ μ E, SR G Z m σ H ρ μ ∧ w E ρ μ ∧ (∀ σ' H', SPost G Z m σ ρ H E.nx σ' H' → D.rt .non H') ∧ (∀ v H', RPost G Z m σ ρ H E.rt v H' → D.rt v H') ∧
  (∀ σ' H', SPost G Z m σ ρ H E.bk σ' H' → D.bk σ' H') ∧ (∀ σ' H', SPost G Z m σ ρ H E.ct σ' H' → D.ct σ' H') ∧ ∀ cls d σ' H', XSPost G Z m σ ρ H E.xc cls d σ' H' → W cls d σ' H'
/-- its end is either -/
def liftIn (G : Gx) (W : WX) (w : WS) : TS := fun D σ H => ∃ Z m ρ μ E, SR G Z m σ H ρ μ ∧ w E ρ μ ∧ (∀ σ' H', SPost G Z m σ ρ H E.nx σ' H' → D.nx σ' H' ∧ D.rt .non H') ∧ (∀ v H', RPost G Z m σ ρ H E.rt v H' → D.rt v H') ∧
  (∀ σ' H', SPost G Z m σ ρ H E.bk σ' H' → D.bk σ' H') ∧ (∀ σ' H', SPost G Z m σ ρ H E.ct σ' H' → D.ct σ' H') ∧ ∀ cls d σ' H', XSPost G Z m σ ρ H E.xc cls d σ' H' → W cls d σ' H'
abbrev DSr (W : WX) (X : Cx) (st : List Stmt) (w : WS) : Prop := PSs X st (liftR (gx X none) W w)
abbrev DSi (W : WX) (X : Cx) (st : List Stmt) (w : WS) : Prop := PSs X st (liftIn (gx X none) W w)
section
variable {W : WX} {X : Cx} {st : Stmt} {rest x : List Stmt} {a b : WS} {t : WT} {pos : Pos} {c : Expr}
end
section
variable {P : Program} {w : World} {K : PySem.W.Frag} {mg : Str → Option Value} {base : Heap}
end
end DL

set_option Elab.async false
set_option linter.all false
set_option maxRecDepth 100000
set_option maxHeartbeats 4000000
set_option autoImplicit false
/-! [.. for a, b, c in lists] -/
namespace DL
open PySem PySem.Spec PyProof.Rows L2
end DL

set_option Elab.async false
set_option linter.all false
set_option maxRecDepth 100000
set_option maxHeartbeats 0
set_option autoImplicit false
namespace K18
open PySem PySem.Spec PyProof.Rows L2 DL
def top (i : Nat) : Stmt := PySem.Challenge.pw_filledonce_k18_whole_tiles_of_the_plane.main.body.getD i (.Pass ⟨0, 0, 0, 0⟩)
def fn : List He5.DefA := [
  ⟨fun K => He.fAd K ("is_integer", none), "is_integer", "is_integer", defArgs (top 11), defBody (top 11), defScope (top 11), [], []⟩,
  ⟨fun K => He.fAd K ("is_between", none), "is_between", "is_between", defArgs (top 12), defBody (top 12), defScope (top 12), [], []⟩,
  ⟨fun K => He.fAd K ("numbers_of", none), "numbers_of", "numbers_of", defArgs (top 16), defBody (top 16), defScope (top 16), [], []⟩,
  ⟨fun K => He.fAd K ("Grid", some "__init__"), "__init__", "Grid.__init__", defArgs (inClass (top 29) 0), defBody (inClass (top 29) 0), defScope (inClass (top 29) 0), [], []⟩,
  ⟨fun K => He5.wf K (He.ga K "Grid") "staticmethod" "unit", "unit", "Grid.unit", defArgs (inClass (top 29) 1), defBody (inClass (top 29) 1), defScope (inClass (top 29) 1), [], []⟩,
  ⟨fun K => He.fAd K ("cross_of", none), "cross_of", "cross_of", defArgs (top 20), defBody (top 20), defScope (top 20), [], []⟩,
  ⟨fun K => He.fAd K ("less", none), "less", "less", defArgs (top 19), defBody (top 19), defScope (top 19), [], []⟩,
  ⟨fun K => He.fAd K ("side_of", none), "side_of", "side_of", defArgs (top 21), defBody (top 21), defScope (top 21), [], []⟩,
  ⟨fun K => getA K "Triangle" "area2", "area2", "Triangle.area2", defArgs (inClass (top 23) 3), defBody (inClass (top 23) 3), defScope (inClass (top 23) 3), [], []⟩,
  ⟨fun K => He.fAd K ("Triangle", some "__eq__"), "__eq__", "Triangle.__eq__", defArgs (inClass (top 23) 5), defBody (inClass (top 23) 5), defScope (inClass (top 23) 5), [], []⟩,
  ⟨fun K => He.fAd K ("pair_of", none), "pair_of", "pair_of", defArgs (top 17), defBody (top 17), defScope (top 17), [], []⟩,
  ⟨fun K => He.fAd K ("Point", some "__init__"), "__init__", "Point.__init__", defArgs (inClass (top 15) 0), defBody (inClass (top 15) 0), defScope (inClass (top 15) 0), [], []⟩,
  ⟨fun K => He.fAd K ("point_of", none), "point_of", "point_of", defArgs (top 18), defBody (top 18), defScope (top 18), [], []⟩,
  ⟨fun K => He.fAd K ("Triangle", some "__init__"), "__init__", "Triangle.__init__", defArgs (inClass (top 23) 0), defBody (inClass (top 23) 0), defScope (inClass (top 23) 0), [], []⟩,
  ⟨fun K => He.fAd K ("_law_draw", none), "_law_draw", "_law_draw", defArgs (top 62), defBody (top 62), defScope (top 62), [], []⟩,
  ⟨fun K => He.fAd K ("_law_pair", none), "_law_pair", "_law_pair", defArgs (top 63), defBody (top 63), defScope (top 63), [], []⟩,
  ⟨fun K => He.fAd K ("_law_side", none), "_law_side", "_law_side", defArgs (top 64), defBody (top 64), defScope (top 64), [], []⟩,
  ⟨fun K => He.fAd K ("_law_corners", none), "_law_corners", "_law_corners", defArgs (top 65), defBody (top 65), defScope (top 65), [], []⟩,
  ⟨fun K => He.fAd K ("_law_hand", none), "_law_hand", "_law_hand", defArgs (top 61), defBody (top 61), defScope (top 61), [], []⟩,
  ⟨fun K => He.fAd K ("check_ahead", none), "check_ahead", "check_ahead", defArgs (top 55), defBody (top 55), defScope (top 55), [], []⟩,
  ⟨fun K => He.fAd K ("common_divisor", none), "common_divisor", "common_divisor", defArgs (top 46), defBody (top 46), defScope (top 46), [], []⟩,
  ⟨fun K => He.fAd K ("lowest_pair", none), "lowest_pair", "lowest_pair", defArgs (top 47), defBody (top 47), defScope (top 47), [], []⟩,
  ⟨fun K => He.fAd K ("way_in", none), "way_in", "way_in", defArgs (top 54), defBody (top 54), defScope (top 54), [], []⟩,
  ⟨fun K => He.fAd K ("Half", some "__init__"), "__init__", "Half.__init__", defArgs (inClass (top 56) 0), defBody (inClass (top 56) 0), defScope (inClass (top 56) 0), [], []⟩,
  ⟨fun K => He.fAd K ("check_truths", none), "check_truths", "check_truths", defArgs (top 52), defBody (top 52), defScope (top 52), [], []⟩,
  ⟨fun K => He.fAd K ("Table", some "__init__"), "__init__", "Table.__init__", defArgs (inClass (top 53) 0), defBody (inClass (top 53) 0), defScope (inClass (top 53) 0), [], []⟩,
  ⟨fun K => He.fAd K ("_law_made", none), "_law_made", "_law_made", defArgs (top 70), defBody (top 70), defScope (top 70), [], []⟩,
  ⟨fun K => He.fAd K ("_law_near", none), "_law_near", "_law_near", defArgs (top 75), defBody (top 75), defScope (top 75), [], []⟩,
  ⟨fun K => He.fAd K ("_law_right_rule", none), "_law_right_rule", "_law_right_rule", defArgs (top 73), defBody (top 73), defScope (top 73), [], []⟩,
  ⟨fun K => He.fAd K ("Half", some "has"), "has", "Half.has", defArgs (inClass (top 56) 5), defBody (inClass (top 56) 5), defScope (inClass (top 56) 5), [], []⟩,
  ⟨fun K => He.fAd K ("sign_of", none), "sign_of", "sign_of", defArgs (top 43), defBody (top 43), defScope (top 43), [], []⟩,
  ⟨fun K => He.fAd K ("kind_of_pair", none), "kind_of_pair", "kind_of_pair", defArgs (top 45), defBody (top 45), defScope (top 45), [], []⟩,
  ⟨fun K => He.fAd K ("Table", some "has"), "has", "Table.has", defArgs (inClass (top 53) 2), defBody (inClass (top 53) 2), defScope (inClass (top 53) 2), [], []⟩,
  ⟨fun K => He.fAd K ("ways_of", none), "ways_of", "ways_of", defArgs (top 24), defBody (top 24), defScope (top 24), [], []⟩,
  ⟨fun K => He.fAd K ("is_owned", none), "is_owned", "is_owned", defArgs (top 25), defBody (top 25), defScope (top 25), [], []⟩,
  ⟨fun K => He.fAd K ("owns", none), "owns", "owns", defArgs (top 26), defBody (top 26), defScope (top 26), [], []⟩,
  ⟨fun K => He.fAd K ("_law_times", none), "_law_times", "_law_times", defArgs (top 74), defBody (top 74), defScope (top 74), [], []⟩,
  ⟨fun K => He.fAd K ("Edge", some "__init__"), "__init__", "Edge.__init__", defArgs (inClass (top 34) 0), defBody (inClass (top 34) 0), defScope (inClass (top 34) 0), [], []⟩,
  ⟨fun K => He.fAd K ("Edge", some "at_row"), "at_row", "Edge.at_row", defArgs (inClass (top 34) 1), defBody (inClass (top 34) 1), defScope (inClass (top 34) 1), [], []⟩,
  ⟨fun K => He.fAd K ("Edge", some "floor_at"), "floor_at", "Edge.floor_at", defArgs (inClass (top 34) 2), defBody (inClass (top 34) 2), defScope (inClass (top 34) 2), [], []⟩,
  ⟨fun K => He.fAd K ("amount_on_row", none), "amount_on_row", "amount_on_row", defArgs (top 35), defBody (top 35), defScope (top 35), [], []⟩,
  ⟨fun K => He.fAd K ("check_any", none), "check_any", "check_any", defArgs (top 13), defBody (top 13), defScope (top 13), [], []⟩,
  ⟨fun K => He.fAd K ("greater_of", none), "greater_of", "greater_of", defArgs (top 37), defBody (top 37), defScope (top 37), [], []⟩,
  ⟨fun K => He.fAd K ("less_of", none), "less_of", "less_of", defArgs (top 38), defBody (top 38), defScope (top 38), [], []⟩,
  ⟨fun K => He.fAd K ("Edge", some "spans_rows"), "spans_rows", "Edge.spans_rows", defArgs (inClass (top 34) 4), defBody (inClass (top 34) 4), defScope (inClass (top 34) 4), [], []⟩,
  ⟨fun K => He.fAd K ("sum_of_floors", none), "sum_of_floors", "sum_of_floors", defArgs (top 33), defBody (top 33), defScope (top 33), [], []⟩,
  ⟨fun K => He.fAd K ("Edge", some "sum_of_rows"), "sum_of_rows", "Edge.sum_of_rows", defArgs (inClass (top 34) 3), defBody (inClass (top 34) 3), defScope (inClass (top 34) 3), [], []⟩,
  ⟨fun K => He.fAd K ("first_from", none), "first_from", "first_from", defArgs (top 30), defBody (top 30), defScope (top 30), [], []⟩,
  ⟨fun K => He.fAd K ("rows_from", none), "rows_from", "rows_from", defArgs (top 36), defBody (top 36), defScope (top 36), [], []⟩,
  ⟨fun K => He.fAd K ("amount", none), "amount", "amount", defArgs (top 39), defBody (top 39), defScope (top 39), [], [("low", He.Dv.non), ("high", He.Dv.non)]⟩,
  ⟨fun K => He.fAd K ("twin_of", none), "twin_of", "twin_of", defArgs (top 40), defBody (top 40), defScope (top 40), [], []⟩,
  ⟨fun K => He.fAd K ("law", none), "law", "law", defArgs (top 76), defBody (top 76), defScope (top 76), [], []⟩,
  ⟨fun K => He.fAd K ("Flat", some "__init__"), "__init__", "Flat.__init__", defArgs (inClass (top 8) 0), defBody (inClass (top 8) 0), defScope (inClass (top 8) 0), [], []⟩,
  ⟨fun K => He.fAd K ("InvalidGrid", some "__init__"), "__init__", "InvalidGrid.__init__", defArgs (inClass (top 9) 0), defBody (inClass (top 9) 0), defScope (inClass (top 9) 0), [], []⟩,
  ⟨fun K => He.fAd K ("InvalidHalf", some "__init__"), "__init__", "InvalidHalf.__init__", defArgs (inClass (top 7) 0), defBody (inClass (top 7) 0), defScope (inClass (top 7) 0), [], []⟩,
  ⟨fun K => He.fAd K ("InvalidNumber", some "__init__"), "__init__", "InvalidNumber.__init__", defArgs (inClass (top 4) 0), defBody (inClass (top 4) 0), defScope (inClass (top 4) 0), [], []⟩,
  ⟨fun K => He.fAd K ("InvalidPoint", some "__init__"), "__init__", "InvalidPoint.__init__", defArgs (inClass (top 3) 0), defBody (inClass (top 3) 0), defScope (inClass (top 3) 0), [], []⟩,
  ⟨fun K => He.fAd K ("InvalidTable", some "__init__"), "__init__", "InvalidTable.__init__", defArgs (inClass (top 6) 0), defBody (inClass (top 6) 0), defScope (inClass (top 6) 0), [], []⟩]
def fa : List He.Fa := [.glo "is_integer", .glo "is_between", .glo "numbers_of", .glo "cross_of", .glo "less", .glo "side_of", .glo "pair_of", .glo "point_of", .glo "_law_draw", .glo "_law_pair", .glo "_law_side", .glo "_law_corners", .glo "_law_hand", .glo "check_ahead", .glo "common_divisor", .glo "lowest_pair", .glo "way_in", .glo "check_truths", .glo "_law_made", .glo "_law_near", .glo "_law_right_rule", .glo "sign_of", .glo "kind_of_pair", .glo "ways_of", .glo "is_owned", .glo "owns", .glo "_law_times", .glo "amount_on_row", .glo "check_any", .glo "greater_of", .glo "less_of", .glo "sum_of_floors", .glo "first_from", .glo "rows_from", .glo "amount", .glo "twin_of", .glo "law", .glo "Grid", .glo "KINDS", .glo "Point", .glo "Triangle", .free "abs", .free "all", .free "any", .free "bool", .free "enumerate", .free "int", .free "isinstance", .free "len", .free "list", .free "max", .free "min", .free "range", .free "sorted", .free "tuple", .int "MOST_STEP" (1000000000000000000000000000000), .glo "Edge", .cls "Edge", .noat "Edge" "rest", .noat "Edge" "rise", .noat "Edge" "run", .noat "Edge" "start", .noat "Edge" "step", .noat "Edge" "tie", .cls "Grid", .noat "Grid" "rest", .noat "Grid" "step", .glo "Half", .cls "Half", .noat "Half" "own_ahead", .noat "Half" "own_way", .cls "Point", .noat "Point" "x", .noat "Point" "y", .glo "Table", .cls "Table", .noat "Table" "truths", .cls "Triangle", .noat "Triangle" "pairs", .mkr "Edge", .mkr "Grid", .mkr "Half", .mkr "Point", .mkr "Table", .mkr "Triangle", .meth "Half" "has", .meth "Table" "has", .meth "Edge" "at_row", .meth "Edge" "floor_at", .meth "Edge" "spans_rows", .meth "Edge" "sum_of_rows"]
def isiL : IsiL := [((.b "int", .b "int"), true), ((.b "bool", .b "int"), true), ((.b "str", .b "int"), false), ((.b "NoneType", .b "int"), false), ((.b "tuple", .b "int"), false), ((.b "list", .b "int"), false), ((.c "Point", .b "int"), false), ((.c "Triangle", .b "int"), false), ((.c "Grid", .b "int"), false), ((.c "Edge", .b "int"), false), ((.c "Table", .b "int"), false), ((.c "Half", .b "int"), false), ((.b "int", .b "bool"), false), ((.b "bool", .b "bool"), true), ((.b "str", .b "bool"), false), ((.b "NoneType", .b "bool"), false), ((.b "tuple", .b "bool"), false), ((.b "list", .b "bool"), false), ((.c "Point", .b "bool"), false), ((.c "Triangle", .b "bool"), false), ((.c "Grid", .b "bool"), false), ((.c "Edge", .b "bool"), false), ((.c "Table", .b "bool"), false), ((.c "Half", .b "bool"), false), ((.b "int", .c "Point"), false), ((.b "bool", .c "Point"), false), ((.b "str", .c "Point"), false), ((.b "NoneType", .c "Point"), false), ((.b "tuple", .c "Point"), false), ((.b "list", .c "Point"), false), ((.c "Point", .c "Point"), true), ((.c "Triangle", .c "Point"), false), ((.c "Grid", .c "Point"), false), ((.c "Edge", .c "Point"), false), ((.c "Table", .c "Point"), false), ((.c "Half", .c "Point"), false), ((.b "int", .b "tuple"), false), ((.b "bool", .b "tuple"), false), ((.b "str", .b "tuple"), false), ((.b "NoneType", .b "tuple"), false), ((.b "tuple", .b "tuple"), true), ((.b "list", .b "tuple"), false), ((.c "Point", .b "tuple"), false), ((.c "Triangle", .b "tuple"), false), ((.c "Grid", .b "tuple"), false), ((.c "Edge", .b "tuple"), false), ((.c "Table", .b "tuple"), false), ((.c "Half", .b "tuple"), false), ((.b "int", .c "Triangle"), false), ((.b "bool", .c "Triangle"), false), ((.b "str", .c "Triangle"), false), ((.b "NoneType", .c "Triangle"), false), ((.b "tuple", .c "Triangle"), false), ((.b "list", .c "Triangle"), false), ((.c "Point", .c "Triangle"), false), ((.c "Triangle", .c "Triangle"), true), ((.c "Grid", .c "Triangle"), false), ((.c "Edge", .c "Triangle"), false), ((.c "Table", .c "Triangle"), false), ((.c "Half", .c "Triangle"), false), ((.b "int", .b "list"), false), ((.b "bool", .b "list"), false), ((.b "str", .b "list"), false), ((.b "NoneType", .b "list"), false), ((.b "tuple", .b "list"), false), ((.b "list", .b "list"), true), ((.c "Point", .b "list"), false), ((.c "Triangle", .b "list"), false), ((.c "Grid", .b "list"), false), ((.c "Edge", .b "list"), false), ((.c "Table", .b "list"), false), ((.c "Half", .b "list"), false)]
abbrev isiT : TyN → TyN → Option Bool := isiF isiL
def kd_KINDS : List (List Int × Int) := [([(1), (0)], 0), ([(1), (1)], 1), ([(0), (1)], 2), ([(-1), (1)], 3), ([(-1), (0)], 4), ([(-1), (-1)], 5), ([(0), (-1)], 6), ([(1), (-1)], 7)]
def exB (K : PySem.W.Frag) : Bool := isiB isiL K && (propB K "Triangle" "area2" && (cmpB K "Triangle" "__eq__" [] ["Triangle"] && (neB K "Triangle" && (statB K "Grid" "unit" && (kdB K (He.ga K "KINDS") kd_KINDS && (rxB K "Flat" ["three"] && (rxB K "InvalidGrid" ["part"] && (rxB K "InvalidHalf" ["part"] && (rxB K "InvalidNumber" ["number"] && (rxB K "InvalidPoint" ["thing"] && (rxB K "InvalidTable" ["thing"])))))))))))
def loose0 : List PySem.Str := ["_wall", "FillError", "InvalidPoint", "InvalidNumber", "NoDirection", "InvalidTable", "InvalidHalf", "Flat", "InvalidGrid", "is_integer", "is_between", "check_any", "Point", "numbers_of", "pair_of", "point_of", "less", "cross_of", "side_of", "Triangle", "ways_of", "is_owned", "owns", "MOST_STEP", "Grid", "first_from", "pairs_between", "sum_of_floors", "Edge", "amount_on_row"]
def loose1 : List PySem.Str := ["rows_from", "greater_of", "less_of", "amount", "twin_of", "KINDS", "sign_of", "direction_of", "kind_of_pair", "common_divisor", "lowest_pair", "AXES", "WAYS", "Rule", "check_truths", "Table", "way_in", "check_ahead", "Half", "corners_of_kind", "kinds_of_half", "is_within", "_law_hand", "_law_draw", "_law_pair", "_law_side", "_law_corners", "_law_ways", "_law_kind", "_law_half_in"]
def loose2 : List PySem.Str := ["_law_rule", "_law_made", "_law_in", "_law_owns", "_law_right_rule", "_law_times", "_law_near"]
def loose : List PySem.Str := loose0 ++ loose1 ++ loose2
abbrev R : PySem.W.OpenRow := PySem.W.OpenLaw.row PySem.Challenge.rw_filledonce_k18_whole_tiles_of_the_plane
def asL : List Addr := [3, 31, 51, 70, 108, 127, 146, 165, 174, 181, 188, 278, 289, 296, 303, 310, 317, 324, 376, 385, 392, 399, 447, 458, 472, 517, 526, 533, 540, 547, 553, 560, 561, 576, 590, 597, 604, 642, 651, 730, 739, 746, 818, 846, 853, 860, 867, 874, 905, 924, 931, 938, 943, 30, 50, 69, 107, 126, 145, 164, 173, 180, 187, 277, 288, 295, 302, 309, 316, 323, 375, 384, 391, 398, 446, 457, 471, 516, 525, 532, 539, 546, 552, 548, 559, 575, 589, 596, 603, 641, 650, 729, 738, 745, 817, 845, 852, 859, 866, 873, 904, 923, 930, 937, 942, 48, 67, 105, 124, 143, 162, 202, 338, 356, 368, 413, 422, 486, 493, 500, 507, 514, 665, 682, 760, 801, 47, 66, 104, 123, 142, 161, 201, 337, 355, 367, 412, 420, 485, 492, 499, 506, 513, 664, 681, 759, 800, 354, 419, 2, 562, 563, 564, 565, 566, 567, 568, 569]
abbrev hk : PySem.W.Hook := hookL asL fa fn exB
def ob (s : PySem.W.SharedT) : AlY := obsL asL fa fn exB (HandSHeadRun.getT s)
theorem ob_eq (s : PySem.W.SharedT) : ob s = hk.obs s.abs := obsL_eq (HandSHeadRun.getT_eq s)
abbrev loose_q : Program := PySem.W.view R.prog [76]
theorem run_l_false (w : World) (os : OsState) : (HandSHeadRun.endF (HandSHeadRun.stepQ (HandSHeadRun.denQ HandSHeadRun.tabQ) R.prog (w.withFollow "special-get-raises" false)) 9000 R.prog (w.withFollow "special-get-raises" false) os).map (fun s => HandSHeadRun.looksF R.prog (PySem.W.boot_heap (w.withFollow "special-get-raises" false).params) s.abs) = some (true) := by
  kernel_rfl
theorem run_s_false (w : World) (os : OsState) : (HandSHeadRun.endF (HandSHeadRun.stepQ (HandSHeadRun.denQ HandSHeadRun.tabQ) R.prog (w.withFollow "special-get-raises" false)) 9000 R.prog (w.withFollow "special-get-raises" false) os).map (fun s => HandSHeadRun.seenQ loose_q loose (importedModules R.prog.main.body) (fun s => PySem.W.xlAt loose_q [] s && PySem.W.recOk R.toRowW.records s) s.abs) = some (PySem.W.openGood loose_q loose) := by
  kernel_rfl
theorem run_o_false (w : World) (os : OsState) : (HandSHeadRun.endF (HandSHeadRun.stepQ (HandSHeadRun.denQ HandSHeadRun.tabQ) R.prog (w.withFollow "special-get-raises" false)) 9000 R.prog (w.withFollow "special-get-raises" false) os).map (fun s => ob s) = some (hk.val (w.withFollow "special-get-raises" false)) := by
  kernel_rfl
theorem run_l_true (w : World) (os : OsState) : (HandSHeadRun.endF (HandSHeadRun.stepQ (HandSHeadRun.denQ HandSHeadRun.tabQ) R.prog (w.withFollow "special-get-raises" true)) 9000 R.prog (w.withFollow "special-get-raises" true) os).map (fun s => HandSHeadRun.looksF R.prog (PySem.W.boot_heap (w.withFollow "special-get-raises" true).params) s.abs) = some (true) := by
  kernel_rfl
theorem run_s_true (w : World) (os : OsState) : (HandSHeadRun.endF (HandSHeadRun.stepQ (HandSHeadRun.denQ HandSHeadRun.tabQ) R.prog (w.withFollow "special-get-raises" true)) 9000 R.prog (w.withFollow "special-get-raises" true) os).map (fun s => HandSHeadRun.seenQ loose_q loose (importedModules R.prog.main.body) (fun s => PySem.W.xlAt loose_q [] s && PySem.W.recOk R.toRowW.records s) s.abs) = some (PySem.W.openGood loose_q loose) := by
  kernel_rfl
theorem run_o_true (w : World) (os : OsState) : (HandSHeadRun.endF (HandSHeadRun.stepQ (HandSHeadRun.denQ HandSHeadRun.tabQ) R.prog (w.withFollow "special-get-raises" true)) 9000 R.prog (w.withFollow "special-get-raises" true) os).map (fun s => ob s) = some (hk.val (w.withFollow "special-get-raises" true)) := by
  kernel_rfl
theorem runs_false (w : World) : HandSHeadRun.RunEq R loose_q hk ob 9000 loose (w.withFollow "special-get-raises" false) := DL.runEq3 (run_l_false w) (run_s_false w) (run_o_false w)
theorem runs_true (w : World) : HandSHeadRun.RunEq R loose_q hk ob 9000 loose (w.withFollow "special-get-raises" true) := DL.runEq3 (run_l_true w) (run_s_true w) (run_o_true w)
theorem run (w : World) : HandSHeadRun.RunEq R loose_q hk ob 9000 loose w := PySem.W.byRow2 "special-get-raises" (P := fun w => HandSHeadRun.RunEq R loose_q hk ob 9000 loose w) runs_false runs_true w
end K18

set_option Elab.async false
set_option linter.all false
set_option maxRecDepth 100000
set_option maxHeartbeats 4000000
set_option autoImplicit false
set_option exponentiation.threshold 3000
namespace DL
open PySem PySem.Spec PyProof.Rows L2
/-! ### plain data: comparisons, bounds, pools -/
theorem eqD_int {i j : Int} {k : Bool → Prop} : eqD (.int i) (.int j) k = k (decide (i = j)) := by
  apply propext
  constructor
  · rintro ⟨p, q, h1, h2, _, _, h⟩
    rw [toP] at h1 h2
    cases h1
    cases h2
    have e : PyData.eqv (.int i) (.int j) = decide (i = j) := by
      rw [Bool.eq_iff_iff]; simp [PyData.eqv]
    rw [← e]; exact h
  · intro h
    refine ⟨.int i, .int j, by rw [toP], by rw [toP], rfl, rfl, ?_⟩
    have e : PyData.eqv (.int i) (.int j) = decide (i = j) := by
      rw [Bool.eq_iff_iff]; simp [PyData.eqv]
    rw [e]; exact h
/-- numbers of at most 200 digits -/
def Bd (i : Int) : Prop := -(10 ^ 200) < i ∧ i < 10 ^ 200
theorem log2_bd {i : Int} (h : Bd i) : i.natAbs.log2 < 700 := by
  by_cases z : i.natAbs = 0
  · rw [z]; decide
  · rw [Nat.log2_lt z]
    have h1 : i.natAbs < 10 ^ 200 := by
      obtain ⟨a, b⟩ := h
      have e : (10 : Int) ^ 200 = ((10 ^ 200 : Nat) : Int) := by decide +kernel
      rw [e] at a b
      omega
    exact Nat.lt_of_lt_of_le h1 (by decide +kernel)
theorem cm_bd {i j : Int} (hi : Bd i) (hj : Bd j) : CM i j := by
  have h1 := log2_bd hi
  have h2 := log2_bd hj
  exact .inr (show i.natAbs.log2 + j.natAbs.log2 < 1000000 by omega)
theorem cd_bd {i j : Int} (h : 0 < j) (hj : Bd j) : CDivW i j := ⟨h, Nat.lt_of_lt_of_le (log2_bd hj) (by decide)⟩
/-- the cells with a pool behind them -/
def pl (μ : Mu) (p q : Int) : Mu := μ ++ [.lst [.int p, .int q]]
theorem pl_get {μ : Mu} {p q : Int} : (pl μ p q)[μ.length]? = some (.lst [.int p, .int q]) := List.getElem?_concat_length
theorem pl_set {μ : Mu} {p q : Int} {c : Cell} : (pl μ p q).set μ.length c = μ ++ [c] := by
  unfold pl
  rw [List.set_append_right _ _ (Nat.le_refl _), Nat.sub_self]
  rfl
theorem pl_fold {μ : Mu} {p q : Int} : μ ++ [Cell.lst [.int p, .int q]] = pl μ p q := rfl
theorem pl_items {μ : Mu} {p q : Int} : itemsD (.loc μ.length) (pl μ p q) = some [.int p, .int q] := by
  show (match (pl μ p q)[μ.length]? with
    | some (.lst ds) => some ds
    | _ => none) = _
  rw [pl_get]
theorem pl_st0 {μ : Mu} {p q : Int} {d : D} {k : Mu → Prop} : stL (.loc μ.length) (.int 0) d (pl μ p q) k = k (μ ++ [.lst [d, .int q]]) := by
  unfold stL
  simp only [pl_get, pl_set]
  rfl
theorem pl_st1 {μ : Mu} {p q : Int} {d : D} {k : Mu → Prop} : stL (.loc μ.length) (.int 1) d (pl μ p q) k = k (μ ++ [.lst [.int p, d]]) := by
  unfold stL
  simp only [pl_get, pl_set]
  rfl
theorem atI_nat {α : Type} {xs : List α} {n : Nat} : atI xs (n : Int) = xs[n]? := by
  unfold atI ixN
  rw [if_pos (Int.natCast_nonneg n)]
  by_cases h : (n : Int) < xs.length
  · rw [if_pos h]
    rfl
  · rw [if_neg h]
    have h2 : xs.length ≤ n := by omega
    rw [List.getElem?_eq_none h2]
    rfl
theorem atI_0 {α : Type} {a : α} {r : List α} : atI (a :: r) 0 = some a := atI_nat (n := 0)
theorem atI_1 {α : Type} {a b : α} {r : List α} : atI (a :: b :: r) 1 = some b := atI_nat (n := 1)
theorem atI_2 {α : Type} {a b c : α} {r : List α} : atI (a :: b :: c :: r) 2 = some c := atI_nat (n := 2)
theorem atI_3 {α : Type} {a b c d : α} {r : List α} : atI (a :: b :: c :: d :: r) 3 = some d := atI_nat (n := 3)
theorem items_tup {ds : List D} {μ : Mu} : itemsD (.tup ds) μ = some ds := rfl
theorem items_lst {ds : List D} {μ : Mu} : itemsD (.lst ds) μ = some ds := rfl
theorem items_frl {ds : List D} {μ : Mu} : itemsD (.frl ds) μ = some ds := rfl
/-! ### loops -/
theorem forL_inv {g : WG} {b : WS} {E : DEnds} (I : DS → Mu → Prop) (fin : ∀ ρ μ, I ρ μ → E.nx ρ μ) : ∀ {ds : List D}, (∀ d ∈ ds, ∀ ρ μ (K : DS → Mu → Prop), I ρ μ → (∀ ρ' μ', I ρ' μ' → K ρ' μ') → g d ρ μ fun ρ1 μ1 => b { E with nx := K, ct := K, bk := E.nx } ρ1 μ1) →
    ∀ {ρ μ}, I ρ μ → forL g b E ds ρ μ
  | [], _, ρ, μ, h => by rw [forL]; exact fin ρ μ h
  | d :: ds, step, ρ, μ, h => by
    rw [forL]
    exact step d (by simp) ρ μ _ h fun ρ' μ' h' => forL_inv I fin (fun d hd => step d (by simp [hd])) h'
theorem mem_range {lo : Int} {n : Nat} {d : D} (h : d ∈ rangeD lo n) : ∃ i : Nat, i < n ∧ d = .int (lo + i) := by
  unfold rangeD at h
  obtain ⟨i, hi, rfl⟩ := List.mem_map.mp h
  exact ⟨i, List.mem_range.mp hi, rfl⟩
/-- the script's k-th cell, or 0 -/
theorem cell_of {ns : List Int} {lo hi : Option Int} : ∃ c, atI (cutD (ns.map D.int) lo hi ++ [.int 0]) 0 = some (.int c) := by
  have h : ∀ l : List D, (∀ d ∈ l, ∃ c, d = .int c) → ∃ c, atI (l ++ [.int 0]) 0 = some (.int c) := by
    intro l hl
    cases l with
    | nil => exact ⟨0, atI_0⟩
    | cons d r =>
      obtain ⟨c, rfl⟩ := hl d (by simp)
      exact ⟨c, atI_0⟩
  refine h _ fun d hd => ?_
  unfold cutD at hd
  have h1 := List.mem_of_mem_take hd
  have h2 := List.mem_of_mem_drop h1
  obtain ⟨c, _, rfl⟩ := List.mem_map.mp h2
  exact ⟨c, rfl⟩
theorem cut_few {ns : List Int} {lo hi : Option Int} (h : ns.length ≤ 63) : (cutD (ns.map D.int) lo hi).length + 1 ≤ sizeLine := by
  unfold cutD
  rw [List.length_take, List.length_drop, List.length_map, sizeLine_eq]
  omega
theorem range_zero {lo : Int} : rangeD lo 0 = [] := rfl
theorem range_succ {lo : Int} {n : Nat} : rangeD lo (n + 1) = .int lo :: rangeD (lo + 1) n := by
  unfold rangeD
  rw [List.range_succ_eq_map, List.map_cons, List.map_map]
  congr 1
  · simp
  · refine List.map_congr_left fun i _ => ?_
    show D.int (lo + ((i + 1 : Nat) : Int)) = D.int (lo + 1 + (i : Int))
    congr 1
    omega
/-- how many turns: at least one, at most eight -/
def turns (n m : Nat) : Int := if (if (m : Int) < n then (m : Int) else n) > 1 then (if (m : Int) < n then (m : Int) else n) else 1
theorem turns_ok {n m : Nat} (hm : m ≤ 1000) : -2 ^ 62 ≤ turns n m ∧ turns n m < 2 ^ 62 ∧ (turns n m).toNat ≤ m + 1 := by
  unfold turns
  split <;> split <;> omega
end DL

set_option Elab.async false
set_option linter.all false
set_option maxRecDepth 100000
set_option maxHeartbeats 4000000
set_option autoImplicit false
set_option exponentiation.threshold 3000
namespace DL
open PySem PySem.Spec PyProof.Rows L2
/-! ### what is read is worked out from the head: frames and their equations -/
def KVar (o : Option Sl) (μ : Mu) (Q : D → Mu → Prop) : Prop := match o with
  | some (.v d) => Q d μ
  | _ => False
theorem r_var {i : Nat} {ρ : DS} {μ : Mu} {Q : D → Mu → Prop} {Xd : XD} : wVar i ρ μ Q Xd = KVar (ρ[i]?) μ Q := propext Iff.rfl
theorem r_var2 {d : D} {μ : Mu} {Q : D → Mu → Prop} : KVar (some (.v d)) μ Q = Q d μ := propext Iff.rfl
theorem r_c {d : D} {ρ : DS} {μ : Mu} {Q : D → Mu → Prop} {Xd : XD} : DL.wC d ρ μ Q Xd = Q d μ := propext Iff.rfl
def K2b (f : F2) (x : D) (Q : D → Mu → Prop) : D → Mu → Prop := fun y μ => f x y μ Q
def K2a (f : F2) (wb : WE) (ρ : DS) (Q : D → Mu → Prop) (Xd : XD) : D → Mu → Prop := fun x μ => wb ρ μ (K2b f x Q) Xd
theorem r_w2 {f : F2} {wa wb : WE} {ρ : DS} {μ : Mu} {Q : D → Mu → Prop} {Xd : XD} : DL.w2 f wa wb ρ μ Q Xd = wa ρ μ (K2a f wb ρ Q Xd) Xd := propext Iff.rfl
theorem r_w2a {f : F2} {wb : WE} {x : D} {ρ : DS} {μ : Mu} {Q : D → Mu → Prop} {Xd : XD} : K2a f wb ρ Q Xd x μ = wb ρ μ (K2b f x Q) Xd := propext Iff.rfl
theorem r_w2b {f : F2} {x y : D} {μ : Mu} {Q : D → Mu → Prop} : K2b f x Q y μ = f x y μ Q := propext Iff.rfl
def K1 (f : F1) (Q : D → Mu → Prop) : D → Mu → Prop := fun x μ => f x μ Q
theorem r_w1 {f : F1} {wa : WE} {ρ : DS} {μ : Mu} {Q : D → Mu → Prop} {Xd : XD} : DL.w1 f wa ρ μ Q Xd = wa ρ μ (K1 f Q) Xd := propext Iff.rfl
theorem r_w1a {f : F1} {x : D} {μ : Mu} {Q : D → Mu → Prop} : K1 f Q x μ = f x μ Q := propext Iff.rfl
def KB (Q : Bool → Mu → Prop) : D → Mu → Prop := fun d μ => fBool d fun b => Q b μ
theorem r_wB {w : WE} {ρ : DS} {μ : Mu} {Q : Bool → Mu → Prop} {Xd : XD} : wB w ρ μ Q Xd = w ρ μ (KB Q) Xd := propext Iff.rfl
theorem r_wBa {b : Bool} {μ : Mu} {Q : Bool → Mu → Prop} : KB Q (.bl b) μ = Q b μ := propext Iff.rfl
def KCh3 (f' : F2) (wc : WE) (y : D) (ρ : DS) (Q : D → Mu → Prop) (Xd : XD) : D → Mu → Prop := fun z μ3 => fBool z fun k => if k = true then wc ρ μ3 (fun w' μ4 => f' y w' μ4 Q) Xd else Q (.bl false) μ3
def KCh2 (f f' : F2) (wc : WE) (x : D) (ρ : DS) (Q : D → Mu → Prop) (Xd : XD) : D → Mu → Prop := fun y μ2 => f x y μ2 (KCh3 f' wc y ρ Q Xd)
def KCh1 (f f' : F2) (wb wc : WE) (ρ : DS) (Q : D → Mu → Prop) (Xd : XD) : D → Mu → Prop := fun x μ1 => wb ρ μ1 (KCh2 f f' wc x ρ Q Xd) Xd
theorem r_ch {f f' : F2} {wa wb wc : WE} {ρ : DS} {μ : Mu} {Q : D → Mu → Prop} {Xd : XD} : wChain f f' wa wb wc ρ μ Q Xd = wa ρ μ (KCh1 f f' wb wc ρ Q Xd) Xd := propext Iff.rfl
theorem r_ch1 {f f' : F2} {wb wc : WE} {x : D} {ρ : DS} {μ : Mu} {Q : D → Mu → Prop} {Xd : XD} : KCh1 f f' wb wc ρ Q Xd x μ = wb ρ μ (KCh2 f f' wc x ρ Q Xd) Xd := propext Iff.rfl
theorem r_ch2 {f f' : F2} {wc : WE} {x y : D} {ρ : DS} {μ : Mu} {Q : D → Mu → Prop} {Xd : XD} : KCh2 f f' wc x ρ Q Xd y μ = f x y μ (KCh3 f' wc y ρ Q Xd) := propext Iff.rfl
theorem r_ch3t {f' : F2} {wc : WE} {y : D} {ρ : DS} {μ : Mu} {Q : D → Mu → Prop} {Xd : XD} : KCh3 f' wc y ρ Q Xd (.bl true) μ = wc ρ μ (K2b f' y Q) Xd := propext Iff.rfl
theorem r_ch3f {f' : F2} {wc : WE} {y : D} {ρ : DS} {μ : Mu} {Q : D → Mu → Prop} {Xd : XD} : KCh3 f' wc y ρ Q Xd (.bl false) μ = Q (.bl false) μ := propext Iff.rfl
def KAnd (u : WT) (ρ : DS) (Q : Bool → Mu → Prop) (Xd : XD) : Bool → Mu → Prop := fun c μ1 => if c = true then u ρ μ1 Q Xd else Q false μ1
def KOr (u : WT) (ρ : DS) (Q : Bool → Mu → Prop) (Xd : XD) : Bool → Mu → Prop := fun c μ1 => if c = true then Q true μ1 else u ρ μ1 Q Xd
def KNot (Q : Bool → Mu → Prop) : Bool → Mu → Prop := fun c μ1 => Q (!c) μ1
theorem r_and {t u : WT} {ρ : DS} {μ : Mu} {Q : Bool → Mu → Prop} {Xd : XD} : wAnd t u ρ μ Q Xd = t ρ μ (KAnd u ρ Q Xd) Xd := propext Iff.rfl
theorem r_andt {u : WT} {ρ : DS} {μ : Mu} {Q : Bool → Mu → Prop} {Xd : XD} : KAnd u ρ Q Xd true μ = u ρ μ Q Xd := propext Iff.rfl
theorem r_andf {u : WT} {ρ : DS} {μ : Mu} {Q : Bool → Mu → Prop} {Xd : XD} : KAnd u ρ Q Xd false μ = Q false μ := propext Iff.rfl
theorem r_or {t u : WT} {ρ : DS} {μ : Mu} {Q : Bool → Mu → Prop} {Xd : XD} : wOr t u ρ μ Q Xd = t ρ μ (KOr u ρ Q Xd) Xd := propext Iff.rfl
theorem r_ort {u : WT} {ρ : DS} {μ : Mu} {Q : Bool → Mu → Prop} {Xd : XD} : KOr u ρ Q Xd true μ = Q true μ := propext Iff.rfl
theorem r_orf {u : WT} {ρ : DS} {μ : Mu} {Q : Bool → Mu → Prop} {Xd : XD} : KOr u ρ Q Xd false μ = u ρ μ Q Xd := propext Iff.rfl
theorem r_not {t : WT} {ρ : DS} {μ : Mu} {Q : Bool → Mu → Prop} {Xd : XD} : DL.wNot t ρ μ Q Xd = t ρ μ (KNot Q) Xd := propext Iff.rfl
theorem r_nota {c : Bool} {μ : Mu} {Q : Bool → Mu → Prop} : KNot Q c μ = Q (!c) μ := propext Iff.rfl
def KIfE (wa wb : WE) (ρ : DS) (Q : D → Mu → Prop) (Xd : XD) : Bool → Mu → Prop := fun k μ1 => if k = true then wa ρ μ1 Q Xd else wb ρ μ1 Q Xd
theorem r_ife {t : WT} {wa wb : WE} {ρ : DS} {μ : Mu} {Q : D → Mu → Prop} {Xd : XD} : wIf t wa wb ρ μ Q Xd = t ρ μ (KIfE wa wb ρ Q Xd) Xd := propext Iff.rfl
theorem r_ifet {wa wb : WE} {ρ : DS} {μ : Mu} {Q : D → Mu → Prop} {Xd : XD} : KIfE wa wb ρ Q Xd true μ = wa ρ μ Q Xd := propext Iff.rfl
theorem r_ifef {wa wb : WE} {ρ : DS} {μ : Mu} {Q : D → Mu → Prop} {Xd : XD} : KIfE wa wb ρ Q Xd false μ = wb ρ μ Q Xd := propext Iff.rfl
def KAndV (wb : WE) (ρ : DS) (Q : D → Mu → Prop) (Xd : XD) : D → Mu → Prop := fun x μ1 => fBool x fun k => if k = true then wb ρ μ1 Q Xd else Q (.bl false) μ1
def KOrV (wb : WE) (ρ : DS) (Q : D → Mu → Prop) (Xd : XD) : D → Mu → Prop := fun x μ1 => fBool x fun k => if k = true then Q (.bl true) μ1 else wb ρ μ1 Q Xd
theorem r_andv {wa wb : WE} {ρ : DS} {μ : Mu} {Q : D → Mu → Prop} {Xd : XD} : wAndV wa wb ρ μ Q Xd = wa ρ μ (KAndV wb ρ Q Xd) Xd := propext Iff.rfl
theorem r_andvt {wb : WE} {ρ : DS} {μ : Mu} {Q : D → Mu → Prop} {Xd : XD} : KAndV wb ρ Q Xd (.bl true) μ = wb ρ μ Q Xd := propext Iff.rfl
theorem r_andvf {wb : WE} {ρ : DS} {μ : Mu} {Q : D → Mu → Prop} {Xd : XD} : KAndV wb ρ Q Xd (.bl false) μ = Q (.bl false) μ := propext Iff.rfl
theorem r_orv {wa wb : WE} {ρ : DS} {μ : Mu} {Q : D → Mu → Prop} {Xd : XD} : wOrV wa wb ρ μ Q Xd = wa ρ μ (KOrV wb ρ Q Xd) Xd := propext Iff.rfl
theorem r_orvt {wb : WE} {ρ : DS} {μ : Mu} {Q : D → Mu → Prop} {Xd : XD} : KOrV wb ρ Q Xd (.bl true) μ = Q (.bl true) μ := propext Iff.rfl
theorem r_orvf {wb : WE} {ρ : DS} {μ : Mu} {Q : D → Mu → Prop} {Xd : XD} : KOrV wb ρ Q Xd (.bl false) μ = wb ρ μ Q Xd := propext Iff.rfl
def KNotV (Q : D → Mu → Prop) : D → Mu → Prop := fun x μ1 => fBool x fun k => Q (.bl (!k)) μ1
theorem r_notv {wa : WE} {ρ : DS} {μ : Mu} {Q : D → Mu → Prop} {Xd : XD} : wNotV wa ρ μ Q Xd = wa ρ μ (KNotV Q) Xd := propext Iff.rfl
theorem r_notva {b : Bool} {μ : Mu} {Q : D → Mu → Prop} : KNotV Q (.bl b) μ = Q (.bl (!b)) μ := propext Iff.rfl
theorem r_nil {ρ : DS} {μ : Mu} {Q : List D → Mu → Prop} {Xd : XD} : DL.wNil ρ μ Q Xd = Q [] μ := propext Iff.rfl
def KA2 (d : D) (Q : List D → Mu → Prop) : List D → Mu → Prop := fun ds μ2 => Q (d :: ds) μ2
def KA1 (wr : WA) (ρ : DS) (Q : List D → Mu → Prop) (Xd : XD) : D → Mu → Prop := fun d μ1 => wr ρ μ1 (KA2 d Q) Xd
theorem r_cons {wa : WE} {wr : WA} {ρ : DS} {μ : Mu} {Q : List D → Mu → Prop} {Xd : XD} : DL.wCons wa wr ρ μ Q Xd = wa ρ μ (KA1 wr ρ Q Xd) Xd := propext Iff.rfl
theorem r_cons1 {wr : WA} {d : D} {ρ : DS} {μ : Mu} {Q : List D → Mu → Prop} {Xd : XD} : KA1 wr ρ Q Xd d μ = wr ρ μ (KA2 d Q) Xd := propext Iff.rfl
theorem r_cons2 {d : D} {ds : List D} {μ : Mu} {Q : List D → Mu → Prop} : KA2 d Q ds μ = Q (d :: ds) μ := propext Iff.rfl
def KTup (Q : D → Mu → Prop) : List D → Mu → Prop := fun ds μ1 => ds.length ≤ 1000 ∧ Q (.tup ds) μ1
theorem r_tup {wa : WA} {ρ : DS} {μ : Mu} {Q : D → Mu → Prop} {Xd : XD} : wTup wa ρ μ Q Xd = wa ρ μ (KTup Q) Xd := propext Iff.rfl
theorem r_tupa {ds : List D} {μ : Mu} {Q : D → Mu → Prop} : KTup Q ds μ = (ds.length ≤ 1000 ∧ Q (.tup ds) μ) := propext Iff.rfl
def KLst (Q : D → Mu → Prop) : List D → Mu → Prop := fun ds μ1 => ds.length ≤ 1000 ∧ Q (.lst ds) μ1
theorem r_lst {wa : WA} {ρ : DS} {μ : Mu} {Q : D → Mu → Prop} {Xd : XD} : wLst wa ρ μ Q Xd = wa ρ μ (KLst Q) Xd := propext Iff.rfl
theorem r_lsta {ds : List D} {μ : Mu} {Q : D → Mu → Prop} : KLst Q ds μ = (ds.length ≤ 1000 ∧ Q (.lst ds) μ) := propext Iff.rfl
def KLstC (Q : D → Mu → Prop) : List D → Mu → Prop := fun ds μ1 => ds.length ≤ 1000 ∧ Q (.loc μ1.length) (μ1 ++ [.lst ds])
theorem r_lstc {wa : WA} {ρ : DS} {μ : Mu} {Q : D → Mu → Prop} {Xd : XD} : wLstC wa ρ μ Q Xd = wa ρ μ (KLstC Q) Xd := propext Iff.rfl
theorem r_lstca {ds : List D} {μ : Mu} {Q : D → Mu → Prop} : KLstC Q ds μ = (ds.length ≤ 1000 ∧ Q (.loc μ.length) (μ ++ [.lst ds])) := propext Iff.rfl
def KN (f : FN) (Q : D → Mu → Prop) : List D → Mu → Prop := fun ds μ1 => f ds μ1 Q
theorem r_wn {f : FN} {wa : WA} {ρ : DS} {μ : Mu} {Q : D → Mu → Prop} {Xd : XD} : DL.wN f wa ρ μ Q Xd = wa ρ μ (KN f Q) Xd := propext Iff.rfl
theorem r_wna {f : FN} {ds : List D} {μ : Mu} {Q : D → Mu → Prop} : KN f Q ds μ = f ds μ Q := propext Iff.rfl
def KCall (sp : DSp) (Q : D → Mu → Prop) (Xd : XD) : List D → Mu → Prop := fun ds μ1 => sp ds μ1 Q Xd
theorem r_call {sp : DSp} {wa : WA} {ρ : DS} {μ : Mu} {Q : D → Mu → Prop} {Xd : XD} : wCall sp wa ρ μ Q Xd = wa ρ μ (KCall sp Q Xd) Xd := propext Iff.rfl
theorem r_calla {sp : DSp} {ds : List D} {μ : Mu} {Q : D → Mu → Prop} {Xd : XD} : KCall sp Q Xd ds μ = sp ds μ Q Xd := propext Iff.rfl
def KMk2 (c : Str) (Q : D → Mu → Prop) : List Str → List D → Mu → Prop := fun ks es μ2 => Q (.obj c ks es) μ2
def KMk1 (c : Str) (sp : ISp) (Q : D → Mu → Prop) (Xd : XD) : List D → Mu → Prop := fun ds μ1 => sp ds μ1 (KMk2 c Q) Xd
theorem r_mk {c : Str} {sp : ISp} {wa : WA} {ρ : DS} {μ : Mu} {Q : D → Mu → Prop} {Xd : XD} : wMake c sp wa ρ μ Q Xd = wa ρ μ (KMk1 c sp Q Xd) Xd := propext Iff.rfl
theorem r_mk1 {c : Str} {sp : ISp} {ds : List D} {μ : Mu} {Q : D → Mu → Prop} {Xd : XD} : KMk1 c sp Q Xd ds μ = sp ds μ (KMk2 c Q) Xd := propext Iff.rfl
theorem r_mk2 {c : Str} {ks : List Str} {es : List D} {μ : Mu} {Q : D → Mu → Prop} : KMk2 c Q ks es μ = Q (.obj c ks es) μ := propext Iff.rfl
def KMkC2 (c : Str) (Q : D → Mu → Prop) : List Str → List D → Mu → Prop := fun ks es μ2 => Q (.loc μ2.length) (μ2 ++ [.ins c ks es])
def KMkC1 (c : Str) (sp : ISp) (Q : D → Mu → Prop) (Xd : XD) : List D → Mu → Prop := fun ds μ1 => sp ds μ1 (KMkC2 c Q) Xd
theorem r_mkc {c : Str} {sp : ISp} {wa : WA} {ρ : DS} {μ : Mu} {Q : D → Mu → Prop} {Xd : XD} : wMakeC c sp wa ρ μ Q Xd = wa ρ μ (KMkC1 c sp Q Xd) Xd := propext Iff.rfl
theorem r_mkc1 {c : Str} {sp : ISp} {ds : List D} {μ : Mu} {Q : D → Mu → Prop} {Xd : XD} : KMkC1 c sp Q Xd ds μ = sp ds μ (KMkC2 c Q) Xd := propext Iff.rfl
theorem r_mkc2 {c : Str} {ks : List Str} {es : List D} {μ : Mu} {Q : D → Mu → Prop} : KMkC2 c Q ks es μ = Q (.loc μ.length) (μ ++ [.ins c ks es]) := propext Iff.rfl
def KMe2 (sp : DSp) (x : D) (Q : D → Mu → Prop) (Xd : XD) : List D → Mu → Prop := fun ds μ2 => sp (x :: ds) μ2 Q Xd
def KMe1 (c m : Str) (sp : DSp) (wa : WA) (ρ : DS) (Q : D → Mu → Prop) (Xd : XD) : D → Mu → Prop := fun x μ1 => hasCls c m x μ1 (wa ρ μ1 (KMe2 sp x Q Xd) Xd)
theorem r_me {c m : Str} {sp : DSp} {wo : WE} {wa : WA} {ρ : DS} {μ : Mu} {Q : D → Mu → Prop} {Xd : XD} : wMeth c m sp wo wa ρ μ Q Xd = wo ρ μ (KMe1 c m sp wa ρ Q Xd) Xd := propext Iff.rfl
theorem r_me1 {c m : Str} {sp : DSp} {wa : WA} {x : D} {ρ : DS} {μ : Mu} {Q : D → Mu → Prop} {Xd : XD} : KMe1 c m sp wa ρ Q Xd x μ = hasCls c m x μ (wa ρ μ (KMe2 sp x Q Xd) Xd) := propext Iff.rfl
theorem r_me2 {sp : DSp} {x : D} {ds : List D} {μ : Mu} {Q : D → Mu → Prop} {Xd : XD} : KMe2 sp x Q Xd ds μ = sp (x :: ds) μ Q Xd := propext Iff.rfl
def KBo2 (c : Str) (Ts : List String) (sp : DSp) (x : D) (Q : D → Mu → Prop) (Xd : XD) : D → Mu → Prop := fun y μ2 => isCls c x μ2 (othTy c Ts y μ2 (sp [x, y] μ2 Q Xd))
def KBo1 (c : Str) (Ts : List String) (sp : DSp) (wb : WE) (ρ : DS) (Q : D → Mu → Prop) (Xd : XD) : D → Mu → Prop := fun x μ1 => wb ρ μ1 (KBo2 c Ts sp x Q Xd) Xd
theorem r_bo {c : Str} {Ts : List String} {sp : DSp} {wa wb : WE} {ρ : DS} {μ : Mu} {Q : D → Mu → Prop} {Xd : XD} : wBinO c Ts sp wa wb ρ μ Q Xd = wa ρ μ (KBo1 c Ts sp wb ρ Q Xd) Xd := propext Iff.rfl
theorem r_bo1 {c : Str} {Ts : List String} {sp : DSp} {wb : WE} {x : D} {ρ : DS} {μ : Mu} {Q : D → Mu → Prop} {Xd : XD} : KBo1 c Ts sp wb ρ Q Xd x μ = wb ρ μ (KBo2 c Ts sp x Q Xd) Xd := propext Iff.rfl
theorem r_bo2 {c : Str} {Ts : List String} {sp : DSp} {x y : D} {μ : Mu} {Q : D → Mu → Prop} {Xd : XD} : KBo2 c Ts sp x Q Xd y μ = isCls c x μ (othTy c Ts y μ (sp [x, y] μ Q Xd)) := propext Iff.rfl
theorem r_onone {ρ : DS} {μ : Mu} {Q : Option Int → Mu → Prop} {Xd : XD} : oNone ρ μ Q Xd = Q none μ := propext Iff.rfl
def KOs (Q : Option Int → Mu → Prop) : D → Mu → Prop := fun d μ1 => intOr d fun i => Q (some i) μ1
theorem r_osome {wa : WE} {ρ : DS} {μ : Mu} {Q : Option Int → Mu → Prop} {Xd : XD} : oSome wa ρ μ Q Xd = wa ρ μ (KOs Q) Xd := propext Iff.rfl
theorem r_osomea {i : Int} {μ : Mu} {Q : Option Int → Mu → Prop} : KOs Q (.int i) μ = Q (some i) μ := propext Iff.rfl
def KSl3 (x : D) (l : Option Int) (Q : D → Mu → Prop) : Option Int → Mu → Prop := fun u μ3 => lstOr x fun ds => Q (.lst (DL.cutD ds l u)) μ3
def KSl2 (hi : WO) (x : D) (ρ : DS) (Q : D → Mu → Prop) (Xd : XD) : Option Int → Mu → Prop := fun l μ2 => hi ρ μ2 (KSl3 x l Q) Xd
def KSl1 (lo hi : WO) (ρ : DS) (Q : D → Mu → Prop) (Xd : XD) : D → Mu → Prop := fun x μ1 => lo ρ μ1 (KSl2 hi x ρ Q Xd) Xd
theorem r_sl {wa : WE} {lo hi : WO} {ρ : DS} {μ : Mu} {Q : D → Mu → Prop} {Xd : XD} : wSl wa lo hi ρ μ Q Xd = wa ρ μ (KSl1 lo hi ρ Q Xd) Xd := propext Iff.rfl
theorem r_sl1 {lo hi : WO} {x : D} {ρ : DS} {μ : Mu} {Q : D → Mu → Prop} {Xd : XD} : KSl1 lo hi ρ Q Xd x μ = lo ρ μ (KSl2 hi x ρ Q Xd) Xd := propext Iff.rfl
theorem r_sl2 {hi : WO} {x : D} {l : Option Int} {ρ : DS} {μ : Mu} {Q : D → Mu → Prop} {Xd : XD} : KSl2 hi x ρ Q Xd l μ = hi ρ μ (KSl3 x l Q) Xd := propext Iff.rfl
theorem r_sl3 {ds : List D} {l u : Option Int} {μ : Mu} {Q : D → Mu → Prop} : KSl3 (.lst ds) l Q u μ = Q (.lst (DL.cutD ds l u)) μ := propext Iff.rfl
theorem r_sl3f {ds : List D} {l u : Option Int} {μ : Mu} {Q : D → Mu → Prop} : KSl3 (.frl ds) l Q u μ = Q (.lst (DL.cutD ds l u)) μ := propext Iff.rfl
theorem r_ii {C : Int → Int → Prop} {g : Int → Int → Int} {i j : Int} {μ : Mu} {Q : D → Mu → Prop} : fII C g (.int i) (.int j) μ Q = (C i j ∧ Q (.int (g i j)) μ) := propext Iff.rfl
theorem r_ii0 {g : Int → Int → Int} {i j : Int} {μ : Mu} {Q : D → Mu → Prop} : fII0 g (.int i) (.int j) μ Q = Q (.int (g i j)) μ := propext Iff.rfl
theorem r_ib {g : Int → Int → Bool} {i j : Int} {μ : Mu} {Q : D → Mu → Prop} : fIB g (.int i) (.int j) μ Q = Q (.bl (g i j)) μ := propext Iff.rfl
theorem r_i1 {g : Int → Int} {i : Int} {μ : Mu} {Q : D → Mu → Prop} : fI g (.int i) μ Q = Q (.int (g i)) μ := propext Iff.rfl
theorem r_plus {i j : Int} {μ : Mu} {Q : D → Mu → Prop} : fPlus (.int i) (.int j) μ Q = Q (.int (i + j)) μ := propext Iff.rfl
theorem r_plusl {a b : List D} {μ : Mu} {Q : D → Mu → Prop} : fPlus (.lst a) (.lst b) μ Q = (a.length + b.length ≤ sizeLine ∧ Q (.lst (a ++ b)) μ) := propext Iff.rfl
theorem r_times {i j : Int} {μ : Mu} {Q : D → Mu → Prop} : fTimes (.int i) (.int j) μ Q = (CM i j ∧ Q (.int (i * j)) μ) := propext Iff.rfl
theorem r_timesl {a : List D} {n : Int} {μ : Mu} {Q : D → Mu → Prop} : fTimes (.lst a) (.int n) μ Q = (-(2 ^ 63) ≤ n ∧ n < 2 ^ 63 ∧ a.length * n.toNat ≤ sizeLine ∧ Q (.lst (List.replicate n.toNat a).flatten) μ) := propext Iff.rfl
theorem r_isn {x : D} {μ : Mu} {Q : D → Mu → Prop} : fIsN x .non μ Q = Q (.bl (DL.isNon x)) μ := propext Iff.rfl
theorem r_notn {x : D} {μ : Mu} {Q : D → Mu → Prop} : fNotN x .non μ Q = Q (.bl (!DL.isNon x)) μ := propext Iff.rfl
theorem r_eqd {x y : D} {μ : Mu} {Q : D → Mu → Prop} : fEqD x y μ Q = eqD x y fun b => Q (.bl b) μ := propext Iff.rfl
theorem r_ned {x y : D} {μ : Mu} {Q : D → Mu → Prop} : fNeD x y μ Q = eqD x y fun b => Q (.bl (!b)) μ := propext Iff.rfl
theorem r_int1 {i : Int} {μ : Mu} {Q : D → Mu → Prop} : fInt1 [.int i] μ Q = Q (.int i) μ := propext Iff.rfl
theorem r_int1b {b : Bool} {μ : Mu} {Q : D → Mu → Prop} : fInt1 [.bl b] μ Q = Q (.int (if b then 1 else 0)) μ := propext Iff.rfl
theorem r_max2 {i j : Int} {μ : Mu} {Q : D → Mu → Prop} : fMax2 [.int i, .int j] μ Q = Q (.int (if j > i then j else i)) μ := propext Iff.rfl
theorem r_min2 {i j : Int} {μ : Mu} {Q : D → Mu → Prop} : fMin2 [.int i, .int j] μ Q = Q (.int (if j < i then j else i)) μ := propext Iff.rfl
theorem r_abs {i : Int} {μ : Mu} {Q : D → Mu → Prop} : fAbs [.int i] μ Q = Q (.int (if i < 0 then -i else i)) μ := propext Iff.rfl
def KIx (o : Option (List D)) (i : Int) (μ : Mu) (Q : D → Mu → Prop) : Prop := match o with
  | some ds => (match atI ds i with
    | some d => Q d μ
    | none => False)
  | none => False
theorem r_ix {x : D} {i : Int} {μ : Mu} {Q : D → Mu → Prop} : fIx x (.int i) μ Q = KIx (itemsD x μ) i μ Q := by
  unfold fIx KIx
  cases itemsD x μ <;> exact propext Iff.rfl
def KIx2 (o : Option D) (μ : Mu) (Q : D → Mu → Prop) : Prop := match o with
  | some d => Q d μ
  | none => False
theorem r_ix2 {ds : List D} {i : Int} {μ : Mu} {Q : D → Mu → Prop} : KIx (some ds) i μ Q = KIx2 (atI ds i) μ Q := propext Iff.rfl
theorem r_ix3 {d : D} {μ : Mu} {Q : D → Mu → Prop} : KIx2 (some d) μ Q = Q d μ := propext Iff.rfl
def KLen (o : Option (List D)) (μ : Mu) (Q : D → Mu → Prop) : Prop := match o with
  | some ds => Q (.int ds.length) μ
  | none => False
theorem r_len {x : D} {μ : Mu} {Q : D → Mu → Prop} : fLen [x] μ Q = KLen (itemsD x μ) μ Q := propext Iff.rfl
theorem r_len2 {ds : List D} {μ : Mu} {Q : D → Mu → Prop} : KLen (some ds) μ Q = Q (.int ds.length) μ := propext Iff.rfl
def KIsi (o : Option Bool) (μ : Mu) (Q : D → Mu → Prop) : Prop := match o with
  | some b => Q (.bl b) μ
  | none => False
theorem r_isi {f : TyN → TyN → Option Bool} {x c : D} {μ : Mu} {Q : D → Mu → Prop} : fIsi f [x, c] μ Q = KIsi (isiD f x c μ) μ Q := propext Iff.rfl
theorem r_isi2 {b : Bool} {μ : Mu} {Q : D → Mu → Prop} : KIsi (some b) μ Q = Q (.bl b) μ := propext Iff.rfl
def KFld2 (o : Option D) (μ : Mu) (Q : D → Mu → Prop) : Prop := match o with
  | some d => Q d μ
  | none => False
def KFld (c f : Str) (o : Option (Str × List Str × List D)) (μ : Mu) (Q : D → Mu → Prop) : Prop := match o with
  | some (c', ks, ds) => c' = c ∧ KFld2 (fldOf f ks ds) μ Q
  | none => False
theorem r_fld {c f : Str} {x : D} {μ : Mu} {Q : D → Mu → Prop} : fFld c f x μ Q = KFld c f (insD x μ) μ Q := by
  unfold fFld KFld KFld2
  exact propext Iff.rfl
theorem r_fld2 {c f c' : Str} {ks : List Str} {ds : List D} {μ : Mu} {Q : D → Mu → Prop} : KFld c f (some (c', ks, ds)) μ Q = (c' = c ∧ KFld2 (fldOf f ks ds) μ Q) := propext Iff.rfl
theorem r_fld3 {d : D} {μ : Mu} {Q : D → Mu → Prop} : KFld2 (some d) μ Q = Q d μ := propext Iff.rfl
theorem r_insobj {c : Str} {ks : List Str} {ds : List D} {μ : Mu} : insD (.obj c ks ds) μ = some (c, ks, ds) := rfl
def KX (E : DEnds) (ρ : DS) : XD := fun c ks es μ => E.xc c ks es ρ μ
theorem r_kx {c : Str} {ks : List Str} {es : List D} {E : DEnds} {ρ : DS} {μ : Mu} : KX E ρ c ks es μ = E.xc c ks es ρ μ := propext Iff.rfl
theorem r_next {E : DEnds} {ρ : DS} {μ : Mu} : sNext E ρ μ = E.nx ρ μ := propext Iff.rfl
theorem r_never {E : DEnds} {ρ : DS} {μ : Mu} : sNever E ρ μ = False := propext Iff.rfl
def KSeq (b : WS) (E : DEnds) : DS → Mu → Prop := fun ρ μ => b E ρ μ
theorem r_seq {a b : WS} {E : DEnds} {ρ : DS} {μ : Mu} : sSeq a b E ρ μ = a { E with nx := KSeq b E } ρ μ := propext Iff.rfl
theorem r_seqa {b : WS} {E : DEnds} {ρ : DS} {μ : Mu} : KSeq b E ρ μ = b E ρ μ := propext Iff.rfl
def KIf (a b : WS) (E : DEnds) (ρ : DS) : Bool → Mu → Prop := fun c μ1 => if c = true then a E ρ μ1 else b E ρ μ1
theorem r_if {t : WT} {a b : WS} {E : DEnds} {ρ : DS} {μ : Mu} : sIf t a b E ρ μ = t ρ μ (KIf a b E ρ) (KX E ρ) := propext Iff.rfl
theorem r_ift {a b : WS} {E : DEnds} {ρ : DS} {μ : Mu} : KIf a b E ρ true μ = a E ρ μ := propext Iff.rfl
theorem r_iff {a b : WS} {E : DEnds} {ρ : DS} {μ : Mu} : KIf a b E ρ false μ = b E ρ μ := propext Iff.rfl
theorem r_ret {wa : WE} {E : DEnds} {ρ : DS} {μ : Mu} : sRet wa E ρ μ = wa ρ μ E.rt (KX E ρ) := propext Iff.rfl
theorem r_retn {E : DEnds} {ρ : DS} {μ : Mu} : sRetN E ρ μ = E.rt .non μ := propext Iff.rfl
theorem r_brk {E : DEnds} {ρ : DS} {μ : Mu} : sBreak E ρ μ = E.bk ρ μ := propext Iff.rfl
theorem r_cnt {E : DEnds} {ρ : DS} {μ : Mu} : sCont E ρ μ = E.ct ρ μ := propext Iff.rfl
def KDrop (E : DEnds) (ρ : DS) : D → Mu → Prop := fun _ μ1 => E.nx ρ μ1
theorem r_drop {wa : WE} {E : DEnds} {ρ : DS} {μ : Mu} : sDrop wa E ρ μ = wa ρ μ (KDrop E ρ) (KX E ρ) := propext Iff.rfl
theorem r_dropa {d : D} {E : DEnds} {ρ : DS} {μ : Mu} : KDrop E ρ d μ = E.nx ρ μ := propext Iff.rfl
def KSet (i : Nat) (E : DEnds) (ρ : DS) : D → Mu → Prop := fun d μ1 => E.nx (ρ.set i (.v d)) μ1
theorem r_set {i : Nat} {wa : WE} {E : DEnds} {ρ : DS} {μ : Mu} : sSet i wa E ρ μ = wa ρ μ (KSet i E ρ) (KX E ρ) := propext Iff.rfl
theorem r_seta {i : Nat} {d : D} {E : DEnds} {ρ : DS} {μ : Mu} : KSet i E ρ d μ = E.nx (ρ.set i (.v d)) μ := propext Iff.rfl
def KAsg (g : WG) (E : DEnds) (ρ : DS) : D → Mu → Prop := fun d μ1 => g d ρ μ1 E.nx
theorem r_asg {g : WG} {wa : WE} {E : DEnds} {ρ : DS} {μ : Mu} : sAsg wa g E ρ μ = wa ρ μ (KAsg g E ρ) (KX E ρ) := propext Iff.rfl
theorem r_asga {g : WG} {d : D} {E : DEnds} {ρ : DS} {μ : Mu} : KAsg g E ρ d μ = g d ρ μ E.nx := propext Iff.rfl
theorem r_name {i : Nat} {d : D} {ρ : DS} {μ : Mu} {Q : DS → Mu → Prop} : kName i d ρ μ Q = Q (ρ.set i (.v d)) μ := propext Iff.rfl
theorem r_namec {i : Nat} {d : D} {ρ : DS} {μ : Mu} {Q : DS → Mu → Prop} : kNameC i d ρ μ Q = (notOwn ρ i ∧ Q (ρ.set i (.v d)) μ) := propext Iff.rfl
theorem r_ktup {n : Nat} {gs : WGs} {ds : List D} {ρ : DS} {μ : Mu} {Q : DS → Mu → Prop} : kTup n gs (.tup ds) ρ μ Q = (ds.length = n ∧ gs ds ρ μ Q) := propext Iff.rfl
theorem r_kunl {n : Nat} {gs : WGs} {ds : List D} {ρ : DS} {μ : Mu} {Q : DS → Mu → Prop} : kUnl n gs (.lst ds) ρ μ Q = (ds.length = n ∧ gs ds ρ μ Q) := propext Iff.rfl
def KCs (gs : WGs) (r : List D) (Q : DS → Mu → Prop) : DS → Mu → Prop := fun ρ1 μ1 => gs r ρ1 μ1 Q
theorem r_kcons {g : WG} {gs : WGs} {d : D} {r : List D} {ρ : DS} {μ : Mu} {Q : DS → Mu → Prop} : kCons g gs (d :: r) ρ μ Q = g d ρ μ (KCs gs r Q) := propext Iff.rfl
theorem r_kcs {gs : WGs} {r : List D} {ρ : DS} {μ : Mu} {Q : DS → Mu → Prop} : KCs gs r Q ρ μ = gs r ρ μ Q := propext Iff.rfl
theorem r_knil {ρ : DS} {μ : Mu} {Q : DS → Mu → Prop} : kNil [] ρ μ Q = Q ρ μ := propext Iff.rfl
theorem r_par2 {i j : Nat} {wa : WA} {E : DEnds} {ρ : DS} {μ : Mu} : sPar2 i j wa E ρ μ = wa ρ μ (kPar2 i j E ρ) (KX E ρ) := propext Iff.rfl
theorem r_par2a {i j : Nat} {a b : D} {E : DEnds} {ρ : DS} {μ : Mu} : kPar2 i j E ρ [a, b] μ = E.nx ((ρ.set i (.v a)).set j (.v b)) μ := propext Iff.rfl
theorem r_par3 {i j l : Nat} {wa : WA} {E : DEnds} {ρ : DS} {μ : Mu} : sPar3 i j l wa E ρ μ = wa ρ μ (kPar3 i j l E ρ) (KX E ρ) := propext Iff.rfl
theorem r_par3a {i j l : Nat} {a b c : D} {E : DEnds} {ρ : DS} {μ : Mu} : kPar3 i j l E ρ [a, b, c] μ = E.nx (((ρ.set i (.v a)).set j (.v b)).set l (.v c)) μ := propext Iff.rfl
def KAug2 (i : Nat) (E : DEnds) (ρ : DS) : D → Mu → Prop := fun z μ2 => E.nx (ρ.set i (.v z)) μ2
def KAug1 (i : Nat) (f : F2) (x : D) (E : DEnds) (ρ : DS) : D → Mu → Prop := fun y μ1 => f x y μ1 (KAug2 i E ρ)
def KAug (o : Option Sl) (i : Nat) (f : F2) (wa : WE) (E : DEnds) (ρ : DS) (μ : Mu) : Prop := match o with
  | some (.v x) => wa ρ μ (KAug1 i f x E ρ) (KX E ρ)
  | _ => False
theorem r_aug {i : Nat} {f : F2} {wa : WE} {E : DEnds} {ρ : DS} {μ : Mu} : sAug i f wa E ρ μ = KAug (ρ[i]?) i f wa E ρ μ := propext Iff.rfl
theorem r_auga {x : D} {i : Nat} {f : F2} {wa : WE} {E : DEnds} {ρ : DS} {μ : Mu} : KAug (some (.v x)) i f wa E ρ μ = wa ρ μ (KAug1 i f x E ρ) (KX E ρ) := propext Iff.rfl
theorem r_augb {x y : D} {i : Nat} {f : F2} {E : DEnds} {ρ : DS} {μ : Mu} : KAug1 i f x E ρ y μ = f x y μ (KAug2 i E ρ) := propext Iff.rfl
theorem r_augc {d : D} {i : Nat} {E : DEnds} {ρ : DS} {μ : Mu} : KAug2 i E ρ d μ = E.nx (ρ.set i (.v d)) μ := propext Iff.rfl
def KFor (g : WG) (b : WS) (E : DEnds) (ρ : DS) : List D → Mu → Prop := fun ds μ1 => forL g b E ds ρ μ1
theorem r_for {wi : WI} {g : WG} {b : WS} {E : DEnds} {ρ : DS} {μ : Mu} : sFor wi g b E ρ μ = wi ρ μ (KFor g b E ρ) (KX E ρ) := propext Iff.rfl
theorem r_fora {g : WG} {b : WS} {ds : List D} {E : DEnds} {ρ : DS} {μ : Mu} : KFor g b E ρ ds μ = forL g b E ds ρ μ := propext Iff.rfl
def KNx (E : DEnds) (μ : Mu) : DS → Prop := fun ρ => E.nx ρ μ
theorem r_knx {E : DEnds} {ρ : DS} {μ : Mu} : KNx E μ ρ = E.nx ρ μ := propext Iff.rfl
def KPut (c : Str) (i : Nat) (f : Str) (d : D) (ρ : DS) (k : DS → Prop) (o : Option Sl) : Prop := match o with
  | some (.own a (.ins c' ks ds)) => c' = c ∧ ks.length < 1000 ∧ k (ρ.set i (.own a (.ins c' (DL.putK f ks) (DL.putD f d ks ds))))
  | _ => False
def KFldO (c : Str) (i : Nat) (f : Str) (E : DEnds) (ρ : DS) : D → Mu → Prop := fun d μ1 => putOwnI c i f d ρ (KNx E μ1)
theorem r_fldo {c : Str} {i : Nat} {f : Str} {wa : WE} {E : DEnds} {ρ : DS} {μ : Mu} : sFldO c i f wa E ρ μ = wa ρ μ (KFldO c i f E ρ) (KX E ρ) := propext Iff.rfl
theorem r_fldoa {c : Str} {i : Nat} {f : Str} {d : D} {E : DEnds} {ρ : DS} {μ : Mu} : KFldO c i f E ρ d μ = KPut c i f d ρ (KNx E μ) (ρ[i]?) := by
  unfold KFldO putOwnI KPut
  exact propext Iff.rfl
theorem r_put {c c' : Str} {i : Nat} {f : Str} {d : D} {a : Addr} {ks : List Str} {ds : List D} {k : DS → Prop} {ρ : DS} : KPut c i f d ρ k (some (.own a (.ins c' ks ds))) = (c' = c ∧ ks.length < 1000 ∧ k (ρ.set i (.own a (.ins c' (DL.putK f ks) (DL.putD f d ks ds))))) := propext Iff.rfl
def KFrz2 (i : Nat) (ρ : DS) (k : DS → Prop) (o : Option D) : Prop := match o with
  | some d => k (ρ.set i (.v d))
  | none => False
def KFrz (i : Nat) (ρ : DS) (k : DS → Prop) (o : Option Sl) : Prop := match o with
  | some (.own _ c) => KFrz2 i ρ k (cellD c)
  | _ => False
def KFz (w : WS) (E : DEnds) (μ : Mu) : DS → Prop := fun ρ => w E ρ μ
theorem r_frz {i : Nat} {w : WS} {E : DEnds} {ρ : DS} {μ : Mu} : sFrz i w E ρ μ = KFrz i ρ (KFz w E μ) (ρ[i]?) := by
  unfold sFrz frz KFrz KFrz2
  exact propext Iff.rfl
theorem r_frz2 {i : Nat} {a : Addr} {c : Cell} {k : DS → Prop} {ρ : DS} : KFrz i ρ k (some (.own a c)) = KFrz2 i ρ k (cellD c) := propext Iff.rfl
theorem r_frz3 {i : Nat} {d : D} {k : DS → Prop} {ρ : DS} : KFrz2 i ρ k (some d) = k (ρ.set i (.v d)) := propext Iff.rfl
theorem r_frz4 {w : WS} {E : DEnds} {ρ : DS} {μ : Mu} : KFz w E μ ρ = w E ρ μ := propext Iff.rfl
theorem r_cl {ds : List D} : cellD (.lst ds) = some (.lst ds) := rfl
def KSetO (i : Nat) (E : DEnds) (ρ : DS) : List D → Mu → Prop := fun ds μ1 => ds.length ≤ 1000 ∧ i < ρ.length ∧ ∀ p, E.nx (ρ.set i (.own p (.lst ds))) μ1
theorem r_seto {i : Nat} {wa : WA} {E : DEnds} {ρ : DS} {μ : Mu} : sSetO i wa E ρ μ = wa ρ μ (KSetO i E ρ) (KX E ρ) := propext Iff.rfl
theorem r_setoa {i : Nat} {ds : List D} {E : DEnds} {ρ : DS} {μ : Mu} : KSetO i E ρ ds μ = (ds.length ≤ 1000 ∧ i < ρ.length ∧ ∀ p, E.nx (ρ.set i (.own p (.lst ds))) μ) := propext Iff.rfl
def KWil (Q : List D → Mu → Prop) : D → Mu → Prop := fun d μ1 => lstOr d fun ds => Q ds μ1
theorem r_wil {wa : WE} {ρ : DS} {μ : Mu} {Q : List D → Mu → Prop} {Xd : XD} : wiL wa ρ μ Q Xd = wa ρ μ (KWil Q) Xd := propext Iff.rfl
theorem r_wila {ds : List D} {μ : Mu} {Q : List D → Mu → Prop} : KWil Q (.lst ds) μ = Q ds μ := propext Iff.rfl
theorem r_wilf {ds : List D} {μ : Mu} {Q : List D → Mu → Prop} : KWil Q (.frl ds) μ = Q ds μ := propext Iff.rfl
def KWit (Q : List D → Mu → Prop) : D → Mu → Prop := fun d μ1 => tupOr d fun ds => Q ds μ1
theorem r_wit {wa : WE} {ρ : DS} {μ : Mu} {Q : List D → Mu → Prop} {Xd : XD} : wiT wa ρ μ Q Xd = wa ρ μ (KWit Q) Xd := propext Iff.rfl
theorem r_wita {ds : List D} {μ : Mu} {Q : List D → Mu → Prop} : KWit Q (.tup ds) μ = Q ds μ := propext Iff.rfl
def KWi1 (Q : List D → Mu → Prop) : List D → Mu → Prop := fun ds μ1 => rg1 ds fun es => Q es μ1
theorem r_wi1 {wa : WA} {ρ : DS} {μ : Mu} {Q : List D → Mu → Prop} {Xd : XD} : wiR1 wa ρ μ Q Xd = wa ρ μ (KWi1 Q) Xd := propext Iff.rfl
theorem r_wi1a {j : Int} {μ : Mu} {Q : List D → Mu → Prop} : KWi1 Q [.int j] μ = rg1 [.int j] fun es => Q es μ := propext Iff.rfl
def KWi2 (Q : List D → Mu → Prop) : List D → Mu → Prop := fun ds μ1 => rg2 ds fun es => Q es μ1
theorem r_wi2 {wa : WA} {ρ : DS} {μ : Mu} {Q : List D → Mu → Prop} {Xd : XD} : wiR2 wa ρ μ Q Xd = wa ρ μ (KWi2 Q) Xd := propext Iff.rfl
theorem r_wi2a {i j : Int} {μ : Mu} {Q : List D → Mu → Prop} : KWi2 Q [.int i, .int j] μ = rg2 [.int i, .int j] fun es => Q es μ := propext Iff.rfl
def KWie (Q : List D → Mu → Prop) : List D → Mu → Prop := fun ds μ1 => lst1 ds fun es => Q (enumD es) μ1
theorem r_wie {wa : WA} {ρ : DS} {μ : Mu} {Q : List D → Mu → Prop} {Xd : XD} : wiEnum wa ρ μ Q Xd = wa ρ μ (KWie Q) Xd := propext Iff.rfl
theorem r_wiea {ds : List D} {μ : Mu} {Q : List D → Mu → Prop} : KWie Q [.lst ds] μ = Q (enumD ds) μ := propext Iff.rfl
def KWiz (Q : List D → Mu → Prop) : List D → Mu → Prop := fun ds μ1 => zip2 ds fun es => Q es μ1
theorem r_wiz {wa : WA} {ρ : DS} {μ : Mu} {Q : List D → Mu → Prop} {Xd : XD} : wiZip wa ρ μ Q Xd = wa ρ μ (KWiz Q) Xd := propext Iff.rfl
theorem r_wiza {a b : List D} {μ : Mu} {Q : List D → Mu → Prop} : KWiz Q [.lst a, .lst b] μ = Q (zipD a b) μ := propext Iff.rfl
theorem r_wizt {a b : List D} {μ : Mu} {Q : List D → Mu → Prop} : KWiz Q [.tup a, .tup b] μ = Q (zipD a b) μ := propext Iff.rfl
def KLc3 (g : WG) (tt : WT) (te : WE) (ρw : DS) (ds acc : List D) (Q : D → Mu → Prop) : D → Mu → Prop := fun y μ4 => acc.length < 1000000 ∧ lcL g tt te ρw ds (acc ++ [y]) μ4 Q
def KLc2 (g : WG) (tt : WT) (te : WE) (ρw : DS) (ρ2 : DS) (ds acc : List D) (Q : D → Mu → Prop) : Bool → Mu → Prop := fun b μ3 => if b = true then te ρ2 μ3 (KLc3 g tt te ρw ds acc Q) xF else lcL g tt te ρw ds acc μ3 Q
def KLc1 (g : WG) (tt : WT) (te : WE) (ρw : DS) (ds acc : List D) (Q : D → Mu → Prop) : DS → Mu → Prop := fun ρ2 μ2 => tt ρ2 μ2 (KLc2 g tt te ρw ρ2 ds acc Q) xF
def KLc0 (g : WG) (tt : WT) (te : WE) (vs : List Nat) (ρ : DS) (Q : D → Mu → Prop) : List D → Mu → Prop := fun ds μ1 => (∀ v ∈ vs, notOwn ρ v) ∧ lcL g tt te (DL.wipeD ρ vs) ds [] μ1 Q
theorem r_lc {wi : WI} {g : WG} {tt : WT} {te : WE} {vs : List Nat} {ρ : DS} {μ : Mu} {Q : D → Mu → Prop} {Xd : XD} : wLc wi g tt te vs ρ μ Q Xd = wi ρ μ (KLc0 g tt te vs ρ Q) Xd := propext Iff.rfl
theorem r_lc0 {g : WG} {tt : WT} {te : WE} {vs : List Nat} {ds : List D} {ρ : DS} {μ : Mu} {Q : D → Mu → Prop} : KLc0 g tt te vs ρ Q ds μ = ((∀ v ∈ vs, notOwn ρ v) ∧ lcL g tt te (DL.wipeD ρ vs) ds [] μ Q) := propext Iff.rfl
theorem r_lcn {g : WG} {tt : WT} {te : WE} {ρw : DS} {acc : List D} {μ : Mu} {Q : D → Mu → Prop} : lcL g tt te ρw [] acc μ Q = Q (.lst acc) μ := propext Iff.rfl
theorem r_lcc {g : WG} {tt : WT} {te : WE} {ρw : DS} {d : D} {ds acc : List D} {μ : Mu} {Q : D → Mu → Prop} : lcL g tt te ρw (d :: ds) acc μ Q = g d ρw μ (KLc1 g tt te ρw ds acc Q) := by
  rw [lcL]
  exact propext Iff.rfl
theorem r_lc1 {g : WG} {tt : WT} {te : WE} {ρw : DS} {ds acc : List D} {ρ : DS} {μ : Mu} {Q : D → Mu → Prop} : KLc1 g tt te ρw ds acc Q ρ μ = tt ρ μ (KLc2 g tt te ρw ρ ds acc Q) xF := propext Iff.rfl
theorem r_lc2t {g : WG} {tt : WT} {te : WE} {ρw : DS} {ds acc : List D} {ρ : DS} {μ : Mu} {Q : D → Mu → Prop} : KLc2 g tt te ρw ρ ds acc Q true μ = te ρ μ (KLc3 g tt te ρw ds acc Q) xF := propext Iff.rfl
theorem r_lc2f {g : WG} {tt : WT} {te : WE} {ρw : DS} {ds acc : List D} {ρ : DS} {μ : Mu} {Q : D → Mu → Prop} : KLc2 g tt te ρw ρ ds acc Q false μ = lcL g tt te ρw ds acc μ Q := propext Iff.rfl
theorem r_lc3 {g : WG} {tt : WT} {te : WE} {ρw : DS} {ds acc : List D} {y : D} {μ : Mu} {Q : D → Mu → Prop} : KLc3 g tt te ρw ds acc Q y μ = (acc.length < 1000000 ∧ lcL g tt te ρw ds (acc ++ [y]) μ Q) := propext Iff.rfl
theorem r_yes {ρ : DS} {μ : Mu} {Q : Bool → Mu → Prop} {Xd : XD} : wYes ρ μ Q Xd = Q true μ := propext Iff.rfl
def KSub3 (ρ : DS) (Q : DS → Mu → Prop) : Mu → Prop := fun μ3 => Q ρ μ3
def KSub2 (x d : D) (ρ : DS) (Q : DS → Mu → Prop) : D → Mu → Prop := fun y μ2 => stL x y d μ2 (KSub3 ρ Q)
def KSub1 (wi : WE) (d : D) (ρ : DS) (Q : DS → Mu → Prop) : D → Mu → Prop := fun x μ1 => wi ρ μ1 (KSub2 x d ρ Q) xF
theorem r_sub {wo wi : WE} {d : D} {ρ : DS} {μ : Mu} {Q : DS → Mu → Prop} : kSub wo wi d ρ μ Q = wo ρ μ (KSub1 wi d ρ Q) xF := propext Iff.rfl
theorem r_sub1 {wi : WE} {x d : D} {ρ : DS} {μ : Mu} {Q : DS → Mu → Prop} : KSub1 wi d ρ Q x μ = wi ρ μ (KSub2 x d ρ Q) xF := propext Iff.rfl
theorem r_sub2 {x y d : D} {ρ : DS} {μ : Mu} {Q : DS → Mu → Prop} : KSub2 x d ρ Q y μ = stL x y d μ (KSub3 ρ Q) := propext Iff.rfl
theorem r_sub3 {ρ : DS} {μ : Mu} {Q : DS → Mu → Prop} : KSub3 ρ Q μ = Q ρ μ := propext Iff.rfl
theorem r_dnx {Q : D → Mu → Prop} {Xd : XD} {ρ : DS} {μ : Mu} : (defE Q Xd).nx ρ μ = Q .non μ := propext Iff.rfl
theorem r_drt {Q : D → Mu → Prop} {Xd : XD} : (defE Q Xd).rt = Q := rfl
theorem r_dxc {c : Str} {ks : List Str} {es : List D} {Q : D → Mu → Prop} {Xd : XD} {ρ : DS} {μ : Mu} : (defE Q Xd).xc c ks es ρ μ = Xd c ks es μ := propext Iff.rfl
def KInit (Q : List Str → List D → Mu → Prop) (μ : Mu) : List Str → List D → Prop := fun ks ds => Q ks ds μ
theorem r_inx {c : Str} {a : Addr} {Q : List Str → List D → Mu → Prop} {Xd : XD} {ρ : DS} {μ : Mu} : (defI c a Q Xd).nx ρ μ = initEnd c a (KInit Q μ) ρ := propext Iff.rfl
theorem r_init {ks : List Str} {ds : List D} {Q : List Str → List D → Mu → Prop} {μ : Mu} : KInit Q μ ks ds = Q ks ds μ := propext Iff.rfl
theorem r_ixc {n c : Str} {a : Addr} {ks : List Str} {es : List D} {Q : List Str → List D → Mu → Prop} {Xd : XD} {ρ : DS} {μ : Mu} : (defI n a Q Xd).xc c ks es ρ μ = Xd c ks es μ := propext Iff.rfl
end DL

set_option Elab.async false
set_option linter.all false
set_option maxRecDepth 100000
set_option maxHeartbeats 4000000
set_option autoImplicit false
set_option exponentiation.threshold 3000
namespace DL
open PySem PySem.Spec PyProof.Rows L2
/-! ### frames of exceptions, properties, while -/
section
variable {E : DEnds} {ρ : DS} {μ : Mu} {Q : D → Mu → Prop} {Xd : XD} {c : Str} {ks : List Str} {ds es : List D} {i : Nat}
def KRaise (c : Str) (ks : List Str) (E : DEnds) (ρ : DS) : List D → Mu → Prop := fun ds μ1 => ds.length ≤ 1000 ∧ ds.length = ks.length ∧ E.xc c ks.reverse ds.reverse ρ μ1
theorem t_raise {wa : WA} : sRaise c ks wa E ρ μ = wa ρ μ (KRaise c ks E ρ) (KX E ρ) := propext Iff.rfl
theorem t_raise2 : KRaise c ks E ρ ds μ = (ds.length ≤ 1000 ∧ ds.length = ks.length ∧ E.xc c ks.reverse ds.reverse ρ μ) := propext Iff.rfl
theorem t_try {mt : Str → Option Bool} {wb wsu : WS} : sTry mt i wb wsu E ρ μ = wb { E with xc := caught mt i wsu E } ρ μ := propext Iff.rfl
def KCat (o : Option Bool) (i : Nat) (wsu : WS) (E : DEnds) (c : Str) (ks : List Str) (es : List D) (ρ : DS) (μ : Mu) : Prop := match o with
  | some true => wsu (suiteE i E) (ρ.set i (.exn c ks es)) μ
  | some false => E.xc c ks es ρ μ
  | none => False
theorem t_cat {mt : Str → Option Bool} {wsu : WS} : caught mt i wsu E c ks es ρ μ = KCat (mt c) i wsu E c ks es ρ μ := propext Iff.rfl
theorem t_catt {wsu : WS} : KCat (some true) i wsu E c ks es ρ μ = wsu (suiteE i E) (ρ.set i (.exn c ks es)) μ := propext Iff.rfl
theorem t_catf {wsu : WS} : KCat (some false) i wsu E c ks es ρ μ = E.xc c ks es ρ μ := propext Iff.rfl
theorem t_sunx : (suiteE i E).nx ρ μ = (noExn (ρ.set i .no) = true ∧ E.nx (ρ.set i .no) μ) := propext Iff.rfl
theorem t_surt : (suiteE i E).rt = E.rt := rfl
theorem t_nx0 : noExn [] = true := rfl
theorem t_nx1 : noExn (.no :: ρ) = noExn ρ := rfl
theorem t_nx2 {d : D} : noExn (.v d :: ρ) = noExn ρ := rfl
theorem t_nx3 {a : Addr} {c : Cell} : noExn (.own a c :: ρ) = noExn ρ := rfl
def KProp (c : Str) (sp : DSp) (Q : D → Mu → Prop) : D → Mu → Prop := fun x μ1 => isCls c x μ1 (sp [x] μ1 Q xF)
theorem t_prop {sp : DSp} {wa : WE} : wProp c sp wa ρ μ Q Xd = wa ρ μ (KProp c sp Q) Xd := propext Iff.rfl
theorem t_prop2 {sp : DSp} {x : D} : KProp c sp Q x μ = isCls c x μ (sp [x] μ Q xF) := propext Iff.rfl
def KXf (o : Option Sl) (cs : List Str) (f : Str) (μ : Mu) (Q : D → Mu → Prop) : Prop := match o with
  | some (.exn c ks ds) => c ∈ cs ∧ KFld2 (fldOf f ks ds) μ Q
  | _ => False
theorem t_xf {cs : List Str} {f : Str} : wXf cs i f ρ μ Q Xd = KXf (ρ[i]?) cs f μ Q := by
  unfold wXf KXf KExn getX KFld2
  exact propext Iff.rfl
theorem t_xf2 {cs : List Str} {f : Str} : KXf (some (.exn c ks ds)) cs f μ Q = (c ∈ cs ∧ KFld2 (fldOf f ks ds) μ Q) := propext Iff.rfl
def KIsX (o : Option Sl) (f : TyN → TyN → Option Bool) (cn : Str) (μ : Mu) (Q : D → Mu → Prop) : Prop := match o with
  | some (.exn c _ _) => KIsi (f (.c c) (.c cn)) μ Q
  | _ => False
theorem t_isx {f : TyN → TyN → Option Bool} {cn : Str} : wIsE f i cn ρ μ Q Xd = KIsX (ρ[i]?) f cn μ Q := by
  unfold wIsE KIsX KExn KIsi
  exact propext Iff.rfl
theorem t_isx2 {f : TyN → TyN → Option Bool} {cn : Str} : KIsX (some (.exn c ks ds)) f cn μ Q = KIsi (f (.c c) (.c cn)) μ Q := propext Iff.rfl
def KWh (b : WS) (K : DS → Mu → Prop) (E : DEnds) (ρ : DS) : Bool → Mu → Prop := fun k μ1 => if k = true then b { E with nx := K, ct := K, bk := E.nx } ρ μ1 else E.nx ρ μ1
theorem t_wht {b : WS} {K : DS → Mu → Prop} : KWh b K E ρ true μ = b { E with nx := K, ct := K, bk := E.nx } ρ μ := propext Iff.rfl
theorem t_whf {b : WS} {K : DS → Mu → Prop} : KWh b K E ρ false μ = E.nx ρ μ := propext Iff.rfl
/-- a while loop: a measure falls -/
theorem while_ind {t : WT} {b : WS} (I : Nat → DS → Mu → Prop) (step : ∀ n ρ μ (K : DS → Mu → Prop), I n ρ μ → (∀ m ρ' μ', m < n → I m ρ' μ' → K ρ' μ') → t ρ μ (KWh b K E ρ) (KX E ρ)) {n : Nat} (h : I n ρ μ) : sWhile t b E ρ μ := by
  have all : ∀ n ρ μ, I n ρ μ → ∀ N, n < N → whileL t b E N ρ μ := by
    intro n
    induction n using Nat.strongRecOn with
    | _ n ih =>
      intro ρ μ h N hN
      cases N with
      | zero => exact absurd hN (Nat.not_lt_zero _)
      | succ N => exact step n ρ μ (whileL t b E N) h fun m ρ' μ' hm hi => ih m hm ρ' μ' hi N (by omega)
  exact ⟨n + 1, all n ρ μ h _ (Nat.lt_succ_self n)⟩
end
theorem t_equ {x y : D} {μ : Mu} {Q : D → Mu → Prop} : fEqU x y μ Q = eqU x y fun b => Q (.bl b) μ := propext Iff.rfl
theorem t_neu {x y : D} {μ : Mu} {Q : D → Mu → Prop} : fNeU x y μ Q = eqU x y fun b => Q (.bl (!b)) μ := propext Iff.rfl
/-! ### comparisons of texts and lists -/
theorem atoms_no {x y : D} {k : Bool → Prop} {u v : V} (h1 : atomV x = some u) (h2 : atomV y = some v) (hs : scal u v = true) (hd : ∀ k', eqD x y k' → k' (decide (u = v))) : eqU x y k = k (decide (u = v)) := by
  apply propext
  constructor
  · rintro (⟨u', v', e1, e2, _, h⟩ | h)
    · rw [h1] at e1
      rw [h2] at e2
      cases e1
      cases e2
      exact h
    · exact hd k h
  · intro h
    exact .inl ⟨u, v, h1, h2, hs, h⟩
theorem eqU_int {i j : Int} {k : Bool → Prop} : eqU (.int i) (.int j) k = k (decide (i = j)) := by
  have e : decide (V.int i = V.int j) = decide (i = j) := by rw [dec_int, Bool.beq_eq_decide_eq]
  rw [atoms_no (x := .int i) (y := .int j) rfl rfl rfl fun k' h => by rw [eqD_int] at h; rw [e]; exact h, e]
theorem eqU_str {a b : Str} {k : Bool → Prop} : eqU (.str a) (.str b) k = k (decide (a = b)) := by
  have e : decide (V.str a = V.str b) = decide (a = b) := by
    rw [Bool.eq_iff_iff]
    simp
  rw [atoms_no (x := .str a) (y := .str b) rfl rfl rfl fun k' h => by
    obtain ⟨p, q, h1, h2, _, _, h⟩ := h
    rw [toP] at h1 h2
    cases h1
    cases h2
    have e' : PyData.eqv (.str a) (.str b) = decide (a = b) := by
      rw [Bool.eq_iff_iff]; simp [PyData.eqv]
    rw [e, ← e']; exact h, e]
theorem eqU_bl {a b : Bool} {k : Bool → Prop} : eqU (.bl a) (.bl b) k = k (a == b) := by
  have e : decide (V.bl a = V.bl b) = (a == b) := by cases a <;> cases b <;> decide
  rw [atoms_no (x := .bl a) (y := .bl b) rfl rfl rfl fun k' h => by
    obtain ⟨p, q, h1, h2, _, _, h⟩ := h
    rw [toP] at h1 h2
    cases h1
    cases h2
    have e' : PyData.eqv (.bool a) (.bool b) = (a == b) := by cases a <;> cases b <;> rfl
    rw [e, ← e']; exact h, e]
/-! ### a comprehension that tells of each item -/
def KEl (te : WE) (K : D → Mu → Prop) : DS → Mu → Prop := fun ρ2 μ2 => te ρ2 μ2 K xF
theorem t_el {te : WE} {K : D → Mu → Prop} {ρ : DS} {μ : Mu} : KEl te K ρ μ = te ρ μ K xF := propext Iff.rfl
end DL

set_option Elab.async false
set_option linter.all false
set_option maxRecDepth 100000
set_option maxHeartbeats 4000000
set_option autoImplicit false
set_option exponentiation.threshold 3000
namespace DL
open PySem PySem.Spec PyProof.Rows L2
/-! frames of DX8 to DX11 -/
section
variable {Q : D → Mu → Prop} {Xd : XD} {ρ : DS} {μ : Mu} {E : DEnds}
def KLof (o : Option (List D)) (μ : Mu) (Q : D → Mu → Prop) : Prop := match o with
  | some ds => Q (.lst ds) μ
  | none => False
def KTof (o : Option (List D)) (μ : Mu) (Q : D → Mu → Prop) : Prop := match o with
  | some ds => Q (.tup ds) μ
  | none => False
theorem u_lof {x : D} : fListOf [x] μ Q = KLof (itemsD x μ) μ Q := propext Iff.rfl
theorem u_lof2 {ds : List D} : KLof (some ds) μ Q = Q (.lst ds) μ := propext Iff.rfl
theorem u_tof {x : D} : fTupOf [x] μ Q = KTof (itemsD x μ) μ Q := propext Iff.rfl
theorem u_tof2 {ds : List D} : KTof (some ds) μ Q = Q (.tup ds) μ := propext Iff.rfl
theorem u_isiT {f : TyN → TyN → Option Bool} {x : D} {cs : List D} : fIsiT f [x, .tup cs] μ Q = KIsi (isiDT f x cs μ) μ Q := propext Iff.rfl
theorem u_dict {i j : Int} : wDictII i j ρ μ Q Xd = Q (.opq (.dK [(.inl i, .int j)])) μ := propext Iff.rfl
/-! own comparisons -/
def KBl (neg : Bool) (Q : D → Mu → Prop) : D → Mu → Prop := fun d μ1 => fBool d fun b => Q (.bl (neg ^^ b)) μ1
theorem u_bl {neg b : Bool} : KBl neg Q (.bl b) μ = Q (.bl (neg ^^ b)) μ := propext Iff.rfl
theorem u_own {c : Str} {Ts : List String} {Cs : List Str} {sp : DSp} {x y : D} : fOwn c Ts Cs sp x y μ Q = isCls c x μ (othC Ts Cs y μ (sp [x, y] μ Q xF)) := propext Iff.rfl
theorem u_ownN {c : Str} {Ts : List String} {Cs : List Str} {sp : DSp} {x y : D} : fOwnN c Ts Cs sp x y μ Q = isCls c x μ (othC Ts Cs y μ (sp [x, y] μ (KBl true Q) xF)) := by
  unfold fOwnN KBl
  simp only [Bool.true_xor]
theorem u_has {c : Str} {sp : DSp} {x y : D} : fHas c sp y x μ Q = isCls c x μ (sp [x, y] μ (KBl false Q) xF) := by
  unfold fHas KBl
  simp only [Bool.false_xor]
theorem u_hasN {c : Str} {sp : DSp} {x y : D} : fHasN c sp y x μ Q = isCls c x μ (sp [x, y] μ (KBl true Q) xF) := by
  unfold fHasN KBl
  simp only [Bool.true_xor]
/-! reflected, static -/
def KBk2 (c T : Str) (T' : String) (sp : DSp) (y : D) (Q : D → Mu → Prop) (Xd : XD) : D → Mu → Prop := fun x μ2 => isTy T' y μ2 (isCls c x μ2 (sp [x, y] μ2 Q Xd))
def KBk1 (c : Str) (T : String) (sp : DSp) (wb : WE) (ρ : DS) (Q : D → Mu → Prop) (Xd : XD) : D → Mu → Prop := fun y μ1 => wb ρ μ1 (KBk2 c c T sp y Q Xd) Xd
theorem u_bk {c : Str} {T : String} {sp : DSp} {wa wb : WE} : wBack c T sp wa wb ρ μ Q Xd = wa ρ μ (KBk1 c T sp wb ρ Q Xd) Xd := propext Iff.rfl
theorem u_bk1 {c : Str} {T : String} {sp : DSp} {wb : WE} {y : D} : KBk1 c T sp wb ρ Q Xd y μ = wb ρ μ (KBk2 c c T sp y Q Xd) Xd := propext Iff.rfl
theorem u_bk2 {c c' : Str} {T : String} {sp : DSp} {x y : D} : KBk2 c c' T sp y Q Xd x μ = isTy T y μ (isCls c x μ (sp [x, y] μ Q Xd)) := propext Iff.rfl
theorem u_stat {sp : DSp} : wStat sp ρ μ Q Xd = sp [] μ Q Xd := propext Iff.rfl
/-! own lists -/
def KAp (i : Nat) (p : Addr) (ds : List D) (E : DEnds) (ρ : DS) : List D → Mu → Prop := fun xs μ1 => ds.length < 1000000 ∧ ∃ d, xs = [d] ∧ E.nx (ρ.set i (.own p (.lst (ds ++ [d])))) μ1
theorem u_ap {i : Nat} {wa : WA} : sAppO i wa E ρ μ = appO i wa E ρ μ (ρ[i]?) := propext Iff.rfl
theorem u_ap1 {i : Nat} {wa : WA} {p : Addr} {ds : List D} : appO i wa E ρ μ (some (.own p (.lst ds))) = wa ρ μ (KAp i p ds E ρ) (KX E ρ) := propext Iff.rfl
theorem u_ap2 {i : Nat} {p : Addr} {ds : List D} {d : D} : KAp i p ds E ρ [d] μ = (ds.length < 1000000 ∧ E.nx (ρ.set i (.own p (.lst (ds ++ [d])))) μ) := by
  apply propext
  constructor
  · rintro ⟨h, d', e, q⟩
    cases e
    exact ⟨h, q⟩
  · rintro ⟨h, q⟩
    exact ⟨h, d, rfl, q⟩
def KEx (i : Nat) (p : Addr) (ds : List D) (E : DEnds) (ρ : DS) : List D → Mu → Prop := fun xs μ1 => ∃ zs, xs = [.lst zs] ∧ ds.length + zs.length ≤ 1000000 ∧ E.nx (ρ.set i (.own p (.lst (ds ++ zs)))) μ1
theorem u_ex {i : Nat} {wa : WA} : sExtO i wa E ρ μ = extO i wa E ρ μ (ρ[i]?) := propext Iff.rfl
theorem u_ex1 {i : Nat} {wa : WA} {p : Addr} {ds : List D} : extO i wa E ρ μ (some (.own p (.lst ds))) = wa ρ μ (KEx i p ds E ρ) (KX E ρ) := propext Iff.rfl
theorem u_ex2 {i : Nat} {p : Addr} {ds zs : List D} : KEx i p ds E ρ [.lst zs] μ = (ds.length + zs.length ≤ 1000000 ∧ E.nx (ρ.set i (.own p (.lst (ds ++ zs)))) μ) := by
  apply propext
  constructor
  · rintro ⟨zs', e, h, q⟩
    cases e
    exact ⟨h, q⟩
  · rintro ⟨h, q⟩
    exact ⟨zs, rfl, h, q⟩
theorem room2 {k : Nat} {A : Around} (r : Room k A) : A.units + 1 < cLine := by have := r.un; omega
theorem u_kd {L : List (List Int × Int)} {ds : List D} : fKd L (.tup ds) μ Q = ∃ ks, intsD ds = some ks ∧ ∃ v, kdGet L ks = some v ∧ Q (.int v) μ := propext Iff.rfl
def KWizX (Q : List D → Mu → Prop) : List D → Mu → Prop := fun ds μ1 => zipX2 ds fun es => Q es μ1
theorem u_wzx {wa : WA} {Q : List D → Mu → Prop} : wiZipX wa ρ μ Q Xd = wa ρ μ (KWizX Q) Xd := propext Iff.rfl
theorem u_wzl {a b : List D} {Q : List D → Mu → Prop} : KWizX Q [.lst a, .lst b] μ = Q (zipD a b) μ := propext Iff.rfl
theorem u_wzt {a b : List D} {Q : List D → Mu → Prop} : KWizX Q [.tup a, .tup b] μ = Q (zipD a b) μ := propext Iff.rfl
theorem u_wzm {a b : List D} {Q : List D → Mu → Prop} : KWizX Q [.tup a, .lst b] μ = Q (zipD a b) μ := propext Iff.rfl
theorem u_zd {a b : List D} {x y : D} : zipD (x :: a) (y :: b) = .tup [x, y] :: zipD a b := rfl
theorem u_zd0 {b : List D} : zipD [] b = [] := rfl
def KWeX (Q : List D → Mu → Prop) : List D → Mu → Prop := fun ds μ1 => enX ds fun es => Q es μ1
theorem u_wex {wa : WA} {Q : List D → Mu → Prop} : wiEnumX wa ρ μ Q Xd = wa ρ μ (KWeX Q) Xd := propext Iff.rfl
theorem u_wel {a : List D} {Q : List D → Mu → Prop} : KWeX Q [.lst a] μ = Q (enumD a) μ := propext Iff.rfl
theorem u_wef {a : List D} {Q : List D → Mu → Prop} : KWeX Q [.frl a] μ = Q (enumD a) μ := propext Iff.rfl
theorem u_wet {a : List D} {Q : List D → Mu → Prop} : KWeX Q [.tup a] μ = Q (enumD a) μ := propext Iff.rfl
def enN : Nat → List D → List D
  | _, [] => []
  | n, d :: ds => .tup [.int n, d] :: enN (n + 1) ds
theorem enN_eq : ∀ (ds : List D) (n : Nat), ds.mapIdx (fun i d => D.tup [.int ((n + i : Nat) : Int), d]) = enN n ds
  | [], n => rfl
  | d :: ds, n => by
    rw [List.mapIdx_cons, enN, ← enN_eq ds (n + 1)]
    congr 1
    refine List.ext_getElem? fun i => ?_
    rw [List.getElem?_mapIdx, List.getElem?_mapIdx]
    have e : n + (i + 1) = n + 1 + i := by omega
    rw [e]
theorem u_en {d : D} {ds : List D} : enumD (d :: ds) = enN 0 (d :: ds) := by
  rw [← enN_eq]
  unfold enumD
  refine List.ext_getElem? fun i => ?_
  rw [List.getElem?_mapIdx, List.getElem?_mapIdx, Nat.zero_add]
theorem u_en0 : enumD [] = [] := rfl
theorem u_enc {n : Nat} {d : D} {ds : List D} : enN n (d :: ds) = .tup [.int n, d] :: enN (n + 1) ds := rfl
theorem u_enn {n : Nat} : enN n [] = [] := rfl
theorem u_ownL {p : Addr} {ds : List D} {k : List D → Prop} : ownL (some (.own p (.lst ds))) k = k ds := propext Iff.rfl
theorem u_olen {i : Nat} : wOwnLen i ρ μ Q Xd = ownL (ρ[i]?) fun ds => Q (.int ds.length) μ := propext Iff.rfl
def KOx (ds : List D) (Q : D → Mu → Prop) : D → Mu → Prop := fun y μ1 => intOr y fun j => KIx2 (atI ds j) μ1 Q
theorem u_oix {i : Nat} {wb : WE} : wOwnIx i wb ρ μ Q Xd = ownL (ρ[i]?) fun ds => wb ρ μ (KOx ds Q) Xd := propext Iff.rfl
theorem u_oix1 {ds : List D} {j : Int} : KOx ds Q (.int j) μ = KIx2 (atI ds j) μ Q := propext Iff.rfl
def KOi (neg : Bool) (ds : List D) (Q : D → Mu → Prop) : D → Mu → Prop := fun x μ1 => ownIn neg x ds fun b => Q (.bl b) μ1
theorem u_oin {neg : Bool} {i : Nat} {wa : WE} : wOwnIn neg i wa ρ μ Q Xd = ownL (ρ[i]?) fun ds => wa ρ μ (KOi neg ds Q) Xd := propext Iff.rfl
def KHotX (sp : XSp) (o : Option Sl) (μ : Mu) (Q : D → Mu → Prop) : Prop := KExn o fun c ks es => sp c ks es μ Q
theorem u_hot {sp : XSp} {i : Nat} : wHotX sp i ρ μ Q Xd = KHotX sp (ρ[i]?) μ Q := propext Iff.rfl
theorem u_hot1 {sp : XSp} {c : Str} {ks : List Str} {es : List D} : KHotX sp (some (.exn c ks es)) μ Q = sp c ks es μ Q := propext Iff.rfl
def KMb2 (f : F2) (x : D) (Q : D → Mu → Prop) : D → Mu → Prop := fun y μ2 => f x y μ2 Q
def KMb (f : F2) (wa : WE) (ρ : DS) (Q : D → Mu → Prop) (Xd : XD) : D → Mu → Prop := fun x μ1 => isL x (wa ρ μ1 (KMb2 f x Q) Xd)
theorem u_mb {f : F2} {wo wa : WE} : wMb f wo wa ρ μ Q Xd = wo ρ μ (KMb f wa ρ Q Xd) Xd := propext Iff.rfl
theorem u_mb1 {f : F2} {wa : WE} {ds : List D} : KMb f wa ρ Q Xd (.lst ds) μ = wa ρ μ (KMb2 f (.lst ds) Q) Xd := propext Iff.rfl
theorem u_mb1f {f : F2} {wa : WE} {ds : List D} : KMb f wa ρ Q Xd (.frl ds) μ = wa ρ μ (KMb2 f (.frl ds) Q) Xd := propext Iff.rfl
theorem u_mb2 {f : F2} {x y : D} : KMb2 f x Q y μ = f x y μ Q := propext Iff.rfl
theorem u_rev {ds : List D} : fRev (.lst ds) μ Q = Q (.lst ds.reverse) μ := propext Iff.rfl
theorem u_revf {ds : List D} : fRev (.frl ds) μ Q = Q (.lst ds.reverse) μ := propext Iff.rfl
def KMu (c1 c2 m : Str) (sp1 sp2 : DSp) (wa : WA) (ρ : DS) (Q : D → Mu → Prop) (Xd : XD) : D → Mu → Prop := fun x μ1 => hasCls c1 m x μ1 (wa ρ μ1 (KMe2 sp1 x Q Xd) Xd) ∨ hasCls c2 m x μ1 (wa ρ μ1 (KMe2 sp2 x Q Xd) Xd)
theorem u_mu {c1 c2 m : Str} {sp1 sp2 : DSp} {wo : WE} {wa : WA} : wMethU c1 c2 m sp1 sp2 wo wa ρ μ Q Xd = wo ρ μ (KMu c1 c2 m sp1 sp2 wa ρ Q Xd) Xd := propext Iff.rfl
theorem u_mu1 {c1 c2 m : Str} {sp1 sp2 : DSp} {wa : WA} {x : D} : KMu c1 c2 m sp1 sp2 wa ρ Q Xd x μ = (hasCls c1 m x μ (wa ρ μ (KMe2 sp1 x Q Xd) Xd) ∨ hasCls c2 m x μ (wa ρ μ (KMe2 sp2 x Q Xd) Xd)) := propext Iff.rfl
theorem u_sumT {ds : List D} : fSumX [.tup ds] μ Q = ∃ ns, intsD ds = some ns ∧ Q (.int ns.sum) μ := propext Iff.rfl
theorem u_sumL {ds : List D} : fSumX [.lst ds] μ Q = ∃ ns, intsD ds = some ns ∧ Q (.int ns.sum) μ := propext Iff.rfl
theorem u_wio {i : Nat} {Q : List D → Mu → Prop} : wiOwn i ρ μ Q Xd = ownL (ρ[i]?) fun ds => Q ds μ := propext Iff.rfl
end
end DL

set_option Elab.async false
set_option linter.all false
set_option maxRecDepth 100000
set_option maxHeartbeats 4000000
set_option autoImplicit false
set_option exponentiation.threshold 3000
namespace DL
open PySem PySem.Spec PyProof.Rows L2
/-! ### == of plain data, by recursion -/
def P0 : D → Bool
  | .non => true
  | .bl _ => true
  | .int _ => true
  | .str s => PyData.strOk s
  | _ => false
def Pn (p : D → Bool) : D → Bool
  | .tup ds => ds.all p
  | .lst ds => ds.all p
  | .frl ds => ds.all p
  | d => P0 d
abbrev P5 : D → Bool := Pn (Pn (Pn (Pn (Pn P0))))
mutual
def deq : D → D → Bool
  | .non, .non => true
  | .bl a, .bl b => a == b
  | .bl a, .int j => decide ((if a then 1 else 0) = j)
  | .int i, .bl b => decide (i = (if b then 1 else 0))
  | .int i, .int j => decide (i = j)
  | .str a, .str b => decide (a = b)
  | .tup a, .tup b => deqs a b
  | .lst a, .lst b => deqs a b
  | .lst a, .frl b => deqs a b
  | .frl a, .lst b => deqs a b
  | .frl a, .frl b => deqs a b
  | _, _ => false
def deqs : List D → List D → Bool
  | [], [] => true
  | x :: xs, y :: ys => deq x y && deqs xs ys
  | _, _ => false
end
/-- data of depth n -/
structure Lay (n : Nat) (d : D) (p : PyData) : Prop where
  to : toP d = some p
  lay : p.canLay0 = true
  dep : p.depth ≤ n
theorem P0_lay {d : D} (h : P0 d = true) : ∃ p, Lay 0 d p := by
  cases d <;> first | (cases h; done) | skip
  · exact ⟨.none, ⟨by rw [toP], rfl, Nat.le_refl _⟩⟩
  · exact ⟨.bool _, ⟨by rw [toP], rfl, Nat.le_refl _⟩⟩
  · exact ⟨.int _, ⟨by rw [toP], rfl, Nat.le_refl _⟩⟩
  · exact ⟨.str _, ⟨by rw [toP], h, Nat.le_refl _⟩⟩
theorem lays {p : D → Bool} {n : Nat} (hp : ∀ d, p d = true → ∃ q, Lay n d q) : ∀ ds : List D, ds.all p = true → ∃ qs, toPs ds = some qs ∧ PyData.canLayAll0 qs = true ∧ PyData.depthAll qs ≤ n
  | [], _ => ⟨[], by rw [toPs], rfl, Nat.zero_le _⟩
  | d :: ds, h => by
    rw [List.all_cons, Bool.and_eq_true_iff] at h
    obtain ⟨q, h1⟩ := hp d h.1
    obtain ⟨qs, h2, h3, h4⟩ := lays hp ds h.2
    refine ⟨q :: qs, by rw [toPs, h1.to, h2], ?_, ?_⟩
    · rw [PyData.canLayAll0, h1.lay, h3]
      rfl
    · rw [PyData.depthAll]
      exact Nat.max_le.mpr ⟨h1.dep, h4⟩
theorem Pn_lay {p : D → Bool} {n : Nat} (hp : ∀ d, p d = true → ∃ q, Lay n d q) {d : D} (h : Pn p d = true) : ∃ q, Lay (n + 1) d q := by
  have low : P0 d = true → ∃ q, Lay (n + 1) d q := fun h => by
    obtain ⟨q, h1⟩ := P0_lay h
    exact ⟨q, h1.to, h1.lay, by have := h1.dep; omega⟩
  cases d with
  | tup ds =>
    obtain ⟨qs, h2, h3, h4⟩ := lays hp ds h
    exact ⟨.tuple qs, by rw [toP, h2]; rfl, h3, Nat.succ_le_succ h4⟩
  | lst ds =>
    obtain ⟨qs, h2, h3, h4⟩ := lays hp ds h
    exact ⟨.list qs, by rw [toP, h2]; rfl, h3, Nat.succ_le_succ h4⟩
  | frl ds =>
    obtain ⟨qs, h2, h3, h4⟩ := lays hp ds h
    exact ⟨.list qs, by rw [toP, h2]; rfl, h3, Nat.succ_le_succ h4⟩
  | non => exact low h
  | bl b => exact low h
  | int i => exact low h
  | str z => exact low h
  | obj c ks ds => exact low h
  | loc n => exact low h
  | ty n => exact low h
  | cls c => exact low h
  | opq o => exact low h
theorem P5_lay {d : D} (h : P5 d = true) : ∃ q, Lay 5 d q := Pn_lay (fun _ h => Pn_lay (fun _ h => Pn_lay (fun _ h => Pn_lay (fun _ h => Pn_lay (fun _ h => P0_lay h) h) h) h) h) h
mutual
theorem deq_eqv : ∀ (x y : D) (p q : PyData), toP x = some p → toP y = some q → PyData.eqv p q = deq x y := by
  intro x y p q hx hy
  cases x <;> simp only [toP, Option.map_eq_some_iff, Option.some.injEq, reduceCtorEq] at hx <;> cases y <;> simp only [toP, Option.map_eq_some_iff, Option.some.injEq, reduceCtorEq] at hy
  all_goals first
    | (subst hx hy; simp [PyData.eqv, deq]; done)
    | (subst hx hy; rw [PyData.eqv, deq, Bool.beq_eq_decide_eq]; done)
    | (obtain ⟨ps, hx, rfl⟩ := hx; obtain ⟨qs, hy, rfl⟩ := hy; rw [PyData.eqv, deq]; exact deqs_eqv _ _ _ _ hx hy)
    | (obtain ⟨ps, hx, rfl⟩ := hx; subst hy; simp [PyData.eqv, deq]; done)
    | (obtain ⟨qs, hy, rfl⟩ := hy; subst hx; simp [PyData.eqv, deq]; done)
    | (obtain ⟨ps, hx, rfl⟩ := hx; obtain ⟨qs, hy, rfl⟩ := hy; simp [PyData.eqv, deq]; done)
theorem deqs_eqv : ∀ (xs ys : List D) (ps qs : List PyData), toPs xs = some ps → toPs ys = some qs → PyData.eqvAll ps qs = deqs xs ys := by
  intro xs ys ps qs hx hy
  cases xs with
  | nil =>
    rw [toPs] at hx
    cases hx
    cases ys with
    | nil => rw [toPs] at hy; cases hy; rfl
    | cons y ys =>
      rw [toPs] at hy
      split at hy
      · cases hy; simp [PyData.eqvAll, deqs]
      · cases hy
  | cons x xs =>
    rw [toPs] at hx
    split at hx
    · rename_i p ps' h1 h2
      cases hx
      cases ys with
      | nil => rw [toPs] at hy; cases hy; simp [PyData.eqvAll, deqs]
      | cons y ys =>
        rw [toPs] at hy
        split at hy
        · rename_i q qs' h3 h4
          cases hy
          rw [PyData.eqvAll, deqs, deq_eqv x y _ _ h1 h3, deqs_eqv xs ys _ _ h2 h4]
        · cases hy
    · cases hx
end
theorem eqU_pl {x y : D} (hx : P5 x = true) (hy : P5 y = true) {k : Bool → Prop} : eqU x y k = k (deq x y) := by
  apply propext
  constructor
  · rintro (⟨u, v, h1, h2, hs, h⟩ | ⟨p, q, h1, h2, _, _, h⟩)
    · have e : decide (u = v) = deq x y := by
        cases x <;> cases h1 <;> cases y <;> cases h2 <;> first
          | (cases hs; done)
          | (simp [deq]; done)
          | (simp only [deq]; rw [Bool.eq_iff_iff]; simp)
      rw [← e]
      exact h
    · rw [← deq_eqv x y p q h1 h2]
      exact h
  · intro h
    obtain ⟨p, a1, a2, a3⟩ := P5_lay hx
    obtain ⟨q, b1, b2, b3⟩ := P5_lay hy
    refine .inr ⟨p, q, a1, b1, ?_, ?_, ?_⟩
    · unfold SeqAt.shaped
      rw [a2]
      exact decide_eq_true (by omega)
    · unfold SeqAt.shaped
      rw [b2]
      exact decide_eq_true (by omega)
    · rw [deq_eqv x y p q a1 b1]
      exact h
/-! count, index of plain data -/
theorem P5_shaped {d : D} (h : P5 d = true) : ∃ p, toP d = some p ∧ SeqAt.shaped p = true := by
  obtain ⟨p, a1, a2, a3⟩ := P5_lay h
  refine ⟨p, a1, ?_⟩
  unfold SeqAt.shaped
  rw [a2]
  exact decide_eq_true (by omega)
theorem lst_toP {ds : List D} {q : PyData} (h : toP (.lst ds) = some q) : ∃ qs, q = .list qs ∧ toPs ds = some qs := by
  rw [toP, Option.map_eq_some_iff] at h
  obtain ⟨qs, h1, h2⟩ := h
  exact ⟨qs, h2.symm, h1⟩
/-! simp lemmas -/
section
variable {p : D → Bool}
theorem p_int {i : Int} : Pn p (.int i) = true := rfl
theorem p_bl {i : Bool} : Pn p (.bl i) = true := rfl
theorem p_non : Pn p .non = true := rfl
theorem p_tup {ds : List D} : Pn p (.tup ds) = ds.all p := rfl
theorem p_lst {ds : List D} : Pn p (.lst ds) = ds.all p := rfl
theorem p_frl {ds : List D} : Pn p (.frl ds) = ds.all p := rfl
theorem p0_int {i : Int} : P0 (.int i) = true := rfl
theorem p0_bl {i : Bool} : P0 (.bl i) = true := rfl
theorem p0_non : P0 .non = true := rfl
theorem all_map {α : Type} {f : α → D} {l : List α} (h : ∀ x, p (f x) = true) : (l.map f).all p = true := by
  rw [List.all_eq_true]
  intro d hd
  obtain ⟨x, _, rfl⟩ := List.mem_map.mp hd
  exact h x
end
theorem b_go {b v : Bool} {F : Bool → Mu → Prop} {μ : Mu} (e : b = v) (h : F v μ) : F b μ := e ▸ h
end DL

set_option Elab.async false
set_option linter.all false
set_option maxRecDepth 100000
set_option maxHeartbeats 4000000
set_option autoImplicit false
set_option exponentiation.threshold 3000
namespace DL
open PySem PySem.Spec PyProof.Rows L2
/-! loops and comprehensions over lists that are told by values -/
section
variable {α : Type} {g : WG} {tt : WT} {te : WE} {ρw : DS} {b : WS} {E : DEnds} {ρ : DS} {μ : Mu} {Q : D → Mu → Prop}
theorem lc_ind {f : α → D} (h : α → Option D) : ∀ {l : List α} {acc : List D}, (∀ a ∈ l, ∀ ds acc, acc.length < 1000000 → lcL g tt te ρw ds (acc ++ (h a).toList) μ Q → g (f a) ρw μ (KLc1 g tt te ρw ds acc Q)) → acc.length + l.length ≤ 1000000 →
    Q (.lst (acc ++ l.filterMap h)) μ → lcL g tt te ρw (l.map f) acc μ Q
  | [], acc, step, hl, fin => by
    rw [List.map_nil, lcL]
    simpa using fin
  | a :: l, acc, step, hl, fin => by
    rw [List.map_cons, r_lcc]
    rw [List.length_cons] at hl
    refine step a List.mem_cons_self (l.map f) acc (by omega) (lc_ind h (fun a' ha => step a' (List.mem_cons_of_mem _ ha)) ?_ ?_)
    · rw [List.length_append]
      cases h a
      · simp; omega
      · simp; omega
    · have e : acc ++ (h a).toList ++ l.filterMap h = acc ++ (a :: l).filterMap h := by
        rw [List.filterMap_cons]
        cases h a <;> simp
      rw [e]
      exact fin
theorem lc_mp {f : α → D} (h : α → D) {l : List α} (step : ∀ a ∈ l, ∀ ds acc, acc.length < 1000000 → lcL g tt te ρw ds (acc ++ [h a]) μ Q → g (f a) ρw μ (KLc1 g tt te ρw ds acc Q)) (hl : l.length ≤ 1000000) (fin : Q (.lst (l.map h)) μ) :
    lcL g tt te ρw (l.map f) [] μ Q := lc_ind (fun a => some (h a)) step (by simpa using hl) (by simpa [List.filterMap_eq_map] using fin)
/-- elements that draw from the pool -/
theorem lc_pool {f : α → D} (P : Nat → α → Prop) {lo : Int} {n : Nat} (hn : n ≤ 1000000)
    (step : ∀ i, i < n → ∀ p q, PoolOk p q → ∀ K : D → Mu → Prop, (∀ a p' q', PoolOk p' q' → P i a → K (f a) (pl μ p' q')) → g (.int (lo + (i : Nat))) ρw (pl μ p q) (KEl te K))
    (fin : ∀ l : List α, l.length = n → (∀ i a, l[i]? = some a → P i a) → ∀ p q, PoolOk p q → Q (.lst (l.map f)) (pl μ p q)) {p q : Int} (ok : PoolOk p q) : lcL g wYes te ρw (rangeD lo n) [] (pl μ p q) Q := by
  have all : ∀ k i, i + k = n → ∀ (l : List α), l.length = i → (∀ j a, l[j]? = some a → P j a) → ∀ p q, PoolOk p q → lcL g wYes te ρw ((List.range' i k).map fun j => D.int (lo + (j : Nat))) (l.map f) (pl μ p q) Q := by
    intro k
    induction k with
    | zero =>
      intro i hi l hl hP p q ok
      rw [List.range'_zero, List.map_nil, r_lcn]
      exact fin l (by omega) hP p q ok
    | succ k ih =>
      intro i hi l hl hP p q ok
      rw [List.range'_succ, List.map_cons, r_lcc]
      have e : KLc1 g wYes te ρw ((List.range' (i + 1) k).map fun j => D.int (lo + (j : Nat))) (l.map f) Q = KEl te (KLc3 g wYes te ρw ((List.range' (i + 1) k).map fun j => D.int (lo + (j : Nat))) (l.map f) Q) := by
        funext ρ2 μ2
        rw [r_lc1, r_yes, r_lc2t, t_el]
      rw [e]
      refine step i (by omega) p q ok _ fun a p' q' ok' ha => ?_
      rw [r_lc3]
      refine ⟨by rw [List.length_map]; omega, ?_⟩
      have e2 : l.map f ++ [f a] = (l ++ [a]).map f := by simp
      rw [e2]
      refine ih (i + 1) (by omega) (l ++ [a]) (by rw [List.length_append, List.length_singleton, hl]) (fun j b hb => ?_) p' q' ok'
      by_cases hj : j < l.length
      · rw [List.getElem?_append_left hj] at hb
        exact hP j b hb
      · rw [List.getElem?_append_right (by omega)] at hb
        have hj0 : j - l.length = 0 := by
          by_cases c : j - l.length = 0
          · exact c
          · rw [List.getElem?_eq_none (by rw [List.length_singleton]; omega)] at hb
            cases hb
        rw [hj0] at hb
        cases hb
        have : j = i := by omega
        subst this
        exact ha
  have e : rangeD lo n = (List.range' 0 n).map fun j => D.int (lo + (j : Nat)) := by
    unfold rangeD
    rw [List.range_eq_range']
  rw [e]
  exact all n 0 (by omega) [] rfl (fun j a h => by simp at h) p q ok
/-- over range(lo, lo + n) -/
theorem forL_rng {lo : Int} {n : Nat} (I : Nat → DS → Mu → Prop) (step : ∀ i, i < n → ∀ ρ μ (K : DS → Mu → Prop), I i ρ μ → (∀ ρ' μ', I (i + 1) ρ' μ' → K ρ' μ') → g (.int (lo + (i : Nat))) ρ μ fun ρ1 μ1 => b { E with nx := K, ct := K, bk := E.nx } ρ1 μ1)
    (fin : ∀ ρ μ, I n ρ μ → E.nx ρ μ) (h : I 0 ρ μ) : forL g b E (rangeD lo n) ρ μ := by
  have all : ∀ k i, i + k = n → ∀ ρ μ, I i ρ μ → forL g b E ((List.range' i k).map fun j => D.int (lo + (j : Nat))) ρ μ := by
    intro k
    induction k with
    | zero =>
      intro i hi ρ μ h
      have e : i = n := by omega
      subst e
      rw [List.range'_zero, List.map_nil, forL]
      exact fin _ _ h
    | succ k ih =>
      intro i hi ρ μ h
      rw [List.range'_succ, List.map_cons, forL]
      exact step i (by omega) ρ μ _ h fun ρ' μ' h' => ih (i + 1) (by omega) ρ' μ' h'
  have e : rangeD lo n = (List.range' 0 n).map fun j => D.int (lo + (j : Nat)) := by
    unfold rangeD
    rw [List.range_eq_range']
  rw [e]
  exact all n 0 (by omega) ρ μ h
/-- over data told by values, with what has been gone through -/
theorem forL_pre {f : α → D} {l : List α} (I : List α → DS → Mu → Prop) (step : ∀ pre a post, l = pre ++ a :: post → ∀ ρ μ (K : DS → Mu → Prop), I pre ρ μ → (∀ ρ' μ', I (pre ++ [a]) ρ' μ' → K ρ' μ') → g (f a) ρ μ fun ρ1 μ1 => b { E with nx := K, ct := K, bk := E.nx } ρ1 μ1)
    (fin : ∀ ρ μ, I l ρ μ → E.nx ρ μ) (h : I [] ρ μ) : forL g b E (l.map f) ρ μ := by
  have all : ∀ post pre, l = pre ++ post → ∀ ρ μ, I pre ρ μ → forL g b E (post.map f) ρ μ := by
    intro post
    induction post with
    | nil =>
      intro pre e ρ μ h
      rw [List.append_nil] at e
      subst e
      rw [List.map_nil, forL]
      exact fin _ _ h
    | cons a post ih =>
      intro pre e ρ μ h
      rw [List.map_cons, forL]
      exact step pre a post e ρ μ _ h fun ρ' μ' h' => ih (pre ++ [a]) (by rw [e]; simp) ρ' μ' h'
  exact all l [] rfl ρ μ h
end
end DL

set_option Elab.async false
set_option linter.all false
set_option maxRecDepth 100000
set_option maxHeartbeats 4000000
set_option autoImplicit false
set_option exponentiation.threshold 3000
namespace DL
open PySem PySem.Spec PyProof.Rows L2
/-! frames of DX20 -/
section
variable {Q : D → Mu → Prop} {Xd : XD} {ρ : DS} {μ : Mu} {E : DEnds} {cs : List Str} {sp : DSp} {wa wb wo : WE} {ws : WA} {x y : D}
def KIxO2 (cs : List Str) (sp : DSp) (x : D) (Q : D → Mu → Prop) (Xd : XD) : D → Mu → Prop := fun i μ2 => isClsU cs x μ2 (sp [x, i] μ2 Q Xd)
def KIxO1 (cs : List Str) (sp : DSp) (wb : WE) (ρ : DS) (Q : D → Mu → Prop) (Xd : XD) : D → Mu → Prop := fun x μ1 => wb ρ μ1 (KIxO2 cs sp x Q Xd) Xd
theorem v_ix : wIxO cs sp wa wb ρ μ Q Xd = wa ρ μ (KIxO1 cs sp wb ρ Q Xd) Xd := propext Iff.rfl
theorem v_ix1 : KIxO1 cs sp wb ρ Q Xd x μ = wb ρ μ (KIxO2 cs sp x Q Xd) Xd := propext Iff.rfl
theorem v_ix2 : KIxO2 cs sp x Q Xd y μ = isClsU cs x μ (sp [x, y] μ Q Xd) := propext Iff.rfl
def KInv (cs : List Str) (sp : DSp) (Q : D → Mu → Prop) (Xd : XD) : D → Mu → Prop := fun x μ1 => isClsU cs x μ1 (sp [x] μ1 Q Xd)
theorem v_inv : wInv cs sp wa ρ μ Q Xd = wa ρ μ (KInv cs sp Q Xd) Xd := propext Iff.rfl
theorem v_inv1 : KInv cs sp Q Xd x μ = isClsU cs x μ (sp [x] μ Q Xd) := propext Iff.rfl
def KCo2 (cs : List Str) (sp : DSp) (x : D) (Q : D → Mu → Prop) (Xd : XD) : List D → Mu → Prop := fun ds μ2 => isClsU cs x μ2 (sp (x :: ds) μ2 Q Xd)
def KCo1 (cs : List Str) (sp : DSp) (ws : WA) (ρ : DS) (Q : D → Mu → Prop) (Xd : XD) : D → Mu → Prop := fun x μ1 => isClsU cs x μ1 (ws ρ μ1 (KCo2 cs sp x Q Xd) Xd)
theorem v_co : wCallO cs sp wo ws ρ μ Q Xd = wo ρ μ (KCo1 cs sp ws ρ Q Xd) Xd := propext Iff.rfl
theorem v_co1 : KCo1 cs sp ws ρ Q Xd x μ = isClsU cs x μ (ws ρ μ (KCo2 cs sp x Q Xd) Xd) := propext Iff.rfl
theorem v_co2 {ds : List D} : KCo2 cs sp x Q Xd ds μ = isClsU cs x μ (sp (x :: ds) μ Q Xd) := propext Iff.rfl
def KLnO (Q : D → Mu → Prop) : D → Mu → Prop := fun d μ1 => match d with
    | .int n => 0 ≤ n ∧ n < 2 ^ 62 ∧ Q (.int n) μ1
    | _ => False
theorem v_len : fLenO cs sp [x] μ Q = isClsU cs x μ (sp [x] μ (KLnO Q) xF) := propext Iff.rfl
theorem v_len1 {n : Int} : KLnO Q (.int n) μ = (0 ≤ n ∧ n < 2 ^ 62 ∧ Q (.int n) μ) := propext Iff.rfl
def KSlo (i : Nat) (E : DEnds) (ρ : DS) : D → Mu → Prop := fun d μ1 => ∃ acc, d = .lst acc ∧ i < ρ.length ∧ ∀ p, E.nx (ρ.set i (.own p (.lst acc))) μ1
theorem v_slo {i : Nat} {w : WE} : sSetLcO i w E ρ μ = w ρ μ (KSlo i E ρ) (KX E ρ) := propext Iff.rfl
theorem v_slo1 {i : Nat} {acc : List D} : KSlo i E ρ (.lst acc) μ = (i < ρ.length ∧ ∀ p, E.nx (ρ.set i (.own p (.lst acc))) μ) := by
  apply propext
  constructor
  · rintro ⟨acc', e, h⟩
    cases e
    exact h
  · intro h
    exact ⟨acc, rfl, h⟩
theorem v_f2or {f g : F2} : F2.or f g x y μ Q = (f x y μ Q ∨ g x y μ Q) := propext Iff.rfl
end
theorem w_ff : (false == false) = true := rfl
theorem w_ft : (false == true) = false := rfl
theorem w_tf : (true == false) = false := rfl
theorem w_tt : (true == true) = true := rfl
/-! in, by data -/
theorem toPs_any {y : D} {p : PyData} (hy : toP y = some p) : ∀ {ds : List D} {qs : List PyData}, toPs ds = some qs → (qs.any fun z => PyData.eqv z p) = ds.any fun d => deq d y
  | [], qs, h => by
    rw [toPs] at h
    cases h
    rfl
  | d :: ds, qs, h => by
    rw [toPs] at h
    cases e1 : toP d with
    | none => rw [e1] at h; cases h
    | some q =>
      cases e2 : toPs ds with
      | none => rw [e1, e2] at h; cases h
      | some r =>
        rw [e1, e2] at h
        cases h
        rw [List.any_cons, List.any_cons, toPs_any hy e2, deq_eqv d y q p e1 hy]
theorem ind_pl {x : D} {ds : List D} {μ : Mu} {Q : D → Mu → Prop} (hx : P5 x = true) (hy : P5 (.lst ds) = true) (h : Q (.bl (ds.any fun d => deq d x)) μ) : fInD x (.lst ds) μ Q := by
  obtain ⟨p, e1, s1⟩ := P5_shaped hx
  obtain ⟨q, e2, s2⟩ := P5_shaped hy
  obtain ⟨qs, rfl, e3⟩ := lst_toP e2
  exact ⟨p, qs, e1, e2, s1, s2, by rw [toPs_any e1 e3]; exact h⟩
end DL

set_option Elab.async false
set_option linter.all false
set_option maxRecDepth 100000
set_option maxHeartbeats 2000000
/-! Frames: stores into own lists. -/
namespace DL
open PySem PySem.Spec PyProof.Rows L2
section
variable {i : Nat} {wi : WE} {d : D} {ρ : DS} {μ : Mu} {Q : DS → Mu → Prop} {p : Addr} {ds : List D} {j : Int}
def KSubO (i : Nat) (p : Addr) (ds : List D) (d : D) (ρ : DS) (Q : DS → Mu → Prop) : D → Mu → Prop := fun y μ2 => stO i p ds y d ρ fun ρ' => Q ρ' μ2
theorem x_subO : kSubO i wi d ρ μ Q = subO i wi d ρ μ Q (ρ[i]?) := propext Iff.rfl
theorem x_subO1 : subO i wi d ρ μ Q (some (.own p (.lst ds))) = wi ρ μ (KSubO i p ds d ρ Q) xF := propext Iff.rfl
theorem x_subO2 : KSubO i p ds d ρ Q (.int j) μ = (match ixN ds.length j with
    | some z => Q (ρ.set i (.own p (.lst (ds.set z d)))) μ
    | none => False) := propext Iff.rfl
end
end DL

set_option Elab.async false
set_option linter.all false
set_option maxRecDepth 100000
set_option maxHeartbeats 2000000
/-! Frames: remove, pop, comprehensions kept as cells. -/
namespace DL
open PySem PySem.Spec PyProof.Rows L2
section
variable {i n : Nat} {wa wo : WE} {ws : WA} {wi : WI} {k : WG} {tt : WT} {te : WE} {vs : List Nat} {d x : D} {ρ : DS} {μ : Mu} {E : DEnds} {Q : D → Mu → Prop} {Xd : XD} {p : Addr} {ds acc : List D} {j : Int}
def KPop2 (x : D) (Q : D → Mu → Prop) : D → Mu → Prop := fun y μ2 => popL x y μ2 Q
def KPop1 (wa : WE) (ρ : DS) (Q : D → Mu → Prop) (Xd : XD) : D → Mu → Prop := fun x μ1 => isC x μ1 (wa ρ μ1 (KPop2 x Q) Xd)
theorem y_pop : wPopL wo wa ρ μ Q Xd = wo ρ μ (KPop1 wa ρ Q Xd) Xd := propext Iff.rfl
theorem y_pop1 : KPop1 wa ρ Q Xd x μ = isC x μ (wa ρ μ (KPop2 x Q) Xd) := propext Iff.rfl
theorem y_pop2 : KPop2 x Q d μ = popL x d μ Q := propext Iff.rfl
theorem y_lcC : wLcC wi k tt te vs ρ μ Q Xd = wLc wi k tt te vs ρ μ (cellQ Q) Xd := propext Iff.rfl
theorem y_cell : cellQ Q (.lst acc) μ = Q (.loc μ.length) (μ ++ [.lst acc]) := propext Iff.rfl
def KRem (i : Nat) (p : Addr) (ds : List D) (E : DEnds) (ρ : DS) : List D → Mu → Prop := fun xs μ1 => ∃ d, xs = [d] ∧ remD ds d fun ds' => E.nx (ρ.set i (.own p (.lst ds'))) μ1
theorem y_rem : sRemO i ws E ρ μ = remO i ws E ρ μ (ρ[i]?) := propext Iff.rfl
theorem y_rem1 : remO i ws E ρ μ (some (.own p (.lst ds))) = ws ρ μ (KRem i p ds E ρ) (KX E ρ) := propext Iff.rfl
theorem y_rem2 : KRem i p ds E ρ [d] μ = remD ds d fun ds' => E.nx (ρ.set i (.own p (.lst ds'))) μ := by
  apply propext
  constructor
  · rintro ⟨d', e, h⟩
    cases e
    exact h
  · exact fun h => ⟨d, rfl, h⟩
end
end DL

set_option Elab.async false
set_option linter.all false
set_option maxRecDepth 100000
set_option maxHeartbeats 2000000
/-! Frames: changeable instances, setters, own sums of lists, == of tuples. -/
namespace DL
open PySem PySem.Spec PyProof.Rows L2
section
variable {i n : Nat} {c f : Str} {sp : DSp} {wa wb wo : WE} {d x y : D} {ρ : DS} {μ : Mu} {E : DEnds} {Q : D → Mu → Prop} {ds es : List D}
def KFl2 (c f : Str) (d : D) (E : DEnds) (ρ : DS) : D → Mu → Prop := fun x μ2 => putL c f x d μ2 (E.nx ρ)
def KFl1 (c f : Str) (wo : WE) (E : DEnds) (ρ : DS) : D → Mu → Prop := fun d μ1 => wo ρ μ1 (KFl2 c f d E ρ) (KX E ρ)
theorem z_fl : sFldL c f wo wa E ρ μ = wa ρ μ (KFl1 c f wo E ρ) (KX E ρ) := propext Iff.rfl
theorem z_fl1 : KFl1 c f wo E ρ d μ = wo ρ μ (KFl2 c f d E ρ) (KX E ρ) := propext Iff.rfl
theorem z_fl2 : KFl2 c f d E ρ x μ = putL c f x d μ (E.nx ρ) := propext Iff.rfl
def KPs3 (E : DEnds) (ρ : DS) : D → Mu → Prop := fun _ μ3 => E.nx ρ μ3
def KPs2 (c : Str) (sp : DSp) (d : D) (E : DEnds) (ρ : DS) : D → Mu → Prop := fun x μ2 => isCls c x μ2 (sp [x, d] μ2 (KPs3 E ρ) (KX E ρ))
def KPs1 (c : Str) (sp : DSp) (wo : WE) (E : DEnds) (ρ : DS) : D → Mu → Prop := fun d μ1 => wo ρ μ1 (KPs2 c sp d E ρ) (KX E ρ)
theorem z_ps : sPropS c sp wo wa E ρ μ = wa ρ μ (KPs1 c sp wo E ρ) (KX E ρ) := propext Iff.rfl
theorem z_ps1 : KPs1 c sp wo E ρ d μ = wo ρ μ (KPs2 c sp d E ρ) (KX E ρ) := propext Iff.rfl
theorem z_ps2 : KPs2 c sp d E ρ x μ = isCls c x μ (sp [x, d] μ (KPs3 E ρ) (KX E ρ)) := propext Iff.rfl
theorem z_ps3 : KPs3 E ρ d μ = E.nx ρ μ := propext Iff.rfl
theorem z_eqT : fEqT c sp (.tup ds) (.tup es) μ Q = (prsO c sp μ ds es ∧ Q (.bl true) μ) := propext Iff.rfl
def KCat2 (i : Nat) (x : D) (E : DEnds) (ρ : DS) : D → Mu → Prop := fun y μ2 => catO x y fun ds => i < ρ.length ∧ ∀ p, E.nx (ρ.set i (.own p (.lst ds))) μ2
def KCat1 (i : Nat) (wb : WE) (E : DEnds) (ρ : DS) : D → Mu → Prop := fun x μ1 => wb ρ μ1 (KCat2 i x E ρ) (KX E ρ)
theorem z_cat : sSetCat i wa wb E ρ μ = wa ρ μ (KCat1 i wb E ρ) (KX E ρ) := propext Iff.rfl
theorem z_cat1 : KCat1 i wb E ρ x μ = wb ρ μ (KCat2 i x E ρ) (KX E ρ) := propext Iff.rfl
theorem z_cat2 {a b : List D} : KCat2 i (.lst a) E ρ (.lst b) μ = (a.length + b.length ≤ 1000 ∧ i < ρ.length ∧ ∀ p, E.nx (ρ.set i (.own p (.lst (a ++ b)))) μ) := propext Iff.rfl
end
end DL

set_option Elab.async false
set_option linter.all false
set_option maxRecDepth 100000
set_option maxHeartbeats 2000000
set_option autoImplicit false
/-! Frames: loops over cells, list(x) as a cell, append, o[i] = v. -/
namespace DL
open PySem PySem.Spec PyProof.Rows L2
section
variable {i n : Nat} {c f : Str} {cs : List Str} {sp : DSp} {wa wb wo wi : WE} {ws : WA} {wc : WIC} {g : WG} {b : WS} {tt : WT} {te : WE} {vs : List Nat} {d x y : D} {ρ ρw : DS} {μ : Mu} {E : DEnds} {Q : D → Mu → Prop} {Qc : List D → (Mu → Prop) → Mu → Prop} {Xd : XD} {ds es acc : List D} {C : Mu → Prop}
def KWic (Q : List D → (Mu → Prop) → Mu → Prop) : D → Mu → Prop := fun d μ1 => celOr d μ1 fun ds C => Q ds C μ1
theorem c_wi : wiCel wa ρ μ Qc Xd = wa ρ μ (KWic Qc) Xd := propext Iff.rfl
def KEnC (Q : List D → (Mu → Prop) → Mu → Prop) : List D → Mu → Prop := fun ds μ1 => cel1 ds μ1 fun es C => Q es C μ1
theorem c_en : wiEnC ws ρ μ Qc Xd = ws ρ μ (KEnC Qc) Xd := propext Iff.rfl
theorem c_en1 : KEnC Qc [d] μ = KWic (fun es C μ => Qc (enumD es) C μ) d μ := propext Iff.rfl
def KForC (g : WG) (b : WS) (E : DEnds) (ρ : DS) : List D → (Mu → Prop) → Mu → Prop := fun ds C μ1 => forLC g b E C ds ρ μ1
theorem c_for : sForC wc g b E ρ μ = wc ρ μ (KForC g b E ρ) (KX E ρ) := propext Iff.rfl
theorem c_for1 : KForC g b E ρ ds C μ = forLC g b E C ds ρ μ := propext Iff.rfl
def KLcU (g : WG) (tt : WT) (te : WE) (vs : List Nat) (ρ : DS) (Q : D → Mu → Prop) : List D → (Mu → Prop) → Mu → Prop := fun ds C μ1 => (∀ v ∈ vs, notOwn ρ v) ∧ lcLC g tt te (wipeD ρ vs) C ds [] μ1 Q
theorem c_lc : wLcU wc g tt te vs ρ μ Q Xd = wc ρ μ (KLcU g tt te vs ρ Q) Xd := propext Iff.rfl
theorem c_lc1 : KLcU g tt te vs ρ Q ds C μ = ((∀ v ∈ vs, notOwn ρ v) ∧ lcLC g tt te (wipeD ρ vs) C ds [] μ Q) := propext Iff.rfl
def KLofC (o : Option (List D)) (μ : Mu) (Q : D → Mu → Prop) : Prop := match o with
  | some ds => Q (.loc μ.length) (μ ++ [.lst ds])
  | none => False
theorem c_lof : fListOfC [x] μ Q = KLofC (itemsD x μ) μ Q := propext Iff.rfl
theorem c_lof1 : KLofC (some ds) μ Q = Q (.loc μ.length) (μ ++ [.lst ds]) := propext Iff.rfl
def KAL2 (x : D) (Q : D → Mu → Prop) : D → Mu → Prop := fun y μ2 => appL x y μ2 Q
def KAL1 (wa : WE) (ρ : DS) (Q : D → Mu → Prop) (Xd : XD) : D → Mu → Prop := fun x μ1 => isC x μ1 (wa ρ μ1 (KAL2 x Q) Xd)
theorem c_ap : wAppL wo wa ρ μ Q Xd = wo ρ μ (KAL1 wa ρ Q Xd) Xd := propext Iff.rfl
theorem c_ap1 : KAL1 wa ρ Q Xd x μ = isC x μ (wa ρ μ (KAL2 x Q) Xd) := propext Iff.rfl
theorem c_ap2 : KAL2 x Q y μ = appL x y μ Q := propext Iff.rfl
def KSi3 (cs : List Str) (sp : DSp) (d x : D) (E : DEnds) (ρ : DS) : D → Mu → Prop := fun y μ3 => isClsU cs x μ3 (sp [x, y, d] μ3 (KPs3 E ρ) (KX E ρ))
def KSi2 (cs : List Str) (sp : DSp) (wi : WE) (d : D) (E : DEnds) (ρ : DS) : D → Mu → Prop := fun x μ2 => wi ρ μ2 (KSi3 cs sp d x E ρ) (KX E ρ)
def KSi1 (cs : List Str) (sp : DSp) (wo wi : WE) (E : DEnds) (ρ : DS) : D → Mu → Prop := fun d μ1 => wo ρ μ1 (KSi2 cs sp wi d E ρ) (KX E ρ)
theorem c_si : sSetIx cs sp wo wi wa E ρ μ = wa ρ μ (KSi1 cs sp wo wi E ρ) (KX E ρ) := propext Iff.rfl
theorem c_si1 : KSi1 cs sp wo wi E ρ d μ = wo ρ μ (KSi2 cs sp wi d E ρ) (KX E ρ) := propext Iff.rfl
theorem c_si2 : KSi2 cs sp wi d E ρ x μ = wi ρ μ (KSi3 cs sp d x E ρ) (KX E ρ) := propext Iff.rfl
theorem c_si3 : KSi3 cs sp d x E ρ y μ = isClsU cs x μ (sp [x, y, d] μ (KPs3 E ρ) (KX E ρ)) := propext Iff.rfl
/-- a comprehension that leaves the cells as they are -/
def KLu3 (g : WG) (tt : WT) (te : WE) (ρw : DS) (C : Mu → Prop) (ds acc : List D) (Q : D → Mu → Prop) : D → Mu → Prop := fun y μ4 => acc.length < 1000000 ∧ lcLC g tt te ρw C ds (acc ++ [y]) μ4 Q
def KLu2 (g : WG) (tt : WT) (te : WE) (ρw : DS) (C : Mu → Prop) (ds acc : List D) (Q : D → Mu → Prop) (ρ2 : DS) : Bool → Mu → Prop := fun b μ3 => if b = true then te ρ2 μ3 (KLu3 g tt te ρw C ds acc Q) xF else lcLC g tt te ρw C ds acc μ3 Q
def KLu1 (g : WG) (tt : WT) (te : WE) (ρw : DS) (C : Mu → Prop) (ds acc : List D) (Q : D → Mu → Prop) : DS → Mu → Prop := fun ρ2 μ2 => tt ρ2 μ2 (KLu2 g tt te ρw C ds acc Q ρ2) xF
theorem c_lu1 : KLu1 g tt te ρw C ds acc Q ρ μ = tt ρ μ (KLu2 g tt te ρw C ds acc Q ρ) xF := propext Iff.rfl
theorem c_lu2 : KLu2 g tt te ρw C ds acc Q ρ true μ = te ρ μ (KLu3 g tt te ρw C ds acc Q) xF := propext (by unfold KLu2; rw [if_pos rfl])
theorem c_lu3 : KLu3 g tt te ρw C ds acc Q d μ = (acc.length < 1000000 ∧ lcLC g tt te ρw C ds (acc ++ [d]) μ Q) := propext Iff.rfl
end
end DL

set_option Elab.async false
set_option linter.all false
set_option maxRecDepth 100000
set_option maxHeartbeats 2000000
set_option autoImplicit false
/-! Frames: == of lists with own items, shown or cells. -/
namespace DL
open PySem PySem.Spec PyProof.Rows L2
end DL

set_option Elab.async false
set_option linter.all false
set_option maxRecDepth 100000
set_option maxHeartbeats 2000000
set_option autoImplicit false
/-! Frames: a list against the empty list, a, b = e, []. -/
namespace DL
open PySem PySem.Spec PyProof.Rows L2
def KP2O (i j : Nat) (E : DEnds) (ρ : DS) : D → Mu → Prop := fun d μ1 => j < ρ.length ∧ ∀ p, E.nx ((ρ.set j (.own p (.lst []))).set i (.v d)) μ1
theorem y_p2 {i j : Nat} {wa : WE} {E : DEnds} {ρ : DS} {μ : Mu} : sPar2O i j wa E ρ μ = wa ρ μ (KP2O i j E ρ) (KX E ρ) := propext Iff.rfl
theorem y_p21 {i j : Nat} {d : D} {E : DEnds} {ρ : DS} {μ : Mu} : KP2O i j E ρ d μ = (j < ρ.length ∧ ∀ p, E.nx ((ρ.set j (.own p (.lst []))).set i (.v d)) μ) := propext Iff.rfl
end DL

set_option Elab.async false
set_option linter.all false
set_option maxRecDepth 100000
set_option maxHeartbeats 4000000
set_option autoImplicit false
/-! A sleeping generator stays as it is while other code runs: what a run reads of it is but where it stands. -/
namespace DL
open PySem

def badK : Resume → Sem Fin := fun _ => .unsupported "asleep"
/-- the same generator as others see it, which none can wake -/
def mute : GenState → GenState
  | .suspended _ l c p fs cl => .suspended badK l c p fs cl
  | x => x
def asleep : GenState → Bool
  | .suspended .. => true
  | _ => false
def NG : GenState → Prop
  | .suspended _ _ _ _ fs _ => splitAtGen fs = none
  | _ => True
theorem mute_seen (x : GenState) : (mute x).seen = x.seen := by cases x <;> rfl
theorem mute_bare (x : GenState) : (mute x).bare = x.bare := by cases x <;> rfl
/-- which of them are held asleep -/
abbrev Sleepers := Nat → Option GenState
/-- g: the generators as they are; g2: those held asleep muted -/
structure Rl (B : Sleepers) (g2 g : Array GenState) : Prop where
  size : g2.size = g.size
  free : ∀ i, B i = none → g[i]? = g2[i]? ∧ ∀ x, g[i]? = some x → NG x
  held : ∀ i x, B i = some x → g[i]? = some x ∧ g2[i]? = some (mute x) ∧ asleep x = true
theorem Rl.seen {B : Sleepers} {g2 g : Array GenState} (r : Rl B g2 g) {i : Nat} {y : GenState} (q : g2[i]? = some y) : ∃ x, g[i]? = some x ∧ x.seen = y.seen := by
  cases hB : B i with
  | none => exact ⟨y, (r.free i hB).1.trans q, rfl⟩
  | some x =>
    obtain ⟨h1, h2, _⟩ := r.held i x hB
    rw [q] at h2
    obtain rfl := Option.some.inj h2
    exact ⟨x, h1, (mute_seen x).symm⟩
theorem Rl.set {B : Sleepers} {g2 g : Array GenState} (r : Rl B g2 g) {i : Nat} {x : GenState} (hi : B i = none) (hx : NG x) : Rl B (g2.setIfInBounds i x) (g.setIfInBounds i x) where
  size := by simp [r.size]
  free := fun j hj => by
    obtain ⟨e, n⟩ := r.free j hj
    by_cases h : i = j
    · subst h
      simp only [Array.getElem?_setIfInBounds_self, r.size]
      refine ⟨trivial, fun y hy => ?_⟩
      split at hy
      · cases hy; exact hx
      · cases hy
    · rw [Array.getElem?_setIfInBounds_ne h, Array.getElem?_setIfInBounds_ne h]
      exact ⟨e, n⟩
  held := fun j y hj => by
    have h : i ≠ j := fun z => by rw [z, hj] at hi; cases hi
    rw [Array.getElem?_setIfInBounds_ne h, Array.getElem?_setIfInBounds_ne h]
    exact r.held j y hj
theorem Rl.push {B : Sleepers} {g2 g : Array GenState} (r : Rl B g2 g) {c : Code} : Rl B (g2.push (.fresh c)) (g.push (.fresh c)) where
  size := by simp [r.size]
  free := fun j hj => by
    obtain ⟨e, n⟩ := r.free j hj
    simp only [Array.getElem?_push, r.size]
    split
    · exact ⟨rfl, fun x hx => by cases hx; trivial⟩
    · exact ⟨e, n⟩
  held := fun j y hj => by
    obtain ⟨h1, h2, h3⟩ := r.held j y hj
    have l1 : j < g.size := (Array.getElem?_eq_some_iff.mp h1).1
    have l2 : j < g2.size := by rw [r.size]; exact l1
    simp only [Array.getElem?_push]
    rw [if_neg (Nat.ne_of_lt l1), if_neg (Nat.ne_of_lt l2)]
    exact ⟨h1, h2, h3⟩
/-- an end that keeps no generator's frame -/
def NGE : End → Prop
  | .susp _ _ _ _ _ _ fs => splitAtGen fs = none
  | _ => True
theorem NGE.gen {e : End} (h : NGE e) : NG e.genState := by
  cases e with
  | ret _ => trivial
  | susp v g l k c p fs => exact h
abbrev withG (s : Shared) (g : Array GenState) : Shared := { s with gens := g }
end DL

set_option Elab.async false
set_option linter.all false
set_option maxRecDepth 100000
set_option maxHeartbeats 4000000
set_option autoImplicit false
namespace DL
open PySem PySem.Spec PyProof.Rows
open Sem (wp)

theorem Rl.bare {B : Sleepers} {g2 g : Array GenState} (r : Rl B g2 g) (h : AllBare g2) : AllBare g := fun y hy => by
  obtain ⟨i, hi, e⟩ := Array.mem_iff_getElem.mp hy
  have q : g[i]? = some y := by rw [Array.getElem?_eq_getElem hi, e]
  cases hB : B i with
  | none =>
    have q2 := (r.free i hB).1.symm.trans q
    exact h y (Array.mem_of_getElem? q2)
  | some x =>
    obtain ⟨h1, h2, _⟩ := r.held i x hB
    rw [q] at h1
    cases h1
    have z := h _ (Array.mem_of_getElem? h2)
    rw [mute_bare] at z
    exact z
section
open L2
variable {X : Cx} {pins : List (Addr × Obj)} {σ : List (Option V)} {H : Hp} {s : Shared}
theorem Inv.gens {g : Array GenState} (I : Inv X pins σ H s) (hg : AllBare g) : Inv X pins σ H (withG s g) :=
  ⟨I.ok, I.os, hg, I.base, I.loc, I.cell, I.free, I.freeC, I.pin, I.hok, I.len⟩
end
end DL

set_option Elab.async false
set_option linter.all false
set_option maxRecDepth 100000
set_option maxHeartbeats 4000000
set_option autoImplicit false
namespace DL
open PySem PySem.Spec PyProof.Rows L2

/-! ### a heap's first L things -/
def cutH (h : Heap) (L : Addr) : Heap := ⟨h.objs.extract 0 L, h.life⟩
/-! ### a generator's frame -/
structure GE where
  prog : Program
  w : World
  K : PySem.W.Frag
  mg : Str → Option Value
  base : Heap
  /-- around the one who wakes it -/
  A : Around
  N : List Str
  env : Env
  outer : List Env
abbrev GE.L (g : GE) : Addr := g.env.locals
abbrev GE.gx (g : GE) : Gx := ⟨g.K, g.mg, none⟩
/-- its context from one waking to the next sleep -/
abbrev GE.cx (g : GE) (s0 : Shared) (H0 : Hp) (pn : List (Addr × Obj)) : Cx where
  prog := g.prog
  w := g.w
  K := g.K
  mg := g.mg
  base := g.base
  A := g.A.deeper g.env
  N := g.N
  s_0 := s0
  H_0 := H0
  env := g.env
  outer := g.outer
  stack := g.env :: g.outer
  ex := []
  fn := fun _ => true
  calm := true
  pn := pn
  xe := fun _ _ => False
structure GE.Ok (g : GE) : Prop where
  mod : Mod g.K g.mg g.base
  kind : g.env.scope.kind = .function
  glob : g.env.globals = mainGlobals
  blt : g.env.builtins = builtinsNs
  cells : ∀ x, g.env.cells.lookup x = none
  has : ∀ x, ¬ (g.env.kindOf x = some .cell ∨ g.env.kindOf x = some .free)
  hd : g.A.handled = none
  frames : g.A.frames = some g.outer
  frame : g.env.frame = some g.env.locals
  bsz : g.base.objs.size ≤ g.L
  old : ∀ b ∈ frs g.outer, b < g.L
/-- who wakes it -/
structure Cons (g : GE) (a : Addr) (go : Obj) (X : Cx) (pins : List (Addr × Obj)) (σ : L2.St) (H : Hp) (Z : Addr → Prop) (m : List Addr) (μ : Mu) (s : Shared) (lo : Obj) : Prop where
  inv : Inv X pins σ H s
  prog : X.prog = g.prog
  w : X.w = g.w
  K : X.K = g.K
  mg : X.mg = g.mg
  base : X.base = g.base
  stack : X.stack = g.outer
  elo : s.heap.get? g.L = some lo
  ego : s.heap.get? a = some go
  goc : ∀ v, go.data ≠ .cell v
  fL : FpOk X pins H g.L
  fa : FpOk X pins H a
  ne : a ≠ g.L
  mu : MuOk g.gx Z m μ H
  sz : X.s_0.heap.objs.size ≤ g.L
  cl : ∀ x c, X.env.cells.lookup x = some c → c < g.L
def cutA (H : Hp) (L : Addr) : Hp := fun b => if b < L then H b else none
/-- the waker's own block, if it is younger -/
def blkPin (g : GE) (X : Cx) (h : Heap) : List (Addr × Obj) := if X.env.locals < g.L then [] else pinsAt [X.env.locals] h
def wakePins (g : GE) (a : Addr) (go : Obj) (X : Cx) (pins : List (Addr × Obj)) (h : Heap) : List (Addr × Obj) := (a, go) :: blkPin g X h ++ (X.pn ++ pins)
section
variable {g : GE} {a : Addr} {go lo : Obj} {X : Cx} {pins : List (Addr × Obj)} {σ σg : L2.St} {H : Hp} {Z : Addr → Prop} {m : List Addr} {μ : Mu} {s : Shared}
open Classical in
/-- what may have changed, for the waker: the young that are not pinned -/
noncomputable def young (g : GE) (P : List (Addr × Obj)) (h : Heap) : List Addr := (List.range h.objs.size).filter fun b => decide (g.L ≤ b ∧ ∀ p ∈ P, p.1 ≠ b)
end
end DL

set_option Elab.async false
set_option linter.all false
set_option maxRecDepth 100000
set_option maxHeartbeats 4000000
set_option autoImplicit false
/-! A generator's code from one waking to the next sleep. -/
namespace DL
open PySem PySem.Spec PyProof.Rows L2 GenW
open Sem (wp)

def Sg (M : Model) (A : Around) (Φ : End → Shared → Prop) (c : Code) (t : Sem PySem.Fin) (fs : List Frame) (s : Shared) : Prop :=
  ∀ (Γ : PySem.Ctx) (p : Pos), Γ.code = c → Γ.Woken A → ∃ e s', Runs M Γ p t fs s e s' ∧ Φ e s'
section
variable {M : Model} {A : Around} {Φ : End → Shared → Prop} {c : Code} {fs : List Frame} {s : Shared}
end
/-- a sleeping generator, woken: what comes of it -/
def GoesS (M : Model) (A : Around) (gs : GenState) (Φ : End → Shared → Prop) (s : Shared) : Prop := match gs with
  | .fresh c => Sg M A Φ c (M.den c) [] s
  | .suspended k _ c _ fs _ => Sg M A Φ c (k (.send .none)) fs s
  | _ => False
section
variable {prog : Program} {w : World} {A : Around} {Φ : End → Shared → Prop} {s : Shared} {E : Value → Shared → Prop}
end
end DL

set_option Elab.async false
set_option linter.all false
set_option maxRecDepth 100000
set_option maxHeartbeats 4000000
set_option autoImplicit false
/-! A generator's body, told by data: the data it hands out. -/
namespace DL
open PySem PySem.Spec PyProof.Rows L2 GenW
open Sem (wp)

/-- the waker: all that is fixed from one waking to the next sleep -/
structure Wk where
  X : Cx
  pins : List (Addr × Obj)
  σ : L2.St
  H : Hp
  Z : Addr → Prop
  m : List Addr
  μ : Mu
  s : Shared
def AftE (g : GE) (a : Addr) (go : Obj) (k : Wk) (e : End) (s1 : Shared) : Prop :=
  (∃ r, e = .ret r ∧ (r = .ok (.ret .none) ∨ r = .ok .next)) ∧ ∃ m' H', Inv k.X k.pins k.σ H' s1 ∧ Step g.gx k.Z k.m k.H m' k.μ H' ∧ H' g.L = none ∧ H' a = none
def AftY (g : GE) (a : Addr) (go : Obj) (k : Wk) (d : D) (P : List Addr → Hp → Obj → GenState → Prop) (e : End) (s1 : Shared) : Prop :=
  ∃ v gd l kk c p fs x m' H' lo', e = .susp v gd l kk c p fs ∧ e.quiet = true ∧ RelV x v ∧ Inv k.X k.pins k.σ H' s1 ∧ Step g.gx k.Z k.m k.H m' k.μ H' ∧ Rep g.gx m' (vis k.Z m' H') d x ∧ s1.heap.get? g.L = some lo' ∧ (∀ v, lo'.data ≠ .cell v) ∧ s1.heap.get? a = some go ∧
    H' g.L = none ∧ H' a = none ∧ P m' (vis k.Z m' H') lo' e.genState
/-- a generator that hands out just these -/
def GenP (g : GE) (a : Addr) (go : Obj) : List D → List Addr → Hp → Obj → GenState → Prop
  | [], m0, E0, lo, gs => ∀ k : Wk, Cons g a go k.X k.pins k.σ k.H k.Z k.m k.μ k.s lo → m0 <+: k.m → Same E0 (vis k.Z k.m k.H) → GoesS (model g.prog g.w) g.A gs (AftE g a go k) k.s
  | d :: ds, m0, E0, lo, gs => ∀ k : Wk, Cons g a go k.X k.pins k.σ k.H k.Z k.m k.μ k.s lo → m0 <+: k.m → Same E0 (vis k.Z k.m k.H) → GoesS (model g.prog g.w) g.A gs (AftY g a go k d (GenP g a go ds)) k.s
def FinP (g : GE) (a : Addr) (go : Obj) (k : Wk) : List D → End → Shared → Prop
  | [] => AftE g a go k
  | d :: ds => AftY g a go k d (GenP g a go ds)
def NoOwn (ρ : DS) : Prop := ∀ (i : Nat) (b : Addr) (c : Cell), ρ[i]? ≠ some (.own b c)
/-- it runs, its slots are ρ -/
def RunG (g : GE) (a : Addr) (go : Obj) (k : Wk) (ρ : DS) (s : Shared) : Prop :=
  ∃ lo0 σg H m, Cons g a go k.X k.pins k.σ k.H k.Z k.m k.μ k.s lo0 ∧ Inv (g.cx { k.s with heap := cutH k.s.heap g.L } (cutA k.H g.L) (wakePins g a go k.X k.pins k.s.heap)) [] σg H s ∧ Step g.gx k.Z k.m k.H m k.μ H ∧
    SR g.gx k.Z m σg H ρ k.μ ∧ NoOwn ρ ∧ ∀ (i : Nat) c ks ds, ρ[i]? ≠ some (.exn c ks ds)
structure GD where
  nx : List D → DS → Prop
abbrev TGen := GD → List D → DS → Prop
/-- where its code stands -/
structure At (g : GE) (c : Code) (fs : List Frame) (gd : Bool → Bool) : Prop where
  over : g.A.over c fs = g.A.deeper g.env
  split : splitAtGen fs = none
  guard : fs.any Frame.guarded = false
  gd : gd false = false
/-- what follows -/
def Goes (g : GE) (a : Addr) (go : Obj) (D0 : GD) (c : Code) (fs : List Frame) (K : Flow → Sem PySem.Fin) : Prop :=
  ∀ (k : Wk) (ds : List D) (ρ : DS) (s : Shared), RunG g a go k ρ s → D0.nx ds ρ → Sg (model g.prog g.w) g.A (FinP g a go k ds) c (K .next) fs s
structure GSt (g : GE) (st : Stmt) (t : TGen) : Prop where
  run : ∀ (a : Addr) (go : Obj) (c : Code) (fs : List Frame) (K : Flow → Sem PySem.Fin) (J : Value → Sem PySem.Fin) (gd : Bool → Bool) (lv : List Value → List Value) (D0 : GD), At g c fs gd → Goes g a go D0 c fs K →
    ∀ (k : Wk) (ds : List D) (ρ : DS) (s : Shared), RunG g a go k ρ s → t D0 ds ρ → Sg (model g.prog g.w) g.A (FinP g a go k ds) c ((exec st g.env).wrap K J gd lv) fs s
structure GSts (g : GE) (sts : List Stmt) (t : TGen) : Prop where
  run : ∀ (a : Addr) (go : Obj) (c : Code) (fs : List Frame) (K : Flow → Sem PySem.Fin) (J : Value → Sem PySem.Fin) (gd : Bool → Bool) (lv : List Value → List Value) (D0 : GD), At g c fs gd → Goes g a go D0 c fs K →
    ∀ (k : Wk) (ds : List D) (ρ : DS) (s : Shared), RunG g a go k ρ s → t D0 ds ρ → Sg (model g.prog g.w) g.A (FinP g a go k ds) c ((execs sts g.env).wrap K J gd lv) fs s
section
variable {g : GE} {st : Stmt} {rest body : List Stmt} {t u : TGen} {pos : Pos}
end
end DL

set_option Elab.async false
set_option linter.all false
set_option maxRecDepth 100000
set_option maxHeartbeats 4000000
set_option autoImplicit false
namespace DL
open PySem PySem.Spec PyProof.Rows L2 GenW
open Sem (wp)
section
variable {g : GE} {st : Stmt} {rest body : List Stmt} {t u : TGen} {pos : Pos}
/-! ### while -/
/-! ### the whole body -/
end
end DL

set_option Elab.async false
set_option linter.all false
set_option maxRecDepth 100000
set_option maxHeartbeats 4000000
set_option autoImplicit false
/-! A generator def: what a call of it makes. -/
namespace DL
open PySem PySem.Spec PyProof.Rows L2 GenW
/-- what the waker has of a generator that was just made -/
structure Born (P : Program) (w : World) (K : PySem.W.Frag) (mg : Str → Option Value) (base : Heap) (kk : Nat) (fr : List Env) (g : GE) (a gn : Nat) (go lo : Obj) (gs : GenState) (H : Hp) (s s' : Shared) : Prop where
  keep : ∀ b o, s.heap.get? b = some o → s'.heap.get? b = some o
  os : s'.os = s.os
  bare : AllBare s'.gens
  prog : g.prog = P
  w : g.w = w
  K : g.K = K
  mg : g.mg = mg
  base : g.base = base
  fr : g.outer = fr
  la : s.heap.objs.size ≤ a
  lL : s.heap.objs.size ≤ g.L
  ne : a ≠ g.L
  isg : ∀ h : Heap, h.get? a = some go → h.IsGen a gn
  goc : ∀ v, go.data ≠ .cell v
  loc : ∀ v, lo.data ≠ .cell v
  ego : s'.heap.get? a = some go
  elo : s'.heap.get? g.L = some lo
  egs : s'.gens[gn]? = some gs
abbrev GE.wake (g : GE) (A : Around) : GE := { g with A := A }
/-- for whoever wakes it: the data -/
def Gives (kk : Nat) (fr : List Env) (g : GE) (a : Nat) (go lo : Obj) (gs : GenState) (ys : List D) (m : List Addr) (E0 : Hp) : Prop :=
  ∀ A : Around, Room kk A → A.guards = some [] → A.frames = some fr → (g.wake A).Ok ∧ GenP (g.wake A) a go ys m E0 lo gs
abbrev GSp := List D → List D → Prop
structure GenD (P : Program) (w : World) (K : PySem.W.Frag) (mg : Str → Option Value) (base : Heap) (k : Nat) (f : Addr) (fd : FuncData) (ps : List Str) (sp : GSp) : Prop where
  len : ∀ ds ys, sp ds ys → ds.length = ps.length
  run : ∀ (A : Around) (fr : List Env) (s : Shared) (H : Hp) (args : Args) (us : List Value) (vs : List V) (Z : Addr → Prop) (m : List Addr) (μ : Mu) (ds ys : List D), Room k A → A.guards = some [] → Env0 P w K mg base A fr s H → BindsTo s fd args (ps.zip us) → Vals vs us →
    MuOk ⟨K, mg, none⟩ Z m μ H → Reps ⟨K, mg, none⟩ m (vis Z m H) ds vs → sp ds ys →
    codeAny (model P w) A (.call (.ref f) args) (fun r s' => ∃ g a gn go lo gs, r = .ok (.ret (.ref a)) ∧ Born P w K mg base k fr g a gn go lo gs H s s' ∧ Gives k fr g a go lo gs ys m (vis Z m H)) s
end DL

set_option Elab.async false
set_option linter.all false
set_option maxRecDepth 100000
set_option maxHeartbeats 4000000
set_option autoImplicit false
/-! Who walks a generator. -/
namespace DL
open PySem PySem.Spec PyProof.Rows L2 GenW
/-- a generator that X walks -/
abbrev gw (X : Cx) (N : List Str) (env : Env) : GE := ⟨X.prog, X.w, X.K, X.mg, X.base, X.A.in1, N, env, X.stack⟩
abbrev gx0 (X : Cx) : Gx := ⟨X.K, X.mg, none⟩
structure Walk (X : Cx) (env : Env) (a gn : Nat) (go : Obj) : Prop where
  ne : a ≠ env.locals
  isg : ∀ h : Heap, h.get? a = some go → h.IsGen a gn
  goc : ∀ v, go.data ≠ .cell v
  sz : X.s_0.heap.objs.size ≤ env.locals
  cl : ∀ x c, X.env.cells.lookup x = some c → c < env.locals
/-- the generator sleeps (or has not begun), ys are left -/
structure Rest (X : Cx) (N : List Str) (env : Env) (a gn : Nat) (go : Obj) (ys : List D) (Z : Addr → Prop) (m : List Addr) (H : Hp) (s : Shared) : Prop where
  ex : ∃ lo gs m0 E0, s.heap.get? env.locals = some lo ∧ (∀ v, lo.data ≠ .cell v) ∧ s.heap.get? a = some go ∧ H env.locals = none ∧ H a = none ∧ s.gens[gn]? = some gs ∧ m0 <+: m ∧ Same E0 (vis Z m H) ∧ GenP (gw X N env) a go ys m0 E0 lo gs
/-! ### over other code -/
theorem Rest.after {X : Cx} {N : List Str} {env : Env} {a gn : Nat} {go : Obj} {pins : List (Addr × Obj)} {σ' : L2.St} {Z Z' : Addr → Prop} {m m' : List Addr} {H H' : Hp} {s s' : Shared} {ys : List D} (R : Rest X N env a gn go ys Z m H s) (I : Inv X (pins ++ pinsAt [a, env.locals] s.heap) σ' H' s')
    (hg : s'.gens[gn]? = s.gens[gn]?) (pre : m <+: m') (same : Same (vis Z m H) (vis Z' m' H')) : Rest X N env a gn go ys Z' m' H' s' := by
  obtain ⟨lo, gs, m0, E0, elo, lc, ego, hL, ha, egs, pre0, same0, gp⟩ := R.ex
  have p1 := I.pin (env.locals, lo) (List.mem_append_right _ (List.mem_append_right _ (mem_pinsAt (by simp) elo)))
  have p2 := I.pin (a, go) (List.mem_append_right _ (List.mem_append_right _ (mem_pinsAt (by simp) ego)))
  exact ⟨lo, gs, m0, E0, p1.1, lc, p2.1, p1.2.1, p2.2.1, hg.trans egs, pre0.trans pre, same0.trans same, gp⟩
theorem Rest.pin {X : Cx} {N : List Str} {env : Env} {a gn : Nat} {go : Obj} {pins : List (Addr × Obj)} {σ : L2.St} {Z : Addr → Prop} {m : List Addr} {H : Hp} {s : Shared} {ys : List D} (R : Rest X N env a gn go ys Z m H s) (gc : ∀ v, go.data ≠ .cell v) (I : Inv X pins σ H s) (fL : FpOk X pins H env.locals) (fa : FpOk X pins H a) :
    Inv X (pins ++ pinsAt [a, env.locals] s.heap) σ H s := by
  obtain ⟨lo, gs, m0, E0, elo, lc, ego, hL, ha, egs, pre0, same0, gp⟩ := R.ex
  refine I.pinned (fun b hb => ?_) fun b hb => ?_
  · rcases List.mem_cons.mp hb with rfl | hb
    · exact fa
    · rw [List.mem_singleton.mp hb]; exact fL
  · rcases List.mem_cons.mp hb with rfl | hb
    · exact ⟨go, ego, gc⟩
    · rw [List.mem_singleton.mp hb]; exact ⟨lo, elo, lc⟩
end DL

set_option Elab.async false
set_option linter.all false
set_option maxRecDepth 100000
set_option maxHeartbeats 4000000
set_option autoImplicit false
namespace DL
open PySem PySem.Spec PyProof.Rows L2 GenW
/-- an expression that makes a generator -/
structure DGn (W : WX) (X : Cx) (kk : Nat) (e : Expr) (wi : WI) : Prop where
  run : ∀ (pins : List (Addr × Obj)) (s : Shared) (σ : L2.St) (H : Hp) (Z : Addr → Prop) (m : List Addr) (ρ : DS) (μ : Mu) (Q : List D → Mu → Prop) (Xd : XD), Inv X pins σ H s → SR (gx0 X) Z m σ H ρ μ → wi ρ μ Q Xd →
    (∀ cls d H', XPost (gx0 X) (ownW Z σ ρ) m H Xd cls d H' → W cls d σ H') →
    wpAny (model X.prog X.w) X.A (eval e X.env) (fun v s2 => ∃ g a gn go lo gs ys s1 H1 m1 μ1, v = .ref a ∧ Inv X pins σ H1 s1 ∧ Born X.prog X.w X.K X.mg X.base kk X.stack g a gn go lo gs H1 s1 s2 ∧ Step (gx0 X) (ownW Z σ ρ) m H m1 μ1 H1 ∧
      Gives kk X.stack g a go lo gs ys m1 (vis (ownW Z σ ρ) m1 H1) ∧ Q ys μ1) X.xe s
def wGen (sp : GSp) (wa : WA) : WI := fun ρ μ Q Xd => wa ρ μ (fun ds μ1 => ∃ ys, sp ds ys ∧ Q ys μ1) Xd
section
variable {W : WX} {X : Cx} {e : Expr} {es : List Expr} {wa : WE} {ws : WA} {pos : Pos} {k : Nat} {f : Addr} {fd : FuncData} {ps : List Str} {sp : GSp}
end
section
variable {W : WX} {X : Cx} {tg iter : Expr} {body : List Stmt} {wi : WI} {g : WG} {b : WS} {pos : Pos} {kk : Nat}
end
end DL

set_option Elab.async false
set_option linter.all false
set_option maxRecDepth 100000
set_option maxHeartbeats 4000000
set_option autoImplicit false
/-! A comprehension over a generator. -/
namespace DL
open PySem PySem.Spec PyProof.Rows L2 GenW
section
variable {W : WX} {X : Cx} {elt tg iter : Expr} {ifs : List Expr} {scope : Scope} {own : List (Str × Nat)} {pos pos' : Pos} {wi : WI} {g : L2.TG} {k : WG} {tt : WT} {te : WE} {kk : Nat}
end
end DL

set_option Elab.async false
set_option linter.all false
set_option maxRecDepth 100000
set_option maxHeartbeats 4000000
set_option autoImplicit false
/-! Generator defs by name; frames. -/
namespace DL
open PySem PySem.Spec PyProof.Rows L2 GenW
structure GenC (P : Program) (w : World) (K : PySem.W.Frag) (mg : Str → Option Value) (base : Heap) (k : Nat) (x : Str) (ps : List Str) (sp : GSp) : Prop where
  ex : ∃ f fd, mg x = some (.ref f) ∧ PySem.W.keepIn K (.ref f) = true ∧ Binds K fd ps [] ∧ GenD P w K mg base k f fd ps sp
section
variable {W : WX} {X : Cx} {e : Expr} {es : List Expr} {ws : WA} {pos p : Pos} {k j : Nat} {ps : List Str} {sp : GSp} {x : Str}
end
section
variable {W : WX} {X : Cx} {tg iter : Expr} {body : List Stmt} {wi : WI} {g : WG} {b : WS} {pos : Pos} {k j : Nat}
end
section
variable {W : WX} {X : Cx} {elt tg iter : Expr} {ifs : List Expr} {scope : Scope} {own : List (Str × Nat)} {pos : Pos} {wi : WI} {g : L2.TG} {k : WG} {tt : WT} {te : WE} {kk j : Nat}
end
/-! ### frames -/
def KGen (sp : GSp) (Q : List D → Mu → Prop) : List D → Mu → Prop := fun ds μ => ∃ ys, sp ds ys ∧ Q ys μ
theorem g_gen {sp : GSp} {wa : WA} {ρ : DS} {μ : Mu} {Q : List D → Mu → Prop} {Xd : XD} : wGen sp wa ρ μ Q Xd = wa ρ μ (KGen sp Q) Xd := propext Iff.rfl
end DL

set_option Elab.async false
set_option linter.all false
set_option maxRecDepth 100000
set_option maxHeartbeats 4000000
set_option autoImplicit false
/-! f(a, .., k = v, ..) -/
namespace DL
open PySem PySem.Spec PyProof.Rows L2
/-- how the values lie: written ones, keywords' ones -/
def GOk (gD : List D → List D → List D) (gV : List V → List V → List V) : Prop := ∀ {G : Gx} {m : List Addr} {E : Hp} {ds zs : List D} {vs ws : List V}, Reps G m E ds vs → Reps G m E zs ws → Reps G m E (gD ds zs) (gV vs ws)
/-- a def called with n written values and keywords ks -/
structure KwC (P : Program) (w : World) (K : PySem.W.Frag) (mg : Str → Option Value) (base : Heap) (k : Nat) (x : Str) (ps : List Str) (n : Nat) (ks : List Str) (gD : List D → List D → List D) (sp : DSp) : Prop where
  ex : ∃ f fd g gV, mg x = some (.ref f) ∧ PySem.W.keepIn K (.ref f) = true ∧ KBn K fd ps n ks g gV ∧ GOk gD gV ∧ FnG P w K mg base k f fd ps (toSp ⟨K, mg, none⟩ sp)
def wKw (n m : Nat) (gD : List D → List D → List D) (sp : DSp) (wa wz : WA) : WE := fun ρ μ Q Xd => wa ρ μ (fun ds μ1 => wz ρ μ1 (fun zs μ2 => ds.length = n ∧ zs.length = m ∧ sp (gD ds zs) μ2 Q Xd) Xd) Xd
abbrev DK (ex : Option (Addr × Addr × Addr)) (W : WX) (X : Cx) (kws : List Keyword) (w : WA) : Prop := PK X kws (liftA (gx X ex) W w)
section
variable {ex : Option (Addr × Addr × Addr)} {W : WX} {X : Cx} {e : Expr} {es : List Expr} {kws : List Keyword} {wa : WE} {ws wz : WA} {pos p : Pos} {nm : Option Str} {kpos : Pos} {k n : Nat} {x : Str} {ps ks : List Str} {sp : DSp} {gD : List D → List D → List D}
theorem run_kw {pins : List (Addr × Obj)} {σ : L2.St} {H : Hp} {s : Shared} {Q : VK} {us ws : List Value} {vs zs : List V} {f : Addr} {fd : FuncData} {sp0 : Sp} {g : List Value → List Value → List Value} {gV : List V → List V → List V} (F : FnG X.prog X.w X.K X.mg X.base k f fd ps sp0) (hr : Room k X.A) (hgd : X.A.guards = some []) (hb : KBn X.K fd ps n ks g gV) (tk : Takes X W)
    (I : Inv X pins σ H s) (r : Vals vs us) (rz : Vals zs ws) (l1 : vs.length = n) (l2 : zs.length = ks.length) (h : sp0 (gV vs zs) H Q (L2.WE W σ)) : wpAny (model X.prog X.w) X.A (call (.ref f) us (ks.zip ws)) (EP X pins σ Q) X.xe s := by
  have r2 := hb.rel r rz
  refine wpAny_call (codeAny_mono (F.run X.A X.stack s H ⟨us, ks.zip ws⟩ (g us ws) (gV vs zs) Q _ hr hgd I.env0 (hb.to s us ws I.kIn (r.length.symm.trans l1) (rz.length.symm.trans l2)) r2 h) fun res s2 hres => ?_)
  match res, hres with
  | .error er, hres => exact passAt tk σ pins H s er s2 I hres
  | .ok (.ret u), hres => exact I.after hres
def wKw0 (n : Nat) (gD : List D → List D → List D) (sp : DSp) (wa : WA) : WE := fun ρ μ Q Xd => wa ρ μ (fun ds μ1 => ds.length = n ∧ sp (gD ds []) μ1 Q Xd) Xd
theorem lift_kw0 {gV : List V → List V → List V} {G : Gx} {σ : L2.St} {H : Hp} {Q' : VK} (hg : GOk gD gV) (q : lift G W (wKw0 n gD sp ws) σ H Q') :
    liftA G W ws σ H fun vs H1 => vs.length = n ∧ toSp G sp (gV vs []) H1 Q' (L2.WE W σ) := by
  obtain ⟨Z, m, ρ, μ, Q, Xd, S, q, k, kx⟩ := q
  refine ⟨Z, m, ρ, μ, _, Xd, S, q, fun vs H1 P => ?_, kx⟩
  obtain ⟨m1, ds, μ1, s1, r1, hl1, q1⟩ := P
  exact ⟨by rw [← r1.len]; exact hl1, _, m1, μ1, gD ds [], Q, Xd, s1.mu, hg r1 Reps.nil, q1, fun v H' P => k v H' (VPost.from s1 P), fun cls d H' P => kx cls d H' (XPost.from s1 P)⟩
/-- no keywords are written -/
theorem de_kw0 (C : KwC X.prog X.w X.K X.mg X.base k x ps n [] gD sp) {j : Nat} (hr : Room j X.A) (hkj : k ≤ j) (hgd : X.A.guards = some []) (hg : Gl X x) (tk : Takes X W) (ha : DA none W X (e :: es) ws)
    (hdb : (x == ("__debug__" : Str)) = false := by decide) (he : starEach (e :: es) X.env = (false, eval e X.env) :: starEach es X.env := by rfl) (hpl : (backTo pos (starEach es X.env)).any (·.1) = false := by rfl) :
    DE none W X (.Call (.Name x p) (e :: es) [] pos) (wKw0 n gD sp ws) := by
  obtain ⟨f, fd, g, gV, h1, h2, h3, h4, F⟩ := C.ex
  refine ⟨fun pins s σ H Q I h => ?_⟩
  refine wpAny_Call_Name_kw (ld_glob I hg h1 ?_ hdb)
  exact PySem.W.callWith_K (h₀ := X.base) I.ok.mod.kin h2 (thn (ha.run pos pins s σ H _ I (lift_kw0 h4 h)) fun us s1 ⟨vs, H1, I1, rv, l1, q⟩ => ⟨I1.kIn, run_kw (ws := []) F (hr.mono hkj) hgd h3 tk I1 rv .nil l1 rfl q⟩) he hpl
end
section
variable {gD : List D → List D → List D} {sp : DSp} {wa wz : WA} {n k : Nat} {ρ : DS} {μ : Mu} {Q : D → Mu → Prop} {Xd : XD}
def KKw1 (n m : Nat) (gD : List D → List D → List D) (sp : DSp) (wz : WA) (ρ : DS) (Q : D → Mu → Prop) (Xd : XD) : List D → Mu → Prop := fun ds μ1 => wz ρ μ1 (fun zs μ2 => ds.length = n ∧ zs.length = m ∧ sp (gD ds zs) μ2 Q Xd) Xd
def KKw2 (n m : Nat) (gD : List D → List D → List D) (sp : DSp) (ds : List D) (Q : D → Mu → Prop) (Xd : XD) : List D → Mu → Prop := fun zs μ2 => ds.length = n ∧ zs.length = m ∧ sp (gD ds zs) μ2 Q Xd
def KKw0 (n : Nat) (gD : List D → List D → List D) (sp : DSp) (Q : D → Mu → Prop) (Xd : XD) : List D → Mu → Prop := fun ds μ1 => ds.length = n ∧ sp (gD ds []) μ1 Q Xd
theorem r_kw {m : Nat} : wKw n m gD sp wa wz ρ μ Q Xd = wa ρ μ (KKw1 n m gD sp wz ρ Q Xd) Xd := propext Iff.rfl
theorem r_kw1 {m : Nat} {ds : List D} : KKw1 n m gD sp wz ρ Q Xd ds μ = wz ρ μ (KKw2 n m gD sp ds Q Xd) Xd := propext Iff.rfl
theorem r_kw2 {m : Nat} {ds zs : List D} : KKw2 n m gD sp ds Q Xd zs μ = (ds.length = n ∧ zs.length = m ∧ sp (gD ds zs) μ Q Xd) := propext Iff.rfl
theorem r_kw0 : wKw0 n gD sp wa ρ μ Q Xd = wa ρ μ (KKw0 n gD sp Q Xd) Xd := propext Iff.rfl
theorem r_kw00 {ds : List D} : KKw0 n gD sp Q Xd ds μ = (ds.length = n ∧ sp (gD ds []) μ Q Xd) := propext Iff.rfl
end
end DL

set_option Elab.async false
set_option linter.all false
set_option maxRecDepth 100000
set_option maxHeartbeats 4000000
set_option autoImplicit false
/-! a, b = [], []: both lists of the def's own. -/
namespace DL
open PySem PySem.Spec PyProof.Rows L2
def sPar2OO (i j : Nat) : WS := fun E ρ μ => (i < ρ.length ∧ j < ρ.length) ∧ ∀ p1 p2, E.nx ((ρ.set i (.own p1 (.lst []))).set j (.own p2 (.lst []))) μ
theorem y_oo {i j : Nat} {E : DEnds} {ρ : DS} {μ : Mu} : sPar2OO i j E ρ μ = ((i < ρ.length ∧ j < ρ.length) ∧ ∀ p1 p2, E.nx ((ρ.set i (.own p1 (.lst []))).set j (.own p2 (.lst []))) μ) := propext Iff.rfl
/-! ### a target self.f, self the thing that is being made -/
section
variable {X : Cx} {o : Expr} {to : TE} {f : Str} {pos p0 : Pos}
def gFld (K : PySem.W.Frag) (to : TE) (f : Str) : TG := fun v σ H Q => to σ H fun x H1 => ∃ a C dx fs, x = .ref a ∧ H1 a = some (.ins C dx fs) ∧ Cls K C ∧ NoAttr K C f ∧ fs.length < 1000 ∧ Q σ (upd H1 a (.ins C dx (putF f v fs)))
theorem pg_fld (ho : PE X o to) : PG X (.Attribute o f pos) (gFld X.K to f) := by
  refine ⟨fun pins s σ H v u Q I r h => ?_⟩
  rw [arm_assign_Attribute]
  refine wpAny_bind (wpAny_holding (thn (ho.run pins s σ H _ I h) fun ov s1 ⟨x, H1, I1, r1, a, C, dx, fs, ex, ea, c, n, l, q⟩ => ?_))
  subst ex
  obtain rfl : ov = Value.ref a := r1
  refine wpAny_bind (wpAny_standAt (wpAny_bind (wpAny_holding (setattr_ok I1 ea c n l r fun s3 I3 => ?_))))
  exact wpAny_release ⟨σ, _, I3, q⟩
def kFldO (c : Str) (i : Nat) (f : Str) : WG := fun d ρ μ Q => putOwnI c i f d ρ fun ρ1 => Q ρ1 μ
theorem dg_fldO {i : Nat} {x c : Str} (D : FldD X.K X.mg c f) (hN : X.N[i]? = some x)
    (hvis : Vis X.env.scope x := by first | exact Or.inl rfl | exact Or.inr (Or.inl rfl) | exact Or.inr (Or.inr rfl)) (hd : (x == ("__debug__" : Str)) = false := by decide) (hcd : (x == ("__classdict__" : Str)) = false := by decide) :
    DG none X (.Attribute (.Name x p0) f pos) (kFldO c i f) := pg_weak (pg_fld (pe_var hN hvis hd hcd)) fun v σ H Q' q => by
  obtain ⟨C, hm, hc, hn⟩ := D.ex
  obtain ⟨Z, m, ρ, μ, d, Q, S, r, q, k⟩ := q
  obtain ⟨a, ks, ds, hi, hl, q2⟩ := putOwnI_of q
  obtain ⟨ha, nz, C0, dx, vs, g, hv, l, rs⟩ := S.own i a _ hi
  have hC : C0 = C := by
    have g' : X.mg c = some (.ref C0) := g
    rw [hm] at g'; cases g'; rfl
  subst hC
  have lv : ks.length = vs.length := by rw [l]; exact rs.len
  refine ⟨_, ha, a, C0, dx, _, rfl, hv, hc, hn, by rw [List.length_zip, ← lv, Nat.min_self]; exact hl, ?_⟩
  obtain ⟨S2, s2⟩ := S.putOwn (o := .ins C0 dx (putF f v (ks.zip vs))) (c' := .ins c (putK f ks) (putD f d ks ds)) hi ⟨C0, dx, putD f v ks vs, g, by rw [upd_same, putF_zip f v ks vs lv], putD_len f ks ds d l, putD_rep r l rs⟩
  exact k _ _ ⟨m, _, μ, S2, s2, q2⟩
/-- self.f, self the thing that is being made -/
def ofld (c f : Str) (o : Option Sl) (k : D → Prop) : Prop := match o with
  | some (.own _ (.ins c' ks ds)) => c' = c ∧ match fldOf f ks ds with
    | some d => k d
    | none => False
  | _ => False
theorem ofld_of {c f : Str} {o : Option Sl} {k : D → Prop} (h : ofld c f o k) : ∃ a ks ds d, o = some (.own a (.ins c ks ds)) ∧ fldOf f ks ds = some d ∧ k d := by
  unfold ofld at h
  split at h
  · obtain ⟨rfl, h⟩ := h
    split at h
    · exact ⟨_, _, _, _, rfl, by assumption, h⟩
    · exact h.elim
  · exact h.elim
def wOwnFld (c : Str) (i : Nat) (f : Str) : WE := fun ρ μ Q _ => ofld c f (ρ[i]?) fun d => Q d μ
theorem de_ownFld {ex : Option (Addr × Addr × Addr)} {W : WX} {i : Nat} {x c : Str} (D : FldD X.K X.mg c f) (hN : X.N[i]? = some x)
    (hvis : Vis X.env.scope x := by first | exact Or.inl rfl | exact Or.inr (Or.inl rfl) | exact Or.inr (Or.inr rfl)) (hd : (x == ("__debug__" : Str)) = false := by decide) (hcd : (x == ("__classdict__" : Str)) = false := by decide)
    (hb : attributeBase (.Name x p0) f X.env (eval (.Name x p0) X.env) = eval (.Name x p0) X.env := by rfl) :
    DE ex W X (.Attribute (.Name x p0) f pos) (wOwnFld c i f) := pe_weak (pe_fld (pe_var hN hvis hd hcd) hb) fun σ H Q' q => by
  obtain ⟨C, hm, hc, hn⟩ := D.ex
  obtain ⟨Z, m, ρ, μ, Q, Xd, S, q, k, kx⟩ := q
  obtain ⟨a, ks, ds, d, hi, e2, q⟩ := ofld_of q
  obtain ⟨hs, nz, C0, dx, vs, g, hv, l, rs⟩ := S.own i a _ hi
  have hC : C0 = C := by
    have g' : X.mg c = some (.ref C0) := g
    rw [hm] at g'; cases g'; rfl
  subst hC
  obtain ⟨v, ev, rv⟩ := fldOf_rep rs e2
  exact ⟨_, hs, a, C0, dx, _, v, rfl, hv, hc, hn, ev, k _ _ (.now S.mu rv q)⟩
end
end DL

set_option Elab.async false
set_option linter.all false
set_option maxRecDepth 100000
set_option maxHeartbeats 2000000
set_option autoImplicit false
/-! Frames: a target self.f. -/
namespace DL
open PySem PySem.Spec PyProof.Rows L2
def KOQ (Q : DS → Mu → Prop) (μ : Mu) : DS → Prop := fun ρ => Q ρ μ
theorem y_foq {ρ : DS} {μ : Mu} {Q : DS → Mu → Prop} : KOQ Q μ ρ = Q ρ μ := propext Iff.rfl
theorem y_fo {c : Str} {i : Nat} {f : Str} {d : D} {ρ : DS} {μ : Mu} {Q : DS → Mu → Prop} : kFldO c i f d ρ μ Q = KPut c i f d ρ (KOQ Q μ) (ρ[i]?) := by
  unfold kFldO putOwnI KPut
  exact propext Iff.rfl
def KOF (c f : Str) (o : Option Sl) (Q : D → Mu → Prop) (μ : Mu) : Prop := match o with
  | some (.own _ (.ins c' ks ds)) => c' = c ∧ KFld2 (fldOf f ks ds) μ Q
  | _ => False
theorem y_of {c : Str} {i : Nat} {f : Str} {ρ : DS} {μ : Mu} {Q : D → Mu → Prop} {Xd : XD} : wOwnFld c i f ρ μ Q Xd = KOF c f (ρ[i]?) Q μ := by
  unfold wOwnFld ofld KOF KFld2
  exact propext Iff.rfl
theorem y_of2 {c c' f : Str} {a : Addr} {ks : List Str} {ds : List D} {μ : Mu} {Q : D → Mu → Prop} : KOF c f (some (.own a (.ins c' ks ds))) Q μ = (c' = c ∧ KFld2 (fldOf f ks ds) μ Q) := propext Iff.rfl
end DL

set_option Elab.async false
set_option linter.all false
set_option maxRecDepth 100000
set_option maxHeartbeats 4000000
set_option autoImplicit false
namespace SA
/-! two triangles that a line parts are parted by an edge of one of them -/
abbrev P := Int × Int
def sd (a b p : P) : Int := (b.1 - a.1) * (p.2 - a.2) - (b.2 - a.2) * (p.1 - a.1)
theorem nonneg_of {a b : Int} (hb : 0 < b) (h : 0 ≤ a * b) : 0 ≤ a := by
  apply Int.not_lt.mp
  intro ha
  have := Int.mul_neg_of_neg_of_pos ha hb
  omega
theorem mem {U1 U2 V1 V2 x y z D1 D2 : Int} (hU1 : 0 ≤ U1) (hU2 : 0 ≤ U2) (hV1 : 0 ≤ V1) (hV2 : 0 ≤ V2) (d1 : 0 < D1) (d2 : 0 < D2) (hx : 0 ≤ x) (i1 : y * U1 = U2 * x + D2 * V1) (i2 : D1 * U2 = V2 * y + V1 * z) (hU : U1 = 0 → 0 < U2) : 0 ≤ y := by
  by_cases c : U1 = 0
  · have u2 := hU c
    rw [c, Int.mul_zero] at i1
    have s1 := Int.mul_nonneg hU2 hx
    have s2 := Int.mul_nonneg (Int.le_of_lt d2) hV1
    have v0 : D2 * V1 = 0 := by omega
    have v1 : V1 = 0 := by
      rcases Int.mul_eq_zero.mp v0 with e | e
      · omega
      · exact e
    rw [v1, Int.zero_mul, Int.add_zero] at i2
    have p := Int.mul_pos d1 u2
    apply Int.not_lt.mp
    intro hy
    have := Int.mul_nonpos_of_nonneg_of_nonpos hV2 (Int.le_of_lt hy)
    omega
  · have s1 := Int.mul_nonneg hU2 hx
    have s2 := Int.mul_nonneg (Int.le_of_lt d2) hV1
    exact nonneg_of (show 0 < U1 by omega) (by omega)
/-- z is not left of the way from x to y -/
def Rt (x y : P) (z : P) : Prop := sd x y z ≤ 0
/-- parted by an edge of the first -/
def Ed (a b c p q r : P) : Prop := (Rt a b p ∧ Rt a b q ∧ Rt a b r) ∨ (Rt b c p ∧ Rt b c q ∧ Rt b c r) ∨ (Rt c a p ∧ Rt c a q ∧ Rt c a r)
def lin (u : P) (z : P) : Int := u.1 * z.1 + u.2 * z.2
end SA

set_option Elab.async false
set_option linter.all false
set_option maxRecDepth 100000
set_option maxHeartbeats 4000000
set_option autoImplicit false
namespace SA
/-! meshes of split cells -/
structure T3 where
  a : P
  b : P
  c : P
def Good (t : T3) : Prop := 0 < sd t.a t.b t.c
/-- parted by a line, the first below -/
def Sep (s t : T3) : Prop := ∃ (u : P) (w : Int), ¬ (u.1 = 0 ∧ u.2 = 0) ∧ (lin u s.a ≤ w ∧ lin u s.b ≤ w ∧ lin u s.c ≤ w) ∧ w ≤ lin u t.a ∧ w ≤ lin u t.b ∧ w ≤ lin u t.c
def neg (u : P) : P := (-u.1, -u.2)
theorem lin_neg (u z : P) : lin (neg u) z = - lin u z := by unfold lin neg; grind
theorem Sep.symm {s t : T3} (h : Sep s t) : Sep t s := by
  obtain ⟨u, w, u0, ⟨h1, h2, h3⟩, h4, h5, h6⟩ := h
  refine ⟨neg u, -w, fun z => u0 ⟨?_, ?_⟩, ⟨?_, ?_, ?_⟩, ?_, ?_, ?_⟩
  · have := z.1
    unfold neg at this
    simp only at this
    omega
  · have := z.2
    unfold neg at this
    simp only at this
    omega
  all_goals
    rw [lin_neg]
    omega
/-- within the hull of four corners -/
structure Q4 where
  a : P
  b : P
  c : P
  d : P
def In4 (q : Q4) (t : T3) : Prop := ∀ (u : P) (w : Int), lin u q.a ≤ w → lin u q.b ≤ w → lin u q.c ≤ w → lin u q.d ≤ w → lin u t.a ≤ w ∧ lin u t.b ≤ w ∧ lin u t.c ≤ w
/-- within a triangle -/
def In3 (s t : T3) : Prop := ∀ (u : P) (w : Int), lin u s.a ≤ w → lin u s.b ≤ w → lin u s.c ≤ w → lin u t.a ≤ w ∧ lin u t.b ≤ w ∧ lin u t.c ≤ w
theorem In3.refl (s : T3) : In3 s s := fun _ _ h1 h2 h3 => ⟨h1, h2, h3⟩
theorem In4.sub {q : Q4} {s t : T3} (h : In4 q s) (k : In3 s t) : In4 q t := fun u w h1 h2 h3 h4 => by
  obtain ⟨z1, z2, z3⟩ := h u w h1 h2 h3 h4
  exact k u w z1 z2 z3
theorem Sep.sub {s t s' t' : T3} (h : Sep s t) (hs : In3 s s') (ht : In3 t t') : Sep s' t' := by
  obtain ⟨u, w, u0, ⟨h1, h2, h3⟩, h4, h5, h6⟩ := h
  have z := ht (neg u) (-w) (by rw [lin_neg]; omega) (by rw [lin_neg]; omega) (by rw [lin_neg]; omega)
  rw [lin_neg, lin_neg, lin_neg] at z
  exact ⟨u, w, u0, hs u w h1 h2 h3, by omega, by omega, by omega⟩
theorem In3.trans {s t r : T3} (h : In3 s t) (k : In3 t r) : In3 s r := fun u w h1 h2 h3 => by
  obtain ⟨z1, z2, z3⟩ := h u w h1 h2 h3
  exact k u w z1 z2 z3
/-! a triangle cut in two -/
theorem half {a b c m : P} (g : 0 < sd a b c) (m1 : 2 * m.1 = a.1 + b.1) (m2 : 2 * m.2 = a.2 + b.2) : Good ⟨a, m, c⟩ ∧ Good ⟨m, b, c⟩ ∧ In3 ⟨a, b, c⟩ ⟨a, m, c⟩ ∧ In3 ⟨a, b, c⟩ ⟨m, b, c⟩ ∧ Sep ⟨a, m, c⟩ ⟨m, b, c⟩ := by
  have e1 : 2 * sd a m c = sd a b c := by
    unfold sd
    grind
  have e2 : 2 * sd m b c = sd a b c := by
    unfold sd
    grind
  have lm : ∀ u : P, 2 * lin u m = lin u a + lin u b := fun u => by
    unfold lin
    grind
  refine ⟨?_, ?_, fun u w h1 h2 h3 => ⟨h1, ?_, h3⟩, fun u w h1 h2 h3 => ⟨?_, h2, h3⟩, ?_⟩
  · show 0 < sd a m c
    omega
  · show 0 < sd m b c
    omega
  · have := lm u
    simp only at h1 h2 ⊢
    omega
  · have := lm u
    simp only at h1 h2 ⊢
    omega
  · -- the line from m to c; a left of it, b right
    refine ⟨(c.2 - m.2, -(c.1 - m.1)), lin (c.2 - m.2, -(c.1 - m.1)) m, ?_, ⟨?_, Int.le_refl _, ?_⟩, Int.le_refl _, ?_, ?_⟩
    · intro z
      simp only at z
      have c1 : c.1 = m.1 := by omega
      have c2 : c.2 = m.2 := by omega
      have : sd a m c = 0 := by unfold sd; rw [c1, c2]; grind
      omega
    · have : lin (c.2 - m.2, -(c.1 - m.1)) m - lin (c.2 - m.2, -(c.1 - m.1)) a = sd a m c := by unfold lin sd; grind
      simp only
      omega
    · have : lin (c.2 - m.2, -(c.1 - m.1)) c = lin (c.2 - m.2, -(c.1 - m.1)) m := by unfold lin; grind
      simp only
      omega
    · have : lin (c.2 - m.2, -(c.1 - m.1)) b - lin (c.2 - m.2, -(c.1 - m.1)) m = sd m b c := by unfold lin sd; grind
      simp only
      omega
    · have : lin (c.2 - m.2, -(c.1 - m.1)) c = lin (c.2 - m.2, -(c.1 - m.1)) m := by unfold lin; grind
      simp only
      omega
/-! the corners of the cells -/
def Near (p : P) (k r : Int) : Prop := 8 * k - 1 ≤ p.1 ∧ p.1 ≤ 8 * k + 1 ∧ 8 * r - 1 ≤ p.2 ∧ p.2 ≤ 8 * r + 1
/-- the cell at k, r -/
def Cell (q : Q4) (k r : Int) : Prop := Near q.a k r ∧ Near q.b (k + 1) r ∧ Near q.c (k + 1) (r + 1) ∧ Near q.d k (r + 1)
end SA

set_option Elab.async false
set_option linter.all false
set_option maxRecDepth 100000
set_option maxHeartbeats 4000000
set_option autoImplicit false
/-! Meshes: each point inside is owned once by a half circle of directions. -/
namespace SA
def cr (u v : P) : Int := u.1 * v.2 - u.2 * v.1
def sb (a b : P) : P := (a.1 - b.1, a.2 - b.2)
def O : P := (0, 0)
/-- a half circle of directions -/
structure HP (R : P → Bool) : Prop where
  opp : ∀ d : P, d ≠ O → R (neg d) = !R d
  cone : ∀ (u v d : P) (m α β : Int), 0 < m → 0 ≤ α → 0 ≤ β → R u = true → R v = true → d ≠ O → m * d.1 = α * u.1 + β * v.1 → m * d.2 = α * u.2 + β * v.2 → R d = true
theorem HP.par {R : P → Bool} (h : HP R) {u d : P} {m α : Int} (hm : 0 < m) (ha : 0 < α) (hd : d ≠ O) (e1 : m * d.1 = α * u.1) (e2 : m * d.2 = α * u.2) (hu : R u = true) : R d = true :=
  h.cone u u d m α 0 hm (by omega) (by decide) hu hu hd (by omega) (by omega)
theorem P.ext {u v : P} (h1 : u.1 = v.1) (h2 : u.2 = v.2) : u = v := Prod.ext h1 h2
theorem nz {u : P} : u ≠ O ↔ ¬ (u.1 = 0 ∧ u.2 = 0) := by
  constructor
  · intro h z
    exact h (P.ext z.1 z.2)
  · intro h z
    subst z
    exact h ⟨rfl, rfl⟩
theorem neg_nz {u : P} (h : u ≠ O) : neg u ≠ O := by
  rw [nz] at h ⊢
  unfold neg
  simp only
  omega
theorem cr_nz {u v : P} (h : 0 < cr u v) : u ≠ O ∧ v ≠ O := by
  constructor <;> (rw [nz]; rintro ⟨h1, h2⟩; unfold cr at h; rw [h1, h2] at h; simp at h)
theorem neg_neg (u : P) : neg (neg u) = u := by
  unfold neg
  exact P.ext (by simp) (by simp)
theorem HP.opp' {R : P → Bool} (h : HP R) {d : P} (hd : d ≠ O) (h1 : R d = true) (h2 : R (neg d) = true) : False := by
  rw [h.opp d hd, h1] at h2
  cases h2
theorem HP.neg {R : P → Bool} (h : HP R) : HP (fun d => !(R d) && decide (d ≠ O)) := by
  have key : ∀ d : P, d ≠ O → ((!(R d) && decide (d ≠ O)) = true ↔ R (SA.neg d) = true) := fun d hd => by
    rw [h.opp d hd]
    simp [hd]
  refine ⟨fun d hd => ?_, fun u v d m α β hm ha hb hu hv hd e1 e2 => ?_⟩
  · have e := h.opp d hd
    have n := neg_nz hd
    simp [e, hd, n]
  · have hu0 : u ≠ O := by simp at hu; exact hu.2
    have hv0 : v ≠ O := by simp at hv; exact hv.2
    rw [key d hd]
    refine h.cone (SA.neg u) (SA.neg v) (SA.neg d) m α β hm ha hb ((key u hu0).mp hu) ((key v hv0).mp hv) (neg_nz hd) ?_ ?_
    · show m * (-d.1) = α * (-u.1) + β * (-v.1)
      grind
    · show m * (-d.2) = α * (-u.2) + β * (-v.2)
      grind
/-- the half of the program -/
def hf (w : P) (ah : Bool) (d : P) : Bool := if cr w d ≠ 0 then decide (0 < cr w d) else (decide (0 < d.1 * w.1 + d.2 * w.2) == ah)
theorem sq0 {a b : Int} (h : a * a + b * b = 0) : a = 0 ∧ b = 0 := by
  have h1 : 0 ≤ a * a := by rcases Int.le_total 0 a with z | z; exact Int.mul_nonneg z z; have := Int.mul_nonneg (show 0 ≤ -a by omega) (show 0 ≤ -a by omega); grind
  have h2 : 0 ≤ b * b := by rcases Int.le_total 0 b with z | z; exact Int.mul_nonneg z z; have := Int.mul_nonneg (show 0 ≤ -b by omega) (show 0 ≤ -b by omega); grind
  have e1 : a * a = 0 := by omega
  have e2 : b * b = 0 := by omega
  exact ⟨by rcases Int.mul_eq_zero.mp e1 with z | z <;> exact z, by rcases Int.mul_eq_zero.mp e2 with z | z <;> exact z⟩
theorem dot_nz {w d : P} (hw : w ≠ O) (hd : d ≠ O) (h : cr w d = 0) : d.1 * w.1 + d.2 * w.2 ≠ 0 := by
  intro e
  have h1 : (w.1 * w.1 + w.2 * w.2) * (d.1 * d.1 + d.2 * d.2) = cr w d * cr w d + (d.1 * w.1 + d.2 * w.2) * (d.1 * w.1 + d.2 * w.2) := by unfold cr; grind
  rw [h, e] at h1
  rcases Int.mul_eq_zero.mp (h1.trans (by decide)) with z | z
  · exact hw (P.ext (sq0 z).1 (sq0 z).2)
  · exact hd (P.ext (sq0 z).1 (sq0 z).2)
theorem pos_of_mul {m x : Int} (hm : 0 < m) (h : 0 < m * x) : 0 < x := by
  rcases Int.lt_or_le 0 x with z | z
  · exact z
  · have := Int.mul_nonneg (Int.le_of_lt hm) (show 0 ≤ -x by omega)
    have e : m * -x = -(m * x) := by grind
    omega
theorem nonneg_of_mul {m x : Int} (hm : 0 < m) (h : 0 ≤ m * x) : 0 ≤ x := by
  rcases Int.lt_or_le x 0 with z | z
  · have := Int.mul_pos hm (show 0 < -x by omega)
    have e : m * -x = -(m * x) := by grind
    omega
  · exact z
theorem hf_hp {w : P} {ah : Bool} (hw : w ≠ O) : HP (hf w ah) := by
  refine ⟨fun d hd => ?_, fun u v d m α β hm ha hb hu hv hd e1 e2 => ?_⟩
  · have c1 : cr w (neg d) = - cr w d := by unfold cr neg; simp only; grind
    have c2 : (neg d).1 * w.1 + (neg d).2 * w.2 = -(d.1 * w.1 + d.2 * w.2) := by unfold neg; simp only; grind
    unfold hf
    rw [c1, c2]
    by_cases c : cr w d = 0
    · have := dot_nz hw hd c
      rw [if_neg (by omega), if_neg (by omega)]
      by_cases g : 0 < d.1 * w.1 + d.2 * w.2
      · rw [decide_eq_true g, decide_eq_false (by omega)]
        cases ah <;> rfl
      · rw [decide_eq_false g, decide_eq_true (by omega)]
        cases ah <;> rfl
    · rw [if_pos (by omega), if_pos c]
      by_cases g : 0 < cr w d
      · rw [decide_eq_true g, decide_eq_false (by omega)]
        rfl
      · rw [decide_eq_false g, decide_eq_true (by omega)]
        rfl
  · have c1 : m * cr w d = α * cr w u + β * cr w v := by unfold cr; grind
    have c2 : m * (d.1 * w.1 + d.2 * w.2) = α * (u.1 * w.1 + u.2 * w.2) + β * (v.1 * w.1 + v.2 * w.2) := by grind
    have pu : 0 ≤ cr w u := by
      unfold hf at hu
      by_cases c : cr w u = 0
      · omega
      · rw [if_pos c, decide_eq_true_eq] at hu; omega
    have pv : 0 ≤ cr w v := by
      unfold hf at hv
      by_cases c : cr w v = 0
      · omega
      · rw [if_pos c, decide_eq_true_eq] at hv; omega
    have q1 := Int.mul_nonneg ha pu
    have q2 := Int.mul_nonneg hb pv
    have pd : 0 ≤ cr w d := nonneg_of_mul hm (by omega)
    unfold hf
    by_cases c : cr w d = 0
    · rw [if_neg (by omega)]
      have z : α * cr w u = 0 ∧ β * cr w v = 0 := by rw [c] at c1; omega
      have dz := dot_nz hw hd c
      have su : ah = true → 0 ≤ α * (u.1 * w.1 + u.2 * w.2) := fun t => by
        rcases Int.mul_eq_zero.mp z.1 with z1 | z1
        · rw [z1]; omega
        · unfold hf at hu
          rw [if_neg (by omega), t] at hu
          simp only [beq_iff_eq, decide_eq_true_eq] at hu
          exact Int.mul_nonneg ha (by omega)
      have sv : ah = true → 0 ≤ β * (v.1 * w.1 + v.2 * w.2) := fun t => by
        rcases Int.mul_eq_zero.mp z.2 with z1 | z1
        · rw [z1]; omega
        · unfold hf at hv
          rw [if_neg (by omega), t] at hv
          simp only [beq_iff_eq, decide_eq_true_eq] at hv
          exact Int.mul_nonneg hb (by omega)
      have tu : ah = false → 0 ≤ α * -(u.1 * w.1 + u.2 * w.2) := fun t => by
        rcases Int.mul_eq_zero.mp z.1 with z1 | z1
        · rw [z1]; omega
        · unfold hf at hu
          rw [if_neg (by omega), t] at hu
          simp only [beq_iff_eq, decide_eq_false_iff_not] at hu
          exact Int.mul_nonneg ha (by omega)
      have tv : ah = false → 0 ≤ β * -(v.1 * w.1 + v.2 * w.2) := fun t => by
        rcases Int.mul_eq_zero.mp z.2 with z1 | z1
        · rw [z1]; omega
        · unfold hf at hv
          rw [if_neg (by omega), t] at hv
          simp only [beq_iff_eq, decide_eq_false_iff_not] at hv
          exact Int.mul_nonneg hb (by omega)
      cases ah
      · have h1 := tu rfl
        have h2 := tv rfl
        have h3 : 0 ≤ -(d.1 * w.1 + d.2 * w.2) := nonneg_of_mul hm (by grind)
        rw [decide_eq_false (by omega)]
        rfl
      · have h1 := su rfl
        have h2 := sv rfl
        have h3 : 0 ≤ d.1 * w.1 + d.2 * w.2 := nonneg_of_mul hm (by omega)
        rw [decide_eq_true (by omega)]
        rfl
    · rw [if_pos c]
      exact decide_eq_true (by omega)
/-! ### order within a half circle -/
/-- a corner's wedge, or an edge's -/
def Wd (w : P × P) : Prop := 0 < cr w.1 w.2 ∨ (w.1 ≠ O ∧ w.2 = neg w.1)
theorem Wd.nz {w : P × P} (h : Wd w) : w.1 ≠ O ∧ w.2 ≠ O := by
  rcases h with h | ⟨h1, h2⟩
  · exact cr_nz h
  · exact ⟨h1, by rw [h2]; exact neg_nz h1⟩
/-- the same way -/
def SW (u v : P) : Prop := ∃ m n : Int, 0 < m ∧ 0 < n ∧ m * u.1 = n * v.1 ∧ m * u.2 = n * v.2
theorem SW.R {R : P → Bool} (h : HP R) {u v : P} (hv : v ≠ O) (s : SW u v) (hu : R u = true) : R v = true := by
  obtain ⟨m, n, hm, hn, e1, e2⟩ := s
  exact h.par hn hm hv e1.symm e2.symm hu
/-! ### owners and wedges -/
def wOwn (R : P → Bool) (a b p : P) : Bool := decide (0 < sd a b p) || (decide (sd a b p = 0) && R (sb b a))
def own (R : P → Bool) (t : T3) (p : P) : Bool := wOwn R t.a t.b p && (wOwn R t.b t.c p && wOwn R t.c t.a p)
def wedge (t : T3) (p : P) : Option (Option (P × P)) :=
  if 0 ≤ sd t.a t.b p ∧ 0 ≤ sd t.b t.c p ∧ 0 ≤ sd t.c t.a p then
    if p = t.a then some (some (sb t.b p, sb t.c p)) else if p = t.b then some (some (sb t.c p, sb t.a p)) else if p = t.c then some (some (sb t.a p, sb t.b p))
    else if sd t.a t.b p = 0 then some (some (sb t.b t.a, sb t.a t.b)) else if sd t.b t.c p = 0 then some (some (sb t.c t.b, sb t.b t.c)) else if sd t.c t.a p = 0 then some (some (sb t.a t.c, sb t.c t.a))
    else some none
  else none
theorem wOwn_le {R : P → Bool} {a b p : P} (h : wOwn R a b p = true) : 0 ≤ sd a b p := by
  unfold wOwn at h
  simp only [Bool.or_eq_true, Bool.and_eq_true, decide_eq_true_eq] at h
  omega
theorem wOwn_pos {R : P → Bool} {a b p : P} (h : 0 < sd a b p) : wOwn R a b p = true := by
  unfold wOwn
  rw [decide_eq_true h]
  rfl
theorem wOwn_zero {R : P → Bool} {a b p : P} (h : sd a b p = 0) : wOwn R a b p = R (sb b a) := by
  unfold wOwn
  rw [h]
  simp
theorem sub_neg (a b : P) : sb a b = neg (sb b a) := by unfold sb neg; exact P.ext (by simp only; omega) (by simp only; omega)
theorem sd_cyc (a b c : P) : sd b c a = sd a b c ∧ sd c a b = sd a b c := by unfold sd; constructor <;> grind
theorem sd_aa (a b : P) : sd a b a = 0 ∧ sd a b b = 0 := by unfold sd; constructor <;> grind
theorem sd_ne {a b c : P} (h : 0 < sd a b c) : sb b a ≠ O ∧ sb c b ≠ O ∧ sb a c ≠ O := by
  refine ⟨?_, ?_, ?_⟩ <;>
  · rw [nz]
    rintro ⟨h1, h2⟩
    unfold sb at h1 h2
    simp only at h1 h2
    have e : sd a b c = 0 := by unfold sd; grind
    omega
theorem corner_own {R : P → Bool} (h : HP R) {a b c : P} (g : 0 < sd a b c) : (wOwn R a b a && (wOwn R b c a && wOwn R c a a)) = (R (sb b a) && !R (sb c a)) ∧ Wd (sb b a, sb c a) := by
  have e1 := (sd_aa a b).1
  have e2 := (sd_aa c a).2
  have e3 : 0 < sd b c a := by rw [(sd_cyc a b c).1]; exact g
  have n := (sd_ne g).2.2
  refine ⟨?_, .inl ?_⟩
  · rw [wOwn_zero e1, wOwn_zero e2, wOwn_pos e3, sub_neg a c, h.opp _ (by rw [sub_neg]; exact neg_nz n)]
    simp
  · unfold cr sb
    unfold sd at g
    exact g
theorem edge_own {R : P → Bool} (h : HP R) {a b c p : P} (g : 0 < sd a b c) (h1 : sd a b p = 0) (h2 : 0 < sd b c p) (h3 : 0 < sd c a p) : (wOwn R a b p && (wOwn R b c p && wOwn R c a p)) = (R (sb b a) && !R (sb a b)) ∧ Wd (sb b a, sb a b) := by
  have n := (sd_ne g).1
  refine ⟨?_, .inr ⟨n, sub_neg _ _⟩⟩
  rw [wOwn_zero h1, wOwn_pos h2, wOwn_pos h3, sub_neg a b, h.opp _ n]
  simp
/-- on a line of two edges: the corner -/
theorem at_two {a b c p : P} (g : 0 < sd a b c) (h1 : sd a b p = 0) (h2 : sd c a p = 0) : p = a := by
  have s : sd a b p + sd b c p + sd c a p = sd a b c := by unfold sd; grind
  have k1 : sd a b c * p.1 = sd b c p * a.1 + sd c a p * b.1 + sd a b p * c.1 := by unfold sd; grind
  have k2 : sd a b c * p.2 = sd b c p * a.2 + sd c a p * b.2 + sd a b p * c.2 := by unfold sd; grind
  rw [h1, h2] at s k1 k2
  have e : sd b c p = sd a b c := by omega
  rw [e] at k1 k2
  exact P.ext (Int.eq_of_mul_eq_mul_left (show sd a b c ≠ 0 by omega) (by omega)) (Int.eq_of_mul_eq_mul_left (show sd a b c ≠ 0 by omega) (by omega))
theorem wedge_own {R : P → Bool} (h : HP R) {t : T3} (g : Good t) {p : P} : match wedge t p with
    | none => own R t p = false
    | some none => own R t p = true ∧ 0 < sd t.a t.b p ∧ 0 < sd t.b t.c p ∧ 0 < sd t.c t.a p
    | some (some w) => own R t p = (R w.1 && !R w.2) ∧ Wd w := by
  obtain ⟨a, b, c⟩ := t
  have g1 : 0 < sd a b c := g
  have g2 : 0 < sd b c a := by rw [(sd_cyc a b c).1]; exact g1
  have g3 : 0 < sd c a b := by rw [(sd_cyc a b c).2]; exact g1
  unfold wedge own
  simp only
  by_cases c0 : 0 ≤ sd a b p ∧ 0 ≤ sd b c p ∧ 0 ≤ sd c a p
  · rw [if_pos c0]
    by_cases ca : p = a
    · subst ca
      rw [if_pos rfl]
      exact corner_own h g1
    rw [if_neg ca]
    by_cases cb : p = b
    · subst cb
      rw [if_pos rfl]
      have := corner_own h g2
      refine ⟨?_, this.2⟩
      rw [← this.1]
      cases wOwn R a p p <;> cases wOwn R p c p <;> cases wOwn R c a p <;> rfl
    rw [if_neg cb]
    by_cases cc : p = c
    · subst cc
      rw [if_pos rfl]
      have := corner_own h g3
      refine ⟨?_, this.2⟩
      rw [← this.1]
      cases wOwn R a b p <;> cases wOwn R b p p <;> cases wOwn R p a p <;> rfl
    rw [if_neg cc]
    have nab : ¬ (sd a b p = 0 ∧ sd c a p = 0) := fun z => ca (at_two g1 z.1 z.2)
    have nbc : ¬ (sd b c p = 0 ∧ sd a b p = 0) := fun z => cb (at_two g2 z.1 z.2)
    have nca : ¬ (sd c a p = 0 ∧ sd b c p = 0) := fun z => cc (at_two g3 z.1 z.2)
    by_cases z1 : sd a b p = 0
    · rw [if_pos z1]
      exact edge_own h g1 z1 (by omega) (by omega)
    rw [if_neg z1]
    by_cases z2 : sd b c p = 0
    · rw [if_pos z2]
      have := edge_own h g2 z2 (by omega) (by omega)
      refine ⟨?_, this.2⟩
      rw [← this.1]
      cases wOwn R a b p <;> cases wOwn R b c p <;> cases wOwn R c a p <;> rfl
    rw [if_neg z2]
    by_cases z3 : sd c a p = 0
    · rw [if_pos z3]
      have := edge_own h g3 z3 (by omega) (by omega)
      refine ⟨?_, this.2⟩
      rw [← this.1]
      cases wOwn R a b p <;> cases wOwn R b c p <;> cases wOwn R c a p <;> rfl
    rw [if_neg z3]
    refine ⟨?_, by omega, by omega, by omega⟩
    rw [wOwn_pos (by omega), wOwn_pos (by omega), wOwn_pos (by omega)]
    rfl
  · rw [if_neg c0]
    show _ = false
    cases h1 : wOwn R a b p with
    | false => rfl
    | true =>
      cases h2 : wOwn R b c p with
      | false => rfl
      | true =>
        cases h3 : wOwn R c a p with
        | false => rfl
        | true => exact absurd ⟨wOwn_le h1, wOwn_le h2, wOwn_le h3⟩ c0
/-- shortest -/
def lw (u : P) : P := (u.1 / (Int.gcd u.1 u.2 : Int), u.2 / (Int.gcd u.1 u.2 : Int))
theorem gcd_pos {u : P} (h : u ≠ O) : 0 < (Int.gcd u.1 u.2 : Int) := by
  rw [nz] at h
  have : Int.gcd u.1 u.2 ≠ 0 := fun e => h (Int.gcd_eq_zero_iff.mp e)
  omega
theorem lw_mul (u : P) : (Int.gcd u.1 u.2 : Int) * (lw u).1 = u.1 ∧ (Int.gcd u.1 u.2 : Int) * (lw u).2 = u.2 := ⟨Int.mul_ediv_cancel' (Int.gcd_dvd_left u.1 u.2), Int.mul_ediv_cancel' (Int.gcd_dvd_right u.1 u.2)⟩
/-- inside, as the program tells it -/
def wds (ts : List T3) (p : P) : List (P × P) := ts.filterMap fun t => (wedge t p).bind id
def insB (ts : List T3) (p : P) : Bool := (ts.any fun t => decide (wedge t p = some none)) || (!(wds ts p).isEmpty && (wds ts p).all fun w => (wds ts p).any fun w' => decide (lw w'.1 = lw w.2))
theorem mem_wds {ts : List T3} {p : P} {w : P × P} : w ∈ wds ts p ↔ ∃ t ∈ ts, wedge t p = some (some w) := by
  unfold wds
  rw [List.mem_filterMap]
  constructor
  · rintro ⟨t, ht, e⟩
    refine ⟨t, ht, ?_⟩
    cases z : wedge t p with
    | none => rw [z] at e; cases e
    | some x => rw [z] at e; cases x with
      | none => cases e
      | some y => cases e; rfl
  · rintro ⟨t, ht, e⟩
    exact ⟨t, ht, by rw [e]; rfl⟩
/-! ### at most one -/
theorem own_le {R : P → Bool} {t : T3} {p : P} (h : own R t p = true) : 0 ≤ sd t.a t.b p ∧ 0 ≤ sd t.b t.c p ∧ 0 ≤ sd t.c t.a p := by
  unfold own at h
  simp only [Bool.and_eq_true] at h
  exact ⟨wOwn_le h.1, wOwn_le h.2.1, wOwn_le h.2.2⟩
/-- the edge a → b with R, a triangle on its other side that owns a point on its line -/
theorem one_corner {R : P → Bool} (h : HP R) {d e1 e2 : P} (d0 : d ≠ O) (hd : R d = true) (h1 : R e1 = true) (h2 : R e2 = true) (g : 0 < cr e1 e2) (s1 : 0 ≤ cr d e1) (s2 : cr d e2 ≤ 0) : False := by
  refine h.opp' d0 hd (h.cone e1 e2 (neg d) (cr e1 e2) (-cr d e2) (cr d e1) g (by omega) s1 h1 h2 (neg_nz d0) ?_ ?_)
  · unfold cr neg; grind
  · unfold cr neg; grind
theorem one_edge {R : P → Bool} (h : HP R) {d e q : P} (d0 : d ≠ O) (hd : R d = true) (h1 : R e = true) (par : cr d e = 0) (g : 0 < cr e q) (s : cr d q < 0) : False := by
  refine h.opp' d0 hd (h.par (m := cr e q) (α := -cr d q) g (by omega) (neg_nz d0) ?_ ?_ h1)
  · have : cr d q * e.1 = cr e q * d.1 + cr d e * q.1 := by unfold cr; grind
    rw [par] at this
    unfold neg
    simp only
    grind
  · have : cr d q * e.2 = cr e q * d.2 + cr d e * q.2 := by unfold cr; grind
    rw [par] at this
    unfold neg
    simp only
    grind
theorem not_both {R : P → Bool} (h : HP R) {a b : P} {t : T3} {p : P} (ab : sb b a ≠ O) (g : Good t) (r1 : Rt a b t.a) (r2 : Rt a b t.b) (r3 : Rt a b t.c) (ow : wOwn R a b p = true) (ot : own R t p = true) : False := by
  obtain ⟨q1, q2, q3⟩ := t
  unfold Rt at r1 r2 r3
  simp only at r1 r2 r3
  have g1 : 0 < sd q1 q2 q3 := g
  have le := own_le ot
  simp only at le
  have ow0 := wOwn_le ow
  have id : sd q1 q2 q3 * sd a b p = sd q2 q3 p * sd a b q1 + sd q3 q1 p * sd a b q2 + sd q1 q2 p * sd a b q3 := by unfold sd; grind
  have m1 : 0 ≤ sd q2 q3 p * -sd a b q1 := Int.mul_nonneg le.2.1 (by omega)
  have m2 : 0 ≤ sd q3 q1 p * -sd a b q2 := Int.mul_nonneg le.2.2 (by omega)
  have m3 : 0 ≤ sd q1 q2 p * -sd a b q3 := Int.mul_nonneg le.1 (by omega)
  have m0 := Int.mul_nonneg (Int.le_of_lt g1) ow0
  rw [Int.mul_neg] at m1 m2 m3
  have z1 : sd q2 q3 p * sd a b q1 = 0 := by omega
  have z2 : sd q3 q1 p * sd a b q2 = 0 := by omega
  have z3 : sd q1 q2 p * sd a b q3 = 0 := by omega
  have z0 : sd a b p = 0 := by
    rw [z1, z2, z3] at id
    rcases Int.mul_eq_zero.mp (id.trans (by decide)) with z | z
    · omega
    · exact z
  rw [wOwn_zero z0] at ow
  -- the second triangle is not flat
  have flat : ¬ (sd a b q1 = 0 ∧ sd a b q2 = 0 ∧ sd a b q3 = 0) := by
    rintro ⟨f1, f2, f3⟩
    have k1 : sd q1 q2 q3 * (sb b a).1 = 0 := by
      have : sd q1 q2 q3 * (sb b a).1 = (q3.1 - q1.1) * (sd a b q1 - sd a b q2) - (q2.1 - q1.1) * (sd a b q1 - sd a b q3) := by unfold sd sb; grind
      rw [f1, f2, f3] at this
      omega
    have k2 : sd q1 q2 q3 * (sb b a).2 = 0 := by
      have : sd q1 q2 q3 * (sb b a).2 = (q3.2 - q1.2) * (sd a b q1 - sd a b q2) - (q2.2 - q1.2) * (sd a b q1 - sd a b q3) := by unfold sd sb; grind
      rw [f1, f2, f3] at this
      omega
    refine ab (P.ext ?_ ?_)
    · rcases Int.mul_eq_zero.mp k1 with z | z
      · omega
      · exact z
    · rcases Int.mul_eq_zero.mp k2 with z | z
      · omega
      · exact z
  unfold own at ot
  simp only [Bool.and_eq_true] at ot
  obtain ⟨o1, o2, o3⟩ := ot
  have f1 : sd q2 q3 p ≠ 0 → sd a b q1 = 0 := fun z => by rcases Int.mul_eq_zero.mp z1 with y | y; exact absurd y z; exact y
  have f2 : sd q3 q1 p ≠ 0 → sd a b q2 = 0 := fun z => by rcases Int.mul_eq_zero.mp z2 with y | y; exact absurd y z; exact y
  have f3 : sd q1 q2 p ≠ 0 → sd a b q3 = 0 := fun z => by rcases Int.mul_eq_zero.mp z3 with y | y; exact absurd y z; exact y
  have tot : sd q1 q2 p + sd q2 q3 p + sd q3 q1 p = sd q1 q2 q3 := by unfold sd; grind
  have cd : ∀ x y : P, cr (sb b a) (sb x y) = sd a b x - sd a b y := fun x y => by unfold cr sb sd; grind
  have ce : ∀ x y z : P, cr (sb y x) (sb z y) = sd x y z := fun x y z => by unfold cr sb sd; grind
  have g2 : 0 < sd q2 q3 q1 := by rw [(sd_cyc q1 q2 q3).1]; exact g1
  have g3 : 0 < sd q3 q1 q2 := by rw [(sd_cyc q1 q2 q3).2]; exact g1
  by_cases x1 : sd q2 q3 p = 0
  · have R1 : R (sb q3 q2) = true := by rw [wOwn_zero x1] at o2; exact o2
    by_cases x2 : sd q3 q1 p = 0
    · have R2 : R (sb q1 q3) = true := by rw [wOwn_zero x2] at o3; exact o3
      have s3 := f3 (by omega)
      exact one_corner h ab ow R1 R2 (by rw [ce]; exact g2) (by rw [cd]; omega) (by rw [cd]; omega)
    · have s2 := f2 x2
      by_cases x3 : sd q1 q2 p = 0
      · have R3 : R (sb q2 q1) = true := by rw [wOwn_zero x3] at o1; exact o1
        exact one_corner h ab ow R3 R1 (by rw [ce]; exact g1) (by rw [cd]; omega) (by rw [cd]; omega)
      · have s3 := f3 x3
        exact one_edge h (q := sb q1 q3) ab ow R1 (by rw [cd]; omega) (by rw [ce]; exact g2) (by rw [cd]; omega)
  · have s1 := f1 x1
    by_cases x2 : sd q3 q1 p = 0
    · have R2 : R (sb q1 q3) = true := by rw [wOwn_zero x2] at o3; exact o3
      by_cases x3 : sd q1 q2 p = 0
      · have R3 : R (sb q2 q1) = true := by rw [wOwn_zero x3] at o1; exact o1
        exact one_corner h ab ow R2 R3 (by rw [ce]; exact g3) (by rw [cd]; omega) (by rw [cd]; omega)
      · have s3 := f3 x3
        exact one_edge h (q := sb q2 q1) ab ow R2 (by rw [cd]; omega) (by rw [ce]; exact g3) (by rw [cd]; omega)
    · have s2 := f2 x2
      by_cases x3 : sd q1 q2 p = 0
      · have R3 : R (sb q2 q1) = true := by rw [wOwn_zero x3] at o1; exact o1
        exact one_edge h (q := sb q3 q2) ab ow R3 (by rw [cd]; omega) (by rw [ce]; exact g1) (by rw [cd]; omega)
      · exact flat ⟨s1, s2, f3 x3⟩
theorem one_owner {R : P → Bool} (h : HP R) {s t : T3} (gs : Good s) (gt : Good t) (e : Ed s.a s.b s.c t.a t.b t.c) {p : P} (os : own R s p = true) (ot : own R t p = true) : False := by
  have n := sd_ne gs
  unfold own at os
  simp only [Bool.and_eq_true] at os
  rcases e with ⟨a, b, c⟩ | ⟨a, b, c⟩ | ⟨a, b, c⟩
  · exact not_both h n.1 gt a b c os.1 ot
  · exact not_both h n.2.1 gt a b c os.2.1 ot
  · exact not_both h n.2.2 gt a b c os.2.2 ot
/-- apart, by an edge of either -/
def Ap (s t : T3) : Prop := Ed s.a s.b s.c t.a t.b t.c ∨ Ed t.a t.b t.c s.a s.b s.c
theorem Ap.one {R : P → Bool} (h : HP R) {s t : T3} (gs : Good s) (gt : Good t) (e : Ap s t) {p : P} (os : own R s p = true) (ot : own R t p = true) : False := by
  rcases e with e | e
  · exact one_owner h gs gt e os ot
  · exact one_owner h gt gs e ot os
theorem few {l : List Nat} (nd : l.Nodup) (h : ∀ i ∈ l, ∀ j ∈ l, i = j) : l.length ≤ 1 := by
  match l with
  | [] => simp
  | [a] => simp
  | a :: b :: l =>
    exfalso
    have := h a (by simp) b (by simp)
    subst this
    simp at nd
end SA

set_option Elab.async false
set_option linter.all false
set_option maxRecDepth 100000
set_option maxHeartbeats 4000000
set_option autoImplicit false
/-! Rules and opposites: a point at no corner lies in none, strictly within, or on one edge of a triangle. -/
namespace SA
/-- opposite half circles -/
structure Opp (R R' : P → Bool) : Prop where
  a : HP R
  b : HP R'
  ne : ∀ d, d ≠ O → R' d = !R d
section
variable {R R' : P → Bool} {ts : List T3} {p : P}
end
theorem cr_lin {g : Int} {u v d : P} (h1 : g * v.1 = u.1) (h2 : g * v.2 = u.2) : cr u d = g * cr v d ∧ d.1 * u.1 + d.2 * u.2 = g * (d.1 * v.1 + d.2 * v.2) := by
  unfold cr
  rw [← h1, ← h2]
  constructor <;> grind
theorem hf_lw {u d : P} {ah : Bool} (hu : u ≠ O) : hf (lw u) ah d = hf u ah d := by
  obtain ⟨e1, e2⟩ := lw_mul u
  have g := gcd_pos hu
  obtain ⟨c1, c2⟩ := cr_lin (d := d) e1 e2
  unfold hf
  rw [c1, c2]
  have k1 : (Int.gcd u.1 u.2 : Int) * cr (lw u) d ≠ 0 ↔ cr (lw u) d ≠ 0 := ⟨fun h e => h (by rw [e, Int.mul_zero]), fun h e => by rcases Int.mul_eq_zero.mp e with x | x; omega; exact h x⟩
  have k2 : ∀ x : Int, 0 < (Int.gcd u.1 u.2 : Int) * x ↔ 0 < x := fun x => ⟨fun h => pos_of_mul g h, fun h => Int.mul_pos g h⟩
  simp only [k1, k2]
theorem lw_nz {u : P} (h : u ≠ O) : lw u ≠ O := fun e => by
  obtain ⟨e1, e2⟩ := lw_mul u
  rw [e] at e1 e2
  exact nz.mp h ⟨by rw [← e1]; exact Int.mul_zero _, by rw [← e2]; exact Int.mul_zero _⟩
end SA

set_option Elab.async false
set_option linter.all false
set_option maxRecDepth 100000
set_option maxHeartbeats 4000000
set_option autoImplicit false
/-! Closed sets of directions: half circles. -/
namespace SA
def tot (d e : P) : P := (3 * d.1 + 2 * e.1, 3 * d.2 + 2 * e.2)
def c2 (R : P → Bool) (d e : P) : Bool := !(R d && (R e && (decide (tot d e ≠ O) && !R (tot d e))))
def c1 (R : P → Bool) (W : List P) (d : P) : Bool := !(R d == R (neg d)) && W.all (c2 R d)
end SA

set_option Elab.async false
set_option linter.all false
set_option maxRecDepth 100000
set_option maxHeartbeats 4000000
set_option autoImplicit false
/-! Formulas of spans: what they take is what a table owns, but at corners. -/
namespace SA
def eW (l r : Bool) (a b p : P) : Bool := if a.2 = b.2 then true else (decide (0 < sd a b p) || (decide (sd a b p = 0) && (if b.2 < a.2 then l else r)))
def lo3 (x y z : Int) : Int := if x ≤ y then (if x ≤ z then x else z) else (if y ≤ z then y else z)
def hi3 (x y z : Int) : Int := if x ≤ y then (if y ≤ z then z else y) else (if x ≤ z then z else x)
def yOk (bo to : Bool) (lo hi y : Int) : Bool := (decide (lo < y) || (decide (y = lo) && bo)) && (decide (y < hi) || (decide (hi = y) && to))
def tk (l r bo to : Bool) (t : T3) (p : P) : Bool := yOk bo to (lo3 t.a.2 t.b.2 t.c.2) (hi3 t.a.2 t.b.2 t.c.2) p.2 && (eW l r t.a t.b p && (eW l r t.b t.c p && eW l r t.c t.a p))
theorem bary (a b c p : P) : sd a b c * (p.2 - a.2) = sd c a p * (b.2 - a.2) + sd a b p * (c.2 - a.2) := by unfold sd; grind
/-- two rules that are alike off (0, 0) own alike -/
theorem own_congr {R S : P → Bool} {t : T3} {p : P} (g : Good t) (h : ∀ d : P, d ≠ O → R d = S d) : own R t p = own S t p := by
  have n := sd_ne g
  unfold own wOwn
  rw [h _ n.1, h _ n.2.1, h _ n.2.2]
end SA

set_option Elab.async false
set_option linter.all false
set_option maxRecDepth 100000
set_option maxHeartbeats 4000000
set_option autoImplicit false
namespace SO
/-! directions, their order against the clock: plain lists of pairs -/
abbrev P := Int × Int
def cr (p q : P) : Int := p.1 * q.2 - p.2 * q.1
def sg (x : Int) : Int := if x = 0 then 0 else if 0 < x then 1 else -1
/-- the kind -/
def kd (p : P) : Int := if p.2 = 0 then (if 0 < p.1 then 0 else 4) else if 0 < p.2 then (if 0 < p.1 then 1 else if p.1 = 0 then 2 else 3) else (if p.1 < 0 then 5 else if p.1 = 0 then 6 else 7)
def nz (p : P) : Prop := ¬ (p.1 = 0 ∧ p.2 = 0)
/-- a way that all of a kind go with -/
def up (k : Int) : P := if k = 0 then (1, 0) else if k = 1 then (1, 1) else if k = 2 then (0, 1) else if k = 3 then (-1, 1) else if k = 4 then (-1, 0) else if k = 5 then (-1, -1) else if k = 6 then (0, -1) else (1, -1)
def dt (p q : P) : Int := p.1 * q.1 + p.2 * q.2
theorem dt_up {p : P} (h : nz p) : 0 < dt (up (kd p)) p := by
  obtain ⟨x, y⟩ := p
  unfold nz at h
  simp only at h
  unfold kd
  simp only
  repeat' split
  all_goals simp [up, dt]
  all_goals omega
theorem cr_dt (u p q r : P) : cr p r * dt u q = cr p q * dt u r + cr q r * dt u p := by
  unfold cr dt
  grind
theorem pos_of_mul {a b : Int} (hb : 0 < b) (h : 0 ≤ a * b) : 0 ≤ a := by
  apply Int.not_lt.mp
  intro ha
  have := Int.mul_neg_of_neg_of_pos ha hb
  omega
/-- p is not behind q -/
def Ord (p q : P) : Prop := kd p < kd q ∨ (kd p = kd q ∧ 0 ≤ cr p q)
theorem le_trans' {p q r : P} (hp : nz p) (hq : nz q) (hr : nz r) (h1 : kd p = kd q) (h2 : kd q = kd r) (a : 0 ≤ cr p q) (b : 0 ≤ cr q r) : 0 ≤ cr p r := by
  have u1 := dt_up hp
  have u2 := dt_up hq
  have u3 := dt_up hr
  rw [h1] at u1
  rw [← h2] at u3
  have e := cr_dt (up (kd q)) p q r
  have z1 := Int.mul_nonneg a (Int.le_of_lt u3)
  have z2 := Int.mul_nonneg b (Int.le_of_lt u1)
  exact pos_of_mul u2 (by omega)
theorem Ord.trans {p q r : P} (hp : nz p) (hq : nz q) (hr : nz r) (a : Ord p q) (b : Ord q r) : Ord p r := by
  rcases a with a | ⟨a, a'⟩
  · rcases b with b | ⟨b, b'⟩
    · exact .inl (by omega)
    · exact .inl (by omega)
  · rcases b with b | ⟨b, b'⟩
    · exact .inl (by omega)
    · exact .inr ⟨by omega, le_trans' hp hq hr a b a' b'⟩
/-! put_in -/
def insR (p : P) : List P → List P
  | [] => [p]
  | q :: t => if 0 < cr p q then q :: insR p t else p :: q :: t
def insP (p : P) (l : List P) : List P := (insR p l.reverse).reverse
def sortK (l : List P) : List P := l.foldl (fun acc p => insP p acc) []
/-! those that go the same way keep their order -/
def same (p q : P) : Prop := p.1 * q.2 = p.2 * q.1 ∧ 0 < p.1 * q.1 + p.2 * q.2
instance (p q : P) : Decidable (same p q) := by unfold same; infer_instance
end SO

set_option Elab.async false
set_option linter.all false
set_option maxRecDepth 100000
set_option maxHeartbeats 4000000
set_option autoImplicit false
namespace SO
/-- sorted_around -/
def S (l : List P) : List P := (List.range 8).flatMap fun k => sortK (l.filter fun p => decide (kd p = (k : Nat)))
/-! only one order -/
/-! a quarter -/
theorem kd_tab (x y : Int) : (y = 0 ∧ 0 < x ∧ kd (x, y) = 0) ∨ (y = 0 ∧ x ≤ 0 ∧ kd (x, y) = 4) ∨ (0 < y ∧ 0 < x ∧ kd (x, y) = 1) ∨ (0 < y ∧ x = 0 ∧ kd (x, y) = 2) ∨ (0 < y ∧ x < 0 ∧ kd (x, y) = 3) ∨ (y < 0 ∧ x < 0 ∧ kd (x, y) = 5) ∨ (y < 0 ∧ x = 0 ∧ kd (x, y) = 6) ∨ (y < 0 ∧ 0 < x ∧ kd (x, y) = 7) := by
  unfold kd
  simp only
  repeat' split
  all_goals omega
end SO

set_option Elab.async false
set_option linter.all false
set_option maxRecDepth 100000
set_option maxHeartbeats 4000000
set_option autoImplicit false
/-! Rules within rules: kinds of a half, some and all of them. -/
namespace SA
def qk (isW : Bool) (c1 c2 : Int) : Bool := if isW then decide (0 ≤ c1) && decide (0 ≤ c2) else decide (0 < c1) || decide (0 < c2)
/-- kinds of a half: some (all) of their directions are in -/
def hK (isW : Bool) (w : P) (ah : Bool) : List Bool := [hf w ah (1, 0), qk isW (cr w (1, 0)) (cr w (0, 1)), hf w ah (0, 1), qk isW (cr w (0, 1)) (cr w (-1, 0)), hf w ah (-1, 0), qk isW (cr w (-1, 0)) (cr w (0, -1)), hf w ah (0, -1), qk isW (cr w (0, -1)) (cr w (1, 0))]
section
variable {w : P} {ah : Bool}
end
end SA

set_option Elab.async false
set_option linter.all false
set_option maxRecDepth 100000
set_option maxHeartbeats 4000000
set_option autoImplicit false
/-! Rules within rules told by few directions. -/
namespace SA
def B1 : List P := [(1, 0), (5, 3), (0, 1), (-3, 5), (-1, 0), (-5, -3), (0, -1), (3, -5), (2, 7), (-7, 2), (-2, -7), (7, -2)]
def B2 : List P := [(1, 90), (90, 1), (-1, 90), (-90, 1), (-1, -90), (-90, -1), (1, -90), (90, -1)]
def units : List P := [(1, 0), (-1, 0), (0, 1), (0, -1)]
def s4 (w : P) : Prop := -4 ≤ w.1 ∧ w.1 ≤ 4 ∧ -4 ≤ w.2 ∧ w.2 ≤ 4
end SA

set_option Elab.async false
set_option linter.all false
set_option maxRecDepth 100000
set_option maxHeartbeats 4000000
set_option autoImplicit false
/-! Stretched and moved. -/
namespace SA
def mu (m : Int) (d : P) : P := (m * d.1, m * d.2)
section
variable {m : Int} {b : P}
end
end SA

set_option linter.all false
set_option maxRecDepth 100000
set_option autoImplicit false
/-! Sets of points, each once, by rows. -/
namespace SP
abbrev P := Int × Int
def lt2 (a b : P) : Prop := a.2 < b.2 ∨ (a.2 = b.2 ∧ a.1 < b.1)
abbrev Canon (l : List P) : Prop := l.Pairwise lt2
theorem lt2_irrefl {a : P} (h : lt2 a a) : False := by unfold lt2 at h; omega
theorem lt2_asymm {a b : P} (h : lt2 a b) (k : lt2 b a) : False := by unfold lt2 at h k; omega
theorem asc_ext {α : Type} {R : α → α → Prop} (irr : ∀ a, ¬ R a a) (asy : ∀ a b, R a b → ¬ R b a) : ∀ {l l' : List α}, l.Pairwise R → l'.Pairwise R → (∀ p, p ∈ l ↔ p ∈ l') → l = l'
  | [], [], _, _, _ => rfl
  | [], b :: l', _, _, e => absurd ((e b).mpr List.mem_cons_self) (by simp)
  | a :: l, [], _, _, e => absurd ((e a).mp List.mem_cons_self) (by simp)
  | a :: l, b :: l', h, h', e => by
    obtain ⟨h1, h2⟩ := List.pairwise_cons.mp h
    obtain ⟨h1', h2'⟩ := List.pairwise_cons.mp h'
    have hab : a = b := by
      rcases List.mem_cons.mp ((e a).mp List.mem_cons_self) with z | z
      · exact z
      · rcases List.mem_cons.mp ((e b).mpr List.mem_cons_self) with y | y
        · exact y.symm
        · exact (asy _ _ (h1 b y) (h1' a z)).elim
    subst hab
    congr 1
    refine asc_ext irr asy h2 h2' fun p => ⟨fun hp => ?_, fun hp => ?_⟩
    · rcases List.mem_cons.mp ((e p).mp (List.mem_cons_of_mem _ hp)) with z | z
      · exact (irr a (z ▸ h1 p hp)).elim
      · exact z
    · rcases List.mem_cons.mp ((e p).mpr (List.mem_cons_of_mem _ hp)) with z | z
      · exact (irr a (z ▸ h1' p hp)).elim
      · exact z
theorem canon_ext {l l' : List P} (h : Canon l) (h' : Canon l') (e : ∀ p, p ∈ l ↔ p ∈ l') : l = l' := asc_ext (fun _ => lt2_irrefl) (fun _ _ => lt2_asymm) h h' e
theorem int_ext {l l' : List Int} (h : l.Pairwise (· < ·)) (h' : l'.Pairwise (· < ·)) (e : ∀ p, p ∈ l ↔ p ∈ l') : l = l' := asc_ext (R := fun a b : Int => a < b) (fun a => Int.lt_irrefl a) (fun a b => Int.lt_asymm) h h' e
theorem canon_nodup {l : List P} (h : Canon l) : l.Nodup := List.Pairwise.imp (fun {a b} (r : lt2 a b) => fun (e : a = b) => lt2_irrefl (e ▸ r)) h
theorem canon_filter {l : List P} (f : P → Bool) (h : Canon l) : Canon (l.filter f) := h.filter _
/-- rows put together -/
theorem canon_rows {xs : Int → List Int} : ∀ {ys : List Int}, ys.Pairwise (· < ·) → (∀ y, (xs y).Pairwise (· < ·)) → Canon (ys.flatMap fun y => (xs y).map fun x => (x, y))
  | [], _, _ => by simp [Canon]
  | y :: ys, h, hx => by
    obtain ⟨h1, h2⟩ := List.pairwise_cons.mp h
    rw [List.flatMap_cons]
    refine List.pairwise_append.mpr ⟨?_, canon_rows h2 hx, fun a ha b hb => ?_⟩
    · rw [List.pairwise_map]
      exact (hx y).imp fun {a b} r => .inr ⟨rfl, r⟩
    · obtain ⟨x, _, rfl⟩ := List.mem_map.mp ha
      obtain ⟨y', hy', hb⟩ := List.mem_flatMap.mp hb
      obtain ⟨x', _, rfl⟩ := List.mem_map.mp hb
      exact .inl (h1 y' hy')
theorem rows_mem {xs : Int → List Int} {ys : List Int} {p : P} : p ∈ (ys.flatMap fun y => (xs y).map fun x => (x, y)) ↔ p.2 ∈ ys ∧ p.1 ∈ xs p.2 := by
  rw [List.mem_flatMap]
  constructor
  · rintro ⟨y, hy, hp⟩
    obtain ⟨x, hx, rfl⟩ := List.mem_map.mp hp
    exact ⟨hy, hx⟩
  · rintro ⟨h1, h2⟩
    exact ⟨p.2, h1, List.mem_map.mpr ⟨p.1, h2, rfl⟩⟩
/-! ### steps -/
/-- a, a + st, .. up to h -/
def ups (a st h : Int) : List Int := (List.range ((h - a) / st + 1).toNat).map fun (i : Nat) => a + (i : Int) * st
theorem ups_mem {a st h z : Int} (hs : 1 ≤ st) : z ∈ ups a st h ↔ a ≤ z ∧ z ≤ h ∧ (z - a) % st = 0 := by
  unfold ups
  rw [List.mem_map]
  constructor
  · rintro ⟨i, hi, rfl⟩
    have hi := List.mem_range.mp hi
    have h1 : (i : Int) ≤ (h - a) / st := by omega
    have h2 := Int.mul_le_mul_of_nonneg_right h1 (show 0 ≤ st by omega)
    have h3 := Int.ediv_mul_le (h - a) (show st ≠ 0 by omega)
    refine ⟨?_, by omega, ?_⟩
    · have : 0 ≤ (i : Int) * st := Int.mul_nonneg (by omega) (by omega)
      omega
    · rw [show a + (i : Int) * st - a = i * st by omega]
      exact Int.mul_emod_left _ _
  · rintro ⟨h1, h2, h3⟩
    obtain ⟨k, hk⟩ := Int.dvd_of_emod_eq_zero h3
    have hk0 : 0 ≤ k := by
      by_cases c : 0 ≤ k
      · exact c
      · have := Int.mul_le_mul_of_nonneg_left (show k ≤ -1 by omega) (show 0 ≤ st by omega)
        omega
    have hk1 : k ≤ (h - a) / st := by
      rw [Int.le_ediv_iff_mul_le (by omega)]
      rw [Int.mul_comm]
      omega
    refine ⟨k.toNat, List.mem_range.mpr (by omega), ?_⟩
    rw [Int.toNat_of_nonneg hk0, Int.mul_comm]
    omega
theorem ups_asc {a st h : Int} (hs : 1 ≤ st) : (ups a st h).Pairwise (· < ·) := by
  unfold ups
  rw [List.pairwise_map]
  refine List.pairwise_lt_range.imp fun {i j} r => ?_
  have := Int.mul_lt_mul_of_pos_right (show (i : Int) < j by omega) (show 0 < st by omega)
  omega
theorem ups_nil {a st h : Int} (hs : 1 ≤ st) (c : h < a) : ups a st h = [] := by
  unfold ups
  have : (h - a) / st < 0 := by
    rw [Int.ediv_lt_iff_lt_mul (by omega)]
    omega
  rw [show ((h - a) / st + 1).toNat = 0 by omega]
  rfl
/-- the first number from a on with rest r -/
def fst (a r st : Int) : Int := a + (r - a) % st
theorem fst_mem {a r st h z : Int} (hs : 1 ≤ st) : z ∈ ups (fst a r st) st h ↔ a ≤ z ∧ z ≤ h ∧ (z - r) % st = 0 := by
  rw [ups_mem hs]
  unfold fst
  have h0 := Int.emod_nonneg (r - a) (show st ≠ 0 by omega)
  have h1 := Int.emod_lt_of_pos (r - a) (show 0 < st by omega)
  have e : (z - (a + (r - a) % st)) % st = (z - r) % st := by
    rw [show z - (a + (r - a) % st) = (z - a) - (r - a) % st by omega, Int.sub_emod, Int.emod_emod, ← Int.sub_emod]
    congr 1
    omega
  rw [e]
  refine ⟨fun ⟨a1, a2, a3⟩ => ⟨by omega, a2, a3⟩, fun ⟨a1, a2, a3⟩ => ⟨?_, a2, a3⟩⟩
  -- z - r and a + .. have the same rest
  obtain ⟨k, hk⟩ := Int.dvd_of_emod_eq_zero a3
  have hd := Int.emod_add_mul_ediv (r - a) st
  by_cases c : a + (r - a) % st ≤ z
  · exact c
  · -- z < a + rest, z ≥ a: then st divides a number strictly between
    have e2 : z - a = st * (k + (r - a) / st) + (r - a) % st := by
      rw [Int.mul_add]
      omega
    have : k + (r - a) / st ≤ -1 ∨ 0 ≤ k + (r - a) / st := by omega
    rcases this with t | t
    · have := Int.mul_le_mul_of_nonneg_left t (show 0 ≤ st by omega)
      omega
    · have := Int.mul_le_mul_of_nonneg_left t (show 0 ≤ st by omega)
      omega
/-- the samples of a box -/
def box (st rx ry : Int) (lo hi : P) : List P := (ups (fst lo.2 ry st) st hi.2).flatMap fun y => (ups (fst lo.1 rx st) st hi.1).map fun x => (x, y)
theorem box_canon {st rx ry : Int} {lo hi : P} (hs : 1 ≤ st) : Canon (box st rx ry lo hi) := canon_rows (xs := fun _ => ups (fst lo.1 rx st) st hi.1) (ups_asc hs) fun _ => ups_asc hs
theorem box_mem {st rx ry : Int} {lo hi p : P} (hs : 1 ≤ st) : p ∈ box st rx ry lo hi ↔ (lo.1 ≤ p.1 ∧ p.1 ≤ hi.1 ∧ (p.1 - rx) % st = 0) ∧ (lo.2 ≤ p.2 ∧ p.2 ≤ hi.2 ∧ (p.2 - ry) % st = 0) := by
  unfold box
  rw [rows_mem (xs := fun _ => ups (fst lo.1 rx st) st hi.1), fst_mem hs, fst_mem hs]
  exact ⟨fun ⟨a, b⟩ => ⟨b, a⟩, fun ⟨a, b⟩ => ⟨b, a⟩⟩
theorem nodup_len {α : Type} [DecidableEq α] : ∀ {l l' : List α}, l.Nodup → (∀ x ∈ l, x ∈ l') → l.length ≤ l'.length
  | [], _, _, _ => Nat.zero_le _
  | a :: l, l', h, k => by
    obtain ⟨h1, h2⟩ := List.nodup_cons.mp h
    have ha := k a List.mem_cons_self
    have ih := nodup_len (l := l) (l' := l'.erase a) h2 fun x hx => by
      have hne : x ≠ a := fun e => h1 (e ▸ hx)
      exact (List.mem_erase_of_ne hne).mpr (k x (List.mem_cons_of_mem _ hx))
    rw [List.length_erase_of_mem ha] at ih
    have := List.length_pos_of_mem ha
    rw [List.length_cons]
    omega
theorem rows_len {xs : List Int} : ∀ {ys : List Int}, (ys.flatMap fun y => xs.map fun x => ((x, y) : P)).length = ys.length * xs.length
  | [] => by simp
  | y :: ys => by
    rw [List.flatMap_cons, List.length_append, rows_len, List.length_map, List.length_cons, Nat.add_mul, Nat.one_mul, Nat.add_comm]
theorem ups_len {a st h : Int} (hs : 1 ≤ st) {n : Nat} (hn : h - a < n) : (ups a st h).length ≤ n := by
  unfold ups
  rw [List.length_map, List.length_range]
  by_cases c : 0 ≤ h - a
  · have h1 := Int.ediv_le_self st c
    omega
  · have : (h - a) / st < 0 := by
      rw [Int.ediv_lt_iff_lt_mul (by omega)]
      omega
    omega
theorem box_len {st rx ry : Int} {lo hi : P} (hs : 1 ≤ st) {n m : Nat} (hn : hi.1 - lo.1 < n) (hm : hi.2 - lo.2 < m) : (box st rx ry lo hi).length ≤ m * n := by
  unfold box
  rw [rows_len]
  have f1 : ∀ a r, a ≤ fst a r st := fun a r => by
    unfold fst
    have := Int.emod_nonneg (r - a) (show st ≠ 0 by omega)
    omega
  exact Nat.mul_le_mul (ups_len hs (by have := f1 lo.2 ry; omega)) (ups_len hs (by have := f1 lo.1 rx; omega))
end SP

set_option linter.all false
set_option maxRecDepth 100000
set_option autoImplicit false
namespace SA
theorem wOwn_nn {R : P → Bool} {a b p : P} (h : wOwn R a b p = true) : 0 ≤ sd a b p := by
  unfold wOwn at h
  simp only [Bool.or_eq_true, Bool.and_eq_true, decide_eq_true_eq] at h
  omega
theorem in_side {s1 s2 s3 A x a b c lo : Int} (hA : 0 < A) (e : A * x = s1 * a + s2 * b + s3 * c) (es : s1 + s2 + s3 = A) (h1 : 0 ≤ s1) (h2 : 0 ≤ s2) (h3 : 0 ≤ s3) (ha : lo ≤ a) (hb : lo ≤ b) (hc : lo ≤ c) : lo ≤ x := by
  have k1 := Int.mul_nonneg h1 (show 0 ≤ a - lo by omega)
  have k2 := Int.mul_nonneg h2 (show 0 ≤ b - lo by omega)
  have k3 := Int.mul_nonneg h3 (show 0 ≤ c - lo by omega)
  have e2 : A * (x - lo) = s1 * (a - lo) + s2 * (b - lo) + s3 * (c - lo) := by
    subst es
    grind
  by_cases q : lo ≤ x
  · exact q
  · have := Int.mul_le_mul_of_nonneg_left (show x - lo ≤ -1 by omega) (Int.le_of_lt hA)
    omega
/-- what is within all sides is within the box -/
theorem in_box {a b c p lo hi : P} (g : 0 < sd a b c) (h1 : 0 ≤ sd a b p) (h2 : 0 ≤ sd b c p) (h3 : 0 ≤ sd c a p) (hb : ∀ q ∈ [a, b, c], lo.1 ≤ q.1 ∧ q.1 ≤ hi.1 ∧ lo.2 ≤ q.2 ∧ q.2 ≤ hi.2) : lo.1 ≤ p.1 ∧ p.1 ≤ hi.1 ∧ lo.2 ≤ p.2 ∧ p.2 ≤ hi.2 := by
  have ha := hb a (by simp)
  have hbb := hb b (by simp)
  have hc := hb c (by simp)
  have es : sd b c p + sd c a p + sd a b p = sd a b c := by unfold sd; grind
  have ex : sd a b c * p.1 = sd b c p * a.1 + sd c a p * b.1 + sd a b p * c.1 := by unfold sd; grind
  have ey : sd a b c * p.2 = sd b c p * a.2 + sd c a p * b.2 + sd a b p * c.2 := by unfold sd; grind
  refine ⟨in_side g ex es h2 h3 h1 ha.1 hbb.1 hc.1, ?_, in_side g ey es h2 h3 h1 ha.2.2.1 hbb.2.2.1 hc.2.2.1, ?_⟩
  · have := in_side (lo := -hi.1) (x := -p.1) (a := -a.1) (b := -b.1) (c := -c.1) g (by rw [Int.mul_neg, ex]; grind) es h2 h3 h1 (by omega) (by omega) (by omega)
    omega
  · have := in_side (lo := -hi.2) (x := -p.2) (a := -a.2) (b := -b.2) (c := -c.2) g (by rw [Int.mul_neg, ey]; grind) es h2 h3 h1 (by omega) (by omega) (by omega)
    omega
theorem own_box {R : P → Bool} {t : T3} {p lo hi : P} (g : Good t) (h : own R t p = true) (hb : ∀ q ∈ [t.a, t.b, t.c], lo.1 ≤ q.1 ∧ q.1 ≤ hi.1 ∧ lo.2 ≤ q.2 ∧ q.2 ≤ hi.2) : lo.1 ≤ p.1 ∧ p.1 ≤ hi.1 ∧ lo.2 ≤ p.2 ∧ p.2 ≤ hi.2 := by
  unfold own at h
  simp only [Bool.and_eq_true] at h
  exact in_box g (wOwn_nn h.1) (wOwn_nn h.2.1) (wOwn_nn h.2.2) hb
end SA

set_option Elab.async false
set_option linter.all false
set_option maxRecDepth 100000
set_option maxHeartbeats 4000000
set_option autoImplicit false
/-! Samples moved, stretched and put together. -/
namespace SA
section
variable {m : Int}
end
end SA
namespace SP
open SA
/-- what lies in a box is few -/
theorem few {l : List P} {lo hi : P} {n m : Nat} (h : Canon l) (hb : ∀ p ∈ l, lo.1 ≤ p.1 ∧ p.1 ≤ hi.1 ∧ lo.2 ≤ p.2 ∧ p.2 ≤ hi.2) (hn : hi.1 - lo.1 < n) (hm : hi.2 - lo.2 < m) : l.length ≤ m * n := by
  refine Nat.le_trans (nodup_len (canon_nodup h) (l' := box 1 0 0 lo hi) fun x hx => ?_) (box_len (by decide) hn hm)
  have := hb x hx
  exact (box_mem (by decide)).mpr ⟨⟨this.1, this.2.1, by omega⟩, this.2.2.1, this.2.2.2, by omega⟩
end SP

set_option Elab.async false
set_option linter.all false
set_option maxRecDepth 100000
set_option maxHeartbeats 4000000
set_option autoImplicit false
/-! Turns: what a way adds; the ways of a triangle add what it owns. -/
namespace SA
theorem lex_ge {S F G N : Int} (hN : F.natAbs + G.natAbs + 1 ≤ N) (hS : 1 ≤ S) : 0 < N * N * S + N * F + G := by
  have n0 : 0 ≤ N := by omega
  have h1 : N * N * 1 ≤ N * N * S := Int.mul_le_mul_of_nonneg_left hS (Int.mul_nonneg n0 n0)
  have h2 : N * (F.natAbs + G.natAbs + 1) ≤ N * N := Int.mul_le_mul_of_nonneg_left hN n0
  have h3 : N * (-(F.natAbs : Int)) ≤ N * F := Int.mul_le_mul_of_nonneg_left (by omega) n0
  have h4 : 1 * (G.natAbs : Int) ≤ N * G.natAbs := Int.mul_le_mul_of_nonneg_right (by omega) (by omega)
  rw [Int.mul_add, Int.mul_add, Int.mul_one] at h2
  rw [Int.mul_neg] at h3
  omega
theorem lex_f {F G N : Int} (hN : F.natAbs + G.natAbs + 1 ≤ N) (hF : 1 ≤ F) : 0 < N * F + G := by
  have h1 : N * 1 ≤ N * F := Int.mul_le_mul_of_nonneg_left hF (by omega)
  omega
def lexP (S F G : Int) : Bool := decide (0 < S) || (decide (S = 0) && (decide (0 < F) || (decide (F = 0) && decide (0 < G))))
theorem lex_pos {S F G N : Int} (hN : F.natAbs + G.natAbs + 1 ≤ N) (h : lexP S F G = true) : 0 < N * N * S + N * F + G := by
  unfold lexP at h
  simp only [Bool.or_eq_true, Bool.and_eq_true, decide_eq_true_iff] at h
  rcases h with h | ⟨h, h2⟩
  · exact lex_ge hN h
  · subst h
    rw [Int.mul_zero, Int.zero_add]
    rcases h2 with h2 | ⟨h2, h3⟩
    · exact lex_f hN h2
    · subst h2
      rw [Int.mul_zero]
      omega
theorem lex_neg {S F G N : Int} (hN : F.natAbs + G.natAbs + 1 ≤ N) (nz : ¬ (S = 0 ∧ F = 0 ∧ G = 0)) (h : lexP S F G = false) : N * N * S + N * F + G < 0 := by
  have e : lexP (-S) (-F) (-G) = true := by
    unfold lexP at h ⊢
    simp only [Bool.or_eq_true, Bool.and_eq_true, decide_eq_true_iff, Bool.or_eq_false_iff, Bool.and_eq_false_iff, decide_eq_false_iff_not] at h ⊢
    omega
  have := lex_pos (N := N) (by omega) e
  rw [Int.mul_neg, Int.mul_neg] at this
  omega
/-- the two shifts of a half, as told by an edge's direction d -/
def gF (w d : P) : Int := cr w d
def gG (w : P) (ah : Bool) (d : P) : Int := if ah then d.1 * w.1 + d.2 * w.2 else -(d.1 * w.1 + d.2 * w.2)
def left (w : P) (ah : Bool) (a b p : P) : Bool := decide (0 < sd a b p) || (decide (sd a b p = 0) && hf w ah (sb b a))
theorem hf_lex {w d : P} {ah : Bool} (hw : w ≠ O) (hd : d ≠ O) : hf w ah d = (decide (0 < gF w d) || (decide (gF w d = 0) && decide (0 < gG w ah d))) := by
  unfold hf gF gG
  by_cases c : cr w d = 0
  · have := dot_nz hw hd c
    rw [if_neg (by omega), c]
    generalize d.1 * w.1 + d.2 * w.2 = x at this
    cases ah
    · by_cases x0 : 0 < x
      · simp [x0]; omega
      · simp [x0]; omega
    · by_cases x0 : 0 < x
      · simp [x0]
      · simp [x0]
  · rw [if_pos c]
    simp [c]
theorem left_lex {w a b p : P} {ah : Bool} (hw : w ≠ O) (hd : sb b a ≠ O) : left w ah a b p = lexP (sd a b p) (gF w (sb b a)) (gG w ah (sb b a)) := by
  unfold left lexP
  rw [hf_lex hw hd]
/-- the moved point, all seen greater -/
def up1 (w : P) : P := (-w.1, -w.2)
def up2 (w : P) (ah : Bool) : P := if ah then (-w.2, w.1) else (w.2, -w.1)
def big (N : Int) (a : P) : P := (N * N * a.1, N * N * a.2)
def bigP (w : P) (ah : Bool) (N : Int) (p : P) : P := (N * N * p.1 + N * (up1 w).1 + (up2 w ah).1, N * N * p.2 + N * (up1 w).2 + (up2 w ah).2)
theorem sd_big {w a b p : P} {ah : Bool} {N : Int} : sd (big N a) (big N b) (bigP w ah N p) = (N * N) * (N * N * sd a b p + N * gF w (sb b a) + gG w ah (sb b a)) := by
  unfold sd big bigP gF gG cr sb up1 up2
  cases ah <;> simp only [if_true, if_false, Bool.false_eq_true] <;> grind
def below (w : P) (ah : Bool) (a p : P) : Bool := decide (a.2 < p.2) || (decide (a.2 = p.2) && (decide (0 < (up1 w).2) || (decide ((up1 w).2 = 0) && decide (0 < (up2 w ah).2))))
theorem below_lex {w a p : P} {ah : Bool} : below w ah a p = lexP (p.2 - a.2) (up1 w).2 (up2 w ah).2 := by
  unfold below lexP
  congr 1
  · congr 1
    apply propext
    omega
  · congr 1
    congr 1
    apply propext
    omega
theorem y_big {w a p : P} {ah : Bool} {N : Int} : (bigP w ah N p).2 - (big N a).2 = N * N * (p.2 - a.2) + N * (up1 w).2 + (up2 w ah).2 := by
  unfold big bigP
  simp only
  grind
theorem gG_nz {w d : P} {ah : Bool} (hw : w ≠ O) (hd : d ≠ O) : ¬ (gF w d = 0 ∧ gG w ah d = 0) := by
  rintro ⟨h1, h2⟩
  have := dot_nz hw hd h1
  unfold gG at h2
  cases ah <;> simp at h2 <;> omega
theorem up_nz {w : P} {ah : Bool} (hw : w ≠ O) : ¬ ((up1 w).2 = 0 ∧ (up2 w ah).2 = 0) := by
  rw [nz] at hw
  unfold up1 up2
  cases ah <;> simp <;> omega
/-- signs at a great N -/
theorem sd_pos {w a b p : P} {ah : Bool} {N : Int} (hw : w ≠ O) (hd : sb b a ≠ O) (hN : (gF w (sb b a)).natAbs + (gG w ah (sb b a)).natAbs + 1 ≤ N) : (left w ah a b p = true → 0 < sd (big N a) (big N b) (bigP w ah N p)) ∧ (left w ah a b p = false → sd (big N a) (big N b) (bigP w ah N p) < 0) := by
  have n0 : 0 < N * N := Int.mul_pos (by omega) (by omega)
  rw [sd_big, left_lex hw hd]
  constructor
  · intro h
    exact Int.mul_pos n0 (lex_pos hN h)
  · intro h
    exact Int.mul_neg_of_pos_of_neg n0 (lex_neg hN (fun z => gG_nz hw hd ⟨z.2.1, z.2.2⟩) h)
theorem y_pos {w a p : P} {ah : Bool} {N : Int} (hw : w ≠ O) (hN : ((up1 w).2).natAbs + ((up2 w ah).2).natAbs + 1 ≤ N) : (below w ah a p = true → 0 < (bigP w ah N p).2 - (big N a).2) ∧ (below w ah a p = false → (bigP w ah N p).2 - (big N a).2 < 0) := by
  rw [y_big, below_lex]
  exact ⟨fun h => lex_pos hN h, fun h => lex_neg hN (fun z => up_nz hw ⟨z.2.1, z.2.2⟩) h⟩
/-- what a way adds to the turns around a point -/
def way (w : P) (ah : Bool) (p a b : P) : Int := if below w ah a p == below w ah b p then 0 else (if below w ah a p && left w ah a b p then 1 else 0) - (if below w ah b p && !left w ah a b p then 1 else 0)
def wayB (ba bb l : Bool) : Int := if ba == bb then 0 else (if ba && l then 1 else 0) - (if bb && !l then 1 else 0)
theorem way_eq {w p a b : P} {ah : Bool} : way w ah p a b = wayB (below w ah a p) (below w ah b p) (left w ah a b p) := rfl
def sgn (b : Bool) (x : Int) : Prop := (b = true → 0 < x) ∧ (b = false → x < 0)
theorem sgn_mul {b c : Bool} {x y : Int} (h1 : sgn b x) (h2 : sgn c y) : (b = c → 0 < x * y) ∧ (b ≠ c → x * y < 0) := by
  cases b <;> cases c
  · exact ⟨fun _ => Int.mul_pos_of_neg_of_neg (h1.2 rfl) (h2.2 rfl), fun h => absurd rfl h⟩
  · exact ⟨fun h => (nomatch h), fun _ => Int.mul_neg_of_neg_of_pos (h1.2 rfl) (h2.1 rfl)⟩
  · exact ⟨fun h => (nomatch h), fun _ => Int.mul_neg_of_pos_of_neg (h1.1 rfl) (h2.2 rfl)⟩
  · exact ⟨fun _ => Int.mul_pos (h1.1 rfl) (h2.1 rfl), fun h => absurd rfl h⟩
theorem signs {l1 l2 l3 b1 b2 b3 : Bool} {s1 s2 s3 y1 y2 y3 : Int} (h1 : sgn l1 s1) (h2 : sgn l2 s2) (h3 : sgn l3 s3) (k1 : sgn b1 y1) (k2 : sgn b2 y2) (k3 : sgn b3 y3) (sum : 0 < s1 + s2 + s3) (bary : s2 * y1 + s3 * y2 + s1 * y3 = 0) :
    wayB b1 b2 l1 + wayB b2 b3 l2 + wayB b3 b1 l3 = if l1 && (l2 && l3) then 1 else 0 := by
  have p1 := sgn_mul h2 k1
  have p2 := sgn_mul h3 k2
  have p3 := sgn_mul h1 k3
  unfold sgn at h1 h2 h3
  generalize s2 * y1 = q1 at *
  generalize s3 * y2 = q2 at *
  generalize s1 * y3 = q3 at *
  clear k1 k2 k3
  cases l1 <;> cases l2 <;> cases l3 <;> cases b1 <;> cases b2 <;> cases b3 <;> first | decide | (exfalso; simp at p1 p2 p3 h1 h2 h3; omega)
theorem sum_sd (a b c p : P) : sd a b p + sd b c p + sd c a p = sd a b c := by unfold sd; grind
theorem bary_y (a b c p : P) : sd b c p * (p.2 - a.2) + sd c a p * (p.2 - b.2) + sd a b p * (p.2 - c.2) = 0 := by unfold sd; grind
theorem big_sd {N : Int} {a b c : P} : sd (big N a) (big N b) (big N c) = (N * N) * (N * N) * sd a b c := by unfold sd big; simp only; grind
/-- the ways of a triangle against the clock add up to what it owns -/
theorem tri_ways {w p : P} {ah : Bool} (hw : w ≠ O) {t : T3} (g : Good t) : way w ah p t.a t.b + way w ah p t.b t.c + way w ah p t.c t.a = if own (hf w ah) t p then 1 else 0 := by
  obtain ⟨a, b, c⟩ := t
  unfold Good at g
  simp only at g
  obtain ⟨n1, n2, n3⟩ := sd_ne g
  obtain ⟨N, hN⟩ : ∃ N : Int, N = (gF w (sb b a)).natAbs + (gG w ah (sb b a)).natAbs + (gF w (sb c b)).natAbs + (gG w ah (sb c b)).natAbs + (gF w (sb a c)).natAbs + (gG w ah (sb a c)).natAbs + ((up1 w).2).natAbs + ((up2 w ah).2).natAbs + 1 := ⟨_, rfl⟩
  have h1 : sgn (left w ah a b p) (sd (big N a) (big N b) (bigP w ah N p)) := sd_pos hw n1 (by omega)
  have h2 : sgn (left w ah b c p) (sd (big N b) (big N c) (bigP w ah N p)) := sd_pos hw n2 (by omega)
  have h3 : sgn (left w ah c a p) (sd (big N c) (big N a) (bigP w ah N p)) := sd_pos hw n3 (by omega)
  have k1 : sgn (below w ah a p) ((bigP w ah N p).2 - (big N a).2) := y_pos hw (by omega)
  have k2 : sgn (below w ah b p) ((bigP w ah N p).2 - (big N b).2) := y_pos hw (by omega)
  have k3 : sgn (below w ah c p) ((bigP w ah N p).2 - (big N c).2) := y_pos hw (by omega)
  have n0 : 0 < N * N := Int.mul_pos (by omega) (by omega)
  have sum : 0 < sd (big N a) (big N b) (bigP w ah N p) + sd (big N b) (big N c) (bigP w ah N p) + sd (big N c) (big N a) (bigP w ah N p) := by
    rw [sum_sd, big_sd]
    exact Int.mul_pos (Int.mul_pos n0 n0) g
  have := signs h1 h2 h3 k1 k2 k3 sum (bary_y _ _ _ _)
  simp only [way_eq]
  exact this
theorem left_swap {w a b p : P} {ah : Bool} (hw : w ≠ O) (hab : sb b a ≠ O) : left w ah b a p = !left w ah a b p := by
  have e : sd b a p = - sd a b p := by unfold sd; grind
  have e2 : sb a b = neg (sb b a) := sub_neg a b
  unfold left
  rw [e, e2, (hf_hp hw).opp _ hab]
  generalize hf w ah (sb b a) = r
  by_cases c : sd a b p = 0
  · simp [c]
  · by_cases c2 : 0 < sd a b p
    · have h1 : ¬ (0 < - sd a b p) := by omega
      simp [c2, c, h1]
      omega
    · have h1 : 0 < - sd a b p := by omega
      simp [c2, c, h1]
      omega
theorem way_swap {w p a b : P} {ah : Bool} (hw : w ≠ O) : way w ah p b a = - way w ah p a b := by
  rw [way_eq, way_eq]
  by_cases c : sb b a = O
  · have e : a = b := by
      unfold sb O at c
      have c1 := congrArg (fun z : P => z.1) c
      have c2 := congrArg (fun z : P => z.2) c
      simp only at c1 c2
      exact Prod.ext (by omega) (by omega)
    subst e
    unfold wayB
    cases below w ah a p <;> rfl
  · rw [left_swap hw c]
    generalize below w ah a p = x
    generalize below w ah b p = y
    generalize left w ah a b p = l
    cases x <;> cases y <;> cases l <;> decide
/-- any triple: against the clock what it owns, with it what it owns turned over, taken away -/
def ahead (w : P) (ah : Bool) (a b c p : P) : Bool := decide (0 < sd a b c) && own (hf w ah) ⟨a, b, c⟩ p
def back (w : P) (ah : Bool) (a b c p : P) : Bool := decide (sd a b c < 0) && own (hf w ah) ⟨a, c, b⟩ p
end SA

set_option Elab.async false
set_option linter.all false
set_option maxRecDepth 100000
set_option maxHeartbeats 4000000
set_option autoImplicit false
/-! Turned and moved planes; sums of ways of rims and rings. -/
namespace SA
/-- a map of the plane that keeps sides; L: what it does to directions -/
structure Iso (φ L : P → P) : Prop where
  sd : ∀ a b p, sd (φ a) (φ b) (φ p) = sd a b p
  sb : ∀ a b, sb (φ a) (φ b) = L (sb a b)
  inj : ∀ a b, φ a = φ b ↔ a = b
  lw : ∀ d e, d ≠ O → e ≠ O → (lw (L d) = lw (L e) ↔ lw d = lw e)
def mT (φ : P → P) (t : T3) : T3 := ⟨φ t.a, φ t.b, φ t.c⟩
section
variable {φ L : P → P} {R R' : P → Bool}
theorem Iso.own (I : Iso φ L) (h : ∀ d, R' (L d) = R d) (t : T3) (p : P) : own R' (mT φ t) (φ p) = own R t p := by
  unfold SA.own wOwn mT
  simp only [I.sd, I.sb, h]
theorem Iso.rt (I : Iso φ L) {x y z : P} (h : Rt x y z) : Rt (φ x) (φ y) (φ z) := by
  unfold Rt at *
  rw [I.sd]
  exact h
theorem Iso.ed (I : Iso φ L) {a c e p q r : P} (h : Ed a c e p q r) : Ed (φ a) (φ c) (φ e) (φ p) (φ q) (φ r) := by
  rcases h with ⟨h1, h2, h3⟩ | ⟨h1, h2, h3⟩ | ⟨h1, h2, h3⟩
  · exact .inl ⟨I.rt h1, I.rt h2, I.rt h3⟩
  · exact .inr (.inl ⟨I.rt h1, I.rt h2, I.rt h3⟩)
  · exact .inr (.inr ⟨I.rt h1, I.rt h2, I.rt h3⟩)
def L2w (L : P → P) (w : P × P) : P × P := (L w.1, L w.2)
theorem Iso.wedge (I : Iso φ L) (t : T3) (p : P) : wedge (mT φ t) (φ p) = (wedge t p).map fun o => o.map (L2w L) := by
  unfold SA.wedge mT
  simp only [I.sd, I.sb, I.inj]
  repeat' split
  all_goals rfl
theorem Iso.wds (I : Iso φ L) (ts : List T3) (p : P) : wds (ts.map (mT φ)) (φ p) = (wds ts p).map (L2w L) := by
  unfold SA.wds
  rw [List.filterMap_map, List.map_filterMap]
  congr 1
  funext t
  simp only [Function.comp]
  rw [I.wedge]
  cases SA.wedge t p with
  | none => rfl
  | some o => cases o <;> rfl
theorem wds_nz {ts : List T3} (hg : ∀ t ∈ ts, Good t) {p : P} : ∀ w ∈ wds ts p, w.1 ≠ O ∧ w.2 ≠ O := fun w hw => by
  obtain ⟨t, ht, e⟩ := mem_wds.mp hw
  have := wedge_own (hf_hp (w := (1, 0)) (ah := true) (by decide)) (hg t ht) (p := p)
  rw [e] at this
  exact this.2.nz
theorem Iso.insB (I : Iso φ L) {ts : List T3} (hg : ∀ t ∈ ts, Good t) (p : P) : insB (ts.map (mT φ)) (φ p) = insB ts p := by
  have e1 : ∀ t : T3, decide (SA.wedge (mT φ t) (φ p) = some none) = decide (SA.wedge t p = some none) := fun t => by
    rw [I.wedge]
    cases SA.wedge t p with
    | none => rfl
    | some o => cases o <;> simp
  unfold SA.insB
  rw [I.wds, List.any_map]
  congr 1
  · congr 1
    funext t
    exact e1 t
  · congr 1
    · cases SA.wds ts p <;> rfl
    · rw [List.all_map]
      have nz := wds_nz hg (p := p)
      generalize SA.wds ts p = ws at nz
      rw [Bool.eq_iff_iff, List.all_eq_true, List.all_eq_true]
      constructor
      · intro h w hw
        obtain ⟨w', hw', e⟩ := List.any_eq_true.mp (h w hw)
        obtain ⟨w0, h0, rfl⟩ := List.mem_map.mp hw'
        exact List.any_eq_true.mpr ⟨w0, h0, decide_eq_true ((I.lw _ _ (nz w0 h0).1 (nz w hw).2).mp (of_decide_eq_true e))⟩
      · intro h w hw
        obtain ⟨w', hw', e⟩ := List.any_eq_true.mp (h w hw)
        exact List.any_eq_true.mpr ⟨L2w L w', List.mem_map.mpr ⟨w', hw', rfl⟩, decide_eq_true ((I.lw _ _ (nz w' hw').1 (nz w hw).2).mpr (of_decide_eq_true e))⟩
theorem Iso.ahead (I : Iso φ L) {w w' : P} {ah : Bool} (h : ∀ d, hf w' ah (L d) = hf w ah d) (a b c p : P) : ahead w' ah (φ a) (φ b) (φ c) (φ p) = ahead w ah a b c p := by
  unfold SA.ahead
  rw [I.sd]
  have := I.own h ⟨a, b, c⟩ p
  unfold mT at this
  rw [this]
theorem Iso.back (I : Iso φ L) {w w' : P} {ah : Bool} (h : ∀ d, hf w' ah (L d) = hf w ah d) (a b c p : P) : back w' ah (φ a) (φ b) (φ c) (φ p) = back w ah a b c p := by
  unfold SA.back
  rw [I.sd]
  have := I.own h ⟨a, c, b⟩ p
  unfold mT at this
  rw [this]
end
/-! ### a quarter turn, a move, a half turn -/
def mv (b p : P) : P := (p.1 + b.1, p.2 + b.2)
/-! ### sums of ways -/
end SA

set_option Elab.async false
set_option linter.all false
set_option maxRecDepth 100000
set_option maxHeartbeats 4000000
set_option autoImplicit false
/-! Rims and rings of turned planes; tables turned by a quarter. -/
namespace SA
section
variable {φ L : P → P} {w w' p : P} {ah : Bool}
end
end SA

set_option Elab.async false
set_option linter.all false
set_option maxRecDepth 100000
set_option maxHeartbeats 4000000
set_option autoImplicit false
/-! Triangles cut; right rules. -/
namespace SA
/-- right: as a half -/
def Right (R : P → Bool) : Prop := ∃ w ah, w ≠ O ∧ ∀ d, d ≠ O → R d = hf w ah d
/-- the eight right tables -/
def rw8 (s : Int) : P := if s = 0 ∨ s = 1 then (1, 0) else if s = 2 ∨ s = 3 then (0, 1) else if s = 4 ∨ s = 5 then (-1, 0) else (0, -1)
theorem hf_e (ah : Bool) (d : P) : hf (1, 0) ah d = if d.2 ≠ 0 then decide (0 < d.2) else (decide (0 < d.1) == ah) := by
  unfold hf cr
  simp only
  rw [show (1 : Int) * d.2 - 0 * d.1 = d.2 by omega, show d.1 * 1 + d.2 * 0 = d.1 by omega]
theorem hf_n (ah : Bool) (d : P) : hf (0, 1) ah d = if d.1 ≠ 0 then decide (d.1 < 0) else (decide (0 < d.2) == ah) := by
  unfold hf cr
  simp only
  rw [show (0 : Int) * d.2 - 1 * d.1 = -d.1 by omega, show d.1 * 0 + d.2 * 1 = d.2 by omega]
  by_cases c : d.1 = 0
  · rw [if_neg (by omega), if_neg (by omega)]
  · rw [if_pos (by omega), if_pos c]
    exact decide_eq_decide.mpr (by omega)
theorem hf_w (ah : Bool) (d : P) : hf (-1, 0) ah d = if d.2 ≠ 0 then decide (d.2 < 0) else (decide (d.1 < 0) == ah) := by
  unfold hf cr
  simp only
  rw [show (-1 : Int) * d.2 - 0 * d.1 = -d.2 by omega, show d.1 * -1 + d.2 * 0 = -d.1 by omega]
  by_cases c : d.2 = 0
  · rw [if_neg (by omega), if_neg (by omega)]
    congr 1
    exact decide_eq_decide.mpr (by omega)
  · rw [if_pos (by omega), if_pos c]
    exact decide_eq_decide.mpr (by omega)
theorem hf_s (ah : Bool) (d : P) : hf (0, -1) ah d = if d.1 ≠ 0 then decide (0 < d.1) else (decide (d.2 < 0) == ah) := by
  unfold hf cr
  simp only
  rw [show (0 : Int) * d.2 - -1 * d.1 = d.1 by omega, show d.1 * 0 + d.2 * -1 = -d.2 by omega]
  by_cases c : d.1 = 0
  · rw [if_neg (by omega), if_neg (by omega)]
    congr 1
    exact decide_eq_decide.mpr (by omega)
  · rw [if_pos (by omega), if_pos c]
theorem rt8 {s : Int} (h0 : 0 ≤ s) (h7 : s ≤ 7) {d : P} (hd : d ≠ O) : decide ((SO.kd d - s) % 8 < 4) = hf (rw8 s) (decide (s % 2 = 0)) d := by
  rw [nz] at hd
  obtain ⟨x, y⟩ := d
  simp only at hd
  have hs : s = 0 ∨ s = 1 ∨ s = 2 ∨ s = 3 ∨ s = 4 ∨ s = 5 ∨ s = 6 ∨ s = 7 := by omega
  rcases SO.kd_tab x y with ⟨y0, x0, k⟩ | ⟨y0, x0, k⟩ | ⟨y0, x0, k⟩ | ⟨y0, x0, k⟩ | ⟨y0, x0, k⟩ | ⟨y0, x0, k⟩ | ⟨y0, x0, k⟩ | ⟨y0, x0, k⟩ <;> rw [k] <;>
  rcases hs with rfl | rfl | rfl | rfl | rfl | rfl | rfl | rfl <;>
  simp only [rw8, hf_e, hf_n, hf_w, hf_s, Int.reduceEq, or_true, or_false, true_or, false_or, if_true, if_false, reduceIte] <;>
  (split <;> first | (exact absurd ‹_› (by omega)) | (simp <;> omega))
end SA

set_option Elab.async false
set_option linter.all false
set_option maxRecDepth 100000
set_option maxHeartbeats 4000000
set_option autoImplicit false
/-! Sums along closed paths: rings turned round, joined, there and back; triangles and fields as rings; no turns beyond the box. -/
namespace SA
section
variable {c : P → P → Int}
end

section
variable {w p a b c d : P} {ah : Bool}
theorem twin_sd (h1 : d.1 = b.1 + c.1 - a.1) (h2 : d.2 = b.2 + c.2 - a.2) : sd b d c = sd a b c := by
  unfold sd
  rw [h1, h2]
  grind
end
section
variable {w p : P} {ah : Bool}
end
section
variable {w p : P} {ah : Bool}
end
end SA

set_option autoImplicit false
namespace FS
/-- the sum of floors -/
def S (a b m : Int) : Nat → Int
  | 0 => 0
  | n + 1 => S a b m n + (a * n + b) / m
/-- what is whole is taken out -/
theorem S_mod (a b : Int) {m : Int} (hm : 0 < m) : ∀ n : Nat, 2 * S a b m n = n * (n - 1) * (a / m) + 2 * (n * (b / m)) + 2 * S (a % m) (b % m) m n
  | 0 => by simp [S]
  | n + 1 => by
    have ih := S_mod a b hm n
    have ea := Int.mul_ediv_add_emod a m
    have eb := Int.mul_ediv_add_emod b m
    have e : a * n + b = (a % m * n + b % m) + m * (a / m * n + b / m) := by
      generalize a / m = qa at *
      generalize b / m = qb at *
      generalize a % m = ra at *
      generalize b % m = rb at *
      subst ea
      subst eb
      grind
    rw [S, S, e, Int.add_mul_ediv_left _ _ (by omega)]
    generalize a / m = qa at *
    generalize b / m = qb at *
    have e2 : ((n + 1 : Nat) : Int) = n + 1 := by omega
    rw [e2]
    grind
theorem S_zero {a b m : Int} (ha : 0 ≤ a) (hb : 0 ≤ b) (hm : 0 < m) : ∀ n : Nat, a * (n - 1) + b < m → S a b m n = 0
  | 0, _ => rfl
  | n + 1, h => by
    have e : ((n + 1 : Nat) : Int) - 1 = n := by omega
    rw [e] at h
    have h2 : a * (n - 1) + b < m := by
      rw [Int.mul_sub, Int.mul_one]
      omega
    have h3 : 0 ≤ a * n := Int.mul_nonneg ha (by omega)
    rw [S, S_zero ha hb hm n h2, Int.ediv_eq_zero_of_lt (by omega) h]
    rfl
/-- where all are alike -/
theorem S_alike {a b m v : Int} (k : Nat) : ∀ d : Nat, (∀ i : Nat, k ≤ i → i < k + d → (a * i + b) / m = v) → S a b m (k + d) = S a b m k + v * d
  | 0, _ => by simp
  | d + 1, h => by
    rw [← Nat.add_assoc, S, S_alike k d fun i h1 h2 => h i h1 (by omega), h (k + d) (by omega) (by omega)]
    have e : ((d + 1 : Nat) : Int) = d + 1 := by omega
    rw [e, Int.mul_add, Int.mul_one]
    omega
/-- counted the other way -/
theorem flip {a b m : Int} (ha : 0 < a) (hb : 0 ≤ b) (hbm : b < m) (hm : 0 < m) : ∀ (n M : Nat), (M : Int) = (a * n + b) / m → S a b m (n + 1) = M * (n + 1) - S m (m - b - 1 + a) a M
  | 0, M, h => by
    have e : (a * ((0 : Nat) : Int) + b) / m = 0 := by
      rw [show ((0 : Nat) : Int) = 0 from rfl, Int.mul_zero, Int.zero_add]
      exact Int.ediv_eq_zero_of_lt hb hbm
    rw [e] at h
    have : M = 0 := by omega
    subst this
    rw [S, S, S, e]
    simp
  | n + 1, M', h => by
    have h0 : 0 ≤ a * n + b := by
      have := Int.mul_nonneg (Int.le_of_lt ha) (show (0 : Int) ≤ n by omega)
      omega
    obtain ⟨M, hM⟩ := Int.eq_ofNat_of_zero_le (Int.ediv_nonneg h0 (Int.le_of_lt hm))
    have ih := flip ha hb hbm hm n M hM.symm
    have e1 : ((n + 1 : Nat) : Int) = n + 1 := by omega
    rw [e1, Int.mul_add, Int.mul_one] at h
    -- the bounds of both
    have p1 := Int.mul_ediv_add_emod (a * n + b) m
    have p2 := Int.emod_nonneg (a * n + b) (show m ≠ 0 by omega)
    have p3 := Int.emod_lt_of_pos (a * n + b) hm
    have r1 := Int.mul_ediv_add_emod (a * n + a + b) m
    have r2 := Int.emod_nonneg (a * n + a + b) (show m ≠ 0 by omega)
    have r3 := Int.emod_lt_of_pos (a * n + a + b) hm
    rw [hM] at p1
    rw [← h] at r1
    have le : M ≤ M' := by
      apply Nat.le_of_not_lt
      intro hlt
      have h5 : (M' : Int) + 1 ≤ M := by omega
      have := Int.mul_le_mul_of_nonneg_left h5 (Int.le_of_lt hm)
      rw [Int.mul_add, Int.mul_one] at this
      omega
    obtain ⟨d, hd⟩ := Nat.exists_eq_add_of_le le
    have alike : ∀ i : Nat, M ≤ i → i < M + d → (m * i + (m - b - 1 + a)) / a = n + 1 := by
      intro i h1 h2
      have u1 : (M : Int) ≤ i := by omega
      have u2 : (i : Int) + 1 ≤ M' := by omega
      have v1 := Int.mul_le_mul_of_nonneg_left u1 (Int.le_of_lt hm)
      have v2 := Int.mul_le_mul_of_nonneg_left u2 (Int.le_of_lt hm)
      rw [Int.mul_add, Int.mul_one] at v2
      have q : a * (n + 1) = a * n + a := by rw [Int.mul_add, Int.mul_one]
      have lo : (n : Int) + 1 ≤ (m * i + (m - b - 1 + a)) / a := by
        apply Int.le_ediv_of_mul_le ha
        rw [Int.mul_comm, q]
        omega
      have hi : (m * i + (m - b - 1 + a)) / a < n + 2 := by
        apply Int.ediv_lt_of_lt_mul ha
        have q2 : ((n : Int) + 2) * a = a * n + 2 * a := by grind
        rw [q2]
        omega
      omega
    have t := S_alike (a := m) (b := m - b - 1 + a) (m := a) (v := n + 1) M d alike
    rw [← hd] at t
    have last : (a * ((n + 1 : Nat) : Int) + b) / m = M' := by
      rw [e1, Int.mul_add, Int.mul_one]
      exact h.symm
    rw [S, ih, last, t, e1]
    have e3 : (M' : Int) = M + d := by omega
    rw [e3]
    grind
end FS

set_option Elab.async false
set_option linter.all false
set_option maxRecDepth 100000
set_option maxHeartbeats 4000000
set_option autoImplicit false
/-! Amounts: samples of a triangle by rows; rows by floors. -/
namespace SA
section
variable {R : P → Bool} {a b c p : P} {st rx ry y j : Int} {T : T3}
def tie (R : P → Bool) (a b : P) : Int := if R (sb b a) = true then 0 else 1
def atR (R : P → Bool) (rx : Int) (a b : P) (y : Int) : Int := (b.1 - a.1) * (y - a.2) - (b.2 - a.2) * (rx - a.1) - tie R a b
def dn (st : Int) (a b : P) : Int := (((b.2 - a.2) * st).natAbs : Int)
def flo (R : P → Bool) (st rx : Int) (a b : P) (y : Int) : Int := atR R rx a b y / dn st a b
theorem wOwn_at : wOwn R a b (rx + st * j, y) = true ↔ (b.2 - a.2) * st * j ≤ atR R rx a b y := by
  have e : sd a b (rx + st * j, y) = (b.1 - a.1) * (y - a.2) - (b.2 - a.2) * (rx - a.1) - (b.2 - a.2) * st * j := by unfold sd; simp only; grind
  unfold wOwn atR tie
  rw [e]
  generalize (b.1 - a.1) * (y - a.2) - (b.2 - a.2) * (rx - a.1) = s
  generalize (b.2 - a.2) * st * j = k
  cases R (sb b a) <;> simp <;> omega
theorem up_iff (h : a.2 < b.2) (hst : 0 < st) {A : Int} : (b.2 - a.2) * st * j ≤ A ↔ j ≤ A / dn st a b := by
  have hd : 0 < (b.2 - a.2) * st := Int.mul_pos (by omega) hst
  have e : dn st a b = (b.2 - a.2) * st := by unfold dn; omega
  rw [e, Int.le_ediv_iff_mul_le hd, Int.mul_comm]
theorem down_iff (h : b.2 < a.2) (hst : 0 < st) {A : Int} : (b.2 - a.2) * st * j ≤ A ↔ -(A / dn st a b) ≤ j := by
  have hd : 0 < (a.2 - b.2) * st := Int.mul_pos (by omega) hst
  have e1 : (b.2 - a.2) * st = -((a.2 - b.2) * st) := by grind
  have e : dn st a b = (a.2 - b.2) * st := by unfold dn; omega
  have k : -j ≤ A / dn st a b ↔ -j * ((a.2 - b.2) * st) ≤ A := by rw [e]; exact Int.le_ediv_iff_mul_le hd
  have e2 : (b.2 - a.2) * st * j = -j * ((a.2 - b.2) * st) := by rw [e1]; grind
  rw [e2, ← k]
  omega
theorem flat_iff (h : b.2 = a.2) {A : Int} : (b.2 - a.2) * st * j ≤ A ↔ 0 ≤ A := by
  have e : (b.2 - a.2) * st * j = 0 := by rw [h]; simp
  rw [e]
/-- the samples of a row -/
def xlo (T : T3) : Int := min T.a.1 (min T.b.1 T.c.1)
def xhi (T : T3) : Int := max T.a.1 (max T.b.1 T.c.1)
def ylo (T : T3) : Int := min T.a.2 (min T.b.2 T.c.2)
def yhi (T : T3) : Int := max T.a.2 (max T.b.2 T.c.2)
theorem in_hull (g : Good T) (h : own R T p = true) : xlo T ≤ p.1 ∧ p.1 ≤ xhi T ∧ ylo T ≤ p.2 ∧ p.2 ≤ yhi T := by
  refine own_box (lo := (xlo T, ylo T)) (hi := (xhi T, yhi T)) g h fun q hq => ?_
  unfold xlo xhi ylo yhi
  simp only [List.mem_cons, List.not_mem_nil, or_false] at hq
  rcases hq with rfl | rfl | rfl <;> simp only <;> omega
def rowL (R : P → Bool) (T : T3) (st rx y : Int) : List Int := (SP.ups (SP.fst (xlo T) rx st) st (xhi T)).filter fun x => own R T (x, y)
def rowC (R : P → Bool) (T : T3) (st rx y : Int) : Int := (rowL R T st rx y).length
theorem rowL_mem (g : Good T) (hst : 1 ≤ st) {x : Int} : x ∈ rowL R T st rx y ↔ (x - rx) % st = 0 ∧ own R T (x, y) = true := by
  unfold rowL
  rw [List.mem_filter, SP.fst_mem hst]
  constructor
  · rintro ⟨⟨_, _, h⟩, o⟩
    exact ⟨h, o⟩
  · rintro ⟨h, o⟩
    have k := in_hull g o
    exact ⟨⟨k.1, k.2.1, h⟩, o⟩
theorem rowL_asc (hst : 1 ≤ st) : (rowL R T st rx y).Pairwise (· < ·) := (SP.ups_asc hst).filter _
theorem rowC_congr {R' : P → Bool} {T' : T3} {rx' : Int} (g : Good T) (g' : Good T') (hst : 1 ≤ st) (hr : (rx - rx') % st = 0) (h : ∀ x, (x - rx) % st = 0 → own R T (x, y) = own R' T' (x, y)) : rowC R T st rx y = rowC R' T' st rx' y := by
  unfold rowC
  rw [SP.int_ext (rowL_asc (R := R) (T := T) (rx := rx) (y := y) hst) (rowL_asc (R := R') (T := T') (rx := rx') (y := y) hst) fun x => ?_]
  rw [rowL_mem g hst, rowL_mem g' hst]
  have e : (x - rx) % st = 0 ↔ (x - rx') % st = 0 := by
    constructor
    · intro q
      have := Int.emod_add_emod (x - rx) st (rx - rx')
      rw [q, Int.zero_add, hr] at this
      rw [show x - rx' = x - rx + (rx - rx') by omega]
      exact this.symm
    · intro q
      have := Int.sub_emod (x - rx') (rx - rx') st
      rw [q, hr] at this
      rw [show x - rx = x - rx' - (rx - rx') by omega, this]
      simp
  constructor
  · rintro ⟨q, o⟩
    exact ⟨e.mp q, by rw [← h x q]; exact o⟩
  · rintro ⟨q, o⟩
    exact ⟨e.mpr q, by rw [h x (e.mpr q)]; exact o⟩
theorem row_cnt (g : Good T) (hst : 1 ≤ st) {lo hi : Int} (h : ∀ j, own R T (rx + st * j, y) = true ↔ lo ≤ j ∧ j ≤ hi) : rowC R T st rx y = max 0 (hi - lo + 1) := by
  unfold rowC
  have e : rowL R T st rx y = (List.range (hi - lo + 1).toNat).map fun (i : Nat) => rx + st * (lo + (i : Int)) := by
    refine SP.int_ext (rowL_asc hst) ?_ fun x => ?_
    · refine List.pairwise_map.mpr (List.pairwise_lt_range.imp fun {i j} q => ?_)
      have : st * (lo + (i : Int)) < st * (lo + (j : Int)) := Int.mul_lt_mul_of_pos_left (by omega) (by omega)
      omega
    · rw [rowL_mem g hst, List.mem_map]
      constructor
      · rintro ⟨q, o⟩
        have ex : x = rx + st * ((x - rx) / st) := by
          have := Int.mul_ediv_add_emod (x - rx) st
          omega
        rw [ex] at o
        have k := (h _).mp o
        exact ⟨((x - rx) / st - lo).toNat, by rw [List.mem_range]; omega, by rw [show lo + ((((x - rx) / st - lo).toNat : Nat) : Int) = (x - rx) / st by omega]; exact ex.symm⟩
      · rintro ⟨i, hi', rfl⟩
        rw [List.mem_range] at hi'
        refine ⟨?_, (h _).mpr (by omega)⟩
        rw [show rx + st * (lo + (i : Int)) - rx = st * (lo + (i : Int)) by omega, Int.mul_emod_right]
  rw [e, List.length_map, List.length_range]
  omega
theorem flo_lt (hst : 1 ≤ st) (h : a.2 ≠ b.2) : (b.1 - a.1) * (y - a.2) - (b.2 - a.2) * (rx - a.1) ≤ dn st a b * (flo R st rx a b y + 1) := by
  have hd : 0 < dn st a b := by
    have : (b.2 - a.2) * st ≠ 0 := fun z => by
      rcases Int.mul_eq_zero.mp z with q | q <;> omega
    unfold dn
    omega
  have k := Int.lt_mul_ediv_self_add (x := atR R rx a b y) hd
  have hA : (b.1 - a.1) * (y - a.2) - (b.2 - a.2) * (rx - a.1) = atR R rx a b y + tie R a b := by unfold atR; omega
  have ht : tie R a b = 0 ∨ tie R a b = 1 := by
    unfold tie
    split <;> omega
  unfold flo
  have e : dn st a b * (atR R rx a b y / dn st a b + 1) = dn st a b * (atR R rx a b y / dn st a b) + dn st a b := by grind
  rw [e, hA]
  generalize atR R rx a b y = A at *
  generalize dn st a b * (A / dn st a b) = B at *
  omega
theorem dn_pos (hst : 1 ≤ st) (h : a.2 ≠ b.2) : 0 < dn st a b := by
  have : (b.2 - a.2) * st ≠ 0 := fun z => by
    rcases Int.mul_eq_zero.mp z with q | q <;> omega
  unfold dn
  omega
theorem two_pos {s1 s2 d1 d2 f1 f2 : Int} (h1 : s1 ≤ d1 * (f1 + 1)) (h2 : s2 ≤ d2 * (f2 + 1)) (p1 : 0 < d1) (p2 : 0 < d2) (h : 0 < s1 * d2 + s2 * d1) : 0 ≤ f1 + f2 + 1 := by
  apply Int.not_lt.mp
  intro q
  have k1 := Int.mul_le_mul_of_nonneg_right h1 (Int.le_of_lt p2)
  have k2 := Int.mul_le_mul_of_nonneg_right h2 (Int.le_of_lt p1)
  have k3 : d1 * (f1 + 1) * d2 + d2 * (f2 + 1) * d1 = (d1 * d2) * (f1 + f2 + 2) := by grind
  have k4 := Int.mul_pos p1 p2
  have k5 : (d1 * d2) * (f1 + f2 + 2) ≤ 0 := Int.mul_nonpos_of_nonneg_of_nonpos (Int.le_of_lt k4) (by omega)
  omega
/-- the third side -/
theorem third {s1 s2 s3 A u v w : Int} (hA : 0 < A) (e : s1 + s2 + s3 = A) (h1 : 0 ≤ s1) (h3 : 0 ≤ s3) (hu : 0 < u) (hv : 0 < v) (hw : 0 < w) (k : s2 * u = s3 * v + s1 * w) : 0 < s2 := by
  have m1 := Int.mul_nonneg h3 (Int.le_of_lt hv)
  have m2 := Int.mul_nonneg h1 (Int.le_of_lt hw)
  have n2 : 0 ≤ s2 * u := by omega
  have : 0 ≤ s2 := by
    apply Int.not_lt.mp
    intro q
    have := Int.mul_neg_of_neg_of_pos q hu
    omega
  refine Int.lt_iff_le_and_ne.mpr ⟨this, fun z => ?_⟩
  rw [← z, Int.zero_mul] at k
  have z3 : s3 = 0 := by
    rcases Int.mul_eq_zero.mp (show s3 * v = 0 by omega) with q | q <;> omega
  have z1 : s1 = 0 := by
    rcases Int.mul_eq_zero.mp (show s1 * w = 0 by omega) with q | q <;> omega
  omega
theorem own_iff3 : own R ⟨a, b, c⟩ p = true ↔ wOwn R a b p = true ∧ wOwn R b c p = true ∧ wOwn R c a p = true := by
  unfold own
  simp only [Bool.and_eq_true]
theorem gap1 (g : 0 < sd a b c) (hst : 1 ≤ st) (h1 : a.2 < y) (h2 : y < b.2) (h3 : y < c.2) : rowC R ⟨a, b, c⟩ st rx y = 1 + flo R st rx a b y + flo R st rx c a y := by
  have ab : a.2 < b.2 := by omega
  have ca : a.2 < c.2 := by omega
  have own_j : ∀ j, own R ⟨a, b, c⟩ (rx + st * j, y) = true ↔ -(flo R st rx c a y) ≤ j ∧ j ≤ flo R st rx a b y := fun j => by
    have k1 := wOwn_at (R := R) (a := a) (b := b) (st := st) (rx := rx) (y := y) (j := j)
    have k3 := wOwn_at (R := R) (a := c) (b := a) (st := st) (rx := rx) (y := y) (j := j)
    rw [up_iff ab (by omega)] at k1
    rw [down_iff ca (by omega)] at k3
    rw [own_iff3]
    constructor
    · rintro ⟨o1, _, o3⟩
      exact ⟨k3.mp o3, k1.mp o1⟩
    · rintro ⟨q3, q1⟩
      have o1 := k1.mpr q1
      have o3 := k3.mpr q3
      refine ⟨o1, wOwn_pos ?_, o3⟩
      have s1 := wOwn_nn o1
      have s3 := wOwn_nn o3
      refine third (A := sd a b c) g (sum_sd a b c _) s1 s3 (u := y - a.2) (v := b.2 - y) (w := c.2 - y) (by omega) (by omega) (by omega) ?_
      have := bary_y a b c (rx + st * j, y)
      simp only at this
      grind
  rw [row_cnt (T := ⟨a, b, c⟩) g hst own_j]
  have nn := two_pos (flo_lt (R := R) (a := a) (b := b) (rx := rx) (y := y) hst (by omega)) (flo_lt (R := R) (a := c) (b := a) (rx := rx) (y := y) hst (by omega)) (dn_pos hst (by omega)) (dn_pos hst (by omega)) (by
    have d1 : dn st a b = (b.2 - a.2) * st := by
      have := Int.mul_pos (show 0 < b.2 - a.2 by omega) (show 0 < st by omega)
      unfold dn; omega
    have d2 : dn st c a = (c.2 - a.2) * st := by
      have := Int.mul_pos (show 0 < c.2 - a.2 by omega) (show 0 < st by omega)
      have e : (a.2 - c.2) * st = -((c.2 - a.2) * st) := by grind
      unfold dn; omega
    rw [d1, d2]
    have e : ((b.1 - a.1) * (y - a.2) - (b.2 - a.2) * (rx - a.1)) * ((c.2 - a.2) * st) + ((a.1 - c.1) * (y - c.2) - (a.2 - c.2) * (rx - c.1)) * ((b.2 - a.2) * st) = (sd a b c * (y - a.2)) * st := by unfold sd; grind
    rw [e]
    exact Int.mul_pos (Int.mul_pos g (by omega)) (by omega))
  omega
theorem gap2 (g : 0 < sd a b c) (hst : 1 ≤ st) (h1 : y < a.2) (h2 : b.2 < y) (h3 : c.2 < y) : rowC R ⟨a, b, c⟩ st rx y = 1 + flo R st rx a b y + flo R st rx c a y := by
  have ab : b.2 < a.2 := by omega
  have ca : c.2 < a.2 := by omega
  have own_j : ∀ j, own R ⟨a, b, c⟩ (rx + st * j, y) = true ↔ -(flo R st rx a b y) ≤ j ∧ j ≤ flo R st rx c a y := fun j => by
    have k1 := wOwn_at (R := R) (a := a) (b := b) (st := st) (rx := rx) (y := y) (j := j)
    have k3 := wOwn_at (R := R) (a := c) (b := a) (st := st) (rx := rx) (y := y) (j := j)
    rw [down_iff ab (by omega)] at k1
    rw [up_iff ca (by omega)] at k3
    rw [own_iff3]
    constructor
    · rintro ⟨o1, _, o3⟩
      exact ⟨k1.mp o1, k3.mp o3⟩
    · rintro ⟨q1, q3⟩
      have o1 := k1.mpr q1
      have o3 := k3.mpr q3
      refine ⟨o1, wOwn_pos ?_, o3⟩
      have s1 := wOwn_nn o1
      have s3 := wOwn_nn o3
      refine third (A := sd a b c) g (sum_sd a b c _) s1 s3 (u := a.2 - y) (v := y - b.2) (w := y - c.2) (by omega) (by omega) (by omega) ?_
      have := bary_y a b c (rx + st * j, y)
      simp only at this
      grind
  rw [row_cnt (T := ⟨a, b, c⟩) g hst own_j]
  have nn := two_pos (flo_lt (R := R) (a := a) (b := b) (rx := rx) (y := y) hst (by omega)) (flo_lt (R := R) (a := c) (b := a) (rx := rx) (y := y) hst (by omega)) (dn_pos hst (by omega)) (dn_pos hst (by omega)) (by
    have d1 : dn st a b = (a.2 - b.2) * st := by
      have := Int.mul_pos (show 0 < a.2 - b.2 by omega) (show 0 < st by omega)
      have e : (b.2 - a.2) * st = -((a.2 - b.2) * st) := by grind
      unfold dn; omega
    have d2 : dn st c a = (a.2 - c.2) * st := by
      have := Int.mul_pos (show 0 < a.2 - c.2 by omega) (show 0 < st by omega)
      unfold dn; omega
    rw [d1, d2]
    have e : ((b.1 - a.1) * (y - a.2) - (b.2 - a.2) * (rx - a.1)) * ((a.2 - c.2) * st) + ((a.1 - c.1) * (y - c.2) - (a.2 - c.2) * (rx - c.1)) * ((a.2 - b.2) * st) = (sd a b c * (a.2 - y)) * st := by unfold sd; grind
    rw [e]
    exact Int.mul_pos (Int.mul_pos g (by omega)) (by omega))
  omega
theorem own_rot3 : own R ⟨b, c, a⟩ p = own R ⟨a, b, c⟩ p := by
  unfold own
  cases wOwn R a b p <;> cases wOwn R b c p <;> cases wOwn R c a p <;> rfl
theorem rowC_rot (g : 0 < sd a b c) (hst : 1 ≤ st) : rowC R ⟨b, c, a⟩ st rx y = rowC R ⟨a, b, c⟩ st rx y :=
  rowC_congr (T := ⟨b, c, a⟩) (T' := ⟨a, b, c⟩) (show 0 < sd b c a by rw [(sd_cyc a b c).1]; exact g) g hst (by simp) fun x _ => own_rot3
/-- an edge spans a row -/
def spn (a b : P) (y : Int) : Prop := (a.2 < y ∧ y < b.2) ∨ (b.2 < y ∧ y < a.2)
instance {a b : P} {y : Int} : Decidable (spn a b y) := by unfold spn; infer_instance
def spf (R : P → Bool) (st rx : Int) (a b : P) (y : Int) : Int := if spn a b y then flo R st rx a b y else 0
theorem spf_yes (h : spn a b y) : spf R st rx a b y = flo R st rx a b y := if_pos h
theorem spf_no (h : ¬ spn a b y) : spf R st rx a b y = 0 := if_neg h
theorem gap (g : 0 < sd a b c) (hst : 1 ≤ st) (na : y ≠ a.2) (nb : y ≠ b.2) (nc : y ≠ c.2) (lo : a.2 < y ∨ b.2 < y ∨ c.2 < y) (hi : y < a.2 ∨ y < b.2 ∨ y < c.2) :
    rowC R ⟨a, b, c⟩ st rx y = 1 + (spf R st rx a b y + (spf R st rx b c y + spf R st rx c a y)) := by
  have g1 : 0 < sd b c a := by rw [(sd_cyc a b c).1]; exact g
  have g2 : 0 < sd c a b := by rw [(sd_cyc a b c).2]; exact g
  have r1 := rowC_rot (R := R) (rx := rx) (y := y) g hst
  have r2 := rowC_rot (R := R) (rx := rx) (y := y) g1 hst
  by_cases ca : a.2 < y
  · by_cases cb : b.2 < y
    · have cc : ¬ c.2 < y := by omega
      have k := gap2 (R := R) (rx := rx) g2 hst (by omega : y < c.2) ca cb
      rw [spf_no (by unfold spn; omega), spf_yes (by unfold spn; omega), spf_yes (by unfold spn; omega), ← r1, ← r2, k]
      omega
    · by_cases cc : c.2 < y
      · have k := gap2 (R := R) (rx := rx) g1 hst (by omega : y < b.2) cc ca
        rw [spf_yes (by unfold spn; omega), spf_yes (by unfold spn; omega), spf_no (by unfold spn; omega), ← r1, k]
        omega
      · have k := gap1 (R := R) (rx := rx) g hst ca (by omega) (by omega)
        rw [spf_yes (by unfold spn; omega), spf_no (by unfold spn; omega), spf_yes (by unfold spn; omega), k]
        omega
  · by_cases cb : b.2 < y
    · by_cases cc : c.2 < y
      · have k := gap2 (R := R) (rx := rx) g hst (by omega) cb cc
        rw [spf_yes (by unfold spn; omega), spf_no (by unfold spn; omega), spf_yes (by unfold spn; omega), k]
        omega
      · have k := gap1 (R := R) (rx := rx) g1 hst cb (by omega) (by omega)
        rw [spf_yes (by unfold spn; omega), spf_yes (by unfold spn; omega), spf_no (by unfold spn; omega), ← r1, k]
        omega
    · have cc : c.2 < y := by omega
      have k := gap1 (R := R) (rx := rx) g2 hst cc (by omega) (by omega)
      rw [spf_no (by unfold spn; omega), spf_yes (by unfold spn; omega), spf_yes (by unfold spn; omega), ← r1, ← r2, k]
      omega
end
section
variable {f : Int → Int} {st ry l h m p q lo hi : Int}
abbrev rows (st ry l h : Int) : List Int := SP.ups (SP.fst l ry st) st h
def sumR (f : Int → Int) (st ry l h : Int) : Int := ((rows st ry l h).map f).sum
theorem rows_mem (hst : 1 ≤ st) {z : Int} : z ∈ rows st ry l h ↔ l ≤ z ∧ z ≤ h ∧ (z - ry) % st = 0 := SP.fst_mem hst
theorem rows_split (hst : 1 ≤ st) (h1 : l ≤ m) (h2 : m ≤ h + 1) : rows st ry l h = rows st ry l (m - 1) ++ rows st ry m h := by
  refine SP.int_ext (SP.ups_asc hst) (List.pairwise_append.mpr ⟨SP.ups_asc hst, SP.ups_asc hst, fun a ha b hb => ?_⟩) fun z => ?_
  · have k1 := (rows_mem hst).mp ha
    have k2 := (rows_mem hst).mp hb
    omega
  · rw [List.mem_append, rows_mem hst, rows_mem hst, rows_mem hst]
    constructor
    · intro k
      by_cases c : z ≤ m - 1
      · exact .inl ⟨k.1, c, k.2.2⟩
      · exact .inr ⟨by omega, k.2⟩
    · rintro (k | k)
      · exact ⟨k.1, by omega, k.2.2⟩
      · exact ⟨by omega, k.2⟩
theorem rows_nil (hst : 1 ≤ st) (h1 : h < l) : rows st ry l h = [] := List.eq_nil_iff_forall_not_mem.mpr fun z hz => by
  have k := (rows_mem hst).mp hz
  omega
theorem rows_one (hst : 1 ≤ st) : rows st ry m m = if (m - ry) % st = 0 then [m] else [] := by
  split
  next c =>
    refine SP.int_ext (SP.ups_asc hst) (by simp) fun z => ?_
    rw [rows_mem hst, List.mem_singleton]
    constructor
    · rintro ⟨a, b, _⟩
      omega
    · rintro rfl
      exact ⟨Int.le_refl _, Int.le_refl _, c⟩
  next c =>
    refine List.eq_nil_iff_forall_not_mem.mpr fun z hz => ?_
    have k := (rows_mem hst).mp hz
    have : z = m := by omega
    subst this
    exact c k.2.2
theorem sumR_split (hst : 1 ≤ st) (h1 : l ≤ m) (h2 : m ≤ h + 1) : sumR f st ry l h = sumR f st ry l (m - 1) + sumR f st ry m h := by
  unfold sumR
  rw [rows_split hst h1 h2, List.map_append, List.sum_append]
theorem sumR_nil (hst : 1 ≤ st) (h1 : h < l) : sumR f st ry l h = 0 := by
  unfold sumR
  rw [rows_nil hst h1]
  rfl
theorem sumR_one (hst : 1 ≤ st) : sumR f st ry m m = if (m - ry) % st = 0 then f m else 0 := by
  unfold sumR
  rw [rows_one hst]
  split
  · simp
  · rfl
theorem sumR_congr {g : Int → Int} (hst : 1 ≤ st) (k : ∀ y, l ≤ y → y ≤ h → (y - ry) % st = 0 → f y = g y) : sumR f st ry l h = sumR g st ry l h := by
  unfold sumR
  rw [List.map_congr_left fun y hy => ?_]
  have q := (rows_mem hst).mp hy
  exact k y q.1 q.2.1 q.2.2
theorem sumR_zero (hst : 1 ≤ st) (k : ∀ y, l ≤ y → y ≤ h → f y = 0) : sumR f st ry l h = 0 := by
  rw [sumR_congr (g := fun _ => 0) hst fun y a b _ => k y a b]
  unfold sumR
  induction rows st ry l h with
  | nil => rfl
  | cons a l ih =>
    rw [List.map_cons, List.sum_cons, ih]
    rfl
/-- the rows from p to q that lie from lo to hi -/
def clip (f : Int → Int) (st ry lo hi p q : Int) : Int := sumR f st ry (max p lo) (min q hi)
theorem clip_split (hst : 1 ≤ st) (h1 : p ≤ m) (h2 : m ≤ q + 1) : clip f st ry lo hi p q = clip f st ry lo hi p (m - 1) + clip f st ry lo hi m q := by
  unfold clip
  by_cases c : m < lo
  · rw [sumR_nil (h := min (m - 1) hi) hst (by omega), Int.zero_add, show max m lo = max p lo by omega]
  · by_cases d : hi < m - 1
    · rw [sumR_nil (l := max m lo) (h := min q hi) hst (by omega), Int.add_zero, show min (m - 1) hi = min q hi by omega]
    · by_cases e : max p lo ≤ m ∧ m ≤ min q hi + 1
      · rw [sumR_split hst e.1 e.2, show min (m - 1) hi = m - 1 by omega, show max m lo = m by omega]
      · have e' : m = hi + 2 ∨ (max p lo = lo) := by omega
        exfalso
        omega
theorem clip_one (hst : 1 ≤ st) : clip f st ry lo hi m m = if (m - ry) % st = 0 ∧ lo ≤ m ∧ m ≤ hi then f m else 0 := by
  unfold clip
  by_cases c : lo ≤ m ∧ m ≤ hi
  · rw [show max m lo = m by omega, show min m hi = m by omega, sumR_one hst]
    simp only [c, and_true]
  · rw [sumR_nil hst (by omega), if_neg fun k => c k.2]
/-- corner rows and what is between them -/
theorem clip_all (hst : 1 ≤ st) {a b c : Int} (h1 : a ≤ b) (h2 : b ≤ c) : clip f st ry lo hi a a + (if b = a then 0 else clip f st ry lo hi b b) + (if c = a ∨ c = b then 0 else clip f st ry lo hi c c) + (if a < b then clip f st ry lo hi (a + 1) (b - 1) else 0) + (if b < c then clip f st ry lo hi (b + 1) (c - 1) else 0) = clip f st ry lo hi a c := by
  have one : ∀ x z : Int, x < z → clip f st ry lo hi x z = clip f st ry lo hi x x + clip f st ry lo hi (x + 1) (z - 1) + clip f st ry lo hi z z := fun x z k => by
    rw [clip_split hst (m := x + 1) (p := x) (q := z) (by omega) (by omega), clip_split hst (m := z) (p := x + 1) (q := z) (by omega) (by omega), show x + 1 - 1 = x by omega]
    omega
  by_cases e1 : a = b
  · subst e1
    rw [if_pos rfl, if_neg (show ¬ a < a by omega)]
    by_cases e2 : a = c
    · subst e2
      rw [if_pos (show a = a ∨ a = a from .inl rfl), if_neg (show ¬ a < a by omega)]
      omega
    · rw [if_neg (show ¬ (c = a ∨ c = a) by omega), if_pos (show a < c by omega), one a c (by omega)]
      omega
  · rw [if_neg (show ¬ b = a by omega), if_pos (show a < b by omega)]
    by_cases e2 : b = c
    · subst e2
      rw [if_pos (show b = a ∨ b = b from .inr rfl), if_neg (show ¬ b < b by omega), one a b (by omega)]
      omega
    · rw [if_neg (show ¬ (c = a ∨ c = b) by omega), if_pos (show b < c by omega), clip_split hst (m := b) (p := a) (q := c) (by omega) (by omega)]
      have k1 := one a b (by omega)
      have k2 := one b c (by omega)
      have k3 := clip_split (f := f) (ry := ry) (lo := lo) (hi := hi) hst (m := b) (p := a) (q := b) (by omega) (by omega)
      omega
theorem S_sum {a b m : Int} : ∀ n : Nat, FS.S a b m n = ((List.range n).map fun (i : Nat) => (a * (i : Int) + b) / m).sum
  | 0 => rfl
  | n + 1 => by
    rw [FS.S, S_sum n, List.range_succ, List.map_append, List.sum_append]
    simp
theorem sum_add {α : Type} {f g : α → Int} : ∀ {l : List α}, (l.map fun x => f x + g x).sum = (l.map f).sum + (l.map g).sum
  | [] => rfl
  | a :: l => by
    rw [List.map_cons, List.sum_cons, sum_add, List.map_cons, List.sum_cons, List.map_cons, List.sum_cons]
    omega
theorem sum_one {α : Type} : ∀ {l : List α}, (l.map fun _ => (1 : Int)).sum = l.length
  | [] => rfl
  | a :: l => by
    rw [List.map_cons, List.sum_cons, sum_one, List.length_cons]
    omega
end
section
variable {R : P → Bool} {a b c : P} {st rx ry y l h : Int} {T : T3}
def many (st y0 h : Int) : Int := (h - y0) / st + 1
/-- an edge's floors over the rows between two corners -/
theorem edge_sum (hst : 1 ≤ st) (hs : (∀ y, l ≤ y → y ≤ h → spn a b y) ∨ ∀ y, l ≤ y → y ≤ h → ¬ spn a b y) (ne : SP.fst l ry st ≤ h) :
    sumR (spf R st rx a b) st ry l h = if spn a b (SP.fst l ry st) then FS.S ((b.1 - a.1) * st) (atR R rx a b (SP.fst l ry st)) (dn st a b) (many st (SP.fst l ry st) h).toNat else 0 := by
  have fl : l ≤ SP.fst l ry st := by
    unfold SP.fst
    have := Int.emod_nonneg (ry - l) (show st ≠ 0 by omega)
    omega
  rcases hs with hs | hs
  · rw [if_pos (hs _ fl ne), S_sum]
    unfold sumR rows SP.ups many
    rw [List.map_map]
    congr 1
    refine List.map_congr_left fun i hi => ?_
    rw [List.mem_range] at hi
    have q0 : (0 : Int) ≤ (h - SP.fst l ry st) / st := Int.ediv_nonneg (by omega) (by omega)
    have q1 : (i : Int) * st ≤ h - SP.fst l ry st := by
      have k1 : (i : Int) ≤ (h - SP.fst l ry st) / st := by omega
      exact (Int.le_ediv_iff_mul_le (by omega)).mp k1
    have q2 : (0 : Int) ≤ (i : Int) * st := Int.mul_nonneg (by omega) (by omega)
    show spf R st rx a b (SP.fst l ry st + (i : Int) * st) = _
    rw [spf_yes (hs _ (by omega) (by omega))]
    unfold flo
    congr 1
    unfold atR
    grind
  · rw [if_neg (hs _ fl ne)]
    exact sumR_zero hst fun y h1 h2 => spf_no (hs y h1 h2)
theorem sumR_add {f g : Int → Int} : sumR (fun y => f y + g y) st ry l h = sumR f st ry l h + sumR g st ry l h := sum_add
theorem sumR_cnt (ne : SP.fst l ry st ≤ h) (hst : 1 ≤ st) : sumR (fun _ => 1) st ry l h = many st (SP.fst l ry st) h := by
  unfold sumR rows
  rw [sum_one]
  unfold SP.ups many
  rw [List.length_map, List.length_range]
  have q0 : (0 : Int) ≤ (h - SP.fst l ry st) / st := Int.ediv_nonneg (by omega) (by omega)
  omega
/-- the rows between two corners -/
theorem gap_sum (g : 0 < sd a b c) (hst : 1 ≤ st) {p q : Int} (hl : p < l) (hh : h < q) (ha : a.2 ≤ p ∨ q ≤ a.2) (hb : b.2 ≤ p ∨ q ≤ b.2) (hc : c.2 ≤ p ∨ q ≤ c.2) (lo : a.2 ≤ p ∨ b.2 ≤ p ∨ c.2 ≤ p) (hi : q ≤ a.2 ∨ q ≤ b.2 ∨ q ≤ c.2) :
    sumR (rowC R ⟨a, b, c⟩ st rx) st ry l h = sumR (fun _ => 1) st ry l h + (sumR (spf R st rx a b) st ry l h + (sumR (spf R st rx b c) st ry l h + sumR (spf R st rx c a) st ry l h)) := by
  rw [← sumR_add, ← sumR_add, ← sumR_add]
  exact sumR_congr hst fun y h1 h2 _ => gap g hst (by omega) (by omega) (by omega) (by omega) (by omega)
theorem spn_all {p q : Int} (hl : p < l) (hh : h < q) (ha : a.2 ≤ p ∨ q ≤ a.2) (hb : b.2 ≤ p ∨ q ≤ b.2) : (∀ y, l ≤ y → y ≤ h → spn a b y) ∨ ∀ y, l ≤ y → y ≤ h → ¬ spn a b y := by
  by_cases c : (a.2 ≤ p ∧ q ≤ b.2) ∨ (b.2 ≤ p ∧ q ≤ a.2)
  · refine .inl fun y h1 h2 => ?_
    unfold spn
    omega
  · refine .inr fun y h1 h2 k => ?_
    unfold spn at k
    omega
theorem rowC_out (g : Good T) (hst : 1 ≤ st) (h : y < ylo T ∨ yhi T < y) : rowC R T st rx y = 0 := by
  have e : rowL R T st rx y = [] := List.eq_nil_iff_forall_not_mem.mpr fun z hz => by
    have k := in_hull g ((rowL_mem g hst).mp hz).2
    simp only at k
    omega
  unfold rowC
  rw [e]
  rfl
/-- the amount: samples by rows -/
def amt (R : P → Bool) (T : T3) (st rx ry lo hi : Int) : Int := clip (rowC R T st rx) st ry lo hi (ylo T) (yhi T)
/-- all samples as a list -/
theorem rowC_len (g : Good T) (hst : 1 ≤ st) {s : List P} (can : SP.Canon s) (mem : ∀ p, p ∈ s ↔ (p.1 - rx) % st = 0 ∧ (p.2 - ry) % st = 0 ∧ own R T p = true) : (s.length : Int) = sumR (rowC R T st rx) st ry (ylo T) (yhi T) := by
  have e : s = (rows st ry (ylo T) (yhi T)).flatMap fun y => (rowL R T st rx y).map fun x => (x, y) := by
    refine SP.canon_ext can (SP.canon_rows (xs := fun y => rowL R T st rx y) (SP.ups_asc hst) fun y => rowL_asc hst) fun p => ?_
    rw [mem p, SP.rows_mem, rows_mem hst, rowL_mem g hst]
    constructor
    · rintro ⟨k1, k2, k3⟩
      have k := in_hull g k3
      exact ⟨⟨k.2.2.1, k.2.2.2, k2⟩, k1, k3⟩
    · rintro ⟨⟨_, _, k2⟩, k1, k3⟩
      exact ⟨k1, k2, k3⟩
  rw [e]
  unfold sumR
  induction rows st ry (ylo T) (yhi T) with
  | nil => rfl
  | cons y l ih =>
    rw [List.flatMap_cons, List.length_append, List.length_map, List.map_cons, List.sum_cons, ← ih]
    unfold rowC
    omega
end
end SA

set_option Elab.async false
set_option linter.all false
set_option maxRecDepth 100000
set_option maxHeartbeats 4000000
set_option autoImplicit false
/-! A triangle and its twin: rows by half-open edges; together the double area. -/
namespace SA
section
variable {w : P} {ah : Bool} {a b c p : P} {st rx ry y j : Int}
/-- a corner is below a row, ties by the half -/
def bel (w : P) (ah : Bool) (a : P) (y : Int) : Bool := below w ah a (0, y)
theorem bel_eq {x : Int} : below w ah a (x, y) = bel w ah a y := rfl
theorem bel_iff : bel w ah a y = true ↔ a.2 < y ∨ (a.2 = y ∧ bel w ah (0, 0) 0 = true) := by
  unfold bel below
  simp only [Bool.or_eq_true, decide_eq_true_eq, Bool.and_eq_true]
  constructor
  · rintro (h | ⟨h, k⟩)
    · exact .inl h
    · exact .inr ⟨h, .inr ⟨trivial, k⟩⟩
  · rintro (h | ⟨h, k | ⟨_, k⟩⟩)
    · exact .inl h
    · exact absurd k (by simp)
    · exact .inr ⟨h, k⟩
def bi (b : Bool) : Int := if b then 1 else 0
/-- how an edge crosses a row: up 1, down -1 -/
def sg2 (w : P) (ah : Bool) (a b : P) (y : Int) : Int := bi (bel w ah a y) - bi (bel w ah b y)
/-- the last column at an edge -/
def colE (w : P) (ah : Bool) (st rx : Int) (a b : P) (y : Int) : Int := if a.2 < b.2 then flo (hf w ah) st rx a b y else -(flo (hf w ah) st rx a b y) - 1
def edE (w : P) (ah : Bool) (st rx : Int) (a b : P) (y : Int) : Int := sg2 w ah a b y * colE w ah st rx a b y
theorem up_lt (h1 : bel w ah a y = true) (h2 : bel w ah b y = false) : a.2 < b.2 := by
  have k1 := bel_iff.mp h1
  have k2 : ¬ (b.2 < y ∨ (b.2 = y ∧ bel w ah (0, 0) 0 = true)) := fun q => by
    rw [bel_iff.mpr q] at h2
    cases h2
  rcases k1 with k1 | ⟨k1, k3⟩
  · apply Int.not_le.mp
    intro q
    exact k2 (.inl (by omega))
  · by_cases c : b.2 < y
    · exact absurd (.inl c) k2
    · by_cases d : b.2 = y
      · exact absurd (.inr ⟨d, k3⟩) k2
      · omega
/-- an edge's way at a sample -/
theorem way_col (hst : 1 ≤ st) : way w ah (rx + st * j, y) a b = sg2 w ah a b y * (if j ≤ colE w ah st rx a b y then 1 else 0) := by
  have lw : left w ah a b (rx + st * j, y) = wOwn (hf w ah) a b (rx + st * j, y) := rfl
  have k := wOwn_at (R := hf w ah) (a := a) (b := b) (st := st) (rx := rx) (y := y) (j := j)
  unfold way sg2 colE
  rw [bel_eq, bel_eq, lw]
  cases ha : bel w ah a y <;> cases hb : bel w ah b y
  · simp [bi]
  · have lt := up_lt hb ha
    rw [down_iff lt (by omega)] at k
    rw [if_neg (show ¬ a.2 < b.2 by omega)]
    unfold flo
    cases ho : wOwn (hf w ah) a b (rx + st * j, y)
    · have : ¬ -(atR (hf w ah) rx a b y / dn st a b) ≤ j := fun q => by rw [k.mpr q] at ho; cases ho
      rw [if_pos (show j ≤ -(atR (hf w ah) rx a b y / dn st a b) - 1 by omega)]
      simp [bi]
    · have := k.mp ho
      rw [if_neg (show ¬ j ≤ -(atR (hf w ah) rx a b y / dn st a b) - 1 by omega)]
      simp [bi]
  · have lt := up_lt ha hb
    rw [up_iff lt (by omega)] at k
    rw [if_pos lt]
    unfold flo
    cases ho : wOwn (hf w ah) a b (rx + st * j, y)
    · have : ¬ j ≤ atR (hf w ah) rx a b y / dn st a b := fun q => by rw [k.mpr q] at ho; cases ho
      rw [if_neg this]
      simp [bi]
    · rw [if_pos (k.mp ho)]
      simp [bi]
  · simp [bi]
theorem edE_swap (hw : w ≠ O) (hst : 1 ≤ st) : edE w ah st rx b a y = - edE w ah st rx a b y := by
  unfold edE
  have s : sg2 w ah b a y = - sg2 w ah a b y := by unfold sg2; omega
  by_cases z : sg2 w ah a b y = 0
  · rw [s, z]; simp
  · have e : ∀ j : Int, (if j ≤ colE w ah st rx b a y then (1 : Int) else 0) = if j ≤ colE w ah st rx a b y then 1 else 0 := fun j => by
      have k1 := way_col (w := w) (ah := ah) (a := a) (b := b) (rx := rx) (y := y) (j := j) hst
      have k2 := way_col (w := w) (ah := ah) (a := b) (b := a) (rx := rx) (y := y) (j := j) hst
      rw [way_swap hw, k1, s] at k2
      have k3 : sg2 w ah a b y * (if j ≤ colE w ah st rx b a y then (1 : Int) else 0) = sg2 w ah a b y * if j ≤ colE w ah st rx a b y then 1 else 0 := by
        rw [Int.neg_mul] at k2
        omega
      exact Int.eq_of_mul_eq_mul_left z k3
    have c : colE w ah st rx b a y = colE w ah st rx a b y := by
      have e1 := e (colE w ah st rx b a y)
      have e2 := e (colE w ah st rx a b y)
      rw [if_pos (Int.le_refl _)] at e1
      rw [if_pos (Int.le_refl _)] at e2
      split at e1
      · split at e2
        · omega
        · cases e2
      · cases e1
    rw [s, c, Int.neg_mul]
/-- a row of a triangle by its edges -/
theorem rowC_edE (hw : w ≠ O) (g : 0 < sd a b c) (hst : 1 ≤ st) : rowC (hf w ah) ⟨a, b, c⟩ st rx y = edE w ah st rx a b y + edE w ah st rx b c y + edE w ah st rx c a y := by
  have key : ∀ j : Int, (if own (hf w ah) ⟨a, b, c⟩ (rx + st * j, y) = true then (1 : Int) else 0) = sg2 w ah a b y * (if j ≤ colE w ah st rx a b y then 1 else 0) + sg2 w ah b c y * (if j ≤ colE w ah st rx b c y then 1 else 0) + sg2 w ah c a y * (if j ≤ colE w ah st rx c a y then 1 else 0) := fun j => by
    rw [← way_col hst, ← way_col hst, ← way_col hst, tri_ways (t := ⟨a, b, c⟩) hw g]
  have two : ∀ X1 X2 : Int, (∀ j : Int, (if own (hf w ah) ⟨a, b, c⟩ (rx + st * j, y) = true then (1 : Int) else 0) = (if j ≤ X1 then 1 else 0) - (if j ≤ X2 then 1 else 0)) → rowC (hf w ah) ⟨a, b, c⟩ st rx y = X1 - X2 := fun X1 X2 h => by
    have le : X2 ≤ X1 := by
      apply Int.not_lt.mp
      intro q
      have := h X2
      rw [if_pos (Int.le_refl X2), if_neg (show ¬ X2 ≤ X1 by omega)] at this
      split at this <;> omega
    have := row_cnt (R := hf w ah) (T := ⟨a, b, c⟩) (st := st) (rx := rx) (y := y) (lo := X2 + 1) (hi := X1) g hst fun j => by
      have hj := h j
      constructor
      · intro o
        rw [if_pos o] at hj
        split at hj <;> split at hj <;> omega
      · intro q
        rw [if_pos q.2, if_neg (show ¬ j ≤ X2 by omega)] at hj
        split at hj
        · assumption
        · omega
    omega
  have none : (∀ j : Int, (if own (hf w ah) ⟨a, b, c⟩ (rx + st * j, y) = true then (1 : Int) else 0) = 0) → rowC (hf w ah) ⟨a, b, c⟩ st rx y = 0 := fun h => by
    have := two 0 0 fun j => by rw [h j]; omega
    omega
  unfold edE
  generalize colE w ah st rx a b y = X1 at *
  generalize colE w ah st rx b c y = X2 at *
  generalize colE w ah st rx c a y = X3 at *
  unfold sg2 at key ⊢
  cases ha : bel w ah a y <;> cases hb : bel w ah b y <;> cases hc : bel w ah c y <;> rw [ha, hb, hc] at key <;> simp only [bi, if_true, if_false, Bool.false_eq_true, Int.sub_self, Int.zero_sub, Int.sub_zero, Int.zero_mul, Int.one_mul, Int.neg_mul, Int.zero_add, Int.add_zero] at key ⊢
  · exact none key
  · rw [two X3 X2 fun j => by rw [key j]; omega]; omega
  · rw [two X2 X1 fun j => by rw [key j]; omega]; omega
  · rw [two X3 X1 fun j => by rw [key j]; omega]; omega
  · rw [two X1 X3 fun j => by rw [key j]; omega]; omega
  · rw [two X1 X2 fun j => by rw [key j]; omega]; omega
  · rw [two X2 X3 fun j => by rw [key j]; omega]; omega
  · exact none key
end
section
variable {w : P} {ah : Bool} {a b c d p : P} {st rx ry y l h : Int}
/-- moved by whole steps -/
theorem colE_mv (hst : 1 ≤ st) (ne : a.2 ≠ b.2) {t : P} : colE w ah st rx (mv (st * t.1, st * t.2) a) (mv (st * t.1, st * t.2) b) (y + st * t.2) = colE w ah st rx a b y + t.1 := by
  have eR : sb (mv (st * t.1, st * t.2) b) (mv (st * t.1, st * t.2) a) = sb b a := by
    unfold sb mv
    exact Prod.ext (by simp only; omega) (by simp only; omega)
  have et : tie (hf w ah) (mv (st * t.1, st * t.2) a) (mv (st * t.1, st * t.2) b) = tie (hf w ah) a b := by unfold tie; rw [eR]
  have ed : dn st (mv (st * t.1, st * t.2) a) (mv (st * t.1, st * t.2) b) = dn st a b := by
    unfold dn mv
    simp only
    rw [show b.2 + st * t.2 - (a.2 + st * t.2) = b.2 - a.2 by omega]
  have ea : atR (hf w ah) rx (mv (st * t.1, st * t.2) a) (mv (st * t.1, st * t.2) b) (y + st * t.2) = atR (hf w ah) rx a b y + (b.2 - a.2) * st * t.1 := by
    unfold atR
    rw [et]
    unfold mv
    simp only
    grind
  have dp := dn_pos (a := a) (b := b) hst ne
  have lt2 : (mv (st * t.1, st * t.2) a).2 < (mv (st * t.1, st * t.2) b).2 ↔ a.2 < b.2 := by
    unfold mv
    simp only
    omega
  unfold colE flo
  rw [ea, ed]
  by_cases q : a.2 < b.2
  · rw [if_pos q, if_pos (lt2.mpr q)]
    have e : (b.2 - a.2) * st = dn st a b := by
      have := Int.mul_pos (show 0 < b.2 - a.2 by omega) (show 0 < st by omega)
      unfold dn
      omega
    rw [e, Int.mul_comm, Int.add_mul_ediv_right _ _ (by omega)]
  · rw [if_neg q, if_neg fun z => q (lt2.mp z)]
    have e : (b.2 - a.2) * st = - dn st a b := by
      have := Int.mul_pos (show 0 < a.2 - b.2 by omega) (show 0 < st by omega)
      have e1 : (b.2 - a.2) * st = -((a.2 - b.2) * st) := by grind
      unfold dn
      omega
    rw [e, show - dn st a b * t.1 = (-t.1) * dn st a b by grind, Int.add_mul_ediv_right _ _ (by omega)]
    omega
theorem bel_mv {u z : Int} : bel w ah (mv (u, z) a) (y + z) = bel w ah a y := by
  have k1 := bel_iff (w := w) (ah := ah) (a := mv (u, z) a) (y := y + z)
  have k2 := bel_iff (w := w) (ah := ah) (a := a) (y := y)
  have e : ((mv (u, z) a).2 < y + z ∨ ((mv (u, z) a).2 = y + z ∧ bel w ah (0, 0) 0 = true)) ↔ (a.2 < y ∨ (a.2 = y ∧ bel w ah (0, 0) 0 = true)) := by
    unfold mv
    simp only
    constructor
    · rintro (q | ⟨q, r⟩)
      · exact .inl (by omega)
      · exact .inr ⟨by omega, r⟩
    · rintro (q | ⟨q, r⟩)
      · exact .inl (by omega)
      · exact .inr ⟨by omega, r⟩
  rw [e, ← k2] at k1
  cases h1 : bel w ah (mv (u, z) a) (y + z) <;> cases h2 : bel w ah a y <;> rw [h1, h2] at k1 <;> simp at k1 <;> rfl
theorem edE_mv (hst : 1 ≤ st) {t : P} : edE w ah st rx (mv (st * t.1, st * t.2) a) (mv (st * t.1, st * t.2) b) (y + st * t.2) = edE w ah st rx a b y + t.1 * sg2 w ah a b y := by
  have es : sg2 w ah (mv (st * t.1, st * t.2) a) (mv (st * t.1, st * t.2) b) (y + st * t.2) = sg2 w ah a b y := by
    unfold sg2
    rw [bel_mv, bel_mv]
  unfold edE
  rw [es]
  by_cases z : sg2 w ah a b y = 0
  · rw [z]; simp
  · have ne : a.2 ≠ b.2 := fun q => by
      apply z
      unfold sg2
      have k1 := bel_iff (w := w) (ah := ah) (a := a) (y := y)
      have k2 := bel_iff (w := w) (ah := ah) (a := b) (y := y)
      rw [q, ← k2] at k1
      cases h1 : bel w ah a y <;> cases h2 : bel w ah b y <;> rw [h1, h2] at k1 <;> simp at k1 <;> simp
    rw [colE_mv hst ne]
    grind
/-- rows from l on, by whole steps -/
theorem one_block (hst : 1 ≤ st) : sumR (fun _ => 1) st ry l (l + st - 1) = 1 := by
  have e : rows st ry l (l + st - 1) = [SP.fst l ry st] := by
    refine SP.int_ext (SP.ups_asc hst) (by simp) fun z => ?_
    rw [rows_mem hst, List.mem_singleton]
    unfold SP.fst
    have m0 := Int.emod_nonneg (ry - l) (show st ≠ 0 by omega)
    have m1 := Int.emod_lt_of_pos (ry - l) (show 0 < st by omega)
    have e1 := Int.mul_ediv_add_emod (ry - l) st
    constructor
    · rintro ⟨h1, h2, h3⟩
      have e2 := Int.mul_ediv_add_emod (z - ry) st
      rw [h3, Int.add_zero] at e2
      have : st * ((z - ry) / st + (ry - l) / st) = z - l - (ry - l) % st := by
        rw [Int.mul_add]
        omega
      generalize (z - ry) / st + (ry - l) / st = k at this
      have k0 : k = 0 := by
        apply Int.le_antisymm
        · apply Int.not_lt.mp
          intro q
          have := Int.mul_le_mul_of_nonneg_left (show 1 ≤ k by omega) (show 0 ≤ st by omega)
          omega
        · apply Int.not_lt.mp
          intro q
          have := Int.mul_le_mul_of_nonneg_left (show k ≤ -1 by omega) (show 0 ≤ st by omega)
          omega
      rw [k0] at this
      omega
    · rintro rfl
      refine ⟨by omega, by omega, ?_⟩
      rw [show l + (ry - l) % st - ry = st * (-((ry - l) / st)) by rw [Int.mul_neg]; omega, Int.mul_emod_right]
  unfold sumR
  rw [e]
  rfl
theorem blocks (hst : 1 ≤ st) : ∀ n : Nat, sumR (fun _ => 1) st ry l (l + st * (n : Int) - 1) = n
  | 0 => sumR_nil hst (by have : st * ((0 : Nat) : Int) = 0 := by simp
                          omega)
  | n + 1 => by
    have e : st * ((n + 1 : Nat) : Int) = st * (n : Int) + st := by grind
    have p0 : 0 ≤ st * (n : Int) := Int.mul_nonneg (by omega) (by omega)
    rw [sumR_split hst (m := l + st * (n : Int)) (by omega) (by omega), blocks hst n, show l + st * ((n + 1 : Nat) : Int) - 1 = l + st * (n : Int) + st - 1 by omega, one_block hst]
    omega
def thr (w : P) (ah : Bool) (a : P) : Int := a.2 + if bel w ah (0, 0) 0 = true then 0 else 1
theorem bel_thr : bel w ah a y = decide (thr w ah a ≤ y) := by
  have k := bel_iff (w := w) (ah := ah) (a := a) (y := y)
  unfold thr
  cases hu : bel w ah (0, 0) 0 <;> rw [hu] at k <;> cases hb : bel w ah a y <;> rw [hb] at k <;> simp at k ⊢ <;> omega
theorem bel_sum (hst : 1 ≤ st) (h1 : l ≤ thr w ah a) (h2 : thr w ah a ≤ h + 1) : sumR (fun y => bi (bel w ah a y)) st ry l h = sumR (fun _ => 1) st ry (thr w ah a) h := by
  rw [sumR_split hst h1 h2, sumR_zero (h := thr w ah a - 1) hst fun y q1 q2 => by rw [bel_thr, decide_eq_false (by omega)]; rfl, Int.zero_add]
  exact sumR_congr hst fun y q1 q2 _ => by rw [bel_thr, decide_eq_true q1]; rfl
theorem sumR_sub {f g : Int → Int} : sumR (fun y => f y - g y) st ry l h = sumR f st ry l h - sumR g st ry l h := by
  unfold sumR
  induction rows st ry l h with
  | nil => rfl
  | cons a l ih =>
    rw [List.map_cons, List.sum_cons, ih, List.map_cons, List.sum_cons, List.map_cons, List.sum_cons]
    omega
theorem sumR_mul {f : Int → Int} {k : Int} : sumR (fun y => k * f y) st ry l h = k * sumR f st ry l h := by
  unfold sumR
  induction rows st ry l h with
  | nil => simp
  | cons a l ih =>
    rw [List.map_cons, List.sum_cons, ih, List.map_cons, List.sum_cons, Int.mul_add]
/-- the crossings of an edge add up to its height -/
theorem sg_sum (hst : 1 ≤ st) {k : Int} (hk : b.2 = a.2 + st * k) (h1 : l ≤ a.2) (h2 : l ≤ b.2) (h3 : a.2 ≤ h) (h4 : b.2 ≤ h) : sumR (sg2 w ah a b) st ry l h = k := by
  have e : sumR (sg2 w ah a b) st ry l h = sumR (fun y => bi (bel w ah a y)) st ry l h - sumR (fun y => bi (bel w ah b y)) st ry l h := sumR_sub
  have ta : a.2 ≤ thr w ah a ∧ thr w ah a ≤ a.2 + 1 := by unfold thr; split <;> omega
  have tb : b.2 ≤ thr w ah b ∧ thr w ah b ≤ b.2 + 1 := by unfold thr; split <;> omega
  have tt : thr w ah b = thr w ah a + st * k := by unfold thr; omega
  rw [e, bel_sum hst (by omega) (by omega), bel_sum hst (by omega) (by omega)]
  by_cases c : 0 ≤ k
  · obtain ⟨n, rfl⟩ := Int.eq_ofNat_of_zero_le c
    have p0 : 0 ≤ st * (n : Int) := Int.mul_nonneg (by omega) (by omega)
    rw [sumR_split hst (l := thr w ah a) (h := h) (m := thr w ah b) (by omega) (by omega), tt, blocks hst n]
    omega
  · obtain ⟨n, hn⟩ := Int.eq_ofNat_of_zero_le (show 0 ≤ -k by omega)
    have p0 : 0 ≤ st * (n : Int) := Int.mul_nonneg (by omega) (by omega)
    have e2 : thr w ah a = thr w ah b + st * (n : Int) := by
      rw [tt, ← hn]
      grind
    rw [sumR_split hst (l := thr w ah b) (h := h) (m := thr w ah a) (by omega) (by omega), e2, blocks hst n]
    omega
theorem sumR_shift {f : Int → Int} (hst : 1 ≤ st) {k : Int} : sumR (fun y => f (y - st * k)) st ry l h = sumR f st ry (l - st * k) (h - st * k) := by
  unfold sumR
  have e : rows st ry l h = (rows st ry (l - st * k) (h - st * k)).map fun y => y + st * k := by
    refine SP.int_ext (SP.ups_asc hst) (List.pairwise_map.mpr ((SP.ups_asc hst).imp fun {a b} q => by omega)) fun z => ?_
    have em : (z - st * k - ry) % st = (z - ry) % st := by
      rw [show z - st * k - ry = (z - ry) - st * k by omega, Int.sub_mul_emod_self_left]
    rw [rows_mem hst, List.mem_map]
    constructor
    · rintro ⟨q1, q2, q3⟩
      exact ⟨z - st * k, (rows_mem hst).mpr ⟨by omega, by omega, by rw [em]; exact q3⟩, by omega⟩
    · rintro ⟨y, q, rfl⟩
      have q' := (rows_mem hst).mp q
      rw [show y + st * k - st * k = y by omega] at em
      exact ⟨by omega, by omega, by rw [← em]; exact q'.2.2⟩
  rw [e, List.map_map]
  congr 1
  refine List.map_congr_left fun y _ => ?_
  show f (y + st * k - st * k) = f y
  rw [show y + st * k - st * k = y by omega]
/-- rows beyond do not count -/
theorem sumR_win {f : Int → Int} (hst : 1 ≤ st) {q r l' h' : Int} (z : ∀ y, y < q ∨ r < y → f y = 0) (qr : q ≤ r) (h1 : l ≤ q) (h2 : r ≤ h) (h3 : l' ≤ q) (h4 : r ≤ h') : sumR f st ry l h = sumR f st ry l' h' := by
  have key : ∀ l h : Int, l ≤ q → r ≤ h → sumR f st ry l h = sumR f st ry q r := fun l h a b => by
    rw [sumR_split hst (l := l) (h := h) (m := q) a (by omega), sumR_split hst (l := q) (h := h) (m := r + 1) (by omega) (by omega), sumR_zero (l := l) hst fun y _ k => z y (.inl (by omega)), sumR_zero (l := r + 1) hst fun y k _ => z y (.inr (by omega)), show r + 1 - 1 = r by omega]
    omega
  rw [key l h h1 h2, key l' h' h3 h4]
theorem sg2_out (h : y < min a.2 b.2 ∨ max a.2 b.2 < y) : sg2 w ah a b y = 0 := by
  unfold sg2
  have ta : a.2 ≤ thr w ah a ∧ thr w ah a ≤ a.2 + 1 := by unfold thr; split <;> omega
  have tb : b.2 ≤ thr w ah b ∧ thr w ah b ≤ b.2 + 1 := by unfold thr; split <;> omega
  rw [bel_thr, bel_thr]
  rcases h with h | h
  · rw [decide_eq_false (by omega), decide_eq_false (by omega)]; rfl
  · rw [decide_eq_true (by omega), decide_eq_true (by omega)]; rfl
/-- an edge moved by whole steps -/
theorem edge_mv_sum (hst : 1 ≤ st) {t : P} {k : Int} (hk : b.2 = a.2 + st * k) {l' h' : Int} (h1 : l ≤ a.2 + st * t.2) (h2 : l ≤ b.2 + st * t.2) (h3 : a.2 + st * t.2 ≤ h) (h4 : b.2 + st * t.2 ≤ h) (k1 : l' ≤ a.2) (k2 : l' ≤ b.2) (k3 : a.2 ≤ h') (k4 : b.2 ≤ h') :
    sumR (edE w ah st rx (mv (st * t.1, st * t.2) a) (mv (st * t.1, st * t.2) b)) st ry l h = sumR (edE w ah st rx a b) st ry l' h' + t.1 * k := by
  have e : sumR (edE w ah st rx (mv (st * t.1, st * t.2) a) (mv (st * t.1, st * t.2) b)) st ry l h = sumR (fun y => (fun z => edE w ah st rx a b z + t.1 * sg2 w ah a b z) (y - st * t.2)) st ry l h := sumR_congr hst fun y _ _ _ => by
    have := edE_mv (w := w) (ah := ah) (a := a) (b := b) (rx := rx) (y := y - st * t.2) hst (t := t)
    rw [show y - st * t.2 + st * t.2 = y by omega] at this
    exact this
  rw [e, sumR_shift (f := fun z => edE w ah st rx a b z + t.1 * sg2 w ah a b z) hst, sumR_add, sumR_mul, sg_sum hst hk (by omega) (by omega) (by omega) (by omega)]
  congr 1
  exact sumR_win hst (q := min a.2 b.2) (r := max a.2 b.2) (fun y hy => by unfold edE; rw [sg2_out hy, Int.zero_mul]) (by omega) (by omega) (by omega) (by omega) (by omega)
theorem sumR_edE (hw : w ≠ O) (g : 0 < sd a b c) (hst : 1 ≤ st) : sumR (rowC (hf w ah) ⟨a, b, c⟩ st rx) st ry l h = sumR (edE w ah st rx a b) st ry l h + sumR (edE w ah st rx b c) st ry l h + sumR (edE w ah st rx c a) st ry l h := by
  rw [← sumR_add, ← sumR_add]
  exact sumR_congr hst fun y _ _ _ => rowC_edE hw g hst
theorem sumR_edE_swap (hw : w ≠ O) (hst : 1 ≤ st) : sumR (edE w ah st rx b a) st ry l h = - sumR (edE w ah st rx a b) st ry l h := by
  have e : sumR (edE w ah st rx b a) st ry l h = sumR (fun y => (-1) * edE w ah st rx a b y) st ry l h := sumR_congr hst fun y _ _ _ => by rw [edE_swap hw hst]; omega
  rw [e, sumR_mul]
  omega
/-- a triangle whose ways are whole steps, and its twin -/
theorem twin_area (hw : w ≠ O) (hst : 1 ≤ st) (g : 0 < sd a b c) {u v : P} (hb : b = mv (st * u.1, st * u.2) a) (hc : c = mv (st * v.1, st * v.2) a) (hd : d = mv (st * u.1, st * u.2) c)
    (l1 : l ≤ a.2) (l2 : l ≤ b.2) (l3 : l ≤ c.2) (l4 : l ≤ d.2) (h1 : a.2 ≤ h) (h2 : b.2 ≤ h) (h3 : c.2 ≤ h) (h4 : d.2 ≤ h) :
    sumR (rowC (hf w ah) ⟨a, b, c⟩ st rx) st ry l h + sumR (rowC (hf w ah) ⟨b, d, c⟩ st rx) st ry l h = cr u v := by
  have hd2 : d = mv (st * v.1, st * v.2) b := by
    rw [hd, hb, hc]
    unfold mv
    exact Prod.ext (by simp only; omega) (by simp only; omega)
  have g2 : 0 < sd b d c := by
    have := twin_sd (a := a) (b := b) (c := c) (d := d) (by rw [hd, hb]; unfold mv; simp only; omega) (by rw [hd, hb]; unfold mv; simp only; omega)
    omega
  have yb : b.2 = a.2 + st * u.2 := by rw [hb]; rfl
  have yc : c.2 = a.2 + st * v.2 := by rw [hc]; rfl
  have yd : d.2 = c.2 + st * u.2 := by rw [hd]; rfl
  have m1 := edge_mv_sum (w := w) (ah := ah) (rx := rx) (ry := ry) (a := a) (b := b) (l := l) (h := h) (l' := l) (h' := h) hst (t := v) (k := u.2) yb (by omega) (by omega) (by omega) (by omega) l1 l2 h1 h2
  have m2 := edge_mv_sum (w := w) (ah := ah) (rx := rx) (ry := ry) (a := a) (b := c) (l := l) (h := h) (l' := l) (h' := h) hst (t := u) (k := v.2) yc (by omega) (by omega) (by omega) (by omega) l1 l3 h1 h3
  rw [← hc, ← hd2] at m1
  rw [← hb, ← hd] at m2
  rw [sumR_edE hw g hst, sumR_edE hw g2 hst, sumR_edE_swap (a := b) (b := c) hw hst, sumR_edE_swap (a := c) (b := d) hw hst, sumR_edE_swap (a := a) (b := c) hw hst, m1, m2]
  unfold cr
  rw [Int.mul_comm v.1]
  omega
end
section
variable {R : P → Bool} {T : T3} {w : P} {ah : Bool} {a b c m p : P} {st rx ry y l h : Int}
/-- all samples -/
def totS (R : P → Bool) (T : T3) (st rx ry : Int) : Int := sumR (rowC R T st rx) st ry (ylo T) (yhi T)
theorem lo_hi {T : T3} : ylo T ≤ yhi T := by unfold ylo yhi; omega
theorem tot_win (g : Good T) (hst : 1 ≤ st) (h1 : l ≤ ylo T) (h2 : yhi T ≤ h) : sumR (rowC R T st rx) st ry l h = totS R T st rx ry :=
  sumR_win hst (q := ylo T) (r := yhi T) (fun y hy => rowC_out g hst hy) lo_hi h1 h2 (Int.le_refl _) (Int.le_refl _)
theorem amt_tot (hL : l ≤ ylo T) (hH : yhi T ≤ h) : amt R T st rx ry l h = totS R T st rx ry := by
  unfold amt clip totS
  rw [show max (ylo T) l = ylo T by omega, show min (yhi T) h = yhi T by omega]
/-- the samples as a set -/
def InS (R : P → Bool) (T : T3) (st rx ry : Int) (p : P) : Prop := (p.1 - rx) % st = 0 ∧ (p.2 - ry) % st = 0 ∧ own R T p = true
theorem tot_list (R : P → Bool) (g : Good T) (hst : 1 ≤ st) (rx ry : Int) : ∃ s : List P, SP.Canon s ∧ (∀ p, p ∈ s ↔ InS R T st rx ry p) ∧ (s.length : Int) = totS R T st rx ry := by
  have can : SP.Canon ((SP.box st rx ry (xlo T, ylo T) (xhi T, yhi T)).filter fun p => own R T p) := SP.canon_filter _ (SP.box_canon hst)
  have mem : ∀ p, p ∈ ((SP.box st rx ry (xlo T, ylo T) (xhi T, yhi T)).filter fun p => own R T p) ↔ InS R T st rx ry p := fun p => by
    rw [List.mem_filter, SP.box_mem hst]
    unfold InS
    constructor
    · rintro ⟨⟨k1, k2⟩, o⟩
      exact ⟨k1.2.2, k2.2.2, o⟩
    · rintro ⟨k1, k2, o⟩
      have k := in_hull g o
      exact ⟨⟨⟨k.1, k.2.1, k1⟩, k.2.2.1, k.2.2.2, k2⟩, o⟩
  exact ⟨_, can, mem, rowC_len g hst can mem⟩
theorem len_inj {s s' : List P} (h : SP.Canon s) {φ : P → P} (inj : ∀ p q, φ p = φ q → p = q) (m : ∀ p ∈ s, φ p ∈ s') : s.length ≤ s'.length := by
  have nd : (s.map φ).Nodup := List.pairwise_map.mpr ((SP.canon_nodup h).imp fun {a b} ne e => ne (inj a b e))
  have := SP.nodup_len (l' := s') nd fun x hx => by
    obtain ⟨p, hp, rfl⟩ := List.mem_map.mp hx
    exact m p hp
  rw [List.length_map] at this
  exact this
theorem tot_bij {R' : P → Bool} {T' : T3} {st' rx' ry' : Int} (g : Good T) (g' : Good T') (hst : 1 ≤ st) (hst' : 1 ≤ st') {φ ψ : P → P} (i1 : ∀ p q, φ p = φ q → p = q) (i2 : ∀ p q, ψ p = ψ q → p = q) (h1 : ∀ p, InS R T st rx ry p → InS R' T' st' rx' ry' (φ p)) (h2 : ∀ p, InS R' T' st' rx' ry' p → InS R T st rx ry (ψ p)) : totS R T st rx ry = totS R' T' st' rx' ry' := by
  obtain ⟨s, c1, m1, e1⟩ := tot_list R g hst rx ry
  obtain ⟨s', c2, m2, e2⟩ := tot_list R' g' hst' rx' ry'
  have k1 := len_inj c1 i1 fun p hp => (m2 _).mpr (h1 p ((m1 p).mp hp))
  have k2 := len_inj c2 i2 fun p hp => (m1 _).mpr (h2 p ((m2 p).mp hp))
  omega
theorem tot_congr {R' : P → Bool} (g : Good T) (hst : 1 ≤ st) (h : ∀ d : P, d ≠ O → R d = R' d) : totS R T st rx ry = totS R' T st rx ry := by
  have e : ∀ p, own R T p = own R' T p := fun p => own_congr g h
  exact tot_bij g g hst hst (φ := id) (ψ := id) (fun _ _ h => h) (fun _ _ h => h) (fun p q => ⟨q.1, q.2.1, by rw [← e]; exact q.2.2⟩) (fun p q => ⟨q.1, q.2.1, by rw [e]; exact q.2.2⟩)
/-- a triangle and its twin: the double area -/
theorem tot_twin (hw : w ≠ O) (hst : 1 ≤ st) {u v : P} (g : 0 < sd a (mv (st * u.1, st * u.2) a) (mv (st * v.1, st * v.2) a)) :
    totS (hf w ah) ⟨a, mv (st * u.1, st * u.2) a, mv (st * v.1, st * v.2) a⟩ st rx ry + totS (hf w ah) ⟨mv (st * u.1, st * u.2) a, mv (st * u.1, st * u.2) (mv (st * v.1, st * v.2) a), mv (st * v.1, st * v.2) a⟩ st rx ry = cr u v := by
  obtain ⟨b, hb⟩ : ∃ b, b = mv (st * u.1, st * u.2) a := ⟨_, rfl⟩
  obtain ⟨c, hc⟩ : ∃ c, c = mv (st * v.1, st * v.2) a := ⟨_, rfl⟩
  obtain ⟨d, hd⟩ : ∃ d, d = mv (st * u.1, st * u.2) c := ⟨_, rfl⟩
  rw [← hb, ← hc, ← hd]
  rw [← hb, ← hc] at g
  have g2 : 0 < sd b d c := by
    have := twin_sd (a := a) (b := b) (c := c) (d := d) (by rw [hd, hb]; unfold mv; simp only; omega) (by rw [hd, hb]; unfold mv; simp only; omega)
    omega
  obtain ⟨L, hL⟩ : ∃ L, L = min (ylo ⟨a, b, c⟩) (ylo ⟨b, d, c⟩) := ⟨_, rfl⟩
  obtain ⟨H, hH⟩ : ∃ H, H = max (yhi ⟨a, b, c⟩) (yhi ⟨b, d, c⟩) := ⟨_, rfl⟩
  rw [← tot_win (l := L) (h := H) (T := ⟨a, b, c⟩) g hst (by omega) (by omega), ← tot_win (l := L) (h := H) (T := ⟨b, d, c⟩) g2 hst (by omega) (by omega)]
  unfold ylo at hL
  unfold yhi at hH
  simp only at hL hH
  exact twin_area hw hst g hb hc hd (by omega) (by omega) (by omega) (by omega) (by omega) (by omega) (by omega) (by omega)
theorem twin_unit {d : P} (hw : w ≠ O) (g : 0 < sd a b c) (d1 : d.1 = b.1 + c.1 - a.1) (d2 : d.2 = b.2 + c.2 - a.2) : totS (hf w ah) ⟨a, b, c⟩ 1 rx ry + totS (hf w ah) ⟨b, d, c⟩ 1 rx ry = sd a b c := by
  have eb : mv (1 * (sb b a).1, 1 * (sb b a).2) a = b := by unfold mv sb; exact Prod.ext (by simp only; omega) (by simp only; omega)
  have ec : mv (1 * (sb c a).1, 1 * (sb c a).2) a = c := by unfold mv sb; exact Prod.ext (by simp only; omega) (by simp only; omega)
  have ed : mv (1 * (sb b a).1, 1 * (sb b a).2) c = d := by unfold mv sb; exact Prod.ext (by simp only; omega) (by simp only; omega)
  have k := tot_twin (w := w) (ah := ah) (st := 1) (rx := rx) (ry := ry) (a := a) (u := sb b a) (v := sb c a) hw (by decide) (by rw [eb, ec]; exact g)
  rw [eb, ec, ed] at k
  exact k
end
end SA

set_option Elab.async false
set_option linter.all false
set_option maxRecDepth 100000
set_option maxHeartbeats 4000000
set_option autoImplicit false
/-! A triangle and its twin, moved by all sums of both ways, tile the plane. -/
namespace SA
section
variable {R : P → Bool} {a b c d : P}
def b1 (b : Bool) : Int := if b = true then 1 else 0
def sumN (f : Nat → Int) : Nat → Int
  | 0 => 0
  | n + 1 => sumN f n + f n
theorem sumN_congr {f g : Nat → Int} : ∀ {n : Nat}, (∀ k < n, f k = g k) → sumN f n = sumN g n
  | 0, _ => rfl
  | n + 1, h => by
    unfold sumN
    rw [sumN_congr fun k hk => h k (by omega), h n (by omega)]
theorem sumN_add {f g : Nat → Int} : ∀ {n : Nat}, sumN (fun k => f k + g k) n = sumN f n + sumN g n
  | 0 => rfl
  | n + 1 => by
    unfold sumN
    rw [sumN_add]
    omega
theorem sumN_mul {f : Nat → Int} {x : Int} : ∀ {n : Nat}, sumN (fun k => f k * x) n = sumN f n * x
  | 0 => by unfold sumN; rw [Int.zero_mul]
  | n + 1 => by
    unfold sumN
    rw [sumN_mul, Int.add_mul]
theorem sumN_tel {g : Nat → Int} : ∀ {n : Nat}, sumN (fun k => g k - g (k + 1)) n = g 0 - g n
  | 0 => by unfold sumN; omega
  | n + 1 => by
    unfold sumN
    rw [sumN_tel]
    omega
def uB (r : Bool) (x : Int) : Bool := decide (0 < x) || (decide (x = 0) && r)
theorem uB_t {x : Int} : uB true x = decide (0 ≤ x) := by
  unfold uB
  rw [Bool.and_true, ← Bool.decide_or]
  exact decide_eq_decide.mpr (by omega)
theorem uB_f {x : Int} : uB false x = decide (0 < x) := by
  unfold uB
  rw [Bool.and_false, Bool.or_false]
theorem wOwn_uB {p : P} : wOwn R a b p = uB (R (sb b a)) (sd a b p) := rfl
theorem tile_key {A x y : Int} {ru rv rd : Bool} (hA : 0 < A) (h1 : rv = false → rd = true → ru = false) (h2 : rv = true → rd = false → ru = true) :
    b1 (uB ru x && (uB rd (A - x - y) && uB (!rv) y)) + b1 (uB rv (A - y) && (uB (!ru) (A - x) && uB (!rd) (-(A - x - y)))) = (b1 (uB ru x) - b1 (uB ru (x - A))) * (b1 (uB (!rv) y) - b1 (uB (!rv) (y - A))) := by
  have key : ∀ (r : Bool) (z : Int), b1 (uB r z) - b1 (uB r (z - A)) = b1 (uB r z && uB (!r) (A - z)) := fun r z => by
    cases r
    · simp only [uB_t, uB_f, b1, Bool.not_false, Bool.and_eq_true, decide_eq_true_eq]
      split <;> split <;> split <;> omega
    · simp only [uB_t, uB_f, b1, Bool.not_true, Bool.and_eq_true, decide_eq_true_eq]
      split <;> split <;> split <;> omega
  have mul : ∀ s t : Bool, b1 s * b1 t = b1 (s && t) := fun s t => by cases s <;> cases t <;> rfl
  rw [key, key, mul]
  cases ru <;> cases rv <;> cases rd <;> (first | exact absurd (h1 rfl rfl) (by decide) | exact absurd (h2 rfl rfl) (by decide) | skip) <;> (simp only [uB_t, uB_f, b1, Bool.not_true, Bool.not_false, Bool.and_eq_true, decide_eq_true_eq]; split <;> split <;> split <;> omega)
/-- how both cover a point -/
theorem tile_own (h : HP R) (g : 0 < sd a b c) (d1 : d.1 = b.1 + c.1 - a.1) (d2 : d.2 = b.2 + c.2 - a.2) (q : P) :
    b1 (own R ⟨a, b, c⟩ q) + b1 (own R ⟨b, d, c⟩ q) = (b1 (uB (R (sb b a)) (sd a b q)) - b1 (uB (R (sb b a)) (sd a b q - sd a b c))) * (b1 (uB (!R (sb c a)) (sd c a q)) - b1 (uB (!R (sb c a)) (sd c a q - sd a b c))) := by
  have nu : sb b a ≠ O := by
    rw [nz]; unfold sb; rintro ⟨h1, h2⟩; unfold sd at g; simp only at h1 h2
    rw [h1, h2] at g; simp at g
  have nv : sb c a ≠ O := by
    rw [nz]; unfold sb; rintro ⟨h1, h2⟩; unfold sd at g; simp only at h1 h2
    rw [h1, h2] at g; simp at g
  have nd : sb c b ≠ O := by
    rw [nz]; unfold sb; rintro ⟨h1, h2⟩; simp only at h1 h2
    have e1 : c.1 = b.1 := by omega
    have e2 : c.2 = b.2 := by omega
    unfold sd at g
    rw [e1, e2] at g
    have : (b.1 - a.1) * (b.2 - a.2) - (b.2 - a.2) * (b.1 - a.1) = 0 := by grind
    omega
  have e1 : sb a c = neg (sb c a) := by unfold sb neg; exact P.ext (by simp only; omega) (by simp only; omega)
  have e2 : sb d b = sb c a := by unfold sb; exact P.ext (by simp only; omega) (by simp only; omega)
  have e3 : sb c d = neg (sb b a) := by unfold sb neg; exact P.ext (by simp only; omega) (by simp only; omega)
  have e4 : sb b c = neg (sb c b) := by unfold sb neg; exact P.ext (by simp only; omega) (by simp only; omega)
  have s1 : sd b c q = sd a b c - sd a b q - sd c a q := by unfold sd; grind
  have s2 : sd b d q = sd a b c - sd c a q := by unfold sd; rw [d1, d2]; grind
  have s3 : sd d c q = sd a b c - sd a b q := by unfold sd; rw [d1, d2]; grind
  have s4 : sd c b q = -(sd a b c - sd a b q - sd c a q) := by unfold sd; grind
  have k := tile_key (A := sd a b c) (x := sd a b q) (y := sd c a q) (ru := R (sb b a)) (rv := R (sb c a)) (rd := R (sb c b)) g
    (fun hv hd => by
      have m1 : R (neg (sb c a)) = true := by rw [h.opp _ nv, hv]; rfl
      have m2 := h.cone (neg (sb c a)) (sb c b) (neg (sb b a)) 1 1 1 (by decide) (by decide) (by decide) m1 hd (neg_nz nu) (by unfold neg sb; simp only; omega) (by unfold neg sb; simp only; omega)
      rw [h.opp _ nu] at m2
      simpa using m2)
    (fun hv hd => by
      have m1 : R (neg (sb c b)) = true := by rw [h.opp _ nd, hd]; rfl
      exact h.cone (sb c a) (neg (sb c b)) (sb b a) 1 1 1 (by decide) (by decide) (by decide) hv m1 nu (by unfold neg sb; simp only; omega) (by unfold neg sb; simp only; omega))
  unfold own
  simp only [wOwn_uB]
  rw [e1, e2, e3, e4, h.opp _ nu, h.opp _ nv, h.opp _ nd, s1, s2, s3, s4]
  exact k
/-- a point, moved back -/
def bk (a b c p : P) (I J : Nat) : P := (p.1 - (-9 + (I : Int)) * (b.1 - a.1) - (-9 + (J : Int)) * (c.1 - a.1), p.2 - (-9 + (I : Int)) * (b.2 - a.2) - (-9 + (J : Int)) * (c.2 - a.2))
def times (R : P → Bool) (t : T3) (a b c p : P) : Int := sumN (fun I => sumN (fun J => b1 (own R t (bk a b c p I J))) 19) 19
theorem tiles_one (h : HP R) (g : 0 < sd a b c) (d1 : d.1 = b.1 + c.1 - a.1) (d2 : d.2 = b.2 + c.2 - a.2) {p : P} (x1 : -(8 * sd a b c) ≤ sd a b p) (x2 : sd a b p ≤ 8 * sd a b c) (y1 : -(8 * sd a b c) ≤ sd c a p) (y2 : sd c a p ≤ 8 * sd a b c) :
    times R ⟨a, b, c⟩ a b c p + times R ⟨b, d, c⟩ a b c p = 1 := by
  obtain ⟨A, hA⟩ : ∃ A, A = sd a b c := ⟨_, rfl⟩
  rw [← hA] at g x1 x2 y1 y2
  obtain ⟨G, hG⟩ : ∃ G : Nat → Int, G = fun (J : Nat) => b1 (uB (R (sb b a)) (sd a b p - (-9 + (J : Int)) * A)) := ⟨_, rfl⟩
  obtain ⟨F, hF⟩ : ∃ F : Nat → Int, F = fun (I : Nat) => b1 (uB (!R (sb c a)) (sd c a p - (-9 + (I : Int)) * A)) := ⟨_, rfl⟩
  have e : ∀ I J : Nat, b1 (own R ⟨a, b, c⟩ (bk a b c p I J)) + b1 (own R ⟨b, d, c⟩ (bk a b c p I J)) = (G J - G (J + 1)) * (F I - F (I + 1)) := fun I J => by
    have k := tile_own h (by omega) d1 d2 (bk a b c p I J)
    have z1 : sd a b (bk a b c p I J) = sd a b p - (-9 + (J : Int)) * A := by rw [hA]; unfold sd bk; simp only; grind
    have z2 : sd c a (bk a b c p I J) = sd c a p - (-9 + (I : Int)) * A := by rw [hA]; unfold sd bk; simp only; grind
    have z3 : sd a b p - (-9 + (J : Int)) * A - A = sd a b p - (-9 + ((J + 1 : Nat) : Int)) * A := by
      rw [Int.natCast_succ, show (-9 + ((J : Int) + 1)) * A = (-9 + (J : Int)) * A + A by grind]
      omega
    have z4 : sd c a p - (-9 + (I : Int)) * A - A = sd c a p - (-9 + ((I + 1 : Nat) : Int)) * A := by
      rw [Int.natCast_succ, show (-9 + ((I : Int) + 1)) * A = (-9 + (I : Int)) * A + A by grind]
      omega
    rw [z1, z2, ← hA, z3, z4] at k
    rw [hG, hF]
    exact k
  have t : times R ⟨a, b, c⟩ a b c p + times R ⟨b, d, c⟩ a b c p = sumN (fun J => G J - G (J + 1)) 19 * sumN (fun I => F I - F (I + 1)) 19 := by
    unfold times
    rw [← sumN_add]
    have : ∀ I < 19, sumN (fun J => b1 (own R ⟨a, b, c⟩ (bk a b c p I J))) 19 + sumN (fun J => b1 (own R ⟨b, d, c⟩ (bk a b c p I J))) 19 = (F I - F (I + 1)) * sumN (fun J => G J - G (J + 1)) 19 := fun I _ => by
      rw [← sumN_add, Int.mul_comm, ← sumN_mul]
      exact sumN_congr fun J _ => e I J
    rw [sumN_congr this, sumN_mul, Int.mul_comm]
  rw [t, sumN_tel, sumN_tel]
  have g0 : G 0 = 1 := by
    rw [hG]
    dsimp only
    unfold uB b1
    rw [decide_eq_true (show 0 < sd a b p - (-9 + ((0 : Nat) : Int)) * A by omega)]
    rfl
  have f0 : F 0 = 1 := by
    rw [hF]
    dsimp only
    unfold uB b1
    rw [decide_eq_true (show 0 < sd c a p - (-9 + ((0 : Nat) : Int)) * A by omega)]
    rfl
  have g1 : G 19 = 0 := by
    rw [hG]
    dsimp only
    unfold uB b1
    rw [decide_eq_false (show ¬ 0 < sd a b p - (-9 + ((19 : Nat) : Int)) * A by omega), decide_eq_false (show ¬ sd a b p - (-9 + ((19 : Nat) : Int)) * A = 0 by omega)]
    rfl
  have f1 : F 19 = 0 := by
    rw [hF]
    dsimp only
    unfold uB b1
    rw [decide_eq_false (show ¬ 0 < sd c a p - (-9 + ((19 : Nat) : Int)) * A by omega), decide_eq_false (show ¬ sd c a p - (-9 + ((19 : Nat) : Int)) * A = 0 by omega)]
    rfl
  rw [g0, g1, f0, f1]
  decide
end
end SA

set_option Elab.async false
set_option linter.all false
set_option maxRecDepth 100000
set_option maxHeartbeats 4000000
set_option autoImplicit false
namespace K18
open PySem PySem.Spec PyProof.Rows L2 DL
structure Hd (K : PySem.W.Frag) (mg : Str → Option Value) : Prop where
  c : He5.SaysA fa fn K
  more : exB K = true
  ex : ∃ h : Heap, K.In h ∧ h.Ns mainGlobals mg
section
variable {K : PySem.W.Frag} {mg : Str → Option Value}
theorem Hd.g_is_integer (A : Hd K mg) : mg "is_integer" = some (.ref (He.ga K "is_integer")) := by
  obtain ⟨h, X, G⟩ := A.ex
  exact He.glo_ok X G (A.c.fact 0)
theorem Hd.g_is_between (A : Hd K mg) : mg "is_between" = some (.ref (He.ga K "is_between")) := by
  obtain ⟨h, X, G⟩ := A.ex
  exact He.glo_ok X G (A.c.fact 1)
theorem Hd.g_numbers_of (A : Hd K mg) : mg "numbers_of" = some (.ref (He.ga K "numbers_of")) := by
  obtain ⟨h, X, G⟩ := A.ex
  exact He.glo_ok X G (A.c.fact 2)
theorem Hd.g_cross_of (A : Hd K mg) : mg "cross_of" = some (.ref (He.ga K "cross_of")) := by
  obtain ⟨h, X, G⟩ := A.ex
  exact He.glo_ok X G (A.c.fact 3)
theorem Hd.g_less (A : Hd K mg) : mg "less" = some (.ref (He.ga K "less")) := by
  obtain ⟨h, X, G⟩ := A.ex
  exact He.glo_ok X G (A.c.fact 4)
theorem Hd.g_side_of (A : Hd K mg) : mg "side_of" = some (.ref (He.ga K "side_of")) := by
  obtain ⟨h, X, G⟩ := A.ex
  exact He.glo_ok X G (A.c.fact 5)
theorem Hd.g_pair_of (A : Hd K mg) : mg "pair_of" = some (.ref (He.ga K "pair_of")) := by
  obtain ⟨h, X, G⟩ := A.ex
  exact He.glo_ok X G (A.c.fact 6)
theorem Hd.g_point_of (A : Hd K mg) : mg "point_of" = some (.ref (He.ga K "point_of")) := by
  obtain ⟨h, X, G⟩ := A.ex
  exact He.glo_ok X G (A.c.fact 7)
theorem Hd.g__law_draw (A : Hd K mg) : mg "_law_draw" = some (.ref (He.ga K "_law_draw")) := by
  obtain ⟨h, X, G⟩ := A.ex
  exact He.glo_ok X G (A.c.fact 8)
theorem Hd.g__law_pair (A : Hd K mg) : mg "_law_pair" = some (.ref (He.ga K "_law_pair")) := by
  obtain ⟨h, X, G⟩ := A.ex
  exact He.glo_ok X G (A.c.fact 9)
theorem Hd.g__law_side (A : Hd K mg) : mg "_law_side" = some (.ref (He.ga K "_law_side")) := by
  obtain ⟨h, X, G⟩ := A.ex
  exact He.glo_ok X G (A.c.fact 10)
theorem Hd.g__law_corners (A : Hd K mg) : mg "_law_corners" = some (.ref (He.ga K "_law_corners")) := by
  obtain ⟨h, X, G⟩ := A.ex
  exact He.glo_ok X G (A.c.fact 11)
theorem Hd.g__law_hand (A : Hd K mg) : mg "_law_hand" = some (.ref (He.ga K "_law_hand")) := by
  obtain ⟨h, X, G⟩ := A.ex
  exact He.glo_ok X G (A.c.fact 12)
theorem Hd.g_check_ahead (A : Hd K mg) : mg "check_ahead" = some (.ref (He.ga K "check_ahead")) := by
  obtain ⟨h, X, G⟩ := A.ex
  exact He.glo_ok X G (A.c.fact 13)
theorem Hd.g_common_divisor (A : Hd K mg) : mg "common_divisor" = some (.ref (He.ga K "common_divisor")) := by
  obtain ⟨h, X, G⟩ := A.ex
  exact He.glo_ok X G (A.c.fact 14)
theorem Hd.g_lowest_pair (A : Hd K mg) : mg "lowest_pair" = some (.ref (He.ga K "lowest_pair")) := by
  obtain ⟨h, X, G⟩ := A.ex
  exact He.glo_ok X G (A.c.fact 15)
theorem Hd.g_way_in (A : Hd K mg) : mg "way_in" = some (.ref (He.ga K "way_in")) := by
  obtain ⟨h, X, G⟩ := A.ex
  exact He.glo_ok X G (A.c.fact 16)
theorem Hd.g_check_truths (A : Hd K mg) : mg "check_truths" = some (.ref (He.ga K "check_truths")) := by
  obtain ⟨h, X, G⟩ := A.ex
  exact He.glo_ok X G (A.c.fact 17)
theorem Hd.g__law_made (A : Hd K mg) : mg "_law_made" = some (.ref (He.ga K "_law_made")) := by
  obtain ⟨h, X, G⟩ := A.ex
  exact He.glo_ok X G (A.c.fact 18)
theorem Hd.g__law_near (A : Hd K mg) : mg "_law_near" = some (.ref (He.ga K "_law_near")) := by
  obtain ⟨h, X, G⟩ := A.ex
  exact He.glo_ok X G (A.c.fact 19)
theorem Hd.g__law_right_rule (A : Hd K mg) : mg "_law_right_rule" = some (.ref (He.ga K "_law_right_rule")) := by
  obtain ⟨h, X, G⟩ := A.ex
  exact He.glo_ok X G (A.c.fact 20)
theorem Hd.g_sign_of (A : Hd K mg) : mg "sign_of" = some (.ref (He.ga K "sign_of")) := by
  obtain ⟨h, X, G⟩ := A.ex
  exact He.glo_ok X G (A.c.fact 21)
theorem Hd.g_kind_of_pair (A : Hd K mg) : mg "kind_of_pair" = some (.ref (He.ga K "kind_of_pair")) := by
  obtain ⟨h, X, G⟩ := A.ex
  exact He.glo_ok X G (A.c.fact 22)
theorem Hd.g_ways_of (A : Hd K mg) : mg "ways_of" = some (.ref (He.ga K "ways_of")) := by
  obtain ⟨h, X, G⟩ := A.ex
  exact He.glo_ok X G (A.c.fact 23)
theorem Hd.g_is_owned (A : Hd K mg) : mg "is_owned" = some (.ref (He.ga K "is_owned")) := by
  obtain ⟨h, X, G⟩ := A.ex
  exact He.glo_ok X G (A.c.fact 24)
theorem Hd.g_owns (A : Hd K mg) : mg "owns" = some (.ref (He.ga K "owns")) := by
  obtain ⟨h, X, G⟩ := A.ex
  exact He.glo_ok X G (A.c.fact 25)
theorem Hd.g__law_times (A : Hd K mg) : mg "_law_times" = some (.ref (He.ga K "_law_times")) := by
  obtain ⟨h, X, G⟩ := A.ex
  exact He.glo_ok X G (A.c.fact 26)
theorem Hd.g_amount_on_row (A : Hd K mg) : mg "amount_on_row" = some (.ref (He.ga K "amount_on_row")) := by
  obtain ⟨h, X, G⟩ := A.ex
  exact He.glo_ok X G (A.c.fact 27)
theorem Hd.g_check_any (A : Hd K mg) : mg "check_any" = some (.ref (He.ga K "check_any")) := by
  obtain ⟨h, X, G⟩ := A.ex
  exact He.glo_ok X G (A.c.fact 28)
theorem Hd.g_greater_of (A : Hd K mg) : mg "greater_of" = some (.ref (He.ga K "greater_of")) := by
  obtain ⟨h, X, G⟩ := A.ex
  exact He.glo_ok X G (A.c.fact 29)
theorem Hd.g_less_of (A : Hd K mg) : mg "less_of" = some (.ref (He.ga K "less_of")) := by
  obtain ⟨h, X, G⟩ := A.ex
  exact He.glo_ok X G (A.c.fact 30)
theorem Hd.g_sum_of_floors (A : Hd K mg) : mg "sum_of_floors" = some (.ref (He.ga K "sum_of_floors")) := by
  obtain ⟨h, X, G⟩ := A.ex
  exact He.glo_ok X G (A.c.fact 31)
theorem Hd.g_first_from (A : Hd K mg) : mg "first_from" = some (.ref (He.ga K "first_from")) := by
  obtain ⟨h, X, G⟩ := A.ex
  exact He.glo_ok X G (A.c.fact 32)
theorem Hd.g_rows_from (A : Hd K mg) : mg "rows_from" = some (.ref (He.ga K "rows_from")) := by
  obtain ⟨h, X, G⟩ := A.ex
  exact He.glo_ok X G (A.c.fact 33)
theorem Hd.g_amount (A : Hd K mg) : mg "amount" = some (.ref (He.ga K "amount")) := by
  obtain ⟨h, X, G⟩ := A.ex
  exact He.glo_ok X G (A.c.fact 34)
theorem Hd.g_twin_of (A : Hd K mg) : mg "twin_of" = some (.ref (He.ga K "twin_of")) := by
  obtain ⟨h, X, G⟩ := A.ex
  exact He.glo_ok X G (A.c.fact 35)
theorem Hd.g_law (A : Hd K mg) : mg "law" = some (.ref (He.ga K "law")) := by
  obtain ⟨h, X, G⟩ := A.ex
  exact He.glo_ok X G (A.c.fact 36)
theorem Hd.g_Grid (A : Hd K mg) : mg "Grid" = some (.ref (He.ga K "Grid")) := by
  obtain ⟨h, X, G⟩ := A.ex
  exact He.glo_ok X G (A.c.fact 37)
theorem Hd.g_KINDS (A : Hd K mg) : mg "KINDS" = some (.ref (He.ga K "KINDS")) := by
  obtain ⟨h, X, G⟩ := A.ex
  exact He.glo_ok X G (A.c.fact 38)
theorem Hd.g_Point (A : Hd K mg) : mg "Point" = some (.ref (He.ga K "Point")) := by
  obtain ⟨h, X, G⟩ := A.ex
  exact He.glo_ok X G (A.c.fact 39)
theorem Hd.g_Triangle (A : Hd K mg) : mg "Triangle" = some (.ref (He.ga K "Triangle")) := by
  obtain ⟨h, X, G⟩ := A.ex
  exact He.glo_ok X G (A.c.fact 40)
theorem Hd.f_abs (A : Hd K mg) : mg "abs" = none := by
  obtain ⟨h, X, G⟩ := A.ex
  exact He.free_ok X G (A.c.fact 41)
theorem Hd.f_all (A : Hd K mg) : mg "all" = none := by
  obtain ⟨h, X, G⟩ := A.ex
  exact He.free_ok X G (A.c.fact 42)
theorem Hd.f_any (A : Hd K mg) : mg "any" = none := by
  obtain ⟨h, X, G⟩ := A.ex
  exact He.free_ok X G (A.c.fact 43)
theorem Hd.f_bool (A : Hd K mg) : mg "bool" = none := by
  obtain ⟨h, X, G⟩ := A.ex
  exact He.free_ok X G (A.c.fact 44)
theorem Hd.f_enumerate (A : Hd K mg) : mg "enumerate" = none := by
  obtain ⟨h, X, G⟩ := A.ex
  exact He.free_ok X G (A.c.fact 45)
theorem Hd.f_int (A : Hd K mg) : mg "int" = none := by
  obtain ⟨h, X, G⟩ := A.ex
  exact He.free_ok X G (A.c.fact 46)
theorem Hd.f_isinstance (A : Hd K mg) : mg "isinstance" = none := by
  obtain ⟨h, X, G⟩ := A.ex
  exact He.free_ok X G (A.c.fact 47)
theorem Hd.f_len (A : Hd K mg) : mg "len" = none := by
  obtain ⟨h, X, G⟩ := A.ex
  exact He.free_ok X G (A.c.fact 48)
theorem Hd.f_list (A : Hd K mg) : mg "list" = none := by
  obtain ⟨h, X, G⟩ := A.ex
  exact He.free_ok X G (A.c.fact 49)
theorem Hd.f_max (A : Hd K mg) : mg "max" = none := by
  obtain ⟨h, X, G⟩ := A.ex
  exact He.free_ok X G (A.c.fact 50)
theorem Hd.f_min (A : Hd K mg) : mg "min" = none := by
  obtain ⟨h, X, G⟩ := A.ex
  exact He.free_ok X G (A.c.fact 51)
theorem Hd.f_range (A : Hd K mg) : mg "range" = none := by
  obtain ⟨h, X, G⟩ := A.ex
  exact He.free_ok X G (A.c.fact 52)
theorem Hd.f_sorted (A : Hd K mg) : mg "sorted" = none := by
  obtain ⟨h, X, G⟩ := A.ex
  exact He.free_ok X G (A.c.fact 53)
theorem Hd.f_tuple (A : Hd K mg) : mg "tuple" = none := by
  obtain ⟨h, X, G⟩ := A.ex
  exact He.free_ok X G (A.c.fact 54)
theorem Hd.c_MOST_STEP (A : Hd K mg) : ∃ t, mg "MOST_STEP" = some (.int (1000000000000000000000000000000) t) := by
  obtain ⟨h, X, G⟩ := A.ex
  exact He.int_ok X G (A.c.fact 55)
theorem Hd.g_Edge (A : Hd K mg) : mg "Edge" = some (.ref (He.ga K "Edge")) := by
  obtain ⟨h, X, G⟩ := A.ex
  exact He.glo_ok X G (A.c.fact 56)
theorem Hd.g_Half (A : Hd K mg) : mg "Half" = some (.ref (He.ga K "Half")) := by
  obtain ⟨h, X, G⟩ := A.ex
  exact He.glo_ok X G (A.c.fact 67)
theorem Hd.g_Table (A : Hd K mg) : mg "Table" = some (.ref (He.ga K "Table")) := by
  obtain ⟨h, X, G⟩ := A.ex
  exact He.glo_ok X G (A.c.fact 74)
theorem Hd.fl_Edge_rest (A : Hd K mg) : FldD K mg "Edge" "rest" := ⟨_, A.g_Edge, He.cls_ok (A.c.fact 57), He.noat_ok (A.c.fact 58)⟩
theorem Hd.fl_Edge_rise (A : Hd K mg) : FldD K mg "Edge" "rise" := ⟨_, A.g_Edge, He.cls_ok (A.c.fact 57), He.noat_ok (A.c.fact 59)⟩
theorem Hd.fl_Edge_run (A : Hd K mg) : FldD K mg "Edge" "run" := ⟨_, A.g_Edge, He.cls_ok (A.c.fact 57), He.noat_ok (A.c.fact 60)⟩
theorem Hd.fl_Edge_start (A : Hd K mg) : FldD K mg "Edge" "start" := ⟨_, A.g_Edge, He.cls_ok (A.c.fact 57), He.noat_ok (A.c.fact 61)⟩
theorem Hd.fl_Edge_step (A : Hd K mg) : FldD K mg "Edge" "step" := ⟨_, A.g_Edge, He.cls_ok (A.c.fact 57), He.noat_ok (A.c.fact 62)⟩
theorem Hd.fl_Edge_tie (A : Hd K mg) : FldD K mg "Edge" "tie" := ⟨_, A.g_Edge, He.cls_ok (A.c.fact 57), He.noat_ok (A.c.fact 63)⟩
theorem Hd.fl_Grid_rest (A : Hd K mg) : FldD K mg "Grid" "rest" := ⟨_, A.g_Grid, He.cls_ok (A.c.fact 64), He.noat_ok (A.c.fact 65)⟩
theorem Hd.fl_Grid_step (A : Hd K mg) : FldD K mg "Grid" "step" := ⟨_, A.g_Grid, He.cls_ok (A.c.fact 64), He.noat_ok (A.c.fact 66)⟩
theorem Hd.fl_Half_own_ahead (A : Hd K mg) : FldD K mg "Half" "own_ahead" := ⟨_, A.g_Half, He.cls_ok (A.c.fact 68), He.noat_ok (A.c.fact 69)⟩
theorem Hd.fl_Half_own_way (A : Hd K mg) : FldD K mg "Half" "own_way" := ⟨_, A.g_Half, He.cls_ok (A.c.fact 68), He.noat_ok (A.c.fact 70)⟩
theorem Hd.fl_Point_x (A : Hd K mg) : FldD K mg "Point" "x" := ⟨_, A.g_Point, He.cls_ok (A.c.fact 71), He.noat_ok (A.c.fact 72)⟩
theorem Hd.fl_Point_y (A : Hd K mg) : FldD K mg "Point" "y" := ⟨_, A.g_Point, He.cls_ok (A.c.fact 71), He.noat_ok (A.c.fact 73)⟩
theorem Hd.fl_Table_truths (A : Hd K mg) : FldD K mg "Table" "truths" := ⟨_, A.g_Table, He.cls_ok (A.c.fact 75), He.noat_ok (A.c.fact 76)⟩
theorem Hd.fl_Triangle_pairs (A : Hd K mg) : FldD K mg "Triangle" "pairs" := ⟨_, A.g_Triangle, He.cls_ok (A.c.fact 77), He.noat_ok (A.c.fact 78)⟩
theorem Hd.isi (A : Hd K mg) : IsiTab ⟨K, mg, none⟩ isiT := by
  obtain ⟨h, X, G⟩ := A.ex
  exact isiTab_of X G (He.ba A.more).1
variable {P : Program} {w : World} {base : Heap}
theorem Hd.ne_Triangle (A : Hd K mg) : ∀ C, mg "Triangle" = some (.ref C) → NeFn K C := by
  obtain ⟨h, X, G⟩ := A.ex
  exact ne_of X G (He.ba (He.ba (He.ba (He.ba A.more).2).2).2).1
theorem Hd.k_KINDS (A : Hd K mg) : kdB K (He.ga K "KINDS") kd_KINDS = true := (He.ba (He.ba (He.ba (He.ba (He.ba (He.ba A.more).2).2).2).2).2).1
theorem scx_Flat : FnScope ["self", "three"] ["self", "three"] (defScope (inClass (top 8) 0)) := ⟨rfl, rfl, rfl, by decide +kernel, rfl, by decide +kernel, by decide +kernel⟩
theorem Hd.rx_Flat (A : Hd K mg) : RaiseD P w K mg base 1 "Flat" ["three"] := by
  obtain ⟨fd, F⟩ := A.c.def_ 52
  obtain ⟨h, X, G⟩ := A.ex
  obtain ⟨h1, h2, h3, h4⟩ := rxB_ok (He.ba (He.ba (He.ba (He.ba (He.ba (He.ba (He.ba A.more).2).2).2).2).2).2).1
  exact raise1 (rx_glo X G (He.ba (He.ba (He.ba (He.ba (He.ba (He.ba (He.ba A.more).2).2).2).2).2).2).1) h1 (h4 _ (by simp)) h2 h3 F scx_Flat (F.bindsN fun _ _ _ _ _ _ us hl => match us, hl with | [_, _], _ => rfl) fun _ _ _ _ _ _ => pss_one (ps_ost (pe_var (i := 0) rfl (Or.inl rfl)) (pe_var (i := 1) rfl (Or.inl rfl)))
theorem scx_InvalidGrid : FnScope ["self", "part"] ["self", "part"] (defScope (inClass (top 9) 0)) := ⟨rfl, rfl, rfl, by decide +kernel, rfl, by decide +kernel, by decide +kernel⟩
theorem Hd.rx_InvalidGrid (A : Hd K mg) : RaiseD P w K mg base 1 "InvalidGrid" ["part"] := by
  obtain ⟨fd, F⟩ := A.c.def_ 53
  obtain ⟨h, X, G⟩ := A.ex
  obtain ⟨h1, h2, h3, h4⟩ := rxB_ok (He.ba (He.ba (He.ba (He.ba (He.ba (He.ba (He.ba (He.ba A.more).2).2).2).2).2).2).2).1
  exact raise1 (rx_glo X G (He.ba (He.ba (He.ba (He.ba (He.ba (He.ba (He.ba (He.ba A.more).2).2).2).2).2).2).2).1) h1 (h4 _ (by simp)) h2 h3 F scx_InvalidGrid (F.bindsN fun _ _ _ _ _ _ us hl => match us, hl with | [_, _], _ => rfl) fun _ _ _ _ _ _ => pss_one (ps_ost (pe_var (i := 0) rfl (Or.inl rfl)) (pe_var (i := 1) rfl (Or.inl rfl)))
theorem scx_InvalidHalf : FnScope ["self", "part"] ["self", "part"] (defScope (inClass (top 7) 0)) := ⟨rfl, rfl, rfl, by decide +kernel, rfl, by decide +kernel, by decide +kernel⟩
theorem Hd.rx_InvalidHalf (A : Hd K mg) : RaiseD P w K mg base 1 "InvalidHalf" ["part"] := by
  obtain ⟨fd, F⟩ := A.c.def_ 54
  obtain ⟨h, X, G⟩ := A.ex
  obtain ⟨h1, h2, h3, h4⟩ := rxB_ok (He.ba (He.ba (He.ba (He.ba (He.ba (He.ba (He.ba (He.ba (He.ba A.more).2).2).2).2).2).2).2).2).1
  exact raise1 (rx_glo X G (He.ba (He.ba (He.ba (He.ba (He.ba (He.ba (He.ba (He.ba (He.ba A.more).2).2).2).2).2).2).2).2).1) h1 (h4 _ (by simp)) h2 h3 F scx_InvalidHalf (F.bindsN fun _ _ _ _ _ _ us hl => match us, hl with | [_, _], _ => rfl) fun _ _ _ _ _ _ => pss_one (ps_ost (pe_var (i := 0) rfl (Or.inl rfl)) (pe_var (i := 1) rfl (Or.inl rfl)))
theorem scx_InvalidNumber : FnScope ["self", "number"] ["self", "number"] (defScope (inClass (top 4) 0)) := ⟨rfl, rfl, rfl, by decide +kernel, rfl, by decide +kernel, by decide +kernel⟩
theorem Hd.rx_InvalidNumber (A : Hd K mg) : RaiseD P w K mg base 1 "InvalidNumber" ["number"] := by
  obtain ⟨fd, F⟩ := A.c.def_ 55
  obtain ⟨h, X, G⟩ := A.ex
  obtain ⟨h1, h2, h3, h4⟩ := rxB_ok (He.ba (He.ba (He.ba (He.ba (He.ba (He.ba (He.ba (He.ba (He.ba (He.ba A.more).2).2).2).2).2).2).2).2).2).1
  exact raise1 (rx_glo X G (He.ba (He.ba (He.ba (He.ba (He.ba (He.ba (He.ba (He.ba (He.ba (He.ba A.more).2).2).2).2).2).2).2).2).2).1) h1 (h4 _ (by simp)) h2 h3 F scx_InvalidNumber (F.bindsN fun _ _ _ _ _ _ us hl => match us, hl with | [_, _], _ => rfl) fun _ _ _ _ _ _ => pss_one (ps_ost (pe_var (i := 0) rfl (Or.inl rfl)) (pe_var (i := 1) rfl (Or.inl rfl)))
theorem scx_InvalidPoint : FnScope ["self", "thing"] ["self", "thing"] (defScope (inClass (top 3) 0)) := ⟨rfl, rfl, rfl, by decide +kernel, rfl, by decide +kernel, by decide +kernel⟩
theorem Hd.rx_InvalidPoint (A : Hd K mg) : RaiseD P w K mg base 1 "InvalidPoint" ["thing"] := by
  obtain ⟨fd, F⟩ := A.c.def_ 56
  obtain ⟨h, X, G⟩ := A.ex
  obtain ⟨h1, h2, h3, h4⟩ := rxB_ok (He.ba (He.ba (He.ba (He.ba (He.ba (He.ba (He.ba (He.ba (He.ba (He.ba (He.ba A.more).2).2).2).2).2).2).2).2).2).2).1
  exact raise1 (rx_glo X G (He.ba (He.ba (He.ba (He.ba (He.ba (He.ba (He.ba (He.ba (He.ba (He.ba (He.ba A.more).2).2).2).2).2).2).2).2).2).2).1) h1 (h4 _ (by simp)) h2 h3 F scx_InvalidPoint (F.bindsN fun _ _ _ _ _ _ us hl => match us, hl with | [_, _], _ => rfl) fun _ _ _ _ _ _ => pss_one (ps_ost (pe_var (i := 0) rfl (Or.inl rfl)) (pe_var (i := 1) rfl (Or.inl rfl)))
theorem scx_InvalidTable : FnScope ["self", "thing"] ["self", "thing"] (defScope (inClass (top 6) 0)) := ⟨rfl, rfl, rfl, by decide +kernel, rfl, by decide +kernel, by decide +kernel⟩
theorem Hd.rx_InvalidTable (A : Hd K mg) : RaiseD P w K mg base 1 "InvalidTable" ["thing"] := by
  obtain ⟨fd, F⟩ := A.c.def_ 57
  obtain ⟨h, X, G⟩ := A.ex
  obtain ⟨h1, h2, h3, h4⟩ := rxB_ok (He.ba (He.ba (He.ba (He.ba (He.ba (He.ba (He.ba (He.ba (He.ba (He.ba (He.ba A.more).2).2).2).2).2).2).2).2).2).2).2
  exact raise1 (rx_glo X G (He.ba (He.ba (He.ba (He.ba (He.ba (He.ba (He.ba (He.ba (He.ba (He.ba (He.ba A.more).2).2).2).2).2).2).2).2).2).2).2) h1 (h4 _ (by simp)) h2 h3 F scx_InvalidTable (F.bindsN fun _ _ _ _ _ _ us hl => match us, hl with | [_, _], _ => rfl) fun _ _ _ _ _ _ => pss_one (ps_ost (pe_var (i := 0) rfl (Or.inl rfl)) (pe_var (i := 1) rfl (Or.inl rfl)))
/-! is_integer -/
abbrev N_is_integer : List Str := ["thing"]
theorem sc_is_integer : FnScope N_is_integer ["thing"] (defScope (top 11)) := ⟨rfl, rfl, rfl, by decide +kernel, rfl, by decide +kernel, by decide +kernel⟩
def w_is_integer : WS := (sRet (wAndV (wN (fIsi isiT) (wCons (wVar 0) (wCons (wC (.ty "int")) wNil))) (wNotV (wN (fIsi isiT) (wCons (wVar 0) (wCons (wC (.ty "bool")) wNil))))))
def sp_is_integer : DSp := fun ds μ Q Xd => ds.length = 1 ∧ w_is_integer (defE Q Xd) (startD N_is_integer ds) μ
theorem d_is_integer (A : Hd K mg) {cdv : Value} {A2 : Around} {fr : List Env} {s : Shared} {H : Hp} {E : XK} {f : Addr} (hr : Room 0 (A2.deeper (envOfC "is_integer" (defScope (top 11)) s.heap.objs.size f cdv))) (hgd : (A2.deeper (envOfC "is_integer" (defScope (top 11)) s.heap.objs.size f cdv)).guards = some []) :
    DSs none (fun cls d _ H2 => E cls d H2) (cxOf (L2.CX P w) P w K mg base N_is_integer "is_integer" (defScope (top 11)) f cdv A2 fr s H E) (defBody (top 11)) w_is_integer := by
  have hN := (sc_is_integer).nd
  exact (dss_one (ds_ret (de_and (de_callB call_isi (sn_isi A.isi) rfl A.f_isinstance bt_isinstance (da_cons (dv 0) (da_cons (de_ty rfl A.f_int bt_int) da_nil))) (de_one (de_not (de_callB call_isi (sn_isi A.isi) rfl A.f_isinstance bt_isinstance (da_cons (dv 0) (da_cons (de_ty rfl A.f_bool bt_bool) da_nil))))))))
theorem Hd.ok_is_integer (A : Hd K mg) : CallD P w K mg base 1 "is_integer" ["thing"] sp_is_integer := by
  obtain ⟨fd, F⟩ := A.c.def_ 0
  exact ⟨_, fd, A.g_is_integer, F.kp, F.bindsN fun _ _ _ _ _ _ us hl => match us, hl with | [_], _ => rfl, def_ok F sc_is_integer (fun ds μ Q Xd h => h.1) (fun cdv A2 fr s H E hr hgd => d_is_integer A hr hgd) fun ds μ Q Xd h => h.2⟩
/-! is_between -/
abbrev N_is_between : List Str := ["thing", "least", "most"]
theorem sc_is_between : FnScope N_is_between ["thing", "least", "most"] (defScope (top 12)) := ⟨rfl, rfl, rfl, by decide +kernel, rfl, by decide +kernel, by decide +kernel⟩
def w_is_between : WS := (sRet (wAndV (wCall sp_is_integer (wCons (wVar 0) wNil)) (wChain fLe fLe (wVar 1) (wN fInt1 (wCons (wVar 0) wNil)) (wVar 2))))
def sp_is_between : DSp := fun ds μ Q Xd => ds.length = 3 ∧ w_is_between (defE Q Xd) (startD N_is_between ds) μ
theorem d_is_between (A : Hd K mg) {cdv : Value} {A2 : Around} {fr : List Env} {s : Shared} {H : Hp} {E : XK} {f : Addr} (hr : Room 1 (A2.deeper (envOfC "is_between" (defScope (top 12)) s.heap.objs.size f cdv))) (hgd : (A2.deeper (envOfC "is_between" (defScope (top 12)) s.heap.objs.size f cdv)).guards = some []) :
    DSs none (fun cls d _ H2 => E cls d H2) (cxOf (L2.CX P w) P w K mg base N_is_between "is_between" (defScope (top 12)) f cdv A2 fr s H E) (defBody (top 12)) w_is_between := by
  have hN := (sc_is_between).nd
  exact (dss_one (ds_ret (de_and (de_callD A.ok_is_integer hr (by decide) hgd rfl (takes_of rfl rfl rfl rfl) (da_cons (dv 0) da_nil)) (de_one (de_chain op_le s2_IB op_le s2_IB (dv 1) (de_callTy call_int1 sn_int1 rfl A.f_int bt_int (da_cons (dv 0) da_nil)) (dv 2))))))
theorem Hd.ok_is_between (A : Hd K mg) : CallD P w K mg base 2 "is_between" ["thing", "least", "most"] sp_is_between := by
  obtain ⟨fd, F⟩ := A.c.def_ 1
  exact ⟨_, fd, A.g_is_between, F.kp, F.bindsN fun _ _ _ _ _ _ us hl => match us, hl with | [_, _, _], _ => rfl, def_ok F sc_is_between (fun ds μ Q Xd h => h.1) (fun cdv A2 fr s H E hr hgd => d_is_between A hr hgd) fun ds μ Q Xd h => h.2⟩
/-! numbers_of -/
abbrev N_numbers_of : List Str := ["thing"]
theorem sc_numbers_of : FnScope N_numbers_of ["thing"] (defScope (top 16)) := ⟨rfl, rfl, rfl, by decide +kernel, rfl, by decide +kernel, by decide +kernel⟩
def w_numbers_of : WS := (sSeq (sIf (wB (wN (fIsi isiT) (wCons (wVar 0) (wCons (wC (.cls "Point")) wNil))))
  (sRet (wTup (wCons (w1 (fFld "Point" "x") (wVar 0)) (wCons (w1 (fFld "Point" "y") (wVar 0)) wNil))))
  sNext)
 (sSeq (sIf (wAnd (wB (wN (fIsi isiT) (wCons (wVar 0) (wCons (wC (.ty "tuple")) wNil)))) (wAnd (wB (w2 fEqU (wN fLen (wCons (wVar 0) wNil)) (wC (.int (2))))) (wAnd (wB (wCall sp_is_integer (wCons (w2 fIx (wVar 0) (wC (.int (0)))) wNil))) (wB (wCall sp_is_integer (wCons (w2 fIx (wVar 0) (wC (.int (1)))) wNil))))))
  (sRet (wTup (wCons (wN fInt1 (wCons (w2 fIx (wVar 0) (wC (.int (0)))) wNil)) (wCons (wN fInt1 (wCons (w2 fIx (wVar 0) (wC (.int (1)))) wNil)) wNil))))
  sNext)
 (sRet (wC .non))))
def sp_numbers_of : DSp := fun ds μ Q Xd => ds.length = 1 ∧ w_numbers_of (defE Q Xd) (startD N_numbers_of ds) μ
theorem d_numbers_of (A : Hd K mg) {cdv : Value} {A2 : Around} {fr : List Env} {s : Shared} {H : Hp} {E : XK} {f : Addr} (hr : Room 1 (A2.deeper (envOfC "numbers_of" (defScope (top 16)) s.heap.objs.size f cdv))) (hgd : (A2.deeper (envOfC "numbers_of" (defScope (top 16)) s.heap.objs.size f cdv)).guards = some []) :
    DSs none (fun cls d _ H2 => E cls d H2) (cxOf (L2.CX P w) P w K mg base N_numbers_of "numbers_of" (defScope (top 16)) f cdv A2 fr s H E) (defBody (top 16)) w_numbers_of := by
  have hN := (sc_numbers_of).nd
  exact (dss_cons (ds_if (dt_val (de_callB call_isi (sn_isi A.isi) rfl A.f_isinstance bt_isinstance (da_cons (dv 0) (da_cons (de_cls rfl A.g_Point) da_nil)))) (dss_one (ds_ret (de_tup (da_cons (de_fldD A.fl_Point_x (dv 0)) (da_cons (de_fldD A.fl_Point_y (dv 0)) da_nil))))) dss_nil)
 (dss_cons (ds_if (dt_w (dw_and (dt_val (de_callB call_isi (sn_isi A.isi) rfl A.f_isinstance bt_isinstance (da_cons (dv 0) (da_cons (de_ty rfl A.f_tuple bt_tuple) da_nil)))) (dw_and (dt_cmp (op_eqU (have z := room64 hr; z)) s2_eqU (de_callB call_len_seq sn_len rfl A.f_len bt_len (da_cons (dv 0) da_nil)) de_int (nomark _)) (dw_and (dt_val (de_callD A.ok_is_integer hr (by decide) hgd rfl (takes_of rfl rfl rfl rfl) (da_cons (de_item (dv 0) de_int) da_nil))) (dw_and1 (dt_val (de_callD A.ok_is_integer hr (by decide) hgd rfl (takes_of rfl rfl rfl rfl) (da_cons (de_item (dv 0) de_int) da_nil)))))))) (dss_one (ds_ret (de_tup (da_cons (de_callTy call_int1 sn_int1 rfl A.f_int bt_int (da_cons (de_item (dv 0) de_int) da_nil)) (da_cons (de_callTy call_int1 sn_int1 rfl A.f_int bt_int (da_cons (de_item (dv 0) de_int) da_nil)) da_nil))))) dss_nil)
 (dss_one (ds_ret de_non))))
theorem Hd.ok_numbers_of (A : Hd K mg) : CallD P w K mg base 2 "numbers_of" ["thing"] sp_numbers_of := by
  obtain ⟨fd, F⟩ := A.c.def_ 2
  exact ⟨_, fd, A.g_numbers_of, F.kp, F.bindsN fun _ _ _ _ _ _ us hl => match us, hl with | [_], _ => rfl, def_ok F sc_numbers_of (fun ds μ Q Xd h => h.1) (fun cdv A2 fr s H E hr hgd => d_numbers_of A hr hgd) fun ds μ Q Xd h => h.2⟩
/-! Grid_init -/
abbrev N_Grid_init : List Str := ["self", "step", "at", "pair"]
theorem sc_Grid_init : FnScope N_Grid_init ["self", "step", "at"] (defScope (inClass (top 29) 0)) := ⟨rfl, rfl, rfl, by decide +kernel, rfl, by decide +kernel, by decide +kernel⟩
def w_Grid_init : WS := (sSeq (sIf (wNot (wB (wCall sp_is_between (wCons (wVar 1) (wCons (wC (.int (1))) (wCons (wC (.int (1000000000000000000000000000000))) wNil))))))
  (sRaise "InvalidGrid" ["part"] (wCons (wC (.str "step")) wNil))
  sNext)
 (sSeq (sSet 3 (wCall sp_numbers_of (wCons (wVar 2) wNil)))
 (sSeq (sIf (wB (w2 fIsN (wVar 3) (wC .non)))
  (sRaise "InvalidGrid" ["part"] (wCons (wC (.str "at")) wNil))
  sNext)
 (sSeq (sFldO "Grid" 0 "step" (wVar 1))
 (sFldO "Grid" 0 "rest" (wTup (wCons (w2 fMod (w2 fIx (wVar 3) (wC (.int (0)))) (wVar 1)) (wCons (w2 fMod (w2 fIx (wVar 3) (wC (.int (1)))) (wVar 1)) wNil))))))))
def sp_Grid_init : ISp := fun ds μ Q Xd => ds.length = 2 ∧ ∀ a, w_Grid_init (defI "Grid" a Q Xd) (startI N_Grid_init "Grid" a ds) μ
theorem d_Grid_init (A : Hd K mg) {cdv : Value} {A2 : Around} {fr : List Env} {s : Shared} {H : Hp} {E : XK} {f : Addr} (hr : Room 2 (A2.deeper (envOfC "Grid.__init__" (defScope (inClass (top 29) 0)) s.heap.objs.size f cdv))) (hgd : (A2.deeper (envOfC "Grid.__init__" (defScope (inClass (top 29) 0)) s.heap.objs.size f cdv)).guards = some []) :
    DSs none (fun cls d _ H2 => E cls d H2) (cxOf (L2.CX P w) P w K mg base N_Grid_init "Grid.__init__" (defScope (inClass (top 29) 0)) f cdv A2 fr s H E) (defBody (inClass (top 29) 0)) w_Grid_init := by
  have hN := (sc_Grid_init).nd
  exact (dss_cons (ds_if (dt_not (dt_val (de_callD A.ok_is_between hr (by decide) hgd rfl (takes_of rfl rfl rfl rfl) (da_cons (dv 1) (da_cons de_int (da_cons (de_gintE rfl A.c_MOST_STEP) da_nil)))))) (dss_one (ds_raiseD A.rx_InvalidGrid rfl hr (by decide) rfl (takes_of rfl rfl rfl rfl) (da_cons de_str da_nil))) dss_nil)
 (dss_cons (ds_set (i := 3) hN rfl (de_callD A.ok_numbers_of hr (by decide) hgd rfl (takes_of rfl rfl rfl rfl) (da_cons (dv 2) da_nil)))
 (dss_cons (ds_if (dt_cmp op_isN s2_isN (dv 3) de_non (nomark _)) (dss_one (ds_raiseD A.rx_InvalidGrid rfl hr (by decide) rfl (takes_of rfl rfl rfl rfl) (da_cons de_str da_nil))) dss_nil)
 (dss_cons (ds_fldOD A.fl_Grid_step rfl (dv 1))
 (dss_one (ds_fldOD A.fl_Grid_rest rfl (de_tup (da_cons (de_mod (de_item (dv 3) de_int) (dv 1)) (da_cons (de_mod (de_item (dv 3) de_int) (dv 1)) da_nil)))))))))
theorem Hd.ok_Grid_init (A : Hd K mg) : MakeD P w K mg base 3 "Grid" ["self", "step", "at"] sp_Grid_init := by
  obtain ⟨fd, F⟩ := A.c.def_ 3
  refine ⟨_, _, fd, A.g_Grid, He.mkr_ok (A.c.fact 80), F.bindsN fun _ _ _ _ _ _ us hl => match us, hl with | [_, _, _], _ => rfl, def_okI F sc_Grid_init (fun ds μ Q Xd h => by rw [h.1]; rfl) (fun cdv A2 fr s H E hr hgd => d_Grid_init A hr hgd) fun ds μ Q Xd a h => h.2 a⟩
/-! Grid_unit -/
abbrev N_Grid_unit : List Str := []
theorem sc_Grid_unit : FnScope N_Grid_unit [] (defScope (inClass (top 29) 1)) := ⟨rfl, rfl, rfl, by decide +kernel, rfl, by decide +kernel, by decide +kernel⟩
def w_Grid_unit : WS := (sRet (wMake "Grid" sp_Grid_init (wCons (wC (.int (1))) (wCons (wTup (wCons (wC (.int (0))) (wCons (wC (.int (0))) wNil))) wNil))))
def sp_Grid_unit : DSp := fun ds μ Q Xd => ds.length = 0 ∧ w_Grid_unit (defE Q Xd) (startD N_Grid_unit ds) μ
theorem d_Grid_unit (A : Hd K mg) {cdv : Value} {A2 : Around} {fr : List Env} {s : Shared} {H : Hp} {E : XK} {f : Addr} (hr : Room 4 (A2.deeper (envOfC "Grid.unit" (defScope (inClass (top 29) 1)) s.heap.objs.size f cdv))) (hgd : (A2.deeper (envOfC "Grid.unit" (defScope (inClass (top 29) 1)) s.heap.objs.size f cdv)).guards = some []) :
    DSs none (fun cls d _ H2 => E cls d H2) (cxOf (L2.CX P w) P w K mg base N_Grid_unit "Grid.unit" (defScope (inClass (top 29) 1)) f cdv A2 fr s H E) (defBody (inClass (top 29) 1)) w_Grid_unit := by
  have hN := (sc_Grid_unit).nd
  exact (dss_one (ds_ret (de_makeD A.ok_Grid_init hr (by decide) hgd rfl (takes_of rfl rfl rfl rfl) (da_cons de_int (da_cons (de_tup (da_cons de_int (da_cons de_int da_nil))) da_nil)))))
theorem Hd.ok_Grid_unit (A : Hd K mg) : StatD P w K mg base 5 "Grid" "unit" [] sp_Grid_unit := by
  obtain ⟨fd, F⟩ := A.c.def_ 4
  obtain ⟨h, X, G⟩ := A.ex
  exact statD_of X G (He.ba (He.ba (He.ba (He.ba (He.ba A.more).2).2).2).2).1 (F.bindsN fun _ _ _ _ _ _ us hl => match us, hl with | [], _ => rfl) (def_ok F sc_Grid_unit (fun ds μ Q Xd h => h.1) (fun cdv A2 fr s H E hr hgd => d_Grid_unit A hr hgd) fun ds μ Q Xd h => h.2)
/-! cross_of -/
abbrev N_cross_of : List Str := ["one", "other"]
theorem sc_cross_of : FnScope N_cross_of ["one", "other"] (defScope (top 20)) := ⟨rfl, rfl, rfl, by decide +kernel, rfl, by decide +kernel, by decide +kernel⟩
def w_cross_of : WS := (sRet (w2 fSub (w2 fTimes (w2 fIx (wVar 0) (wC (.int (0)))) (w2 fIx (wVar 1) (wC (.int (1))))) (w2 fTimes (w2 fIx (wVar 0) (wC (.int (1)))) (w2 fIx (wVar 1) (wC (.int (0)))))))
def sp_cross_of : DSp := fun ds μ Q Xd => ds.length = 2 ∧ w_cross_of (defE Q Xd) (startD N_cross_of ds) μ
theorem d_cross_of (A : Hd K mg) {cdv : Value} {A2 : Around} {fr : List Env} {s : Shared} {H : Hp} {E : XK} {f : Addr} (hr : Room 0 (A2.deeper (envOfC "cross_of" (defScope (top 20)) s.heap.objs.size f cdv))) (hgd : (A2.deeper (envOfC "cross_of" (defScope (top 20)) s.heap.objs.size f cdv)).guards = some []) :
    DSs none (fun cls d _ H2 => E cls d H2) (cxOf (L2.CX P w) P w K mg base N_cross_of "cross_of" (defScope (top 20)) f cdv A2 fr s H E) (defBody (top 20)) w_cross_of := by
  have hN := (sc_cross_of).nd
  exact (dss_one (ds_ret (de_sub (de_times (de_item (dv 0) de_int) (de_item (dv 1) de_int)) (de_times (de_item (dv 0) de_int) (de_item (dv 1) de_int)))))
theorem Hd.ok_cross_of (A : Hd K mg) : CallD P w K mg base 1 "cross_of" ["one", "other"] sp_cross_of := by
  obtain ⟨fd, F⟩ := A.c.def_ 5
  exact ⟨_, fd, A.g_cross_of, F.kp, F.bindsN fun _ _ _ _ _ _ us hl => match us, hl with | [_, _], _ => rfl, def_ok F sc_cross_of (fun ds μ Q Xd h => h.1) (fun cdv A2 fr s H E hr hgd => d_cross_of A hr hgd) fun ds μ Q Xd h => h.2⟩
/-! less -/
abbrev N_less : List Str := ["one", "other"]
theorem sc_less : FnScope N_less ["one", "other"] (defScope (top 19)) := ⟨rfl, rfl, rfl, by decide +kernel, rfl, by decide +kernel, by decide +kernel⟩
def w_less : WS := (sRet (wTup (wCons (w2 fSub (w2 fIx (wVar 0) (wC (.int (0)))) (w2 fIx (wVar 1) (wC (.int (0))))) (wCons (w2 fSub (w2 fIx (wVar 0) (wC (.int (1)))) (w2 fIx (wVar 1) (wC (.int (1))))) wNil))))
def sp_less : DSp := fun ds μ Q Xd => ds.length = 2 ∧ w_less (defE Q Xd) (startD N_less ds) μ
theorem d_less (A : Hd K mg) {cdv : Value} {A2 : Around} {fr : List Env} {s : Shared} {H : Hp} {E : XK} {f : Addr} (hr : Room 0 (A2.deeper (envOfC "less" (defScope (top 19)) s.heap.objs.size f cdv))) (hgd : (A2.deeper (envOfC "less" (defScope (top 19)) s.heap.objs.size f cdv)).guards = some []) :
    DSs none (fun cls d _ H2 => E cls d H2) (cxOf (L2.CX P w) P w K mg base N_less "less" (defScope (top 19)) f cdv A2 fr s H E) (defBody (top 19)) w_less := by
  have hN := (sc_less).nd
  exact (dss_one (ds_ret (de_tup (da_cons (de_sub (de_item (dv 0) de_int) (de_item (dv 1) de_int)) (da_cons (de_sub (de_item (dv 0) de_int) (de_item (dv 1) de_int)) da_nil)))))
theorem Hd.ok_less (A : Hd K mg) : CallD P w K mg base 1 "less" ["one", "other"] sp_less := by
  obtain ⟨fd, F⟩ := A.c.def_ 6
  exact ⟨_, fd, A.g_less, F.kp, F.bindsN fun _ _ _ _ _ _ us hl => match us, hl with | [_, _], _ => rfl, def_ok F sc_less (fun ds μ Q Xd h => h.1) (fun cdv A2 fr s H E hr hgd => d_less A hr hgd) fun ds μ Q Xd h => h.2⟩
/-! side_of -/
abbrev N_side_of : List Str := ["a", "b", "point"]
theorem sc_side_of : FnScope N_side_of ["a", "b", "point"] (defScope (top 21)) := ⟨rfl, rfl, rfl, by decide +kernel, rfl, by decide +kernel, by decide +kernel⟩
def w_side_of : WS := (sRet (wCall sp_cross_of (wCons (wCall sp_less (wCons (wVar 1) (wCons (wVar 0) wNil))) (wCons (wCall sp_less (wCons (wVar 2) (wCons (wVar 0) wNil))) wNil))))
def sp_side_of : DSp := fun ds μ Q Xd => ds.length = 3 ∧ w_side_of (defE Q Xd) (startD N_side_of ds) μ
theorem d_side_of (A : Hd K mg) {cdv : Value} {A2 : Around} {fr : List Env} {s : Shared} {H : Hp} {E : XK} {f : Addr} (hr : Room 1 (A2.deeper (envOfC "side_of" (defScope (top 21)) s.heap.objs.size f cdv))) (hgd : (A2.deeper (envOfC "side_of" (defScope (top 21)) s.heap.objs.size f cdv)).guards = some []) :
    DSs none (fun cls d _ H2 => E cls d H2) (cxOf (L2.CX P w) P w K mg base N_side_of "side_of" (defScope (top 21)) f cdv A2 fr s H E) (defBody (top 21)) w_side_of := by
  have hN := (sc_side_of).nd
  exact (dss_one (ds_ret (de_callD A.ok_cross_of hr (by decide) hgd rfl (takes_of rfl rfl rfl rfl) (da_cons (de_callD A.ok_less hr (by decide) hgd rfl (takes_of rfl rfl rfl rfl) (da_cons (dv 1) (da_cons (dv 0) da_nil))) (da_cons (de_callD A.ok_less hr (by decide) hgd rfl (takes_of rfl rfl rfl rfl) (da_cons (dv 2) (da_cons (dv 0) da_nil))) da_nil)))))
theorem Hd.ok_side_of (A : Hd K mg) : CallD P w K mg base 2 "side_of" ["a", "b", "point"] sp_side_of := by
  obtain ⟨fd, F⟩ := A.c.def_ 7
  exact ⟨_, fd, A.g_side_of, F.kp, F.bindsN fun _ _ _ _ _ _ us hl => match us, hl with | [_, _, _], _ => rfl, def_ok F sc_side_of (fun ds μ Q Xd h => h.1) (fun cdv A2 fr s H E hr hgd => d_side_of A hr hgd) fun ds μ Q Xd h => h.2⟩
/-! Triangle_area2 -/
abbrev N_Triangle_area2 : List Str := ["self"]
theorem sc_Triangle_area2 : FnScope N_Triangle_area2 ["self"] (defScope (inClass (top 23) 3)) := ⟨rfl, rfl, rfl, by decide +kernel, rfl, by decide +kernel, by decide +kernel⟩
def w_Triangle_area2 : WS := (sRet (wCall sp_side_of (wCons (w2 fIx (w1 (fFld "Triangle" "pairs") (wVar 0)) (wC (.int (0)))) (wCons (w2 fIx (w1 (fFld "Triangle" "pairs") (wVar 0)) (wC (.int (1)))) (wCons (w2 fIx (w1 (fFld "Triangle" "pairs") (wVar 0)) (wC (.int (2)))) wNil)))))
def sp_Triangle_area2 : DSp := fun ds μ Q Xd => ds.length = 1 ∧ w_Triangle_area2 (defE Q Xd) (startD N_Triangle_area2 ds) μ
theorem d_Triangle_area2 (A : Hd K mg) {cdv : Value} {A2 : Around} {fr : List Env} {s : Shared} {H : Hp} {E : XK} {f : Addr} (hr : Room 2 (A2.deeper (envOfC "Triangle.area2" (defScope (inClass (top 23) 3)) s.heap.objs.size f cdv))) (hgd : (A2.deeper (envOfC "Triangle.area2" (defScope (inClass (top 23) 3)) s.heap.objs.size f cdv)).guards = some []) :
    DSs none (fun cls d _ H2 => E cls d H2) (cxOf (L2.CX P w) P w K mg base N_Triangle_area2 "Triangle.area2" (defScope (inClass (top 23) 3)) f cdv A2 fr s H E) (defBody (inClass (top 23) 3)) w_Triangle_area2 := by
  have hN := (sc_Triangle_area2).nd
  exact (dss_one (ds_ret (de_callD A.ok_side_of hr (by decide) hgd rfl (takes_of rfl rfl rfl rfl) (da_cons (de_item (de_fldD A.fl_Triangle_pairs (dv 0)) de_int) (da_cons (de_item (de_fldD A.fl_Triangle_pairs (dv 0)) de_int) (da_cons (de_item (de_fldD A.fl_Triangle_pairs (dv 0)) de_int) da_nil))))))
theorem Hd.ok_Triangle_area2 (A : Hd K mg) : PropD P w K mg base 3 "Triangle" "area2" ["self"] sp_Triangle_area2 := by
  obtain ⟨fd, F⟩ := A.c.def_ 8
  obtain ⟨h, X, G⟩ := A.ex
  exact propD_of X G (He.ba (He.ba A.more).2).1 (F.bindsN fun _ _ _ _ _ _ us hl => match us, hl with | [_], _ => rfl) (def_ok F sc_Triangle_area2 (fun ds μ Q Xd h => h.1) (fun cdv A2 fr s H E hr hgd => d_Triangle_area2 A hr hgd) fun ds μ Q Xd h => h.2)
/-! Triangle_eq -/
abbrev N_Triangle_eq : List Str := ["self", "other", "theirs", "at"]
theorem sc_Triangle_eq : FnScope N_Triangle_eq ["self", "other"] (defScope (inClass (top 23) 5)) := ⟨rfl, rfl, rfl, by decide +kernel, rfl, by decide +kernel, by decide +kernel⟩
def w_Triangle_eq : WS := (sSeq (sIf (wNot (wB (wN (fIsi isiT) (wCons (wVar 1) (wCons (wC (.cls "Triangle")) wNil)))))
  (sRet (wC (.bl false)))
  sNext)
 (sSeq (sSet 2 (w1 (fFld "Triangle" "pairs") (wVar 1)))
 (sRet (wN fAny (wCons (wLc (wiR1 (wCons (wC (.int (3))) wNil)) (kNameC 3) wYes (w2 fEqU (w1 (fFld "Triangle" "pairs") (wVar 0)) (w2 fPlus (wSl (wVar 2) (oSome (wVar 3)) oNone) (wSl (wVar 2) oNone (oSome (wVar 3))))) [3]) wNil)))))
def sp_Triangle_eq : DSp := fun ds μ Q Xd => ds.length = 2 ∧ w_Triangle_eq (defE Q Xd) (startD N_Triangle_eq ds) μ
theorem d_Triangle_eq (A : Hd K mg) {cdv : Value} {A2 : Around} {fr : List Env} {s : Shared} {H : Hp} {E : XK} {f : Addr} (hr : Room 0 (A2.deeper (envOfC "Triangle.__eq__" (defScope (inClass (top 23) 5)) s.heap.objs.size f cdv))) (hgd : (A2.deeper (envOfC "Triangle.__eq__" (defScope (inClass (top 23) 5)) s.heap.objs.size f cdv)).guards = some []) :
    DSs none (fun cls d _ H2 => E cls d H2) (cxOf (L2.CX P w) P w K mg base N_Triangle_eq "Triangle.__eq__" (defScope (inClass (top 23) 5)) f cdv A2 fr s H E) (defBody (inClass (top 23) 5)) w_Triangle_eq := by
  have hN := (sc_Triangle_eq).nd
  exact (dss_cons (ds_if (dt_not (dt_val (de_callB call_isi (sn_isi A.isi) rfl A.f_isinstance bt_isinstance (da_cons (dv 1) (da_cons (de_cls rfl A.g_Triangle) da_nil))))) (dss_one (ds_ret de_bl)) dss_nil)
 (dss_cons (ds_set (i := 2) hN rfl (de_fldD A.fl_Triangle_pairs (dv 1)))
 (dss_one (ds_ret (de_callB (cr_any rfl) sn_any rfl A.f_any bt_any (da_cons (de_lc rfl hN (di_range1 (by rfl) A.f_range (da_cons de_int da_nil)) (blkOk_by (own := [("at", 3)]) (by show blkC N_Triangle_eq (defScope (inClass (top 23) 5)) _ _ = true; decide +kernel)) (lcg_name (by decide)) (fun _ _ _ _ _ => (pg_name hN rfl (by first | exact Or.inl rfl | exact Or.inr rfl) (by first | exact .inl rfl | exact .inr rfl))) (fun _ _ _ _ _ => dts_nil) (fun _ _ _ _ _ => (de_cmp (op_eqU (have z := room64 hr; z)) s2_eqU (de_fldD A.fl_Triangle_pairs (dv 0)) (de_plus (de_slice (dv 2) (do_some (dv 3)) do_none) (de_slice (dv 2) do_none (do_some (dv 3)))) (nomark _)))) da_nil))))))
theorem Hd.ok_Triangle_eq (A : Hd K mg) : CmpD P w K mg base 1 "Triangle" "__eq__" [] ["Triangle"] ["self", "other"] sp_Triangle_eq := by
  obtain ⟨fd, F⟩ := A.c.def_ 9
  obtain ⟨h, X, G⟩ := A.ex
  exact cmpD_of X G (He.ba (He.ba (He.ba A.more).2).2).1 (F.bindsN fun _ _ _ _ _ _ us hl => match us, hl with | [_, _], _ => rfl) (def_ok F sc_Triangle_eq (fun ds μ Q Xd h => h.1) (fun cdv A2 fr s H E hr hgd => d_Triangle_eq A hr hgd) fun ds μ Q Xd h => h.2)
/-! pair_of -/
abbrev N_pair_of : List Str := ["thing", "numbers"]
theorem sc_pair_of : FnScope N_pair_of ["thing"] (defScope (top 17)) := ⟨rfl, rfl, rfl, by decide +kernel, rfl, by decide +kernel, by decide +kernel⟩
def w_pair_of : WS := (sSeq (sSet 1 (wCall sp_numbers_of (wCons (wVar 0) wNil)))
 (sSeq (sIf (wB (w2 fIsN (wVar 1) (wC .non)))
  (sRaise "InvalidPoint" ["thing"] (wCons (wVar 0) wNil))
  sNext)
 (sRet (wVar 1))))
def sp_pair_of : DSp := fun ds μ Q Xd => ds.length = 1 ∧ w_pair_of (defE Q Xd) (startD N_pair_of ds) μ
theorem d_pair_of (A : Hd K mg) {cdv : Value} {A2 : Around} {fr : List Env} {s : Shared} {H : Hp} {E : XK} {f : Addr} (hr : Room 2 (A2.deeper (envOfC "pair_of" (defScope (top 17)) s.heap.objs.size f cdv))) (hgd : (A2.deeper (envOfC "pair_of" (defScope (top 17)) s.heap.objs.size f cdv)).guards = some []) :
    DSs none (fun cls d _ H2 => E cls d H2) (cxOf (L2.CX P w) P w K mg base N_pair_of "pair_of" (defScope (top 17)) f cdv A2 fr s H E) (defBody (top 17)) w_pair_of := by
  have hN := (sc_pair_of).nd
  exact (dss_cons (ds_set (i := 1) hN rfl (de_callD A.ok_numbers_of hr (by decide) hgd rfl (takes_of rfl rfl rfl rfl) (da_cons (dv 0) da_nil)))
 (dss_cons (ds_if (dt_cmp op_isN s2_isN (dv 1) de_non (nomark _)) (dss_one (ds_raiseD A.rx_InvalidPoint rfl hr (by decide) rfl (takes_of rfl rfl rfl rfl) (da_cons (dv 0) da_nil))) dss_nil)
 (dss_one (ds_ret (dv 1)))))
theorem Hd.ok_pair_of (A : Hd K mg) : CallD P w K mg base 3 "pair_of" ["thing"] sp_pair_of := by
  obtain ⟨fd, F⟩ := A.c.def_ 10
  exact ⟨_, fd, A.g_pair_of, F.kp, F.bindsN fun _ _ _ _ _ _ us hl => match us, hl with | [_], _ => rfl, def_ok F sc_pair_of (fun ds μ Q Xd h => h.1) (fun cdv A2 fr s H E hr hgd => d_pair_of A hr hgd) fun ds μ Q Xd h => h.2⟩
/-! Point_init -/
abbrev N_Point_init : List Str := ["self", "x", "y"]
theorem sc_Point_init : FnScope N_Point_init ["self", "x", "y"] (defScope (inClass (top 15) 0)) := ⟨rfl, rfl, rfl, by decide +kernel, rfl, by decide +kernel, by decide +kernel⟩
def w_Point_init : WS := (sSeq (sIf (wOr (wNot (wB (wCall sp_is_integer (wCons (wVar 1) wNil)))) (wNot (wB (wCall sp_is_integer (wCons (wVar 2) wNil)))))
  (sRaise "InvalidPoint" ["thing"] (wCons (wTup (wCons (wVar 1) (wCons (wVar 2) wNil))) wNil))
  sNext)
 (sSeq (sFldO "Point" 0 "x" (wVar 1))
 (sFldO "Point" 0 "y" (wVar 2))))
def sp_Point_init : ISp := fun ds μ Q Xd => ds.length = 2 ∧ ∀ a, w_Point_init (defI "Point" a Q Xd) (startI N_Point_init "Point" a ds) μ
theorem d_Point_init (A : Hd K mg) {cdv : Value} {A2 : Around} {fr : List Env} {s : Shared} {H : Hp} {E : XK} {f : Addr} (hr : Room 2 (A2.deeper (envOfC "Point.__init__" (defScope (inClass (top 15) 0)) s.heap.objs.size f cdv))) (hgd : (A2.deeper (envOfC "Point.__init__" (defScope (inClass (top 15) 0)) s.heap.objs.size f cdv)).guards = some []) :
    DSs none (fun cls d _ H2 => E cls d H2) (cxOf (L2.CX P w) P w K mg base N_Point_init "Point.__init__" (defScope (inClass (top 15) 0)) f cdv A2 fr s H E) (defBody (inClass (top 15) 0)) w_Point_init := by
  have hN := (sc_Point_init).nd
  exact (dss_cons (ds_if (dt_w (dw_or (dt_not (dt_val (de_callD A.ok_is_integer hr (by decide) hgd rfl (takes_of rfl rfl rfl rfl) (da_cons (dv 1) da_nil)))) (dw_or1 (dt_not (dt_val (de_callD A.ok_is_integer hr (by decide) hgd rfl (takes_of rfl rfl rfl rfl) (da_cons (dv 2) da_nil))))))) (dss_one (ds_raiseD A.rx_InvalidPoint rfl hr (by decide) rfl (takes_of rfl rfl rfl rfl) (da_cons (de_tup (da_cons (dv 1) (da_cons (dv 2) da_nil))) da_nil))) dss_nil)
 (dss_cons (ds_fldOD A.fl_Point_x rfl (dv 1))
 (dss_one (ds_fldOD A.fl_Point_y rfl (dv 2)))))
theorem Hd.ok_Point_init (A : Hd K mg) : MakeD P w K mg base 3 "Point" ["self", "x", "y"] sp_Point_init := by
  obtain ⟨fd, F⟩ := A.c.def_ 11
  refine ⟨_, _, fd, A.g_Point, He.mkr_ok (A.c.fact 82), F.bindsN fun _ _ _ _ _ _ us hl => match us, hl with | [_, _, _], _ => rfl, def_okI F sc_Point_init (fun ds μ Q Xd h => by rw [h.1]; rfl) (fun cdv A2 fr s H E hr hgd => d_Point_init A hr hgd) fun ds μ Q Xd a h => h.2 a⟩
/-! point_of -/
abbrev N_point_of : List Str := ["pair"]
theorem sc_point_of : FnScope N_point_of ["pair"] (defScope (top 18)) := ⟨rfl, rfl, rfl, by decide +kernel, rfl, by decide +kernel, by decide +kernel⟩
def w_point_of : WS := (sRet (wMake "Point" sp_Point_init (wCons (w2 fIx (wVar 0) (wC (.int (0)))) (wCons (w2 fIx (wVar 0) (wC (.int (1)))) wNil))))
def sp_point_of : DSp := fun ds μ Q Xd => ds.length = 1 ∧ w_point_of (defE Q Xd) (startD N_point_of ds) μ
theorem d_point_of (A : Hd K mg) {cdv : Value} {A2 : Around} {fr : List Env} {s : Shared} {H : Hp} {E : XK} {f : Addr} (hr : Room 4 (A2.deeper (envOfC "point_of" (defScope (top 18)) s.heap.objs.size f cdv))) (hgd : (A2.deeper (envOfC "point_of" (defScope (top 18)) s.heap.objs.size f cdv)).guards = some []) :
    DSs none (fun cls d _ H2 => E cls d H2) (cxOf (L2.CX P w) P w K mg base N_point_of "point_of" (defScope (top 18)) f cdv A2 fr s H E) (defBody (top 18)) w_point_of := by
  have hN := (sc_point_of).nd
  exact (dss_one (ds_ret (de_makeD A.ok_Point_init hr (by decide) hgd rfl (takes_of rfl rfl rfl rfl) (da_cons (de_item (dv 0) de_int) (da_cons (de_item (dv 0) de_int) da_nil)))))
theorem Hd.ok_point_of (A : Hd K mg) : CallD P w K mg base 5 "point_of" ["pair"] sp_point_of := by
  obtain ⟨fd, F⟩ := A.c.def_ 12
  exact ⟨_, fd, A.g_point_of, F.kp, F.bindsN fun _ _ _ _ _ _ us hl => match us, hl with | [_], _ => rfl, def_ok F sc_point_of (fun ds μ Q Xd h => h.1) (fun cdv A2 fr s H E hr hgd => d_point_of A hr hgd) fun ds μ Q Xd h => h.2⟩
/-! Triangle_init -/
abbrev N_Triangle_init : List Str := ["self", "a", "b", "c", "pairs", "turn"]
theorem sc_Triangle_init : FnScope N_Triangle_init ["self", "a", "b", "c"] (defScope (inClass (top 23) 0)) := ⟨rfl, rfl, rfl, by decide +kernel, rfl, by decide +kernel, by decide +kernel⟩
def w_Triangle_init : WS := (sSeq (sSet 4 (wLst (wCons (wCall sp_pair_of (wCons (wVar 1) wNil)) (wCons (wCall sp_pair_of (wCons (wVar 2) wNil)) (wCons (wCall sp_pair_of (wCons (wVar 3) wNil)) wNil)))))
 (sSeq (sSet 5 (wCall sp_side_of (wCons (w2 fIx (wVar 4) (wC (.int (0)))) (wCons (w2 fIx (wVar 4) (wC (.int (1)))) (wCons (w2 fIx (wVar 4) (wC (.int (2)))) wNil)))))
 (sSeq (sIf (wB (w2 fEqU (wVar 5) (wC (.int (0)))))
  (sRaise "Flat" ["three"] (wCons (wTup (wCons (wCall sp_point_of (wCons (w2 fIx (wVar 4) (wC (.int (0)))) wNil)) (wCons (wCall sp_point_of (wCons (w2 fIx (wVar 4) (wC (.int (1)))) wNil)) (wCons (wCall sp_point_of (wCons (w2 fIx (wVar 4) (wC (.int (2)))) wNil)) wNil)))) wNil))
  sNext)
 (sSeq (sIf (wB (w2 fLt (wVar 5) (wC (.int (0)))))
  (sSet 4 (wLst (wCons (w2 fIx (wVar 4) (wC (.int (0)))) (wCons (w2 fIx (wVar 4) (wC (.int (2)))) (wCons (w2 fIx (wVar 4) (wC (.int (1)))) wNil)))))
  sNext)
 (sFldO "Triangle" 0 "pairs" (wVar 4))))))
def sp_Triangle_init : ISp := fun ds μ Q Xd => ds.length = 3 ∧ ∀ a, w_Triangle_init (defI "Triangle" a Q Xd) (startI N_Triangle_init "Triangle" a ds) μ
theorem d_Triangle_init (A : Hd K mg) {cdv : Value} {A2 : Around} {fr : List Env} {s : Shared} {H : Hp} {E : XK} {f : Addr} (hr : Room 5 (A2.deeper (envOfC "Triangle.__init__" (defScope (inClass (top 23) 0)) s.heap.objs.size f cdv))) (hgd : (A2.deeper (envOfC "Triangle.__init__" (defScope (inClass (top 23) 0)) s.heap.objs.size f cdv)).guards = some []) :
    DSs none (fun cls d _ H2 => E cls d H2) (cxOf (L2.CX P w) P w K mg base N_Triangle_init "Triangle.__init__" (defScope (inClass (top 23) 0)) f cdv A2 fr s H E) (defBody (inClass (top 23) 0)) w_Triangle_init := by
  have hN := (sc_Triangle_init).nd
  exact (dss_cons (ds_set (i := 4) hN rfl (de_lst (da_cons (de_callD A.ok_pair_of hr (by decide) hgd rfl (takes_of rfl rfl rfl rfl) (da_cons (dv 1) da_nil)) (da_cons (de_callD A.ok_pair_of hr (by decide) hgd rfl (takes_of rfl rfl rfl rfl) (da_cons (dv 2) da_nil)) (da_cons (de_callD A.ok_pair_of hr (by decide) hgd rfl (takes_of rfl rfl rfl rfl) (da_cons (dv 3) da_nil)) da_nil)))))
 (dss_cons (ds_set (i := 5) hN rfl (de_callD A.ok_side_of hr (by decide) hgd rfl (takes_of rfl rfl rfl rfl) (da_cons (de_item (dv 4) de_int) (da_cons (de_item (dv 4) de_int) (da_cons (de_item (dv 4) de_int) da_nil)))))
 (dss_cons (ds_if (dt_cmp (op_eqU (have z := room64 hr; z)) s2_eqU (dv 5) de_int (nomark _)) (dss_one (ds_raiseD A.rx_Flat rfl hr (by decide) rfl (takes_of rfl rfl rfl rfl) (da_cons (de_tup (da_cons (de_callD A.ok_point_of hr (by decide) hgd rfl (takes_of rfl rfl rfl rfl) (da_cons (de_item (dv 4) de_int) da_nil)) (da_cons (de_callD A.ok_point_of hr (by decide) hgd rfl (takes_of rfl rfl rfl rfl) (da_cons (de_item (dv 4) de_int) da_nil)) (da_cons (de_callD A.ok_point_of hr (by decide) hgd rfl (takes_of rfl rfl rfl rfl) (da_cons (de_item (dv 4) de_int) da_nil)) da_nil)))) da_nil))) dss_nil)
 (dss_cons (ds_if (dt_cmp op_lt s2_IB (dv 5) de_int (nomark _)) (dss_one (ds_set (i := 4) hN rfl (de_lst (da_cons (de_item (dv 4) de_int) (da_cons (de_item (dv 4) de_int) (da_cons (de_item (dv 4) de_int) da_nil)))))) dss_nil)
 (dss_one (ds_fldOD A.fl_Triangle_pairs rfl (dv 4)))))))
theorem Hd.ok_Triangle_init (A : Hd K mg) : MakeD P w K mg base 6 "Triangle" ["self", "a", "b", "c"] sp_Triangle_init := by
  obtain ⟨fd, F⟩ := A.c.def_ 13
  refine ⟨_, _, fd, A.g_Triangle, He.mkr_ok (A.c.fact 84), F.bindsN fun _ _ _ _ _ _ us hl => match us, hl with | [_, _, _, _], _ => rfl, def_okI F sc_Triangle_init (fun ds μ Q Xd h => by rw [h.1]; rfl) (fun cdv A2 fr s H E hr hgd => d_Triangle_init A hr hgd) fun ds μ Q Xd a h => h.2 a⟩
/-! _law_draw -/
abbrev N__law_draw : List Str := ["pool", "many", "found"]
theorem sc__law_draw : FnScope N__law_draw ["pool", "many"] (defScope (top 62)) := ⟨rfl, rfl, rfl, by decide +kernel, rfl, by decide +kernel, by decide +kernel⟩
def w__law_draw : WS := (sSeq (sIf (wB (w2 fGt (w2 fIx (wVar 0) (wC (.int (0)))) (wC (.int (0)))))
  (sSeq (sSet 2 (w2 fMod (wN fInt1 (wCons (w2 fIx (wVar 0) (wC (.int (0)))) wNil)) (wVar 1)))
 (sSeq (sAsg (w2 fDiv (w2 fIx (wVar 0) (wC (.int (0)))) (wVar 1)) (kSub (wVar 0) (wC (.int (0)))))
 (sRet (wVar 2))))
  sNext)
 (sSeq (sAsg (w2 fMod (wN fInt1 (wCons (w2 fPlus (w2 fTimes (w2 fIx (wVar 0) (wC (.int (1)))) (wC (.int (48271)))) (wC (.int (11)))) wNil)) (wC (.int (2147483647)))) (kSub (wVar 0) (wC (.int (1)))))
 (sRet (w2 fMod (w2 fDiv (w2 fMod (wN fInt1 (wCons (w2 fTimes (w2 fIx (wVar 0) (wC (.int (1)))) (w2 fIx (wVar 0) (wC (.int (1))))) wNil)) (wC (.int (2147483629)))) (wC (.int (64)))) (wVar 1)))))
def sp__law_draw : DSp := fun ds μ Q Xd => ds.length = 2 ∧ w__law_draw (defE Q Xd) (startD N__law_draw ds) μ
theorem d__law_draw (A : Hd K mg) {cdv : Value} {A2 : Around} {fr : List Env} {s : Shared} {H : Hp} {E : XK} {f : Addr} (hr : Room 0 (A2.deeper (envOfC "_law_draw" (defScope (top 62)) s.heap.objs.size f cdv))) (hgd : (A2.deeper (envOfC "_law_draw" (defScope (top 62)) s.heap.objs.size f cdv)).guards = some []) :
    DSs none (fun cls d _ H2 => E cls d H2) (cxOf (L2.CX P w) P w K mg base N__law_draw "_law_draw" (defScope (top 62)) f cdv A2 fr s H E) (defBody (top 62)) w__law_draw := by
  have hN := (sc__law_draw).nd
  exact (dss_cons (ds_if (dt_cmp op_gt s2_IB (de_item (dv 0) de_int) de_int (nomark _)) (dss_cons (ds_set (i := 2) hN rfl (de_mod (de_callTy call_int1 sn_int1 rfl A.f_int bt_int (da_cons (de_item (dv 0) de_int) da_nil)) (dv 1)))
 (dss_cons (ds_asg (de_div (de_item (dv 0) de_int) (dv 1)) (dg_sub (dv 0) de_int))
 (dss_one (ds_ret (dv 2))))) dss_nil)
 (dss_cons (ds_asg (de_mod (de_callTy call_int1 sn_int1 rfl A.f_int bt_int (da_cons (de_plus (de_times (de_item (dv 0) de_int) de_int) de_int) da_nil)) de_int) (dg_sub (dv 0) de_int))
 (dss_one (ds_ret (de_mod (de_div (de_mod (de_callTy call_int1 sn_int1 rfl A.f_int bt_int (da_cons (de_times (de_item (dv 0) de_int) (de_item (dv 0) de_int)) da_nil)) de_int) de_int) (dv 1))))))
theorem Hd.ok__law_draw (A : Hd K mg) : CallD P w K mg base 1 "_law_draw" ["pool", "many"] sp__law_draw := by
  obtain ⟨fd, F⟩ := A.c.def_ 14
  exact ⟨_, fd, A.g__law_draw, F.kp, F.bindsN fun _ _ _ _ _ _ us hl => match us, hl with | [_, _], _ => rfl, def_ok F sc__law_draw (fun ds μ Q Xd h => h.1) (fun cdv A2 fr s H E hr hgd => d__law_draw A hr hgd) fun ds μ Q Xd h => h.2⟩
/-! _law_pair -/
abbrev N__law_pair : List Str := ["pool", "size_here"]
theorem sc__law_pair : FnScope N__law_pair ["pool", "size_here"] (defScope (top 63)) := ⟨rfl, rfl, rfl, by decide +kernel, rfl, by decide +kernel, by decide +kernel⟩
def w__law_pair : WS := (sRet (wTup (wCons (w2 fSub (wCall sp__law_draw (wCons (wVar 0) (wCons (w2 fPlus (w2 fTimes (wC (.int (2))) (wVar 1)) (wC (.int (1)))) wNil))) (wVar 1)) (wCons (w2 fSub (wCall sp__law_draw (wCons (wVar 0) (wCons (w2 fPlus (w2 fTimes (wC (.int (2))) (wVar 1)) (wC (.int (1)))) wNil))) (wVar 1)) wNil))))
def sp__law_pair : DSp := fun ds μ Q Xd => ds.length = 2 ∧ w__law_pair (defE Q Xd) (startD N__law_pair ds) μ
theorem d__law_pair (A : Hd K mg) {cdv : Value} {A2 : Around} {fr : List Env} {s : Shared} {H : Hp} {E : XK} {f : Addr} (hr : Room 1 (A2.deeper (envOfC "_law_pair" (defScope (top 63)) s.heap.objs.size f cdv))) (hgd : (A2.deeper (envOfC "_law_pair" (defScope (top 63)) s.heap.objs.size f cdv)).guards = some []) :
    DSs none (fun cls d _ H2 => E cls d H2) (cxOf (L2.CX P w) P w K mg base N__law_pair "_law_pair" (defScope (top 63)) f cdv A2 fr s H E) (defBody (top 63)) w__law_pair := by
  have hN := (sc__law_pair).nd
  exact (dss_one (ds_ret (de_tup (da_cons (de_sub (de_callD A.ok__law_draw hr (by decide) hgd rfl (takes_of rfl rfl rfl rfl) (da_cons (dv 0) (da_cons (de_plus (de_times de_int (dv 1)) de_int) da_nil))) (dv 1)) (da_cons (de_sub (de_callD A.ok__law_draw hr (by decide) hgd rfl (takes_of rfl rfl rfl rfl) (da_cons (dv 0) (da_cons (de_plus (de_times de_int (dv 1)) de_int) da_nil))) (dv 1)) da_nil)))))
theorem Hd.ok__law_pair (A : Hd K mg) : CallD P w K mg base 2 "_law_pair" ["pool", "size_here"] sp__law_pair := by
  obtain ⟨fd, F⟩ := A.c.def_ 15
  exact ⟨_, fd, A.g__law_pair, F.kp, F.bindsN fun _ _ _ _ _ _ us hl => match us, hl with | [_, _], _ => rfl, def_ok F sc__law_pair (fun ds μ Q Xd h => h.1) (fun cdv A2 fr s H E hr hgd => d__law_pair A hr hgd) fun ds μ Q Xd h => h.2⟩
/-! _law_side -/
abbrev N__law_side : List Str := ["a", "b", "p"]
theorem sc__law_side : FnScope N__law_side ["a", "b", "p"] (defScope (top 64)) := ⟨rfl, rfl, rfl, by decide +kernel, rfl, by decide +kernel, by decide +kernel⟩
def w__law_side : WS := (sRet (w2 fSub (w2 fTimes (w2 fSub (w2 fIx (wVar 1) (wC (.int (0)))) (w2 fIx (wVar 0) (wC (.int (0))))) (w2 fSub (w2 fIx (wVar 2) (wC (.int (1)))) (w2 fIx (wVar 0) (wC (.int (1)))))) (w2 fTimes (w2 fSub (w2 fIx (wVar 1) (wC (.int (1)))) (w2 fIx (wVar 0) (wC (.int (1))))) (w2 fSub (w2 fIx (wVar 2) (wC (.int (0)))) (w2 fIx (wVar 0) (wC (.int (0))))))))
def sp__law_side : DSp := fun ds μ Q Xd => ds.length = 3 ∧ w__law_side (defE Q Xd) (startD N__law_side ds) μ
theorem d__law_side (A : Hd K mg) {cdv : Value} {A2 : Around} {fr : List Env} {s : Shared} {H : Hp} {E : XK} {f : Addr} (hr : Room 0 (A2.deeper (envOfC "_law_side" (defScope (top 64)) s.heap.objs.size f cdv))) (hgd : (A2.deeper (envOfC "_law_side" (defScope (top 64)) s.heap.objs.size f cdv)).guards = some []) :
    DSs none (fun cls d _ H2 => E cls d H2) (cxOf (L2.CX P w) P w K mg base N__law_side "_law_side" (defScope (top 64)) f cdv A2 fr s H E) (defBody (top 64)) w__law_side := by
  have hN := (sc__law_side).nd
  exact (dss_one (ds_ret (de_sub (de_times (de_sub (de_item (dv 1) de_int) (de_item (dv 0) de_int)) (de_sub (de_item (dv 2) de_int) (de_item (dv 0) de_int))) (de_times (de_sub (de_item (dv 1) de_int) (de_item (dv 0) de_int)) (de_sub (de_item (dv 2) de_int) (de_item (dv 0) de_int))))))
theorem Hd.ok__law_side (A : Hd K mg) : CallD P w K mg base 1 "_law_side" ["a", "b", "p"] sp__law_side := by
  obtain ⟨fd, F⟩ := A.c.def_ 16
  exact ⟨_, fd, A.g__law_side, F.kp, F.bindsN fun _ _ _ _ _ _ us hl => match us, hl with | [_, _, _], _ => rfl, def_ok F sc__law_side (fun ds μ Q Xd h => h.1) (fun cdv A2 fr s H E hr hgd => d__law_side A hr hgd) fun ds μ Q Xd h => h.2⟩
/-! _law_corners -/
abbrev N__law_corners : List Str := ["pool", "size_here", "a", "b", "c"]
theorem sc__law_corners : FnScope N__law_corners ["pool", "size_here"] (defScope (top 65)) := ⟨rfl, rfl, rfl, by decide +kernel, rfl, by decide +kernel, by decide +kernel⟩
def w__law_corners : WS := (sSeq (sPar3 2 3 4 (wCons (wCall sp__law_pair (wCons (wVar 0) (wCons (wVar 1) wNil))) (wCons (wCall sp__law_pair (wCons (wVar 0) (wCons (wVar 1) wNil))) (wCons (wCall sp__law_pair (wCons (wVar 0) (wCons (wVar 1) wNil))) wNil))))
 (sSeq (sIf (wB (w2 fEqU (wCall sp__law_side (wCons (wVar 2) (wCons (wVar 3) (wCons (wVar 4) wNil)))) (wC (.int (0)))))
  (sPar2 3 4 (wCons (wTup (wCons (w2 fPlus (w2 fPlus (w2 fIx (wVar 2) (wC (.int (0)))) (wC (.int (1)))) (wCall sp__law_draw (wCons (wVar 0) (wCons (wC (.int (3))) wNil)))) (wCons (w2 fIx (wVar 2) (wC (.int (1)))) wNil))) (wCons (wTup (wCons (w2 fPlus (w2 fIx (wVar 2) (wC (.int (0)))) (wCall sp__law_draw (wCons (wVar 0) (wCons (wC (.int (3))) wNil)))) (wCons (w2 fPlus (w2 fIx (wVar 2) (wC (.int (1)))) (wC (.int (2)))) wNil))) wNil)))
  sNext)
 (sRet (wIf (wB (w2 fGt (wCall sp__law_side (wCons (wVar 2) (wCons (wVar 3) (wCons (wVar 4) wNil)))) (wC (.int (0))))) (wLst (wCons (wVar 2) (wCons (wVar 3) (wCons (wVar 4) wNil)))) (wLst (wCons (wVar 2) (wCons (wVar 4) (wCons (wVar 3) wNil))))))))
def sp__law_corners : DSp := fun ds μ Q Xd => ds.length = 2 ∧ w__law_corners (defE Q Xd) (startD N__law_corners ds) μ
theorem d__law_corners (A : Hd K mg) {cdv : Value} {A2 : Around} {fr : List Env} {s : Shared} {H : Hp} {E : XK} {f : Addr} (hr : Room 2 (A2.deeper (envOfC "_law_corners" (defScope (top 65)) s.heap.objs.size f cdv))) (hgd : (A2.deeper (envOfC "_law_corners" (defScope (top 65)) s.heap.objs.size f cdv)).guards = some []) :
    DSs none (fun cls d _ H2 => E cls d H2) (cxOf (L2.CX P w) P w K mg base N__law_corners "_law_corners" (defScope (top 65)) f cdv A2 fr s H E) (defBody (top 65)) w__law_corners := by
  have hN := (sc__law_corners).nd
  exact (dss_cons (ds_par3 (i := 2) (j := 3) (l := 4) rfl hN rfl rfl rfl (by decide) (by decide) (by decide) (da_cons (de_callD A.ok__law_pair hr (by decide) hgd rfl (takes_of rfl rfl rfl rfl) (da_cons (dv 0) (da_cons (dv 1) da_nil))) (da_cons (de_callD A.ok__law_pair hr (by decide) hgd rfl (takes_of rfl rfl rfl rfl) (da_cons (dv 0) (da_cons (dv 1) da_nil))) (da_cons (de_callD A.ok__law_pair hr (by decide) hgd rfl (takes_of rfl rfl rfl rfl) (da_cons (dv 0) (da_cons (dv 1) da_nil))) da_nil))))
 (dss_cons (ds_if (dt_cmp (op_eqU (have z := room64 hr; z)) s2_eqU (de_callD A.ok__law_side hr (by decide) hgd rfl (takes_of rfl rfl rfl rfl) (da_cons (dv 2) (da_cons (dv 3) (da_cons (dv 4) da_nil)))) de_int (nomark _)) (dss_one (ds_par2 (i := 3) (j := 4) rfl hN rfl rfl (by decide) (da_cons (de_tup (da_cons (de_plus (de_plus (de_item (dv 2) de_int) de_int) (de_callD A.ok__law_draw hr (by decide) hgd rfl (takes_of rfl rfl rfl rfl) (da_cons (dv 0) (da_cons de_int da_nil)))) (da_cons (de_item (dv 2) de_int) da_nil))) (da_cons (de_tup (da_cons (de_plus (de_item (dv 2) de_int) (de_callD A.ok__law_draw hr (by decide) hgd rfl (takes_of rfl rfl rfl rfl) (da_cons (dv 0) (da_cons de_int da_nil)))) (da_cons (de_plus (de_item (dv 2) de_int) de_int) da_nil))) da_nil)))) dss_nil)
 (dss_one (ds_ret (de_if (dt_cmp op_gt s2_IB (de_callD A.ok__law_side hr (by decide) hgd rfl (takes_of rfl rfl rfl rfl) (da_cons (dv 2) (da_cons (dv 3) (da_cons (dv 4) da_nil)))) de_int (nomark _)) (de_lst (da_cons (dv 2) (da_cons (dv 3) (da_cons (dv 4) da_nil)))) (de_lst (da_cons (dv 2) (da_cons (dv 4) (da_cons (dv 3) da_nil)))))))))
theorem Hd.ok__law_corners (A : Hd K mg) : CallD P w K mg base 3 "_law_corners" ["pool", "size_here"] sp__law_corners := by
  obtain ⟨fd, F⟩ := A.c.def_ 17
  exact ⟨_, fd, A.g__law_corners, F.kp, F.bindsN fun _ _ _ _ _ _ us hl => match us, hl with | [_, _], _ => rfl, def_ok F sc__law_corners (fun ds μ Q Xd h => h.1) (fun cdv A2 fr s H E hr hgd => d__law_corners A hr hgd) fun ds μ Q Xd h => h.2⟩
/-! _law_hand -/
abbrev N__law_hand : List Str := ["script", "k", "cell", "seed"]
theorem sc__law_hand : FnScope N__law_hand ["script", "k"] (defScope (top 61)) := ⟨rfl, rfl, rfl, by decide +kernel, rfl, by decide +kernel, by decide +kernel⟩
def w__law_hand : WS := (sSeq (sSet 2 (w2 fIx (w2 fPlus (wSl (wVar 0) (oSome (wVar 1)) (oSome (w2 fPlus (wVar 1) (wC (.int (1)))))) (wLst (wCons (wC (.int (0))) wNil))) (wC (.int (0)))))
 (sSeq (sSet 3 (w2 fMod (w2 fTimes (w2 fPlus (w2 fPlus (w2 fMod (wN fInt1 (wCons (wVar 2) wNil)) (wC (.int (2147483647)))) (w2 fTimes (wC (.int (7919))) (wVar 1))) (wC (.int (1)))) (wC (.int (48271)))) (wC (.int (2147483629)))))
 (sRet (wLstC (wCons (w2 fTimes (wN fInt1 (wCons (w2 fGe (wVar 2) (w2 fPow (wC (.int (10))) (wC (.int (18))))) wNil)) (wVar 2)) (wCons (wVar 3) wNil))))))
def sp__law_hand : DSp := fun ds μ Q Xd => ds.length = 2 ∧ w__law_hand (defE Q Xd) (startD N__law_hand ds) μ
theorem d__law_hand (A : Hd K mg) {cdv : Value} {A2 : Around} {fr : List Env} {s : Shared} {H : Hp} {E : XK} {f : Addr} (hr : Room 0 (A2.deeper (envOfC "_law_hand" (defScope (top 61)) s.heap.objs.size f cdv))) (hgd : (A2.deeper (envOfC "_law_hand" (defScope (top 61)) s.heap.objs.size f cdv)).guards = some []) :
    DSs none (fun cls d _ H2 => E cls d H2) (cxOf (L2.CX P w) P w K mg base N__law_hand "_law_hand" (defScope (top 61)) f cdv A2 fr s H E) (defBody (top 61)) w__law_hand := by
  have hN := (sc__law_hand).nd
  exact (dss_cons (ds_set (i := 2) hN rfl (de_item (de_plus (de_slice (dv 0) (do_some (dv 1)) (do_some (de_plus (dv 1) de_int))) (de_lst (da_cons de_int da_nil))) de_int))
 (dss_cons (ds_set (i := 3) hN rfl (de_mod (de_times (de_plus (de_plus (de_mod (de_callTy call_int1 sn_int1 rfl A.f_int bt_int (da_cons (dv 2) da_nil)) de_int) (de_times de_int (dv 1))) de_int) de_int) de_int))
 (dss_one (ds_ret (de_lstC (da_cons (de_times (de_callTy call_int1 sn_int1 rfl A.f_int bt_int (da_cons (de_cmp op_ge s2_IB (dv 2) (de_pow de_int de_int) (nomark _)) da_nil)) (dv 2)) (da_cons (dv 3) da_nil)))))))
theorem Hd.ok__law_hand (A : Hd K mg) : CallD P w K mg base 1 "_law_hand" ["script", "k"] sp__law_hand := by
  obtain ⟨fd, F⟩ := A.c.def_ 18
  exact ⟨_, fd, A.g__law_hand, F.kp, F.bindsN fun _ _ _ _ _ _ us hl => match us, hl with | [_, _], _ => rfl, def_ok F sc__law_hand (fun ds μ Q Xd h => h.1) (fun cdv A2 fr s H E hr hgd => d__law_hand A hr hgd) fun ds μ Q Xd h => h.2⟩
/-! check_ahead -/
abbrev N_check_ahead : List Str := ["thing"]
theorem sc_check_ahead : FnScope N_check_ahead ["thing"] (defScope (top 55)) := ⟨rfl, rfl, rfl, by decide +kernel, rfl, by decide +kernel, by decide +kernel⟩
def w_check_ahead : WS := (sIf (wNot (wB (wN (fIsi isiT) (wCons (wVar 0) (wCons (wC (.ty "bool")) wNil)))))
  (sRaise "InvalidHalf" ["part"] (wCons (wC (.str "ahead")) wNil))
  sNext)
def sp_check_ahead : DSp := fun ds μ Q Xd => ds.length = 1 ∧ w_check_ahead (defE Q Xd) (startD N_check_ahead ds) μ
theorem d_check_ahead (A : Hd K mg) {cdv : Value} {A2 : Around} {fr : List Env} {s : Shared} {H : Hp} {E : XK} {f : Addr} (hr : Room 2 (A2.deeper (envOfC "check_ahead" (defScope (top 55)) s.heap.objs.size f cdv))) (hgd : (A2.deeper (envOfC "check_ahead" (defScope (top 55)) s.heap.objs.size f cdv)).guards = some []) :
    DSs none (fun cls d _ H2 => E cls d H2) (cxOf (L2.CX P w) P w K mg base N_check_ahead "check_ahead" (defScope (top 55)) f cdv A2 fr s H E) (defBody (top 55)) w_check_ahead := by
  have hN := (sc_check_ahead).nd
  exact (dss_one (ds_if (dt_not (dt_val (de_callB call_isi (sn_isi A.isi) rfl A.f_isinstance bt_isinstance (da_cons (dv 0) (da_cons (de_ty rfl A.f_bool bt_bool) da_nil))))) (dss_one (ds_raiseD A.rx_InvalidHalf rfl hr (by decide) rfl (takes_of rfl rfl rfl rfl) (da_cons de_str da_nil))) dss_nil))
theorem Hd.ok_check_ahead (A : Hd K mg) : CallD P w K mg base 3 "check_ahead" ["thing"] sp_check_ahead := by
  obtain ⟨fd, F⟩ := A.c.def_ 19
  exact ⟨_, fd, A.g_check_ahead, F.kp, F.bindsN fun _ _ _ _ _ _ us hl => match us, hl with | [_], _ => rfl, def_ok F sc_check_ahead (fun ds μ Q Xd h => h.1) (fun cdv A2 fr s H E hr hgd => d_check_ahead A hr hgd) fun ds μ Q Xd h => h.2⟩
/-! common_divisor -/
abbrev N_common_divisor : List Str := ["one", "other"]
theorem sc_common_divisor : FnScope N_common_divisor ["one", "other"] (defScope (top 46)) := ⟨rfl, rfl, rfl, by decide +kernel, rfl, by decide +kernel, by decide +kernel⟩
def w_common_divisor : WS := (sSeq (sPar2 0 1 (wCons (wN fAbs (wCons (wVar 0) wNil)) (wCons (wN fAbs (wCons (wVar 1) wNil)) wNil)))
 (sSeq (sWhile (wB (w2 fGt (wVar 1) (wC (.int (0)))))
  (sPar2 0 1 (wCons (wVar 1) (wCons (w2 fMod (wVar 0) (wVar 1)) wNil))))
 (sRet (wVar 0))))
def sp_common_divisor : DSp := fun ds μ Q Xd => ds.length = 2 ∧ w_common_divisor (defE Q Xd) (startD N_common_divisor ds) μ
theorem d_common_divisor (A : Hd K mg) {cdv : Value} {A2 : Around} {fr : List Env} {s : Shared} {H : Hp} {E : XK} {f : Addr} (hr : Room 0 (A2.deeper (envOfC "common_divisor" (defScope (top 46)) s.heap.objs.size f cdv))) (hgd : (A2.deeper (envOfC "common_divisor" (defScope (top 46)) s.heap.objs.size f cdv)).guards = some []) :
    DSs none (fun cls d _ H2 => E cls d H2) (cxOf (L2.CX P w) P w K mg base N_common_divisor "common_divisor" (defScope (top 46)) f cdv A2 fr s H E) (defBody (top 46)) w_common_divisor := by
  have hN := (sc_common_divisor).nd
  exact (dss_cons (ds_par2 (i := 0) (j := 1) rfl hN rfl rfl (by decide) (da_cons (de_callB call_abs sn_abs rfl A.f_abs bt_abs (da_cons (dv 0) da_nil)) (da_cons (de_callB call_abs sn_abs rfl A.f_abs bt_abs (da_cons (dv 1) da_nil)) da_nil)))
 (dss_cons (ds_while (passes_of rfl) (dt_cmp op_gt s2_IB (dv 1) de_int (nomark _)) (dss_one (ds_par2 (i := 0) (j := 1) rfl hN rfl rfl (by decide) (da_cons (dv 1) (da_cons (de_mod (dv 0) (dv 1)) da_nil)))))
 (dss_one (ds_ret (dv 0)))))
theorem Hd.ok_common_divisor (A : Hd K mg) : CallD P w K mg base 1 "common_divisor" ["one", "other"] sp_common_divisor := by
  obtain ⟨fd, F⟩ := A.c.def_ 20
  exact ⟨_, fd, A.g_common_divisor, F.kp, F.bindsN fun _ _ _ _ _ _ us hl => match us, hl with | [_, _], _ => rfl, def_ok F sc_common_divisor (fun ds μ Q Xd h => h.1) (fun cdv A2 fr s H E hr hgd => d_common_divisor A hr hgd) fun ds μ Q Xd h => h.2⟩
/-! lowest_pair -/
abbrev N_lowest_pair : List Str := ["pair", "divisor"]
theorem sc_lowest_pair : FnScope N_lowest_pair ["pair"] (defScope (top 47)) := ⟨rfl, rfl, rfl, by decide +kernel, rfl, by decide +kernel, by decide +kernel⟩
def w_lowest_pair : WS := (sSeq (sSet 1 (wCall sp_common_divisor (wCons (w2 fIx (wVar 0) (wC (.int (0)))) (wCons (w2 fIx (wVar 0) (wC (.int (1)))) wNil))))
 (sRet (wTup (wCons (w2 fDiv (w2 fIx (wVar 0) (wC (.int (0)))) (wVar 1)) (wCons (w2 fDiv (w2 fIx (wVar 0) (wC (.int (1)))) (wVar 1)) wNil)))))
def sp_lowest_pair : DSp := fun ds μ Q Xd => ds.length = 1 ∧ w_lowest_pair (defE Q Xd) (startD N_lowest_pair ds) μ
theorem d_lowest_pair (A : Hd K mg) {cdv : Value} {A2 : Around} {fr : List Env} {s : Shared} {H : Hp} {E : XK} {f : Addr} (hr : Room 1 (A2.deeper (envOfC "lowest_pair" (defScope (top 47)) s.heap.objs.size f cdv))) (hgd : (A2.deeper (envOfC "lowest_pair" (defScope (top 47)) s.heap.objs.size f cdv)).guards = some []) :
    DSs none (fun cls d _ H2 => E cls d H2) (cxOf (L2.CX P w) P w K mg base N_lowest_pair "lowest_pair" (defScope (top 47)) f cdv A2 fr s H E) (defBody (top 47)) w_lowest_pair := by
  have hN := (sc_lowest_pair).nd
  exact (dss_cons (ds_set (i := 1) hN rfl (de_callD A.ok_common_divisor hr (by decide) hgd rfl (takes_of rfl rfl rfl rfl) (da_cons (de_item (dv 0) de_int) (da_cons (de_item (dv 0) de_int) da_nil))))
 (dss_one (ds_ret (de_tup (da_cons (de_div (de_item (dv 0) de_int) (dv 1)) (da_cons (de_div (de_item (dv 0) de_int) (dv 1)) da_nil))))))
theorem Hd.ok_lowest_pair (A : Hd K mg) : CallD P w K mg base 2 "lowest_pair" ["pair"] sp_lowest_pair := by
  obtain ⟨fd, F⟩ := A.c.def_ 21
  exact ⟨_, fd, A.g_lowest_pair, F.kp, F.bindsN fun _ _ _ _ _ _ us hl => match us, hl with | [_], _ => rfl, def_ok F sc_lowest_pair (fun ds μ Q Xd h => h.1) (fun cdv A2 fr s H E hr hgd => d_lowest_pair A hr hgd) fun ds μ Q Xd h => h.2⟩
/-! way_in -/
abbrev N_way_in : List Str := ["thing", "pair"]
theorem sc_way_in : FnScope N_way_in ["thing"] (defScope (top 54)) := ⟨rfl, rfl, rfl, by decide +kernel, rfl, by decide +kernel, by decide +kernel⟩
def w_way_in : WS := (sSeq (sSet 1 (wCall sp_numbers_of (wCons (wVar 0) wNil)))
 (sSeq (sIf (wOr (wB (w2 fIsN (wVar 1) (wC .non))) (wB (w2 fEqU (wVar 1) (wTup (wCons (wC (.int (0))) (wCons (wC (.int (0))) wNil))))))
  (sRaise "InvalidHalf" ["part"] (wCons (wC (.str "way")) wNil))
  sNext)
 (sRet (wCall sp_lowest_pair (wCons (wVar 1) wNil)))))
def sp_way_in : DSp := fun ds μ Q Xd => ds.length = 1 ∧ w_way_in (defE Q Xd) (startD N_way_in ds) μ
theorem d_way_in (A : Hd K mg) {cdv : Value} {A2 : Around} {fr : List Env} {s : Shared} {H : Hp} {E : XK} {f : Addr} (hr : Room 2 (A2.deeper (envOfC "way_in" (defScope (top 54)) s.heap.objs.size f cdv))) (hgd : (A2.deeper (envOfC "way_in" (defScope (top 54)) s.heap.objs.size f cdv)).guards = some []) :
    DSs none (fun cls d _ H2 => E cls d H2) (cxOf (L2.CX P w) P w K mg base N_way_in "way_in" (defScope (top 54)) f cdv A2 fr s H E) (defBody (top 54)) w_way_in := by
  have hN := (sc_way_in).nd
  exact (dss_cons (ds_set (i := 1) hN rfl (de_callD A.ok_numbers_of hr (by decide) hgd rfl (takes_of rfl rfl rfl rfl) (da_cons (dv 0) da_nil)))
 (dss_cons (ds_if (dt_w (dw_or (dt_cmp op_isN s2_isN (dv 1) de_non (nomark _)) (dw_or1 (dt_cmp (op_eqU (have z := room64 hr; z)) s2_eqU (dv 1) (de_tup (da_cons de_int (da_cons de_int da_nil))) (nomark _))))) (dss_one (ds_raiseD A.rx_InvalidHalf rfl hr (by decide) rfl (takes_of rfl rfl rfl rfl) (da_cons de_str da_nil))) dss_nil)
 (dss_one (ds_ret (de_callD A.ok_lowest_pair hr (by decide) hgd rfl (takes_of rfl rfl rfl rfl) (da_cons (dv 1) da_nil))))))
theorem Hd.ok_way_in (A : Hd K mg) : CallD P w K mg base 3 "way_in" ["thing"] sp_way_in := by
  obtain ⟨fd, F⟩ := A.c.def_ 22
  exact ⟨_, fd, A.g_way_in, F.kp, F.bindsN fun _ _ _ _ _ _ us hl => match us, hl with | [_], _ => rfl, def_ok F sc_way_in (fun ds μ Q Xd h => h.1) (fun cdv A2 fr s H E hr hgd => d_way_in A hr hgd) fun ds μ Q Xd h => h.2⟩
/-! Half_init -/
abbrev N_Half_init : List Str := ["self", "way", "ahead", "pair"]
theorem sc_Half_init : FnScope N_Half_init ["self", "way", "ahead"] (defScope (inClass (top 56) 0)) := ⟨rfl, rfl, rfl, by decide +kernel, rfl, by decide +kernel, by decide +kernel⟩
def w_Half_init : WS := (sSeq (sSet 3 (wCall sp_way_in (wCons (wVar 1) wNil)))
 (sSeq (sDrop (wCall sp_check_ahead (wCons (wVar 2) wNil)))
 (sSeq (sFldO "Half" 0 "own_way" (wVar 3))
 (sFldO "Half" 0 "own_ahead" (wVar 2)))))
def sp_Half_init : ISp := fun ds μ Q Xd => ds.length = 2 ∧ ∀ a, w_Half_init (defI "Half" a Q Xd) (startI N_Half_init "Half" a ds) μ
theorem d_Half_init (A : Hd K mg) {cdv : Value} {A2 : Around} {fr : List Env} {s : Shared} {H : Hp} {E : XK} {f : Addr} (hr : Room 3 (A2.deeper (envOfC "Half.__init__" (defScope (inClass (top 56) 0)) s.heap.objs.size f cdv))) (hgd : (A2.deeper (envOfC "Half.__init__" (defScope (inClass (top 56) 0)) s.heap.objs.size f cdv)).guards = some []) :
    DSs none (fun cls d _ H2 => E cls d H2) (cxOf (L2.CX P w) P w K mg base N_Half_init "Half.__init__" (defScope (inClass (top 56) 0)) f cdv A2 fr s H E) (defBody (inClass (top 56) 0)) w_Half_init := by
  have hN := (sc_Half_init).nd
  exact (dss_cons (ds_set (i := 3) hN rfl (de_callD A.ok_way_in hr (by decide) hgd rfl (takes_of rfl rfl rfl rfl) (da_cons (dv 1) da_nil)))
 (dss_cons (ds_expr (de_callD A.ok_check_ahead hr (by decide) hgd rfl (takes_of rfl rfl rfl rfl) (da_cons (dv 2) da_nil)))
 (dss_cons (ds_fldOD A.fl_Half_own_way rfl (dv 3))
 (dss_one (ds_fldOD A.fl_Half_own_ahead rfl (dv 2))))))
theorem Hd.ok_Half_init (A : Hd K mg) : MakeD P w K mg base 4 "Half" ["self", "way", "ahead"] sp_Half_init := by
  obtain ⟨fd, F⟩ := A.c.def_ 23
  refine ⟨_, _, fd, A.g_Half, He.mkr_ok (A.c.fact 81), F.bindsN fun _ _ _ _ _ _ us hl => match us, hl with | [_, _, _], _ => rfl, def_okI F sc_Half_init (fun ds μ Q Xd h => by rw [h.1]; rfl) (fun cdv A2 fr s H E hr hgd => d_Half_init A hr hgd) fun ds μ Q Xd a h => h.2 a⟩
/-! check_truths -/
abbrev N_check_truths : List Str := ["thing", "truth"]
theorem sc_check_truths : FnScope N_check_truths ["thing"] (defScope (top 52)) := ⟨rfl, rfl, rfl, by decide +kernel, rfl, by decide +kernel, by decide +kernel⟩
def w_check_truths : WS := (sSeq (sIf (wOr (wNot (wB (wN (fIsiT isiT) (wCons (wVar 0) (wCons (wTup (wCons (wC (.ty "list")) (wCons (wC (.ty "tuple")) wNil))) wNil))))) (wB (w2 fNeU (wN fLen (wCons (wVar 0) wNil)) (wC (.int (8))))))
  (sRaise "InvalidTable" ["thing"] (wCons (wVar 0) wNil))
  sNext)
 (sIf (wNot (wB (wN fAll (wCons (wLc (wiL (wVar 0)) (kNameC 1) wYes (wN (fIsi isiT) (wCons (wVar 1) (wCons (wC (.ty "bool")) wNil))) [1]) wNil))))
  (sRaise "InvalidTable" ["thing"] (wCons (wVar 0) wNil))
  sNext))
def sp_check_truths : DSp := fun ds μ Q Xd => ds.length = 1 ∧ w_check_truths (defE Q Xd) (startD N_check_truths ds) μ
theorem d_check_truths (A : Hd K mg) {cdv : Value} {A2 : Around} {fr : List Env} {s : Shared} {H : Hp} {E : XK} {f : Addr} (hr : Room 2 (A2.deeper (envOfC "check_truths" (defScope (top 52)) s.heap.objs.size f cdv))) (hgd : (A2.deeper (envOfC "check_truths" (defScope (top 52)) s.heap.objs.size f cdv)).guards = some []) :
    DSs none (fun cls d _ H2 => E cls d H2) (cxOf (L2.CX P w) P w K mg base N_check_truths "check_truths" (defScope (top 52)) f cdv A2 fr s H E) (defBody (top 52)) w_check_truths := by
  have hN := (sc_check_truths).nd
  exact (dss_cons (ds_if (dt_w (dw_or (dt_not (dt_val (de_callB call_isiS (sn_isiT A.isi) rfl A.f_isinstance bt_isinstance (da_cons (dv 0) (da_cons (de_tup (da_cons (de_ty rfl A.f_list bt_list) (da_cons (de_ty rfl A.f_tuple bt_tuple) da_nil))) da_nil))))) (dw_or1 (dt_cmp (op_neU (have z := room64 hr; z)) s2_neU (de_callB call_len_seq sn_len rfl A.f_len bt_len (da_cons (dv 0) da_nil)) de_int (nomark _))))) (dss_one (ds_raiseD A.rx_InvalidTable rfl hr (by decide) rfl (takes_of rfl rfl rfl rfl) (da_cons (dv 0) da_nil))) dss_nil)
 (dss_one (ds_if (dt_not (dt_val (de_callB (cr_all rfl) sn_all rfl A.f_all bt_all (da_cons (de_lc rfl hN (di_list (dv 0)) (blkOk_by (own := [("truth", 1)]) (by show blkC N_check_truths (defScope (top 52)) _ _ = true; decide +kernel)) (lcg_name (by decide)) (fun _ _ _ _ _ => (pg_name hN rfl (by first | exact Or.inl rfl | exact Or.inr rfl) (by first | exact .inl rfl | exact .inr rfl))) (fun _ _ _ _ _ => dts_nil) (fun _ _ _ _ _ => (de_callB call_isi (sn_isi A.isi) rfl A.f_isinstance bt_isinstance (da_cons (dv 1) (da_cons (de_ty rfl A.f_bool bt_bool) da_nil))))) da_nil)))) (dss_one (ds_raiseD A.rx_InvalidTable rfl hr (by decide) rfl (takes_of rfl rfl rfl rfl) (da_cons (dv 0) da_nil))) dss_nil)))
theorem Hd.ok_check_truths (A : Hd K mg) : CallD P w K mg base 3 "check_truths" ["thing"] sp_check_truths := by
  obtain ⟨fd, F⟩ := A.c.def_ 24
  exact ⟨_, fd, A.g_check_truths, F.kp, F.bindsN fun _ _ _ _ _ _ us hl => match us, hl with | [_], _ => rfl, def_ok F sc_check_truths (fun ds μ Q Xd h => h.1) (fun cdv A2 fr s H E hr hgd => d_check_truths A hr hgd) fun ds μ Q Xd h => h.2⟩
/-! Table_init -/
abbrev N_Table_init : List Str := ["self", "kinds"]
theorem sc_Table_init : FnScope N_Table_init ["self", "kinds"] (defScope (inClass (top 53) 0)) := ⟨rfl, rfl, rfl, by decide +kernel, rfl, by decide +kernel, by decide +kernel⟩
def w_Table_init : WS := (sSeq (sDrop (wCall sp_check_truths (wCons (wVar 1) wNil)))
 (sFldO "Table" 0 "truths" (wN fListOf (wCons (wVar 1) wNil))))
def sp_Table_init : ISp := fun ds μ Q Xd => ds.length = 1 ∧ ∀ a, w_Table_init (defI "Table" a Q Xd) (startI N_Table_init "Table" a ds) μ
theorem d_Table_init (A : Hd K mg) {cdv : Value} {A2 : Around} {fr : List Env} {s : Shared} {H : Hp} {E : XK} {f : Addr} (hr : Room 3 (A2.deeper (envOfC "Table.__init__" (defScope (inClass (top 53) 0)) s.heap.objs.size f cdv))) (hgd : (A2.deeper (envOfC "Table.__init__" (defScope (inClass (top 53) 0)) s.heap.objs.size f cdv)).guards = some []) :
    DSs none (fun cls d _ H2 => E cls d H2) (cxOf (L2.CX P w) P w K mg base N_Table_init "Table.__init__" (defScope (inClass (top 53) 0)) f cdv A2 fr s H E) (defBody (inClass (top 53) 0)) w_Table_init := by
  have hN := (sc_Table_init).nd
  exact (dss_cons (ds_expr (de_callD A.ok_check_truths hr (by decide) hgd rfl (takes_of rfl rfl rfl rfl) (da_cons (dv 1) da_nil)))
 (dss_one (ds_fldOD A.fl_Table_truths rfl (de_callTy call_list_of sn_listOf rfl A.f_list bt_list (da_cons (dv 1) da_nil)))))
theorem Hd.ok_Table_init (A : Hd K mg) : MakeD P w K mg base 4 "Table" ["self", "kinds"] sp_Table_init := by
  obtain ⟨fd, F⟩ := A.c.def_ 25
  refine ⟨_, _, fd, A.g_Table, He.mkr_ok (A.c.fact 83), F.bindsN fun _ _ _ _ _ _ us hl => match us, hl with | [_, _], _ => rfl, def_okI F sc_Table_init (fun ds μ Q Xd h => by rw [h.1]; rfl) (fun cdv A2 fr s H E hr hgd => d_Table_init A hr hgd) fun ds μ Q Xd a h => h.2 a⟩
/-! _law_made -/
abbrev N__law_made : List Str := ["told_rule"]
theorem sc__law_made : FnScope N__law_made ["told_rule"] (defScope (top 70)) := ⟨rfl, rfl, rfl, by decide +kernel, rfl, by decide +kernel, by decide +kernel⟩
def w__law_made : WS := (sSeq (sIf (wB (w2 fEqU (w2 fIx (wVar 0) (wC (.int (0)))) (wC (.str "table"))))
  (sRet (wMake "Table" sp_Table_init (wCons (w2 fIx (wVar 0) (wC (.int (1)))) wNil)))
  sNext)
 (sRet (wMake "Half" sp_Half_init (wCons (w2 fIx (wVar 0) (wC (.int (1)))) (wCons (w2 fIx (wVar 0) (wC (.int (2)))) wNil)))))
def sp__law_made : DSp := fun ds μ Q Xd => ds.length = 1 ∧ w__law_made (defE Q Xd) (startD N__law_made ds) μ
theorem d__law_made (A : Hd K mg) {cdv : Value} {A2 : Around} {fr : List Env} {s : Shared} {H : Hp} {E : XK} {f : Addr} (hr : Room 5 (A2.deeper (envOfC "_law_made" (defScope (top 70)) s.heap.objs.size f cdv))) (hgd : (A2.deeper (envOfC "_law_made" (defScope (top 70)) s.heap.objs.size f cdv)).guards = some []) :
    DSs none (fun cls d _ H2 => E cls d H2) (cxOf (L2.CX P w) P w K mg base N__law_made "_law_made" (defScope (top 70)) f cdv A2 fr s H E) (defBody (top 70)) w__law_made := by
  have hN := (sc__law_made).nd
  exact (dss_cons (ds_if (dt_cmp (op_eqU (have z := room64 hr; z)) s2_eqU (de_item (dv 0) de_int) de_str (nomark _)) (dss_one (ds_ret (de_makeD A.ok_Table_init hr (by decide) hgd rfl (takes_of rfl rfl rfl rfl) (da_cons (de_item (dv 0) de_int) da_nil)))) dss_nil)
 (dss_one (ds_ret (de_makeD A.ok_Half_init hr (by decide) hgd rfl (takes_of rfl rfl rfl rfl) (da_cons (de_item (dv 0) de_int) (da_cons (de_item (dv 0) de_int) da_nil))))))
theorem Hd.ok__law_made (A : Hd K mg) : CallD P w K mg base 6 "_law_made" ["told_rule"] sp__law_made := by
  obtain ⟨fd, F⟩ := A.c.def_ 26
  exact ⟨_, fd, A.g__law_made, F.kp, F.bindsN fun _ _ _ _ _ _ us hl => match us, hl with | [_], _ => rfl, def_ok F sc__law_made (fun ds μ Q Xd h => h.1) (fun cdv A2 fr s H E hr hgd => d__law_made A hr hgd) fun ds μ Q Xd h => h.2⟩
/-! _law_near -/
abbrev N__law_near : List Str := ["u", "v", "p", "a", "area", "q"]
theorem sc__law_near : FnScope N__law_near ["u", "v", "p", "a"] (defScope (top 75)) := ⟨rfl, rfl, rfl, by decide +kernel, rfl, by decide +kernel, by decide +kernel⟩
def w__law_near : WS := (sSeq (sSet 4 (w2 fSub (w2 fTimes (w2 fIx (wVar 0) (wC (.int (0)))) (w2 fIx (wVar 1) (wC (.int (1))))) (w2 fTimes (w2 fIx (wVar 0) (wC (.int (1)))) (w2 fIx (wVar 1) (wC (.int (0)))))))
 (sSeq (sSet 5 (wTup (wCons (w2 fSub (w2 fIx (wVar 2) (wC (.int (0)))) (w2 fIx (wVar 3) (wC (.int (0))))) (wCons (w2 fSub (w2 fIx (wVar 2) (wC (.int (1)))) (w2 fIx (wVar 3) (wC (.int (1))))) wNil))))
 (sRet (wAndV (w2 fLe (wN fAbs (wCons (w2 fSub (w2 fTimes (w2 fIx (wVar 5) (wC (.int (0)))) (w2 fIx (wVar 1) (wC (.int (1))))) (w2 fTimes (w2 fIx (wVar 5) (wC (.int (1)))) (w2 fIx (wVar 1) (wC (.int (0)))))) wNil)) (w2 fTimes (wC (.int (8))) (wVar 4))) (w2 fLe (wN fAbs (wCons (w2 fSub (w2 fTimes (w2 fIx (wVar 0) (wC (.int (0)))) (w2 fIx (wVar 5) (wC (.int (1))))) (w2 fTimes (w2 fIx (wVar 0) (wC (.int (1)))) (w2 fIx (wVar 5) (wC (.int (0)))))) wNil)) (w2 fTimes (wC (.int (8))) (wVar 4)))))))
def sp__law_near : DSp := fun ds μ Q Xd => ds.length = 4 ∧ w__law_near (defE Q Xd) (startD N__law_near ds) μ
theorem d__law_near (A : Hd K mg) {cdv : Value} {A2 : Around} {fr : List Env} {s : Shared} {H : Hp} {E : XK} {f : Addr} (hr : Room 0 (A2.deeper (envOfC "_law_near" (defScope (top 75)) s.heap.objs.size f cdv))) (hgd : (A2.deeper (envOfC "_law_near" (defScope (top 75)) s.heap.objs.size f cdv)).guards = some []) :
    DSs none (fun cls d _ H2 => E cls d H2) (cxOf (L2.CX P w) P w K mg base N__law_near "_law_near" (defScope (top 75)) f cdv A2 fr s H E) (defBody (top 75)) w__law_near := by
  have hN := (sc__law_near).nd
  exact (dss_cons (ds_set (i := 4) hN rfl (de_sub (de_times (de_item (dv 0) de_int) (de_item (dv 1) de_int)) (de_times (de_item (dv 0) de_int) (de_item (dv 1) de_int))))
 (dss_cons (ds_set (i := 5) hN rfl (de_tup (da_cons (de_sub (de_item (dv 2) de_int) (de_item (dv 3) de_int)) (da_cons (de_sub (de_item (dv 2) de_int) (de_item (dv 3) de_int)) da_nil))))
 (dss_one (ds_ret (de_and (de_cmp op_le s2_IB (de_callB call_abs sn_abs rfl A.f_abs bt_abs (da_cons (de_sub (de_times (de_item (dv 5) de_int) (de_item (dv 1) de_int)) (de_times (de_item (dv 5) de_int) (de_item (dv 1) de_int))) da_nil)) (de_times de_int (dv 4)) (nomark _)) (de_one (de_cmp op_le s2_IB (de_callB call_abs sn_abs rfl A.f_abs bt_abs (da_cons (de_sub (de_times (de_item (dv 0) de_int) (de_item (dv 5) de_int)) (de_times (de_item (dv 0) de_int) (de_item (dv 5) de_int))) da_nil)) (de_times de_int (dv 4)) (nomark _))))))))
theorem Hd.ok__law_near (A : Hd K mg) : CallD P w K mg base 1 "_law_near" ["u", "v", "p", "a"] sp__law_near := by
  obtain ⟨fd, F⟩ := A.c.def_ 27
  exact ⟨_, fd, A.g__law_near, F.kp, F.bindsN fun _ _ _ _ _ _ us hl => match us, hl with | [_, _, _, _], _ => rfl, def_ok F sc__law_near (fun ds μ Q Xd h => h.1) (fun cdv A2 fr s H E hr hgd => d__law_near A hr hgd) fun ds μ Q Xd h => h.2⟩
/-! _law_right_rule -/
abbrev N__law_right_rule : List Str := ["pool", "n", "start", "kind"]
theorem sc__law_right_rule : FnScope N__law_right_rule ["pool"] (defScope (top 73)) := ⟨rfl, rfl, rfl, by decide +kernel, rfl, by decide +kernel, by decide +kernel⟩
def w__law_right_rule : WS := (sSeq (sIf (wB (w2 fEqU (wCall sp__law_draw (wCons (wVar 0) (wCons (wC (.int (2))) wNil))) (wC (.int (0)))))
  (sSeq (sSet 2 (wCall sp__law_draw (wCons (wVar 0) (wCons (wC (.int (8))) wNil))))
 (sRet (wTup (wCons (wC (.str "table")) (wCons (wLc (wiR1 (wCons (wC (.int (8))) wNil)) (kNameC 3) wYes (w2 fLt (w2 fMod (w2 fSub (wVar 3) (wVar 2)) (wC (.int (8)))) (wC (.int (4)))) [3]) wNil)))))
  sNext)
 (sSeq (sSet 1 (wCall sp__law_pair (wCons (wVar 0) (wCons (wC (.int (4))) wNil))))
 (sRet (wTup (wCons (wC (.str "half")) (wCons (wIf (wB (w2 fEqU (wVar 1) (wTup (wCons (wC (.int (0))) (wCons (wC (.int (0))) wNil))))) (wTup (wCons (wC (.int (3))) (wCons (w1 fNeg (wC (.int (1)))) wNil))) (wVar 1)) (wCons (w2 fEqU (wCall sp__law_draw (wCons (wVar 0) (wCons (wC (.int (2))) wNil))) (wC (.int (0)))) wNil)))))))
def sp__law_right_rule : DSp := fun ds μ Q Xd => ds.length = 1 ∧ w__law_right_rule (defE Q Xd) (startD N__law_right_rule ds) μ
theorem d__law_right_rule (A : Hd K mg) {cdv : Value} {A2 : Around} {fr : List Env} {s : Shared} {H : Hp} {E : XK} {f : Addr} (hr : Room 2 (A2.deeper (envOfC "_law_right_rule" (defScope (top 73)) s.heap.objs.size f cdv))) (hgd : (A2.deeper (envOfC "_law_right_rule" (defScope (top 73)) s.heap.objs.size f cdv)).guards = some []) :
    DSs none (fun cls d _ H2 => E cls d H2) (cxOf (L2.CX P w) P w K mg base N__law_right_rule "_law_right_rule" (defScope (top 73)) f cdv A2 fr s H E) (defBody (top 73)) w__law_right_rule := by
  have hN := (sc__law_right_rule).nd
  exact (dss_cons (ds_if (dt_cmp (op_eqU (have z := room64 hr; z)) s2_eqU (de_callD A.ok__law_draw hr (by decide) hgd rfl (takes_of rfl rfl rfl rfl) (da_cons (dv 0) (da_cons de_int da_nil))) de_int (nomark _)) (dss_cons (ds_set (i := 2) hN rfl (de_callD A.ok__law_draw hr (by decide) hgd rfl (takes_of rfl rfl rfl rfl) (da_cons (dv 0) (da_cons de_int da_nil))))
 (dss_one (ds_ret (de_tup (da_cons de_str (da_cons (de_lc rfl hN (di_range1 (by rfl) A.f_range (da_cons de_int da_nil)) (blkOk_by (own := [("kind", 3)]) (by show blkC N__law_right_rule (defScope (top 73)) _ _ = true; decide +kernel)) (lcg_name (by decide)) (fun _ _ _ _ _ => (pg_name hN rfl (by first | exact Or.inl rfl | exact Or.inr rfl) (by first | exact .inl rfl | exact .inr rfl))) (fun _ _ _ _ _ => dts_nil) (fun _ _ _ _ _ => (de_cmp op_lt s2_IB (de_mod (de_sub (dv 3) (dv 2)) de_int) de_int (nomark _)))) da_nil)))))) dss_nil)
 (dss_cons (ds_set (i := 1) hN rfl (de_callD A.ok__law_pair hr (by decide) hgd rfl (takes_of rfl rfl rfl rfl) (da_cons (dv 0) (da_cons de_int da_nil))))
 (dss_one (ds_ret (de_tup (da_cons de_str (da_cons (de_if (dt_cmp (op_eqU (have z := room64 hr; z)) s2_eqU (dv 1) (de_tup (da_cons de_int (da_cons de_int da_nil))) (nomark _)) (de_tup (da_cons de_int (da_cons (de_neg de_int) da_nil))) (dv 1)) (da_cons (de_cmp (op_eqU (have z := room64 hr; z)) s2_eqU (de_callD A.ok__law_draw hr (by decide) hgd rfl (takes_of rfl rfl rfl rfl) (da_cons (dv 0) (da_cons de_int da_nil))) de_int (nomark _)) da_nil))))))))
theorem Hd.ok__law_right_rule (A : Hd K mg) : CallD P w K mg base 3 "_law_right_rule" ["pool"] sp__law_right_rule := by
  obtain ⟨fd, F⟩ := A.c.def_ 28
  exact ⟨_, fd, A.g__law_right_rule, F.kp, F.bindsN fun _ _ _ _ _ _ us hl => match us, hl with | [_], _ => rfl, def_ok F sc__law_right_rule (fun ds μ Q Xd h => h.1) (fun cdv A2 fr s H E hr hgd => d__law_right_rule A hr hgd) fun ds μ Q Xd h => h.2⟩
/-! Half_has -/
abbrev N_Half_has : List Str := ["self", "pair", "at", "goes_along"]
theorem sc_Half_has : FnScope N_Half_has ["self", "pair"] (defScope (inClass (top 56) 5)) := ⟨rfl, rfl, rfl, by decide +kernel, rfl, by decide +kernel, by decide +kernel⟩
def w_Half_has : WS := (sSeq (sSet 2 (wCall sp_cross_of (wCons (w1 (fFld "Half" "own_way") (wVar 0)) (wCons (wVar 1) wNil))))
 (sSeq (sIf (wB (w2 fNeU (wVar 2) (wC (.int (0)))))
  (sRet (w2 fGt (wVar 2) (wC (.int (0)))))
  sNext)
 (sSeq (sSet 3 (w2 fGt (w2 fPlus (w2 fTimes (w2 fIx (wVar 1) (wC (.int (0)))) (w2 fIx (w1 (fFld "Half" "own_way") (wVar 0)) (wC (.int (0))))) (w2 fTimes (w2 fIx (wVar 1) (wC (.int (1)))) (w2 fIx (w1 (fFld "Half" "own_way") (wVar 0)) (wC (.int (1)))))) (wC (.int (0)))))
 (sRet (w2 fEqU (wVar 3) (w1 (fFld "Half" "own_ahead") (wVar 0)))))))
def sp_Half_has : DSp := fun ds μ Q Xd => ds.length = 2 ∧ w_Half_has (defE Q Xd) (startD N_Half_has ds) μ
theorem d_Half_has (A : Hd K mg) {cdv : Value} {A2 : Around} {fr : List Env} {s : Shared} {H : Hp} {E : XK} {f : Addr} (hr : Room 1 (A2.deeper (envOfC "Half.has" (defScope (inClass (top 56) 5)) s.heap.objs.size f cdv))) (hgd : (A2.deeper (envOfC "Half.has" (defScope (inClass (top 56) 5)) s.heap.objs.size f cdv)).guards = some []) :
    DSs none (fun cls d _ H2 => E cls d H2) (cxOf (L2.CX P w) P w K mg base N_Half_has "Half.has" (defScope (inClass (top 56) 5)) f cdv A2 fr s H E) (defBody (inClass (top 56) 5)) w_Half_has := by
  have hN := (sc_Half_has).nd
  exact (dss_cons (ds_set (i := 2) hN rfl (de_callD A.ok_cross_of hr (by decide) hgd rfl (takes_of rfl rfl rfl rfl) (da_cons (de_fldD A.fl_Half_own_way (dv 0)) (da_cons (dv 1) da_nil))))
 (dss_cons (ds_if (dt_cmp (op_neU (have z := room64 hr; z)) s2_neU (dv 2) de_int (nomark _)) (dss_one (ds_ret (de_cmp op_gt s2_IB (dv 2) de_int (nomark _)))) dss_nil)
 (dss_cons (ds_set (i := 3) hN rfl (de_cmp op_gt s2_IB (de_plus (de_times (de_item (dv 1) de_int) (de_item (de_fldD A.fl_Half_own_way (dv 0)) de_int)) (de_times (de_item (dv 1) de_int) (de_item (de_fldD A.fl_Half_own_way (dv 0)) de_int))) de_int (nomark _)))
 (dss_one (ds_ret (de_cmp (op_eqU (have z := room64 hr; z)) s2_eqU (dv 3) (de_fldD A.fl_Half_own_ahead (dv 0)) (nomark _)))))))
theorem Hd.ok_Half_has (A : Hd K mg) : MethD P w K mg base 2 "Half" "has" ["self", "pair"] sp_Half_has := by
  obtain ⟨fd, F⟩ := A.c.def_ 29
  exact ⟨_, _, fd, A.g_Half, He.cls_ok (A.c.fact 68), He.meth_ok (A.c.fact 85), F.bindsN fun _ _ _ _ _ _ us hl => match us, hl with | [_, _], _ => rfl, def_ok F sc_Half_has (fun ds μ Q Xd h => h.1) (fun cdv A2 fr s H E hr hgd => d_Half_has A hr hgd) fun ds μ Q Xd h => h.2⟩
/-! sign_of -/
abbrev N_sign_of : List Str := ["number"]
theorem sc_sign_of : FnScope N_sign_of ["number"] (defScope (top 43)) := ⟨rfl, rfl, rfl, by decide +kernel, rfl, by decide +kernel, by decide +kernel⟩
def w_sign_of : WS := (sSeq (sIf (wB (w2 fEqU (wVar 0) (wC (.int (0)))))
  (sRet (wC (.int (0))))
  sNext)
 (sRet (wIf (wB (w2 fGt (wVar 0) (wC (.int (0))))) (wC (.int (1))) (w1 fNeg (wC (.int (1)))))))
def sp_sign_of : DSp := fun ds μ Q Xd => ds.length = 1 ∧ w_sign_of (defE Q Xd) (startD N_sign_of ds) μ
theorem d_sign_of (A : Hd K mg) {cdv : Value} {A2 : Around} {fr : List Env} {s : Shared} {H : Hp} {E : XK} {f : Addr} (hr : Room 0 (A2.deeper (envOfC "sign_of" (defScope (top 43)) s.heap.objs.size f cdv))) (hgd : (A2.deeper (envOfC "sign_of" (defScope (top 43)) s.heap.objs.size f cdv)).guards = some []) :
    DSs none (fun cls d _ H2 => E cls d H2) (cxOf (L2.CX P w) P w K mg base N_sign_of "sign_of" (defScope (top 43)) f cdv A2 fr s H E) (defBody (top 43)) w_sign_of := by
  have hN := (sc_sign_of).nd
  exact (dss_cons (ds_if (dt_cmp (op_eqU (have z := room64 hr; z)) s2_eqU (dv 0) de_int (nomark _)) (dss_one (ds_ret de_int)) dss_nil)
 (dss_one (ds_ret (de_if (dt_cmp op_gt s2_IB (dv 0) de_int (nomark _)) de_int (de_neg de_int)))))
theorem Hd.ok_sign_of (A : Hd K mg) : CallD P w K mg base 1 "sign_of" ["number"] sp_sign_of := by
  obtain ⟨fd, F⟩ := A.c.def_ 30
  exact ⟨_, fd, A.g_sign_of, F.kp, F.bindsN fun _ _ _ _ _ _ us hl => match us, hl with | [_], _ => rfl, def_ok F sc_sign_of (fun ds μ Q Xd h => h.1) (fun cdv A2 fr s H E hr hgd => d_sign_of A hr hgd) fun ds μ Q Xd h => h.2⟩
/-! kind_of_pair -/
abbrev N_kind_of_pair : List Str := ["pair"]
theorem sc_kind_of_pair : FnScope N_kind_of_pair ["pair"] (defScope (top 45)) := ⟨rfl, rfl, rfl, by decide +kernel, rfl, by decide +kernel, by decide +kernel⟩
def w_kind_of_pair : WS := (sRet (w1 (fKd kd_KINDS) (wTup (wCons (wCall sp_sign_of (wCons (w2 fIx (wVar 0) (wC (.int (0)))) wNil)) (wCons (wCall sp_sign_of (wCons (w2 fIx (wVar 0) (wC (.int (1)))) wNil)) wNil)))))
def sp_kind_of_pair : DSp := fun ds μ Q Xd => ds.length = 1 ∧ w_kind_of_pair (defE Q Xd) (startD N_kind_of_pair ds) μ
theorem d_kind_of_pair (A : Hd K mg) {cdv : Value} {A2 : Around} {fr : List Env} {s : Shared} {H : Hp} {E : XK} {f : Addr} (hr : Room 1 (A2.deeper (envOfC "kind_of_pair" (defScope (top 45)) s.heap.objs.size f cdv))) (hgd : (A2.deeper (envOfC "kind_of_pair" (defScope (top 45)) s.heap.objs.size f cdv)).guards = some []) :
    DSs none (fun cls d _ H2 => E cls d H2) (cxOf (L2.CX P w) P w K mg base N_kind_of_pair "kind_of_pair" (defScope (top 45)) f cdv A2 fr s H E) (defBody (top 45)) w_kind_of_pair := by
  have hN := (sc_kind_of_pair).nd
  exact (dss_one (ds_ret (de_kd (have z := room2 hr; z) rfl A.g_KINDS A.k_KINDS (de_tup (da_cons (de_callD A.ok_sign_of hr (by decide) hgd rfl (takes_of rfl rfl rfl rfl) (da_cons (de_item (dv 0) de_int) da_nil)) (da_cons (de_callD A.ok_sign_of hr (by decide) hgd rfl (takes_of rfl rfl rfl rfl) (da_cons (de_item (dv 0) de_int) da_nil)) da_nil))))))
theorem Hd.ok_kind_of_pair (A : Hd K mg) : CallD P w K mg base 2 "kind_of_pair" ["pair"] sp_kind_of_pair := by
  obtain ⟨fd, F⟩ := A.c.def_ 31
  exact ⟨_, fd, A.g_kind_of_pair, F.kp, F.bindsN fun _ _ _ _ _ _ us hl => match us, hl with | [_], _ => rfl, def_ok F sc_kind_of_pair (fun ds μ Q Xd h => h.1) (fun cdv A2 fr s H E hr hgd => d_kind_of_pair A hr hgd) fun ds μ Q Xd h => h.2⟩
/-! Table_has -/
abbrev N_Table_has : List Str := ["self", "pair"]
theorem sc_Table_has : FnScope N_Table_has ["self", "pair"] (defScope (inClass (top 53) 2)) := ⟨rfl, rfl, rfl, by decide +kernel, rfl, by decide +kernel, by decide +kernel⟩
def w_Table_has : WS := (sRet (w2 fIx (w1 (fFld "Table" "truths") (wVar 0)) (wCall sp_kind_of_pair (wCons (wVar 1) wNil))))
def sp_Table_has : DSp := fun ds μ Q Xd => ds.length = 2 ∧ w_Table_has (defE Q Xd) (startD N_Table_has ds) μ
theorem d_Table_has (A : Hd K mg) {cdv : Value} {A2 : Around} {fr : List Env} {s : Shared} {H : Hp} {E : XK} {f : Addr} (hr : Room 2 (A2.deeper (envOfC "Table.has" (defScope (inClass (top 53) 2)) s.heap.objs.size f cdv))) (hgd : (A2.deeper (envOfC "Table.has" (defScope (inClass (top 53) 2)) s.heap.objs.size f cdv)).guards = some []) :
    DSs none (fun cls d _ H2 => E cls d H2) (cxOf (L2.CX P w) P w K mg base N_Table_has "Table.has" (defScope (inClass (top 53) 2)) f cdv A2 fr s H E) (defBody (inClass (top 53) 2)) w_Table_has := by
  have hN := (sc_Table_has).nd
  exact (dss_one (ds_ret (de_item (de_fldD A.fl_Table_truths (dv 0)) (de_callD A.ok_kind_of_pair hr (by decide) hgd rfl (takes_of rfl rfl rfl rfl) (da_cons (dv 1) da_nil)))))
theorem Hd.ok_Table_has (A : Hd K mg) : MethD P w K mg base 3 "Table" "has" ["self", "pair"] sp_Table_has := by
  obtain ⟨fd, F⟩ := A.c.def_ 32
  exact ⟨_, _, fd, A.g_Table, He.cls_ok (A.c.fact 75), He.meth_ok (A.c.fact 86), F.bindsN fun _ _ _ _ _ _ us hl => match us, hl with | [_, _], _ => rfl, def_ok F sc_Table_has (fun ds μ Q Xd h => h.1) (fun cdv A2 fr s H E hr hgd => d_Table_has A hr hgd) fun ds μ Q Xd h => h.2⟩
/-! ways_of -/
abbrev N_ways_of : List Str := ["pairs", "at"]
theorem sc_ways_of : FnScope N_ways_of ["pairs"] (defScope (top 24)) := ⟨rfl, rfl, rfl, by decide +kernel, rfl, by decide +kernel, by decide +kernel⟩
def w_ways_of : WS := (sRet (wLc (wiR1 (wCons (wN fLen (wCons (wVar 0) wNil)) wNil)) (kNameC 1) wYes (wTup (wCons (w2 fIx (wVar 0) (wVar 1)) (wCons (w2 fIx (wVar 0) (w2 fMod (w2 fPlus (wVar 1) (wC (.int (1)))) (wN fLen (wCons (wVar 0) wNil)))) wNil))) [1]))
def sp_ways_of : DSp := fun ds μ Q Xd => ds.length = 1 ∧ w_ways_of (defE Q Xd) (startD N_ways_of ds) μ
theorem d_ways_of (A : Hd K mg) {cdv : Value} {A2 : Around} {fr : List Env} {s : Shared} {H : Hp} {E : XK} {f : Addr} (hr : Room 0 (A2.deeper (envOfC "ways_of" (defScope (top 24)) s.heap.objs.size f cdv))) (hgd : (A2.deeper (envOfC "ways_of" (defScope (top 24)) s.heap.objs.size f cdv)).guards = some []) :
    DSs none (fun cls d _ H2 => E cls d H2) (cxOf (L2.CX P w) P w K mg base N_ways_of "ways_of" (defScope (top 24)) f cdv A2 fr s H E) (defBody (top 24)) w_ways_of := by
  have hN := (sc_ways_of).nd
  exact (dss_one (ds_ret (de_lc rfl hN (di_range1 (by rfl) A.f_range (da_cons (de_callB call_len_seq sn_len (by rfl) A.f_len bt_len (da_cons (dv 0) da_nil)) da_nil)) (blkOk_by (own := [("at", 1)]) (by show blkC N_ways_of (defScope (top 24)) _ _ = true; decide +kernel)) (lcg_name (by decide)) (fun _ _ _ _ _ => (pg_name hN rfl (by first | exact Or.inl rfl | exact Or.inr rfl) (by first | exact .inl rfl | exact .inr rfl))) (fun _ _ _ _ _ => dts_nil) (fun _ _ _ _ _ => (de_tup (da_cons (de_item (dv 0) (dv 1)) (da_cons (de_item (dv 0) (de_mod (de_plus (dv 1) de_int) (de_callB call_len_seq sn_len rfl A.f_len bt_len (da_cons (dv 0) da_nil)))) da_nil)))))))
theorem Hd.ok_ways_of (A : Hd K mg) : CallD P w K mg base 1 "ways_of" ["pairs"] sp_ways_of := by
  obtain ⟨fd, F⟩ := A.c.def_ 33
  exact ⟨_, fd, A.g_ways_of, F.kp, F.bindsN fun _ _ _ _ _ _ us hl => match us, hl with | [_], _ => rfl, def_ok F sc_ways_of (fun ds μ Q Xd h => h.1) (fun cdv A2 fr s H E hr hgd => d_ways_of A hr hgd) fun ds μ Q Xd h => h.2⟩
/-! is_owned -/
abbrev N_is_owned : List Str := ["rule", "pairs", "pair", "a", "b", "turn"]
theorem sc_is_owned : FnScope N_is_owned ["rule", "pairs", "pair"] (defScope (top 25)) := ⟨rfl, rfl, rfl, by decide +kernel, rfl, by decide +kernel, by decide +kernel⟩
def w_is_owned : WS := (sSeq (sFor (wiL (wCall sp_ways_of (wCons (wVar 1) wNil))) (kTup 2 (kCons (kName 3) (kCons (kName 4) kNil)))
  (sSeq (sSet 5 (wCall sp_side_of (wCons (wVar 3) (wCons (wVar 4) (wCons (wVar 2) wNil)))))
 (sIf (wOr (wB (w2 fLt (wVar 5) (wC (.int (0))))) (wAnd (wB (w2 fEqU (wVar 5) (wC (.int (0))))) (wNot (wB (wMethU "Table" "Half" "has" sp_Table_has sp_Half_has (wVar 0) (wCons (wCall sp_less (wCons (wVar 4) (wCons (wVar 3) wNil))) wNil))))))
  (sRet (wC (.bl false)))
  sNext)))
 (sRet (wC (.bl true))))
def sp_is_owned : DSp := fun ds μ Q Xd => ds.length = 3 ∧ w_is_owned (defE Q Xd) (startD N_is_owned ds) μ
theorem d_is_owned (A : Hd K mg) {cdv : Value} {A2 : Around} {fr : List Env} {s : Shared} {H : Hp} {E : XK} {f : Addr} (hr : Room 3 (A2.deeper (envOfC "is_owned" (defScope (top 25)) s.heap.objs.size f cdv))) (hgd : (A2.deeper (envOfC "is_owned" (defScope (top 25)) s.heap.objs.size f cdv)).guards = some []) :
    DSs none (fun cls d _ H2 => E cls d H2) (cxOf (L2.CX P w) P w K mg base N_is_owned "is_owned" (defScope (top 25)) f cdv A2 fr s H E) (defBody (top 25)) w_is_owned := by
  have hN := (sc_is_owned).nd
  exact (dss_cons (ds_for (passes_of rfl) rfl (di_list (de_callD A.ok_ways_of hr (by decide) hgd (by rfl) (takes_of (by rfl) (by rfl) (by rfl) (by rfl)) (da_cons (dv 1) da_nil))) (dg_tup rfl (dgs_cons (dg_name hN rfl) (dgs_cons (dg_name hN rfl) dgs_nil))) (dss_cons (ds_set (i := 5) hN rfl (de_callD A.ok_side_of hr (by decide) hgd rfl (takes_of rfl rfl rfl rfl) (da_cons (dv 3) (da_cons (dv 4) (da_cons (dv 2) da_nil)))))
 (dss_one (ds_if (dt_w (dw_or (dt_cmp op_lt s2_IB (dv 5) de_int (nomark _)) (dw_or1 (dt_w (dw_and (dt_cmp (op_eqU (have z := room64 hr; z)) s2_eqU (dv 5) de_int (nomark _)) (dw_and1 (dt_not (dt_val (de_methU A.ok_Table_has A.ok_Half_has hr (by decide) (by decide) hgd (takes_of rfl rfl rfl rfl) (dv 0) (da_cons (de_callD A.ok_less hr (by decide) hgd rfl (takes_of rfl rfl rfl rfl) (da_cons (dv 4) (da_cons (dv 3) da_nil))) da_nil)))))))))) (dss_one (ds_ret de_bl)) dss_nil))))
 (dss_one (ds_ret de_bl)))
theorem Hd.ok_is_owned (A : Hd K mg) : CallD P w K mg base 4 "is_owned" ["rule", "pairs", "pair"] sp_is_owned := by
  obtain ⟨fd, F⟩ := A.c.def_ 34
  exact ⟨_, fd, A.g_is_owned, F.kp, F.bindsN fun _ _ _ _ _ _ us hl => match us, hl with | [_, _, _], _ => rfl, def_ok F sc_is_owned (fun ds μ Q Xd h => h.1) (fun cdv A2 fr s H E hr hgd => d_is_owned A hr hgd) fun ds μ Q Xd h => h.2⟩
/-! owns -/
abbrev N_owns : List Str := ["rule", "triangle", "point"]
theorem sc_owns : FnScope N_owns ["rule", "triangle", "point"] (defScope (top 26)) := ⟨rfl, rfl, rfl, by decide +kernel, rfl, by decide +kernel, by decide +kernel⟩
def w_owns : WS := (sRet (wCall sp_is_owned (wCons (wVar 0) (wCons (w1 (fFld "Triangle" "pairs") (wVar 1)) (wCons (wCall sp_pair_of (wCons (wVar 2) wNil)) wNil)))))
def sp_owns : DSp := fun ds μ Q Xd => ds.length = 3 ∧ w_owns (defE Q Xd) (startD N_owns ds) μ
theorem d_owns (A : Hd K mg) {cdv : Value} {A2 : Around} {fr : List Env} {s : Shared} {H : Hp} {E : XK} {f : Addr} (hr : Room 4 (A2.deeper (envOfC "owns" (defScope (top 26)) s.heap.objs.size f cdv))) (hgd : (A2.deeper (envOfC "owns" (defScope (top 26)) s.heap.objs.size f cdv)).guards = some []) :
    DSs none (fun cls d _ H2 => E cls d H2) (cxOf (L2.CX P w) P w K mg base N_owns "owns" (defScope (top 26)) f cdv A2 fr s H E) (defBody (top 26)) w_owns := by
  have hN := (sc_owns).nd
  exact (dss_one (ds_ret (de_callD A.ok_is_owned hr (by decide) hgd rfl (takes_of rfl rfl rfl rfl) (da_cons (dv 0) (da_cons (de_fldD A.fl_Triangle_pairs (dv 1)) (da_cons (de_callD A.ok_pair_of hr (by decide) hgd rfl (takes_of rfl rfl rfl rfl) (da_cons (dv 2) da_nil)) da_nil))))))
theorem Hd.ok_owns (A : Hd K mg) : CallD P w K mg base 5 "owns" ["rule", "triangle", "point"] sp_owns := by
  obtain ⟨fd, F⟩ := A.c.def_ 35
  exact ⟨_, fd, A.g_owns, F.kp, F.bindsN fun _ _ _ _ _ _ us hl => match us, hl with | [_, _, _], _ => rfl, def_ok F sc_owns (fun ds μ Q Xd h => h.1) (fun cdv A2 fr s H E hr hgd => d_owns A hr hgd) fun ds μ Q Xd h => h.2⟩
/-! _law_times -/
abbrev N__law_times : List Str := ["rule", "triangle", "u", "v", "p", "found", "i", "j", "q"]
theorem sc__law_times : FnScope N__law_times ["rule", "triangle", "u", "v", "p"] (defScope (top 74)) := ⟨rfl, rfl, rfl, by decide +kernel, rfl, by decide +kernel, by decide +kernel⟩
def w__law_times : WS := (sSeq (sSet 5 (wC (.int (0))))
 (sSeq (sFor (wiR2 (wCons (w1 fNeg (wC (.int (9)))) (wCons (wC (.int (10))) wNil))) (kName 6)
  (sFor (wiR2 (wCons (w1 fNeg (wC (.int (9)))) (wCons (wC (.int (10))) wNil))) (kName 7)
  (sSeq (sSet 8 (wTup (wCons (w2 fSub (w2 fSub (w2 fIx (wVar 4) (wC (.int (0)))) (w2 fTimes (wVar 6) (w2 fIx (wVar 2) (wC (.int (0)))))) (w2 fTimes (wVar 7) (w2 fIx (wVar 3) (wC (.int (0)))))) (wCons (w2 fSub (w2 fSub (w2 fIx (wVar 4) (wC (.int (1)))) (w2 fTimes (wVar 6) (w2 fIx (wVar 2) (wC (.int (1)))))) (w2 fTimes (wVar 7) (w2 fIx (wVar 3) (wC (.int (1)))))) wNil))))
 (sIf (wAnd (wB (wChain fLt fLt (w1 fNeg (wC (.int (20)))) (w2 fIx (wVar 8) (wC (.int (0)))) (wC (.int (20))))) (wB (wChain fLt fLt (w1 fNeg (wC (.int (20)))) (w2 fIx (wVar 8) (wC (.int (1)))) (wC (.int (20))))))
  (sSet 5 (w2 fPlus (wVar 5) (wN fInt1 (wCons (wCall sp_owns (wCons (wVar 0) (wCons (wVar 1) (wCons (wVar 8) wNil)))) wNil))))
  sNext))))
 (sRet (wVar 5))))
def sp__law_times : DSp := fun ds μ Q Xd => ds.length = 5 ∧ w__law_times (defE Q Xd) (startD N__law_times ds) μ
theorem d__law_times (A : Hd K mg) {cdv : Value} {A2 : Around} {fr : List Env} {s : Shared} {H : Hp} {E : XK} {f : Addr} (hr : Room 5 (A2.deeper (envOfC "_law_times" (defScope (top 74)) s.heap.objs.size f cdv))) (hgd : (A2.deeper (envOfC "_law_times" (defScope (top 74)) s.heap.objs.size f cdv)).guards = some []) :
    DSs none (fun cls d _ H2 => E cls d H2) (cxOf (L2.CX P w) P w K mg base N__law_times "_law_times" (defScope (top 74)) f cdv A2 fr s H E) (defBody (top 74)) w__law_times := by
  have hN := (sc__law_times).nd
  exact (dss_cons (ds_set (i := 5) hN rfl de_int)
 (dss_cons (ds_for (passes_of rfl) rfl (di_range2 (by rfl) A.f_range (da_cons (de_neg de_int) (da_cons de_int da_nil))) (dg_name hN rfl) (dss_one (ds_for (passes_of rfl) rfl (di_range2 (by rfl) A.f_range (da_cons (de_neg de_int) (da_cons de_int da_nil))) (dg_name hN rfl) (dss_cons (ds_set (i := 8) hN rfl (de_tup (da_cons (de_sub (de_sub (de_item (dv 4) de_int) (de_times (dv 6) (de_item (dv 2) de_int))) (de_times (dv 7) (de_item (dv 3) de_int))) (da_cons (de_sub (de_sub (de_item (dv 4) de_int) (de_times (dv 6) (de_item (dv 2) de_int))) (de_times (dv 7) (de_item (dv 3) de_int))) da_nil))))
 (dss_one (ds_if (dt_w (dw_and (dt_chain op_lt s2_IB op_lt s2_IB (de_neg de_int) (de_item (dv 8) de_int) de_int) (dw_and1 (dt_chain op_lt s2_IB op_lt s2_IB (de_neg de_int) (de_item (dv 8) de_int) de_int)))) (dss_one (ds_set (i := 5) hN rfl (de_plus (dv 5) (de_callTy call_int1 sn_int1 rfl A.f_int bt_int (da_cons (de_callD A.ok_owns hr (by decide) hgd rfl (takes_of rfl rfl rfl rfl) (da_cons (dv 0) (da_cons (dv 1) (da_cons (dv 8) da_nil)))) da_nil))))) dss_nil))))))
 (dss_one (ds_ret (dv 5)))))
theorem Hd.ok__law_times (A : Hd K mg) : CallD P w K mg base 6 "_law_times" ["rule", "triangle", "u", "v", "p"] sp__law_times := by
  obtain ⟨fd, F⟩ := A.c.def_ 36
  exact ⟨_, fd, A.g__law_times, F.kp, F.bindsN fun _ _ _ _ _ _ us hl => match us, hl with | [_, _, _, _, _], _ => rfl, def_ok F sc__law_times (fun ds μ Q Xd h => h.1) (fun cdv A2 fr s H E hr hgd => d__law_times A hr hgd) fun ds μ Q Xd h => h.2⟩
/-! Edge_init -/
abbrev N_Edge_init : List Str := ["self", "rule", "a", "b", "grid"]
theorem sc_Edge_init : FnScope N_Edge_init ["self", "rule", "a", "b", "grid"] (defScope (inClass (top 34) 0)) := ⟨rfl, rfl, rfl, by decide +kernel, rfl, by decide +kernel, by decide +kernel⟩
def w_Edge_init : WS := (sSeq (sAsg (wCall sp_less (wCons (wVar 3) (wCons (wVar 2) wNil))) (kTup 2 (kCons (kFldO "Edge" 0 "run") (kCons (kFldO "Edge" 0 "rise") kNil))))
 (sSeq (sFldO "Edge" 0 "step" (w1 (fFld "Grid" "step") (wVar 4)))
 (sSeq (sFldO "Edge" 0 "start" (wVar 2))
 (sSeq (sFldO "Edge" 0 "rest" (w1 (fFld "Grid" "rest") (wVar 4)))
 (sFldO "Edge" 0 "tie" (wIf (wB (wMethU "Table" "Half" "has" sp_Table_has sp_Half_has (wVar 1) (wCons (wTup (wCons (wOwnFld "Edge" 0 "run") (wCons (wOwnFld "Edge" 0 "rise") wNil))) wNil))) (wC (.int (0))) (wC (.int (1)))))))))
def sp_Edge_init : ISp := fun ds μ Q Xd => ds.length = 4 ∧ ∀ a, w_Edge_init (defI "Edge" a Q Xd) (startI N_Edge_init "Edge" a ds) μ
theorem d_Edge_init (A : Hd K mg) {cdv : Value} {A2 : Around} {fr : List Env} {s : Shared} {H : Hp} {E : XK} {f : Addr} (hr : Room 3 (A2.deeper (envOfC "Edge.__init__" (defScope (inClass (top 34) 0)) s.heap.objs.size f cdv))) (hgd : (A2.deeper (envOfC "Edge.__init__" (defScope (inClass (top 34) 0)) s.heap.objs.size f cdv)).guards = some []) :
    DSs none (fun cls d _ H2 => E cls d H2) (cxOf (L2.CX P w) P w K mg base N_Edge_init "Edge.__init__" (defScope (inClass (top 34) 0)) f cdv A2 fr s H E) (defBody (inClass (top 34) 0)) w_Edge_init := by
  have hN := (sc_Edge_init).nd
  exact (dss_cons (ds_asg (de_callD A.ok_less hr (by decide) hgd rfl (takes_of rfl rfl rfl rfl) (da_cons (dv 3) (da_cons (dv 2) da_nil))) (dg_tup rfl (dgs_cons (dg_fldO (c := "Edge") A.fl_Edge_run rfl) (dgs_cons (dg_fldO (c := "Edge") A.fl_Edge_rise rfl) dgs_nil))))
 (dss_cons (ds_fldOD A.fl_Edge_step rfl (de_fldD A.fl_Grid_step (dv 4)))
 (dss_cons (ds_fldOD A.fl_Edge_start rfl (dv 2))
 (dss_cons (ds_fldOD A.fl_Edge_rest rfl (de_fldD A.fl_Grid_rest (dv 4)))
 (dss_one (ds_fldOD A.fl_Edge_tie rfl (de_if (dt_val (de_methU A.ok_Table_has A.ok_Half_has hr (by decide) (by decide) hgd (takes_of rfl rfl rfl rfl) (dv 1) (da_cons (de_tup (da_cons (de_ownFld A.fl_Edge_run rfl) (da_cons (de_ownFld A.fl_Edge_rise rfl) da_nil))) da_nil))) de_int de_int)))))))
theorem Hd.ok_Edge_init (A : Hd K mg) : MakeD P w K mg base 4 "Edge" ["self", "rule", "a", "b", "grid"] sp_Edge_init := by
  obtain ⟨fd, F⟩ := A.c.def_ 37
  refine ⟨_, _, fd, A.g_Edge, He.mkr_ok (A.c.fact 79), F.bindsN fun _ _ _ _ _ _ us hl => match us, hl with | [_, _, _, _, _], _ => rfl, def_okI F sc_Edge_init (fun ds μ Q Xd h => by rw [h.1]; rfl) (fun cdv A2 fr s H E hr hgd => d_Edge_init A hr hgd) fun ds μ Q Xd a h => h.2 a⟩
/-! Edge_at_row -/
abbrev N_Edge_at_row : List Str := ["self", "y"]
theorem sc_Edge_at_row : FnScope N_Edge_at_row ["self", "y"] (defScope (inClass (top 34) 1)) := ⟨rfl, rfl, rfl, by decide +kernel, rfl, by decide +kernel, by decide +kernel⟩
def w_Edge_at_row : WS := (sRet (w2 fSub (w2 fSub (w2 fTimes (w1 (fFld "Edge" "run") (wVar 0)) (w2 fSub (wVar 1) (w2 fIx (w1 (fFld "Edge" "start") (wVar 0)) (wC (.int (1)))))) (w2 fTimes (w1 (fFld "Edge" "rise") (wVar 0)) (w2 fSub (w2 fIx (w1 (fFld "Edge" "rest") (wVar 0)) (wC (.int (0)))) (w2 fIx (w1 (fFld "Edge" "start") (wVar 0)) (wC (.int (0))))))) (w1 (fFld "Edge" "tie") (wVar 0))))
def sp_Edge_at_row : DSp := fun ds μ Q Xd => ds.length = 2 ∧ w_Edge_at_row (defE Q Xd) (startD N_Edge_at_row ds) μ
theorem d_Edge_at_row (A : Hd K mg) {cdv : Value} {A2 : Around} {fr : List Env} {s : Shared} {H : Hp} {E : XK} {f : Addr} (hr : Room 0 (A2.deeper (envOfC "Edge.at_row" (defScope (inClass (top 34) 1)) s.heap.objs.size f cdv))) (hgd : (A2.deeper (envOfC "Edge.at_row" (defScope (inClass (top 34) 1)) s.heap.objs.size f cdv)).guards = some []) :
    DSs none (fun cls d _ H2 => E cls d H2) (cxOf (L2.CX P w) P w K mg base N_Edge_at_row "Edge.at_row" (defScope (inClass (top 34) 1)) f cdv A2 fr s H E) (defBody (inClass (top 34) 1)) w_Edge_at_row := by
  have hN := (sc_Edge_at_row).nd
  exact (dss_one (ds_ret (de_sub (de_sub (de_times (de_fldD A.fl_Edge_run (dv 0)) (de_sub (dv 1) (de_item (de_fldD A.fl_Edge_start (dv 0)) de_int))) (de_times (de_fldD A.fl_Edge_rise (dv 0)) (de_sub (de_item (de_fldD A.fl_Edge_rest (dv 0)) de_int) (de_item (de_fldD A.fl_Edge_start (dv 0)) de_int)))) (de_fldD A.fl_Edge_tie (dv 0)))))
theorem Hd.ok_Edge_at_row (A : Hd K mg) : MethD P w K mg base 1 "Edge" "at_row" ["self", "y"] sp_Edge_at_row := by
  obtain ⟨fd, F⟩ := A.c.def_ 38
  exact ⟨_, _, fd, A.g_Edge, He.cls_ok (A.c.fact 57), He.meth_ok (A.c.fact 87), F.bindsN fun _ _ _ _ _ _ us hl => match us, hl with | [_, _], _ => rfl, def_ok F sc_Edge_at_row (fun ds μ Q Xd h => h.1) (fun cdv A2 fr s H E hr hgd => d_Edge_at_row A hr hgd) fun ds μ Q Xd h => h.2⟩
/-! Edge_floor_at -/
abbrev N_Edge_floor_at : List Str := ["self", "y"]
theorem sc_Edge_floor_at : FnScope N_Edge_floor_at ["self", "y"] (defScope (inClass (top 34) 2)) := ⟨rfl, rfl, rfl, by decide +kernel, rfl, by decide +kernel, by decide +kernel⟩
def w_Edge_floor_at : WS := (sRet (w2 fDiv (wMeth "Edge" "at_row" sp_Edge_at_row (wVar 0) (wCons (wVar 1) wNil)) (wN fAbs (wCons (w2 fTimes (w1 (fFld "Edge" "rise") (wVar 0)) (w1 (fFld "Edge" "step") (wVar 0))) wNil))))
def sp_Edge_floor_at : DSp := fun ds μ Q Xd => ds.length = 2 ∧ w_Edge_floor_at (defE Q Xd) (startD N_Edge_floor_at ds) μ
theorem d_Edge_floor_at (A : Hd K mg) {cdv : Value} {A2 : Around} {fr : List Env} {s : Shared} {H : Hp} {E : XK} {f : Addr} (hr : Room 1 (A2.deeper (envOfC "Edge.floor_at" (defScope (inClass (top 34) 2)) s.heap.objs.size f cdv))) (hgd : (A2.deeper (envOfC "Edge.floor_at" (defScope (inClass (top 34) 2)) s.heap.objs.size f cdv)).guards = some []) :
    DSs none (fun cls d _ H2 => E cls d H2) (cxOf (L2.CX P w) P w K mg base N_Edge_floor_at "Edge.floor_at" (defScope (inClass (top 34) 2)) f cdv A2 fr s H E) (defBody (inClass (top 34) 2)) w_Edge_floor_at := by
  have hN := (sc_Edge_floor_at).nd
  exact (dss_one (ds_ret (de_div (de_methD A.ok_Edge_at_row hr (by decide) hgd (takes_of rfl rfl rfl rfl) (dv 0) (da_cons (dv 1) da_nil)) (de_callB call_abs sn_abs rfl A.f_abs bt_abs (da_cons (de_times (de_fldD A.fl_Edge_rise (dv 0)) (de_fldD A.fl_Edge_step (dv 0))) da_nil)))))
theorem Hd.ok_Edge_floor_at (A : Hd K mg) : MethD P w K mg base 2 "Edge" "floor_at" ["self", "y"] sp_Edge_floor_at := by
  obtain ⟨fd, F⟩ := A.c.def_ 39
  exact ⟨_, _, fd, A.g_Edge, He.cls_ok (A.c.fact 57), He.meth_ok (A.c.fact 88), F.bindsN fun _ _ _ _ _ _ us hl => match us, hl with | [_, _], _ => rfl, def_ok F sc_Edge_floor_at (fun ds μ Q Xd h => h.1) (fun cdv A2 fr s H E hr hgd => d_Edge_floor_at A hr hgd) fun ds μ Q Xd h => h.2⟩
/-! amount_on_row -/
abbrev N_amount_on_row : List Str := ["edges", "y", "firsts", "lasts", "edge", "many", "last", "first"]
theorem sc_amount_on_row : FnScope N_amount_on_row ["edges", "y"] (defScope (top 35)) := ⟨rfl, rfl, rfl, by decide +kernel, rfl, by decide +kernel, by decide +kernel⟩
def w_amount_on_row : WS := (sSeq (sSetO 2 wNil)
 (sSeq (sSetO 3 wNil)
 (sSeq (sFor (wiL (wVar 0)) (kName 4)
  (sSeq (sIf (wAnd (wB (w2 fEqU (w1 (fFld "Edge" "rise") (wVar 4)) (wC (.int (0))))) (wB (w2 fLt (wMeth "Edge" "at_row" sp_Edge_at_row (wVar 4) (wCons (wVar 1) wNil)) (wC (.int (0))))))
  (sRet (wC (.int (0))))
  sNext)
 (sSeq (sIf (wB (w2 fLt (w1 (fFld "Edge" "rise") (wVar 4)) (wC (.int (0)))))
  (sAppO 2 (wCons (w1 fNeg (wMeth "Edge" "floor_at" sp_Edge_floor_at (wVar 4) (wCons (wVar 1) wNil))) wNil))
  sNext)
 (sIf (wB (w2 fGt (w1 (fFld "Edge" "rise") (wVar 4)) (wC (.int (0)))))
  (sAppO 3 (wCons (wMeth "Edge" "floor_at" sp_Edge_floor_at (wVar 4) (wCons (wVar 1) wNil)) wNil))
  sNext))))
 (sSeq (sSet 5 (w2 fPlus (w2 fSub (wN fMinL (wCons (wLc (wiOwn 3) (kNameC 6) wYes (wN fInt1 (wCons (wVar 6) wNil)) [6]) wNil)) (wN fMaxL (wCons (wLc (wiOwn 2) (kNameC 7) wYes (wN fInt1 (wCons (wVar 7) wNil)) [7]) wNil))) (wC (.int (1)))))
 (sRet (wIf (wB (w2 fGt (wVar 5) (wC (.int (0))))) (wVar 5) (wC (.int (0)))))))))
def sp_amount_on_row : DSp := fun ds μ Q Xd => ds.length = 2 ∧ w_amount_on_row (defE Q Xd) (startD N_amount_on_row ds) μ
theorem d_amount_on_row (A : Hd K mg) {cdv : Value} {A2 : Around} {fr : List Env} {s : Shared} {H : Hp} {E : XK} {f : Addr} (hr : Room 2 (A2.deeper (envOfC "amount_on_row" (defScope (top 35)) s.heap.objs.size f cdv))) (hgd : (A2.deeper (envOfC "amount_on_row" (defScope (top 35)) s.heap.objs.size f cdv)).guards = some []) :
    DSs none (fun cls d _ H2 => E cls d H2) (cxOf (L2.CX P w) P w K mg base N_amount_on_row "amount_on_row" (defScope (top 35)) f cdv A2 fr s H E) (defBody (top 35)) w_amount_on_row := by
  have hN := (sc_amount_on_row).nd
  exact (dss_cons (ds_setO (i := 2) hN rfl da_nil)
 (dss_cons (ds_setO (i := 3) hN rfl da_nil)
 (dss_cons (ds_for (passes_of rfl) rfl (di_list (dv 0)) (dg_name hN rfl) (dss_cons (ds_if (dt_w (dw_and (dt_cmp (op_eqU (have z := room64 hr; z)) s2_eqU (de_fldD A.fl_Edge_rise (dv 4)) de_int (nomark _)) (dw_and1 (dt_cmp op_lt s2_IB (de_methD A.ok_Edge_at_row hr (by decide) hgd (takes_of rfl rfl rfl rfl) (dv 4) (da_cons (dv 1) da_nil)) de_int (nomark _))))) (dss_one (ds_ret de_int)) dss_nil)
 (dss_cons (ds_if (dt_cmp op_lt s2_IB (de_fldD A.fl_Edge_rise (dv 4)) de_int (nomark _)) (dss_one (ds_appO (i := 2) rfl (da_cons (de_neg (de_methD A.ok_Edge_floor_at hr (by decide) hgd (takes_of rfl rfl rfl rfl) (dv 4) (da_cons (dv 1) da_nil))) da_nil))) dss_nil)
 (dss_one (ds_if (dt_cmp op_gt s2_IB (de_fldD A.fl_Edge_rise (dv 4)) de_int (nomark _)) (dss_one (ds_appO (i := 3) rfl (da_cons (de_methD A.ok_Edge_floor_at hr (by decide) hgd (takes_of rfl rfl rfl rfl) (dv 4) (da_cons (dv 1) da_nil)) da_nil))) dss_nil)))))
 (dss_cons (ds_set (i := 5) hN rfl (de_plus (de_sub (de_callB (cr_min rfl) sn_minL rfl A.f_min bt_min (da_cons (de_lcF rfl hN (di_own rfl) (blkOk_by (own := [("last", 6)]) (by show blkC N_amount_on_row (defScope (top 35)) _ _ = true; decide +kernel)) (lcg_name (by decide)) (fun _ _ _ _ _ => (pg_name hN rfl (by first | exact Or.inl rfl | exact Or.inr rfl) (by first | exact .inl rfl | exact .inr rfl))) (fun _ _ _ _ _ => dts_nil) (fun _ _ _ _ _ => (de_callTy call_int1 sn_int1 rfl A.f_int bt_int (da_cons (dv 6) da_nil)))) da_nil)) (de_callB (cr_max rfl) sn_maxL rfl A.f_max bt_max (da_cons (de_lcF rfl hN (di_own rfl) (blkOk_by (own := [("first", 7)]) (by show blkC N_amount_on_row (defScope (top 35)) _ _ = true; decide +kernel)) (lcg_name (by decide)) (fun _ _ _ _ _ => (pg_name hN rfl (by first | exact Or.inl rfl | exact Or.inr rfl) (by first | exact .inl rfl | exact .inr rfl))) (fun _ _ _ _ _ => dts_nil) (fun _ _ _ _ _ => (de_callTy call_int1 sn_int1 rfl A.f_int bt_int (da_cons (dv 7) da_nil)))) da_nil))) de_int))
 (dss_one (ds_ret (de_if (dt_cmp op_gt s2_IB (dv 5) de_int (nomark _)) (dv 5) de_int)))))))
theorem Hd.ok_amount_on_row (A : Hd K mg) : CallD P w K mg base 3 "amount_on_row" ["edges", "y"] sp_amount_on_row := by
  obtain ⟨fd, F⟩ := A.c.def_ 40
  exact ⟨_, fd, A.g_amount_on_row, F.kp, F.bindsN fun _ _ _ _ _ _ us hl => match us, hl with | [_, _], _ => rfl, def_ok F sc_amount_on_row (fun ds μ Q Xd h => h.1) (fun cdv A2 fr s H E hr hgd => d_amount_on_row A hr hgd) fun ds μ Q Xd h => h.2⟩
/-! check_any -/
abbrev N_check_any : List Str := ["thing"]
theorem sc_check_any : FnScope N_check_any ["thing"] (defScope (top 13)) := ⟨rfl, rfl, rfl, by decide +kernel, rfl, by decide +kernel, by decide +kernel⟩
def w_check_any : WS := (sIf (wNot (wB (wCall sp_is_integer (wCons (wVar 0) wNil))))
  (sRaise "InvalidNumber" ["number"] (wCons (wVar 0) wNil))
  sNext)
def sp_check_any : DSp := fun ds μ Q Xd => ds.length = 1 ∧ w_check_any (defE Q Xd) (startD N_check_any ds) μ
theorem d_check_any (A : Hd K mg) {cdv : Value} {A2 : Around} {fr : List Env} {s : Shared} {H : Hp} {E : XK} {f : Addr} (hr : Room 2 (A2.deeper (envOfC "check_any" (defScope (top 13)) s.heap.objs.size f cdv))) (hgd : (A2.deeper (envOfC "check_any" (defScope (top 13)) s.heap.objs.size f cdv)).guards = some []) :
    DSs none (fun cls d _ H2 => E cls d H2) (cxOf (L2.CX P w) P w K mg base N_check_any "check_any" (defScope (top 13)) f cdv A2 fr s H E) (defBody (top 13)) w_check_any := by
  have hN := (sc_check_any).nd
  exact (dss_one (ds_if (dt_not (dt_val (de_callD A.ok_is_integer hr (by decide) hgd rfl (takes_of rfl rfl rfl rfl) (da_cons (dv 0) da_nil)))) (dss_one (ds_raiseD A.rx_InvalidNumber rfl hr (by decide) rfl (takes_of rfl rfl rfl rfl) (da_cons (dv 0) da_nil))) dss_nil))
theorem Hd.ok_check_any (A : Hd K mg) : CallD P w K mg base 3 "check_any" ["thing"] sp_check_any := by
  obtain ⟨fd, F⟩ := A.c.def_ 41
  exact ⟨_, fd, A.g_check_any, F.kp, F.bindsN fun _ _ _ _ _ _ us hl => match us, hl with | [_], _ => rfl, def_ok F sc_check_any (fun ds μ Q Xd h => h.1) (fun cdv A2 fr s H E hr hgd => d_check_any A hr hgd) fun ds μ Q Xd h => h.2⟩
/-! greater_of -/
abbrev N_greater_of : List Str := ["one", "other"]
theorem sc_greater_of : FnScope N_greater_of ["one", "other"] (defScope (top 37)) := ⟨rfl, rfl, rfl, by decide +kernel, rfl, by decide +kernel, by decide +kernel⟩
def w_greater_of : WS := (sRet (wIf (wOr (wB (w2 fIsN (wVar 1) (wC .non))) (wB (w2 fLt (wVar 1) (wVar 0)))) (wVar 0) (wVar 1)))
def sp_greater_of : DSp := fun ds μ Q Xd => ds.length = 2 ∧ w_greater_of (defE Q Xd) (startD N_greater_of ds) μ
theorem d_greater_of (A : Hd K mg) {cdv : Value} {A2 : Around} {fr : List Env} {s : Shared} {H : Hp} {E : XK} {f : Addr} (hr : Room 0 (A2.deeper (envOfC "greater_of" (defScope (top 37)) s.heap.objs.size f cdv))) (hgd : (A2.deeper (envOfC "greater_of" (defScope (top 37)) s.heap.objs.size f cdv)).guards = some []) :
    DSs none (fun cls d _ H2 => E cls d H2) (cxOf (L2.CX P w) P w K mg base N_greater_of "greater_of" (defScope (top 37)) f cdv A2 fr s H E) (defBody (top 37)) w_greater_of := by
  have hN := (sc_greater_of).nd
  exact (dss_one (ds_ret (de_if (dt_w (dw_or (dt_cmp op_isN s2_isN (dv 1) de_non (nomark _)) (dw_or1 (dt_cmp op_lt s2_IB (dv 1) (dv 0) (nomark _))))) (dv 0) (dv 1))))
theorem Hd.ok_greater_of (A : Hd K mg) : CallD P w K mg base 1 "greater_of" ["one", "other"] sp_greater_of := by
  obtain ⟨fd, F⟩ := A.c.def_ 42
  exact ⟨_, fd, A.g_greater_of, F.kp, F.bindsN fun _ _ _ _ _ _ us hl => match us, hl with | [_, _], _ => rfl, def_ok F sc_greater_of (fun ds μ Q Xd h => h.1) (fun cdv A2 fr s H E hr hgd => d_greater_of A hr hgd) fun ds μ Q Xd h => h.2⟩
/-! less_of -/
abbrev N_less_of : List Str := ["one", "other"]
theorem sc_less_of : FnScope N_less_of ["one", "other"] (defScope (top 38)) := ⟨rfl, rfl, rfl, by decide +kernel, rfl, by decide +kernel, by decide +kernel⟩
def w_less_of : WS := (sRet (wIf (wOr (wB (w2 fIsN (wVar 1) (wC .non))) (wB (w2 fGt (wVar 1) (wVar 0)))) (wVar 0) (wVar 1)))
def sp_less_of : DSp := fun ds μ Q Xd => ds.length = 2 ∧ w_less_of (defE Q Xd) (startD N_less_of ds) μ
theorem d_less_of (A : Hd K mg) {cdv : Value} {A2 : Around} {fr : List Env} {s : Shared} {H : Hp} {E : XK} {f : Addr} (hr : Room 0 (A2.deeper (envOfC "less_of" (defScope (top 38)) s.heap.objs.size f cdv))) (hgd : (A2.deeper (envOfC "less_of" (defScope (top 38)) s.heap.objs.size f cdv)).guards = some []) :
    DSs none (fun cls d _ H2 => E cls d H2) (cxOf (L2.CX P w) P w K mg base N_less_of "less_of" (defScope (top 38)) f cdv A2 fr s H E) (defBody (top 38)) w_less_of := by
  have hN := (sc_less_of).nd
  exact (dss_one (ds_ret (de_if (dt_w (dw_or (dt_cmp op_isN s2_isN (dv 1) de_non (nomark _)) (dw_or1 (dt_cmp op_gt s2_IB (dv 1) (dv 0) (nomark _))))) (dv 0) (dv 1))))
theorem Hd.ok_less_of (A : Hd K mg) : CallD P w K mg base 1 "less_of" ["one", "other"] sp_less_of := by
  obtain ⟨fd, F⟩ := A.c.def_ 43
  exact ⟨_, fd, A.g_less_of, F.kp, F.bindsN fun _ _ _ _ _ _ us hl => match us, hl with | [_, _], _ => rfl, def_ok F sc_less_of (fun ds μ Q Xd h => h.1) (fun cdv A2 fr s H E hr hgd => d_less_of A hr hgd) fun ds μ Q Xd h => h.2⟩
/-! Edge_spans_rows -/
abbrev N_Edge_spans_rows : List Str := ["self", "low", "high", "first", "last"]
theorem sc_Edge_spans_rows : FnScope N_Edge_spans_rows ["self", "low", "high"] (defScope (inClass (top 34) 4)) := ⟨rfl, rfl, rfl, by decide +kernel, rfl, by decide +kernel, by decide +kernel⟩
def w_Edge_spans_rows : WS := (sSeq (sPar2 3 4 (wCons (w2 fIx (w1 (fFld "Edge" "start") (wVar 0)) (wC (.int (1)))) (wCons (w2 fPlus (w2 fIx (w1 (fFld "Edge" "start") (wVar 0)) (wC (.int (1)))) (w1 (fFld "Edge" "rise") (wVar 0))) wNil)))
 (sSeq (sIf (wB (w2 fGt (wVar 3) (wVar 4)))
  (sPar2 3 4 (wCons (wVar 4) (wCons (wVar 3) wNil)))
  sNext)
 (sRet (wAndV (w2 fLe (wVar 3) (wVar 1)) (wAndV (w2 fLe (wVar 2) (wVar 4)) (w2 fLt (wVar 3) (wVar 4)))))))
def sp_Edge_spans_rows : DSp := fun ds μ Q Xd => ds.length = 3 ∧ w_Edge_spans_rows (defE Q Xd) (startD N_Edge_spans_rows ds) μ
theorem d_Edge_spans_rows (A : Hd K mg) {cdv : Value} {A2 : Around} {fr : List Env} {s : Shared} {H : Hp} {E : XK} {f : Addr} (hr : Room 0 (A2.deeper (envOfC "Edge.spans_rows" (defScope (inClass (top 34) 4)) s.heap.objs.size f cdv))) (hgd : (A2.deeper (envOfC "Edge.spans_rows" (defScope (inClass (top 34) 4)) s.heap.objs.size f cdv)).guards = some []) :
    DSs none (fun cls d _ H2 => E cls d H2) (cxOf (L2.CX P w) P w K mg base N_Edge_spans_rows "Edge.spans_rows" (defScope (inClass (top 34) 4)) f cdv A2 fr s H E) (defBody (inClass (top 34) 4)) w_Edge_spans_rows := by
  have hN := (sc_Edge_spans_rows).nd
  exact (dss_cons (ds_par2 (i := 3) (j := 4) rfl hN rfl rfl (by decide) (da_cons (de_item (de_fldD A.fl_Edge_start (dv 0)) de_int) (da_cons (de_plus (de_item (de_fldD A.fl_Edge_start (dv 0)) de_int) (de_fldD A.fl_Edge_rise (dv 0))) da_nil)))
 (dss_cons (ds_if (dt_cmp op_gt s2_IB (dv 3) (dv 4) (nomark _)) (dss_one (ds_par2 (i := 3) (j := 4) rfl hN rfl rfl (by decide) (da_cons (dv 4) (da_cons (dv 3) da_nil)))) dss_nil)
 (dss_one (ds_ret (de_and (de_cmp op_le s2_IB (dv 3) (dv 1) (nomark _)) (de_and (de_cmp op_le s2_IB (dv 2) (dv 4) (nomark _)) (de_one (de_cmp op_lt s2_IB (dv 3) (dv 4) (nomark _)))))))))
theorem Hd.ok_Edge_spans_rows (A : Hd K mg) : MethD P w K mg base 1 "Edge" "spans_rows" ["self", "low", "high"] sp_Edge_spans_rows := by
  obtain ⟨fd, F⟩ := A.c.def_ 44
  exact ⟨_, _, fd, A.g_Edge, He.cls_ok (A.c.fact 57), He.meth_ok (A.c.fact 89), F.bindsN fun _ _ _ _ _ _ us hl => match us, hl with | [_, _, _], _ => rfl, def_ok F sc_Edge_spans_rows (fun ds μ Q Xd h => h.1) (fun cdv A2 fr s H E hr hgd => d_Edge_spans_rows A hr hgd) fun ds μ Q Xd h => h.2⟩
/-! sum_of_floors -/
abbrev N_sum_of_floors : List Str := ["many", "top", "add", "bottom", "found", "sign", "most"]
theorem sc_sum_of_floors : FnScope N_sum_of_floors ["many", "top", "add", "bottom"] (defScope (top 33)) := ⟨rfl, rfl, rfl, by decide +kernel, rfl, by decide +kernel, by decide +kernel⟩
def w_sum_of_floors : WS := (sSeq (sSet 4 (wC (.int (0))))
 (sSeq (sSet 5 (wC (.int (1))))
 (sSeq (sWhile (wB (w2 fGt (wVar 0) (wC (.int (0)))))
  (sSeq (sAug 4 fAdd (w2 fTimes (wVar 5) (w2 fPlus (w2 fTimes (w2 fDiv (w2 fTimes (wVar 0) (w2 fSub (wVar 0) (wC (.int (1))))) (wC (.int (2)))) (w2 fDiv (wVar 1) (wVar 3))) (w2 fTimes (wVar 0) (w2 fDiv (wVar 2) (wVar 3))))))
 (sSeq (sAug 1 fMod (wVar 3))
 (sSeq (sAug 2 fMod (wVar 3))
 (sSeq (sSet 6 (w2 fDiv (w2 fPlus (w2 fTimes (wVar 1) (w2 fSub (wVar 0) (wC (.int (1))))) (wVar 2)) (wVar 3)))
 (sSeq (sIf (wB (w2 fEqU (wVar 6) (wC (.int (0)))))
  (sRet (wVar 4))
  sNext)
 (sSeq (sAug 4 fAdd (w2 fTimes (w2 fTimes (wVar 5) (wVar 6)) (wVar 0)))
 (sSeq (sSet 5 (w1 fNeg (wVar 5)))
 (sAsg (wTup (wCons (wVar 6) (wCons (wVar 3) (wCons (w2 fPlus (w2 fSub (w2 fSub (wVar 3) (wVar 2)) (wC (.int (1)))) (wVar 1)) (wCons (wVar 1) wNil))))) (kTup 4 (kCons (kName 0) (kCons (kName 1) (kCons (kName 2) (kCons (kName 3) kNil))))))))))))))
 (sRet (wVar 4)))))
def sp_sum_of_floors : DSp := fun ds μ Q Xd => ds.length = 4 ∧ w_sum_of_floors (defE Q Xd) (startD N_sum_of_floors ds) μ
theorem d_sum_of_floors (A : Hd K mg) {cdv : Value} {A2 : Around} {fr : List Env} {s : Shared} {H : Hp} {E : XK} {f : Addr} (hr : Room 0 (A2.deeper (envOfC "sum_of_floors" (defScope (top 33)) s.heap.objs.size f cdv))) (hgd : (A2.deeper (envOfC "sum_of_floors" (defScope (top 33)) s.heap.objs.size f cdv)).guards = some []) :
    DSs none (fun cls d _ H2 => E cls d H2) (cxOf (L2.CX P w) P w K mg base N_sum_of_floors "sum_of_floors" (defScope (top 33)) f cdv A2 fr s H E) (defBody (top 33)) w_sum_of_floors := by
  have hN := (sc_sum_of_floors).nd
  exact (dss_cons (ds_set (i := 4) hN rfl de_int)
 (dss_cons (ds_set (i := 5) hN rfl de_int)
 (dss_cons (ds_while (passes_of rfl) (dt_cmp op_gt s2_IB (dv 0) de_int (nomark _)) (dss_cons (ds_aug (i := 4) iop_add s2_II0 hN rfl (de_times (dv 5) (de_plus (de_times (de_div (de_times (dv 0) (de_sub (dv 0) de_int)) de_int) (de_div (dv 1) (dv 3))) (de_times (dv 0) (de_div (dv 2) (dv 3))))))
 (dss_cons (ds_aug (i := 1) iop_mod s2_II hN rfl (dv 3))
 (dss_cons (ds_aug (i := 2) iop_mod s2_II hN rfl (dv 3))
 (dss_cons (ds_set (i := 6) hN rfl (de_div (de_plus (de_times (dv 1) (de_sub (dv 0) de_int)) (dv 2)) (dv 3)))
 (dss_cons (ds_if (dt_cmp (op_eqU (have z := room64 hr; z)) s2_eqU (dv 6) de_int (nomark _)) (dss_one (ds_ret (dv 4))) dss_nil)
 (dss_cons (ds_aug (i := 4) iop_add s2_II0 hN rfl (de_times (de_times (dv 5) (dv 6)) (dv 0)))
 (dss_cons (ds_set (i := 5) hN rfl (de_neg (dv 5)))
 (dss_one (ds_asg (de_tup (da_cons (dv 6) (da_cons (dv 3) (da_cons (de_plus (de_sub (de_sub (dv 3) (dv 2)) de_int) (dv 1)) (da_cons (dv 1) da_nil))))) (dg_tup rfl (dgs_cons (dg_name hN rfl) (dgs_cons (dg_name hN rfl) (dgs_cons (dg_name hN rfl) (dgs_cons (dg_name hN rfl) dgs_nil)))))))))))))))
 (dss_one (ds_ret (dv 4))))))
theorem Hd.ok_sum_of_floors (A : Hd K mg) : CallD P w K mg base 1 "sum_of_floors" ["many", "top", "add", "bottom"] sp_sum_of_floors := by
  obtain ⟨fd, F⟩ := A.c.def_ 45
  exact ⟨_, fd, A.g_sum_of_floors, F.kp, F.bindsN fun _ _ _ _ _ _ us hl => match us, hl with | [_, _, _, _], _ => rfl, def_ok F sc_sum_of_floors (fun ds μ Q Xd h => h.1) (fun cdv A2 fr s H E hr hgd => d_sum_of_floors A hr hgd) fun ds μ Q Xd h => h.2⟩
/-! Edge_sum_of_rows -/
abbrev N_Edge_sum_of_rows : List Str := ["self", "y", "many"]
theorem sc_Edge_sum_of_rows : FnScope N_Edge_sum_of_rows ["self", "y", "many"] (defScope (inClass (top 34) 3)) := ⟨rfl, rfl, rfl, by decide +kernel, rfl, by decide +kernel, by decide +kernel⟩
def w_Edge_sum_of_rows : WS := (sRet (wCall sp_sum_of_floors (wCons (wVar 2) (wCons (w2 fTimes (w1 (fFld "Edge" "run") (wVar 0)) (w1 (fFld "Edge" "step") (wVar 0))) (wCons (wMeth "Edge" "at_row" sp_Edge_at_row (wVar 0) (wCons (wVar 1) wNil)) (wCons (wN fAbs (wCons (w2 fTimes (w1 (fFld "Edge" "rise") (wVar 0)) (w1 (fFld "Edge" "step") (wVar 0))) wNil)) wNil))))))
def sp_Edge_sum_of_rows : DSp := fun ds μ Q Xd => ds.length = 3 ∧ w_Edge_sum_of_rows (defE Q Xd) (startD N_Edge_sum_of_rows ds) μ
theorem d_Edge_sum_of_rows (A : Hd K mg) {cdv : Value} {A2 : Around} {fr : List Env} {s : Shared} {H : Hp} {E : XK} {f : Addr} (hr : Room 1 (A2.deeper (envOfC "Edge.sum_of_rows" (defScope (inClass (top 34) 3)) s.heap.objs.size f cdv))) (hgd : (A2.deeper (envOfC "Edge.sum_of_rows" (defScope (inClass (top 34) 3)) s.heap.objs.size f cdv)).guards = some []) :
    DSs none (fun cls d _ H2 => E cls d H2) (cxOf (L2.CX P w) P w K mg base N_Edge_sum_of_rows "Edge.sum_of_rows" (defScope (inClass (top 34) 3)) f cdv A2 fr s H E) (defBody (inClass (top 34) 3)) w_Edge_sum_of_rows := by
  have hN := (sc_Edge_sum_of_rows).nd
  exact (dss_one (ds_ret (de_callD A.ok_sum_of_floors hr (by decide) hgd rfl (takes_of rfl rfl rfl rfl) (da_cons (dv 2) (da_cons (de_times (de_fldD A.fl_Edge_run (dv 0)) (de_fldD A.fl_Edge_step (dv 0))) (da_cons (de_methD A.ok_Edge_at_row hr (by decide) hgd (takes_of rfl rfl rfl rfl) (dv 0) (da_cons (dv 1) da_nil)) (da_cons (de_callB call_abs sn_abs rfl A.f_abs bt_abs (da_cons (de_times (de_fldD A.fl_Edge_rise (dv 0)) (de_fldD A.fl_Edge_step (dv 0))) da_nil)) da_nil)))))))
theorem Hd.ok_Edge_sum_of_rows (A : Hd K mg) : MethD P w K mg base 2 "Edge" "sum_of_rows" ["self", "y", "many"] sp_Edge_sum_of_rows := by
  obtain ⟨fd, F⟩ := A.c.def_ 46
  exact ⟨_, _, fd, A.g_Edge, He.cls_ok (A.c.fact 57), He.meth_ok (A.c.fact 90), F.bindsN fun _ _ _ _ _ _ us hl => match us, hl with | [_, _, _], _ => rfl, def_ok F sc_Edge_sum_of_rows (fun ds μ Q Xd h => h.1) (fun cdv A2 fr s H E hr hgd => d_Edge_sum_of_rows A hr hgd) fun ds μ Q Xd h => h.2⟩
/-! first_from -/
abbrev N_first_from : List Str := ["number", "rest", "step"]
theorem sc_first_from : FnScope N_first_from ["number", "rest", "step"] (defScope (top 30)) := ⟨rfl, rfl, rfl, by decide +kernel, rfl, by decide +kernel, by decide +kernel⟩
def w_first_from : WS := (sRet (w2 fPlus (wVar 0) (w2 fMod (w2 fSub (wVar 1) (wVar 0)) (wVar 2))))
def sp_first_from : DSp := fun ds μ Q Xd => ds.length = 3 ∧ w_first_from (defE Q Xd) (startD N_first_from ds) μ
theorem d_first_from (A : Hd K mg) {cdv : Value} {A2 : Around} {fr : List Env} {s : Shared} {H : Hp} {E : XK} {f : Addr} (hr : Room 0 (A2.deeper (envOfC "first_from" (defScope (top 30)) s.heap.objs.size f cdv))) (hgd : (A2.deeper (envOfC "first_from" (defScope (top 30)) s.heap.objs.size f cdv)).guards = some []) :
    DSs none (fun cls d _ H2 => E cls d H2) (cxOf (L2.CX P w) P w K mg base N_first_from "first_from" (defScope (top 30)) f cdv A2 fr s H E) (defBody (top 30)) w_first_from := by
  have hN := (sc_first_from).nd
  exact (dss_one (ds_ret (de_plus (dv 0) (de_mod (de_sub (dv 1) (dv 0)) (dv 2)))))
theorem Hd.ok_first_from (A : Hd K mg) : CallD P w K mg base 1 "first_from" ["number", "rest", "step"] sp_first_from := by
  obtain ⟨fd, F⟩ := A.c.def_ 47
  exact ⟨_, fd, A.g_first_from, F.kp, F.bindsN fun _ _ _ _ _ _ us hl => match us, hl with | [_, _, _], _ => rfl, def_ok F sc_first_from (fun ds μ Q Xd h => h.1) (fun cdv A2 fr s H E hr hgd => d_first_from A hr hgd) fun ds μ Q Xd h => h.2⟩
/-! rows_from -/
abbrev N_rows_from : List Str := ["edges", "grid", "first", "last", "low", "high", "y", "many", "found", "edge"]
theorem sc_rows_from : FnScope N_rows_from ["edges", "grid", "first", "last", "low", "high"] (defScope (top 36)) := ⟨rfl, rfl, rfl, by decide +kernel, rfl, by decide +kernel, by decide +kernel⟩
def w_rows_from : WS := (sSeq (sSet 6 (wCall sp_first_from (wCons (wVar 2) (wCons (w2 fIx (w1 (fFld "Grid" "rest") (wVar 1)) (wC (.int (1)))) (wCons (w1 (fFld "Grid" "step") (wVar 1)) wNil)))))
 (sSeq (sIf (wB (w2 fGt (wVar 6) (wVar 3)))
  (sRet (wC (.int (0))))
  sNext)
 (sSeq (sSet 7 (w2 fPlus (w2 fDiv (w2 fSub (wVar 3) (wVar 6)) (w1 (fFld "Grid" "step") (wVar 1))) (wC (.int (1)))))
 (sSeq (sSet 8 (wVar 7))
 (sSeq (sFor (wiL (wVar 0)) (kName 9)
  (sIf (wB (wMeth "Edge" "spans_rows" sp_Edge_spans_rows (wVar 9) (wCons (wVar 4) (wCons (wVar 5) wNil))))
  (sAug 8 fAdd (wMeth "Edge" "sum_of_rows" sp_Edge_sum_of_rows (wVar 9) (wCons (wVar 6) (wCons (wVar 7) wNil))))
  sNext))
 (sRet (wVar 8)))))))
def sp_rows_from : DSp := fun ds μ Q Xd => ds.length = 6 ∧ w_rows_from (defE Q Xd) (startD N_rows_from ds) μ
theorem d_rows_from (A : Hd K mg) {cdv : Value} {A2 : Around} {fr : List Env} {s : Shared} {H : Hp} {E : XK} {f : Addr} (hr : Room 2 (A2.deeper (envOfC "rows_from" (defScope (top 36)) s.heap.objs.size f cdv))) (hgd : (A2.deeper (envOfC "rows_from" (defScope (top 36)) s.heap.objs.size f cdv)).guards = some []) :
    DSs none (fun cls d _ H2 => E cls d H2) (cxOf (L2.CX P w) P w K mg base N_rows_from "rows_from" (defScope (top 36)) f cdv A2 fr s H E) (defBody (top 36)) w_rows_from := by
  have hN := (sc_rows_from).nd
  exact (dss_cons (ds_set (i := 6) hN rfl (de_callD A.ok_first_from hr (by decide) hgd rfl (takes_of rfl rfl rfl rfl) (da_cons (dv 2) (da_cons (de_item (de_fldD A.fl_Grid_rest (dv 1)) de_int) (da_cons (de_fldD A.fl_Grid_step (dv 1)) da_nil)))))
 (dss_cons (ds_if (dt_cmp op_gt s2_IB (dv 6) (dv 3) (nomark _)) (dss_one (ds_ret de_int)) dss_nil)
 (dss_cons (ds_set (i := 7) hN rfl (de_plus (de_div (de_sub (dv 3) (dv 6)) (de_fldD A.fl_Grid_step (dv 1))) de_int))
 (dss_cons (ds_set (i := 8) hN rfl (dv 7))
 (dss_cons (ds_for (passes_of rfl) rfl (di_list (dv 0)) (dg_name hN rfl) (dss_one (ds_if (dt_val (de_methD A.ok_Edge_spans_rows hr (by decide) hgd (takes_of rfl rfl rfl rfl) (dv 9) (da_cons (dv 4) (da_cons (dv 5) da_nil)))) (dss_one (ds_aug (i := 8) iop_add s2_II0 hN rfl (de_methD A.ok_Edge_sum_of_rows hr (by decide) hgd (takes_of rfl rfl rfl rfl) (dv 9) (da_cons (dv 6) (da_cons (dv 7) da_nil))))) dss_nil)))
 (dss_one (ds_ret (dv 8))))))))
theorem Hd.ok_rows_from (A : Hd K mg) : CallD P w K mg base 3 "rows_from" ["edges", "grid", "first", "last", "low", "high"] sp_rows_from := by
  obtain ⟨fd, F⟩ := A.c.def_ 48
  exact ⟨_, fd, A.g_rows_from, F.kp, F.bindsN fun _ _ _ _ _ _ us hl => match us, hl with | [_, _, _, _, _, _], _ => rfl, def_ok F sc_rows_from (fun ds μ Q Xd h => h.1) (fun cdv A2 fr s H E hr hgd => d_rows_from A hr hgd) fun ds μ Q Xd h => h.2⟩
/-! amount -/
abbrev N_amount : List Str := ["rule", "triangle", "grid", "low", "high", "bound", "edges", "heights", "found", "at", "y", "bottom", "top", "a", "b", "pair"]
theorem sc_amount : FnScope N_amount ["rule", "triangle", "grid", "low", "high"] (defScope (top 39)) := ⟨rfl, rfl, rfl, by decide +kernel, rfl, by decide +kernel, by decide +kernel⟩
def w_amount : WS := (sSeq (sFor (wiT (wTup (wCons (wVar 3) (wCons (wVar 4) wNil)))) (kName 5)
  (sIf (wB (w2 fNotN (wVar 5) (wC .non)))
  (sDrop (wCall sp_check_any (wCons (wVar 5) wNil)))
  sNext))
 (sSeq (sSet 6 (wLc (wiL (wCall sp_ways_of (wCons (w1 (fFld "Triangle" "pairs") (wVar 1)) wNil))) (kTup 2 (kCons (kNameC 13) (kCons (kNameC 14) kNil))) wYes (wMake "Edge" sp_Edge_init (wCons (wVar 0) (wCons (wVar 13) (wCons (wVar 14) (wCons (wVar 2) wNil))))) [13, 14]))
 (sSeq (sSet 7 (wN fSortW (wCons (wLc (wiL (w1 (fFld "Triangle" "pairs") (wVar 1))) (kNameC 15) wYes (wN fInt1 (wCons (w2 fIx (wVar 15) (wC (.int (1)))) wNil)) [15]) wNil)))
 (sSeq (sSet 8 (wC (.int (0))))
 (sSeq (sFor (wiEnumX (wCons (wVar 7) wNil)) (kTup 2 (kCons (kName 9) (kCons (kName 10) kNil)))
  (sSeq (sIf (wOr (wB (w2 fInD (wVar 10) (wSl (wVar 7) oNone (oSome (wVar 9))))) (wB (w2 fNeU (w2 fMod (wVar 10) (w1 (fFld "Grid" "step") (wVar 2))) (w2 fIx (w1 (fFld "Grid" "rest") (wVar 2)) (wC (.int (1)))))))
  sCont
  sNext)
 (sIf (wAnd (wB (w2 fEqU (wVar 10) (wCall sp_greater_of (wCons (wVar 10) (wCons (wVar 3) wNil))))) (wB (w2 fEqU (wVar 10) (wCall sp_less_of (wCons (wVar 10) (wCons (wVar 4) wNil))))))
  (sAug 8 fAdd (wCall sp_amount_on_row (wCons (wVar 6) (wCons (wVar 10) wNil))))
  sNext)))
 (sSeq (sFor (wiT (wTup (wCons (wC (.int (0))) (wCons (wC (.int (1))) wNil)))) (kName 9)
  (sSeq (sPar2 11 12 (wCons (w2 fIx (wVar 7) (wVar 9)) (wCons (w2 fIx (wVar 7) (w2 fPlus (wVar 9) (wC (.int (1))))) wNil)))
 (sIf (wB (w2 fLt (wVar 11) (wVar 12)))
  (sAug 8 fAdd (wCall sp_rows_from (wCons (wVar 6) (wCons (wVar 2) (wCons (wCall sp_greater_of (wCons (w2 fPlus (wVar 11) (wC (.int (1)))) (wCons (wVar 3) wNil))) (wCons (wCall sp_less_of (wCons (w2 fSub (wVar 12) (wC (.int (1)))) (wCons (wVar 4) wNil))) (wCons (wVar 11) (wCons (wVar 12) wNil))))))))
  sNext)))
 (sRet (wVar 8))))))))
def sp_amount : DSp := fun ds μ Q Xd => ds.length = 5 ∧ w_amount (defE Q Xd) (startD N_amount ds) μ
theorem d_amount (A : Hd K mg) {cdv : Value} {A2 : Around} {fr : List Env} {s : Shared} {H : Hp} {E : XK} {f : Addr} (hr : Room 5 (A2.deeper (envOfC "amount" (defScope (top 39)) s.heap.objs.size f cdv))) (hgd : (A2.deeper (envOfC "amount" (defScope (top 39)) s.heap.objs.size f cdv)).guards = some []) :
    DSs none (fun cls d _ H2 => E cls d H2) (cxOf (L2.CX P w) P w K mg base N_amount "amount" (defScope (top 39)) f cdv A2 fr s H E) (defBody (top 39)) w_amount := by
  have hN := (sc_amount).nd
  exact (dss_cons (ds_for (passes_of rfl) rfl (di_tup (de_tup (da_cons (dv 3) (da_cons (dv 4) da_nil)))) (dg_name hN rfl) (dss_one (ds_if (dt_cmp op_notN s2_notN (dv 5) de_non (nomark _)) (dss_one (ds_expr (de_callD A.ok_check_any hr (by decide) hgd rfl (takes_of rfl rfl rfl rfl) (da_cons (dv 5) da_nil)))) dss_nil)))
 (dss_cons (ds_setLc (i := 6) rfl hN rfl rfl (di_list (de_callD A.ok_ways_of hr (by decide) hgd (by rfl) (takes_of (by rfl) (by rfl) (by rfl) (by rfl)) (da_cons (de_fldD A.fl_Triangle_pairs (dv 1)) da_nil))) (blkOk_by (own := [("a", 13), ("b", 14)]) (by show blkC N_amount (defScope (top 39)) _ _ = true; decide +kernel)) (lcg_tup (lcgs_cons (lcg_name (by decide)) (lcgs_cons (lcg_name (by decide)) lcgs_nil))) (fun _ _ _ _ _ => (pg_tup rfl (pgs_cons (pg_name hN rfl (by first | exact Or.inl rfl | exact Or.inr rfl) (by first | exact .inl rfl | exact .inr rfl)) (pgs_cons (pg_name hN rfl (by first | exact Or.inl rfl | exact Or.inr rfl) (by first | exact .inl rfl | exact .inr rfl)) pgs_nil)))) (fun _ _ _ _ _ => dts_nil) (fun _ _ _ _ _ => (de_makeD A.ok_Edge_init hr (by decide) hgd rfl takes0 (da_cons (dv 0) (da_cons (dv 13) (da_cons (dv 14) (da_cons (dv 2) da_nil)))))))
 (dss_cons (ds_set (i := 7) hN rfl (de_callB cr_sortedI sn_sortW rfl A.f_sorted bt_sorted (da_cons (de_lc rfl hN (di_list (de_fldD A.fl_Triangle_pairs (dv 1))) (blkOk_by (own := [("pair", 15)]) (by show blkC N_amount (defScope (top 39)) _ _ = true; decide +kernel)) (lcg_name (by decide)) (fun _ _ _ _ _ => (pg_name hN rfl (by first | exact Or.inl rfl | exact Or.inr rfl) (by first | exact .inl rfl | exact .inr rfl))) (fun _ _ _ _ _ => dts_nil) (fun _ _ _ _ _ => (de_callTy call_int1 sn_int1 rfl A.f_int bt_int (da_cons (de_item (dv 15) de_int) da_nil)))) da_nil)))
 (dss_cons (ds_set (i := 8) hN rfl de_int)
 (dss_cons (ds_for (passes_of rfl) rfl (di_enumX (by rfl) A.f_enumerate (da_cons (dv 7) da_nil)) (dg_tup rfl (dgs_cons (dg_name hN rfl) (dgs_cons (dg_name hN rfl) dgs_nil))) (dss_cons (ds_if (dt_w (dw_or (dt_cmp (op_inD (have z := room65 hr; z)) s2_inD (dv 10) (de_slice (dv 7) do_none (do_some (dv 9))) (by with_unfolding_all rfl)) (dw_or1 (dt_cmp (op_neU (have z := room64 hr; z)) s2_neU (de_mod (dv 10) (de_fldD A.fl_Grid_step (dv 2))) (de_item (de_fldD A.fl_Grid_rest (dv 2)) de_int) (nomark _))))) (dss_one ds_continue) dss_nil)
 (dss_one (ds_if (dt_w (dw_and (dt_cmp (op_eqU (have z := room64 hr; z)) s2_eqU (dv 10) (de_callD A.ok_greater_of hr (by decide) hgd rfl (takes_of rfl rfl rfl rfl) (da_cons (dv 10) (da_cons (dv 3) da_nil))) (nomark _)) (dw_and1 (dt_cmp (op_eqU (have z := room64 hr; z)) s2_eqU (dv 10) (de_callD A.ok_less_of hr (by decide) hgd rfl (takes_of rfl rfl rfl rfl) (da_cons (dv 10) (da_cons (dv 4) da_nil))) (nomark _))))) (dss_one (ds_aug (i := 8) iop_add s2_II0 hN rfl (de_callD A.ok_amount_on_row hr (by decide) hgd rfl (takes_of rfl rfl rfl rfl) (da_cons (dv 6) (da_cons (dv 10) da_nil))))) dss_nil))))
 (dss_cons (ds_for (passes_of rfl) rfl (di_tup (de_tup (da_cons de_int (da_cons de_int da_nil)))) (dg_name hN rfl) (dss_cons (ds_par2 (i := 11) (j := 12) rfl hN rfl rfl (by decide) (da_cons (de_item (dv 7) (dv 9)) (da_cons (de_item (dv 7) (de_plus (dv 9) de_int)) da_nil)))
 (dss_one (ds_if (dt_cmp op_lt s2_IB (dv 11) (dv 12) (nomark _)) (dss_one (ds_aug (i := 8) iop_add s2_II0 hN rfl (de_callD A.ok_rows_from hr (by decide) hgd rfl (takes_of rfl rfl rfl rfl) (da_cons (dv 6) (da_cons (dv 2) (da_cons (de_callD A.ok_greater_of hr (by decide) hgd rfl (takes_of rfl rfl rfl rfl) (da_cons (de_plus (dv 11) de_int) (da_cons (dv 3) da_nil))) (da_cons (de_callD A.ok_less_of hr (by decide) hgd rfl (takes_of rfl rfl rfl rfl) (da_cons (de_sub (dv 12) de_int) (da_cons (dv 4) da_nil))) (da_cons (dv 11) (da_cons (dv 12) da_nil))))))))) dss_nil))))
 (dss_one (ds_ret (dv 8)))))))))
theorem Hd.kw_amount_0 (A : Hd K mg) : KwC P w K mg base 6 "amount" ["rule", "triangle", "grid", "low", "high"] 3 [] (fun ds zs => ds ++ [D.non, D.non]) sp_amount := by
  obtain ⟨fd, F⟩ := A.c.def_ 49
  obtain ⟨mv, B⟩ := F.kbinds0 (ps := ["rule", "triangle", "grid", "low", "high"]) 3 [] [("low", V.non), ("high", V.non)] (fun us mv ws => us ++ mv) (List.cons_ne_nil _ _) (fun q hq => hq) (fun r1 rm rz => r1.append rm) (fun Dd doc pm an cdv ct us mv ws h1 h2 h3 => match us, h1, mv, h2, ws, h3 with | [_, _, _], _, [_, _], _, [], _ => ⟨_, _, _, _, _, _, rfl, rfl, ⟨_, _, _, _, _, _, rfl, rfl, (show _ = pure _ from rfl)⟩⟩)
  exact ⟨_, fd, _, _, A.g_amount, F.kp, B, fun r1 r2 => r1.append (Reps.cons (by rw [Rep]) (Reps.cons (by rw [Rep]) Reps.nil)), def_ok F sc_amount (fun ds μ Q Xd h => h.1) (fun cdv A2 fr s H E hr hgd => d_amount A hr hgd) fun ds μ Q Xd h => h.2⟩
/-! twin_of -/
abbrev N_twin_of : List Str := ["triangle", "a", "b", "c"]
theorem sc_twin_of : FnScope N_twin_of ["triangle"] (defScope (top 40)) := ⟨rfl, rfl, rfl, by decide +kernel, rfl, by decide +kernel, by decide +kernel⟩
def w_twin_of : WS := (sSeq (sAsg (w1 (fFld "Triangle" "pairs") (wVar 0)) (kUnl 3 (kCons (kName 1) (kCons (kName 2) (kCons (kName 3) kNil)))))
 (sRet (wMake "Triangle" sp_Triangle_init (wCons (wVar 2) (wCons (wVar 3) (wCons (wTup (wCons (w2 fSub (w2 fPlus (w2 fIx (wVar 2) (wC (.int (0)))) (w2 fIx (wVar 3) (wC (.int (0))))) (w2 fIx (wVar 1) (wC (.int (0))))) (wCons (w2 fSub (w2 fPlus (w2 fIx (wVar 2) (wC (.int (1)))) (w2 fIx (wVar 3) (wC (.int (1))))) (w2 fIx (wVar 1) (wC (.int (1))))) wNil))) wNil))))))
def sp_twin_of : DSp := fun ds μ Q Xd => ds.length = 1 ∧ w_twin_of (defE Q Xd) (startD N_twin_of ds) μ
theorem d_twin_of (A : Hd K mg) {cdv : Value} {A2 : Around} {fr : List Env} {s : Shared} {H : Hp} {E : XK} {f : Addr} (hr : Room 7 (A2.deeper (envOfC "twin_of" (defScope (top 40)) s.heap.objs.size f cdv))) (hgd : (A2.deeper (envOfC "twin_of" (defScope (top 40)) s.heap.objs.size f cdv)).guards = some []) :
    DSs none (fun cls d _ H2 => E cls d H2) (cxOf (L2.CX P w) P w K mg base N_twin_of "twin_of" (defScope (top 40)) f cdv A2 fr s H E) (defBody (top 40)) w_twin_of := by
  have hN := (sc_twin_of).nd
  exact (dss_cons (ds_asg (de_fldD A.fl_Triangle_pairs (dv 0)) (dg_unl rfl (dgs_cons (dg_name hN rfl) (dgs_cons (dg_name hN rfl) (dgs_cons (dg_name hN rfl) dgs_nil)))))
 (dss_one (ds_ret (de_makeD A.ok_Triangle_init hr (by decide) hgd rfl (takes_of rfl rfl rfl rfl) (da_cons (dv 2) (da_cons (dv 3) (da_cons (de_tup (da_cons (de_sub (de_plus (de_item (dv 2) de_int) (de_item (dv 3) de_int)) (de_item (dv 1) de_int)) (da_cons (de_sub (de_plus (de_item (dv 2) de_int) (de_item (dv 3) de_int)) (de_item (dv 1) de_int)) da_nil))) da_nil)))))))
theorem Hd.ok_twin_of (A : Hd K mg) : CallD P w K mg base 8 "twin_of" ["triangle"] sp_twin_of := by
  obtain ⟨fd, F⟩ := A.c.def_ 50
  exact ⟨_, fd, A.g_twin_of, F.kp, F.bindsN fun _ _ _ _ _ _ us hl => match us, hl with | [_], _ => rfl, def_ok F sc_twin_of (fun ds μ Q Xd h => h.1) (fun cdv A2 fr s H E hr hgd => d_twin_of A hr hgd) fun ds μ Q Xd h => h.2⟩
/-! law -/
abbrev N_law : List Str := ["script", "k", "pool", "a", "b", "c", "rule", "triangle", "twin", "u", "v", "turn", "i", "j", "by", "p", "found", "one"]
theorem sc_law : FnScope N_law ["script"] (defScope (top 76)) := ⟨rfl, rfl, rfl, by decide +kernel, rfl, by decide +kernel, by decide +kernel⟩
def w_law : WS := (sSeq (sFor (wiR1 (wCons (wN fMax2 (wCons (wC (.int (1))) (wCons (wN fMin2 (wCons (wN fLen (wCons (wVar 0) wNil)) (wCons (wC (.int (4))) wNil))) wNil))) wNil)) (kName 1)
  (sSeq (sSet 2 (wCall sp__law_hand (wCons (wVar 0) (wCons (wVar 1) wNil))))
 (sSeq (sAsg (wCall sp__law_corners (wCons (wVar 2) (wCons (wC (.int (4))) wNil))) (kUnl 3 (kCons (kName 3) (kCons (kName 4) (kCons (kName 5) kNil)))))
 (sSeq (sSet 6 (wCall sp__law_made (wCons (wCall sp__law_right_rule (wCons (wVar 2) wNil)) wNil)))
 (sSeq (sSet 7 (wMake "Triangle" sp_Triangle_init (wCons (wVar 3) (wCons (wVar 4) (wCons (wVar 5) wNil)))))
 (sSeq (sSet 8 (wCall sp_twin_of (wCons (wVar 7) wNil)))
 (sSeq (sAsg (wTup (wCons (wTup (wCons (w2 fSub (w2 fIx (wVar 4) (wC (.int (0)))) (w2 fIx (wVar 3) (wC (.int (0))))) (wCons (w2 fSub (w2 fIx (wVar 4) (wC (.int (1)))) (w2 fIx (wVar 3) (wC (.int (1))))) wNil))) (wCons (wTup (wCons (w2 fSub (w2 fIx (wVar 5) (wC (.int (0)))) (w2 fIx (wVar 3) (wC (.int (0))))) (wCons (w2 fSub (w2 fIx (wVar 5) (wC (.int (1)))) (w2 fIx (wVar 3) (wC (.int (1))))) wNil))) wNil))) (kTup 2 (kCons (kName 9) (kCons (kName 10) kNil))))
 (sSeq (sIf (wOr (wB (w2 (fOwnN "Triangle" [] ["Triangle"] sp_Triangle_eq) (wVar 8) (wMake "Triangle" sp_Triangle_init (wCons (wVar 4) (wCons (wVar 5) (wCons (wTup (wCons (w2 fPlus (w2 fIx (wVar 4) (wC (.int (0)))) (w2 fIx (wVar 10) (wC (.int (0))))) (wCons (w2 fPlus (w2 fIx (wVar 4) (wC (.int (1)))) (w2 fIx (wVar 10) (wC (.int (1))))) wNil))) wNil)))))) (wB (w2 fNeU (wProp "Triangle" sp_Triangle_area2 (wVar 8)) (wProp "Triangle" sp_Triangle_area2 (wVar 7)))))
  (sRet (wC (.bl false)))
  sNext)
 (sSeq (sFor (wiR1 (wCons (wC (.int (8))) wNil)) (kName 11)
  (sSeq (sPar2 12 13 (wCons (w2 fSub (wCall sp__law_draw (wCons (wVar 2) (wCons (wC (.int (5))) wNil))) (wC (.int (2)))) (wCons (w2 fSub (wCall sp__law_draw (wCons (wVar 2) (wCons (wC (.int (5))) wNil))) (wC (.int (2)))) wNil)))
 (sSeq (sSet 14 (wCall sp__law_pair (wCons (wVar 2) (wCons (wC (.int (1))) wNil))))
 (sSeq (sSet 15 (wTup (wCons (w2 fPlus (w2 fPlus (w2 fPlus (w2 fIx (wVar 3) (wC (.int (0)))) (w2 fTimes (wVar 12) (w2 fIx (wVar 9) (wC (.int (0)))))) (w2 fTimes (wVar 13) (w2 fIx (wVar 10) (wC (.int (0)))))) (w2 fIx (wVar 14) (wC (.int (0))))) (wCons (w2 fPlus (w2 fPlus (w2 fPlus (w2 fIx (wVar 3) (wC (.int (1)))) (w2 fTimes (wVar 12) (w2 fIx (wVar 9) (wC (.int (1)))))) (w2 fTimes (wVar 13) (w2 fIx (wVar 10) (wC (.int (1)))))) (w2 fIx (wVar 14) (wC (.int (1))))) wNil))))
 (sIf (wB (wCall sp__law_near (wCons (wVar 9) (wCons (wVar 10) (wCons (wVar 15) (wCons (wVar 3) wNil))))))
  (sSeq (sSet 16 (wLc (wiL (wLst (wCons (wVar 7) (wCons (wVar 8) wNil)))) (kNameC 17) wYes (wCall sp__law_times (wCons (wVar 6) (wCons (wVar 17) (wCons (wVar 9) (wCons (wVar 10) (wCons (wVar 15) wNil)))))) [17]))
 (sIf (wB (w2 fNeU (w2 fPlus (w2 fIx (wVar 16) (wC (.int (0)))) (w2 fIx (wVar 16) (wC (.int (1))))) (wC (.int (1)))))
  (sRet (wC (.bl false)))
  sNext))
  sNext)))))
 (sIf (wB (w2 fNeU (w2 fPlus (wKw0 3 (fun ds zs => ds ++ [D.non, D.non]) sp_amount (wCons (wVar 6) (wCons (wVar 7) (wCons (wStat sp_Grid_unit) wNil)))) (wKw0 3 (fun ds zs => ds ++ [D.non, D.non]) sp_amount (wCons (wVar 6) (wCons (wVar 8) (wCons (wStat sp_Grid_unit) wNil))))) (wProp "Triangle" sp_Triangle_area2 (wVar 7))))
  (sRet (wC (.bl false)))
  sNext))))))))))
 (sRet (wC (.bl true))))
def sp_law : DSp := fun ds μ Q Xd => ds.length = 1 ∧ w_law (defE Q Xd) (startD N_law ds) μ
theorem d_law (A : Hd K mg) {cdv : Value} {A2 : Around} {fr : List Env} {s : Shared} {H : Hp} {E : XK} {f : Addr} (hr : Room 8 (A2.deeper (envOfC "law" (defScope (top 76)) s.heap.objs.size f cdv))) (hgd : (A2.deeper (envOfC "law" (defScope (top 76)) s.heap.objs.size f cdv)).guards = some []) :
    DSs none (fun cls d _ H2 => E cls d H2) (cxOf (L2.CX P w) P w K mg base N_law "law" (defScope (top 76)) f cdv A2 fr s H E) (defBody (top 76)) w_law := by
  have hN := (sc_law).nd
  exact (dss_cons (ds_for (passes_of rfl) rfl (di_range1 (by rfl) A.f_range (da_cons (de_callB (call_max2 (by rfl)) sn_max2 (by rfl) A.f_max bt_max (da_cons de_int (da_cons (de_callB (call_min2 (by rfl)) sn_min2 (by rfl) A.f_min bt_min (da_cons (de_callB call_len_seq sn_len (by rfl) A.f_len bt_len (da_cons (dv 0) da_nil)) (da_cons de_int da_nil))) da_nil))) da_nil)) (dg_name hN rfl) (dss_cons (ds_set (i := 2) hN rfl (de_callD A.ok__law_hand hr (by decide) hgd rfl (takes_of rfl rfl rfl rfl) (da_cons (dv 0) (da_cons (dv 1) da_nil))))
 (dss_cons (ds_asg (de_callD A.ok__law_corners hr (by decide) hgd rfl (takes_of rfl rfl rfl rfl) (da_cons (dv 2) (da_cons de_int da_nil))) (dg_unl rfl (dgs_cons (dg_name hN rfl) (dgs_cons (dg_name hN rfl) (dgs_cons (dg_name hN rfl) dgs_nil)))))
 (dss_cons (ds_set (i := 6) hN rfl (de_callD A.ok__law_made hr (by decide) hgd rfl (takes_of rfl rfl rfl rfl) (da_cons (de_callD A.ok__law_right_rule hr (by decide) hgd rfl (takes_of rfl rfl rfl rfl) (da_cons (dv 2) da_nil)) da_nil)))
 (dss_cons (ds_set (i := 7) hN rfl (de_makeD A.ok_Triangle_init hr (by decide) hgd rfl (takes_of rfl rfl rfl rfl) (da_cons (dv 3) (da_cons (dv 4) (da_cons (dv 5) da_nil)))))
 (dss_cons (ds_set (i := 8) hN rfl (de_callD A.ok_twin_of hr (by decide) hgd rfl (takes_of rfl rfl rfl rfl) (da_cons (dv 7) da_nil)))
 (dss_cons (ds_asg (de_tup (da_cons (de_tup (da_cons (de_sub (de_item (dv 4) de_int) (de_item (dv 3) de_int)) (da_cons (de_sub (de_item (dv 4) de_int) (de_item (dv 3) de_int)) da_nil))) (da_cons (de_tup (da_cons (de_sub (de_item (dv 5) de_int) (de_item (dv 3) de_int)) (da_cons (de_sub (de_item (dv 5) de_int) (de_item (dv 3) de_int)) da_nil))) da_nil))) (dg_tup rfl (dgs_cons (dg_name hN rfl) (dgs_cons (dg_name hN rfl) dgs_nil))))
 (dss_cons (ds_if (dt_w (dw_or (dt_cmp (op_ownNe A.ok_Triangle_eq A.ne_Triangle hr (by decide) hgd) (s2_ownN (base := base) (P := P) (w := w) rfl A.ok_Triangle_eq) (dv 8) (de_makeD A.ok_Triangle_init hr (by decide) hgd rfl (takes_of rfl rfl rfl rfl) (da_cons (dv 4) (da_cons (dv 5) (da_cons (de_tup (da_cons (de_plus (de_item (dv 4) de_int) (de_item (dv 10) de_int)) (da_cons (de_plus (de_item (dv 4) de_int) (de_item (dv 10) de_int)) da_nil))) da_nil)))) (nomark _)) (dw_or1 (dt_cmp (op_neU (have z := room64 hr; z)) s2_neU (de_propD A.ok_Triangle_area2 hr (by decide) hgd (dv 8) rfl) (de_propD A.ok_Triangle_area2 hr (by decide) hgd (dv 7) rfl) (nomark _))))) (dss_one (ds_ret de_bl)) dss_nil)
 (dss_cons (ds_for (passes_of rfl) rfl (di_range1 (by rfl) A.f_range (da_cons de_int da_nil)) (dg_name hN rfl) (dss_cons (ds_par2 (i := 12) (j := 13) rfl hN rfl rfl (by decide) (da_cons (de_sub (de_callD A.ok__law_draw hr (by decide) hgd rfl (takes_of rfl rfl rfl rfl) (da_cons (dv 2) (da_cons de_int da_nil))) de_int) (da_cons (de_sub (de_callD A.ok__law_draw hr (by decide) hgd rfl (takes_of rfl rfl rfl rfl) (da_cons (dv 2) (da_cons de_int da_nil))) de_int) da_nil)))
 (dss_cons (ds_set (i := 14) hN rfl (de_callD A.ok__law_pair hr (by decide) hgd rfl (takes_of rfl rfl rfl rfl) (da_cons (dv 2) (da_cons de_int da_nil))))
 (dss_cons (ds_set (i := 15) hN rfl (de_tup (da_cons (de_plus (de_plus (de_plus (de_item (dv 3) de_int) (de_times (dv 12) (de_item (dv 9) de_int))) (de_times (dv 13) (de_item (dv 10) de_int))) (de_item (dv 14) de_int)) (da_cons (de_plus (de_plus (de_plus (de_item (dv 3) de_int) (de_times (dv 12) (de_item (dv 9) de_int))) (de_times (dv 13) (de_item (dv 10) de_int))) (de_item (dv 14) de_int)) da_nil))))
 (dss_one (ds_if (dt_val (de_callD A.ok__law_near hr (by decide) hgd rfl (takes_of rfl rfl rfl rfl) (da_cons (dv 9) (da_cons (dv 10) (da_cons (dv 15) (da_cons (dv 3) da_nil)))))) (dss_cons (ds_setLc (i := 16) rfl hN rfl rfl (di_list (de_lst (da_cons (dv 7) (da_cons (dv 8) da_nil)))) (blkOk_by (own := [("one", 17)]) (by show blkC N_law (defScope (top 76)) _ _ = true; decide +kernel)) (lcg_name (by decide)) (fun _ _ _ _ _ => (pg_name hN rfl (by first | exact Or.inl rfl | exact Or.inr rfl) (by first | exact .inl rfl | exact .inr rfl))) (fun _ _ _ _ _ => dts_nil) (fun _ _ _ _ _ => (de_callD A.ok__law_times hr (by decide) hgd rfl takes0 (da_cons (dv 6) (da_cons (dv 17) (da_cons (dv 9) (da_cons (dv 10) (da_cons (dv 15) da_nil))))))))
 (dss_one (ds_if (dt_cmp (op_neU (have z := room64 hr; z)) s2_neU (de_plus (de_item (dv 16) de_int) (de_item (dv 16) de_int)) de_int (nomark _)) (dss_one (ds_ret de_bl)) dss_nil))) dss_nil))))))
 (dss_one (ds_if (dt_cmp (op_neU (have z := room64 hr; z)) s2_neU (de_plus (de_kw0 A.kw_amount_0 hr (by decide) hgd rfl (takes_of rfl rfl rfl rfl) (da_cons (dv 6) (da_cons (dv 7) (da_cons (de_statD A.ok_Grid_unit hr (by decide) hgd (takes_of rfl rfl rfl rfl) (de_cls rfl A.g_Grid)) da_nil)))) (de_kw0 A.kw_amount_0 hr (by decide) hgd rfl (takes_of rfl rfl rfl rfl) (da_cons (dv 6) (da_cons (dv 8) (da_cons (de_statD A.ok_Grid_unit hr (by decide) hgd (takes_of rfl rfl rfl rfl) (de_cls rfl A.g_Grid)) da_nil))))) (de_propD A.ok_Triangle_area2 hr (by decide) hgd (dv 7) rfl) (nomark _)) (dss_one (ds_ret de_bl)) dss_nil)))))))))))
 (dss_one (ds_ret de_bl)))
end
theorem isi_0 : isiF isiL (.b "int") (.b "int") = some true := by decide +kernel
theorem isi_1 : isiF isiL (.b "bool") (.b "int") = some true := by decide +kernel
theorem isi_2 : isiF isiL (.b "str") (.b "int") = some false := by decide +kernel
theorem isi_3 : isiF isiL (.b "NoneType") (.b "int") = some false := by decide +kernel
theorem isi_4 : isiF isiL (.b "tuple") (.b "int") = some false := by decide +kernel
theorem isi_5 : isiF isiL (.b "list") (.b "int") = some false := by decide +kernel
theorem isi_6 : isiF isiL (.c "Point") (.b "int") = some false := by decide +kernel
theorem isi_7 : isiF isiL (.c "Triangle") (.b "int") = some false := by decide +kernel
theorem isi_8 : isiF isiL (.c "Grid") (.b "int") = some false := by decide +kernel
theorem isi_9 : isiF isiL (.c "Edge") (.b "int") = some false := by decide +kernel
theorem isi_10 : isiF isiL (.c "Table") (.b "int") = some false := by decide +kernel
theorem isi_11 : isiF isiL (.c "Half") (.b "int") = some false := by decide +kernel
theorem isi_12 : isiF isiL (.b "int") (.b "bool") = some false := by decide +kernel
theorem isi_13 : isiF isiL (.b "bool") (.b "bool") = some true := by decide +kernel
theorem isi_14 : isiF isiL (.b "str") (.b "bool") = some false := by decide +kernel
theorem isi_15 : isiF isiL (.b "NoneType") (.b "bool") = some false := by decide +kernel
theorem isi_16 : isiF isiL (.b "tuple") (.b "bool") = some false := by decide +kernel
theorem isi_17 : isiF isiL (.b "list") (.b "bool") = some false := by decide +kernel
theorem isi_18 : isiF isiL (.c "Point") (.b "bool") = some false := by decide +kernel
theorem isi_19 : isiF isiL (.c "Triangle") (.b "bool") = some false := by decide +kernel
theorem isi_20 : isiF isiL (.c "Grid") (.b "bool") = some false := by decide +kernel
theorem isi_21 : isiF isiL (.c "Edge") (.b "bool") = some false := by decide +kernel
theorem isi_22 : isiF isiL (.c "Table") (.b "bool") = some false := by decide +kernel
theorem isi_23 : isiF isiL (.c "Half") (.b "bool") = some false := by decide +kernel
theorem isi_24 : isiF isiL (.b "int") (.c "Point") = some false := by decide +kernel
theorem isi_25 : isiF isiL (.b "bool") (.c "Point") = some false := by decide +kernel
theorem isi_26 : isiF isiL (.b "str") (.c "Point") = some false := by decide +kernel
theorem isi_27 : isiF isiL (.b "NoneType") (.c "Point") = some false := by decide +kernel
theorem isi_28 : isiF isiL (.b "tuple") (.c "Point") = some false := by decide +kernel
theorem isi_29 : isiF isiL (.b "list") (.c "Point") = some false := by decide +kernel
theorem isi_30 : isiF isiL (.c "Point") (.c "Point") = some true := by decide +kernel
theorem isi_31 : isiF isiL (.c "Triangle") (.c "Point") = some false := by decide +kernel
theorem isi_32 : isiF isiL (.c "Grid") (.c "Point") = some false := by decide +kernel
theorem isi_33 : isiF isiL (.c "Edge") (.c "Point") = some false := by decide +kernel
theorem isi_34 : isiF isiL (.c "Table") (.c "Point") = some false := by decide +kernel
theorem isi_35 : isiF isiL (.c "Half") (.c "Point") = some false := by decide +kernel
theorem isi_36 : isiF isiL (.b "int") (.b "tuple") = some false := by decide +kernel
theorem isi_37 : isiF isiL (.b "bool") (.b "tuple") = some false := by decide +kernel
theorem isi_38 : isiF isiL (.b "str") (.b "tuple") = some false := by decide +kernel
theorem isi_39 : isiF isiL (.b "NoneType") (.b "tuple") = some false := by decide +kernel
theorem isi_40 : isiF isiL (.b "tuple") (.b "tuple") = some true := by decide +kernel
theorem isi_41 : isiF isiL (.b "list") (.b "tuple") = some false := by decide +kernel
theorem isi_42 : isiF isiL (.c "Point") (.b "tuple") = some false := by decide +kernel
theorem isi_43 : isiF isiL (.c "Triangle") (.b "tuple") = some false := by decide +kernel
theorem isi_44 : isiF isiL (.c "Grid") (.b "tuple") = some false := by decide +kernel
theorem isi_45 : isiF isiL (.c "Edge") (.b "tuple") = some false := by decide +kernel
theorem isi_46 : isiF isiL (.c "Table") (.b "tuple") = some false := by decide +kernel
theorem isi_47 : isiF isiL (.c "Half") (.b "tuple") = some false := by decide +kernel
theorem isi_48 : isiF isiL (.b "int") (.c "Triangle") = some false := by decide +kernel
theorem isi_49 : isiF isiL (.b "bool") (.c "Triangle") = some false := by decide +kernel
theorem isi_50 : isiF isiL (.b "str") (.c "Triangle") = some false := by decide +kernel
theorem isi_51 : isiF isiL (.b "NoneType") (.c "Triangle") = some false := by decide +kernel
theorem isi_52 : isiF isiL (.b "tuple") (.c "Triangle") = some false := by decide +kernel
theorem isi_53 : isiF isiL (.b "list") (.c "Triangle") = some false := by decide +kernel
theorem isi_54 : isiF isiL (.c "Point") (.c "Triangle") = some false := by decide +kernel
theorem isi_55 : isiF isiL (.c "Triangle") (.c "Triangle") = some true := by decide +kernel
theorem isi_56 : isiF isiL (.c "Grid") (.c "Triangle") = some false := by decide +kernel
theorem isi_57 : isiF isiL (.c "Edge") (.c "Triangle") = some false := by decide +kernel
theorem isi_58 : isiF isiL (.c "Table") (.c "Triangle") = some false := by decide +kernel
theorem isi_59 : isiF isiL (.c "Half") (.c "Triangle") = some false := by decide +kernel
theorem isi_60 : isiF isiL (.b "int") (.b "list") = some false := by decide +kernel
theorem isi_61 : isiF isiL (.b "bool") (.b "list") = some false := by decide +kernel
theorem isi_62 : isiF isiL (.b "str") (.b "list") = some false := by decide +kernel
theorem isi_63 : isiF isiL (.b "NoneType") (.b "list") = some false := by decide +kernel
theorem isi_64 : isiF isiL (.b "tuple") (.b "list") = some false := by decide +kernel
theorem isi_65 : isiF isiL (.b "list") (.b "list") = some true := by decide +kernel
theorem isi_66 : isiF isiL (.c "Point") (.b "list") = some false := by decide +kernel
theorem isi_67 : isiF isiL (.c "Triangle") (.b "list") = some false := by decide +kernel
theorem isi_68 : isiF isiL (.c "Grid") (.b "list") = some false := by decide +kernel
theorem isi_69 : isiF isiL (.c "Edge") (.b "list") = some false := by decide +kernel
theorem isi_70 : isiF isiL (.c "Table") (.b "list") = some false := by decide +kernel
theorem isi_71 : isiF isiL (.c "Half") (.b "list") = some false := by decide +kernel
end K18

set_option Elab.async false
set_option linter.all false
set_option maxRecDepth 100000
set_option maxHeartbeats 4000000
set_option autoImplicit false
set_option exponentiation.threshold 3000
namespace K18
open PySem PySem.Spec PyProof.Rows L2 DL
local macro_rules
  | `(tactic| walk_at "dk") => `(tactic| try simp only [g_gen, r_kw, r_kw1, r_kw2, r_kw0, r_kw00, c_wi, c_en, c_en1, c_for, c_for1, c_lc, c_lc1, c_lof, c_lof1, c_ap, c_ap1, c_ap2, y_p2, y_p21, y_oo, y_fo, y_foq, y_of, y_of2, c_si, c_si1, c_si2, c_si3, c_lu1, c_lu2, c_lu3, z_fl, z_fl1, z_fl2, z_ps, z_ps1, z_ps2, z_ps3, z_eqT, z_cat, z_cat1, z_cat2, y_pop, y_pop1, y_pop2, y_lcC, y_cell, y_rem, y_rem1, y_rem2, x_subO, x_subO1, x_subO2, v_slo, v_slo1, w_ff, w_ft, w_tf, w_tt, false_and, and_false, v_ix, v_ix1, v_ix2, v_inv, v_inv1, v_co, v_co1, v_co2, v_len, v_len1, isiD, tyD, clD, r_insobj, fldOf, DL.isNon, items_tup, items_lst, items_frl, hasCls, othTy, insD, DL.putK, DL.putD, initEnd, startI, startD, DL.wipeD, List.map_cons, List.map_nil, List.length_cons, List.length_nil, List.getElem?_cons_zero, List.getElem?_cons_succ, List.getElem?_nil, List.set_cons_zero, List.set_cons_succ, List.cons_append, List.nil_append, List.append_nil, List.replicate, Nat.sub_self, Nat.reduceSub, Nat.reduceAdd, Nat.reduceLeDiff, Nat.reduceEqDiff, Nat.reduceLT, Int.reduceLT, Int.reduceLE, if_true, if_false, Bool.not_true, Bool.not_false, reduceIte, reduceCtorEq, true_and, and_true, Nat.zero_add, Bool.true_eq_false, Bool.false_eq_true, eqU_int, eqU_str, eqU_bl, str_eq, str_beq, String.reduceEq, decide_true, decide_false, decide_eq_true_eq, pl_items, pl_st0, pl_st1, pl_fold, notOwn, List.mem_singleton, List.mem_cons, List.not_mem_nil, or_false, false_or, or_true, true_or, forall_eq, forall_eq_or_imp, implies_true, Int.reduceToNat, Int.reduceEq, Int.reduceNe, Int.reduceAdd, Int.reduceSub, Int.reduceMul, Int.reducePow, Int.reduceMod, Int.reduceDiv, atI_0, atI_1, atI_2, atI_3, rg1, rg2, startI, r_var, r_var2, r_c, r_w2, r_w2a, r_w2b, r_w1, r_w1a, r_wB, r_wBa, r_ch, r_ch1, r_ch2, r_ch3t, r_ch3f, r_and, r_andt, r_andf, r_or, r_ort, r_orf, r_not, r_nota, r_ife, r_ifet, r_ifef, r_andv, r_andvt, r_andvf, r_orv, r_orvt, r_orvf, r_notv, r_notva, r_nil, r_cons, r_cons1, r_cons2, r_tup, r_tupa, r_lst, r_lsta, r_lstc, r_lstca, r_wn, r_wna, r_call, r_calla, r_mk, r_mk1, r_mk2, r_mkc, r_mkc1, r_mkc2, r_me, r_me1, r_me2, r_bo, r_bo1, r_bo2, r_onone, r_osome, r_osomea, r_sl, r_sl1, r_sl2, r_sl3, r_sl3f, r_ii, r_ii0, r_ib, r_i1, r_plus, r_plusl, r_times, r_timesl, r_isn, r_notn, r_eqd, r_ned, r_int1, r_int1b, r_max2, r_min2, r_abs, r_ix, r_ix2, r_ix3, r_len, r_len2, r_isi, r_isi2, r_fld, r_fld2, r_fld3, r_insobj, r_kx, r_next, r_never, r_seq, r_seqa, r_if, r_ift, r_iff, r_ret, r_retn, r_brk, r_cnt, r_drop, r_dropa, r_set, r_seta, r_asg, r_asga, r_name, r_namec, r_ktup, r_kunl, r_kcons, r_kcs, r_knil, r_par2, r_par2a, r_par3, r_par3a, r_aug, r_auga, r_augb, r_augc, r_for, r_fora, r_knx, r_fldo, r_fldoa, r_put, r_frz, r_frz2, r_frz3, r_frz4, r_cl, r_seto, r_setoa, r_wil, r_wila, r_wilf, r_wit, r_wita, r_wi1, r_wi1a, r_wi2, r_wi2a, r_wie, r_wiea, r_wiz, r_wiza, r_wizt, r_lc, r_lc0, r_lcn, r_lcc, r_lc1, r_lc2t, r_lc2f, r_lc3, r_yes, r_sub, r_sub1, r_sub2, r_sub3, r_dnx, r_drt, r_dxc, r_inx, r_init, r_ixc, t_raise, t_raise2, t_try, t_cat, t_catt, t_catf, t_sunx, t_surt, t_nx0, t_nx1, t_nx2, t_nx3, t_prop, t_prop2, t_xf, t_xf2, t_isx, t_isx2, t_wht, t_whf, t_equ, t_neu, t_el, List.reverse_cons, List.reverse_nil, isiDT, anyT, List.all_cons, List.all_nil, Option.isSome_some, Bool.and_true, Bool.true_and, u_lof, u_lof2, u_tof, u_tof2, u_isiT, u_dict, u_bl, u_ownN, u_has, u_hasN, u_bk, u_bk1, u_bk2, u_stat, u_ap, u_ap1, u_ap2, u_ex, u_ex1, u_ex2, u_ownL, u_olen, u_oix, u_oix1, u_oin, u_sumT, u_sumL, u_mu, u_mu1, u_hot, u_hot1, startX, u_mb, u_mb1, u_mb1f, u_mb2, u_rev, u_revf, u_wio, u_wex, u_wel, u_wef, u_wet, u_en, u_en0, u_enc, u_enn, Int.cast_ofNat_Int, u_wzx, u_wzl, u_wzt, u_wzm, u_zd, u_zd0, intsD, DL.intD, u_kd, isTy, Bool.true_xor, Bool.false_xor, eqU_pl, p_int, p_bl, p_non, p_tup, p_lst, p_frl, p0_int, p0_bl, p0_non, deq, deqs, Bool.and_true, Bool.and_false, Bool.false_and, List.contains_cons, List.contains_nil, Bool.or_false, Bool.false_or, Bool.or_self, eq_self, beq_self_eq_true, Bool.not_true, Bool.not_false, List.flatten_cons, List.flatten_nil, isi_0, isi_1, isi_2, isi_3, isi_4, isi_5, isi_6, isi_7, isi_8, isi_9, isi_10, isi_11, isi_12, isi_13, isi_14, isi_15, isi_16, isi_17, isi_18, isi_19, isi_20, isi_21, isi_22, isi_23, isi_24, isi_25, isi_26, isi_27, isi_28, isi_29, isi_30, isi_31, isi_32, isi_33, isi_34, isi_35, isi_36, isi_37, isi_38, isi_39, isi_40, isi_41, isi_42, isi_43, isi_44, isi_45, isi_46, isi_47, isi_48, isi_49, isi_50, isi_51, isi_52, isi_53, isi_54, isi_55, isi_56, isi_57, isi_58, isi_59, isi_60, isi_61, isi_62, isi_63, isi_64, isi_65, isi_66, isi_67, isi_68, isi_69, isi_70, isi_71])
local macro_rules
  | `(tactic| walk_at "ds") => `(tactic| try simp only [g_gen, r_kw, r_kw1, r_kw2, r_kw0, r_kw00, c_wi, c_en, c_en1, c_for, c_for1, c_lc, c_lc1, c_lof, c_lof1, c_ap, c_ap1, c_ap2, y_p2, y_p21, y_oo, y_fo, y_foq, y_of, y_of2, c_si, c_si1, c_si2, c_si3, c_lu1, c_lu2, c_lu3, z_fl, z_fl1, z_fl2, z_ps, z_ps1, z_ps2, z_ps3, z_eqT, z_cat, z_cat1, z_cat2, y_pop, y_pop1, y_pop2, y_lcC, y_cell, y_rem, y_rem1, y_rem2, x_subO, x_subO1, x_subO2, v_slo, v_slo1, w_ff, w_ft, w_tf, w_tt, false_and, and_false, isClsU, v_ix, v_ix1, v_ix2, v_inv, v_inv1, v_co, v_co1, v_co2, v_len, v_len1, v_f2or, isiD, tyD, clD, r_insobj, fldOf, DL.isNon, items_tup, items_lst, items_frl, hasCls, isCls, othTy, insD, DL.putK, DL.putD, initEnd, startI, startD, DL.wipeD, List.map_cons, List.map_nil, List.length_cons, List.length_nil, List.getElem?_cons_zero, List.getElem?_cons_succ, List.getElem?_nil, List.set_cons_zero, List.set_cons_succ, List.cons_append, List.nil_append, List.append_nil, List.replicate, Nat.sub_self, Nat.reduceSub, Nat.reduceAdd, Nat.reduceLeDiff, Nat.reduceEqDiff, Nat.reduceLT, Int.reduceLT, Int.reduceLE, if_true, if_false, Bool.not_true, Bool.not_false, reduceIte, reduceCtorEq, true_and, and_true, Nat.zero_add, Bool.true_eq_false, Bool.false_eq_true, eqU_int, eqU_str, eqU_bl, str_eq, str_beq, String.reduceEq, decide_true, decide_false, decide_eq_true_eq, pl_items, pl_st0, pl_st1, pl_fold, notOwn, List.mem_singleton, List.mem_cons, List.not_mem_nil, or_false, false_or, or_true, true_or, forall_eq, forall_eq_or_imp, implies_true, Int.reduceToNat, Int.reduceEq, Int.reduceNe, Int.reduceAdd, Int.reduceSub, Int.reduceMul, Int.reducePow, Int.reduceMod, Int.reduceDiv, atI_0, atI_1, atI_2, atI_3, rg1, rg2, startI, r_var, r_var2, r_c, r_w2, r_w2a, r_w2b, r_w1, r_w1a, r_wB, r_wBa, r_ch, r_ch1, r_ch2, r_ch3t, r_ch3f, r_and, r_andt, r_andf, r_or, r_ort, r_orf, r_not, r_nota, r_ife, r_ifet, r_ifef, r_andv, r_andvt, r_andvf, r_orv, r_orvt, r_orvf, r_notv, r_notva, r_nil, r_cons, r_cons1, r_cons2, r_tup, r_tupa, r_lst, r_lsta, r_lstc, r_lstca, r_wn, r_wna, r_call, r_calla, r_mk, r_mk1, r_mk2, r_mkc, r_mkc1, r_mkc2, r_me, r_me1, r_me2, r_bo, r_bo1, r_bo2, r_onone, r_osome, r_osomea, r_sl, r_sl1, r_sl2, r_sl3, r_sl3f, r_ii, r_ii0, r_ib, r_i1, r_plus, r_plusl, r_times, r_timesl, r_isn, r_notn, r_eqd, r_ned, r_int1, r_int1b, r_max2, r_min2, r_abs, r_ix, r_ix2, r_ix3, r_len, r_len2, r_isi, r_isi2, r_fld, r_fld2, r_fld3, r_insobj, r_kx, r_next, r_never, r_seqa, r_if, r_ift, r_iff, r_ret, r_retn, r_brk, r_cnt, r_drop, r_dropa, r_set, r_seta, r_asg, r_asga, r_name, r_namec, r_ktup, r_kunl, r_kcons, r_kcs, r_knil, r_par2, r_par2a, r_par3, r_par3a, r_aug, r_auga, r_augb, r_augc, r_for, r_fora, r_knx, r_fldo, r_fldoa, r_put, r_frz, r_frz2, r_frz3, r_frz4, r_cl, r_seto, r_setoa, r_wil, r_wila, r_wilf, r_wit, r_wita, r_wi1, r_wi1a, r_wi2, r_wi2a, r_wie, r_wiea, r_wiz, r_wiza, r_wizt, r_lc, r_lc0, r_lcn, r_lcc, r_lc1, r_lc2t, r_lc2f, r_lc3, r_yes, r_sub, r_sub1, r_sub2, r_sub3, r_dnx, r_drt, r_dxc, r_inx, r_init, r_ixc, t_raise, t_raise2, t_try, t_cat, t_catt, t_catf, t_sunx, t_surt, t_nx0, t_nx1, t_nx2, t_nx3, t_prop, t_prop2, t_xf, t_xf2, t_isx, t_isx2, t_wht, t_whf, t_equ, t_neu, t_el, List.reverse_cons, List.reverse_nil, isiDT, anyT, List.all_cons, List.all_nil, Option.isSome_some, Bool.and_true, Bool.true_and, u_lof, u_lof2, u_tof, u_tof2, u_isiT, u_dict, u_bl, u_own, u_ownN, u_has, u_hasN, u_bk, u_bk1, u_bk2, u_stat, u_ap, u_ap1, u_ap2, u_ex, u_ex1, u_ex2, u_ownL, u_olen, u_oix, u_oix1, u_oin, u_sumT, u_sumL, u_mu, u_mu1, u_hot, u_hot1, startX, u_mb, u_mb1, u_mb1f, u_mb2, u_rev, u_revf, u_wio, u_wex, u_wel, u_wef, u_wet, u_en, u_en0, u_enc, u_enn, Int.cast_ofNat_Int, u_wzx, u_wzl, u_wzt, u_wzm, u_zd, u_zd0, intsD, DL.intD, u_kd, othC, isTy, Bool.true_xor, Bool.false_xor, eqU_pl, p_int, p_bl, p_non, p_tup, p_lst, p_frl, p0_int, p0_bl, p0_non, deq, deqs, Bool.and_true, Bool.and_false, Bool.false_and, List.contains_cons, List.contains_nil, Bool.or_false, Bool.false_or, Bool.or_self, eq_self, beq_self_eq_true, Bool.not_true, Bool.not_false, List.flatten_cons, List.flatten_nil, isi_0, isi_1, isi_2, isi_3, isi_4, isi_5, isi_6, isi_7, isi_8, isi_9, isi_10, isi_11, isi_12, isi_13, isi_14, isi_15, isi_16, isi_17, isi_18, isi_19, isi_20, isi_21, isi_22, isi_23, isi_24, isi_25, isi_26, isi_27, isi_28, isi_29, isi_30, isi_31, isi_32, isi_33, isi_34, isi_35, isi_36, isi_37, isi_38, isi_39, isi_40, isi_41, isi_42, isi_43, isi_44, isi_45, isi_46, isi_47, isi_48, isi_49, isi_50, isi_51, isi_52, isi_53, isi_54, isi_55, isi_56, isi_57, isi_58, isi_59, isi_60, isi_61, isi_62, isi_63, isi_64, isi_65, isi_66, isi_67, isi_68, isi_69, isi_70, isi_71])
local macro_rules
  | `(tactic| walk_at "dn") => `(tactic| try simp only [g_gen, r_kw, r_kw1, r_kw2, r_kw0, r_kw00, c_wi, c_en, c_en1, c_for, c_for1, c_lc, c_lc1, c_lof, c_lof1, c_ap, c_ap1, c_ap2, y_p2, y_p21, y_oo, y_fo, y_foq, y_of, y_of2, c_si, c_si1, c_si2, c_si3, c_lu1, c_lu2, c_lu3, z_fl, z_fl1, z_fl2, z_ps, z_ps1, z_ps2, z_ps3, z_eqT, z_cat, z_cat1, z_cat2, y_pop, y_pop1, y_pop2, y_lcC, y_cell, y_rem, y_rem1, y_rem2, x_subO, x_subO1, x_subO2, v_slo, v_slo1, w_ff, w_ft, w_tf, w_tt, false_and, and_false, isClsU, v_ix, v_ix1, v_ix2, v_inv, v_inv1, v_co, v_co1, v_co2, v_len, v_len1, v_f2or, isiD, tyD, clD, r_insobj, fldOf, DL.isNon, items_tup, items_lst, items_frl, hasCls, isCls, othTy, insD, DL.putK, DL.putD, initEnd, startI, startD, DL.wipeD, List.map_cons, List.map_nil, List.length_cons, List.length_nil, List.getElem?_cons_zero, List.getElem?_cons_succ, List.getElem?_nil, List.set_cons_zero, List.set_cons_succ, List.cons_append, List.nil_append, List.append_nil, List.replicate, Nat.sub_self, Nat.reduceSub, Nat.reduceAdd, Nat.reduceLeDiff, Nat.reduceEqDiff, Nat.reduceLT, Int.reduceLT, Int.reduceLE, if_true, if_false, Bool.not_true, Bool.not_false, reduceIte, reduceCtorEq, true_and, and_true, Nat.zero_add, Bool.true_eq_false, Bool.false_eq_true, eqU_int, eqU_str, eqU_bl, str_eq, str_beq, String.reduceEq, decide_true, decide_false, decide_eq_true_eq, pl_items, pl_st0, pl_st1, pl_fold, notOwn, List.mem_singleton, List.mem_cons, List.not_mem_nil, or_false, false_or, or_true, true_or, forall_eq, forall_eq_or_imp, implies_true, Int.reduceToNat, Int.reduceEq, Int.reduceNe, Int.reduceAdd, Int.reduceSub, Int.reduceMul, Int.reducePow, Int.reduceMod, Int.reduceDiv, atI_0, atI_1, atI_2, atI_3, rg1, rg2, startI, r_var, r_var2, r_c, r_w2, r_w2a, r_w2b, r_w1, r_w1a, r_wB, r_wBa, r_ch, r_ch1, r_ch2, r_ch3t, r_ch3f, r_and, r_andt, r_andf, r_or, r_ort, r_orf, r_not, r_nota, r_ife, r_ifet, r_ifef, r_andv, r_andvt, r_andvf, r_orv, r_orvt, r_orvf, r_notv, r_notva, r_nil, r_cons, r_cons1, r_cons2, r_tup, r_tupa, r_lst, r_lsta, r_lstc, r_lstca, r_wn, r_wna, r_call, r_calla, r_mk, r_mk1, r_mk2, r_mkc, r_mkc1, r_mkc2, r_me, r_me1, r_me2, r_bo, r_bo1, r_bo2, r_onone, r_osome, r_osomea, r_sl, r_sl1, r_sl2, r_sl3, r_sl3f, r_ii, r_ii0, r_ib, r_i1, r_plus, r_plusl, r_times, r_timesl, r_isn, r_notn, r_eqd, r_ned, r_int1, r_int1b, r_max2, r_min2, r_abs, r_ix, r_ix2, r_ix3, r_len, r_len2, r_isi, r_isi2, r_fld, r_fld2, r_fld3, r_insobj, r_kx, r_next, r_never, r_seq, r_seqa, r_if, r_ift, r_iff, r_ret, r_retn, r_brk, r_cnt, r_drop, r_dropa, r_set, r_seta, r_asg, r_asga, r_name, r_namec, r_ktup, r_kunl, r_kcons, r_kcs, r_knil, r_par2, r_par2a, r_par3, r_par3a, r_aug, r_auga, r_augb, r_augc, r_for, r_fora, r_knx, r_fldo, r_fldoa, r_put, r_frz, r_frz2, r_frz3, r_frz4, r_cl, r_seto, r_setoa, r_wil, r_wila, r_wilf, r_wit, r_wita, r_wi1, r_wi1a, r_wi2, r_wi2a, r_wie, r_wiea, r_wiz, r_wiza, r_wizt, r_lc, r_lc0, r_lcn, r_lcc, r_lc1, r_lc2t, r_lc2f, r_lc3, r_yes, r_sub, r_sub1, r_sub2, r_sub3, r_dnx, r_drt, r_dxc, r_inx, r_init, r_ixc, t_raise, t_raise2, t_try, t_cat, t_catt, t_catf, t_sunx, t_surt, t_nx0, t_nx1, t_nx2, t_nx3, t_prop, t_prop2, t_xf, t_xf2, t_isx, t_isx2, t_wht, t_whf, t_equ, t_neu, t_el, List.reverse_cons, List.reverse_nil, isiDT, anyT, List.all_cons, List.all_nil, Option.isSome_some, Bool.and_true, Bool.true_and, u_lof, u_lof2, u_tof, u_tof2, u_isiT, u_dict, u_bl, u_own, u_ownN, u_has, u_hasN, u_bk, u_bk1, u_bk2, u_stat, u_ap, u_ap1, u_ap2, u_ex, u_ex1, u_ex2, u_ownL, u_olen, u_oix, u_oix1, u_oin, u_sumT, u_sumL, u_mu, u_mu1, u_hot, u_hot1, startX, u_mb, u_mb1, u_mb1f, u_mb2, u_rev, u_revf, u_wio, u_wex, u_wel, u_wef, u_wet, u_en, u_en0, u_enc, u_enn, Int.cast_ofNat_Int, u_wzx, u_wzl, u_wzt, u_wzm, u_zd, u_zd0, intsD, DL.intD, u_kd, othC, isTy, Bool.true_xor, Bool.false_xor, eqU_pl, p_int, p_bl, p_non, p_tup, p_lst, p_frl, p0_int, p0_bl, p0_non, deq, deqs, Bool.and_true, Bool.and_false, Bool.false_and, List.contains_cons, List.contains_nil, Bool.or_false, Bool.false_or, Bool.or_self, eq_self, beq_self_eq_true, Bool.not_true, Bool.not_false, List.flatten_cons, List.flatten_nil, isi_0, isi_1, isi_2, isi_3, isi_4, isi_5, isi_6, isi_7, isi_8, isi_9, isi_10, isi_11, isi_12, isi_13, isi_14, isi_15, isi_16, isi_17, isi_18, isi_19, isi_20, isi_21, isi_22, isi_23, isi_24, isi_25, isi_26, isi_27, isi_28, isi_29, isi_30, isi_31, isi_32, isi_33, isi_34, isi_35, isi_36, isi_37, isi_38, isi_39, isi_40, isi_41, isi_42, isi_43, isi_44, isi_45, isi_46, isi_47, isi_48, isi_49, isi_50, isi_51, isi_52, isi_53, isi_54, isi_55, isi_56, isi_57, isi_58, isi_59, isi_60, isi_61, isi_62, isi_63, isi_64, isi_65, isi_66, isi_67, isi_68, isi_69, isi_70, isi_71])
local macro_rules
  | `(tactic| walk_at "dl1") => `(tactic| simp only [g_gen, r_kw, r_kw1, r_kw2, r_kw0, r_kw00, c_wi, c_en, c_en1, c_for, c_for1, c_lc, c_lc1, c_lof, c_lof1, c_ap, c_ap1, c_ap2, y_p2, y_p21, y_oo, y_fo, y_foq, y_of, y_of2, c_si, c_si1, c_si2, c_si3, c_lu1, c_lu2, c_lu3, z_fl, z_fl1, z_fl2, z_ps, z_ps1, z_ps2, z_ps3, z_eqT, z_cat, z_cat1, z_cat2, y_pop, y_pop1, y_pop2, y_lcC, y_cell, y_rem, y_rem1, y_rem2, x_subO, x_subO1, x_subO2, v_slo, v_slo1, w_ff, w_ft, w_tf, w_tt, false_and, and_false, isClsU, v_ix, v_ix1, v_ix2, v_inv, v_inv1, v_co, v_co1, v_co2, v_len, v_len1, v_f2or, isiD, tyD, clD, r_insobj, fldOf, DL.isNon, items_tup, items_lst, items_frl, hasCls, isCls, othTy, insD, DL.putK, DL.putD, initEnd, startI, startD, DL.wipeD, List.map_cons, List.map_nil, List.length_cons, List.length_nil, List.getElem?_cons_zero, List.getElem?_cons_succ, List.getElem?_nil, List.set_cons_zero, List.set_cons_succ, List.cons_append, List.nil_append, List.append_nil, List.replicate, Nat.sub_self, Nat.reduceSub, Nat.reduceAdd, Nat.reduceLeDiff, Nat.reduceEqDiff, Nat.reduceLT, Int.reduceLT, Int.reduceLE, if_true, if_false, Bool.not_true, Bool.not_false, reduceIte, reduceCtorEq, true_and, and_true, Nat.zero_add, Bool.true_eq_false, Bool.false_eq_true, eqU_int, eqU_str, eqU_bl, str_eq, str_beq, String.reduceEq, decide_true, decide_false, decide_eq_true_eq, pl_items, pl_st0, pl_st1, pl_fold, notOwn, List.mem_singleton, List.mem_cons, List.not_mem_nil, or_false, false_or, or_true, true_or, forall_eq, forall_eq_or_imp, implies_true, range_succ, range_zero, Int.reduceToNat, Int.reduceEq, Int.reduceNe, Int.reduceAdd, Int.reduceSub, Int.reduceMul, Int.reducePow, Int.reduceMod, Int.reduceDiv, atI_0, atI_1, atI_2, atI_3, rg1, rg2, startI, r_var, r_var2, r_c, r_w2, r_w2a, r_w2b, r_w1, r_w1a, r_wB, r_wBa, r_ch, r_ch1, r_ch2, r_ch3t, r_ch3f, r_and, r_andt, r_andf, r_or, r_ort, r_orf, r_not, r_nota, r_ife, r_ifet, r_ifef, r_andv, r_andvt, r_andvf, r_orv, r_orvt, r_orvf, r_notv, r_notva, r_nil, r_cons, r_cons1, r_cons2, r_tup, r_tupa, r_lst, r_lsta, r_lstc, r_lstca, r_wn, r_wna, r_call, r_calla, r_mk, r_mk1, r_mk2, r_mkc, r_mkc1, r_mkc2, r_me, r_me1, r_me2, r_bo, r_bo1, r_bo2, r_onone, r_osome, r_osomea, r_sl, r_sl1, r_sl2, r_sl3, r_sl3f, r_ii, r_ii0, r_ib, r_i1, r_plus, r_plusl, r_times, r_timesl, r_isn, r_notn, r_eqd, r_ned, r_int1, r_int1b, r_max2, r_min2, r_abs, r_ix, r_ix2, r_ix3, r_len, r_len2, r_isi, r_isi2, r_fld, r_fld2, r_fld3, r_insobj, r_kx, r_next, r_never, r_seq, r_seqa, r_if, r_ift, r_iff, r_ret, r_retn, r_brk, r_cnt, r_drop, r_dropa, r_set, r_seta, r_asg, r_asga, r_name, r_namec, r_ktup, r_kunl, r_kcons, r_kcs, r_knil, r_par2, r_par2a, r_par3, r_par3a, r_aug, r_auga, r_augb, r_augc, r_for, r_fora, r_knx, r_fldo, r_fldoa, r_put, r_frz, r_frz2, r_frz3, r_frz4, r_cl, r_seto, r_setoa, r_wil, r_wila, r_wilf, r_wit, r_wita, r_wi1, r_wi1a, r_wi2, r_wi2a, r_wie, r_wiea, r_wiz, r_wiza, r_wizt, r_lc, r_lc0, r_lcn, r_lcc, r_lc1, r_lc2t, r_lc2f, r_lc3, r_yes, r_sub, r_sub1, r_sub2, r_sub3, r_dnx, r_drt, r_dxc, r_inx, r_init, r_ixc, t_raise, t_raise2, t_try, t_cat, t_catt, t_catf, t_sunx, t_surt, t_nx0, t_nx1, t_nx2, t_nx3, t_prop, t_prop2, t_xf, t_xf2, t_isx, t_isx2, t_wht, t_whf, t_equ, t_neu, t_el, List.reverse_cons, List.reverse_nil, isiDT, anyT, List.all_cons, List.all_nil, Option.isSome_some, Bool.and_true, Bool.true_and, u_lof, u_lof2, u_tof, u_tof2, u_isiT, u_dict, u_bl, u_own, u_ownN, u_has, u_hasN, u_bk, u_bk1, u_bk2, u_stat, u_ap, u_ap1, u_ap2, u_ex, u_ex1, u_ex2, u_ownL, u_olen, u_oix, u_oix1, u_oin, u_sumT, u_sumL, u_mu, u_mu1, u_hot, u_hot1, startX, u_mb, u_mb1, u_mb1f, u_mb2, u_rev, u_revf, u_wio, u_wex, u_wel, u_wef, u_wet, u_en, u_en0, u_enc, u_enn, Int.cast_ofNat_Int, u_wzx, u_wzl, u_wzt, u_wzm, u_zd, u_zd0, intsD, DL.intD, u_kd, othC, isTy, Bool.true_xor, Bool.false_xor, eqU_pl, p_int, p_bl, p_non, p_tup, p_lst, p_frl, p0_int, p0_bl, p0_non, deq, deqs, Bool.and_true, Bool.and_false, Bool.false_and, List.contains_cons, List.contains_nil, Bool.or_false, Bool.false_or, Bool.or_self, eq_self, beq_self_eq_true, Bool.not_true, Bool.not_false, List.flatten_cons, List.flatten_nil, isi_0, isi_1, isi_2, isi_3, isi_4, isi_5, isi_6, isi_7, isi_8, isi_9, isi_10, isi_11, isi_12, isi_13, isi_14, isi_15, isi_16, isi_17, isi_18, isi_19, isi_20, isi_21, isi_22, isi_23, isi_24, isi_25, isi_26, isi_27, isi_28, isi_29, isi_30, isi_31, isi_32, isi_33, isi_34, isi_35, isi_36, isi_37, isi_38, isi_39, isi_40, isi_41, isi_42, isi_43, isi_44, isi_45, isi_46, isi_47, isi_48, isi_49, isi_50, isi_51, isi_52, isi_53, isi_54, isi_55, isi_56, isi_57, isi_58, isi_59, isi_60, isi_61, isi_62, isi_63, isi_64, isi_65, isi_66, isi_67, isi_68, isi_69, isi_70, isi_71])
local macro_rules
  | `(tactic| walk_at "dl") => `(tactic| try simp only [g_gen, r_kw, r_kw1, r_kw2, r_kw0, r_kw00, c_wi, c_en, c_en1, c_for, c_for1, c_lc, c_lc1, c_lof, c_lof1, c_ap, c_ap1, c_ap2, y_p2, y_p21, y_oo, y_fo, y_foq, y_of, y_of2, c_si, c_si1, c_si2, c_si3, c_lu1, c_lu2, c_lu3, z_fl, z_fl1, z_fl2, z_ps, z_ps1, z_ps2, z_ps3, z_eqT, z_cat, z_cat1, z_cat2, y_pop, y_pop1, y_pop2, y_lcC, y_cell, y_rem, y_rem1, y_rem2, x_subO, x_subO1, x_subO2, v_slo, v_slo1, w_ff, w_ft, w_tf, w_tt, false_and, and_false, isClsU, v_ix, v_ix1, v_ix2, v_inv, v_inv1, v_co, v_co1, v_co2, v_len, v_len1, v_f2or, isiD, tyD, clD, r_insobj, fldOf, DL.isNon, items_tup, items_lst, items_frl, hasCls, isCls, othTy, insD, DL.putK, DL.putD, initEnd, startI, startD, DL.wipeD, List.map_cons, List.map_nil, List.length_cons, List.length_nil, List.getElem?_cons_zero, List.getElem?_cons_succ, List.getElem?_nil, List.set_cons_zero, List.set_cons_succ, List.cons_append, List.nil_append, List.append_nil, List.replicate, Nat.sub_self, Nat.reduceSub, Nat.reduceAdd, Nat.reduceLeDiff, Nat.reduceEqDiff, Nat.reduceLT, Int.reduceLT, Int.reduceLE, if_true, if_false, Bool.not_true, Bool.not_false, reduceIte, reduceCtorEq, true_and, and_true, Nat.zero_add, Bool.true_eq_false, Bool.false_eq_true, eqU_int, eqU_str, eqU_bl, str_eq, str_beq, String.reduceEq, decide_true, decide_false, decide_eq_true_eq, pl_items, pl_st0, pl_st1, pl_fold, notOwn, List.mem_singleton, List.mem_cons, List.not_mem_nil, or_false, false_or, or_true, true_or, forall_eq, forall_eq_or_imp, implies_true, range_succ, range_zero, Int.reduceToNat, Int.reduceEq, Int.reduceNe, Int.reduceAdd, Int.reduceSub, Int.reduceMul, Int.reducePow, Int.reduceMod, Int.reduceDiv, atI_0, atI_1, atI_2, atI_3, rg1, rg2, startI, r_var, r_var2, r_c, r_w2, r_w2a, r_w2b, r_w1, r_w1a, r_wB, r_wBa, r_ch, r_ch1, r_ch2, r_ch3t, r_ch3f, r_and, r_andt, r_andf, r_or, r_ort, r_orf, r_not, r_nota, r_ife, r_ifet, r_ifef, r_andv, r_andvt, r_andvf, r_orv, r_orvt, r_orvf, r_notv, r_notva, r_nil, r_cons, r_cons1, r_cons2, r_tup, r_tupa, r_lst, r_lsta, r_lstc, r_lstca, r_wn, r_wna, r_call, r_calla, r_mk, r_mk1, r_mk2, r_mkc, r_mkc1, r_mkc2, r_me, r_me1, r_me2, r_bo, r_bo1, r_bo2, r_onone, r_osome, r_osomea, r_sl, r_sl1, r_sl2, r_sl3, r_sl3f, r_ii, r_ii0, r_ib, r_i1, r_plus, r_plusl, r_times, r_timesl, r_isn, r_notn, r_eqd, r_ned, r_int1, r_int1b, r_max2, r_min2, r_abs, r_ix, r_ix2, r_ix3, r_len, r_len2, r_isi, r_isi2, r_fld, r_fld2, r_fld3, r_insobj, r_kx, r_next, r_never, r_seq, r_seqa, r_if, r_ift, r_iff, r_ret, r_retn, r_brk, r_cnt, r_drop, r_dropa, r_set, r_seta, r_asg, r_asga, r_name, r_namec, r_ktup, r_kunl, r_kcons, r_kcs, r_knil, r_par2, r_par2a, r_par3, r_par3a, r_aug, r_auga, r_augb, r_augc, r_for, r_fora, r_knx, r_fldo, r_fldoa, r_put, r_frz, r_frz2, r_frz3, r_frz4, r_cl, r_seto, r_setoa, r_wil, r_wila, r_wilf, r_wit, r_wita, r_wi1, r_wi1a, r_wi2, r_wi2a, r_wie, r_wiea, r_wiz, r_wiza, r_wizt, r_lc, r_lc0, r_lcn, r_lcc, r_lc1, r_lc2t, r_lc2f, r_lc3, r_yes, r_sub, r_sub1, r_sub2, r_sub3, r_dnx, r_drt, r_dxc, r_inx, r_init, r_ixc, t_raise, t_raise2, t_try, t_cat, t_catt, t_catf, t_sunx, t_surt, t_nx0, t_nx1, t_nx2, t_nx3, t_prop, t_prop2, t_xf, t_xf2, t_isx, t_isx2, t_wht, t_whf, t_equ, t_neu, t_el, List.reverse_cons, List.reverse_nil, isiDT, anyT, List.all_cons, List.all_nil, Option.isSome_some, Bool.and_true, Bool.true_and, u_lof, u_lof2, u_tof, u_tof2, u_isiT, u_dict, u_bl, u_own, u_ownN, u_has, u_hasN, u_bk, u_bk1, u_bk2, u_stat, u_ap, u_ap1, u_ap2, u_ex, u_ex1, u_ex2, u_ownL, u_olen, u_oix, u_oix1, u_oin, u_sumT, u_sumL, u_mu, u_mu1, u_hot, u_hot1, startX, u_mb, u_mb1, u_mb1f, u_mb2, u_rev, u_revf, u_wio, u_wex, u_wel, u_wef, u_wet, u_en, u_en0, u_enc, u_enn, Int.cast_ofNat_Int, u_wzx, u_wzl, u_wzt, u_wzm, u_zd, u_zd0, intsD, DL.intD, u_kd, othC, isTy, Bool.true_xor, Bool.false_xor, eqU_pl, p_int, p_bl, p_non, p_tup, p_lst, p_frl, p0_int, p0_bl, p0_non, deq, deqs, Bool.and_true, Bool.and_false, Bool.false_and, List.contains_cons, List.contains_nil, Bool.or_false, Bool.false_or, Bool.or_self, eq_self, beq_self_eq_true, Bool.not_true, Bool.not_false, List.flatten_cons, List.flatten_nil, isi_0, isi_1, isi_2, isi_3, isi_4, isi_5, isi_6, isi_7, isi_8, isi_9, isi_10, isi_11, isi_12, isi_13, isi_14, isi_15, isi_16, isi_17, isi_18, isi_19, isi_20, isi_21, isi_22, isi_23, isi_24, isi_25, isi_26, isi_27, isi_28, isi_29, isi_30, isi_31, isi_32, isi_33, isi_34, isi_35, isi_36, isi_37, isi_38, isi_39, isi_40, isi_41, isi_42, isi_43, isi_44, isi_45, isi_46, isi_47, isi_48, isi_49, isi_50, isi_51, isi_52, isi_53, isi_54, isi_55, isi_56, isi_57, isi_58, isi_59, isi_60, isi_61, isi_62, isi_63, isi_64, isi_65, isi_66, isi_67, isi_68, isi_69, isi_70, isi_71])
local macro_rules
  | `(tactic| walk_at "cm") => `(tactic| first | exact .inl (.inr ⟨by omega, by omega⟩) | exact .inl (.inl ⟨by omega, by omega⟩) | exact cm_bd (by unfold Bd; omega) (by unfold Bd; omega))
local macro_rules
  | `(tactic| walk_at "cs") => `(tactic| repeat ((with_reducible refine And.intro ?_ ?_); (· first | decide | (walk_at "cm") | exact ⟨by decide, by decide, by decide⟩ | omega)))
local macro_rules
  | `(tactic| walk_at "go") => `(tactic| (walk_at "dl"; walk_at "cs"))
local macro_rules
  | `(tactic| walk_at "gn") => `(tactic| (walk_at "dn"; walk_at "cs"))
section
variable {Q : D → Mu → Prop} {Xd : XD} {μ : Mu}
theorem ii_int {i : Int} (h : Q (.bl true) μ) : sp_is_integer [.int i] μ Q Xd := by
  unfold sp_is_integer w_is_integer
  walk_at "dl"
  exact h
abbrev pr (x y : Int) : D := .tup [.int x, .int y]
abbrev pt (x y : Int) : D := .obj "Point" ["x", "y"] [.int x, .int y]
/-- a point or a pair -/
def IsP (d : D) (x y : Int) : Prop := d = pr x y ∨ d = pt x y
theorem isP_pr {x y : Int} : IsP (pr x y) x y := .inl rfl
theorem nums {d : D} {x y : Int} (hd : IsP d x y) (h : Q (pr x y) μ) : sp_numbers_of [d] μ Q Xd := by
  unfold sp_numbers_of w_numbers_of
  rcases hd with rfl | rfl
  · walk_at "dl"
    refine ii_int ?_
    walk_at "dl"
    refine ii_int ?_
    walk_at "dl"
    exact h
  · walk_at "dl"
    exact h
theorem pair_ev {d : D} {x y : Int} (hd : IsP d x y) (h : Q (pr x y) μ) : sp_pair_of [d] μ Q Xd := by
  unfold sp_pair_of w_pair_of
  walk_at "dl"
  refine nums hd ?_
  walk_at "dl"
  exact h
theorem less_ev {x y z w : Int} (h : Q (pr (x - z) (y - w)) μ) : sp_less [pr x y, pr z w] μ Q Xd := by
  unfold sp_less w_less
  walk_at "dl"
  exact h
theorem cross_ev {x y z w : Int} (h1 : CM x w) (h2 : CM y z) (h : Q (.int (x * w - y * z)) μ) : sp_cross_of [pr x y, pr z w] μ Q Xd := by
  unfold sp_cross_of w_cross_of
  walk_at "dl"
  exact ⟨h1, h2, h⟩
def sd (ax ay bx by_ px py : Int) : Int := (bx - ax) * (py - ay) - (by_ - ay) * (px - ax)
theorem sideof_ev {ax ay bx by_ px py : Int} (h1 : CM (bx - ax) (py - ay)) (h2 : CM (by_ - ay) (px - ax)) (h : Q (.int (sd ax ay bx by_ px py)) μ) : sp_side_of [pr ax ay, pr bx by_, pr px py] μ Q Xd := by
  unfold sp_side_of w_side_of
  walk_at "dl"
  refine less_ev ?_
  walk_at "dl"
  refine less_ev ?_
  walk_at "dl"
  exact cross_ev h1 h2 h
theorem draw_ev {p q many : Int} (ok : PoolOk p q) (h1 : 1 ≤ many) (h2 : Bd many) (h : ∀ r p' q', PoolOk p' q' → 0 ≤ r → r < many → Q (.int r) (pl μ p' q')) : sp__law_draw [.loc μ.length, .int many] (pl μ p q) Q Xd := by
  obtain ⟨p0, q0, q1⟩ := ok
  unfold sp__law_draw w__law_draw
  walk_at "dl"
  by_cases c : 0 < p
  · rw [decide_eq_true c]
    walk_at "dl"
    refine ⟨by omega, cd_bd (by omega) h2, ?_⟩
    exact h _ _ _ ⟨Int.ediv_nonneg p0 (by omega), q0, q1⟩ (Int.emod_nonneg _ (by omega)) (Int.emod_lt_of_pos _ (by omega))
  · rw [decide_eq_false c]
    walk_at "dl"
    have m1 := Int.emod_nonneg (q * 48271 + 11) (show (2147483647 : Int) ≠ 0 by decide)
    have m2 := Int.emod_lt_of_pos (q * 48271 + 11) (show (0 : Int) < 2147483647 by decide)
    refine ⟨cm_bd (by unfold Bd; omega) (by unfold Bd; omega), ?_⟩
    generalize (q * 48271 + 11) % 2147483647 = q' at m1 m2 ⊢
    exact ⟨cm_bd (by unfold Bd; omega) (by unfold Bd; omega), cd_bd (by omega) (by unfold Bd; omega), by omega, h _ _ _ ⟨p0, m1, m2⟩ (Int.emod_nonneg _ (by omega)) (Int.emod_lt_of_pos _ (by omega))⟩
theorem lpair_ev {p q : Int} {n : Nat} (ok : PoolOk p q) (hn : n ≤ 1000) (h : ∀ x y p' q', PoolOk p' q' → -(n : Int) ≤ x → x ≤ n → -(n : Int) ≤ y → y ≤ n → Q (pr x y) (pl μ p' q')) : sp__law_pair [.loc μ.length, .int n] (pl μ p q) Q Xd := by
  unfold sp__law_pair w__law_pair
  walk_at "dl"
  refine ⟨cm_bd (by unfold Bd; omega) (by unfold Bd; omega), draw_ev ok (by omega) (by unfold Bd; omega) fun r p1 q1 ok1 r0 r1 => ?_⟩
  walk_at "dl"
  refine ⟨cm_bd (by unfold Bd; omega) (by unfold Bd; omega), draw_ev ok1 (by omega) (by unfold Bd; omega) fun r2 p2 q2 ok2 r3 r4 => ?_⟩
  walk_at "dl"
  exact h _ _ _ _ ok2 (by omega) (by omega) (by omega) (by omega)
theorem hand_ev {ns : List Int} {k : Int} (hl : ns.length ≤ 63) (k0 : 0 ≤ k) (k1 : k ≤ 63) (h : ∀ p q, PoolOk p q → Q (.loc μ.length) (pl μ p q)) : sp__law_hand [.frl (ns.map D.int), .int k] μ Q Xd := by
  unfold sp__law_hand w__law_hand
  walk_at "dl"
  refine ⟨cut_few hl, ?_⟩
  obtain ⟨c, hc⟩ := cell_of (ns := ns) (lo := some k) (hi := some (k + 1))
  rw [hc]
  walk_at "dl"
  have m1 := Int.emod_nonneg c (show (2147483647 : Int) ≠ 0 by decide)
  have m2 := Int.emod_lt_of_pos c (show (0 : Int) < 2147483647 by decide)
  refine ⟨cm_bd (by unfold Bd; omega) (by unfold Bd; omega), cm_bd (by unfold Bd; omega) (by unfold Bd; omega), ⟨by decide, by decide, by decide⟩, .inl (.inl ?_), h _ _ ⟨?_, Int.emod_nonneg _ (by decide), ?_⟩⟩
  · split <;> decide
  · have e : (10 : Int) ^ Int.toNat 18 = 1000000000000000000 := by decide
    try rw [e]
    split <;> omega
  · have := Int.emod_lt_of_pos ((c % 2147483647 + 7919 * k + 1) * 48271) (show (0 : Int) < 2147483629 by decide)
    omega

abbrev pd (p : SA.P) : D := pr p.1 p.2
instance : Inhabited SA.T3 := ⟨⟨(0, 0), (0, 0), (0, 0)⟩⟩
def trd (t : SA.T3) : D := .obj "Triangle" ["pairs"] [.lst [pd t.a, pd t.b, pd t.c]]
theorem un {g : WG} {b : WS} {E : DEnds} {d : D} {ds : List D} {ρ : DS} {μ : Mu} (h : g d ρ μ fun ρ1 μ1 => b { E with nx := forL g b E ds, ct := forL g b E ds, bk := E.nx } ρ1 μ1) : forL g b E (d :: ds) ρ μ := by
  rw [forL]
  exact h
theorem ways_ev {a b c : SA.P} (h : Q (.lst [.tup [pd a, pd b], .tup [pd b, pd c], .tup [pd c, pd a]]) μ) : sp_ways_of [.lst [pd a, pd b, pd c]] μ Q Xd := by
  unfold sp_ways_of w_ways_of
  walk_at "go"
  exact h
def B6 (x : Int) : Prop := -1000000000000000000000000000000000000000000000000000000000000 ≤ x ∧ x ≤ 1000000000000000000000000000000000000000000000000000000000000
def BP (p : SA.P) : Prop := B6 p.1 ∧ B6 p.2
def BT (t : SA.T3) : Prop := BP t.a ∧ BP t.b ∧ BP t.c
theorem cm6 {a b c d : Int} (ha : B6 a) (hb : B6 b) (hc : B6 c) (hd : B6 d) : CM (a - b) (c - d) := by
  unfold B6 at *
  exact cm_bd (by unfold Bd; omega) (by unfold Bd; omega)
theorem sdp_ev {a b p : SA.P} (ha : BP a) (hb : BP b) (hp : BP p) (h : Q (.int (SA.sd a b p)) μ) : sp_side_of [pd a, pd b, pd p] μ Q Xd :=
  sideof_ev (cm6 hb.1 ha.1 hp.2 ha.2) (cm6 hb.2 ha.2 hp.1 ha.1) h
theorem lessp_ev {a b : SA.P} (h : Q (pd (SA.sb a b)) μ) : sp_less [pd a, pd b] μ Q Xd := less_ev h
theorem bd6 {a b : Int} (ha : B6 a) (hb : B6 b) : Bd (a - b) := by
  unfold B6 Bd at *
  omega
theorem all_bl {α : Type} {f : α → Bool} : ∀ {l : List α}, boolsD (l.map fun a => D.bl (f a)) = some (l.map f)
  | [] => rfl
  | a :: l => by
    rw [List.map_cons, boolsD, all_bl]
    rfl
theorem b6bd {x : Int} (h : B6 x) : Bd x := by
  unfold B6 Bd at *
  omega
def wyD (w : SA.P × SA.P) : D := .tup [pd w.1, pd w.2]

theorem gstep {x y : Int} (hx : 0 ≤ x) (hy : 0 < y) : Int.gcd y (x % y) = Int.gcd x y := by
  obtain ⟨n, rfl⟩ := Int.eq_ofNat_of_zero_le hx
  obtain ⟨m, rfl⟩ := Int.eq_ofNat_of_zero_le (Int.le_of_lt hy)
  show Nat.gcd m (n % m) = Nat.gcd n m
  rw [Nat.gcd_comm m, ← Nat.gcd_rec, Nat.gcd_comm]
theorem cdiv_ev {x y : Int} (hy : Bd y) (h : Q (.int (Int.gcd x y)) μ) : sp_common_divisor [.int x, .int y] μ Q Xd := by
  unfold sp_common_divisor w_common_divisor
  walk_at "dl"
  refine while_ind (fun n ρ μ' => μ' = μ ∧ ∃ a b : Int, ρ = [.v (.int a), .v (.int b)] ∧ 0 ≤ a ∧ 0 ≤ b ∧ Bd b ∧ Int.gcd a b = Int.gcd x y ∧ n = b.toNat) (fun n ρ μ' K hI hK => ?_) ⟨rfl, _, _, rfl, by split <;> omega, by split <;> omega, by unfold Bd at *; split <;> omega, ?_, rfl⟩
  · obtain ⟨rfl, a, b, rfl, a0, b0, bb, hg, rfl⟩ := hI
    walk_at "dl"
    by_cases c : 0 < b
    · rw [decide_eq_true c]
      walk_at "dl"
      refine ⟨c, ?_⟩
      have m1 := Int.emod_nonneg a (show b ≠ 0 by omega)
      have m2 := Int.emod_lt_of_pos a c
      exact hK _ _ _ (by omega) ⟨rfl, _, _, rfl, b0, m1, by unfold Bd at *; omega, by rw [gstep a0 c]; exact hg, rfl⟩
    · rw [decide_eq_false c]
      walk_at "dl"
      have e : b = 0 := by omega
      subst e
      rw [Int.gcd_zero_right] at hg
      rw [← hg] at h
      have e2 : ((a.natAbs : Nat) : Int) = a := by omega
      rw [e2] at h
      exact h
  · split <;> split <;> simp
theorem lowp_ev {u : SA.P} (hu : u ≠ SA.O) (b1 : Bd u.1) (b2 : Bd u.2) (h : Q (pd (SA.lw u)) μ) : sp_lowest_pair [pd u] μ Q Xd := by
  have g0 := SA.gcd_pos hu
  have gb : Bd (Int.gcd u.1 u.2 : Int) := by
    rw [SA.nz] at hu
    unfold Bd at *
    by_cases c : u.1 = 0
    · have : Int.gcd u.1 u.2 ≤ u.2.natAbs := Nat.le_of_dvd (by omega) (Int.gcd_dvd_natAbs_right u.1 u.2)
      omega
    · have : Int.gcd u.1 u.2 ≤ u.1.natAbs := Nat.le_of_dvd (by omega) (Int.gcd_dvd_natAbs_left u.1 u.2)
      omega
  unfold sp_lowest_pair w_lowest_pair
  walk_at "dl"
  refine cdiv_ev b2 ?_
  walk_at "dl"
  exact ⟨cd_bd g0 gb, cd_bd g0 gb, h⟩

/-! rules -/
inductive Rl where
  | tab (bs : List Bool)
  | half (w : SA.P) (ah : Bool)
def rlD : Rl → D
  | .tab bs => .obj "Table" ["truths"] [.lst (bs.map D.bl)]
  | .half w ah => .obj "Half" ["own_way", "own_ahead"] [pd w, .bl ah]
def tR (bs : List Bool) (d : SA.P) : Bool := (bs[(SO.kd d).toNat]?).getD false
def rlR : Rl → SA.P → Bool
  | .tab bs => tR bs
  | .half w ah => SA.hf w ah
def RlOk : Rl → Prop
  | .tab bs => bs.length = 8
  | .half w _ => w ≠ SA.O ∧ BP w
theorem sg_ev {x : Int} (h : Q (.int (SO.sg x)) μ) : sp_sign_of [.int x] μ Q Xd := by
  unfold sp_sign_of w_sign_of
  unfold SO.sg at h
  walk_at "dl"
  by_cases c : x = 0
  · rw [decide_eq_true c]
    rw [if_pos c] at h
    walk_at "dl"
    exact h
  · rw [decide_eq_false c]
    rw [if_neg c] at h
    walk_at "dl"
    by_cases c2 : 0 < x
    · rw [decide_eq_true c2]
      rw [if_pos c2] at h
      walk_at "dl"
      exact h
    · rw [decide_eq_false c2]
      rw [if_neg c2] at h
      walk_at "dl"
      exact h
theorem kp_ev {x y : Int} (h0 : SO.nz (x, y)) (h : Q (.int (SO.kd (x, y))) μ) : sp_kind_of_pair [pr x y] μ Q Xd := by
  unfold sp_kind_of_pair w_kind_of_pair
  walk_at "dl"
  refine sg_ev ?_
  walk_at "dl"
  refine sg_ev ?_
  walk_at "dl"
  refine ⟨[SO.sg x, SO.sg y], rfl, SO.kd (x, y), ?_, h⟩
  unfold SO.nz at h0
  simp only at h0
  have s : ∀ z : Int, (z = 0 ∧ SO.sg z = 0) ∨ (0 < z ∧ SO.sg z = 1) ∨ (z < 0 ∧ SO.sg z = -1) := fun z => by
    unfold SO.sg
    repeat' split
    all_goals omega
  rcases SO.kd_tab x y with ⟨y0, x0, k⟩ | ⟨y0, x0, k⟩ | ⟨y0, x0, k⟩ | ⟨y0, x0, k⟩ | ⟨y0, x0, k⟩ | ⟨y0, x0, k⟩ | ⟨y0, x0, k⟩ | ⟨y0, x0, k⟩ <;> rw [k] <;> rcases s x with ⟨x1, e1⟩ | ⟨x1, e1⟩ | ⟨x1, e1⟩ <;> first
    | (exfalso; omega)
    | (rw [e1]; rcases s y with ⟨y1, e2⟩ | ⟨y1, e2⟩ | ⟨y1, e2⟩ <;> first
        | (exfalso; omega)
        | (rw [e2]; decide +kernel))
theorem kd_8 (d : SA.P) : 0 ≤ SO.kd d ∧ SO.kd d < 8 := by
  rcases SO.kd_tab d.1 d.2 with ⟨y0, x0, k⟩ | ⟨y0, x0, k⟩ | ⟨y0, x0, k⟩ | ⟨y0, x0, k⟩ | ⟨y0, x0, k⟩ | ⟨y0, x0, k⟩ | ⟨y0, x0, k⟩ | ⟨y0, x0, k⟩ <;> (have k' : SO.kd d = _ := k; rw [k']; decide)
theorem tab_has {bs : List Bool} {d : SA.P} (hl : bs.length = 8) (hd : d ≠ SA.O) (h : Q (.bl (tR bs d)) μ) : sp_Table_has [rlD (.tab bs), pd d] μ Q Xd := by
  unfold sp_Table_has w_Table_has rlD
  walk_at "dl"
  refine kp_ev (by rw [SA.nz] at hd; unfold SO.nz; simp only; omega) ?_
  obtain ⟨k1, k2⟩ := kd_8 d
  obtain ⟨n, hn⟩ : ∃ n : Nat, SO.kd d = n := ⟨(SO.kd d).toNat, by omega⟩
  have e : atI (bs.map D.bl) ((n : Nat) : Int) = some (.bl (tR bs d)) := by
    rw [DL.atI_nat, List.getElem?_map]
    unfold tR
    rw [hn, Int.toNat_natCast, List.getElem?_eq_getElem (show n < bs.length by omega)]
    rfl
  walk_at "dl"
  rw [show SO.kd (d.1, d.2) = (n : Int) from hn, e]
  exact h
theorem half_has {w d : SA.P} {ah : Bool} (b1 : Bd w.1) (b2 : Bd w.2) (b3 : Bd d.1) (b4 : Bd d.2) (h : Q (.bl (SA.hf w ah d)) μ) : sp_Half_has [rlD (.half w ah), pd d] μ Q Xd := by
  unfold sp_Half_has w_Half_has rlD
  unfold SA.hf SA.cr at h
  walk_at "dl"
  refine cross_ev (cm_bd b1 b4) (cm_bd b2 b3) ?_
  walk_at "dl"
  by_cases c : w.1 * d.2 - w.2 * d.1 = 0
  · rw [if_neg (by omega)] at h
    rw [decide_eq_true c]
    walk_at "dl"
    refine ⟨cm_bd b3 b1, cm_bd b4 b2, ?_⟩
    walk_at "dl"
    cases ah <;> by_cases g : 0 < d.1 * w.1 + d.2 * w.2 <;> simp only [g, decide_true, decide_false] at h ⊢ <;> exact h
  · rw [if_pos c] at h
    rw [decide_eq_false c]
    walk_at "dl"
    exact h
theorem isow_ev {r : Rl} {t : SA.T3} {p : SA.P} (ok : RlOk r) (g : SA.Good t) (bt : BT t) (bp : BP p) (h : Q (.bl (SA.own (rlR r) t p)) μ) : sp_is_owned [rlD r, .lst [pd t.a, pd t.b, pd t.c], pd p] μ Q Xd := by
  obtain ⟨a, b, c⟩ := t
  obtain ⟨ba, bb, bc⟩ := bt
  simp only at ba bb bc
  have nz3 := SA.sd_ne g
  have hall : SA.own (rlR r) ⟨a, b, c⟩ p = [(a, b), (b, c), (c, a)].all fun w => SA.wOwn (rlR r) w.1 w.2 p := by
    unfold SA.own
    simp
  rw [hall] at h
  unfold sp_is_owned w_is_owned
  walk_at "go"
  refine ways_ev ?_
  walk_at "go"
  refine forL_pre (α := SA.P × SA.P) (f := wyD) (l := [(a, b), (b, c), (c, a)]) (fun pre ρ μ' => μ' = μ ∧ (∀ w ∈ pre, SA.wOwn (rlR r) w.1 w.2 p = true) ∧ ∃ s3 s4 s5 : Sl, ρ = [.v (rlD r), .v (.lst [pd a, pd b, pd c]), .v (pd p), s3, s4, s5])
    (fun pre w post e ρ μ' K hI hK => ?_) (fun ρ μ' hI => ?_) ⟨rfl, fun t ht => (nomatch ht), _, _, _, rfl⟩
  · obtain ⟨rfl, yes, s3, s4, s5, rfl⟩ := hI
    have hw : w ∈ [(a, b), (b, c), (c, a)] := by rw [e]; simp
    have bw : BP w.1 ∧ BP w.2 ∧ SA.sb w.2 w.1 ≠ SA.O := by
      simp only [List.mem_cons, List.not_mem_nil, or_false] at hw
      rcases hw with rfl | rfl | rfl
      · exact ⟨ba, bb, nz3.1⟩
      · exact ⟨bb, bc, nz3.2.1⟩
      · exact ⟨bc, ba, nz3.2.2⟩
    have no : SA.wOwn (rlR r) w.1 w.2 p = false → Q (.bl false) μ' := fun z => by
      have q : ([(a, b), (b, c), (c, a)].all fun w => SA.wOwn (rlR r) w.1 w.2 p) = false := by
        rw [List.all_eq_false]
        exact ⟨w, hw, by simp [z]⟩
      rw [q] at h
      exact h
    have go : SA.wOwn (rlR r) w.1 w.2 p = true → ∀ ρ', (∃ s3 s4 s5 : Sl, ρ' = [.v (rlD r), .v (.lst [pd a, pd b, pd c]), .v (pd p), s3, s4, s5]) → K ρ' μ' := fun z ρ' hρ => hK _ _ ⟨rfl, fun w' hw' => by
      rcases List.mem_append.mp hw' with q | q
      · exact yes w' q
      · rw [List.mem_singleton] at q
        rw [q, z], hρ⟩
    clear hK e yes h
    unfold wyD
    walk_at "go"
    refine sdp_ev bw.1 bw.2.1 bp ?_
    walk_at "go"
    by_cases l : SA.sd w.1 w.2 p < 0
    · rw [decide_eq_true l]
      walk_at "go"
      refine no ?_
      unfold SA.wOwn
      rw [decide_eq_false (by omega), decide_eq_false (by omega)]
      rfl
    rw [decide_eq_false l]
    walk_at "go"
    by_cases z : SA.sd w.1 w.2 p = 0
    · rw [SA.wOwn_zero z] at no go
      rw [decide_eq_true z]
      walk_at "go"
      cases r with
      | tab bs =>
        unfold rlD
        walk_at "go"
        refine lessp_ev ?_
        walk_at "go"
        refine tab_has ok bw.2.2 ?_
        cases v : tR bs (SA.sb w.2 w.1)
        · walk_at "go"
          exact no v
        · walk_at "go"
          exact go v _ ⟨_, _, _, rfl⟩
      | half hw ah =>
        unfold rlD
        walk_at "go"
        refine lessp_ev ?_
        walk_at "go"
        refine half_has (b6bd ok.2.1) (b6bd ok.2.2) (bd6 bw.2.1.1 bw.1.1) (bd6 bw.2.1.2 bw.1.2) ?_
        cases v : SA.hf hw ah (SA.sb w.2 w.1)
        · walk_at "go"
          exact no v
        · walk_at "go"
          exact go v _ ⟨_, _, _, rfl⟩
    · rw [decide_eq_false z]
      walk_at "go"
      exact go (SA.wOwn_pos (by omega)) _ ⟨_, _, _, rfl⟩
  · obtain ⟨rfl, yes, s3, s4, s5, rfl⟩ := hI
    walk_at "go"
    refine b_go (F := fun b μ => Q (.bl b) μ) ?_ h
    exact (List.all_eq_true.mpr yes).symm

theorem owns_ev {r : Rl} {t : SA.T3} {p : SA.P} {d : D} (hd : IsP d p.1 p.2) (ok : RlOk r) (g : SA.Good t) (bt : BT t) (bp : BP p) (h : Q (.bl (SA.own (rlR r) t p)) μ) : sp_owns [rlD r, trd t, d] μ Q Xd := by
  unfold sp_owns w_owns trd
  walk_at "go"
  refine pair_ev hd ?_
  walk_at "go"
  exact isow_ev ok g bt bp h

theorem half_init {Q : List Str → List D → Mu → Prop} {w : SA.P} {ah : Bool} {d : D} (hd : IsP d w.1 w.2) (hw : w ≠ SA.O) (b1 : Bd w.1) (b2 : Bd w.2) (h : Q ["own_way", "own_ahead"] [pd (SA.lw w), .bl ah] μ) : sp_Half_init [d, .bl ah] μ Q Xd := by
  have e0 : (decide (w.1 = 0) && decide (w.2 = 0)) = false := by
    rw [SA.nz] at hw
    rw [Bool.and_eq_false_iff, decide_eq_false_iff_not, decide_eq_false_iff_not]
    omega
  unfold sp_Half_init w_Half_init
  refine ⟨rfl, fun x => ?_⟩
  walk_at "dl"
  unfold sp_way_in w_way_in
  walk_at "dl"
  refine nums hd ?_
  walk_at "dl"
  try simp only [Bool.and_true]
  rw [e0]
  walk_at "dl"
  refine lowp_ev hw b1 b2 ?_
  walk_at "dl"
  unfold sp_check_ahead w_check_ahead
  walk_at "dl"
  exact h

theorem ct_truths {bs : List Bool} (hl : bs.length = 8) (h : Q .non μ) : sp_check_truths [.lst (bs.map D.bl)] μ Q Xd := by
  unfold sp_check_truths w_check_truths
  walk_at "go"
  rw [List.length_map, hl]
  walk_at "go"
  refine lc_mp (α := Bool) (l := bs) (fun b => D.bl true) (fun b hb ds acc hacc hK => ?_) (by omega) ?_
  · walk_at "go"
    exact hK
  · walk_at "go"
    refine ⟨_, all_bl, ?_⟩
    walk_at "dl"
    refine b_go (v := false) (by simp) ?_
    walk_at "go"
    exact h
theorem tab_init {Q : List Str → List D → Mu → Prop} {bs : List Bool} (hl : bs.length = 8) (h : Q ["truths"] [.lst (bs.map D.bl)] μ) : sp_Table_init [.lst (bs.map D.bl)] μ Q Xd := by
  unfold sp_Table_init w_Table_init
  refine ⟨rfl, fun x => ?_⟩
  walk_at "go"
  refine ct_truths hl ?_
  walk_at "go"
  exact h

theorem tri_init {Q : List Str → List D → Mu → Prop} {a b c : D} {ax ay bx by_ cx cy : Int} (ha : IsP a ax ay) (hb : IsP b bx by_) (hc : IsP c cx cy) (h1 : CM (bx - ax) (cy - ay)) (h2 : CM (by_ - ay) (cx - ax)) (hs : 0 < sd ax ay bx by_ cx cy)
    (h : Q ["pairs"] [.lst [pr ax ay, pr bx by_, pr cx cy]] μ) : sp_Triangle_init [a, b, c] μ Q Xd := by
  unfold sp_Triangle_init w_Triangle_init
  refine ⟨rfl, fun x => ?_⟩
  walk_at "dl"
  refine pair_ev ha ?_
  walk_at "dl"
  refine pair_ev hb ?_
  walk_at "dl"
  refine pair_ev hc ?_
  walk_at "dl"
  refine sideof_ev h1 h2 ?_
  walk_at "dl"
  rw [decide_eq_false (by omega)]
  walk_at "dl"
  rw [decide_eq_false (by omega)]
  walk_at "dl"
  exact h

theorem tri_initN {Q : List Str → List D → Mu → Prop} {a b c : D} {ax ay bx by_ cx cy : Int} (ha : IsP a ax ay) (hb : IsP b bx by_) (hc : IsP c cx cy) (h1 : CM (bx - ax) (cy - ay)) (h2 : CM (by_ - ay) (cx - ax)) (hs : sd ax ay bx by_ cx cy < 0)
    (h : Q ["pairs"] [.lst [pr ax ay, pr cx cy, pr bx by_]] μ) : sp_Triangle_init [a, b, c] μ Q Xd := by
  unfold sp_Triangle_init w_Triangle_init
  refine ⟨rfl, fun x => ?_⟩
  walk_at "dl"
  refine pair_ev ha ?_
  walk_at "dl"
  refine pair_ev hb ?_
  walk_at "dl"
  refine pair_ev hc ?_
  walk_at "dl"
  refine sideof_ev h1 h2 ?_
  walk_at "dl"
  rw [decide_eq_false (by omega)]
  walk_at "dl"
  rw [decide_eq_true (by omega)]
  walk_at "dl"
  exact h

def slv : Sl → Bool
  | .no => true
  | .v _ => true
  | _ => false

abbrev gd (st rx ry : Int) : D := .obj "Grid" ["step", "rest"] [.int st, .tup [.int rx, .int ry]]
theorem ff_ev {a r st : Int} (hs : 1 ≤ st) (bs : Bd st) (h : Q (.int (SP.fst a r st)) μ) : sp_first_from [.int a, .int r, .int st] μ Q Xd := by
  unfold sp_first_from w_first_from
  walk_at "dl"
  exact ⟨by omega, h⟩

theorem ints_of {α : Type} {f : α → Int} : ∀ {l : List α}, intsD (l.map fun a => D.int (f a)) = some (l.map f)
  | [] => rfl
  | a :: l => by
    rw [List.map_cons, intsD, ints_of]
    rfl

theorem btw1_ev {i lo hi : Int} (h1 : lo ≤ i) (h2 : i ≤ hi) (h : Q (.bl true) μ) : sp_is_between [.int i, .int lo, .int hi] μ Q Xd := by
  unfold sp_is_between w_is_between
  walk_at "go"
  refine ii_int ?_
  walk_at "go"
  rw [decide_eq_true h1]
  walk_at "go"
  rw [decide_eq_true h2]
  exact h
theorem grid_init {Q : List Str → List D → Mu → Prop} {st x y : Int} {d : D} (hd : IsP d x y) (h1 : 1 ≤ st) (h2 : st ≤ 1000000000000000000000000000000) (h : Q ["step", "rest"] [.int st, .tup [.int (x % st), .int (y % st)]] μ) : sp_Grid_init [.int st, d] μ Q Xd := by
  have bs : Bd st := by unfold Bd; omega
  unfold sp_Grid_init w_Grid_init
  refine ⟨rfl, fun a => ?_⟩
  walk_at "go"
  refine btw1_ev h1 h2 ?_
  walk_at "go"
  refine nums hd ?_
  walk_at "dl"
  exact ⟨by omega, by omega, h⟩

theorem kife_go {wa wb : WE} {ρ : DS} {b : Bool} (x : D) (h1 : b = true → ∀ K : D → Mu → Prop, K x μ → wa ρ μ K Xd) (h0 : b = false → ∀ K : D → Mu → Prop, K x μ → wb ρ μ K Xd) (h : Q x μ) : KIfE wa wb ρ Q Xd b μ := by
  cases b
  · exact h0 rfl Q h
  · exact h1 rfl Q h

/-! told rules -/
def s4 (w : SA.P) : Prop := -4 ≤ w.1 ∧ w.1 ≤ 4 ∧ -4 ≤ w.2 ∧ w.2 ≤ 4
inductive Tr where
  | tab (bs : List Bool)
  | half (n : SA.P) (ah : Bool)
def trD : Tr → D
  | .tab bs => .tup [.str "table", .lst (bs.map D.bl)]
  | .half n ah => .tup [.str "half", pd n, .bl ah]
def trR : Tr → Rl
  | .tab bs => .tab bs
  | .half n ah => .half (SA.lw n) ah
def TrOk : Tr → Prop
  | .tab bs => bs.length = 8
  | .half n _ => n ≠ SA.O ∧ s4 n
def trIn : Tr → SA.P → Bool
  | .tab bs => tR bs
  | .half n ah => SA.hf n ah
theorem lw_s {w : SA.P} (h : -4 ≤ w.1 ∧ w.1 ≤ 4 ∧ -4 ≤ w.2 ∧ w.2 ≤ 4) : -4 ≤ (SA.lw w).1 ∧ (SA.lw w).1 ≤ 4 ∧ -4 ≤ (SA.lw w).2 ∧ (SA.lw w).2 ≤ 4 := by
  have h1 := Int.natAbs_ediv_le_natAbs w.1 (Int.gcd w.1 w.2 : Int)
  have h2 := Int.natAbs_ediv_le_natAbs w.2 (Int.gcd w.1 w.2 : Int)
  unfold SA.lw
  simp only
  omega
theorem tr_ok {t : Tr} (h : TrOk t) : RlOk (trR t) := by
  cases t with
  | tab bs => exact h
  | half n ah =>
    have s := h.2
    unfold s4 at s
    have lb := lw_s s
    exact ⟨SA.lw_nz h.1, by unfold BP B6; omega⟩
theorem tr_in {t : Tr} {d : SA.P} (h : TrOk t) : rlR (trR t) d = trIn t d := by
  cases t with
  | tab bs => rfl
  | half n ah => exact SA.hf_lw h.1
theorem made_ev {t : Tr} (ht : TrOk t) (h : Q (rlD (trR t)) μ) : sp__law_made [trD t] μ Q Xd := by
  unfold sp__law_made w__law_made
  cases t with
  | tab bs =>
    unfold trD
    walk_at "gn"
    refine tab_init ht ?_
    walk_at "gn"
    exact h
  | half n ah =>
    have s := ht.2
    unfold s4 at s
    unfold trD
    walk_at "gn"
    refine half_init (w := n) isP_pr ht.1 (by unfold Bd; omega) (by unfold Bd; omega) ?_
    walk_at "gn"
    exact h

/-- where ways join -/
theorem jn {a b : WS} {E : DEnds} {ρ : DS} {μ : Mu} (I : DS → Mu → Prop) (h1 : ∀ K : DS → Mu → Prop, (∀ ρ' μ', I ρ' μ' → K ρ' μ') → a { E with nx := K } ρ μ) (h2 : ∀ ρ' μ', I ρ' μ' → b E ρ' μ') : sSeq a b E ρ μ := h1 (fun ρ' μ' => b E ρ' μ') h2
theorem andv_go {wb : WE} {ρ : DS} {b c : Bool} (h1 : ∀ K : D → Mu → Prop, K (.bl c) μ → wb ρ μ K Xd) (h : Q (.bl (b && c)) μ) : KAndV wb ρ Q Xd (.bl b) μ := by
  cases b
  · exact h
  · exact h1 _ h
theorem lside_ev {ax ay bx by_ px py : Int} (h1 : CM (bx - ax) (py - ay)) (h2 : CM (by_ - ay) (px - ax)) (h : Q (.int (sd ax ay bx by_ px py)) μ) : sp__law_side [pr ax ay, pr bx by_, pr px py] μ Q Xd := by
  unfold sp__law_side w__law_side
  walk_at "dl"
  exact ⟨h1, h2, h⟩

theorem lcorners_ev {p q : Int} {n : Nat} (ok : PoolOk p q) (hn : n ≤ 1000)
    (h : ∀ ax ay bx by_ cx cy p' q', PoolOk p' q' → -(n : Int) ≤ ax → ax ≤ n → -(n : Int) ≤ ay → ay ≤ n → -(n : Int) ≤ bx → bx ≤ n + 3 → -(n : Int) ≤ by_ → by_ ≤ n + 3 → -(n : Int) ≤ cx → cx ≤ n + 3 → -(n : Int) ≤ cy → cy ≤ n + 3 →
      0 < sd ax ay bx by_ cx cy → Q (.lst [pr ax ay, pr bx by_, pr cx cy]) (pl μ p' q')) : sp__law_corners [.loc μ.length, .int n] (pl μ p q) Q Xd := by
  unfold sp__law_corners w__law_corners
  walk_at "dl"
  refine lpair_ev ok hn fun ax ay p1 q1 ok1 a1 a2 a3 a4 => ?_
  walk_at "dl"
  refine lpair_ev ok1 hn fun bx by_ p2 q2 ok2 b1 b2 b3 b4 => ?_
  walk_at "dl"
  refine lpair_ev ok2 hn fun cx cy p3 q3 ok3 c1 c2 c3 c4 => ?_
  walk_at "dl"
  refine lside_ev (by walk_at "cm") (by walk_at "cm") ?_
  walk_at "dl"
  by_cases c : sd ax ay bx by_ cx cy = 0
  · rw [decide_eq_true c]
    walk_at "dl"
    refine draw_ev ok3 (by decide) (by unfold Bd; omega) fun r p4 q4 ok4 r0 r1 => ?_
    walk_at "dl"
    refine draw_ev ok4 (by decide) (by unfold Bd; omega) fun s p5 q5 ok5 s0 s1 => ?_
    walk_at "dl"
    refine lside_ev (by walk_at "cm") (by walk_at "cm") ?_
    have e : sd ax ay (ax + 1 + r) ay (ax + s) (ay + 2) = 2 * (r + 1) := by unfold sd; grind
    walk_at "dl"
    rw [decide_eq_true (by omega)]
    walk_at "dl"
    exact h _ _ _ _ _ _ _ _ ok5 (by omega) (by omega) (by omega) (by omega) (by omega) (by omega) (by omega) (by omega) (by omega) (by omega) (by omega) (by omega) (by omega)
  · rw [decide_eq_false c]
    walk_at "dl"
    refine lside_ev (by walk_at "cm") (by walk_at "cm") ?_
    walk_at "dl"
    by_cases c2 : 0 < sd ax ay bx by_ cx cy
    · rw [decide_eq_true c2]
      walk_at "dl"
      exact h _ _ _ _ _ _ _ _ ok3 (by omega) (by omega) (by omega) (by omega) (by omega) (by omega) (by omega) (by omega) (by omega) (by omega) (by omega) (by omega) c2
    · rw [decide_eq_false c2]
      walk_at "dl"
      have e : sd ax ay cx cy bx by_ = - sd ax ay bx by_ cx cy := by unfold sd; grind
      exact h _ _ _ _ _ _ _ _ ok3 (by omega) (by omega) (by omega) (by omega) (by omega) (by omega) (by omega) (by omega) (by omega) (by omega) (by omega) (by omega) (by omega)

theorem ediv_bd {a m A : Int} (h1 : -A ≤ a) (h2 : a ≤ A) (hm : 0 < m) : -A ≤ a / m ∧ a / m ≤ A := by
  have hA : 0 ≤ A := by omega
  have e := Int.mul_ediv_add_emod a m
  have r0 := Int.emod_nonneg a (show m ≠ 0 by omega)
  have r1 := Int.emod_lt_of_pos a hm
  constructor
  · apply Int.le_ediv_of_mul_le hm
    have := Int.mul_le_mul_of_nonneg_left (show 1 ≤ m by omega) hA
    rw [Int.neg_mul]
    omega
  · apply Int.not_lt.mp
    intro h
    have h3 : A + 1 ≤ a / m := by omega
    have h4 := Int.mul_le_mul_of_nonneg_left h3 (show 0 ≤ m by omega)
    have h5 := Int.mul_le_mul_of_nonneg_right (show 1 ≤ m by omega) (show 0 ≤ A + 1 by omega)
    omega
theorem even_pair (N : Int) : 2 * (N * (N - 1) / 2) = N * (N - 1) := by
  have h : N * (N - 1) % 2 = 0 := by
    rcases Int.emod_two_eq N with c | c
    · rw [Int.mul_emod, c]
      simp
    · have c2 : (N - 1) % 2 = 0 := by omega
      rw [Int.mul_emod, c2]
      simp
  omega
/-- bounds of the loop -/
def Fit (N : Nat) (a b m : Int) : Prop := (N : Int) ≤ 10 ^ 95 ∧ (-(10 ^ 190) < a ∧ a < 10 ^ 190) ∧ (-(10 ^ 190) < b ∧ b < 10 ^ 190) ∧ 0 < m ∧ m ≤ 10 ^ 95
theorem sum_ev {N : Nat} {a b m : Int} (fit : Fit N a b m) (h : Q (.int (FS.S a b m N)) μ) : sp_sum_of_floors [.int N, .int a, .int b, .int m] μ Q Xd := by
  unfold sp_sum_of_floors w_sum_of_floors
  walk_at "dl"
  refine while_ind (fun k ρ μ' => μ' = μ ∧ ∃ (N' : Nat) (a' b' m' f s : Int) (x : Sl), ρ = [.v (.int N'), .v (.int a'), .v (.int b'), .v (.int m'), .v (.int f), .v (.int s), x] ∧ Fit N' a' b' m' ∧ (s = 1 ∨ s = -1) ∧ f + s * FS.S a' b' m' N' = FS.S a b m N ∧ k = m'.toNat) (fun k ρ μ' K hI hK => ?_) (n := m.toNat) ⟨rfl, N, a, b, m, 0, 1, .no, rfl, fit, .inl rfl, by omega, rfl⟩
  obtain ⟨rfl, N', a', b', m', f, s, x, rfl, ⟨g1, g2, g3, g4, g5⟩, hs, tot, rfl⟩ := hI
  walk_at "dl"
  by_cases c : 0 < (N' : Int)
  · rw [decide_eq_true c]
    walk_at "dl"
    obtain ⟨n, hn⟩ : ∃ n : Nat, N' = n + 1 := ⟨N' - 1, by omega⟩
    subst hn
    have cn : ((n + 1 : Nat) : Int) - 1 = n := by omega
    have ra0 := Int.emod_nonneg a' (show m' ≠ 0 by omega)
    have ra1 := Int.emod_lt_of_pos a' g4
    have rb0 := Int.emod_nonneg b' (show m' ≠ 0 by omega)
    have rb1 := Int.emod_lt_of_pos b' g4
    have qa := ediv_bd (A := 10 ^ 190) (by omega) (by omega) g4 (a := a')
    have qb := ediv_bd (A := 10 ^ 190) (by omega) (by omega) g4 (a := b')
    have np0 : (0 : Int) ≤ ((n + 1 : Nat) : Int) * (((n + 1 : Nat) : Int) - 1) := Int.mul_nonneg (by omega) (by omega)
    have np1 : ((n + 1 : Nat) : Int) * (((n + 1 : Nat) : Int) - 1) ≤ 10 ^ 95 * 10 ^ 95 := Int.mul_le_mul (by omega) (by omega) (by omega) (by omega)
    have ev := even_pair ((n + 1 : Nat) : Int)
    have md := FS.S_mod a' b' g4 (n + 1)
    have am0 : 0 ≤ a' % m' * (((n + 1 : Nat) : Int) - 1) := Int.mul_nonneg ra0 (by omega)
    have am1 : a' % m' * (((n + 1 : Nat) : Int) - 1) ≤ (m' - 1) * (((n + 1 : Nat) : Int) - 1) := Int.mul_le_mul_of_nonneg_right (by omega) (by omega)
    have key : f + s * (((n + 1 : Nat) : Int) * (((n + 1 : Nat) : Int) - 1) / 2 * (a' / m') + ((n + 1 : Nat) : Int) * (b' / m')) + s * FS.S (a' % m') (b' % m') m' (n + 1) = FS.S a b m N := by
      rw [← tot]
      generalize ((n + 1 : Nat) : Int) * (((n + 1 : Nat) : Int) - 1) / 2 = hh at ev ⊢
      rw [← ev] at md
      have e2 : FS.S a' b' m' (n + 1) = hh * (a' / m') + ((n + 1 : Nat) : Int) * (b' / m') + FS.S (a' % m') (b' % m') m' (n + 1) := by
        have e3 : 2 * hh * (a' / m') = 2 * (hh * (a' / m')) := Int.mul_assoc _ _ _
        omega
      rw [e2]
      rcases hs with rfl | rfl <;> omega
    have mo0 : 0 ≤ (a' % m' * (((n + 1 : Nat) : Int) - 1) + b' % m') / m' := Int.ediv_nonneg (by omega) (by omega)
    have mo1 : (a' % m' * (((n + 1 : Nat) : Int) - 1) + b' % m') / m' < ((n + 1 : Nat) : Int) := by
      apply Int.ediv_lt_of_lt_mul g4
      have e4 : ((n + 1 : Nat) : Int) * m' = (m' - 1) * (((n + 1 : Nat) : Int) - 1) + m' + (((n + 1 : Nat) : Int) - 1) := by grind
      omega
    refine ⟨cm_bd (by unfold Bd; omega) (by unfold Bd; omega), cd_bd (by decide) (by unfold Bd; omega), cd_bd g4 (by unfold Bd; omega), cm_bd (by unfold Bd; omega) (by unfold Bd; omega), cd_bd g4 (by unfold Bd; omega), cm_bd (by unfold Bd; omega) (by unfold Bd; omega),
      .inl (.inl (by rcases hs with rfl | rfl <;> decide)), g4, g4, cm_bd (by unfold Bd; omega) (by unfold Bd; omega), cd_bd g4 (by unfold Bd; omega), ?_⟩
    obtain ⟨M, hM⟩ := Int.eq_ofNat_of_zero_le mo0
    rw [hM]
    by_cases c2 : (M : Int) = 0
    · rw [decide_eq_true c2]
      walk_at "dl"
      have lt : a' % m' * (((n + 1 : Nat) : Int) - 1) + b' % m' < m' := by
        have e5 := Int.mul_ediv_add_emod (a' % m' * (((n + 1 : Nat) : Int) - 1) + b' % m') m'
        have e6 := Int.emod_lt_of_pos (a' % m' * (((n + 1 : Nat) : Int) - 1) + b' % m') g4
        rw [hM, c2, Int.mul_zero] at e5
        omega
      rw [FS.S_zero ra0 rb0 g4 (n + 1) lt, Int.mul_zero, Int.add_zero] at key
      rw [key]
      exact h
    · rw [decide_eq_false c2]
      walk_at "dl"
      have apos : 0 < a' % m' := by
        apply Int.not_le.mp
        intro hle
        have e7 : a' % m' = 0 := by omega
        rw [e7, Int.zero_mul, Int.zero_add, Int.ediv_eq_zero_of_lt rb0 rb1] at hM
        omega
      have fl := FS.flip apos rb0 rb1 g4 n M (by rw [← hM, cn])
      refine ⟨cm_bd (by rcases hs with rfl | rfl <;> (unfold Bd; omega)) (by unfold Bd; omega), cm_bd (by rcases hs with rfl | rfl <;> (unfold Bd; omega)) (by unfold Bd; omega), ?_⟩
      refine hK (a' % m').toNat _ _ (by omega) ⟨rfl, M, m', m' - b' % m' - 1 + a' % m', a' % m', _, -s, _, rfl, ⟨by omega, by omega, by omega, apos, by omega⟩, by omega, ?_, rfl⟩
      rw [← key, fl]
      have e8 : ((n : Int) + 1) = ((n + 1 : Nat) : Int) := by omega
      rw [e8]
      rcases hs with rfl | rfl
      · simp only [Int.one_mul]
        omega
      · simp only [Int.neg_mul, Int.one_mul, Int.neg_neg]
        omega
  · rw [decide_eq_false c]
    walk_at "dl"
    have z : N' = 0 := by omega
    subst z
    rw [FS.S] at tot
    have e : f = FS.S a b m N := by omega
    rw [e]
    exact h

def edD (R : SA.P → Bool) (st rx ry : Int) (a b : SA.P) : D := .obj "Edge" ["run", "rise", "step", "start", "rest", "tie"] [.int (b.1 - a.1), .int (b.2 - a.2), .int st, pd a, .tup [.int rx, .int ry], .int (SA.tie R a b)]
theorem tie_t {R : SA.P → Bool} {a b : SA.P} (h : R (SA.sb b a) = true) : SA.tie R a b = 0 := if_pos h
theorem tie_f {R : SA.P → Bool} {a b : SA.P} (h : R (SA.sb b a) = false) : SA.tie R a b = 1 := if_neg (by rw [h]; decide)
/-- numbers of a grid -/
def B30 (x : Int) : Prop := -1000000000000000000000000000000 ≤ x ∧ x ≤ 1000000000000000000000000000000
theorem atrow_ev {R : SA.P → Bool} {a b : SA.P} {st rx ry y : Int} (ba : BP a) (bb : BP b) (by_ : B6 y) (bx : B30 rx) (h : Q (.int (SA.atR R rx a b y)) μ) : sp_Edge_at_row [edD R st rx ry a b, .int y] μ Q Xd := by
  obtain ⟨a1, a2⟩ := ba
  obtain ⟨b1, b2⟩ := bb
  unfold edD sp_Edge_at_row w_Edge_at_row
  unfold SA.atR at h
  unfold B6 at *
  unfold B30 at bx
  walk_at "gn"
  exact h
theorem mul_b {x y A B : Int} (h1 : -A ≤ x) (h2 : x ≤ A) (h3 : -B ≤ y) (h4 : y ≤ B) : -(A * B) ≤ x * y ∧ x * y ≤ A * B := by
  have hA : 0 ≤ A := by omega
  have hB : 0 ≤ B := by omega
  have k : (x * y).natAbs ≤ (A * B).natAbs := by
    rw [Int.natAbs_mul, Int.natAbs_mul]
    exact Nat.mul_le_mul (by omega) (by omega)
  have := Int.mul_nonneg hA hB
  omega
theorem atR_b {R : SA.P → Bool} {a b : SA.P} {rx y : Int} (ba : BP a) (bb : BP b) (by_ : B6 y) (bx : B30 rx) : -(10 ^ 130) < SA.atR R rx a b y ∧ SA.atR R rx a b y < 10 ^ 130 := by
  obtain ⟨a1, a2⟩ := ba
  obtain ⟨b1, b2⟩ := bb
  unfold B6 at *
  unfold B30 at bx
  have m1 := mul_b (x := b.1 - a.1) (y := y - a.2) (A := 10 ^ 61) (B := 10 ^ 61) (by omega) (by omega) (by omega) (by omega)
  have m2 := mul_b (x := b.2 - a.2) (y := rx - a.1) (A := 10 ^ 61) (B := 10 ^ 61) (by omega) (by omega) (by omega) (by omega)
  have ht : SA.tie R a b = 0 ∨ SA.tie R a b = 1 := by
    unfold SA.tie
    split <;> omega
  unfold SA.atR
  omega
theorem dn_b {a b : SA.P} {st : Int} (ba : BP a) (bb : BP b) (bs : B30 st) : SA.dn st a b ≤ 10 ^ 92 := by
  obtain ⟨a1, a2⟩ := ba
  obtain ⟨b1, b2⟩ := bb
  unfold B6 at *
  unfold B30 at bs
  have m2 := mul_b (x := b.2 - a.2) (y := st) (A := 10 ^ 61) (B := 10 ^ 31) (by omega) (by omega) (by omega) (by omega)
  unfold SA.dn
  omega
theorem cm_rs {a b : SA.P} {st : Int} (ba : BP a) (bb : BP b) (bs : B30 st) : CM (b.1 - a.1) st ∧ CM (b.2 - a.2) st := by
  obtain ⟨a1, a2⟩ := ba
  obtain ⟨b1, b2⟩ := bb
  unfold B6 at *
  unfold B30 at bs
  exact ⟨cm_bd (by unfold Bd; omega) (by unfold Bd; omega), cm_bd (by unfold Bd; omega) (by unfold Bd; omega)⟩
theorem abs_dn {a b : SA.P} {st : Int} : (if (b.2 - a.2) * st < 0 then -((b.2 - a.2) * st) else (b.2 - a.2) * st) = SA.dn st a b := by
  unfold SA.dn
  split <;> omega
theorem floorat_ev {R : SA.P → Bool} {a b : SA.P} {st rx ry y : Int} (ba : BP a) (bb : BP b) (by_ : B6 y) (bx : B30 rx) (bs : B30 st) (hst : 1 ≤ st) (ne : a.2 ≠ b.2) (h : Q (.int (SA.flo R st rx a b y)) μ) : sp_Edge_floor_at [edD R st rx ry a b, .int y] μ Q Xd := by
  have ae := fun (μ : Mu) (Q : D → Mu → Prop) (Xd : XD) h => atrow_ev (R := R) (st := st) (ry := ry) (μ := μ) (Q := Q) (Xd := Xd) ba bb by_ bx h
  have p := SA.dn_pos (a := a) (b := b) hst ne
  have q := dn_b ba bb bs
  unfold sp_Edge_floor_at w_Edge_floor_at
  unfold edD at ae ⊢
  unfold SA.flo at h
  walk_at "gn"
  refine ae _ _ _ ?_
  walk_at "gn"
  rw [abs_dn]
  exact ⟨(cm_rs ba bb bs).2, cd_bd p (by unfold Bd; omega), h⟩
theorem sumrows_ev {R : SA.P → Bool} {a b : SA.P} {st rx ry y : Int} {n : Nat} (ba : BP a) (bb : BP b) (by_ : B6 y) (bx : B30 rx) (bs : B30 st) (hst : 1 ≤ st) (ne : a.2 ≠ b.2) (hn : (n : Int) ≤ 10 ^ 90) (h : Q (.int (FS.S ((b.1 - a.1) * st) (SA.atR R rx a b y) (SA.dn st a b) n)) μ) : sp_Edge_sum_of_rows [edD R st rx ry a b, .int y, .int n] μ Q Xd := by
  have ae := fun (μ : Mu) (Q : D → Mu → Prop) (Xd : XD) h => atrow_ev (R := R) (st := st) (ry := ry) (μ := μ) (Q := Q) (Xd := Xd) ba bb by_ bx h
  have p := SA.dn_pos (a := a) (b := b) hst ne
  have q := dn_b ba bb bs
  have ab := atR_b (R := R) ba bb by_ bx
  have m1 : -(10 ^ 61 * 10 ^ 31) ≤ (b.1 - a.1) * st ∧ (b.1 - a.1) * st ≤ 10 ^ 61 * 10 ^ 31 := by
    obtain ⟨a1, a2⟩ := ba
    obtain ⟨b1, b2⟩ := bb
    unfold B6 at *
    unfold B30 at bs
    exact mul_b (by omega) (by omega) (by omega) (by omega)
  have m2 := (cm_rs ba bb bs).1
  have m3 := (cm_rs ba bb bs).2
  unfold sp_Edge_sum_of_rows w_Edge_sum_of_rows
  unfold edD at ae ⊢
  walk_at "gn"
  refine ae _ _ _ ?_
  walk_at "gn"
  rw [abs_dn]
  refine sum_ev ⟨by omega, ⟨by omega, by omega⟩, ⟨by omega, by omega⟩, p, by omega⟩ ?_
  walk_at "gn"
  exact h
def spr (a b : SA.P) (low high : Int) : Bool := decide (min a.2 b.2 ≤ low) && (decide (high ≤ max a.2 b.2) && decide (min a.2 b.2 < max a.2 b.2))
theorem spans_ev {R : SA.P → Bool} {a b : SA.P} {st rx ry low high : Int} (h : Q (.bl (spr a b low high)) μ) : sp_Edge_spans_rows [edD R st rx ry a b, .int low, .int high] μ Q Xd := by
  unfold spr at h
  unfold edD sp_Edge_spans_rows w_Edge_spans_rows
  walk_at "gn"
  rw [show a.2 + (b.2 - a.2) = b.2 by omega]
  by_cases c : b.2 < a.2
  · rw [show min a.2 b.2 = b.2 by omega, show max a.2 b.2 = a.2 by omega] at h
    rw [decide_eq_true c]
    walk_at "gn"
    refine andv_go (c := decide (high ≤ a.2) && decide (b.2 < a.2)) (fun K hK => ?_) h
    walk_at "gn"
    refine andv_go (c := decide (b.2 < a.2)) (fun K2 hK2 => ?_) hK
    walk_at "gn"
    exact hK2
  · rw [show min a.2 b.2 = a.2 by omega, show max a.2 b.2 = b.2 by omega] at h
    rw [decide_eq_false c]
    walk_at "gn"
    refine andv_go (c := decide (high ≤ b.2) && decide (a.2 < b.2)) (fun K hK => ?_) h
    walk_at "gn"
    refine andv_go (c := decide (a.2 < b.2)) (fun K2 hK2 => ?_) hK
    walk_at "gn"
    exact hK2
theorem spr_spn {a b : SA.P} {low high y : Int} (h1 : low < y) (h2 : y < high) (ha : a.2 ≤ low ∨ high ≤ a.2) (hb : b.2 ≤ low ∨ high ≤ b.2) : spr a b low high = decide (SA.spn a b y) := by
  unfold spr SA.spn
  by_cases c : (a.2 < y ∧ y < b.2) ∨ (b.2 < y ∧ y < a.2)
  · rw [decide_eq_true c, decide_eq_true (by omega), decide_eq_true (by omega), decide_eq_true (by omega)]
    rfl
  · rw [decide_eq_false c]
    by_cases d : min a.2 b.2 ≤ low ∧ high ≤ max a.2 b.2
    · exfalso
      omega
    · by_cases e : min a.2 b.2 ≤ low
      · rw [decide_eq_false (show ¬ high ≤ max a.2 b.2 from fun k => d ⟨e, k⟩)]
        simp
      · rw [decide_eq_false e]
        simp
theorem rowsfrom_ev {R : SA.P → Bool} {t : SA.T3} {st rx ry l h p q : Int} (g : SA.Good t) (bt : BT t) (bx : B30 rx) (bs : B30 st) (hst : 1 ≤ st) (bl : B6 l) (bh : B6 h) (hl : p < l) (hh : h < q) (ha : t.a.2 ≤ p ∨ q ≤ t.a.2) (hb : t.b.2 ≤ p ∨ q ≤ t.b.2) (hc : t.c.2 ≤ p ∨ q ≤ t.c.2) (lo : t.a.2 ≤ p ∨ t.b.2 ≤ p ∨ t.c.2 ≤ p) (hi : q ≤ t.a.2 ∨ q ≤ t.b.2 ∨ q ≤ t.c.2)
    (k : Q (.int (SA.sumR (SA.rowC R t st rx) st ry l h)) μ) : sp_rows_from [.lst [edD R st rx ry t.a t.b, edD R st rx ry t.b t.c, edD R st rx ry t.c t.a], gd st rx ry, .int l, .int h, .int p, .int q] μ Q Xd := by
  obtain ⟨a, b, c⟩ := t
  simp only at *
  have bst : Bd st := by
    unfold B30 at bs
    unfold Bd
    omega
  unfold sp_rows_from w_rows_from
  walk_at "gn"
  refine ff_ev hst bst ?_
  walk_at "gn"
  have fl : l ≤ SP.fst l ry st ∧ SP.fst l ry st < l + st := by
    unfold SP.fst
    have m1 := Int.emod_nonneg (ry - l) (show st ≠ 0 by omega)
    have m2 := Int.emod_lt_of_pos (ry - l) (show 0 < st by omega)
    omega
  by_cases ne : SP.fst l ry st ≤ h
  · rw [decide_eq_false (show ¬ h < SP.fst l ry st by omega)]
    walk_at "gn"
    refine ⟨cd_bd (by omega) bst, ?_⟩
    obtain ⟨y0, hy0⟩ : ∃ y0, y0 = SP.fst l ry st := ⟨_, rfl⟩
    rw [← hy0] at ne fl ⊢
    have q0 : (0 : Int) ≤ (h - y0) / st := Int.ediv_nonneg (by omega) (by omega)
    have q1 : (h - y0) / st ≤ h - y0 := Int.ediv_le_self st (by omega)
    have em : (h - y0) / st + 1 = ((((h - y0) / st + 1).toNat : Nat) : Int) := by omega
    have by0 : B6 y0 := by
      unfold B6 at *
      omega
    have gs := SA.gap_sum (R := R) (rx := rx) (ry := ry) g hst hl hh ha hb hc lo hi
    rw [SA.sumR_cnt (by rw [← hy0]; exact ne) hst] at gs
    have es := fun (u v : SA.P) (hu : u.2 ≤ p ∨ q ≤ u.2) (hv : v.2 ≤ p ∨ q ≤ v.2) => SA.edge_sum (R := R) (rx := rx) (ry := ry) (a := u) (b := v) hst (SA.spn_all hl hh hu hv) (by rw [← hy0]; exact ne)
    rw [← hy0] at gs es
    unfold SA.many at gs es
    generalize hM : ((h - y0) / st + 1).toNat = M at em es
    rw [em] at gs ⊢
    have hM2 : (M : Int) ≤ 10 ^ 90 := by
      unfold B6 at bl bh
      omega
    refine forL_pre (α := SA.P × SA.P) (f := fun e => edD R st rx ry e.1 e.2) (l := [(a, b), (b, c), (c, a)]) (fun pre ρ μ' => μ' = μ ∧ ∃ s9 : Sl, ρ = [.v (.lst [edD R st rx ry a b, edD R st rx ry b c, edD R st rx ry c a]), .v (gd st rx ry), .v (.int l), .v (.int h), .v (.int p), .v (.int q), .v (.int y0), .v (.int (M : Nat)), .v (.int ((M : Nat) + (pre.map fun e => SA.sumR (SA.spf R st rx e.1 e.2) st ry l h).sum)), s9])
      (fun pre x post e ρ μ' K hI hK => ?_) (fun ρ μ' hI => ?_) ⟨rfl, .no, by simp⟩
    · obtain ⟨rfl, s9, rfl⟩ := hI
      have hx : x ∈ [(a, b), (b, c), (c, a)] := by rw [e]; simp
      have key : BP x.1 ∧ BP x.2 ∧ (x.1.2 ≤ p ∨ q ≤ x.1.2) ∧ (x.2.2 ≤ p ∨ q ≤ x.2.2) := by
        simp only [List.mem_cons, List.not_mem_nil, or_false] at hx
        rcases hx with rfl | rfl | rfl
        · exact ⟨bt.1, bt.2.1, ha, hb⟩
        · exact ⟨bt.2.1, bt.2.2, hb, hc⟩
        · exact ⟨bt.2.2, bt.1, hc, ha⟩
      obtain ⟨bu, bv, hu, hv⟩ := key
      have go : ∀ v : Int, v = SA.sumR (SA.spf R st rx x.1 x.2) st ry l h → K [.v (.lst [edD R st rx ry a b, edD R st rx ry b c, edD R st rx ry c a]), .v (gd st rx ry), .v (.int l), .v (.int h), .v (.int p), .v (.int q), .v (.int y0), .v (.int (M : Nat)), .v (.int ((M : Nat) + (pre.map fun e => SA.sumR (SA.spf R st rx e.1 e.2) st ry l h).sum + v)), .v (edD R st rx ry x.1 x.2)] μ' := fun v ev => by
        have e2 : ((M : Nat) : Int) + ((pre ++ [x]).map fun e => SA.sumR (SA.spf R st rx e.1 e.2) st ry l h).sum = (M : Nat) + (pre.map fun e => SA.sumR (SA.spf R st rx e.1 e.2) st ry l h).sum + v := by
          rw [List.map_append, List.sum_append, ev]
          simp [Int.add_assoc]
        rw [← e2]
        exact hK _ _ ⟨rfl, _, rfl⟩
      clear hK
      walk_at "gn"
      refine ⟨rfl, rfl, spans_ev ?_⟩
      rw [spr_spn (y := y0) (by omega) (by omega) hu hv]
      have ex := es x.1 x.2 hu hv
      by_cases c : SA.spn x.1 x.2 y0
      · rw [if_pos c] at ex
        rw [decide_eq_true c]
        walk_at "gn"
        have nx : x.1.2 ≠ x.2.2 := by
          unfold SA.spn at c
          omega
        refine ⟨rfl, rfl, sumrows_ev bu bv by0 bx bs hst nx hM2 ?_⟩
        walk_at "gn"
        exact go _ ex.symm
      · rw [if_neg c] at ex
        rw [decide_eq_false c]
        walk_at "gn"
        have := go 0 ex.symm
        rw [Int.add_zero] at this
        exact this
    · obtain ⟨rfl, s9, rfl⟩ := hI
      have e : ((M : Nat) : Int) + (([(a, b), (b, c), (c, a)] : List (SA.P × SA.P)).map fun e => SA.sumR (SA.spf R st rx e.1 e.2) st ry l h).sum = SA.sumR (SA.rowC R ⟨a, b, c⟩ st rx) st ry l h := by
        rw [gs]
        simp only [List.map_cons, List.map_nil, List.sum_cons, List.sum_nil]
        omega
      rw [e]
      walk_at "gn"
      exact k
  · rw [decide_eq_true (show h < SP.fst l ry st by omega)]
    walk_at "gn"
    have e : SA.sumR (SA.rowC R ⟨a, b, c⟩ st rx) st ry l h = 0 := by
      unfold SA.sumR SA.rows
      rw [SP.ups_nil hst (by omega)]
      rfl
    rw [e] at k
    exact k
def wy3 (t : SA.T3) : List (SA.P × SA.P) := [(t.a, t.b), (t.b, t.c), (t.c, t.a)]
def fsL (R : SA.P → Bool) (st rx y : Int) (l : List (SA.P × SA.P)) : List Int := (l.filter fun e => decide (e.2.2 < e.1.2)).map fun e => -(SA.flo R st rx e.1 e.2 y)
def lsL (R : SA.P → Bool) (st rx y : Int) (l : List (SA.P × SA.P)) : List Int := (l.filter fun e => decide (e.1.2 < e.2.2)).map fun e => SA.flo R st rx e.1 e.2 y
theorem own_row {R : SA.P → Bool} {t : SA.T3} {st rx y j : Int} (hst : 1 ≤ st) (fl : ∀ e ∈ wy3 t, e.2.2 = e.1.2 → 0 ≤ SA.atR R rx e.1 e.2 y) : SA.own R t (rx + st * j, y) = true ↔ (∀ f ∈ fsL R st rx y (wy3 t), f ≤ j) ∧ ∀ f ∈ lsL R st rx y (wy3 t), j ≤ f := by
  have key : ∀ e : SA.P × SA.P, (e.2.2 = e.1.2 → 0 ≤ SA.atR R rx e.1 e.2 y) → (SA.wOwn R e.1 e.2 (rx + st * j, y) = true ↔ (e.2.2 < e.1.2 → -(SA.flo R st rx e.1 e.2 y) ≤ j) ∧ (e.1.2 < e.2.2 → j ≤ SA.flo R st rx e.1 e.2 y)) := fun e he => by
    rw [SA.wOwn_at]
    by_cases c1 : e.1.2 < e.2.2
    · rw [SA.up_iff c1 (by omega)]
      exact ⟨fun k => ⟨fun q => by omega, fun _ => k⟩, fun k => k.2 c1⟩
    · by_cases c2 : e.2.2 < e.1.2
      · rw [SA.down_iff c2 (by omega)]
        exact ⟨fun k => ⟨fun _ => k, fun q => by omega⟩, fun k => k.1 c2⟩
      · rw [SA.flat_iff (by omega)]
        exact ⟨fun k => ⟨fun q => by omega, fun q => by omega⟩, fun _ => he (by omega)⟩
  have hall : SA.own R t (rx + st * j, y) = true ↔ ∀ e ∈ wy3 t, SA.wOwn R e.1 e.2 (rx + st * j, y) = true := by
    obtain ⟨a, b, c⟩ := t
    rw [SA.own_iff3]
    unfold wy3
    simp only [List.mem_cons, List.not_mem_nil, or_false, forall_eq_or_imp, forall_eq]
  rw [hall]
  unfold fsL lsL
  constructor
  · intro k
    refine ⟨fun f hf => ?_, fun f hf => ?_⟩
    · obtain ⟨e, he, rfl⟩ := List.mem_map.mp hf
      obtain ⟨h1, h2⟩ := List.mem_filter.mp he
      exact ((key e (fl e h1)).mp (k e h1)).1 (of_decide_eq_true h2)
    · obtain ⟨e, he, rfl⟩ := List.mem_map.mp hf
      obtain ⟨h1, h2⟩ := List.mem_filter.mp he
      exact ((key e (fl e h1)).mp (k e h1)).2 (of_decide_eq_true h2)
  · rintro ⟨k1, k2⟩ e he
    refine (key e (fl e he)).mpr ⟨fun c => k1 _ (List.mem_map.mpr ⟨e, List.mem_filter.mpr ⟨he, decide_eq_true c⟩, rfl⟩), fun c => k2 _ (List.mem_map.mpr ⟨e, List.mem_filter.mpr ⟨he, decide_eq_true c⟩, rfl⟩)⟩
theorem up_down {t : SA.T3} (g : SA.Good t) : (∃ e ∈ wy3 t, e.1.2 < e.2.2) ∧ ∃ e ∈ wy3 t, e.2.2 < e.1.2 := by
  obtain ⟨a, b, c⟩ := t
  have hz : ¬ (b.2 = a.2 ∧ c.2 = a.2) := fun z => by
    unfold SA.Good SA.sd at g
    simp only at g
    rw [z.1, z.2] at g
    simp at g
  unfold wy3
  simp only [List.mem_cons, List.not_mem_nil, or_false, exists_eq_or_imp, exists_eq_left]
  omega
theorem ints_id : ∀ {l : List Int}, intsD (l.map D.int) = some l := fun {l} => by
  have := ints_of (f := fun i : Int => i) (l := l)
  rw [List.map_id'] at this
  exact this
theorem onrow_ev {R : SA.P → Bool} {t : SA.T3} {st rx ry y : Int} (g : SA.Good t) (bt : BT t) (bx : B30 rx) (bs : B30 st) (hst : 1 ≤ st) (by_ : B6 y) (h : Q (.int (SA.rowC R t st rx y)) μ) : sp_amount_on_row [.lst [edD R st rx ry t.a t.b, edD R st rx ry t.b t.c, edD R st rx ry t.c t.a], .int y] μ Q Xd := by
  unfold sp_amount_on_row w_amount_on_row
  walk_at "gn"
  intro p1
  walk_at "gn"
  intro p2
  walk_at "gn"
  refine forL_pre (α := SA.P × SA.P) (f := fun e => edD R st rx ry e.1 e.2) (l := wy3 t) (fun pre ρ μ' => μ' = μ ∧ (∀ e ∈ pre, e.2.2 = e.1.2 → 0 ≤ SA.atR R rx e.1 e.2 y) ∧ ∃ s4 : Sl, slv s4 = true ∧ ρ = [.v (.lst [edD R st rx ry t.a t.b, edD R st rx ry t.b t.c, edD R st rx ry t.c t.a]), .v (.int y), .own p1 (.lst ((fsL R st rx y pre).map D.int)), .own p2 (.lst ((lsL R st rx y pre).map D.int)), s4, .no, .no, .no])
      (fun pre x post e ρ μ' K hI hK => ?_) (fun ρ μ' hI => ?_) ⟨rfl, (fun e he => nomatch he), .no, rfl, rfl⟩
  · obtain ⟨rfl, fl, s4, n4, rfl⟩ := hI
    have hx : x ∈ wy3 t := by rw [e]; simp
    have key : BP x.1 ∧ BP x.2 := by
      unfold wy3 at hx
      simp only [List.mem_cons, List.not_mem_nil, or_false] at hx
      rcases hx with rfl | rfl | rfl
      · exact ⟨bt.1, bt.2.1⟩
      · exact ⟨bt.2.1, bt.2.2⟩
      · exact ⟨bt.2.2, bt.1⟩
    obtain ⟨bu, bv⟩ := key
    have lp : pre.length ≤ 3 := by
      have := congrArg List.length e
      rw [List.length_append] at this
      unfold wy3 at this
      simp at this
      omega
    have lf : (fsL R st rx y pre).length ≤ 3 := by
      unfold fsL
      rw [List.length_map]
      exact Nat.le_trans (List.length_filter_le _ _) lp
    have ll : (lsL R st rx y pre).length ≤ 3 := by
      unfold lsL
      rw [List.length_map]
      exact Nat.le_trans (List.length_filter_le _ _) lp
    have fe : fsL R st rx y (pre ++ [x]) = fsL R st rx y pre ++ if x.2.2 < x.1.2 then [-(SA.flo R st rx x.1 x.2 y)] else [] := by
      unfold fsL
      rw [List.filter_append, List.map_append, List.filter_cons, List.filter_nil]
      by_cases c : x.2.2 < x.1.2
      · rw [if_pos (decide_eq_true c), if_pos c]; rfl
      · rw [if_neg (by simpa using c), if_neg c]; rfl
    have le : lsL R st rx y (pre ++ [x]) = lsL R st rx y pre ++ if x.1.2 < x.2.2 then [SA.flo R st rx x.1 x.2 y] else [] := by
      unfold lsL
      rw [List.filter_append, List.map_append, List.filter_cons, List.filter_nil]
      by_cases c : x.1.2 < x.2.2
      · rw [if_pos (decide_eq_true c), if_pos c]; rfl
      · rw [if_neg (by simpa using c), if_neg c]; rfl
    have fin : ∀ (A B : List Int), A = fsL R st rx y (pre ++ [x]) → B = lsL R st rx y (pre ++ [x]) → (x.2.2 = x.1.2 → 0 ≤ SA.atR R rx x.1 x.2 y) → K [.v (.lst [edD R st rx ry t.a t.b, edD R st rx ry t.b t.c, edD R st rx ry t.c t.a]), .v (.int y), .own p1 (.lst (A.map D.int)), .own p2 (.lst (B.map D.int)), .v (edD R st rx ry x.1 x.2), .no, .no, .no] μ' := fun A B hA hB hx => by
      rw [hA, hB]
      refine hK _ _ ⟨rfl, fun e he => ?_, _, rfl, rfl⟩
      rcases List.mem_append.mp he with q | q
      · exact fl e q
      · rw [List.mem_singleton.mp q]
        exact hx
    rw [fe, le] at fin
    have ae := fun (μ : Mu) (Q : D → Mu → Prop) (Xd : XD) h => atrow_ev (R := R) (st := st) (ry := ry) (μ := μ) (Q := Q) (Xd := Xd) bu bv by_ bx h
    have oe := fun (ne : x.1.2 ≠ x.2.2) (μ : Mu) (Q : D → Mu → Prop) (Xd : XD) h => floorat_ev (R := R) (st := st) (rx := rx) (ry := ry) (y := y) (μ := μ) (Q := Q) (Xd := Xd) bu bv by_ bx bs hst ne h
    have zero : x.2.2 = x.1.2 → SA.atR R rx x.1 x.2 y < 0 → SA.rowC R t st rx y = 0 := fun z n => by
      have := SA.row_cnt (R := R) (T := t) (st := st) (rx := rx) (y := y) (lo := 1) (hi := 0) g hst fun j => by
        constructor
        · intro o
          exfalso
          have ox : SA.wOwn R x.1 x.2 (rx + st * j, y) = true := by
            obtain ⟨a, b, c⟩ := t
            have o3 := SA.own_iff3.mp o
            unfold wy3 at hx
            simp only [List.mem_cons, List.not_mem_nil, or_false] at hx
            rcases hx with rfl | rfl | rfl
            · exact o3.1
            · exact o3.2.1
            · exact o3.2.2
          rw [SA.wOwn_at, SA.flat_iff z] at ox
          omega
        · omega
      rw [this]
      rfl
    clear hK
    unfold edD at fin ae oe ⊢
    walk_at "gn"
    by_cases c0 : x.2.2 - x.1.2 = 0
    · rw [decide_eq_true c0]
      walk_at "gn"
      refine ae _ _ _ ?_
      walk_at "gn"
      by_cases c1 : SA.atR R rx x.1 x.2 y < 0
      · rw [decide_eq_true c1]
        rw [zero (by omega) c1] at h
        walk_at "gn"
        exact h
      · rw [decide_eq_false c1]
        walk_at "gn"
        rw [decide_eq_false (show ¬ x.2.2 - x.1.2 < 0 by omega)]
        walk_at "gn"
        rw [decide_eq_false (show ¬ 0 < x.2.2 - x.1.2 by omega)]
        walk_at "gn"
        exact fin _ _ (by rw [if_neg (by omega), List.append_nil]) (by rw [if_neg (by omega), List.append_nil]) (fun _ => by omega)
    · rw [decide_eq_false c0]
      walk_at "gn"
      by_cases c1 : x.2.2 - x.1.2 < 0
      · rw [decide_eq_true c1]
        walk_at "gn"
        refine oe (by omega) _ _ _ ?_
        walk_at "gn"
        refine ⟨by rw [List.length_map]; omega, ?_⟩
        rw [decide_eq_false (show ¬ 0 < x.2.2 - x.1.2 by omega)]
        walk_at "gn"
        have := fin _ _ (by rw [if_pos (by omega)]) (by rw [if_neg (by omega), List.append_nil]) (fun z => by omega)
        rw [List.map_append] at this
        exact this
      · rw [decide_eq_false c1]
        walk_at "gn"
        rw [decide_eq_true (show 0 < x.2.2 - x.1.2 by omega)]
        walk_at "gn"
        refine oe (by omega) _ _ _ ?_
        walk_at "gn"
        refine ⟨by rw [List.length_map]; omega, ?_⟩
        have := fin _ _ (by rw [if_neg (by omega), List.append_nil]) (by rw [if_pos (by omega)]) (fun z => by omega)
        rw [List.map_append] at this
        exact this
  · obtain ⟨rfl, fl, s4, n4, rfl⟩ := hI
    have lf : (fsL R st rx y (wy3 t)).length ≤ 1000000 := by
      unfold fsL wy3
      rw [List.length_map]
      exact Nat.le_trans (List.length_filter_le _ _) (by simp)
    have ll : (lsL R st rx y (wy3 t)).length ≤ 1000000 := by
      unfold lsL wy3
      rw [List.length_map]
      exact Nat.le_trans (List.length_filter_le _ _) (by simp)
    obtain ⟨⟨u, hu, cu⟩, v, hv, cv⟩ := up_down g
    have nl : lsL R st rx y (wy3 t) ≠ [] := fun z => by
      have : SA.flo R st rx u.1 u.2 y ∈ lsL R st rx y (wy3 t) := List.mem_map.mpr ⟨u, List.mem_filter.mpr ⟨hu, decide_eq_true cu⟩, rfl⟩
      rw [z] at this
      cases this
    have nf : fsL R st rx y (wy3 t) ≠ [] := fun z => by
      have : -(SA.flo R st rx v.1 v.2 y) ∈ fsL R st rx y (wy3 t) := List.mem_map.mpr ⟨v, List.mem_filter.mpr ⟨hv, decide_eq_true cv⟩, rfl⟩
      rw [z] at this
      cases this
    have ow := fun j => own_row (R := R) (t := t) (st := st) (rx := rx) (y := y) (j := j) hst fl
    generalize lsL R st rx y (wy3 t) = ls at *
    generalize fsL R st rx y (wy3 t) = fs at *
    walk_at "gn"
    refine lc_mp (α := Int) (f := D.int) (l := ls) D.int (fun z hz ds acc hacc hK => ?_) ll ?_
    · walk_at "gn"
      exact hK
    walk_at "gn"
    refine ⟨ls, ints_id, List.length_pos_iff.mpr nl, fun m hm hl => ?_⟩
    walk_at "gn"
    refine lc_mp (α := Int) (f := D.int) (l := fs) D.int (fun z hz ds acc hacc hK => ?_) lf ?_
    · walk_at "gn"
      exact hK
    walk_at "gn"
    refine ⟨fs, ints_id, List.length_pos_iff.mpr nf, fun m2 hm2 hl2 => ?_⟩
    have rc := SA.row_cnt (R := R) (T := t) (st := st) (rx := rx) (y := y) (lo := m2) (hi := m) g hst fun j => by
      rw [ow j]
      exact ⟨fun k => ⟨k.1 m2 hm2, k.2 m hm⟩, fun k => ⟨fun f hf => Int.le_trans (hl2 f hf) k.1, fun f hf => Int.le_trans k.2 (hl f hf)⟩⟩
    walk_at "gn"
    by_cases c : 0 < m - m2 + 1
    · rw [decide_eq_true c]
      walk_at "gn"
      rw [show m - m2 + 1 = SA.rowC R t st rx y by omega]
      exact h
    · rw [decide_eq_false c]
      walk_at "gn"
      rw [show SA.rowC R t st rx y = 0 by omega] at h
      exact h

theorem edge_init {Q : List Str → List D → Mu → Prop} {r : Rl} {a b : SA.P} {st rx ry : Int} (ok : RlOk r) (ba : BP a) (bb : BP b) (ne : SA.sb b a ≠ SA.O) (h : Q ["run", "rise", "step", "start", "rest", "tie"] [.int (b.1 - a.1), .int (b.2 - a.2), .int st, pd a, .tup [.int rx, .int ry], .int (SA.tie (rlR r) a b)] μ) : sp_Edge_init [rlD r, pd a, pd b, gd st rx ry] μ Q Xd := by
  unfold sp_Edge_init w_Edge_init
  refine ⟨rfl, fun x => ?_⟩
  walk_at "gn"
  refine lessp_ev ?_
  cases r with
  | tab bs =>
    unfold rlD
    walk_at "gn"
    refine tab_has (d := SA.sb b a) ok ne ?_
    cases v : tR bs (SA.sb b a)
    · rw [show SA.tie (rlR (.tab bs)) a b = 1 from tie_f (R := tR bs) v] at h
      walk_at "gn"
      exact h
    · rw [show SA.tie (rlR (.tab bs)) a b = 0 from tie_t (R := tR bs) v] at h
      walk_at "gn"
      exact h
  | half w ah =>
    unfold rlD
    walk_at "gn"
    refine half_has (d := SA.sb b a) (b6bd ok.2.1) (b6bd ok.2.2) (bd6 bb.1 ba.1) (bd6 bb.2 ba.2) ?_
    cases v : SA.hf w ah (SA.sb b a)
    · rw [show SA.tie (rlR (.half w ah)) a b = 1 from tie_f (R := SA.hf w ah) v] at h
      walk_at "gn"
      exact h
    · rw [show SA.tie (rlR (.half w ah)) a b = 0 from tie_t (R := SA.hf w ah) v] at h
      walk_at "gn"
      exact h

theorem any_ok {i : Int} (h : Q .non μ) : sp_check_any [.int i] μ Q Xd := by
  unfold sp_check_any w_check_any
  walk_at "dl"
  refine ii_int ?_
  walk_at "dl"
  exact h
/-- a bound of rows that may be None -/
def bdD : Option Int → D
  | none => .non
  | some i => .int i
/-- the bound that stands for it: below (above) all rows -/
def LowIs (o : Option Int) (L h0 : Int) : Prop := B6 L ∧ (o = none → L ≤ h0) ∧ ∀ l, o = some l → L = l
def HighIs (o : Option Int) (H h2 : Int) : Prop := B6 H ∧ (o = none → h2 ≤ H) ∧ ∀ l, o = some l → H = l
theorem gr_ev {x L h0 : Int} {o : Option Int} (ho : LowIs o L h0) (hx : h0 ≤ x) (h : Q (.int (max x L)) μ) : sp_greater_of [.int x, bdD o] μ Q Xd := by
  unfold sp_greater_of w_greater_of
  cases o with
  | none =>
    have := ho.2.1 rfl
    rw [show max x L = x by omega] at h
    unfold bdD
    walk_at "gn"
    exact h
  | some l =>
    have e := ho.2.2 l rfl
    subst e
    unfold bdD
    walk_at "gn"
    by_cases c : L < x
    · rw [decide_eq_true c]
      rw [show max x L = x by omega] at h
      walk_at "gn"
      exact h
    · rw [decide_eq_false c]
      rw [show max x L = L by omega] at h
      walk_at "gn"
      exact h
theorem ls_ev {x H h2 : Int} {o : Option Int} (ho : HighIs o H h2) (hx : x ≤ h2) (h : Q (.int (min x H)) μ) : sp_less_of [.int x, bdD o] μ Q Xd := by
  unfold sp_less_of w_less_of
  cases o with
  | none =>
    have := ho.2.1 rfl
    rw [show min x H = x by omega] at h
    unfold bdD
    walk_at "gn"
    exact h
  | some l =>
    have e := ho.2.2 l rfl
    subst e
    unfold bdD
    walk_at "gn"
    by_cases c : x < H
    · rw [decide_eq_true c]
      rw [show min x H = x by omega] at h
      walk_at "gn"
      exact h
    · rw [decide_eq_false c]
      rw [show min x H = H by omega] at h
      walk_at "gn"
      exact h
theorem perm3 {t : SA.T3} {s : List Int} (hp : s.Perm [t.a.2, t.b.2, t.c.2]) (hs : s.Pairwise (· ≤ ·)) : ∃ h0 h1 h2, s = [h0, h1, h2] ∧ h0 ≤ h1 ∧ h1 ≤ h2 ∧ h0 = SA.ylo t ∧ h2 = SA.yhi t ∧ (t.a.2 = h0 ∨ t.a.2 = h1 ∨ t.a.2 = h2) ∧ (t.b.2 = h0 ∨ t.b.2 = h1 ∨ t.b.2 = h2) ∧ (t.c.2 = h0 ∨ t.c.2 = h1 ∨ t.c.2 = h2) ∧ (h1 = t.a.2 ∨ h1 = t.b.2 ∨ h1 = t.c.2) := by
  have hl := hp.length_eq
  match s, hl with
  | [h0, h1, h2], _ =>
    have m := fun x => hp.mem_iff (a := x)
    have ma := (m t.a.2).mpr (by simp)
    have mb := (m t.b.2).mpr (by simp)
    have mc := (m t.c.2).mpr (by simp)
    have m0 := (m h0).mp (by simp)
    have m1 := (m h1).mp (by simp)
    have m2 := (m h2).mp (by simp)
    simp only [List.mem_cons, List.not_mem_nil, or_false] at ma mb mc m0 m1 m2
    simp only [List.pairwise_cons, List.mem_cons, List.not_mem_nil, or_false, forall_eq_or_imp, forall_eq] at hs
    unfold SA.ylo SA.yhi
    refine ⟨h0, h1, h2, rfl, ?_, ?_, ?_, ?_, ma, mb, mc, m1⟩ <;> omega
theorem em_iff {st ry y : Int} (hst : 1 ≤ st) (y0 : 0 ≤ ry) (y1 : ry < st) : y % st = ry ↔ (y - ry) % st = 0 := by
  have := Int.emod_eq_emod_iff_emod_sub_eq_zero (m := y) (n := st) (k := ry)
  rw [Int.emod_eq_of_lt y0 y1] at this
  exact this
theorem amount_ev {r : Rl} {t : SA.T3} {st rx ry L H : Int} {lo hi : Option Int} (ok : RlOk r) (g : SA.Good t) (bt : BT t) (bs : B30 st) (hst : 1 ≤ st) (x0 : 0 ≤ rx) (x1 : rx < st) (y0 : 0 ≤ ry) (y1 : ry < st) (hlo : LowIs lo L (SA.ylo t)) (hhi : HighIs hi H (SA.yhi t)) (h : Q (.int (SA.amt (rlR r) t st rx ry L H)) μ) : sp_amount [rlD r, trd t, gd st rx ry, bdD lo, bdD hi] μ Q Xd := by
  have bx : B30 rx := by
    unfold B30 at *
    omega
  have bst : Bd st := by
    unfold B30 at bs
    unfold Bd
    omega
  have nz3 := SA.sd_ne g
  unfold sp_amount w_amount trd
  walk_at "ds"
  refine jn (fun ρ μ' => μ' = μ ∧ ∃ s5 : Sl, ρ = [.v (rlD r), .v (.obj "Triangle" ["pairs"] [.lst [pd t.a, pd t.b, pd t.c]]), .v (gd st rx ry), .v (bdD lo), .v (bdD hi), s5, .no, .no, .no, .no, .no, .no, .no, .no, .no, .no]) (fun K hK => ?_) fun ρ μ' hI => ?_
  · walk_at "gn"
    refine forL_inv (fun ρ μ' => μ' = μ ∧ ∃ s5 : Sl, ρ = [.v (rlD r), .v (.obj "Triangle" ["pairs"] [.lst [pd t.a, pd t.b, pd t.c]]), .v (gd st rx ry), .v (bdD lo), .v (bdD hi), s5, .no, .no, .no, .no, .no, .no, .no, .no, .no, .no]) (fun ρ μ' hI => hK _ _ hI) (fun d hd ρ μ' K1 hI hK1 => ?_) ⟨rfl, _, rfl⟩
    obtain ⟨rfl, s5, rfl⟩ := hI
    have hd2 : d = .non ∨ ∃ i, d = .int i := by
      simp only [List.mem_cons, List.not_mem_nil, or_false] at hd
      rcases hd with rfl | rfl
      · cases lo
        · exact .inl rfl
        · exact .inr ⟨_, rfl⟩
      · cases hi
        · exact .inl rfl
        · exact .inr ⟨_, rfl⟩
    rcases hd2 with rfl | ⟨i, rfl⟩
    · walk_at "gn"
      exact hK1 _ _ ⟨rfl, _, rfl⟩
    · walk_at "gn"
      refine any_ok ?_
      walk_at "gn"
      exact hK1 _ _ ⟨rfl, _, rfl⟩
  · obtain ⟨rfl, s5, rfl⟩ := hI
    walk_at "gn"
    refine ways_ev ?_
    walk_at "gn"
    refine edge_init ok bt.1 bt.2.1 nz3.1 ?_
    walk_at "gn"
    refine edge_init ok bt.2.1 bt.2.2 nz3.2.1 ?_
    walk_at "gn"
    refine edge_init ok bt.2.2 bt.1 nz3.2.2 ?_
    walk_at "gn"
    refine sortW_go (ns := [t.a.2, t.b.2, t.c.2]) fun s hp hs => ?_
    obtain ⟨h0, h1, h2, rfl, le1, le2, e0, e2, ia, ib, ic, i1⟩ := perm3 hp hs
    have bh : ∀ z, z = t.a.2 ∨ z = t.b.2 ∨ z = t.c.2 → B6 z := fun z hz => by
      rcases hz with rfl | rfl | rfl
      · exact bt.1.2
      · exact bt.2.1.2
      · exact bt.2.2.2
    have b0 : B6 h0 := bh h0 (by rw [e0]; unfold SA.ylo; omega)
    have b1 : B6 h1 := bh h1 i1
    have b2 : B6 h2 := bh h2 (by rw [e2]; unfold SA.yhi; omega)
    rw [← e0] at hlo
    rw [← e2] at hhi
    walk_at "ds"
    refine jn (fun ρ μ'' => μ'' = μ' ∧ ρ = [.v (rlD r), .v (trd t), .v (gd st rx ry), .v (bdD lo), .v (bdD hi), s5, .v (.lst [edD (rlR r) st rx ry t.a t.b, edD (rlR r) st rx ry t.b t.c, edD (rlR r) st rx ry t.c t.a]), .v (.lst [.int h0, .int h1, .int h2]), .v (.int 0), .no, .no, .no, .no, .no, .no, .no]) (fun K hK => ?_) fun ρ μ'' hI => ?_
    · walk_at "gn"
      exact hK _ _ ⟨rfl, rfl⟩
    obtain ⟨rfl, rfl⟩ := hI
    walk_at "ds"
    refine jn (fun ρ μ' => μ' = μ'' ∧ ∃ s9 s10 : Sl, ρ = [.v (rlD r), .v (trd t), .v (gd st rx ry), .v (bdD lo), .v (bdD hi), s5, .v (.lst [edD (rlR r) st rx ry t.a t.b, edD (rlR r) st rx ry t.b t.c, edD (rlR r) st rx ry t.c t.a]), .v (.lst [.int h0, .int h1, .int h2]), .v (.int (SA.clip (SA.rowC (rlR r) t st rx) st ry L H h0 h0 + (if h1 = h0 then 0 else SA.clip (SA.rowC (rlR r) t st rx) st ry L H h1 h1) + (if h2 = h0 ∨ h2 = h1 then 0 else SA.clip (SA.rowC (rlR r) t st rx) st ry L H h2 h2))), s9, s10, .no, .no, .no, .no, .no]) (fun K hK => ?_) fun ρ μ' hI => ?_
    · walk_at "gn"
      obtain ⟨tm, htm⟩ : ∃ tm : Nat × Int → Int, tm = fun e => if e.2 ∈ ([h0, h1, h2].take e.1) then 0 else SA.clip (SA.rowC (rlR r) t st rx) st ry L H e.2 e.2 := ⟨_, rfl⟩
      refine forL_pre (α := Nat × Int) (f := fun e => .tup [.int (e.1 : Nat), .int e.2]) (l := [(0, h0), (1, h1), (2, h2)]) (fun pre ρ μ' => μ' = μ'' ∧ ∃ s9 s10 : Sl, ρ = [.v (rlD r), .v (trd t), .v (gd st rx ry), .v (bdD lo), .v (bdD hi), s5, .v (.lst [edD (rlR r) st rx ry t.a t.b, edD (rlR r) st rx ry t.b t.c, edD (rlR r) st rx ry t.c t.a]), .v (.lst [.int h0, .int h1, .int h2]), .v (.int ((pre.map tm).sum)), s9, s10, .no, .no, .no, .no, .no])
        (fun pre x post e ρ μ' K1 hI hK1 => ?_) (fun ρ μ' hI => ?_) ⟨rfl, .no, .no, rfl⟩
      · obtain ⟨rfl, s9, s10, rfl⟩ := hI
        have fin : ∀ (v : Int) (s9 s10 : Sl), v = (pre.map tm).sum + tm x → K1 [.v (rlD r), .v (trd t), .v (gd st rx ry), .v (bdD lo), .v (bdD hi), s5, .v (.lst [edD (rlR r) st rx ry t.a t.b, edD (rlR r) st rx ry t.b t.c, edD (rlR r) st rx ry t.c t.a]), .v (.lst [.int h0, .int h1, .int h2]), .v (.int v), s9, s10, .no, .no, .no, .no, .no] μ' := fun v s9 s10 ev => by
          refine hK1 _ _ ⟨rfl, s9, s10, ?_⟩
          rw [List.map_append, List.sum_append, ev]
          simp
        have hx : x ∈ [(0, h0), (1, h1), (2, h2)] := by rw [e]; simp
        clear hK1 hK e
        generalize (pre.map tm).sum = acc at *
        simp only [List.mem_cons, List.not_mem_nil, or_false] at hx
        rcases hx with rfl | rfl | rfl
        · walk_at "gn"
          refine ind_pl rfl rfl ?_
          rw [show ((DL.cutD [D.int h0, D.int h1, D.int h2] none (some 0)).any fun d => deq d (D.int h0)) = false from rfl]
          walk_at "gn"
          have nd : tm (0, h0) = SA.clip (SA.rowC (rlR r) t st rx) st ry L H h0 h0 := by rw [htm]; exact if_neg (by simp)
          rw [nd, SA.clip_one hst] at fin
          by_cases cm : h0 % st = ry
          · rw [decide_eq_true cm]
            walk_at "gn"
            refine gr_ev hlo (Int.le_refl _) ?_
            walk_at "gn"
            by_cases c3 : L ≤ h0
            · rw [decide_eq_true (show h0 = max h0 L by omega)]
              walk_at "gn"
              refine ls_ev hhi (Int.le_trans le1 le2) ?_
              walk_at "gn"
              by_cases c4 : h0 ≤ H
              · rw [decide_eq_true (show h0 = min h0 H by omega)]
                walk_at "gn"
                refine onrow_ev g bt bx bs hst b0 ?_
                walk_at "gn"
                exact fin _ _ _ (by rw [if_pos ⟨(em_iff hst y0 y1).mp cm, c3, c4⟩])
              · rw [decide_eq_false (show ¬ h0 = min h0 H by omega)]
                walk_at "gn"
                exact fin _ _ _ (by rw [if_neg (fun k => c4 k.2.2), Int.add_zero])
            · rw [decide_eq_false (show ¬ h0 = max h0 L by omega)]
              walk_at "gn"
              exact fin _ _ _ (by rw [if_neg (fun k => c3 k.2.1), Int.add_zero])
          · rw [decide_eq_false cm]
            walk_at "gn"
            exact fin _ _ _ (by rw [if_neg (fun k => cm ((em_iff hst y0 y1).mpr k.1)), Int.add_zero])
        · walk_at "gn"
          refine ind_pl rfl rfl ?_
          rw [show ((DL.cutD [D.int h0, D.int h1, D.int h2] none (some 1)).any fun d => deq d (D.int h1)) = decide (h0 = h1) by rw [show DL.cutD [D.int h0, D.int h1, D.int h2] none (some 1) = [D.int h0] from rfl]; simp [deq]]
          by_cases cd : h0 = h1
          · rw [decide_eq_true cd]
            walk_at "gn"
            exact fin _ _ _ (by rw [htm]; simp [cd])
          · rw [decide_eq_false cd]
            walk_at "gn"
            have nd : tm (1, h1) = SA.clip (SA.rowC (rlR r) t st rx) st ry L H h1 h1 := by rw [htm]; exact if_neg (by simp; omega)
            rw [nd, SA.clip_one hst] at fin
            by_cases cm : h1 % st = ry
            · rw [decide_eq_true cm]
              walk_at "gn"
              refine gr_ev hlo (le1) ?_
              walk_at "gn"
              by_cases c3 : L ≤ h1
              · rw [decide_eq_true (show h1 = max h1 L by omega)]
                walk_at "gn"
                refine ls_ev hhi (le2) ?_
                walk_at "gn"
                by_cases c4 : h1 ≤ H
                · rw [decide_eq_true (show h1 = min h1 H by omega)]
                  walk_at "gn"
                  refine onrow_ev g bt bx bs hst b1 ?_
                  walk_at "gn"
                  exact fin _ _ _ (by rw [if_pos ⟨(em_iff hst y0 y1).mp cm, c3, c4⟩])
                · rw [decide_eq_false (show ¬ h1 = min h1 H by omega)]
                  walk_at "gn"
                  exact fin _ _ _ (by rw [if_neg (fun k => c4 k.2.2), Int.add_zero])
              · rw [decide_eq_false (show ¬ h1 = max h1 L by omega)]
                walk_at "gn"
                exact fin _ _ _ (by rw [if_neg (fun k => c3 k.2.1), Int.add_zero])
            · rw [decide_eq_false cm]
              walk_at "gn"
              exact fin _ _ _ (by rw [if_neg (fun k => cm ((em_iff hst y0 y1).mpr k.1)), Int.add_zero])
        · walk_at "gn"
          refine ind_pl rfl rfl ?_
          rw [show ((DL.cutD [D.int h0, D.int h1, D.int h2] none (some 2)).any fun d => deq d (D.int h2)) = (decide (h0 = h2) || decide (h1 = h2)) by rw [show DL.cutD [D.int h0, D.int h1, D.int h2] none (some 2) = [D.int h0, D.int h1] from rfl]; simp [deq]]
          by_cases cd : h0 = h2 ∨ h1 = h2
          · rw [show (decide (h0 = h2) || decide (h1 = h2)) = true from by simpa using cd]
            walk_at "gn"
            exact fin _ _ _ (by rw [htm]; simp; omega)
          · rw [show (decide (h0 = h2) || decide (h1 = h2)) = false from by simpa using cd]
            walk_at "gn"
            have nd : tm (2, h2) = SA.clip (SA.rowC (rlR r) t st rx) st ry L H h2 h2 := by rw [htm]; exact if_neg (by simp; omega)
            rw [nd, SA.clip_one hst] at fin
            by_cases cm : h2 % st = ry
            · rw [decide_eq_true cm]
              walk_at "gn"
              refine gr_ev hlo (Int.le_trans le1 le2) ?_
              walk_at "gn"
              by_cases c3 : L ≤ h2
              · rw [decide_eq_true (show h2 = max h2 L by omega)]
                walk_at "gn"
                refine ls_ev hhi (Int.le_refl _) ?_
                walk_at "gn"
                by_cases c4 : h2 ≤ H
                · rw [decide_eq_true (show h2 = min h2 H by omega)]
                  walk_at "gn"
                  refine onrow_ev g bt bx bs hst b2 ?_
                  walk_at "gn"
                  exact fin _ _ _ (by rw [if_pos ⟨(em_iff hst y0 y1).mp cm, c3, c4⟩])
                · rw [decide_eq_false (show ¬ h2 = min h2 H by omega)]
                  walk_at "gn"
                  exact fin _ _ _ (by rw [if_neg (fun k => c4 k.2.2), Int.add_zero])
              · rw [decide_eq_false (show ¬ h2 = max h2 L by omega)]
                walk_at "gn"
                exact fin _ _ _ (by rw [if_neg (fun k => c3 k.2.1), Int.add_zero])
            · rw [decide_eq_false cm]
              walk_at "gn"
              exact fin _ _ _ (by rw [if_neg (fun k => cm ((em_iff hst y0 y1).mpr k.1)), Int.add_zero])
      · obtain ⟨rfl, s9, s10, rfl⟩ := hI
        refine hK _ _ ⟨rfl, s9, s10, ?_⟩
        have e : ([(0, h0), (1, h1), (2, h2)].map tm).sum = SA.clip (SA.rowC (rlR r) t st rx) st ry L H h0 h0 + (if h1 = h0 then 0 else SA.clip (SA.rowC (rlR r) t st rx) st ry L H h1 h1) + (if h2 = h0 ∨ h2 = h1 then 0 else SA.clip (SA.rowC (rlR r) t st rx) st ry L H h2 h2) := by
          rw [htm]
          simp [Int.add_assoc]
        rw [e]
    obtain ⟨rfl, s9, s10, rfl⟩ := hI
    walk_at "gn"
    obtain ⟨T0, hT0⟩ : ∃ T0, T0 = SA.clip (SA.rowC (rlR r) t st rx) st ry L H h0 h0 + (if h1 = h0 then 0 else SA.clip (SA.rowC (rlR r) t st rx) st ry L H h1 h1) + (if h2 = h0 ∨ h2 = h1 then 0 else SA.clip (SA.rowC (rlR r) t st rx) st ry L H h2 h2) := ⟨_, rfl⟩
    rw [← hT0]
    obtain ⟨gm, hgm⟩ : ∃ gm : Int → Int, gm = fun i => if i = 0 then (if h0 < h1 then SA.clip (SA.rowC (rlR r) t st rx) st ry L H (h0 + 1) (h1 - 1) else 0) else (if h1 < h2 then SA.clip (SA.rowC (rlR r) t st rx) st ry L H (h1 + 1) (h2 - 1) else 0) := ⟨_, rfl⟩
    refine forL_pre (α := Int) (f := D.int) (l := [0, 1]) (fun pre ρ μ'' => μ'' = μ' ∧ ∃ s9 s10 s11 s12 : Sl, ρ = [.v (rlD r), .v (trd t), .v (gd st rx ry), .v (bdD lo), .v (bdD hi), s5, .v (.lst [edD (rlR r) st rx ry t.a t.b, edD (rlR r) st rx ry t.b t.c, edD (rlR r) st rx ry t.c t.a]), .v (.lst [.int h0, .int h1, .int h2]), .v (.int (T0 + (pre.map gm).sum)), s9, s10, s11, s12, .no, .no, .no])
      (fun pre x post e ρ μ'' K1 hI hK1 => ?_) (fun ρ μ'' hI => ?_) ⟨rfl, s9, s10, .no, .no, by simp⟩
    · obtain ⟨rfl, s9, s10, s11, s12, rfl⟩ := hI
      have fin : ∀ (v : Int) (s9 s10 s11 s12 : Sl), v = T0 + (pre.map gm).sum + gm x → K1 [.v (rlD r), .v (trd t), .v (gd st rx ry), .v (bdD lo), .v (bdD hi), s5, .v (.lst [edD (rlR r) st rx ry t.a t.b, edD (rlR r) st rx ry t.b t.c, edD (rlR r) st rx ry t.c t.a]), .v (.lst [.int h0, .int h1, .int h2]), .v (.int v), s9, s10, s11, s12, .no, .no, .no] μ'' := fun v s9 s10 s11 s12 ev => by
        refine hK1 _ _ ⟨rfl, s9, s10, s11, s12, ?_⟩
        rw [List.map_append, List.sum_append, ev]
        simp [Int.add_assoc]
      have hx : x ∈ ([0, 1] : List Int) := by rw [e]; simp
      clear hK1 e
      generalize T0 + (pre.map gm).sum = acc at *
      simp only [List.mem_cons, List.not_mem_nil, or_false] at hx
      rcases hx with rfl | rfl
      · walk_at "gn"
        by_cases c : h0 < h1
        · rw [decide_eq_true c]
          walk_at "gn"
          refine gr_ev hlo (by omega) ?_
          walk_at "gn"
          refine ls_ev hhi (by omega) ?_
          walk_at "gn"
          have bL := hlo.1
          have bH := hhi.1
          refine rowsfrom_ev g bt bx bs hst (by unfold B6 at *; omega) (by unfold B6 at *; omega) (by omega) (by omega) (by omega) (by omega) (by omega) (by unfold SA.ylo at e0; omega) (by unfold SA.yhi at e2; omega) ?_
          walk_at "gn"
          exact fin _ _ _ _ _ (by rw [hgm]; simp only [if_true]; rw [if_pos c]; rfl)
        · rw [decide_eq_false c]
          walk_at "gn"
          exact fin _ _ _ _ _ (by rw [hgm]; simp only [if_true]; rw [if_neg c, Int.add_zero])
      · walk_at "gn"
        by_cases c : h1 < h2
        · rw [decide_eq_true c]
          walk_at "gn"
          refine gr_ev hlo (by omega) ?_
          walk_at "gn"
          refine ls_ev hhi (by omega) ?_
          walk_at "gn"
          have bL := hlo.1
          have bH := hhi.1
          refine rowsfrom_ev g bt bx bs hst (by unfold B6 at *; omega) (by unfold B6 at *; omega) (by omega) (by omega) (by omega) (by omega) (by omega) (by unfold SA.ylo at e0; omega) (by unfold SA.yhi at e2; omega) ?_
          walk_at "gn"
          exact fin _ _ _ _ _ (by rw [hgm]; simp only [Int.reduceEq, if_false]; rw [if_pos c]; rfl)
        · rw [decide_eq_false c]
          walk_at "gn"
          exact fin _ _ _ _ _ (by rw [hgm]; simp only [Int.reduceEq, if_false]; rw [if_neg c, Int.add_zero])
    · obtain ⟨rfl, s9, s10, s11, s12, rfl⟩ := hI
      have e : T0 + (([0, 1] : List Int).map gm).sum = SA.amt (rlR r) t st rx ry L H := by
        unfold SA.amt
        rw [← e0, ← e2, ← SA.clip_all hst le1 le2, hT0, hgm]
        simp [Int.add_assoc]
      rw [e]
      walk_at "gn"
      exact h

theorem yb6 {t : SA.T3} (bt : BT t) : B6 (SA.ylo t) ∧ B6 (SA.yhi t) := by
  obtain ⟨a, b, c⟩ := bt
  unfold BP B6 at *
  unfold SA.ylo SA.yhi
  omega
theorem am0_ev {r : Rl} {t : SA.T3} {st rx ry : Int} (ok : RlOk r) (g : SA.Good t) (bt : BT t) (bs : B30 st) (hst : 1 ≤ st) (x0 : 0 ≤ rx) (x1 : rx < st) (y0 : 0 ≤ ry) (y1 : ry < st) (h : Q (.int (SA.totS (rlR r) t st rx ry)) μ) : sp_amount [rlD r, trd t, gd st rx ry, .non, .non] μ Q Xd := by
  have yb := yb6 bt
  refine amount_ev (lo := none) (hi := none) (L := SA.ylo t) (H := SA.yhi t) ok g bt bs hst x0 x1 y0 y1 ⟨yb.1, fun _ => Int.le_refl _, fun l e => nomatch e⟩ ⟨yb.2, fun _ => Int.le_refl _, fun l e => nomatch e⟩ ?_
  rw [SA.amt_tot (Int.le_refl _) (Int.le_refl _)]
  exact h

theorem twinG_ev {t : SA.T3} {d : SA.P} (g : SA.Good t) (bt : BT t) (bd : BP d) (e1 : d.1 = t.b.1 + t.c.1 - t.a.1) (e2 : d.2 = t.b.2 + t.c.2 - t.a.2) (h : Q (trd ⟨t.b, d, t.c⟩) μ) : sp_twin_of [trd t] μ Q Xd := by
  have k := SA.twin_sd e1 e2
  unfold sp_twin_of w_twin_of
  unfold trd at h ⊢
  walk_at "gn"
  rw [← e1, ← e2]
  refine tri_initN isP_pr isP_pr isP_pr (cm6 bt.2.2.1 bt.2.1.1 bd.2 bt.2.1.2) (cm6 bt.2.2.2 bt.2.1.2 bd.1 bt.2.1.1) ?_ ?_
  · show SA.sd t.b t.c d < 0
    have : SA.sd t.b t.c d = - SA.sd t.b d t.c := by unfold SA.sd; grind
    unfold SA.Good at g
    omega
  walk_at "gn"
  exact h
theorem tarea_ev {t : SA.T3} (bt : BT t) (h : Q (.int (SA.sd t.a t.b t.c)) μ) : sp_Triangle_area2 [trd t] μ Q Xd := by
  unfold sp_Triangle_area2 w_Triangle_area2 trd
  walk_at "gn"
  refine sdp_ev bt.1 bt.2.1 bt.2.2 ?_
  exact h

theorem unit_ev (h : Q (gd 1 0 0) μ) : sp_Grid_unit [] μ Q Xd := by
  unfold sp_Grid_unit w_Grid_unit
  walk_at "gn"
  refine grid_init (.inl rfl) (by decide) (by decide) ?_
  walk_at "gn"
  exact h

def TrR (t : Tr) : Prop := TrOk t ∧ SA.Right (trIn t)
theorem right_tab {bs : List Bool} {s : Int} (h0 : 0 ≤ s) (h7 : s ≤ 7) (hl : bs.length = 8) (hb : ∀ i a, bs[i]? = some a → a = decide (((i : Nat) - s) % 8 < 4)) : TrR (.tab bs) := by
  refine ⟨hl, SA.rw8 s, decide (s % 2 = 0), ?_, fun d hd => ?_⟩
  · have hs : s = 0 ∨ s = 1 ∨ s = 2 ∨ s = 3 ∨ s = 4 ∨ s = 5 ∨ s = 6 ∨ s = 7 := by omega
    rcases hs with rfl | rfl | rfl | rfl | rfl | rfl | rfl | rfl <;> decide
  · rw [← SA.rt8 h0 h7 hd]
    show tR bs d = _
    unfold tR
    obtain ⟨k1, k2⟩ := kd_8 d
    obtain ⟨n, hn⟩ : ∃ n : Nat, SO.kd d = n := ⟨(SO.kd d).toNat, by omega⟩
    rw [hn, Int.toNat_natCast, List.getElem?_eq_getElem (show n < bs.length by omega)]
    exact hb n _ (List.getElem?_eq_getElem (show n < bs.length by omega))
theorem right_half {n : SA.P} {ah : Bool} (hn : n ≠ SA.O) (s : s4 n) : TrR (.half n ah) := ⟨⟨hn, s⟩, n, ah, hn, fun d _ => rfl⟩
theorem rrule_ev {p q : Int} (ok : PoolOk p q) (h : ∀ (t : Tr) p' q', PoolOk p' q' → TrR t → Q (trD t) (pl μ p' q')) : sp__law_right_rule [.loc μ.length] (pl μ p q) Q Xd := by
  unfold sp__law_right_rule w__law_right_rule
  walk_at "gn"
  refine draw_ev ok (by decide) (by unfold Bd; omega) fun x p1 q1 ok1 x0 x1 => ?_
  walk_at "gn"
  by_cases c : x = 0
  · rw [decide_eq_true c]
    walk_at "gn"
    refine draw_ev ok1 (by decide) (by unfold Bd; omega) fun s p1 q1 ok1 s0 s1 => ?_
    walk_at "gn"
    change lcL _ _ _ _ (rangeD 0 8) [] _ _
    refine lc_pool (α := Bool) (f := D.bl) (fun i a => a = decide (((i : Nat) - s) % 8 < 4)) (by decide) (fun k hk p1 q1 ok1 K3 hK3 => ?_) (fun bs hbs hp p2 q2 ok2 => ?_) ok1
    · walk_at "gn"
      exact hK3 _ _ _ ok1 (by rw [Int.zero_add])
    walk_at "gn"
    exact h (.tab bs) _ _ ok2 (right_tab s0 (by omega) hbs hp)
  · rw [decide_eq_false c]
    walk_at "gn"
    refine lpair_ev (n := 4) ok1 (by decide) fun u v p3 q3 ok3 u0 u1 v0 v1 => ?_
    walk_at "gn"
    obtain ⟨w, hw, hwb, hd⟩ : ∃ w : SA.P, w ≠ SA.O ∧ (-4 ≤ w.1 ∧ w.1 ≤ 4 ∧ -4 ≤ w.2 ∧ w.2 ≤ 4) ∧ ((u = 0 ∧ v = 0) ∧ w = (3, -1) ∨ ¬ (u = 0 ∧ v = 0) ∧ w = (u, v)) := by
      by_cases c : u = 0 ∧ v = 0
      · exact ⟨(3, -1), by decide, by decide, .inl ⟨c, rfl⟩⟩
      · exact ⟨(u, v), by rw [SA.nz]; exact c, ⟨u0, u1, v0, v1⟩, .inr ⟨c, rfl⟩⟩
    refine kife_go (pd w) (fun e K2 h2 => ?_) (fun e K2 h2 => ?_) ?_
    · rcases hd with ⟨c, rfl⟩ | ⟨c, rfl⟩
      · walk_at "gn"
        exact h2
      · simp at e
        exact absurd e c
    · rcases hd with ⟨c, rfl⟩ | ⟨c, rfl⟩
      · simp at e
        exact absurd c.2 (e c.1)
      · walk_at "gn"
        exact h2
    walk_at "gn"
    refine draw_ev ok3 (by decide) (by unfold Bd; omega) fun x p4 q4 ok4 x0 x1 => ?_
    walk_at "gn"
    generalize decide (x = 0) = ah
    exact h (.half w ah) _ _ ok4 (right_half hw hwb)

theorem cutD_take {L : List D} {i : Nat} (hi : i ≤ L.length) : DL.cutD L none (some (i : Nat)) = L.take i := by
  unfold DL.cutD
  rw [HT.sIx_none, HT.sIx_nat, List.drop_zero, Nat.sub_zero, Nat.min_eq_left hi]
theorem cutD_drop {L : List D} {i : Nat} (hi : i ≤ L.length) : DL.cutD L (some (i : Nat)) none = L.drop i := by
  unfold DL.cutD
  rw [HT.sIx_none, HT.sIx_nat, Nat.min_eq_left hi]
  exact List.take_of_length_le (by rw [List.length_drop]; omega)
theorem deq_refl_pr {t : SA.T3} : deq (.lst [pd t.a, pd t.b, pd t.c]) (.lst [pd t.a, pd t.b, pd t.c]) = true := by simp [deq, deqs]
theorem teq_ev {t : SA.T3} (h : Q (.bl true) μ) : sp_Triangle_eq [trd t, trd t] μ Q Xd := by
  unfold trd sp_Triangle_eq w_Triangle_eq
  walk_at "go"
  have d0 : DL.cutD [pd t.a, pd t.b, pd t.c] (some 0) none = [pd t.a, pd t.b, pd t.c] := cutD_drop (i := 0) (by simp)
  have d1 : DL.cutD [pd t.a, pd t.b, pd t.c] (some 1) none = [pd t.b, pd t.c] := cutD_drop (i := 1) (by simp)
  have d2 : DL.cutD [pd t.a, pd t.b, pd t.c] (some 2) none = [pd t.c] := cutD_drop (i := 2) (by simp)
  have e0 : DL.cutD [pd t.a, pd t.b, pd t.c] none (some 0) = [] := cutD_take (i := 0) (by simp)
  have e1 : DL.cutD [pd t.a, pd t.b, pd t.c] none (some 1) = [pd t.a] := cutD_take (i := 1) (by simp)
  have e2 : DL.cutD [pd t.a, pd t.b, pd t.c] none (some 2) = [pd t.a, pd t.b] := cutD_take (i := 2) (by simp)
  rw [d0, d1, d2, e0, e1, e2]
  refine ⟨by rw [sizeLine_eq]; simp, ?_⟩
  rw [eqU_pl rfl rfl, List.append_nil, deq_refl_pr]
  refine ⟨by rw [sizeLine_eq]; simp, ?_⟩
  rw [eqU_pl rfl rfl]
  refine ⟨by rw [sizeLine_eq]; simp, ?_⟩
  rw [eqU_pl rfl rfl]
  refine ⟨[_, _, _], rfl, ?_⟩
  exact h

end
end K18

set_option Elab.async false
set_option linter.all false
set_option maxRecDepth 100000
set_option maxHeartbeats 4000000
set_option autoImplicit false
set_option exponentiation.threshold 3000
namespace K18
open PySem PySem.Spec PyProof.Rows L2 DL
local macro_rules
  | `(tactic| walk_at "dk") => `(tactic| try simp only [g_gen, r_kw, r_kw1, r_kw2, r_kw0, r_kw00, c_wi, c_en, c_en1, c_for, c_for1, c_lc, c_lc1, c_lof, c_lof1, c_ap, c_ap1, c_ap2, y_p2, y_p21, y_oo, y_fo, y_foq, y_of, y_of2, c_si, c_si1, c_si2, c_si3, c_lu1, c_lu2, c_lu3, z_fl, z_fl1, z_fl2, z_ps, z_ps1, z_ps2, z_ps3, z_eqT, z_cat, z_cat1, z_cat2, y_pop, y_pop1, y_pop2, y_lcC, y_cell, y_rem, y_rem1, y_rem2, x_subO, x_subO1, x_subO2, v_slo, v_slo1, w_ff, w_ft, w_tf, w_tt, false_and, and_false, v_ix, v_ix1, v_ix2, v_inv, v_inv1, v_co, v_co1, v_co2, v_len, v_len1, isiD, tyD, clD, r_insobj, fldOf, DL.isNon, items_tup, items_lst, items_frl, hasCls, othTy, insD, DL.putK, DL.putD, initEnd, startI, startD, DL.wipeD, List.map_cons, List.map_nil, List.length_cons, List.length_nil, List.getElem?_cons_zero, List.getElem?_cons_succ, List.getElem?_nil, List.set_cons_zero, List.set_cons_succ, List.cons_append, List.nil_append, List.append_nil, List.replicate, Nat.sub_self, Nat.reduceSub, Nat.reduceAdd, Nat.reduceLeDiff, Nat.reduceEqDiff, Nat.reduceLT, Int.reduceLT, Int.reduceLE, if_true, if_false, Bool.not_true, Bool.not_false, reduceIte, reduceCtorEq, true_and, and_true, Nat.zero_add, Bool.true_eq_false, Bool.false_eq_true, eqU_int, eqU_str, eqU_bl, str_eq, str_beq, String.reduceEq, decide_true, decide_false, decide_eq_true_eq, pl_items, pl_st0, pl_st1, pl_fold, notOwn, List.mem_singleton, List.mem_cons, List.not_mem_nil, or_false, false_or, or_true, true_or, forall_eq, forall_eq_or_imp, implies_true, Int.reduceToNat, Int.reduceEq, Int.reduceNe, Int.reduceAdd, Int.reduceSub, Int.reduceMul, Int.reducePow, Int.reduceMod, Int.reduceDiv, atI_0, atI_1, atI_2, atI_3, rg1, rg2, startI, r_var, r_var2, r_c, r_w2, r_w2a, r_w2b, r_w1, r_w1a, r_wB, r_wBa, r_ch, r_ch1, r_ch2, r_ch3t, r_ch3f, r_and, r_andt, r_andf, r_or, r_ort, r_orf, r_not, r_nota, r_ife, r_ifet, r_ifef, r_andv, r_andvt, r_andvf, r_orv, r_orvt, r_orvf, r_notv, r_notva, r_nil, r_cons, r_cons1, r_cons2, r_tup, r_tupa, r_lst, r_lsta, r_lstc, r_lstca, r_wn, r_wna, r_call, r_calla, r_mk, r_mk1, r_mk2, r_mkc, r_mkc1, r_mkc2, r_me, r_me1, r_me2, r_bo, r_bo1, r_bo2, r_onone, r_osome, r_osomea, r_sl, r_sl1, r_sl2, r_sl3, r_sl3f, r_ii, r_ii0, r_ib, r_i1, r_plus, r_plusl, r_times, r_timesl, r_isn, r_notn, r_eqd, r_ned, r_int1, r_int1b, r_max2, r_min2, r_abs, r_ix, r_ix2, r_ix3, r_len, r_len2, r_isi, r_isi2, r_fld, r_fld2, r_fld3, r_insobj, r_kx, r_next, r_never, r_seq, r_seqa, r_if, r_ift, r_iff, r_ret, r_retn, r_brk, r_cnt, r_drop, r_dropa, r_set, r_seta, r_asg, r_asga, r_name, r_namec, r_ktup, r_kunl, r_kcons, r_kcs, r_knil, r_par2, r_par2a, r_par3, r_par3a, r_aug, r_auga, r_augb, r_augc, r_for, r_fora, r_knx, r_fldo, r_fldoa, r_put, r_frz, r_frz2, r_frz3, r_frz4, r_cl, r_seto, r_setoa, r_wil, r_wila, r_wilf, r_wit, r_wita, r_wi1, r_wi1a, r_wi2, r_wi2a, r_wie, r_wiea, r_wiz, r_wiza, r_wizt, r_lc, r_lc0, r_lcn, r_lcc, r_lc1, r_lc2t, r_lc2f, r_lc3, r_yes, r_sub, r_sub1, r_sub2, r_sub3, r_dnx, r_drt, r_dxc, r_inx, r_init, r_ixc, t_raise, t_raise2, t_try, t_cat, t_catt, t_catf, t_sunx, t_surt, t_nx0, t_nx1, t_nx2, t_nx3, t_prop, t_prop2, t_xf, t_xf2, t_isx, t_isx2, t_wht, t_whf, t_equ, t_neu, t_el, List.reverse_cons, List.reverse_nil, isiDT, anyT, List.all_cons, List.all_nil, Option.isSome_some, Bool.and_true, Bool.true_and, u_lof, u_lof2, u_tof, u_tof2, u_isiT, u_dict, u_bl, u_ownN, u_has, u_hasN, u_bk, u_bk1, u_bk2, u_stat, u_ap, u_ap1, u_ap2, u_ex, u_ex1, u_ex2, u_ownL, u_olen, u_oix, u_oix1, u_oin, u_sumT, u_sumL, u_mu, u_mu1, u_hot, u_hot1, startX, u_mb, u_mb1, u_mb1f, u_mb2, u_rev, u_revf, u_wio, u_wex, u_wel, u_wef, u_wet, u_en, u_en0, u_enc, u_enn, Int.cast_ofNat_Int, u_wzx, u_wzl, u_wzt, u_wzm, u_zd, u_zd0, intsD, DL.intD, u_kd, isTy, Bool.true_xor, Bool.false_xor, eqU_pl, p_int, p_bl, p_non, p_tup, p_lst, p_frl, p0_int, p0_bl, p0_non, deq, deqs, Bool.and_true, Bool.and_false, Bool.false_and, List.contains_cons, List.contains_nil, Bool.or_false, Bool.false_or, Bool.or_self, eq_self, beq_self_eq_true, Bool.not_true, Bool.not_false, List.flatten_cons, List.flatten_nil, isi_0, isi_1, isi_2, isi_3, isi_4, isi_5, isi_6, isi_7, isi_8, isi_9, isi_10, isi_11, isi_12, isi_13, isi_14, isi_15, isi_16, isi_17, isi_18, isi_19, isi_20, isi_21, isi_22, isi_23, isi_24, isi_25, isi_26, isi_27, isi_28, isi_29, isi_30, isi_31, isi_32, isi_33, isi_34, isi_35, isi_36, isi_37, isi_38, isi_39, isi_40, isi_41, isi_42, isi_43, isi_44, isi_45, isi_46, isi_47, isi_48, isi_49, isi_50, isi_51, isi_52, isi_53, isi_54, isi_55, isi_56, isi_57, isi_58, isi_59, isi_60, isi_61, isi_62, isi_63, isi_64, isi_65, isi_66, isi_67, isi_68, isi_69, isi_70, isi_71])
local macro_rules
  | `(tactic| walk_at "ds") => `(tactic| try simp only [g_gen, r_kw, r_kw1, r_kw2, r_kw0, r_kw00, c_wi, c_en, c_en1, c_for, c_for1, c_lc, c_lc1, c_lof, c_lof1, c_ap, c_ap1, c_ap2, y_p2, y_p21, y_oo, y_fo, y_foq, y_of, y_of2, c_si, c_si1, c_si2, c_si3, c_lu1, c_lu2, c_lu3, z_fl, z_fl1, z_fl2, z_ps, z_ps1, z_ps2, z_ps3, z_eqT, z_cat, z_cat1, z_cat2, y_pop, y_pop1, y_pop2, y_lcC, y_cell, y_rem, y_rem1, y_rem2, x_subO, x_subO1, x_subO2, v_slo, v_slo1, w_ff, w_ft, w_tf, w_tt, false_and, and_false, isClsU, v_ix, v_ix1, v_ix2, v_inv, v_inv1, v_co, v_co1, v_co2, v_len, v_len1, v_f2or, isiD, tyD, clD, r_insobj, fldOf, DL.isNon, items_tup, items_lst, items_frl, hasCls, isCls, othTy, insD, DL.putK, DL.putD, initEnd, startI, startD, DL.wipeD, List.map_cons, List.map_nil, List.length_cons, List.length_nil, List.getElem?_cons_zero, List.getElem?_cons_succ, List.getElem?_nil, List.set_cons_zero, List.set_cons_succ, List.cons_append, List.nil_append, List.append_nil, List.replicate, Nat.sub_self, Nat.reduceSub, Nat.reduceAdd, Nat.reduceLeDiff, Nat.reduceEqDiff, Nat.reduceLT, Int.reduceLT, Int.reduceLE, if_true, if_false, Bool.not_true, Bool.not_false, reduceIte, reduceCtorEq, true_and, and_true, Nat.zero_add, Bool.true_eq_false, Bool.false_eq_true, eqU_int, eqU_str, eqU_bl, str_eq, str_beq, String.reduceEq, decide_true, decide_false, decide_eq_true_eq, pl_items, pl_st0, pl_st1, pl_fold, notOwn, List.mem_singleton, List.mem_cons, List.not_mem_nil, or_false, false_or, or_true, true_or, forall_eq, forall_eq_or_imp, implies_true, Int.reduceToNat, Int.reduceEq, Int.reduceNe, Int.reduceAdd, Int.reduceSub, Int.reduceMul, Int.reducePow, Int.reduceMod, Int.reduceDiv, atI_0, atI_1, atI_2, atI_3, rg1, rg2, startI, r_var, r_var2, r_c, r_w2, r_w2a, r_w2b, r_w1, r_w1a, r_wB, r_wBa, r_ch, r_ch1, r_ch2, r_ch3t, r_ch3f, r_and, r_andt, r_andf, r_or, r_ort, r_orf, r_not, r_nota, r_ife, r_ifet, r_ifef, r_andv, r_andvt, r_andvf, r_orv, r_orvt, r_orvf, r_notv, r_notva, r_nil, r_cons, r_cons1, r_cons2, r_tup, r_tupa, r_lst, r_lsta, r_lstc, r_lstca, r_wn, r_wna, r_call, r_calla, r_mk, r_mk1, r_mk2, r_mkc, r_mkc1, r_mkc2, r_me, r_me1, r_me2, r_bo, r_bo1, r_bo2, r_onone, r_osome, r_osomea, r_sl, r_sl1, r_sl2, r_sl3, r_sl3f, r_ii, r_ii0, r_ib, r_i1, r_plus, r_plusl, r_times, r_timesl, r_isn, r_notn, r_eqd, r_ned, r_int1, r_int1b, r_max2, r_min2, r_abs, r_ix, r_ix2, r_ix3, r_len, r_len2, r_isi, r_isi2, r_fld, r_fld2, r_fld3, r_insobj, r_kx, r_next, r_never, r_seqa, r_if, r_ift, r_iff, r_ret, r_retn, r_brk, r_cnt, r_drop, r_dropa, r_set, r_seta, r_asg, r_asga, r_name, r_namec, r_ktup, r_kunl, r_kcons, r_kcs, r_knil, r_par2, r_par2a, r_par3, r_par3a, r_aug, r_auga, r_augb, r_augc, r_for, r_fora, r_knx, r_fldo, r_fldoa, r_put, r_frz, r_frz2, r_frz3, r_frz4, r_cl, r_seto, r_setoa, r_wil, r_wila, r_wilf, r_wit, r_wita, r_wi1, r_wi1a, r_wi2, r_wi2a, r_wie, r_wiea, r_wiz, r_wiza, r_wizt, r_lc, r_lc0, r_lcn, r_lcc, r_lc1, r_lc2t, r_lc2f, r_lc3, r_yes, r_sub, r_sub1, r_sub2, r_sub3, r_dnx, r_drt, r_dxc, r_inx, r_init, r_ixc, t_raise, t_raise2, t_try, t_cat, t_catt, t_catf, t_sunx, t_surt, t_nx0, t_nx1, t_nx2, t_nx3, t_prop, t_prop2, t_xf, t_xf2, t_isx, t_isx2, t_wht, t_whf, t_equ, t_neu, t_el, List.reverse_cons, List.reverse_nil, isiDT, anyT, List.all_cons, List.all_nil, Option.isSome_some, Bool.and_true, Bool.true_and, u_lof, u_lof2, u_tof, u_tof2, u_isiT, u_dict, u_bl, u_own, u_ownN, u_has, u_hasN, u_bk, u_bk1, u_bk2, u_stat, u_ap, u_ap1, u_ap2, u_ex, u_ex1, u_ex2, u_ownL, u_olen, u_oix, u_oix1, u_oin, u_sumT, u_sumL, u_mu, u_mu1, u_hot, u_hot1, startX, u_mb, u_mb1, u_mb1f, u_mb2, u_rev, u_revf, u_wio, u_wex, u_wel, u_wef, u_wet, u_en, u_en0, u_enc, u_enn, Int.cast_ofNat_Int, u_wzx, u_wzl, u_wzt, u_wzm, u_zd, u_zd0, intsD, DL.intD, u_kd, othC, isTy, Bool.true_xor, Bool.false_xor, eqU_pl, p_int, p_bl, p_non, p_tup, p_lst, p_frl, p0_int, p0_bl, p0_non, deq, deqs, Bool.and_true, Bool.and_false, Bool.false_and, List.contains_cons, List.contains_nil, Bool.or_false, Bool.false_or, Bool.or_self, eq_self, beq_self_eq_true, Bool.not_true, Bool.not_false, List.flatten_cons, List.flatten_nil, isi_0, isi_1, isi_2, isi_3, isi_4, isi_5, isi_6, isi_7, isi_8, isi_9, isi_10, isi_11, isi_12, isi_13, isi_14, isi_15, isi_16, isi_17, isi_18, isi_19, isi_20, isi_21, isi_22, isi_23, isi_24, isi_25, isi_26, isi_27, isi_28, isi_29, isi_30, isi_31, isi_32, isi_33, isi_34, isi_35, isi_36, isi_37, isi_38, isi_39, isi_40, isi_41, isi_42, isi_43, isi_44, isi_45, isi_46, isi_47, isi_48, isi_49, isi_50, isi_51, isi_52, isi_53, isi_54, isi_55, isi_56, isi_57, isi_58, isi_59, isi_60, isi_61, isi_62, isi_63, isi_64, isi_65, isi_66, isi_67, isi_68, isi_69, isi_70, isi_71])
local macro_rules
  | `(tactic| walk_at "dn") => `(tactic| try simp only [g_gen, r_kw, r_kw1, r_kw2, r_kw0, r_kw00, c_wi, c_en, c_en1, c_for, c_for1, c_lc, c_lc1, c_lof, c_lof1, c_ap, c_ap1, c_ap2, y_p2, y_p21, y_oo, y_fo, y_foq, y_of, y_of2, c_si, c_si1, c_si2, c_si3, c_lu1, c_lu2, c_lu3, z_fl, z_fl1, z_fl2, z_ps, z_ps1, z_ps2, z_ps3, z_eqT, z_cat, z_cat1, z_cat2, y_pop, y_pop1, y_pop2, y_lcC, y_cell, y_rem, y_rem1, y_rem2, x_subO, x_subO1, x_subO2, v_slo, v_slo1, w_ff, w_ft, w_tf, w_tt, false_and, and_false, isClsU, v_ix, v_ix1, v_ix2, v_inv, v_inv1, v_co, v_co1, v_co2, v_len, v_len1, v_f2or, isiD, tyD, clD, r_insobj, fldOf, DL.isNon, items_tup, items_lst, items_frl, hasCls, isCls, othTy, insD, DL.putK, DL.putD, initEnd, startI, startD, DL.wipeD, List.map_cons, List.map_nil, List.length_cons, List.length_nil, List.getElem?_cons_zero, List.getElem?_cons_succ, List.getElem?_nil, List.set_cons_zero, List.set_cons_succ, List.cons_append, List.nil_append, List.append_nil, List.replicate, Nat.sub_self, Nat.reduceSub, Nat.reduceAdd, Nat.reduceLeDiff, Nat.reduceEqDiff, Nat.reduceLT, Int.reduceLT, Int.reduceLE, if_true, if_false, Bool.not_true, Bool.not_false, reduceIte, reduceCtorEq, true_and, and_true, Nat.zero_add, Bool.true_eq_false, Bool.false_eq_true, eqU_int, eqU_str, eqU_bl, str_eq, str_beq, String.reduceEq, decide_true, decide_false, decide_eq_true_eq, pl_items, pl_st0, pl_st1, pl_fold, notOwn, List.mem_singleton, List.mem_cons, List.not_mem_nil, or_false, false_or, or_true, true_or, forall_eq, forall_eq_or_imp, implies_true, Int.reduceToNat, Int.reduceEq, Int.reduceNe, Int.reduceAdd, Int.reduceSub, Int.reduceMul, Int.reducePow, Int.reduceMod, Int.reduceDiv, atI_0, atI_1, atI_2, atI_3, rg1, rg2, startI, r_var, r_var2, r_c, r_w2, r_w2a, r_w2b, r_w1, r_w1a, r_wB, r_wBa, r_ch, r_ch1, r_ch2, r_ch3t, r_ch3f, r_and, r_andt, r_andf, r_or, r_ort, r_orf, r_not, r_nota, r_ife, r_ifet, r_ifef, r_andv, r_andvt, r_andvf, r_orv, r_orvt, r_orvf, r_notv, r_notva, r_nil, r_cons, r_cons1, r_cons2, r_tup, r_tupa, r_lst, r_lsta, r_lstc, r_lstca, r_wn, r_wna, r_call, r_calla, r_mk, r_mk1, r_mk2, r_mkc, r_mkc1, r_mkc2, r_me, r_me1, r_me2, r_bo, r_bo1, r_bo2, r_onone, r_osome, r_osomea, r_sl, r_sl1, r_sl2, r_sl3, r_sl3f, r_ii, r_ii0, r_ib, r_i1, r_plus, r_plusl, r_times, r_timesl, r_isn, r_notn, r_eqd, r_ned, r_int1, r_int1b, r_max2, r_min2, r_abs, r_ix, r_ix2, r_ix3, r_len, r_len2, r_isi, r_isi2, r_fld, r_fld2, r_fld3, r_insobj, r_kx, r_next, r_never, r_seq, r_seqa, r_if, r_ift, r_iff, r_ret, r_retn, r_brk, r_cnt, r_drop, r_dropa, r_set, r_seta, r_asg, r_asga, r_name, r_namec, r_ktup, r_kunl, r_kcons, r_kcs, r_knil, r_par2, r_par2a, r_par3, r_par3a, r_aug, r_auga, r_augb, r_augc, r_for, r_fora, r_knx, r_fldo, r_fldoa, r_put, r_frz, r_frz2, r_frz3, r_frz4, r_cl, r_seto, r_setoa, r_wil, r_wila, r_wilf, r_wit, r_wita, r_wi1, r_wi1a, r_wi2, r_wi2a, r_wie, r_wiea, r_wiz, r_wiza, r_wizt, r_lc, r_lc0, r_lcn, r_lcc, r_lc1, r_lc2t, r_lc2f, r_lc3, r_yes, r_sub, r_sub1, r_sub2, r_sub3, r_dnx, r_drt, r_dxc, r_inx, r_init, r_ixc, t_raise, t_raise2, t_try, t_cat, t_catt, t_catf, t_sunx, t_surt, t_nx0, t_nx1, t_nx2, t_nx3, t_prop, t_prop2, t_xf, t_xf2, t_isx, t_isx2, t_wht, t_whf, t_equ, t_neu, t_el, List.reverse_cons, List.reverse_nil, isiDT, anyT, List.all_cons, List.all_nil, Option.isSome_some, Bool.and_true, Bool.true_and, u_lof, u_lof2, u_tof, u_tof2, u_isiT, u_dict, u_bl, u_own, u_ownN, u_has, u_hasN, u_bk, u_bk1, u_bk2, u_stat, u_ap, u_ap1, u_ap2, u_ex, u_ex1, u_ex2, u_ownL, u_olen, u_oix, u_oix1, u_oin, u_sumT, u_sumL, u_mu, u_mu1, u_hot, u_hot1, startX, u_mb, u_mb1, u_mb1f, u_mb2, u_rev, u_revf, u_wio, u_wex, u_wel, u_wef, u_wet, u_en, u_en0, u_enc, u_enn, Int.cast_ofNat_Int, u_wzx, u_wzl, u_wzt, u_wzm, u_zd, u_zd0, intsD, DL.intD, u_kd, othC, isTy, Bool.true_xor, Bool.false_xor, eqU_pl, p_int, p_bl, p_non, p_tup, p_lst, p_frl, p0_int, p0_bl, p0_non, deq, deqs, Bool.and_true, Bool.and_false, Bool.false_and, List.contains_cons, List.contains_nil, Bool.or_false, Bool.false_or, Bool.or_self, eq_self, beq_self_eq_true, Bool.not_true, Bool.not_false, List.flatten_cons, List.flatten_nil, isi_0, isi_1, isi_2, isi_3, isi_4, isi_5, isi_6, isi_7, isi_8, isi_9, isi_10, isi_11, isi_12, isi_13, isi_14, isi_15, isi_16, isi_17, isi_18, isi_19, isi_20, isi_21, isi_22, isi_23, isi_24, isi_25, isi_26, isi_27, isi_28, isi_29, isi_30, isi_31, isi_32, isi_33, isi_34, isi_35, isi_36, isi_37, isi_38, isi_39, isi_40, isi_41, isi_42, isi_43, isi_44, isi_45, isi_46, isi_47, isi_48, isi_49, isi_50, isi_51, isi_52, isi_53, isi_54, isi_55, isi_56, isi_57, isi_58, isi_59, isi_60, isi_61, isi_62, isi_63, isi_64, isi_65, isi_66, isi_67, isi_68, isi_69, isi_70, isi_71])
local macro_rules
  | `(tactic| walk_at "dl1") => `(tactic| simp only [g_gen, r_kw, r_kw1, r_kw2, r_kw0, r_kw00, c_wi, c_en, c_en1, c_for, c_for1, c_lc, c_lc1, c_lof, c_lof1, c_ap, c_ap1, c_ap2, y_p2, y_p21, y_oo, y_fo, y_foq, y_of, y_of2, c_si, c_si1, c_si2, c_si3, c_lu1, c_lu2, c_lu3, z_fl, z_fl1, z_fl2, z_ps, z_ps1, z_ps2, z_ps3, z_eqT, z_cat, z_cat1, z_cat2, y_pop, y_pop1, y_pop2, y_lcC, y_cell, y_rem, y_rem1, y_rem2, x_subO, x_subO1, x_subO2, v_slo, v_slo1, w_ff, w_ft, w_tf, w_tt, false_and, and_false, isClsU, v_ix, v_ix1, v_ix2, v_inv, v_inv1, v_co, v_co1, v_co2, v_len, v_len1, v_f2or, isiD, tyD, clD, r_insobj, fldOf, DL.isNon, items_tup, items_lst, items_frl, hasCls, isCls, othTy, insD, DL.putK, DL.putD, initEnd, startI, startD, DL.wipeD, List.map_cons, List.map_nil, List.length_cons, List.length_nil, List.getElem?_cons_zero, List.getElem?_cons_succ, List.getElem?_nil, List.set_cons_zero, List.set_cons_succ, List.cons_append, List.nil_append, List.append_nil, List.replicate, Nat.sub_self, Nat.reduceSub, Nat.reduceAdd, Nat.reduceLeDiff, Nat.reduceEqDiff, Nat.reduceLT, Int.reduceLT, Int.reduceLE, if_true, if_false, Bool.not_true, Bool.not_false, reduceIte, reduceCtorEq, true_and, and_true, Nat.zero_add, Bool.true_eq_false, Bool.false_eq_true, eqU_int, eqU_str, eqU_bl, str_eq, str_beq, String.reduceEq, decide_true, decide_false, decide_eq_true_eq, pl_items, pl_st0, pl_st1, pl_fold, notOwn, List.mem_singleton, List.mem_cons, List.not_mem_nil, or_false, false_or, or_true, true_or, forall_eq, forall_eq_or_imp, implies_true, range_succ, range_zero, Int.reduceToNat, Int.reduceEq, Int.reduceNe, Int.reduceAdd, Int.reduceSub, Int.reduceMul, Int.reducePow, Int.reduceMod, Int.reduceDiv, atI_0, atI_1, atI_2, atI_3, rg1, rg2, startI, r_var, r_var2, r_c, r_w2, r_w2a, r_w2b, r_w1, r_w1a, r_wB, r_wBa, r_ch, r_ch1, r_ch2, r_ch3t, r_ch3f, r_and, r_andt, r_andf, r_or, r_ort, r_orf, r_not, r_nota, r_ife, r_ifet, r_ifef, r_andv, r_andvt, r_andvf, r_orv, r_orvt, r_orvf, r_notv, r_notva, r_nil, r_cons, r_cons1, r_cons2, r_tup, r_tupa, r_lst, r_lsta, r_lstc, r_lstca, r_wn, r_wna, r_call, r_calla, r_mk, r_mk1, r_mk2, r_mkc, r_mkc1, r_mkc2, r_me, r_me1, r_me2, r_bo, r_bo1, r_bo2, r_onone, r_osome, r_osomea, r_sl, r_sl1, r_sl2, r_sl3, r_sl3f, r_ii, r_ii0, r_ib, r_i1, r_plus, r_plusl, r_times, r_timesl, r_isn, r_notn, r_eqd, r_ned, r_int1, r_int1b, r_max2, r_min2, r_abs, r_ix, r_ix2, r_ix3, r_len, r_len2, r_isi, r_isi2, r_fld, r_fld2, r_fld3, r_insobj, r_kx, r_next, r_never, r_seq, r_seqa, r_if, r_ift, r_iff, r_ret, r_retn, r_brk, r_cnt, r_drop, r_dropa, r_set, r_seta, r_asg, r_asga, r_name, r_namec, r_ktup, r_kunl, r_kcons, r_kcs, r_knil, r_par2, r_par2a, r_par3, r_par3a, r_aug, r_auga, r_augb, r_augc, r_for, r_fora, r_knx, r_fldo, r_fldoa, r_put, r_frz, r_frz2, r_frz3, r_frz4, r_cl, r_seto, r_setoa, r_wil, r_wila, r_wilf, r_wit, r_wita, r_wi1, r_wi1a, r_wi2, r_wi2a, r_wie, r_wiea, r_wiz, r_wiza, r_wizt, r_lc, r_lc0, r_lcn, r_lcc, r_lc1, r_lc2t, r_lc2f, r_lc3, r_yes, r_sub, r_sub1, r_sub2, r_sub3, r_dnx, r_drt, r_dxc, r_inx, r_init, r_ixc, t_raise, t_raise2, t_try, t_cat, t_catt, t_catf, t_sunx, t_surt, t_nx0, t_nx1, t_nx2, t_nx3, t_prop, t_prop2, t_xf, t_xf2, t_isx, t_isx2, t_wht, t_whf, t_equ, t_neu, t_el, List.reverse_cons, List.reverse_nil, isiDT, anyT, List.all_cons, List.all_nil, Option.isSome_some, Bool.and_true, Bool.true_and, u_lof, u_lof2, u_tof, u_tof2, u_isiT, u_dict, u_bl, u_own, u_ownN, u_has, u_hasN, u_bk, u_bk1, u_bk2, u_stat, u_ap, u_ap1, u_ap2, u_ex, u_ex1, u_ex2, u_ownL, u_olen, u_oix, u_oix1, u_oin, u_sumT, u_sumL, u_mu, u_mu1, u_hot, u_hot1, startX, u_mb, u_mb1, u_mb1f, u_mb2, u_rev, u_revf, u_wio, u_wex, u_wel, u_wef, u_wet, u_en, u_en0, u_enc, u_enn, Int.cast_ofNat_Int, u_wzx, u_wzl, u_wzt, u_wzm, u_zd, u_zd0, intsD, DL.intD, u_kd, othC, isTy, Bool.true_xor, Bool.false_xor, eqU_pl, p_int, p_bl, p_non, p_tup, p_lst, p_frl, p0_int, p0_bl, p0_non, deq, deqs, Bool.and_true, Bool.and_false, Bool.false_and, List.contains_cons, List.contains_nil, Bool.or_false, Bool.false_or, Bool.or_self, eq_self, beq_self_eq_true, Bool.not_true, Bool.not_false, List.flatten_cons, List.flatten_nil, isi_0, isi_1, isi_2, isi_3, isi_4, isi_5, isi_6, isi_7, isi_8, isi_9, isi_10, isi_11, isi_12, isi_13, isi_14, isi_15, isi_16, isi_17, isi_18, isi_19, isi_20, isi_21, isi_22, isi_23, isi_24, isi_25, isi_26, isi_27, isi_28, isi_29, isi_30, isi_31, isi_32, isi_33, isi_34, isi_35, isi_36, isi_37, isi_38, isi_39, isi_40, isi_41, isi_42, isi_43, isi_44, isi_45, isi_46, isi_47, isi_48, isi_49, isi_50, isi_51, isi_52, isi_53, isi_54, isi_55, isi_56, isi_57, isi_58, isi_59, isi_60, isi_61, isi_62, isi_63, isi_64, isi_65, isi_66, isi_67, isi_68, isi_69, isi_70, isi_71])
local macro_rules
  | `(tactic| walk_at "dl") => `(tactic| try simp only [g_gen, r_kw, r_kw1, r_kw2, r_kw0, r_kw00, c_wi, c_en, c_en1, c_for, c_for1, c_lc, c_lc1, c_lof, c_lof1, c_ap, c_ap1, c_ap2, y_p2, y_p21, y_oo, y_fo, y_foq, y_of, y_of2, c_si, c_si1, c_si2, c_si3, c_lu1, c_lu2, c_lu3, z_fl, z_fl1, z_fl2, z_ps, z_ps1, z_ps2, z_ps3, z_eqT, z_cat, z_cat1, z_cat2, y_pop, y_pop1, y_pop2, y_lcC, y_cell, y_rem, y_rem1, y_rem2, x_subO, x_subO1, x_subO2, v_slo, v_slo1, w_ff, w_ft, w_tf, w_tt, false_and, and_false, isClsU, v_ix, v_ix1, v_ix2, v_inv, v_inv1, v_co, v_co1, v_co2, v_len, v_len1, v_f2or, isiD, tyD, clD, r_insobj, fldOf, DL.isNon, items_tup, items_lst, items_frl, hasCls, isCls, othTy, insD, DL.putK, DL.putD, initEnd, startI, startD, DL.wipeD, List.map_cons, List.map_nil, List.length_cons, List.length_nil, List.getElem?_cons_zero, List.getElem?_cons_succ, List.getElem?_nil, List.set_cons_zero, List.set_cons_succ, List.cons_append, List.nil_append, List.append_nil, List.replicate, Nat.sub_self, Nat.reduceSub, Nat.reduceAdd, Nat.reduceLeDiff, Nat.reduceEqDiff, Nat.reduceLT, Int.reduceLT, Int.reduceLE, if_true, if_false, Bool.not_true, Bool.not_false, reduceIte, reduceCtorEq, true_and, and_true, Nat.zero_add, Bool.true_eq_false, Bool.false_eq_true, eqU_int, eqU_str, eqU_bl, str_eq, str_beq, String.reduceEq, decide_true, decide_false, decide_eq_true_eq, pl_items, pl_st0, pl_st1, pl_fold, notOwn, List.mem_singleton, List.mem_cons, List.not_mem_nil, or_false, false_or, or_true, true_or, forall_eq, forall_eq_or_imp, implies_true, range_succ, range_zero, Int.reduceToNat, Int.reduceEq, Int.reduceNe, Int.reduceAdd, Int.reduceSub, Int.reduceMul, Int.reducePow, Int.reduceMod, Int.reduceDiv, atI_0, atI_1, atI_2, atI_3, rg1, rg2, startI, r_var, r_var2, r_c, r_w2, r_w2a, r_w2b, r_w1, r_w1a, r_wB, r_wBa, r_ch, r_ch1, r_ch2, r_ch3t, r_ch3f, r_and, r_andt, r_andf, r_or, r_ort, r_orf, r_not, r_nota, r_ife, r_ifet, r_ifef, r_andv, r_andvt, r_andvf, r_orv, r_orvt, r_orvf, r_notv, r_notva, r_nil, r_cons, r_cons1, r_cons2, r_tup, r_tupa, r_lst, r_lsta, r_lstc, r_lstca, r_wn, r_wna, r_call, r_calla, r_mk, r_mk1, r_mk2, r_mkc, r_mkc1, r_mkc2, r_me, r_me1, r_me2, r_bo, r_bo1, r_bo2, r_onone, r_osome, r_osomea, r_sl, r_sl1, r_sl2, r_sl3, r_sl3f, r_ii, r_ii0, r_ib, r_i1, r_plus, r_plusl, r_times, r_timesl, r_isn, r_notn, r_eqd, r_ned, r_int1, r_int1b, r_max2, r_min2, r_abs, r_ix, r_ix2, r_ix3, r_len, r_len2, r_isi, r_isi2, r_fld, r_fld2, r_fld3, r_insobj, r_kx, r_next, r_never, r_seq, r_seqa, r_if, r_ift, r_iff, r_ret, r_retn, r_brk, r_cnt, r_drop, r_dropa, r_set, r_seta, r_asg, r_asga, r_name, r_namec, r_ktup, r_kunl, r_kcons, r_kcs, r_knil, r_par2, r_par2a, r_par3, r_par3a, r_aug, r_auga, r_augb, r_augc, r_for, r_fora, r_knx, r_fldo, r_fldoa, r_put, r_frz, r_frz2, r_frz3, r_frz4, r_cl, r_seto, r_setoa, r_wil, r_wila, r_wilf, r_wit, r_wita, r_wi1, r_wi1a, r_wi2, r_wi2a, r_wie, r_wiea, r_wiz, r_wiza, r_wizt, r_lc, r_lc0, r_lcn, r_lcc, r_lc1, r_lc2t, r_lc2f, r_lc3, r_yes, r_sub, r_sub1, r_sub2, r_sub3, r_dnx, r_drt, r_dxc, r_inx, r_init, r_ixc, t_raise, t_raise2, t_try, t_cat, t_catt, t_catf, t_sunx, t_surt, t_nx0, t_nx1, t_nx2, t_nx3, t_prop, t_prop2, t_xf, t_xf2, t_isx, t_isx2, t_wht, t_whf, t_equ, t_neu, t_el, List.reverse_cons, List.reverse_nil, isiDT, anyT, List.all_cons, List.all_nil, Option.isSome_some, Bool.and_true, Bool.true_and, u_lof, u_lof2, u_tof, u_tof2, u_isiT, u_dict, u_bl, u_own, u_ownN, u_has, u_hasN, u_bk, u_bk1, u_bk2, u_stat, u_ap, u_ap1, u_ap2, u_ex, u_ex1, u_ex2, u_ownL, u_olen, u_oix, u_oix1, u_oin, u_sumT, u_sumL, u_mu, u_mu1, u_hot, u_hot1, startX, u_mb, u_mb1, u_mb1f, u_mb2, u_rev, u_revf, u_wio, u_wex, u_wel, u_wef, u_wet, u_en, u_en0, u_enc, u_enn, Int.cast_ofNat_Int, u_wzx, u_wzl, u_wzt, u_wzm, u_zd, u_zd0, intsD, DL.intD, u_kd, othC, isTy, Bool.true_xor, Bool.false_xor, eqU_pl, p_int, p_bl, p_non, p_tup, p_lst, p_frl, p0_int, p0_bl, p0_non, deq, deqs, Bool.and_true, Bool.and_false, Bool.false_and, List.contains_cons, List.contains_nil, Bool.or_false, Bool.false_or, Bool.or_self, eq_self, beq_self_eq_true, Bool.not_true, Bool.not_false, List.flatten_cons, List.flatten_nil, isi_0, isi_1, isi_2, isi_3, isi_4, isi_5, isi_6, isi_7, isi_8, isi_9, isi_10, isi_11, isi_12, isi_13, isi_14, isi_15, isi_16, isi_17, isi_18, isi_19, isi_20, isi_21, isi_22, isi_23, isi_24, isi_25, isi_26, isi_27, isi_28, isi_29, isi_30, isi_31, isi_32, isi_33, isi_34, isi_35, isi_36, isi_37, isi_38, isi_39, isi_40, isi_41, isi_42, isi_43, isi_44, isi_45, isi_46, isi_47, isi_48, isi_49, isi_50, isi_51, isi_52, isi_53, isi_54, isi_55, isi_56, isi_57, isi_58, isi_59, isi_60, isi_61, isi_62, isi_63, isi_64, isi_65, isi_66, isi_67, isi_68, isi_69, isi_70, isi_71])
local macro_rules
  | `(tactic| walk_at "cm") => `(tactic| first | exact .inl (.inr ⟨by omega, by omega⟩) | exact .inl (.inl ⟨by omega, by omega⟩) | exact cm_bd (by unfold Bd; omega) (by unfold Bd; omega))
local macro_rules
  | `(tactic| walk_at "cs") => `(tactic| repeat ((with_reducible refine And.intro ?_ ?_); (· first | decide | (walk_at "cm") | exact ⟨by decide, by decide, by decide⟩ | omega)))
local macro_rules
  | `(tactic| walk_at "go") => `(tactic| (walk_at "dl"; walk_at "cs"))
local macro_rules
  | `(tactic| walk_at "gn") => `(tactic| (walk_at "dn"; walk_at "cs"))
section
variable {Q : D → Mu → Prop} {Xd : XD} {μ : Mu}
theorem times_ev {r : Rl} {t : SA.T3} {a b c p : SA.P} (ok : RlOk r) (g : SA.Good t) (bt : BT t) (small : ∀ q, SA.own (rlR r) t q = true → (-20 < q.1 ∧ q.1 < 20) ∧ -20 < q.2 ∧ q.2 < 20)
    (bp : -1000 ≤ p.1 ∧ p.1 ≤ 1000 ∧ -1000 ≤ p.2 ∧ p.2 ≤ 1000) (bu : -30 ≤ b.1 - a.1 ∧ b.1 - a.1 ≤ 30 ∧ -30 ≤ b.2 - a.2 ∧ b.2 - a.2 ≤ 30) (bv : -30 ≤ c.1 - a.1 ∧ c.1 - a.1 ≤ 30 ∧ -30 ≤ c.2 - a.2 ∧ c.2 - a.2 ≤ 30)
    (h : Q (.int (SA.times (rlR r) t a b c p)) μ) : sp__law_times [rlD r, trd t, pr (b.1 - a.1) (b.2 - a.2), pr (c.1 - a.1) (c.2 - a.2), pd p] μ Q Xd := by
  unfold sp__law_times w__law_times
  walk_at "gn"
  refine forL_rng (lo := -9) (n := 19) (fun j ρ μ' => μ' = μ ∧ ∃ s7 s8 s9 : Sl, ρ = [.v (rlD r), .v (trd t), .v (pr (b.1 - a.1) (b.2 - a.2)), .v (pr (c.1 - a.1) (c.2 - a.2)), .v (pd p), .v (.int (SA.sumN (fun I => SA.sumN (fun J => SA.b1 (SA.own (rlR r) t (SA.bk a b c p I J))) 19) j)), s7, s8, s9]) (fun I hI ρ μ' K hV hK => ?_) (fun ρ μ' hV => ?_) ⟨rfl, _, _, _, rfl⟩
  · obtain ⟨rfl, s7, s8, s9, rfl⟩ := hV
    walk_at "gn"
    refine forL_rng (lo := -9) (n := 19) (fun j ρ μ2 => μ2 = μ' ∧ ∃ s8 s9 : Sl, ρ = [.v (rlD r), .v (trd t), .v (pr (b.1 - a.1) (b.2 - a.2)), .v (pr (c.1 - a.1) (c.2 - a.2)), .v (pd p), .v (.int (SA.sumN (fun I => SA.sumN (fun J => SA.b1 (SA.own (rlR r) t (SA.bk a b c p I J))) 19) I + SA.sumN (fun J => SA.b1 (SA.own (rlR r) t (SA.bk a b c p I J))) j)), .v (.int (-9 + (I : Int))), s8, s9]) (fun J hJ ρ μ2 K2 hV2 hK2 => ?_) (fun ρ μ2 hV2 => ?_) ⟨rfl, s8, s9, by rw [show ∀ f, SA.sumN f 0 = 0 from fun _ => rfl, Int.add_zero]⟩
    · obtain ⟨rfl, s8, s9, rfl⟩ := hV2
      walk_at "gn"
      obtain ⟨q, hq⟩ : ∃ q, q = SA.bk a b c p I J := ⟨_, rfl⟩
      have q1 : p.1 - (-9 + (I : Int)) * (b.1 - a.1) - (-9 + (J : Int)) * (c.1 - a.1) = q.1 := by rw [hq]; rfl
      have q2 : p.2 - (-9 + (I : Int)) * (b.2 - a.2) - (-9 + (J : Int)) * (c.2 - a.2) = q.2 := by rw [hq]; rfl
      rw [q1, q2]
      have nx : SA.sumN (fun J => SA.b1 (SA.own (rlR r) t (SA.bk a b c p I J))) (J + 1) = SA.sumN (fun J => SA.b1 (SA.own (rlR r) t (SA.bk a b c p I J))) J + SA.b1 (SA.own (rlR r) t q) := by rw [hq]; rfl
      rw [nx] at hK2
      generalize SA.sumN (fun I => SA.sumN (fun J => SA.b1 (SA.own (rlR r) t (SA.bk a b c p I J))) 19) I = X at *
      generalize SA.sumN (fun J => SA.b1 (SA.own (rlR r) t (SA.bk a b c p I J))) J = Y at *
      have out : ¬ ((-20 < q.1 ∧ q.1 < 20) ∧ -20 < q.2 ∧ q.2 < 20) → X + Y = X + (Y + SA.b1 (SA.own (rlR r) t q)) := fun h => by
        cases co : SA.own (rlR r) t q with
        | true => exact absurd (small q co) h
        | false => show X + Y = X + (Y + 0); omega
      by_cases c1 : -20 < q.1
      · rw [decide_eq_true c1]
        walk_at "gn"
        by_cases c2 : q.1 < 20
        · rw [decide_eq_true c2]
          walk_at "gn"
          by_cases c3 : -20 < q.2
          · rw [decide_eq_true c3]
            walk_at "gn"
            by_cases c4 : q.2 < 20
            · rw [decide_eq_true c4]
              walk_at "gn"
              refine owns_ev (p := q) isP_pr ok g bt (by unfold BP B6; omega) ?_
              walk_at "gn"
              cases co : SA.own (rlR r) t q with
              | true =>
                walk_at "gn"
                rw [co] at hK2
                exact hK2 _ _ ⟨rfl, _, _, by rw [show X + (Y + SA.b1 true) = X + Y + 1 by show X + (Y + 1) = _; omega]⟩
              | false =>
                walk_at "gn"
                rw [co] at hK2
                exact hK2 _ _ ⟨rfl, _, _, by rw [show X + (Y + SA.b1 false) = X + Y + 0 by show X + (Y + 0) = _; omega]⟩
            · rw [decide_eq_false c4]
              walk_at "gn"
              rw [out (by omega)]
              exact hK2 _ _ ⟨rfl, _, _, rfl⟩
          · rw [decide_eq_false c3]
            walk_at "gn"
            rw [out (by omega)]
            exact hK2 _ _ ⟨rfl, _, _, rfl⟩
        · rw [decide_eq_false c2]
          walk_at "gn"
          rw [out (by omega)]
          exact hK2 _ _ ⟨rfl, _, _, rfl⟩
      · rw [decide_eq_false c1]
        walk_at "gn"
        rw [out (by omega)]
        exact hK2 _ _ ⟨rfl, _, _, rfl⟩
    · obtain ⟨rfl, s8, s9, rfl⟩ := hV2
      exact hK _ _ ⟨rfl, _, _, _, rfl⟩
  · obtain ⟨rfl, s7, s8, s9, rfl⟩ := hV
    walk_at "gn"
    exact h
theorem near_ev {a b c p : SA.P} (bp : -1000 ≤ p.1 ∧ p.1 ≤ 1000 ∧ -1000 ≤ p.2 ∧ p.2 ≤ 1000) (ba : -100 ≤ a.1 ∧ a.1 ≤ 100 ∧ -100 ≤ a.2 ∧ a.2 ≤ 100) (bu : -30 ≤ b.1 - a.1 ∧ b.1 - a.1 ≤ 30 ∧ -30 ≤ b.2 - a.2 ∧ b.2 - a.2 ≤ 30) (bv : -30 ≤ c.1 - a.1 ∧ c.1 - a.1 ≤ 30 ∧ -30 ≤ c.2 - a.2 ∧ c.2 - a.2 ≤ 30)
    (h : ∀ bb : Bool, (bb = true → (-(8 * SA.sd a b c) ≤ SA.sd a b p ∧ SA.sd a b p ≤ 8 * SA.sd a b c) ∧ -(8 * SA.sd a b c) ≤ SA.sd c a p ∧ SA.sd c a p ≤ 8 * SA.sd a b c) → Q (.bl bb) μ) : sp__law_near [pr (b.1 - a.1) (b.2 - a.2), pr (c.1 - a.1) (c.2 - a.2), pd p, pd a] μ Q Xd := by
  unfold sp__law_near w__law_near
  walk_at "gn"
  have eA : (b.1 - a.1) * (c.2 - a.2) - (b.2 - a.2) * (c.1 - a.1) = SA.sd a b c := by unfold SA.sd; grind
  have eX : (p.1 - a.1) * (c.2 - a.2) - (p.2 - a.2) * (c.1 - a.1) = SA.sd c a p := by unfold SA.sd; grind
  have eY : (b.1 - a.1) * (p.2 - a.2) - (b.2 - a.2) * (p.1 - a.1) = SA.sd a b p := by unfold SA.sd; grind
  rw [eA, eX]
  generalize SA.sd a b c = A at *
  generalize SA.sd c a p = X at *
  by_cases c1 : (if X < 0 then -X else X) ≤ 8 * A
  · rw [decide_eq_true c1]
    walk_at "gn"
    rw [eY]
    refine h _ fun hb => ?_
    have c2 := of_decide_eq_true hb
    generalize SA.sd a b p = Y at *
    split at c1 <;> split at c2 <;> omega
  · rw [decide_eq_false c1]
    walk_at "gn"
    exact h false fun z => nomatch z
def Iv (ns : List Int) (ρ : DS) (_ : Mu) : Prop := ∃ s1 s2 s3 s4 s5 s6 s7 s8 s9 s10 s11 s12 s13 s14 s15 s16 s17, slv s17 = true ∧ ρ = [.v (.frl (ns.map D.int)), s1, s2, s3, s4, s5, s6, s7, s8, s9, s10, s11, s12, s13, s14, s15, s16, s17]
theorem law_ev {ns : List Int} (hl : ns.length ≤ 63) (h : ∀ μ, Q (.bl true) μ) : sp_law [.frl (ns.map D.int)] [] Q Xd := by
  unfold sp_law w_law
  walk_at "dn"
  obtain ⟨t1, t2, t3⟩ := turns_ok (n := (ns.map D.int).length) (m := 4) (by decide)
  refine ⟨t1, t2, ?_⟩
  change forL _ _ _ (rangeD 0 (turns (ns.map D.int).length 4).toNat) _ _
  refine forL_inv (Iv ns) (fun ρ μ hI => ?_) (fun d hd ρ μ K hI hK => ?_) ?_
  · obtain ⟨s1, s2, s3, s4, s5, s6, s7, s8, s9, s10, s11, s12, s13, s14, s15, s16, s17, h17, rfl⟩ := hI
    walk_at "gn"
    exact h _
  · obtain ⟨i, hi, rfl⟩ := mem_range hd
    obtain ⟨s1, s2, s3, s4, s5, s6, s7, s8, s9, s10, s11, s12, s13, s14, s15, s16, s17, h17, rfl⟩ := hI
    walk_at "gn"
    refine hand_ev hl (by omega) (by omega) fun p q ok => ?_
    walk_at "gn"
    refine lcorners_ev (n := 4) ok (by decide) fun ax ay bx by_ cx cy p q ok a1 a2 a3 a4 b1 b2 b3 b4 c1 c2 c3 c4 g => ?_
    obtain ⟨a, ha⟩ : ∃ a : SA.P, a = (ax, ay) := ⟨_, rfl⟩
    obtain ⟨b, hb⟩ : ∃ b : SA.P, b = (bx, by_) := ⟨_, rfl⟩
    obtain ⟨c, hc⟩ : ∃ c : SA.P, c = (cx, cy) := ⟨_, rfl⟩
    have g' : 0 < SA.sd a b c := by rw [ha, hb, hc]; exact g
    have na : -4 ≤ a.1 ∧ a.1 ≤ 4 ∧ -4 ≤ a.2 ∧ a.2 ≤ 4 := by rw [ha]; simp only; omega
    have nb : -4 ≤ b.1 ∧ b.1 ≤ 7 ∧ -4 ≤ b.2 ∧ b.2 ≤ 7 := by rw [hb]; simp only; omega
    have nc : -4 ≤ c.1 ∧ c.1 ≤ 7 ∧ -4 ≤ c.2 ∧ c.2 ≤ 7 := by rw [hc]; simp only; omega
    rw [show D.lst [pr ax ay, pr bx by_, pr cx cy] = .lst [pd a, pd b, pd c] by rw [ha, hb, hc]]
    clear ha hb hc g a1 a2 a3 a4 b1 b2 b3 b4 c1 c2 c3 c4
    walk_at "gn"
    refine rrule_ev ok fun tr p q ok tok => ?_
    walk_at "gn"
    refine made_ev tok.1 ?_
    walk_at "gn"
    have gT : SA.Good ⟨a, b, c⟩ := g'
    have bT : BT ⟨a, b, c⟩ := by unfold BT BP B6; simp only; omega
    refine tri_init isP_pr isP_pr isP_pr (cm6 bT.2.1.1 bT.1.1 bT.2.2.2 bT.1.2) (cm6 bT.2.1.2 bT.1.2 bT.2.2.1 bT.1.1) gT ?_
    walk_at "gn"
    rw [show D.obj "Triangle" ["pairs"] [D.lst [pr a.1 a.2, pr b.1 b.2, pr c.1 c.2]] = trd ⟨a, b, c⟩ from rfl]
    obtain ⟨tw, htw⟩ : ∃ tw : SA.P, tw = (b.1 + c.1 - a.1, b.2 + c.2 - a.2) := ⟨_, rfl⟩
    have tw1 : tw.1 = b.1 + c.1 - a.1 := by rw [htw]
    have tw2 : tw.2 = b.2 + c.2 - a.2 := by rw [htw]
    have bw : BP tw := by unfold BP B6; omega
    have stw : SA.sd b tw c = SA.sd a b c := SA.twin_sd tw1 tw2
    have gw : SA.Good ⟨b, tw, c⟩ := by
      show 0 < SA.sd b tw c
      omega
    have bT2 : BT ⟨b, tw, c⟩ := ⟨bT.2.1, bw, bT.2.2⟩
    refine twinG_ev gT bT bw tw1 tw2 ?_
    walk_at "gn"
    rw [show b.1 + (c.1 - a.1) = tw.1 by omega, show b.2 + (c.2 - a.2) = tw.2 by omega]
    refine tri_initN isP_pr isP_pr isP_pr (cm6 bT.2.2.1 bT.2.1.1 bw.2 bT.2.1.2) (cm6 bT.2.2.2 bT.2.1.2 bw.1 bT.2.1.1) ?_ ?_
    · show SA.sd b c tw < 0
      have : SA.sd b c tw = - SA.sd b tw c := by unfold SA.sd; grind
      omega
    walk_at "gn"
    rw [show D.obj "Triangle" ["pairs"] [D.lst [pr b.1 b.2, pr tw.1 tw.2, pr c.1 c.2]] = trd ⟨b, tw, c⟩ from rfl]
    refine ⟨rfl, teq_ev ?_⟩
    walk_at "gn"
    refine ⟨rfl, tarea_ev bT2 ?_⟩
    walk_at "gn"
    refine ⟨rfl, tarea_ev bT ?_⟩
    walk_at "gn"
    rw [decide_eq_true stw]
    walk_at "gn"
    have okr := tr_ok tok.1
    obtain ⟨w, ah, hw, hR2⟩ := tok.2
    have rt : ∀ d, d ≠ SA.O → rlR (trR tr) d = SA.hf w ah d := fun d hd => by rw [tr_in tok.1, hR2 d hd]
    have area : SA.totS (rlR (trR tr)) ⟨a, b, c⟩ 1 0 0 + SA.totS (rlR (trR tr)) ⟨b, tw, c⟩ 1 0 0 = SA.sd a b c := by
      rw [SA.tot_congr gT (by decide) rt, SA.tot_congr gw (by decide) rt]
      exact SA.twin_unit hw gT tw1 tw2
    have b301 : B30 1 := by unfold B30; omega
    have sm : ∀ (t : SA.T3), SA.Good t → (∀ z ∈ [t.a, t.b, t.c], -19 ≤ z.1 ∧ z.1 ≤ 19 ∧ -19 ≤ z.2 ∧ z.2 ≤ 19) → ∀ z, SA.own (rlR (trR tr)) t z = true → (-20 < z.1 ∧ z.1 < 20) ∧ -20 < z.2 ∧ z.2 < 20 := fun t g nt z hz => by
      have k := SA.own_box (lo := (-19, -19)) (hi := (19, 19)) g hz fun v hv => by
        have := nt v hv
        simp only
        omega
      simp only at k
      omega
    refine forL_rng (lo := 0) (n := 8) (fun j ρ μ' => (∃ p q, PoolOk p q ∧ μ' = pl μ p q) ∧ ∃ s11 s12 s13 s14 s15 s16 : Sl, ρ = [.v (.frl (ns.map D.int)), .v (.int (0 + i)), .v (.loc μ.length), .v (pd a), .v (pd b), .v (pd c), .v (rlD (trR tr)), .v (trd ⟨a, b, c⟩), .v (trd ⟨b, tw, c⟩), .v (pr (b.1 - a.1) (b.2 - a.2)), .v (pr (c.1 - a.1) (c.2 - a.2)), s11, s12, s13, s14, s15, s16, s17]) (fun j hj ρ μ' K1 hI hK1 => ?_) (fun ρ μ' hI => ?_) ⟨⟨_, _, ok, rfl⟩, _, _, _, _, _, _, rfl⟩
    · obtain ⟨⟨p, q, ok, rfl⟩, s11, s12, s13, s14, s15, s16, rfl⟩ := hI
      walk_at "gn"
      refine draw_ev ok (by decide) (by unfold Bd; omega) fun m p q ok m0 m1 => ?_
      walk_at "gn"
      refine draw_ev ok (by decide) (by unfold Bd; omega) fun n p q ok n0 n1 => ?_
      walk_at "gn"
      refine lpair_ev (n := 1) ok (by decide) fun dx dy p q ok x0 x1 y0 y1 => ?_
      walk_at "gn"
      obtain ⟨P, hP⟩ : ∃ P : SA.P, P = (a.1 + (m - 2) * (b.1 - a.1) + (n - 2) * (c.1 - a.1) + dx, a.2 + (m - 2) * (b.2 - a.2) + (n - 2) * (c.2 - a.2) + dy) := ⟨_, rfl⟩
      rw [show D.tup [D.int (a.1 + (m - 2) * (b.1 - a.1) + (n - 2) * (c.1 - a.1) + dx), D.int (a.2 + (m - 2) * (b.2 - a.2) + (n - 2) * (c.2 - a.2) + dy)] = pd P by rw [hP]]
      have nP : -1000 ≤ P.1 ∧ P.1 ≤ 1000 ∧ -1000 ≤ P.2 ∧ P.2 ≤ 1000 := by
        have k1 := mul_b (x := m - 2) (y := b.1 - a.1) (A := 2) (B := 14) (by omega) (by omega) (by omega) (by omega)
        have k2 := mul_b (x := m - 2) (y := b.2 - a.2) (A := 2) (B := 14) (by omega) (by omega) (by omega) (by omega)
        have k3 := mul_b (x := n - 2) (y := c.1 - a.1) (A := 2) (B := 14) (by omega) (by omega) (by omega) (by omega)
        have k4 := mul_b (x := n - 2) (y := c.2 - a.2) (A := 2) (B := 14) (by omega) (by omega) (by omega) (by omega)
        rw [hP]
        simp only
        omega
      refine near_ev (b := b) (c := c) nP (by omega) (by omega) (by omega) fun bb hbb => ?_
      walk_at "gn"
      cases bb with
      | false =>
        walk_at "gn"
        exact hK1 _ _ ⟨⟨_, _, ok, rfl⟩, _, _, _, _, _, _, rfl⟩
      | true =>
        obtain ⟨⟨y1, y2⟩, y3, y4⟩ := hbb rfl
        have ct : ∀ t, SA.Good t → SA.times (rlR (trR tr)) t a b c P = SA.times (SA.hf w ah) t a b c P := fun t g => by
          unfold SA.times
          exact SA.sumN_congr fun I _ => SA.sumN_congr fun J _ => by rw [SA.own_congr g rt]
        have one : SA.times (rlR (trR tr)) ⟨a, b, c⟩ a b c P + SA.times (rlR (trR tr)) ⟨b, tw, c⟩ a b c P = 1 := by
          rw [ct _ gT, ct _ gw]
          exact SA.tiles_one (SA.hf_hp hw) g' tw1 tw2 y1 y2 y3 y4
        walk_at "gn"
        refine ⟨(by cases s17 <;> first | exact True.intro | (cases h17; done)), ?_⟩
        refine times_ev okr gT bT (sm _ gT fun z hz => ?_) nP (by omega) (by omega) ?_
        · simp only [List.mem_cons, List.not_mem_nil, or_false] at hz
          rcases hz with rfl | rfl | rfl <;> omega
        walk_at "gn"
        refine times_ev okr gw bT2 (sm _ gw fun z hz => ?_) nP (by omega) (by omega) ?_
        · simp only [List.mem_cons, List.not_mem_nil, or_false] at hz
          rcases hz with rfl | rfl | rfl <;> omega
        walk_at "gn"
        rw [decide_eq_true one]
        walk_at "gn"
        exact hK1 _ _ ⟨⟨_, _, ok, rfl⟩, _, _, _, _, _, _, rfl⟩
    · obtain ⟨⟨p, q, ok, rfl⟩, s11, s12, s13, s14, s15, s16, rfl⟩ := hI
      walk_at "gn"
      refine unit_ev ?_
      walk_at "gn"
      refine am0_ev okr gT bT b301 (by decide) (by decide) (by decide) (by decide) (by decide) ?_
      walk_at "gn"
      refine unit_ev ?_
      walk_at "gn"
      refine am0_ev okr gw bT2 b301 (by decide) (by decide) (by decide) (by decide) (by decide) ?_
      walk_at "gn"
      refine ⟨rfl, tarea_ev bT ?_⟩
      walk_at "gn"
      rw [decide_eq_true area]
      walk_at "gn"
      exact hK _ _ ⟨_, _, _, _, _, _, _, _, _, _, _, _, _, _, _, _, _, h17, rfl⟩
  · exact ⟨_, _, _, _, _, _, _, _, _, _, _, _, _, _, _, _, _, rfl, rfl⟩
end
end K18

set_option Elab.async false
set_option linter.all false
set_option maxRecDepth 100000
set_option maxHeartbeats 0
namespace K18
open PySem PySem.Spec PyProof.Rows L2 DL
theorem law_at {P : Program} {w : World} {K : PySem.W.Frag} {mg : Str → Option Value} {h : Heap} {f : Addr} (X : K.In h) (G : h.Ns mainGlobals mg) (hm : mg ("law" : Str) = some (.ref f)) (c : SaysY fa fn exB K) :
    ∃ fd : FuncData, (∀ (s : Shared) (v : Value), BindsTo s fd ⟨[v], []⟩ [("script", v)]) ∧ ∀ base : Heap, K.In base → base.Ns mainGlobals mg → FnG P w K mg base 9 f fd ["script"] (toSp ⟨K, mg, none⟩ sp_law) := by
  have A : Hd K mg := ⟨c.d, c.more, h, X, G⟩
  obtain ⟨fd, F⟩ := A.c.def_ 51
  have e := hm.symm.trans A.g_law
  cases e
  have b := FunD.bindsA (ps := ["script"]) F fun _ _ _ _ _ _ us hl => match us, hl with | [_], _ => rfl
  exact ⟨fd, fun s v => b s [v] rfl, fun base _ _ => def_ok F sc_law (fun ds μ Q Xd h => h.1) (fun cdv A2 fr s H E hr hgd => d_law A hr hgd) fun ds μ Q Xd h => h.2⟩
end K18
open PySem PySem.W PySem.Calls PyProof.Rows
theorem PySem.Challenge.cw_filledonce_k18_whole_tiles_of_the_plane_holds : PySem.Challenge.rw_filledonce_k18_whole_tiles_of_the_plane.Holds := by
  w_on; o_law
  refine HandSHeadRun.head_any (r := OpenLaw.row PySem.Challenge.rw_filledonce_k18_whole_tiles_of_the_plane) (q := view (OpenLaw.row PySem.Challenge.rw_filledonce_k18_whole_tiles_of_the_plane).prog [76]) (H := K18.hk) (ob := K18.ob) (M := 9000) (loose := K18.loose) (d := HandSHeadRun.topDef (OpenLaw.row PySem.Challenge.rw_filledonce_k18_whole_tiles_of_the_plane).prog 76) (kwd := []) K18.ob_eq
    (by kernel_rfl) (fun s => by kernel_rfl) K18.run (by kernel_rfl) (by kernel_rfl) (by kernel_rfl) (by rfl) (by first | assumption | decide +kernel) (by decide +kernel) ⟨rfl, rfl, rfl, rfl, rfl, by decide +kernel⟩ ?hw ?hc
  case hw => w_witness2
  case hc =>
    refine DL.walk_ofD (l := PySem.Challenge.rw_filledonce_k18_whole_tiles_of_the_plane) (n := 63) (k := 9) (x := "script") (sp := K18.sp_law) rfl (by decide) (by kernel_rfl) ⟨rfl, by decide, by decide⟩ ?F fun ns hl => K18.law_ev hl fun _ => rfl
    intro w mg fa h Y G hmg0
    obtain ⟨K, KX, c⟩ := Y
    have hmg : mg ("law" : PySem.Str) = some (.ref fa) := by
      have e : (HandSHeadRun.topDef (OpenLaw.row PySem.Challenge.rw_filledonce_k18_whole_tiles_of_the_plane).prog 76).name = ("law" : PySem.Str) := by kernel_rfl
      rw [← e]
      exact hmg0
    obtain ⟨fd, hb, hF⟩ := K18.law_at (P := (PySem.Challenge.rw_filledonce_k18_whole_tiles_of_the_plane).prog) (w := w) KX G hmg c
    exact ⟨K, fd, KX, hb, hF⟩

