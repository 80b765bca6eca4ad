import PyProof.Rows.All
import PyProof.Rows.TupTab
import Wide.All
import OpenK.AllK
import Wide.FinOn
import HandS.ForMost
import HandS.Exc
import HandS.ExcInit
import HandS.ExcField
import HandS.ExcIs
import HandS.TryOnly
import HandS.WordsExc
import HandS.IsInst
import HandS.Wide
import HandS.WideMore
import HandS.Walk
import HandS.Zip
import HandS.Style
import HandS.RaiseMore
import HandS.Deep
import HandS.Defaults
import HandS.HeadHook2
import KE.KOpsOwn
import HandS.NoneIn
import HandS.Property
import HandS.ClsMeth
import HandS.SlotsOwn
import HandS.Ends
import HandS.HeadEnd
import HandS.HeadHook4
import HandS.Head2
import KE.KExcIs
import PyProof.CallFns
import PyProof.ReprRoads
import HandS.HeadNt
import HandS.Spec
import HandS.Head0
import HandS.Head1
import PyProof.InstNe
import HandS.OwnEq
import HandS.HotCalls
import PyProof.NeKinds
import HandS.Star
import PySem.Challenge.RW_filledonce_k09_rules_within_rules
import KE.KStateDown
import Lean
set_option Elab.async false
set_option linter.all false
set_option maxRecDepth 100000
set_option maxHeartbeats 4000000
set_option autoImplicit false
/-! The value layer: data in place of the heap. -/
namespace DL
open PySem PySem.Spec PyProof.Rows L2

/-- a datum: what a value is worth -/
inductive D where
  | non | bl (b : Bool) | int (i : Int) | str (s : Str)
  | tup (ds : List D) | lst (ds : List D)
  /-- a list that is known to the object (the script) -/
  | frl (ds : List D)
  /-- an instance that is not changed any more: its class, its attributes' names and values -/
  | obj (c : Str) (ks : List Str) (ds : List D)
  /-- a changeable thing, by its number -/
  | loc (n : Nat)
  | ty (n : String) | cls (c : Str)
  /-- any tracked thing -/
  | opq (o : HO)
/-- a changeable thing -/
inductive Cell where
  | lst (ds : List D)
  | ins (c : Str) (ks : List Str) (ds : List D)
  /-- a pool of draws -/
  | pool
/-- a slot: empty, a datum, or a thing of the def's own that is being filled -/
inductive Sl where
  | no | v (d : D) | own (a : Addr) (c : Cell)
  /-- the exception that a suite holds -/
  | exn (c : Str) (ks : List Str) (ds : List D)
structure Gx where
  K : PySem.W.Frag
  mg : Str → Option Value
  ex : Option (Addr × Addr × Addr)
def PoolOk (p q : Int) : Prop := 0 ≤ p ∧ 0 ≤ q ∧ q < 2147483647

mutual
def Rep (G : Gx) (m : List Addr) (E : Hp) : D → V → Prop
  | .non, v => v = .non
  | .bl b, v => v = .bl b
  | .int i, v => v = .int i
  | .str s, v => v = .str s
  | .ty n, v => v = .ty n
  | .cls c, v => ∃ C, G.mg c = some (.ref C) ∧ v = .ref C
  | .tup ds, v => ∃ a vs, v = .ref a ∧ SqT G.K E a vs ∧ Reps G m E ds vs
  | .lst ds, v => ∃ a vs, v = .ref a ∧ E a = some (.lst vs) ∧ Reps G m E ds vs
  | .frl ds, v => ∃ a vs, v = .ref a ∧ SqL G.K E a vs ∧ Reps G m E ds vs
  | .obj c ks ds, v => ∃ a C dx vs, v = .ref a ∧ G.mg c = some (.ref C) ∧ E a = some (.ins C dx (ks.zip vs)) ∧ ks.length = ds.length ∧ Reps G m E ds vs
  | .loc n, v => ∃ a, v = .ref a ∧ m[n]? = some a
  | .opq o, v => ∃ a, v = .ref a ∧ E a = some o
def Reps (G : Gx) (m : List Addr) (E : Hp) : List D → List V → Prop
  | [], vs => vs = []
  | d :: ds, vs => ∃ v r, vs = v :: r ∧ Rep G m E d v ∧ Reps G m E ds r
end

theorem SqT.same {K : PySem.W.Frag} {H H' : Hp} {a : Addr} {xs : List V} (e : Same H H') (h : SqT K H a xs) : SqT K H' a xs := by
  rcases h with (h | ⟨o, h⟩) | h
  · exact .inl (.inl (e _ _ h))
  · exact .inl (.inr ⟨o, e _ _ h⟩)
  · exact .inr h
theorem pre_get {m m' : List Addr} {n : Nat} {a : Addr} (hp : m <+: m') (h : m[n]? = some a) : m'[n]? = some a := by
  obtain ⟨e, rfl⟩ := hp
  obtain ⟨hl, _⟩ := List.getElem?_eq_some_iff.mp h
  rw [List.getElem?_append_left hl]
  exact h
mutual
theorem Rep.mono {G : Gx} {m m' : List Addr} {E E' : Hp} (hp : m <+: m') (he : Same E E') : ∀ (d : D) (v : V), Rep G m E d v → Rep G m' E' d v
  | .non, v, r => by rw [Rep] at r ⊢; exact r
  | .bl b, v, r => by rw [Rep] at r ⊢; exact r
  | .int i, v, r => by rw [Rep] at r ⊢; exact r
  | .str s, v, r => by rw [Rep] at r ⊢; exact r
  | .ty n, v, r => by rw [Rep] at r ⊢; exact r
  | .cls c, v, r => by rw [Rep] at r ⊢; exact r
  | .tup ds, v, r => by
    rw [Rep] at r ⊢
    obtain ⟨a, vs, e, s, q⟩ := r
    exact ⟨a, vs, e, SqT.same he s, Reps.mono hp he _ _ q⟩
  | .lst ds, v, r => by
    rw [Rep] at r ⊢
    obtain ⟨a, vs, e, s, q⟩ := r
    exact ⟨a, vs, e, he _ _ s, Reps.mono hp he _ _ q⟩
  | .frl ds, v, r => by
    rw [Rep] at r ⊢
    obtain ⟨a, vs, e, s, q⟩ := r
    exact ⟨a, vs, e, Same.seq he s, Reps.mono hp he _ _ q⟩
  | .obj c ks ds, v, r => by
    rw [Rep] at r ⊢
    obtain ⟨a, C, dx, vs, e, g, s, l, q⟩ := r
    exact ⟨a, C, dx, vs, e, g, he _ _ s, l, Reps.mono hp he _ _ q⟩
  | .loc n, v, r => by
    rw [Rep] at r ⊢
    obtain ⟨a, e, s⟩ := r
    exact ⟨a, e, pre_get hp s⟩
  | .opq o, v, r => by
    rw [Rep] at r ⊢
    obtain ⟨a, e, s⟩ := r
    exact ⟨a, e, he _ _ s⟩
theorem Reps.mono {G : Gx} {m m' : List Addr} {E E' : Hp} (hp : m <+: m') (he : Same E E') : ∀ (ds : List D) (vs : List V), Reps G m E ds vs → Reps G m' E' ds vs
  | [], vs, r => by rw [Reps] at r ⊢; exact r
  | d :: ds, vs, r => by
    rw [Reps] at r ⊢
    obtain ⟨v, t, e, s, q⟩ := r
    exact ⟨v, t, e, Rep.mono hp he _ _ s, Reps.mono hp he _ _ q⟩
end
theorem Reps.len {G : Gx} {m : List Addr} {E : Hp} : ∀ {ds : List D} {vs : List V}, Reps G m E ds vs → ds.length = vs.length
  | [], vs, r => by rw [Reps] at r; rw [r]; rfl
  | d :: ds, vs, r => by
    rw [Reps] at r
    obtain ⟨v, t, e, _, q⟩ := r
    rw [e, List.length_cons, List.length_cons, Reps.len q]
theorem Reps.nil {G : Gx} {m : List Addr} {E : Hp} : Reps G m E [] [] := by rw [Reps]
theorem Reps.cons {G : Gx} {m : List Addr} {E : Hp} {d : D} {ds : List D} {v : V} {vs : List V} (h : Rep G m E d v) (t : Reps G m E ds vs) : Reps G m E (d :: ds) (v :: vs) := by
  rw [Reps]; exact ⟨v, vs, rfl, h, t⟩
theorem Reps.uncons {G : Gx} {m : List Addr} {E : Hp} {d : D} {ds : List D} {vs : List V} (h : Reps G m E (d :: ds) vs) : ∃ v r, vs = v :: r ∧ Rep G m E d v ∧ Reps G m E ds r := by
  rw [Reps] at h; exact h
theorem Reps.get {G : Gx} {m : List Addr} {E : Hp} : ∀ {ds : List D} {vs : List V} {i : Nat} {d : D}, Reps G m E ds vs → ds[i]? = some d → ∃ v, vs[i]? = some v ∧ Rep G m E d v
  | [], _, _, _, _, h => by simp at h
  | d0 :: ds, vs, 0, d, r, h => by
    obtain ⟨v, t, rfl, q, _⟩ := r.uncons
    simp at h; subst h
    exact ⟨v, rfl, q⟩
  | d0 :: ds, vs, i + 1, d, r, h => by
    obtain ⟨v, t, rfl, _, q⟩ := r.uncons
    obtain ⟨u, e, s⟩ := Reps.get (i := i) (d := d) q (by simpa using h)
    exact ⟨u, by simpa using e, s⟩
theorem Reps.get' {G : Gx} {m : List Addr} {E : Hp} {ds : List D} {vs : List V} {i : Nat} {v : V} (r : Reps G m E ds vs) (h : vs[i]? = some v) : ∃ d, ds[i]? = some d ∧ Rep G m E d v := by
  obtain ⟨hl, _⟩ := List.getElem?_eq_some_iff.mp h
  have hd : i < ds.length := by rw [r.len]; exact hl
  obtain ⟨u, e, s⟩ := r.get (List.getElem?_eq_getElem hd)
  rw [h] at e; cases e
  exact ⟨_, List.getElem?_eq_getElem hd, s⟩
theorem Reps.append {G : Gx} {m : List Addr} {E : Hp} : ∀ {ds es : List D} {vs us : List V}, Reps G m E ds vs → Reps G m E es us → Reps G m E (ds ++ es) (vs ++ us)
  | [], es, vs, us, r, q => by rw [Reps] at r; subst r; exact q
  | d :: ds, es, vs, us, r, q => by
    obtain ⟨v, t, rfl, h, r'⟩ := r.uncons
    exact Reps.cons h (Reps.append r' q)
theorem Reps.take {G : Gx} {m : List Addr} {E : Hp} : ∀ {ds : List D} {vs : List V} (n : Nat), Reps G m E ds vs → Reps G m E (ds.take n) (vs.take n)
  | ds, vs, 0, r => by simp [Reps]
  | [], vs, n + 1, r => by rw [Reps] at r; subst r; simp [Reps]
  | d :: ds, vs, n + 1, r => by
    obtain ⟨v, t, rfl, h, r'⟩ := r.uncons
    exact Reps.cons h (Reps.take n r')
theorem Reps.drop {G : Gx} {m : List Addr} {E : Hp} : ∀ {ds : List D} {vs : List V} (n : Nat), Reps G m E ds vs → Reps G m E (ds.drop n) (vs.drop n)
  | ds, vs, 0, r => r
  | [], vs, n + 1, r => by rw [Reps] at r; subst r; simp [Reps]
  | d :: ds, vs, n + 1, r => by
    obtain ⟨v, t, rfl, h, r'⟩ := r.uncons
    exact Reps.drop n r'
theorem Reps.set {G : Gx} {m : List Addr} {E : Hp} {d : D} {v : V} (h : Rep G m E d v) : ∀ {ds : List D} {vs : List V} (n : Nat), Reps G m E ds vs → Reps G m E (ds.set n d) (vs.set n v)
  | [], vs, n, r => by rw [Reps] at r; subst r; simp [Reps]
  | d0 :: ds, vs, 0, r => by
    obtain ⟨u, t, rfl, _, r'⟩ := r.uncons
    exact Reps.cons h r'
  | d0 :: ds, vs, n + 1, r => by
    obtain ⟨u, t, rfl, q, r'⟩ := r.uncons
    exact Reps.cons q (Reps.set h n r')
theorem Reps.eraseIdx {G : Gx} {m : List Addr} {E : Hp} : ∀ {ds : List D} {vs : List V} (n : Nat), Reps G m E ds vs → Reps G m E (ds.eraseIdx n) (vs.eraseIdx n)
  | [], vs, n, r => by rw [Reps] at r; subst r; simp [Reps]
  | d0 :: ds, vs, 0, r => by
    obtain ⟨u, t, rfl, _, r'⟩ := r.uncons
    exact r'
  | d0 :: ds, vs, n + 1, r => by
    obtain ⟨u, t, rfl, q, r'⟩ := r.uncons
    exact Reps.cons q (Reps.eraseIdx n r')
theorem Reps.reverse {G : Gx} {m : List Addr} {E : Hp} : ∀ {ds : List D} {vs : List V}, Reps G m E ds vs → Reps G m E ds.reverse vs.reverse
  | [], vs, r => by rw [Reps] at r; subst r; exact Reps.nil
  | d0 :: ds, vs, r => by
    obtain ⟨u, t, rfl, q, r'⟩ := r.uncons
    rw [List.reverse_cons, List.reverse_cons]
    exact Reps.append (Reps.reverse r') (Reps.cons q Reps.nil)
theorem Reps.map_of {G : Gx} {m : List Addr} {E : Hp} {α : Type} {f : α → D} {g : α → V} (h : ∀ x, Rep G m E (f x) (g x)) : ∀ l : List α, Reps G m E (l.map f) (l.map g)
  | [] => Reps.nil
  | x :: l => Reps.cons (h x) (Reps.map_of h l)

/-! ### what is seen of the heap: all but the hidden and the changeable -/
noncomputable def vis (W : Addr → Prop) (m : List Addr) (H : Hp) : Hp := fun b => open Classical in if W b ∨ b ∈ m then none else H b
theorem vis_some {W : Addr → Prop} {m : List Addr} {H : Hp} {b : Addr} {o : HO} : vis W m H b = some o ↔ (¬ W b ∧ b ∉ m ∧ H b = some o) := by
  unfold vis
  by_cases h : W b ∨ b ∈ m
  · rw [if_pos h]
    constructor
    · intro z; cases z
    · rintro ⟨h1, h2, _⟩
      exact absurd h (by simp [h1, h2])
  · rw [if_neg h]
    constructor
    · intro z
      exact ⟨fun q => h (.inl q), fun q => h (.inr q), z⟩
    · exact fun z => z.2.2
theorem vis_le {W : Addr → Prop} {m : List Addr} {H : Hp} : Same (vis W m H) H := fun b o h => (vis_some.mp h).2.2
def CellOk (G : Gx) (m : List Addr) (E H : Hp) (c : Cell) (a : Addr) : Prop :=
  match c with
  | .lst ds => ∃ vs, H a = some (.lst vs) ∧ Reps G m E ds vs
  | .ins c ks ds => ∃ C dx vs, G.mg c = some (.ref C) ∧ H a = some (.ins C dx (ks.zip vs)) ∧ ks.length = ds.length ∧ Reps G m E ds vs
  | .pool => ∃ p q, PoolOk p q ∧ H a = some (.lst [.int p, .int q])
structure MuOk (G : Gx) (W : Addr → Prop) (m : List Addr) (μ : List Cell) (H : Hp) : Prop where
  len : m.length = μ.length
  nd : m.Nodup
  out : ∀ a ∈ m, ¬ W a
  hw : ∀ z, W z → H z ≠ none
  cell : ∀ (n : Nat) (c : Cell) (a : Addr), μ[n]? = some c → m[n]? = some a → CellOk G m (vis W m H) H c a
theorem CellOk.there {G : Gx} {m : List Addr} {E H : Hp} {c : Cell} {a : Addr} (h : CellOk G m E H c a) : H a ≠ none := by
  cases c with
  | lst ds => obtain ⟨_, e, _⟩ := h; rw [e]; intro z; cases z
  | ins c ks ds => obtain ⟨_, _, _, _, e, _⟩ := h; rw [e]; intro z; cases z
  | pool => obtain ⟨_, _, _, e⟩ := h; rw [e]; intro z; cases z
theorem CellOk.keep {G : Gx} {m m' : List Addr} {E E' H H' : Hp} {c : Cell} {a : Addr} (hp : m <+: m') (he : Same E E') (e : H' a = H a) (h : CellOk G m E H c a) : CellOk G m' E' H' c a := by
  cases c with
  | lst ds =>
    obtain ⟨vs, h1, h2⟩ := h
    exact ⟨vs, e.trans h1, Reps.mono hp he _ _ h2⟩
  | ins c ks ds =>
    obtain ⟨C, dx, vs, h0, h1, hl, h2⟩ := h
    exact ⟨C, dx, vs, h0, e.trans h1, hl, Reps.mono hp he _ _ h2⟩
  | pool =>
    obtain ⟨p, q, h0, h1⟩ := h
    exact ⟨p, q, h0, e.trans h1⟩
theorem MuOk.mem {G : Gx} {W : Addr → Prop} {m : List Addr} {μ : List Cell} {H : Hp} (M : MuOk G W m μ H) {a : Addr} (h : a ∈ m) : H a ≠ none := by
  obtain ⟨n, hn, e⟩ := List.mem_iff_getElem.mp h
  have hn' : n < μ.length := by rw [← M.len]; exact hn
  exact (M.cell n μ[n] a (List.getElem?_eq_getElem hn') (by rw [List.getElem?_eq_getElem hn, e])).there
/-- a step of code: what was hidden stays, what was seen stays -/
structure Step (G : Gx) (W : Addr → Prop) (m : List Addr) (H : Hp) (m' : List Addr) (μ' : List Cell) (H' : Hp) : Prop where
  pre : m <+: m'
  hid : ∀ z, W z → H' z = H z
  mu : MuOk G W m' μ' H'
  same : Same (vis W m H) (vis W m' H')
theorem Step.refl {G : Gx} {W : Addr → Prop} {m : List Addr} {μ : List Cell} {H : Hp} (M : MuOk G W m μ H) : Step G W m H m μ H := ⟨List.prefix_refl _, fun _ _ => rfl, M, Same.refl _⟩
theorem Step.trans {G : Gx} {W : Addr → Prop} {m m1 m2 : List Addr} {μ1 μ2 : List Cell} {H H1 H2 : Hp} (a : Step G W m H m1 μ1 H1) (b : Step G W m1 H1 m2 μ2 H2) : Step G W m H m2 μ2 H2 :=
  ⟨a.pre.trans b.pre, fun z h => (b.hid z h).trans (a.hid z h), b.mu, a.same.trans b.same⟩
abbrev Mu := List Cell
abbrev DS := List Sl
/-- behind an expression -/
def VPost (G : Gx) (W : Addr → Prop) (m : List Addr) (H : Hp) (Q : D → Mu → Prop) (v : V) (H' : Hp) : Prop :=
  ∃ m' d μ', Step G W m H m' μ' H' ∧ Rep G m' (vis W m' H') d v ∧ Q d μ'
theorem VPost.now {G : Gx} {W : Addr → Prop} {m : List Addr} {μ : Mu} {H : Hp} {Q : D → Mu → Prop} {d : D} {v : V} (M : MuOk G W m μ H) (r : Rep G m (vis W m H) d v) (q : Q d μ) : VPost G W m H Q v H := ⟨m, d, μ, .refl M, r, q⟩
theorem VPost.from {G : Gx} {W : Addr → Prop} {m m1 : List Addr} {μ1 : Mu} {H H1 H' : Hp} {Q : D → Mu → Prop} {v : V} (s : Step G W m H m1 μ1 H1) (p : VPost G W m1 H1 Q v H') : VPost G W m H Q v H' := by
  obtain ⟨m', d, μ', s', r, q⟩ := p
  exact ⟨m', d, μ', s.trans s', r, q⟩
theorem VPost.imp {G : Gx} {W : Addr → Prop} {m : List Addr} {H H' : Hp} {Q Q' : D → Mu → Prop} {v : V} (p : VPost G W m H Q v H') (h : ∀ d μ, Q d μ → Q' d μ) : VPost G W m H Q' v H' := by
  obtain ⟨m', d, μ', s', r, q⟩ := p
  exact ⟨m', d, μ', s', r, h _ _ q⟩
/-- an exception's data: its class, its attributes -/
abbrev XD := Str → List Str → List D → Mu → Prop
def XPost (G : Gx) (W : Addr → Prop) (m : List Addr) (H : Hp) (Xd : XD) (cls : Value) (d : Option Addr) (H' : Hp) : Prop :=
  ∃ m' c ks es μ' C dd vs, Step G W m H m' μ' H' ∧ cls = .ref C ∧ d = some dd ∧ G.mg c = some (.ref C) ∧ vis W m' H' dd = some (.xd (ks.zip vs)) ∧ ks.length = es.length ∧ Reps G m' (vis W m' H') es vs ∧ Xd c ks es μ'
theorem XPost.from {G : Gx} {W : Addr → Prop} {m m1 : List Addr} {μ1 : Mu} {H H1 H' : Hp} {Xd : XD} {cls : Value} {d : Option Addr} (s : Step G W m H m1 μ1 H1) (p : XPost G W m1 H1 Xd cls d H') : XPost G W m H Xd cls d H' := by
  obtain ⟨m', c, ks, es, μ', C, dd, vs, s', r⟩ := p
  exact ⟨m', c, ks, es, μ', C, dd, vs, s.trans s', r⟩
theorem XPost.imp {G : Gx} {W : Addr → Prop} {m : List Addr} {H H' : Hp} {Xd Xd' : XD} {cls : Value} {d : Option Addr} (p : XPost G W m H Xd cls d H') (h : ∀ c ks es μ, Xd c ks es μ → Xd' c ks es μ) : XPost G W m H Xd' cls d H' := by
  obtain ⟨m', c, ks, es, μ', C, dd, vs, s', e1, e2, e3, e4, e5, e6, q⟩ := p
  exact ⟨m', c, ks, es, μ', C, dd, vs, s', e1, e2, e3, e4, e5, e6, h _ _ _ _ q⟩
/-- a new thing, seen -/
theorem MuOk.fresh {G : Gx} {W : Addr → Prop} {m : List Addr} {μ : Mu} {H : Hp} (M : MuOk G W m μ H) {p : Addr} (np : H p = none) : ¬ W p ∧ p ∉ m :=
  ⟨fun z => M.hw p z np, fun z => M.mem z np⟩
theorem vis_upd {G : Gx} {W : Addr → Prop} {m : List Addr} {μ : Mu} {H : Hp} (M : MuOk G W m μ H) {p : Addr} {o : HO} (np : H p = none) : vis W m (upd H p o) = upd (vis W m H) p o := by
  obtain ⟨h1, h2⟩ := M.fresh np
  funext b
  by_cases hb : b = p
  · subst hb
    rw [upd_same]
    exact vis_some.mpr ⟨h1, h2, upd_same⟩
  · rw [upd_ne hb]
    unfold vis
    rw [upd_ne hb]
theorem same_new {H : Hp} {p : Addr} {o : HO} (np : H p = none) : Same H (upd H p o) := fun b x e => by
  rw [upd_ne (ne_of_none e np)]; exact e
theorem vis_none {W : Addr → Prop} {m : List Addr} {H : Hp} {p : Addr} (np : H p = none) : vis W m H p = none := by
  cases e : vis W m H p with
  | none => rfl
  | some o => rw [(vis_some.mp e).2.2] at np; cases np
theorem MuOk.laid {G : Gx} {W : Addr → Prop} {m : List Addr} {μ : Mu} {H : Hp} (M : MuOk G W m μ H) {p : Addr} {o : HO} (np : H p = none) : MuOk G W m μ (upd H p o) := by
  obtain ⟨h1, h2⟩ := M.fresh np
  refine ⟨M.len, M.nd, M.out, fun z hz => ?_, fun n c a hc ha => ?_⟩
  · by_cases e : z = p
    · subst e; rw [upd_same]; intro q; cases q
    · rw [upd_ne e]; exact M.hw z hz
  · have ne : a ≠ p := fun e => h2 (e ▸ List.mem_of_getElem? ha)
    rw [vis_upd M np]
    exact (M.cell n c a hc ha).keep (List.prefix_refl _) (same_new (vis_none np)) (upd_ne ne)
theorem Step.laid {G : Gx} {W : Addr → Prop} {m : List Addr} {μ : Mu} {H : Hp} (M : MuOk G W m μ H) {p : Addr} {o : HO} (np : H p = none) : Step G W m H m μ (upd H p o) := by
  refine ⟨List.prefix_refl _, fun z hz => upd_ne fun e => ?_, M.laid np, ?_⟩
  · subst e; exact M.hw z hz np
  · rw [vis_upd M np]; exact same_new (vis_none np)

/-! ### slots -/
def ownW (Z : Addr → Prop) (σ : L2.St) (ρ : DS) (b : Addr) : Prop := Z b ∨ ∃ (i : Nat) (c : Cell), ρ[i]? = some (Sl.own b c)
def ExOk (G : Gx) (m : List Addr) (E : Hp) (o : Option (Option V)) (c : Str) (ks : List Str) (ds : List D) : Prop :=
  ∃ a C dd vs, G.ex = some (a, C, dd) ∧ G.mg c = some (.ref C) ∧ o = some (some (V.ref a)) ∧ E dd = some (.xd (ks.zip vs)) ∧ ks.length = ds.length ∧ Reps G m E ds vs
theorem ExOk.mono {G : Gx} {m m' : List Addr} {E E' : Hp} {o : Option (Option V)} {c : Str} {ks : List Str} {ds : List D} (hp : m <+: m') (he : Same E E') (h : ExOk G m E o c ks ds) : ExOk G m' E' o c ks ds := by
  obtain ⟨a, C, dd, vs, h1, h2, h3, h4, h5, h6⟩ := h
  exact ⟨a, C, dd, vs, h1, h2, h3, he _ _ h4, h5, Reps.mono hp he _ _ h6⟩
structure SR (G : Gx) (Z : Addr → Prop) (m : List Addr) (σ : L2.St) (H : Hp) (ρ : DS) (μ : Mu) : Prop where
  len : ρ.length = σ.length
  mu : MuOk G (ownW Z σ ρ) m μ H
  val : ∀ (i : Nat) d, ρ[i]? = some (Sl.v d) → ∃ v, σ[i]? = some (some v) ∧ Rep G m (vis (ownW Z σ ρ) m H) d v
  own : ∀ (i : Nat) a c, ρ[i]? = some (Sl.own a c) → σ[i]? = some (some (V.ref a)) ∧ ¬ Z a ∧ CellOk G m (vis (ownW Z σ ρ) m H) H c a
  dis : ∀ (i j : Nat) (a : Addr) c c', ρ[i]? = some (Sl.own a c) → ρ[j]? = some (Sl.own a c') → i = j
  exn : ∀ (i : Nat) c ks ds, ρ[i]? = some (Sl.exn c ks ds) → ExOk G m (vis (ownW Z σ ρ) m H) (σ[i]?) c ks ds
theorem SR.step {G : Gx} {Z : Addr → Prop} {m m' : List Addr} {σ : L2.St} {H H' : Hp} {ρ : DS} {μ μ' : Mu} (S : SR G Z m σ H ρ μ) (s : Step G (ownW Z σ ρ) m H m' μ' H') : SR G Z m' σ H' ρ μ' := by
  refine ⟨S.len, s.mu, fun i d e => ?_, fun i a c e => ?_, S.dis, fun i c ks ds e => (S.exn i c ks ds e).mono s.pre s.same⟩
  · obtain ⟨v, e1, r⟩ := S.val i d e
    exact ⟨v, e1, Rep.mono s.pre s.same _ _ r⟩
  · obtain ⟨e1, nz, r⟩ := S.own i a c e
    exact ⟨e1, nz, r.keep s.pre s.same (s.hid a (.inr ⟨i, c, e⟩))⟩

/-! ### expressions -/
abbrev WE := DS → Mu → (D → Mu → Prop) → XD → Prop
/-- a reading by data as a reading: where the state is told by data -/
def lift (G : Gx) (W : WX) (w : WE) : TE := fun σ H Q' => ∃ Z m ρ μ Q Xd, SR G Z m σ H ρ μ ∧ w ρ μ Q Xd ∧ (∀ v H', VPost G (ownW Z σ ρ) m H Q v H' → Q' v H') ∧ ∀ cls d H', XPost G (ownW Z σ ρ) m H Xd cls d H' → W cls d σ H'
abbrev gx (X : Cx) (ex : Option (Addr × Addr × Addr)) : Gx := ⟨X.K, X.mg, ex⟩
abbrev DE (ex : Option (Addr × Addr × Addr)) (W : WX) (X : Cx) (e : Expr) (w : WE) : Prop := PE X e (lift (gx X ex) W w)
theorem pe_weak {X : Cx} {e : Expr} {t t' : TE} (h : PE X e t) (k : ∀ σ H Q, t' σ H Q → t σ H Q) : PE X e t' := ⟨fun pins s σ H Q I q => h.run pins s σ H Q I (k σ H Q q)⟩
/-- a name -/
def wVar (i : Nat) : WE := fun ρ μ Q _ => match ρ[i]? with
  | some (.v d) => Q d μ
  | _ => False
def wC (d : D) : WE := fun _ μ Q _ => Q d μ
section
variable {ex : Option (Addr × Addr × Addr)} {W : WX} {X : Cx}
theorem de_name {e : Expr} {i : Nat} (h : PE X e (tVar i)) : DE ex W X e (wVar i) := pe_weak h fun σ H Q' q => by
  obtain ⟨Z, m, ρ, μ, Q, Xd, S, q, k, kx⟩ := q
  unfold wVar at q
  split at q
  · rename_i d e
    obtain ⟨v, e1, r⟩ := S.val i d e
    exact ⟨v, e1, k v H (.now S.mu r q)⟩
  · exact q.elim
theorem dv (i : Nat) {x : Str} {pos : Pos} (hN : X.N[i]? = some x := by rfl) (hv : Vis X.env.scope x := by first | exact Or.inl rfl | exact Or.inr (Or.inl rfl) | exact Or.inr (Or.inr rfl)) (hd : (x == ("__debug__" : Str)) = false := by decide)
    (hcd : (x == ("__classdict__" : Str)) = false := by decide) : DE ex W X (.Name x pos) (wVar i) := de_name (pe_var hN hv hd hcd)
theorem de_c {e : Expr} {v : V} {d : D} (h : PE X e (tC v)) (hr : ∀ m E, Rep (gx X ex) m E d v) : DE ex W X e (wC d) := pe_weak h fun σ H Q' q => by
  obtain ⟨Z, m, ρ, μ, Q, Xd, S, q, k, kx⟩ := q
  exact k v H (.now S.mu (hr _ _) q)
theorem de_int {i j pos} : DE ex W X (.Constant (.int i) j pos) (wC (.int i)) := de_c pe_int fun _ _ => by rw [Rep]
theorem de_bl {b j pos} : DE ex W X (.Constant (.bool b) j pos) (wC (.bl b)) := de_c pe_bl fun _ _ => by rw [Rep]
theorem de_non {j pos} : DE ex W X (.Constant .none j pos) (wC .non) := de_c pe_non fun _ _ => by rw [Rep]
theorem de_str {x j pos} : DE ex W X (.Constant (.str x) j pos) (wC (.str x)) := de_c pe_str fun _ _ => by rw [Rep]
/-- a class of the text, as a value -/
theorem de_cls {x : Str} {C : Addr} {pos : Pos} (hg : Gl X x) (hm : X.mg x = some (.ref C)) (hd : (x == ("__debug__" : Str)) = false := by decide) : DE ex W X (.Name x pos) (wC (.cls x)) :=
  de_c (pe_glob hg hm (v := .ref C) rfl hd) fun _ _ => by rw [Rep]; exact ⟨C, hm, rfl⟩
/-- a built-in type, as a value -/
theorem de_ty {x : Str} {T : String} {pos : Pos} (hg : Gl X x) (hm : X.mg x = none) (hv : bootBuiltins x = some (.type T)) (hn : x ≠ "__name__" := by decide) (hd : (x == ("__debug__" : Str)) = false := by decide) : DE ex W X (.Name x pos) (wC (.ty T)) :=
  de_c (pe_bltn hg hm hv (v := .ty T) rfl hn hd) fun _ _ => by rw [Rep]
/-- a module's int -/
theorem de_gint {x : Str} {i : Int} {t : Tok} {pos : Pos} (hg : Gl X x) (hm : X.mg x = some (.int i t)) (hd : (x == ("__debug__" : Str)) = false := by decide) : DE ex W X (.Name x pos) (wC (.int i)) :=
  de_c (pe_glob hg hm (v := .int i) ⟨t, rfl⟩ hd) fun _ _ => by rw [Rep]
/-- a module's text -/
theorem de_gstr {x z : Str} {t : Tok} {pos : Pos} (hg : Gl X x) (hm : X.mg x = some (.str z t)) (hd : (x == ("__debug__" : Str)) = false := by decide) : DE ex W X (.Name x pos) (wC (.str z)) :=
  de_c (pe_glob hg hm (v := .str z) ⟨t, rfl⟩ hd) fun _ _ => by rw [Rep]
end
/-! ### operations on values -/
abbrev F2 := D → D → Mu → (D → Mu → Prop) → Prop
abbrev F1 := D → Mu → (D → Mu → Prop) → Prop
abbrev FN := List D → Mu → (D → Mu → Prop) → Prop
def w2 (f : F2) (wa wb : WE) : WE := fun ρ μ Q Xd => wa ρ μ (fun x μ1 => wb ρ μ1 (fun y μ2 => f x y μ2 Q) Xd) Xd
def w1 (f : F1) (wa : WE) : WE := fun ρ μ Q Xd => wa ρ μ (fun x μ1 => f x μ1 Q) Xd
def S2 (G : Gx) (r : R2) (f : F2) : Prop := ∀ (Z : Addr → Prop) (m : List Addr) (μ : Mu) (H : Hp) (x y : D) (u v : V) (Q : D → Mu → Prop) (Q' : VK),
  MuOk G Z m μ H → Rep G m (vis Z m H) x u → Rep G m (vis Z m H) y v → f x y μ Q → (∀ z H', VPost G Z m H Q z H' → Q' z H') → r u v H Q'
def S1 (G : Gx) (r : V → Hp → VK → Prop) (f : F1) : Prop := ∀ (Z : Addr → Prop) (m : List Addr) (μ : Mu) (H : Hp) (x : D) (u : V) (Q : D → Mu → Prop) (Q' : VK),
  MuOk G Z m μ H → Rep G m (vis Z m H) x u → f x μ Q → (∀ z H', VPost G Z m H Q z H' → Q' z H') → r u H Q'
def SN (G : Gx) (r : List V → Hp → VK → Prop) (f : FN) : Prop := ∀ (Z : Addr → Prop) (m : List Addr) (μ : Mu) (H : Hp) (xs : List D) (us : List V) (Q : D → Mu → Prop) (Q' : VK),
  MuOk G Z m μ H → Reps G m (vis Z m H) xs us → f xs μ Q → (∀ z H', VPost G Z m H Q z H' → Q' z H') → r us H Q'
/-- one operand behind another -/
theorem lift_bind {G : Gx} {W : WX} {wa : WE} {σ : L2.St} {H : Hp} {Q' : VK} {f : D → DS → Mu → (D → Mu → Prop) → XD → Prop} {R : V → Hp → Prop}
    (q : lift G W (fun ρ μ Q Xd => wa ρ μ (fun x μ1 => f x ρ μ1 Q Xd) Xd) σ H Q')
    (h : ∀ (Z : Addr → Prop) (m : List Addr) (ρ : DS) (μ : Mu) (Q : D → Mu → Prop) (Xd : XD) (x : D) (v : V) (H1 : Hp), SR G Z m σ H1 ρ μ → Rep G m (vis (ownW Z σ ρ) m H1) x v → f x ρ μ Q Xd →
      (∀ v H', VPost G (ownW Z σ ρ) m H1 Q v H' → Q' v H') → (∀ cls d H', XPost G (ownW Z σ ρ) m H1 Xd cls d H' → W cls d σ H') → R v H1) : lift G W wa σ H R := by
  obtain ⟨Z, m, ρ, μ, Q, Xd, S, q, k, kx⟩ := q
  refine ⟨Z, m, ρ, μ, _, Xd, S, q, fun v H1 P => ?_, kx⟩
  obtain ⟨m1, d, μ1, s1, r1, q1⟩ := P
  exact h Z m1 ρ μ1 Q Xd d v H1 (S.step s1) r1 q1 (fun v H' P => k v H' (VPost.from s1 P)) fun cls d H' P => kx cls d H' (XPost.from s1 P)
theorem lift_w2 {G : Gx} {W : WX} {r : R2} {f : F2} (hf : S2 G r f) {wa wb : WE} {σ : L2.St} {H : Hp} {Q' : VK} (q : lift G W (w2 f wa wb) σ H Q') : tOp r (lift G W wa) (lift G W wb) σ H Q' := by
  refine lift_bind (f := fun x ρ μ1 Q Xd => wb ρ μ1 (fun y μ2 => f x y μ2 Q) Xd) q fun Z m ρ μ Q Xd x v H1 S r1 q1 k kx => ?_
  refine ⟨Z, m, ρ, μ, _, Xd, S, q1, fun u H2 P => ?_, kx⟩
  obtain ⟨m2, y, μ2, s2, r2, q2⟩ := P
  exact hf _ m2 μ2 H2 x y v u Q Q' s2.mu (Rep.mono s2.pre s2.same _ _ r1) r2 q2 fun z H' P => k z H' (VPost.from s2 P)
theorem lift_w1 {G : Gx} {W : WX} {r : V → Hp → VK → Prop} {f : F1} (hf : S1 G r f) {wa : WE} {σ : L2.St} {H : Hp} {Q' : VK} (q : lift G W (w1 f wa) σ H Q') : tUn r (lift G W wa) σ H Q' := by
  refine lift_bind (f := fun x ρ μ1 Q Xd => f x μ1 Q) q fun Z m ρ μ Q Xd x v H1 S r1 q1 k kx => ?_
  exact hf _ m μ H1 x v Q Q' S.mu r1 q1 k
section
variable {ex : Option (Addr × Addr × Addr)} {W : WX} {X : Cx} {a b c : Expr} {wa wb wc : WE} {pos : Pos}
theorem de_op {op : Operator} {r : R2} {f : F2} (ho : OpR X (binaryOp op) r) (hf : S2 (gx X ex) r f) (ha : DE ex W X a wa) (hb : DE ex W X b wb) : DE ex W X (.BinOp a op b pos) (w2 f wa wb) := pe_weak (pe_op ho ha hb) fun _ _ _ q => lift_w2 hf q
theorem de_un {op : UnaryOp} {r : V → Hp → VK → Prop} {f : F1} (ho : UnR X (unaryOp op) r) (hf : S1 (gx X ex) r f) (ha : DE ex W X a wa) : DE ex W X (.UnaryOp op a pos) (w1 f wa) := pe_weak (pe_un ho ha) fun _ _ _ q => lift_w1 hf q
theorem de_cmp {op : CmpOp} {r : R2} {f : F2} (ho : OpR X (compareOp op) r) (hf : S2 (gx X ex) r f) (ha : DE ex W X a wa) (hb : DE ex W X b wb) (hm : behindInMarks op b = false) : DE ex W X (.Compare a [op] [b] pos) (w2 f wa wb) := pe_weak (pe_cmpR ho ha hb hm) fun _ _ _ q => lift_w2 hf q
theorem de_ix {r : R2} {f : F2} (hr : IxR X r) (hf : S2 (gx X ex) r f) (ha : DE ex W X a wa) (hb : DE ex W X b wb) (hs : PlainIx b := by exact fun _ _ => rfl) : DE ex W X (.Subscript a b pos) (w2 f wa wb) := pe_weak (pe_ix hr ha hb hs) fun _ _ _ q => lift_w2 hf q
end
/-! ### tests -/
abbrev WT := DS → Mu → (Bool → Mu → Prop) → XD → Prop
def BPost (G : Gx) (Z : Addr → Prop) (m : List Addr) (H : Hp) (Q : Bool → Mu → Prop) (b : Bool) (H' : Hp) : Prop :=
  ∃ m' μ', Step G Z m H m' μ' H' ∧ Q b μ'
theorem BPost.from {G : Gx} {Z : Addr → Prop} {m m1 : List Addr} {μ1 : Mu} {H H1 H' : Hp} {Q : Bool → Mu → Prop} {v : Bool} (s : Step G Z m H m1 μ1 H1) (p : BPost G Z m1 H1 Q v H') : BPost G Z m H Q v H' := by
  obtain ⟨m', μ', s', q⟩ := p
  exact ⟨m', μ', s.trans s', q⟩
def liftT (G : Gx) (W : WX) (w : WT) : TT := fun σ H Q' => ∃ Z m ρ μ Q Xd, SR G Z m σ H ρ μ ∧ w ρ μ Q Xd ∧ (∀ b H', BPost G (ownW Z σ ρ) m H Q b H' → Q' b H') ∧ ∀ cls d H', XPost G (ownW Z σ ρ) m H Xd cls d H' → W cls d σ H'
abbrev DT (ex : Option (Addr × Addr × Addr)) (W : WX) (X : Cx) (e : Expr) (w : WT) : Prop := PT X e (liftT (gx X ex) W w)
abbrev DW (ex : Option (Addr × Addr × Addr)) (W : WX) (X : Cx) (e : Expr) (w : WT) : Prop := PW X e (liftT (gx X ex) W w)
theorem pt_weak {X : Cx} {e : Expr} {t t' : TT} (h : PT X e t) (k : ∀ σ H Q, t' σ H Q → t σ H Q) : PT X e t' := ⟨fun pins s σ H Q I q => h.run pins s σ H Q I (k σ H Q q)⟩
theorem pw_weak {X : Cx} {e : Expr} {t t' : TT} (h : PW X e t) (k : ∀ σ H Q, t' σ H Q → t σ H Q) : PW X e t' := ⟨fun wh pins s σ H Q I q => h.run wh pins s σ H Q I (k σ H Q q)⟩
/-- an expression that gives a truth, as a test -/
def fBool : D → (Bool → Prop) → Prop
  | .bl b, Q => Q b
  | _, _ => False
def wB (w : WE) : WT := fun ρ μ Q Xd => w ρ μ (fun d μ1 => fBool d fun b => Q b μ1) Xd
theorem fBool_of {d : D} {Q : Bool → Prop} (h : fBool d Q) : ∃ b, d = .bl b ∧ Q b := by
  cases d <;> first | exact h.elim | exact ⟨_, rfl, h⟩
theorem lift_wB {G : Gx} {W : WX} {w : WE} {σ : L2.St} {H : Hp} {Q' : Bool → Hp → Prop} (q : liftT G W (wB w) σ H Q') : tTest (lift G W w) σ H Q' := by
  obtain ⟨Z, m, ρ, μ, Q, Xd, S, q, k, kx⟩ := q
  refine ⟨Z, m, ρ, μ, _, Xd, S, q, fun v H1 P => ?_, kx⟩
  obtain ⟨m1, d, μ1, s1, r1, q1⟩ := P
  obtain ⟨b, rfl, q2⟩ := fBool_of q1
  rw [Rep] at r1
  exact ⟨b, r1, k b H1 ⟨m1, μ1, s1, q2⟩⟩
section
variable {ex : Option (Addr × Addr × Addr)} {W : WX} {X : Cx} {a b c : Expr} {wa wb wc : WE} {ta tb tc : WT} {pos : Pos} {rest : List Expr}
theorem dt_val (h : DE ex W X a wa) (he : ∀ whole, isTrue a X.env whole = (do let v ← whole; standAt a.pos; holding [v] (truthy v)) := by intro _; rfl) : DT ex W X a (wB wa) :=
  pt_weak (pt_val h he) fun _ _ _ q => lift_wB q
theorem dt_cmp {op : CmpOp} {r : R2} {f : F2} (ho : OpR X (compareOp op) r) (hf : S2 (gx X ex) r f) (ha : DE ex W X a wa) (hb : DE ex W X b wb) (hm : behindInMarks op b = false) : DT ex W X (.Compare a [op] [b] pos) (wB (w2 f wa wb)) :=
  pt_weak (pt_cmpR ho ha hb hm) fun σ H Q q => by
    have h := lift_wB q
    obtain h : lift _ _ _ σ H _ := h
    exact lift_w2 hf h
/-- chained comparisons -/
def wChain (f f' : F2) (wa wb wc : WE) : WE := fun ρ μ Q Xd => wa ρ μ (fun x μ1 => wb ρ μ1 (fun y μ2 => f x y μ2 fun z μ3 => fBool z fun k => if k = true then wc ρ μ3 (fun w' μ4 => f' y w' μ4 Q) Xd else Q (.bl false) μ3) Xd) Xd
theorem lift_chain {G : Gx} {r r' : R2} {f f' : F2} (hf : S2 G r f) (hf' : S2 G r' f') {σ : L2.St} {H : Hp} {Q' : VK} (q : lift G W (wChain f f' wa wb wc) σ H Q') : tChain r r' (lift G W wa) (lift G W wb) (lift G W wc) σ H Q' := by
  refine lift_bind (f := fun x ρ μ1 Q Xd => wb ρ μ1 (fun y μ2 => f x y μ2 fun z μ3 => fBool z fun k => if k = true then wc ρ μ3 (fun w' μ4 => f' y w' μ4 Q) Xd else Q (.bl false) μ3) Xd) q fun Z m ρ μ Q Xd x v H1 S r1 q1 k kx => ?_
  refine ⟨Z, m, ρ, μ, _, Xd, S, q1, fun u H2 P => ?_, kx⟩
  obtain ⟨m2, y, μ2, s2, r2, q2⟩ := P
  refine hf _ m2 μ2 H2 x y v u _ _ s2.mu (Rep.mono s2.pre s2.same _ _ r1) r2 q2 fun z H3 P => ?_
  obtain ⟨m3, zd, μ3, s3, r3, q3⟩ := P
  obtain ⟨b, rfl, q4⟩ := fBool_of q3
  rw [Rep] at r3
  refine ⟨b, r3, ?_⟩
  have S3 := (S.step s2).step s3
  cases b with
  | false =>
    rw [if_neg Bool.false_ne_true] at q4 ⊢
    exact k _ _ (VPost.from (s2.trans s3) (.now s3.mu (by rw [Rep]) q4))
  | true =>
    rw [if_pos rfl] at q4 ⊢
    refine ⟨Z, m3, ρ, μ3, _, Xd, S3, q4, fun w' H4 P => ?_, fun cls d H' P => kx cls d H' (XPost.from (s2.trans s3) P)⟩
    obtain ⟨m4, wd, μ4, s4, r4, q5⟩ := P
    exact hf' _ m4 μ4 H4 y wd u w' Q Q' s4.mu (Rep.mono (s3.trans s4).pre (s3.trans s4).same _ _ r2) r4 q5 fun z H' P => k z H' (VPost.from ((s2.trans s3).trans s4) P)
theorem de_chain {op op' : CmpOp} {r r' : R2} {f f' : F2} (ho : OpR X (compareOp op) r) (hf : S2 (gx X ex) r f) (ho' : OpR X (compareOp op') r') (hf' : S2 (gx X ex) r' f') (ha : DE ex W X a wa) (hb : DE ex W X b wb) (hc : DE ex W X c wc)
    (hm : lastMarks [op, op'] [b, c] = false := by with_unfolding_all rfl) : DE ex W X (.Compare a [op, op'] [b, c] pos) (wChain f f' wa wb wc) := pe_weak (pe_chain ho ho' ha hb hc hm) fun _ _ _ q => lift_chain hf hf' q
theorem dt_chain {op op' : CmpOp} {r r' : R2} {f f' : F2} (ho : OpR X (compareOp op) r) (hf : S2 (gx X ex) r f) (ho' : OpR X (compareOp op') r') (hf' : S2 (gx X ex) r' f') (ha : DE ex W X a wa) (hb : DE ex W X b wb) (hc : DE ex W X c wc)
    (hm : lastMarks [op, op'] [b, c] = false := by with_unfolding_all rfl) : DT ex W X (.Compare a [op, op'] [b, c] pos) (wB (wChain f f' wa wb wc)) := pt_weak (pt_chain ho ho' ha hb hc hm) fun σ H Q q => by
    have h := lift_wB q
    obtain h : lift _ _ _ σ H _ := h
    exact lift_chain hf hf' h
/-! and, or, not, as tests -/
def wAnd (t u : WT) : WT := fun ρ μ Q Xd => t ρ μ (fun c μ1 => if c = true then u ρ μ1 Q Xd else Q false μ1) Xd
def wOr (t u : WT) : WT := fun ρ μ Q Xd => t ρ μ (fun c μ1 => if c = true then Q true μ1 else u ρ μ1 Q Xd) Xd
def wNot (t : WT) : WT := fun ρ μ Q Xd => t ρ μ (fun c μ1 => Q (!c) μ1) Xd
theorem dw_and1 (h : DT ex W X a ta) : DW ex W X (.BoolOp .And [a] pos) ta := pw_and1 h
theorem dw_or1 (h : DT ex W X a ta) : DW ex W X (.BoolOp .Or [a] pos) ta := pw_or1 h
theorem dw_and (ha : DT ex W X a ta) (hb : DW ex W X (.BoolOp .And (b :: rest) pos) tb) : DW ex W X (.BoolOp .And (a :: b :: rest) pos) (wAnd ta tb) := pw_weak (pw_and ha hb) fun σ H Q' q => by
  obtain ⟨Z, m, ρ, μ, Q, Xd, S, q, k, kx⟩ := q
  refine ⟨Z, m, ρ, μ, _, Xd, S, q, fun c H1 P => ?_, kx⟩
  obtain ⟨m1, μ1, s1, q1⟩ := P
  cases c with
  | false => exact k false H1 ⟨m1, μ1, s1, q1⟩
  | true =>
    rw [if_pos rfl] at q1 ⊢
    exact ⟨Z, m1, ρ, μ1, _, Xd, S.step s1, q1, fun b H2 P => k b H2 (BPost.from s1 P), fun cls d H' P => kx cls d H' (XPost.from s1 P)⟩
theorem dw_or (ha : DT ex W X a ta) (hb : DW ex W X (.BoolOp .Or (b :: rest) pos) tb) : DW ex W X (.BoolOp .Or (a :: b :: rest) pos) (wOr ta tb) := pw_weak (pw_or ha hb) fun σ H Q' q => by
  obtain ⟨Z, m, ρ, μ, Q, Xd, S, q, k, kx⟩ := q
  refine ⟨Z, m, ρ, μ, _, Xd, S, q, fun c H1 P => ?_, kx⟩
  obtain ⟨m1, μ1, s1, q1⟩ := P
  cases c with
  | true => exact k true H1 ⟨m1, μ1, s1, q1⟩
  | false =>
    rw [if_neg Bool.false_ne_true] at q1 ⊢
    exact ⟨Z, m1, ρ, μ1, _, Xd, S.step s1, q1, fun b H2 P => k b H2 (BPost.from s1 P), fun cls d H' P => kx cls d H' (XPost.from s1 P)⟩
theorem dt_w {e : Expr} (h : DW ex W X e ta) : DT ex W X e ta := PW.pt h
theorem dt_not (h : DT ex W X a ta) : DT ex W X (.UnaryOp .Not a pos) (wNot ta) := pt_weak (pt_not h) fun σ H Q' q => by
  obtain ⟨Z, m, ρ, μ, Q, Xd, S, q, k, kx⟩ := q
  refine ⟨Z, m, ρ, μ, _, Xd, S, q, fun c H1 P => ?_, kx⟩
  obtain ⟨m1, μ1, s1, q1⟩ := P
  exact k (!c) H1 ⟨m1, μ1, s1, q1⟩
end
end DL

set_option Elab.async false
set_option linter.all false
set_option maxRecDepth 100000
set_option maxHeartbeats 4000000
set_option autoImplicit false
namespace DL
open PySem PySem.Spec PyProof.Rows L2
/-! ### argument lists, displays, calls -/
abbrev WA := DS → Mu → (List D → Mu → Prop) → XD → Prop
def APost (G : Gx) (Z : Addr → Prop) (m : List Addr) (H : Hp) (Q : List D → Mu → Prop) (vs : List V) (H' : Hp) : Prop :=
  ∃ m' ds μ', Step G Z m H m' μ' H' ∧ Reps G m' (vis Z m' H') ds vs ∧ Q ds μ'
theorem APost.from {G : Gx} {Z : Addr → Prop} {m m1 : List Addr} {μ1 : Mu} {H H1 H' : Hp} {Q : List D → Mu → Prop} {vs : List V} (s : Step G Z m H m1 μ1 H1) (p : APost G Z m1 H1 Q vs H') : APost G Z m H Q vs H' := by
  obtain ⟨m', d, μ', s', r, q⟩ := p
  exact ⟨m', d, μ', s.trans s', r, q⟩
def liftA (G : Gx) (W : WX) (w : WA) : TA := fun σ H Q' => ∃ Z m ρ μ Q Xd, SR G Z m σ H ρ μ ∧ w ρ μ Q Xd ∧ (∀ vs H', APost G (ownW Z σ ρ) m H Q vs H' → Q' vs H') ∧ ∀ cls d H', XPost G (ownW Z σ ρ) m H Xd cls d H' → W cls d σ H'
abbrev DA (ex : Option (Addr × Addr × Addr)) (W : WX) (X : Cx) (es : List Expr) (w : WA) : Prop := PA X es (liftA (gx X ex) W w)
theorem pa_weak {X : Cx} {es : List Expr} {t t' : TA} (h : PA X es t) (k : ∀ σ H Q, t' σ H Q → t σ H Q) : PA X es t' := ⟨fun pos pins s σ H Q I q => h.run pos pins s σ H Q I (k σ H Q q)⟩
def wNil : WA := fun _ μ Q _ => Q [] μ
def wCons (wa : WE) (wr : WA) : WA := fun ρ μ Q Xd => wa ρ μ (fun d μ1 => wr ρ μ1 (fun ds μ2 => Q (d :: ds) μ2) Xd) Xd
def wTup (wa : WA) : WE := fun ρ μ Q Xd => wa ρ μ (fun ds μ1 => ds.length ≤ 1000 ∧ Q (.tup ds) μ1) Xd
def wLst (wa : WA) : WE := fun ρ μ Q Xd => wa ρ μ (fun ds μ1 => ds.length ≤ 1000 ∧ Q (.lst ds) μ1) Xd
def wN (f : FN) (wa : WA) : WE := fun ρ μ Q Xd => wa ρ μ (fun ds μ1 => f ds μ1 Q) Xd
abbrev DSp := List D → Mu → (D → Mu → Prop) → XD → Prop
def wCall (sp : DSp) (wa : WA) : WE := fun ρ μ Q Xd => wa ρ μ (fun ds μ1 => sp ds μ1 Q Xd) Xd
theorem le1000 {n : Nat} (h : n ≤ 1000) : n ≤ sizeLine := Nat.le_trans h (by decide)
section
variable {ex : Option (Addr × Addr × Addr)} {W : WX} {X : Cx} {e : Expr} {es : List Expr} {wa : WE} {ws : WA} {pos : Pos}
theorem da_nil : DA ex W X [] wNil := pa_weak pa_nil fun σ H Q' q => by
  obtain ⟨Z, m, ρ, μ, Q, Xd, S, q, k, kx⟩ := q
  exact k [] H ⟨m, [], μ, .refl S.mu, Reps.nil, q⟩
theorem lift_cons {G : Gx} {σ : L2.St} {H : Hp} {Q' : List V → Hp → Prop} (q : liftA G W (wCons wa ws) σ H Q') : tCons (lift G W wa) (liftA G W ws) σ H Q' := by
  obtain ⟨Z, m, ρ, μ, Q, Xd, S, q, k, kx⟩ := q
  refine ⟨Z, m, ρ, μ, _, Xd, S, q, fun v H1 P => ?_, kx⟩
  obtain ⟨m1, d, μ1, s1, r1, q1⟩ := P
  refine ⟨Z, m1, ρ, μ1, _, Xd, S.step s1, q1, fun vs H2 P => ?_, fun cls d H' P => kx cls d H' (XPost.from s1 P)⟩
  obtain ⟨m2, ds, μ2, s2, r2, q2⟩ := P
  exact k _ _ ⟨m2, d :: ds, μ2, s1.trans s2, Reps.cons (Rep.mono s2.pre s2.same _ _ r1) r2, q2⟩
theorem da_cons (ha : DE ex W X e wa) (hr : DA ex W X es ws) (hs : starEach (e :: es) X.env = (false, eval e X.env) :: starEach es X.env := by rfl) : DA ex W X (e :: es) (wCons wa ws) :=
  pa_weak (pa_cons ha hr hs) fun _ _ _ q => lift_cons q
theorem de_tup {x1} (h : DA ex W X es ws) : DE ex W X (.Tuple es x1 pos) (wTup ws) := pe_weak (pe_tup h) fun σ H Q' q => by
  obtain ⟨Z, m, ρ, μ, Q, Xd, S, q, k, kx⟩ := q
  refine ⟨Z, m, ρ, μ, _, Xd, S, q, fun vs H1 P => ?_, kx⟩
  obtain ⟨m1, ds, μ1, s1, r1, hl, q1⟩ := P
  refine ⟨by rw [← r1.len]; exact le1000 hl, fun p np => k _ _ ?_⟩
  have s2 := Step.laid (o := .tup vs) s1.mu np
  refine VPost.from s1 ⟨m1, _, μ1, s2, ?_, q1⟩
  rw [Rep]
  refine ⟨p, vs, rfl, .inl (.inl ?_), Reps.mono s2.pre s2.same _ _ r1⟩
  rw [vis_upd s1.mu np, upd_same]
theorem lift_lst {G : Gx} {σ : L2.St} {H : Hp} {Q' : VK} (q : lift G W (wLst ws) σ H Q') : tLst (liftA G W ws) σ H Q' := by
  obtain ⟨Z, m, ρ, μ, Q, Xd, S, q, k, kx⟩ := q
  refine ⟨Z, m, ρ, μ, _, Xd, S, q, fun vs H1 P => ?_, kx⟩
  obtain ⟨m1, ds, μ1, s1, r1, hl, q1⟩ := P
  refine ⟨by rw [← r1.len]; exact le1000 hl, fun p np => k _ _ ?_⟩
  have s2 := Step.laid (o := .lst vs) s1.mu np
  refine VPost.from s1 ⟨m1, _, μ1, s2, ?_, q1⟩
  rw [Rep]
  refine ⟨p, vs, rfl, ?_, Reps.mono s2.pre s2.same _ _ r1⟩
  rw [vis_upd s1.mu np, upd_same]
theorem de_lst (h : DA ex W X es ws) : DE ex W X (.List es pos) (wLst ws) := pe_weak (pe_lst h) fun _ _ _ q => lift_lst q
theorem lift_wN {G : Gx} {r : List V → Hp → VK → Prop} {f : FN} (hf : SN G r f) {σ : L2.St} {H : Hp} {Q' : VK} (q : lift G W (wN f ws) σ H Q') : tCB r (liftA G W ws) σ H Q' := by
  obtain ⟨Z, m, ρ, μ, Q, Xd, S, q, k, kx⟩ := q
  refine ⟨Z, m, ρ, μ, _, Xd, S, q, fun vs H1 P => ?_, kx⟩
  obtain ⟨m1, ds, μ1, s1, r1, q1⟩ := P
  exact hf _ m1 μ1 H1 ds vs Q Q' s1.mu r1 q1 fun z H' P => k z H' (VPost.from s1 P)
theorem de_callB {x : Str} {id : String} {p : Pos} {r : List V → Hp → VK → Prop} {f : FN} (hc : CallR X (.builtin id) r) (hf : SN (gx X ex) r f) (hg : Gl X x) (hm : X.mg x = none) (hv : bootBuiltins x = some (.builtin id)) (ha : DA ex W X (e :: es) ws)
    (hn : x ≠ "__name__" := by decide) (hdb : (x == ("__debug__" : Str)) = false := by decide) (he : starEach (e :: es) X.env = (false, eval e X.env) :: starEach es X.env := by rfl) (hpl : (backTo pos (starEach es X.env)).any (·.1) = false := by rfl) :
    DE ex W X (.Call (.Name x p) (e :: es) [] pos) (wN f ws) := pe_weak (pe_callB hc hg hm hv ha hn hdb he hpl) fun _ _ _ q => lift_wN hf q
theorem de_callTy {x : Str} {T : String} {p : Pos} {r : List V → Hp → VK → Prop} {f : FN} (hc : CallR X (.type T) r) (hf : SN (gx X ex) r f) (hg : Gl X x) (hm : X.mg x = none) (hv : bootBuiltins x = some (.type T)) (ha : DA ex W X (e :: es) ws)
    (hn : x ≠ "__name__" := by decide) (hdb : (x == ("__debug__" : Str)) = false := by decide) (he : starEach (e :: es) X.env = (false, eval e X.env) :: starEach es X.env := by rfl) (hpl : (backTo pos (starEach es X.env)).any (·.1) = false := by rfl) :
    DE ex W X (.Call (.Name x p) (e :: es) [] pos) (wN f ws) := pe_weak (pe_callTy hc hg hm hv ha hn hdb he hpl) fun _ _ _ q => lift_wN hf q
/-- a def keeps its promise wherever no repr is under way -/
structure FnG (P : Program) (wd : World) (K : PySem.W.Frag) (mg : Str → Option Value) (bs : Heap) (k : Nat) (f : Addr) (fd : FuncData) (ps : List Str) (sp : Sp) : Prop where
  len : ∀ vs H Q E, sp vs H Q E → vs.length = ps.length
  run : ∀ (A : Around) (fr : List Env) (s : Shared) (H : Hp) (args : Args) (us : List Value) (vs : List V) (Q : VK) (E : XK), Room k A → A.guards = some [] → Env0 P wd K mg bs A fr s H → BindsTo s fd args (ps.zip us) → Vals vs us →
    sp vs H Q E → codeAny (model P wd) A (.call (.ref f) args) (CR (L2.CX P wd) fr P wd H s Q E) s
section
variable {k : Nat} {f : Addr} {fd : FuncData} {ps : List Str} {sp0 : Sp}
theorem run_fnG {pins : List (Addr × Obj)} {σ : L2.St} {H : Hp} {s : Shared} {Q : VK} {us : List Value} {vs : List V} (F : FnG X.prog X.w X.K X.mg X.base k f fd ps sp0) (hr : Room k X.A) (hgd : X.A.guards = some []) (hb : Binds X.K fd ps []) (tk : Takes X W)
    (I : Inv X pins σ H s) (rv : Vals vs us) (h : sp0 vs H Q (L2.WE W σ)) : wpAny (model X.prog X.w) X.A (call (.ref f) us) (EP X pins σ Q) X.xe s := by
  have e0 : us.length = ps.length := rv.length.symm.trans (F.len _ _ _ _ h)
  have bd : BindsTo s fd ⟨us, []⟩ (ps.zip us) := by simpa using hb s us I.kIn (by simpa using e0)
  refine wpAny_call (codeAny_mono (F.run X.A X.stack s H ⟨us, []⟩ us vs Q _ hr hgd I.env0 bd rv h) fun res s2 hres => ?_)
  match res, hres with
  | .error er, hres => exact passAt tk σ pins H s er s2 I hres
  | .ok (.ret u), hres => exact I.after hres
end
/-- what a def promises, told by data -/
def toSp (G : Gx) (sp : DSp) : Sp := fun vs H Q' E => ∃ Z m μ ds Q Xd, MuOk G Z m μ H ∧ Reps G m (vis Z m H) ds vs ∧ sp ds μ Q Xd ∧ (∀ v H', VPost G Z m H Q v H' → Q' v H') ∧ ∀ cls d H', XPost G Z m H Xd cls d H' → E cls d H'
theorem lift_call {G : Gx} {sp : DSp} {σ : L2.St} {H : Hp} {Q' : VK} (q : lift G W (wCall sp ws) σ H Q') : tCallS (toSp G sp) (L2.WE W) (liftA G W ws) σ H Q' := by
  obtain ⟨Z, m, ρ, μ, Q, Xd, S, q, k, kx⟩ := q
  refine ⟨Z, m, ρ, μ, _, Xd, S, q, fun vs H1 P => ?_, kx⟩
  obtain ⟨m1, ds, μ1, s1, r1, q1⟩ := P
  exact ⟨_, m1, μ1, ds, Q, Xd, s1.mu, r1, q1, fun v H' P => k v H' (VPost.from s1 P), fun cls d H' P => kx cls d H' (XPost.from s1 P)⟩
theorem de_call {x : Str} {k : Nat} {f : Addr} {fd : FuncData} {ps : List Str} {sp : DSp} {p : Pos} (F : FnG X.prog X.w X.K X.mg X.base k f fd ps (toSp (gx X ex) sp)) (hr : Room k X.A) (hgd : X.A.guards = some []) (hg : Gl X x) (hm : X.mg x = some (.ref f))
    (hk : PySem.W.keepIn X.K (.ref f) = true) (hb : Binds X.K fd ps []) (tk : Takes X W) (ha : DA ex W X (e :: es) ws) (hdb : (x == ("__debug__" : Str)) = false := by decide)
    (he : starEach (e :: es) X.env = (false, eval e X.env) :: starEach es X.env := by rfl) (hpl : (backTo pos (starEach es X.env)).any (·.1) = false := by rfl) :
    DE ex W X (.Call (.Name x p) (e :: es) [] pos) (wCall sp ws) := by
  refine ⟨fun pins s σ H Q I h => ?_⟩
  refine wpAny_Call_Name_kw (ld_glob I hg hm ?_ hdb)
  exact PySem.W.callWith_K (h₀ := X.base) I.ok.mod.kin hk (thn (ha.run pos pins s σ H _ I (lift_call h)) fun us s1 ⟨vs, H1, I1, rv, q⟩ => ⟨I1.kIn, run_fnG F hr hgd hb tk I1 rv q⟩) he hpl
/-- f() -/
theorem de_call0 {x : Str} {k : Nat} {f : Addr} {fd : FuncData} {ps : List Str} {sp : DSp} {p : Pos} (F : FnG X.prog X.w X.K X.mg X.base k f fd ps (toSp (gx X ex) sp)) (hr : Room k X.A) (hgd : X.A.guards = some []) (hg : Gl X x) (hm : X.mg x = some (.ref f))
    (hk : PySem.W.keepIn X.K (.ref f) = true) (hb : Binds X.K fd ps []) (tk : Takes X W) (hdb : (x == ("__debug__" : Str)) = false := by decide) :
    DE ex W X (.Call (.Name x p) [] [] pos) (wCall sp wNil) := by
  refine ⟨fun pins s σ H Q I h => ?_⟩
  refine wpAny_Call_Name_kw (ld_glob I hg hm ?_ hdb)
  have q : tCallS (toSp (gx X ex) sp) (L2.WE W) (liftA (gx X ex) W wNil) σ H Q := lift_call h
  obtain ⟨Z, m, ρ, μ, Q2, Xd, S, q, k2, kx⟩ := q
  have z := k2 [] H ⟨m, [], μ, .refl S.mu, Reps.nil, q⟩
  exact PySem.W.callWith_K0 I.kIn hk (run_fnG (us := []) F hr hgd hb tk I .nil z)
end

/-! ### statements -/
abbrev XS := Str → List Str → List D → DS → Mu → Prop
structure DEnds where
  nx : DS → Mu → Prop
  rt : D → Mu → Prop
  bk : DS → Mu → Prop := fun _ _ => False
  ct : DS → Mu → Prop := fun _ _ => False
  xc : XS := fun _ _ _ _ _ => False
abbrev WS := DEnds → DS → Mu → Prop
structure SStep (G : Gx) (Z : Addr → Prop) (m : List Addr) (σ : L2.St) (ρ : DS) (H : Hp) (m' : List Addr) (σ' : L2.St) (ρ' : DS) (H' : Hp) : Prop where
  pre : m <+: m'
  hid : ∀ z, Z z → H' z = H z
  same : Same (vis (ownW Z σ ρ) m H) (vis (ownW Z σ' ρ') m' H')
theorem SStep.refl {G : Gx} {Z : Addr → Prop} {m : List Addr} {σ : L2.St} {ρ : DS} {H : Hp} : SStep G Z m σ ρ H m σ ρ H := ⟨List.prefix_refl _, fun _ _ => rfl, Same.refl _⟩
theorem SStep.trans {G : Gx} {Z : Addr → Prop} {m m1 m2 : List Addr} {σ σ1 σ2 : L2.St} {ρ ρ1 ρ2 : DS} {H H1 H2 : Hp} (a : SStep G Z m σ ρ H m1 σ1 ρ1 H1) (b : SStep G Z m1 σ1 ρ1 H1 m2 σ2 ρ2 H2) : SStep G Z m σ ρ H m2 σ2 ρ2 H2 :=
  ⟨a.pre.trans b.pre, fun z h => (b.hid z h).trans (a.hid z h), a.same.trans b.same⟩
theorem SStep.of {G : Gx} {Z : Addr → Prop} {m m' : List Addr} {σ : L2.St} {ρ : DS} {μ' : Mu} {H H' : Hp} (s : Step G (ownW Z σ ρ) m H m' μ' H') : SStep G Z m σ ρ H m' σ ρ H' := ⟨s.pre, fun z h => s.hid z (.inl h), s.same⟩
def SPost (G : Gx) (Z : Addr → Prop) (m : List Addr) (σ : L2.St) (ρ : DS) (H : Hp) (P : DS → Mu → Prop) (σ' : L2.St) (H' : Hp) : Prop :=
  ∃ m' ρ' μ', SR G Z m' σ' H' ρ' μ' ∧ SStep G Z m σ ρ H m' σ' ρ' H' ∧ P ρ' μ'
def RPost (G : Gx) (Z : Addr → Prop) (m : List Addr) (σ : L2.St) (ρ : DS) (H : Hp) (Q : D → Mu → Prop) (v : V) (H' : Hp) : Prop :=
  ∃ m' d μ', m <+: m' ∧ (∀ z, Z z → H' z = H z) ∧ MuOk G Z m' μ' H' ∧ Same (vis (ownW Z σ ρ) m H) (vis Z m' H') ∧ Rep G m' (vis Z m' H') d v ∧ Q d μ'
def XSPost (G : Gx) (Z : Addr → Prop) (m : List Addr) (σ : L2.St) (ρ : DS) (H : Hp) (Xs : XS) (cls : Value) (d : Option Addr) (σ' : L2.St) (H' : Hp) : Prop :=
  ∃ m' c ks es ρ' μ' C dd vs, SR G Z m' σ' H' ρ' μ' ∧ SStep G Z m σ ρ H m' σ' ρ' H' ∧ cls = .ref C ∧ d = some dd ∧ G.mg c = some (.ref C) ∧ vis (ownW Z σ' ρ') m' H' dd = some (.xd (ks.zip vs)) ∧ ks.length = es.length ∧
    Reps G m' (vis (ownW Z σ' ρ') m' H') es vs ∧ Xs c ks es ρ' μ'
section
variable {G : Gx} {Z : Addr → Prop} {m m1 : List Addr} {σ σ1 σ' : L2.St} {ρ ρ1 : DS} {H H1 H' : Hp}
theorem SPost.from {P : DS → Mu → Prop} (s : SStep G Z m σ ρ H m1 σ1 ρ1 H1) (p : SPost G Z m1 σ1 ρ1 H1 P σ' H') : SPost G Z m σ ρ H P σ' H' := by
  obtain ⟨m', ρ', μ', S, s', q⟩ := p
  exact ⟨m', ρ', μ', S, s.trans s', q⟩
theorem RPost.from {Q : D → Mu → Prop} {v : V} (s : SStep G Z m σ ρ H m1 σ1 ρ1 H1) (p : RPost G Z m1 σ1 ρ1 H1 Q v H') : RPost G Z m σ ρ H Q v H' := by
  obtain ⟨m', d, μ', h1, h2, h3, h4, h5, h6⟩ := p
  exact ⟨m', d, μ', s.pre.trans h1, fun z hz => (h2 z hz).trans (s.hid z hz), h3, s.same.trans h4, h5, h6⟩
theorem XSPost.from {Xs : XS} {cls : Value} {d : Option Addr} (s : SStep G Z m σ ρ H m1 σ1 ρ1 H1) (p : XSPost G Z m1 σ1 ρ1 H1 Xs cls d σ' H') : XSPost G Z m σ ρ H Xs cls d σ' H' := by
  obtain ⟨m', c, ks, es, ρ', μ', C, dd, vs, S, s', r⟩ := p
  exact ⟨m', c, ks, es, ρ', μ', C, dd, vs, S, s.trans s', r⟩
theorem vis_own {m : List Addr} {H : Hp} : Same (vis (ownW Z σ ρ) m H) (vis Z m H) := fun b o h => by
  obtain ⟨h1, h2, h3⟩ := vis_some.mp h
  exact vis_some.mpr ⟨fun z => h1 (.inl z), h2, h3⟩
theorem MuOk.out_own {μ : Mu} (M : MuOk G (ownW Z σ ρ) m μ H) : MuOk G Z m μ H :=
  ⟨M.len, M.nd, fun a h z => M.out a h (.inl z), fun z h => M.hw z (.inl h), fun n c a h1 h2 => (M.cell n c a h1 h2).keep (List.prefix_refl _) vis_own rfl⟩
theorem RPost.of {Q : D → Mu → Prop} {v : V} (p : VPost G (ownW Z σ ρ) m H Q v H') : RPost G Z m σ ρ H Q v H' := by
  obtain ⟨m', d, μ', s, r, q⟩ := p
  exact ⟨m', d, μ', s.pre, fun z h => s.hid z (.inl h), s.mu.out_own, s.same.trans vis_own, Rep.mono (List.prefix_refl _) vis_own _ _ r, q⟩
theorem XSPost.of {μ : Mu} (S : SR G Z m σ H ρ μ) {Xs : XS} {cls : Value} {d : Option Addr} (p : XPost G (ownW Z σ ρ) m H (fun c ks es μ' => Xs c ks es ρ μ') cls d H') : XSPost G Z m σ ρ H Xs cls d σ H' := by
  obtain ⟨m', c, ks, es, μ', C, dd, vs, s, e1, e2, e3, e4, e5, e6, q⟩ := p
  exact ⟨m', c, ks, es, ρ, μ', C, dd, vs, S.step s, SStep.of s, e1, e2, e3, e4, e5, e6, q⟩
end
def liftS (G : Gx) (W : WX) (w : WS) : TS := fun D σ H => ∃ Z m ρ μ E, SR G Z m σ H ρ μ ∧ w E ρ μ ∧ (∀ σ' H', SPost G Z m σ ρ H E.nx σ' H' → D.nx σ' H') ∧ (∀ v H', RPost G Z m σ ρ H E.rt v H' → D.rt v H') ∧
  (∀ σ' H', SPost G Z m σ ρ H E.bk σ' H' → D.bk σ' H') ∧ (∀ σ' H', SPost G Z m σ ρ H E.ct σ' H' → D.ct σ' H') ∧ ∀ cls d σ' H', XSPost G Z m σ ρ H E.xc cls d σ' H' → W cls d σ' H'
abbrev DSt (ex : Option (Addr × Addr × Addr)) (W : WX) (X : Cx) (st : Stmt) (w : WS) : Prop := PS X st (liftS (gx X ex) W w)
abbrev DSs (ex : Option (Addr × Addr × Addr)) (W : WX) (X : Cx) (st : List Stmt) (w : WS) : Prop := PSs X st (liftS (gx X ex) W w)
theorem ps_weak {X : Cx} {st : Stmt} {t t' : TS} (h : PS X st t) (k : ∀ D σ H, t' D σ H → t D σ H) : PS X st t' := ⟨fun pins s σ H D I q => h.run pins s σ H D I (k D σ H q)⟩
theorem pss_weak {X : Cx} {st : List Stmt} {t t' : TS} (h : PSs X st t) (k : ∀ D σ H, t' D σ H → t D σ H) : PSs X st t' := ⟨fun pins s σ H D I q => h.run pins s σ H D I (k D σ H q)⟩
def sNext : WS := fun E ρ μ => E.nx ρ μ
def sSeq (a b : WS) : WS := fun E ρ μ => a { E with nx := fun ρ' μ' => b E ρ' μ' } ρ μ
def sIf (t : WT) (a b : WS) : WS := fun E ρ μ => t ρ μ (fun c μ1 => if c = true then a E ρ μ1 else b E ρ μ1) fun c ks es μ' => E.xc c ks es ρ μ'
def sRet (wa : WE) : WS := fun E ρ μ => wa ρ μ E.rt fun c ks es μ' => E.xc c ks es ρ μ'
def sRetN : WS := fun E _ μ => E.rt .non μ
def sDrop (wa : WE) : WS := fun E ρ μ => wa ρ μ (fun _ μ1 => E.nx ρ μ1) fun c ks es μ' => E.xc c ks es ρ μ'
def sBreak : WS := fun E ρ μ => E.bk ρ μ
def sCont : WS := fun E ρ μ => E.ct ρ μ
def sNever : WS := fun _ _ _ => False
section
variable {ex : Option (Addr × Addr × Addr)} {W : WX} {X : Cx} {e : Expr} {es : List Expr} {wa : WE} {ws : WA} {pos : Pos} {st : Stmt} {rest : List Stmt} {a b : WS} {t : WT}
theorem dss_nil : DSs ex W X [] sNext := pss_weak pss_nil fun D σ H q => by
  obtain ⟨Z, m, ρ, μ, E, S, q, kn, kr, kb, kc, kx⟩ := q
  exact kn σ H ⟨m, ρ, μ, S, .refl, q⟩
theorem dss_cons (h1 : DSt ex W X st a) (h2 : DSs ex W X rest b) : DSs ex W X (st :: rest) (sSeq a b) := pss_weak (pss_cons h1 h2) fun D σ H q => by
  obtain ⟨Z, m, ρ, μ, E, S, q, kn, kr, kb, kc, kx⟩ := q
  refine ⟨Z, m, ρ, μ, _, S, q, fun σ1 H1 P => ?_, kr, kb, kc, kx⟩
  obtain ⟨m1, ρ1, μ1, S1, s1, q1⟩ := P
  exact ⟨Z, m1, ρ1, μ1, E, S1, q1, fun σ' H' P => kn σ' H' (SPost.from s1 P), fun v H' P => kr v H' (RPost.from s1 P), fun σ' H' P => kb σ' H' (SPost.from s1 P), fun σ' H' P => kc σ' H' (SPost.from s1 P), fun cls d σ' H' P => kx cls d σ' H' (XSPost.from s1 P)⟩
theorem dss_one (h1 : DSt ex W X st a) : DSs ex W X [st] a := pss_one h1
theorem ds_if {c : Expr} {x y : List Stmt} (hc : DT ex W X c t) (ha : DSs ex W X x a) (hb : DSs ex W X y b) : DSt ex W X (.If c x y pos) (sIf t a b) := ps_weak (ps_if hc ha hb) fun D σ H q => by
  obtain ⟨Z, m, ρ, μ, E, S, q, kn, kr, kb, kc, kx⟩ := q
  refine ⟨Z, m, ρ, μ, _, _, S, q, fun c H1 P => ?_, fun cls d H' P => kx cls d σ H' (XSPost.of S P)⟩
  obtain ⟨m1, μ1, s1, q1⟩ := P
  have S1 := S.step s1
  have s2 : SStep (gx X ex) Z m σ ρ H m1 σ ρ H1 := SStep.of s1
  cases c with
  | true =>
    rw [if_pos rfl] at q1 ⊢
    exact ⟨Z, m1, ρ, μ1, E, S1, q1, fun σ' H' P => kn σ' H' (SPost.from s2 P), fun v H' P => kr v H' (RPost.from s2 P), fun σ' H' P => kb σ' H' (SPost.from s2 P), fun σ' H' P => kc σ' H' (SPost.from s2 P), fun cls d σ' H' P => kx cls d σ' H' (XSPost.from s2 P)⟩
  | false =>
    rw [if_neg Bool.false_ne_true] at q1 ⊢
    exact ⟨Z, m1, ρ, μ1, E, S1, q1, fun σ' H' P => kn σ' H' (SPost.from s2 P), fun v H' P => kr v H' (RPost.from s2 P), fun σ' H' P => kb σ' H' (SPost.from s2 P), fun σ' H' P => kc σ' H' (SPost.from s2 P), fun cls d σ' H' P => kx cls d σ' H' (XSPost.from s2 P)⟩
theorem ds_ret (h : DE ex W X e wa) : DSt ex W X (.Return (some e) pos) (sRet wa) := ps_weak (ps_ret h) fun D σ H q => by
  obtain ⟨Z, m, ρ, μ, E, S, q, kn, kr, kb, kc, kx⟩ := q
  exact ⟨Z, m, ρ, μ, _, _, S, q, fun v H1 P => kr v H1 (RPost.of P), fun cls d H' P => kx cls d σ H' (XSPost.of S P)⟩
theorem ds_retN : DSt ex W X (.Return none pos) sRetN := ps_weak ps_retN fun D σ H q => by
  obtain ⟨Z, m, ρ, μ, E, S, q, kn, kr, kb, kc, kx⟩ := q
  exact kr _ _ (RPost.of (.now S.mu (by rw [Rep]) q))
theorem ds_expr (h : DE ex W X e wa) (hs : swapsWith e none pos.line X.env = pure false := by rfl) : DSt ex W X (.Expr e pos) (sDrop wa) := ps_weak (ps_expr h hs) fun D σ H q => by
  obtain ⟨Z, m, ρ, μ, E, S, q, kn, kr, kb, kc, kx⟩ := q
  refine ⟨Z, m, ρ, μ, _, _, S, q, fun v H1 P => ?_, fun cls d H' P => kx cls d σ H' (XSPost.of S P)⟩
  obtain ⟨m1, d, μ1, s1, r1, q1⟩ := P
  exact kn σ H1 ⟨m1, ρ, μ1, S.step s1, SStep.of s1, q1⟩
theorem ds_pass : DSt ex W X (.Pass pos) sNext := ps_weak ps_pass fun D σ H q => by
  obtain ⟨Z, m, ρ, μ, E, S, q, kn, kr, kb, kc, kx⟩ := q
  exact kn σ H ⟨m, ρ, μ, S, .refl, q⟩
theorem ds_break : DSt ex W X (.Break pos) sBreak := ps_weak ps_break fun D σ H q => by
  obtain ⟨Z, m, ρ, μ, E, S, q, kn, kr, kb, kc, kx⟩ := q
  exact kb σ H ⟨m, ρ, μ, S, .refl, q⟩
theorem ds_continue : DSt ex W X (.Continue pos) sCont := ps_weak ps_continue fun D σ H q => by
  obtain ⟨Z, m, ρ, μ, E, S, q, kn, kr, kb, kc, kx⟩ := q
  exact kc σ H ⟨m, ρ, μ, S, .refl, q⟩
theorem ds_never : DSt ex W X st sNever := ps_weak ps_never fun D σ H q => by
  obtain ⟨Z, m, ρ, μ, E, S, q, kn, kr, kb, kc, kx⟩ := q
  exact q.elim
end
/-! ### a slot is stored -/
theorem own_set {Z : Addr → Prop} {σ : L2.St} {ρ : DS} {i : Nat} {v : V} {d : D} {b : Addr} (h : ownW Z (σ.set i (some v)) (ρ.set i (.v d)) b) : ownW Z σ ρ b := by
  rcases h with h | ⟨j, ds, e1⟩
  · exact .inl h
  · by_cases hj : i = j
    · subst hj
      rw [List.getElem?_set] at e1
      simp at e1
    · rw [List.getElem?_set_ne hj] at e1
      exact .inr ⟨j, ds, e1⟩
theorem vis_mono {Z Z' : Addr → Prop} {m : List Addr} {H : Hp} (h : ∀ b, Z' b → Z b) : Same (vis Z m H) (vis Z' m H) := fun b o e => by
  obtain ⟨h1, h2, h3⟩ := vis_some.mp e
  exact vis_some.mpr ⟨fun z => h1 (h b z), h2, h3⟩
theorem MuOk.less {G : Gx} {Z Z' : Addr → Prop} {m : List Addr} {μ : Mu} {H : Hp} (M : MuOk G Z m μ H) (h : ∀ b, Z' b → Z b) : MuOk G Z' m μ H :=
  ⟨M.len, M.nd, fun a ha z => M.out a ha (h a z), fun z hz => M.hw z (h z hz), fun n c a h1 h2 => (M.cell n c a h1 h2).keep (List.prefix_refl _) (vis_mono h) rfl⟩
theorem SR.set {G : Gx} {Z : Addr → Prop} {m : List Addr} {σ : L2.St} {H : Hp} {ρ : DS} {μ : Mu} (S : SR G Z m σ H ρ μ) {i : Nat} {d : D} {v : V} (r : Rep G m (vis (ownW Z σ ρ) m H) d v) :
    SR G Z m (σ.set i (some v)) H (ρ.set i (.v d)) μ ∧ SStep G Z m σ ρ H m (σ.set i (some v)) (ρ.set i (.v d)) H := by
  have sm : Same (vis (ownW Z σ ρ) m H) (vis (ownW Z (σ.set i (some v)) (ρ.set i (.v d))) m H) := vis_mono fun b => own_set
  refine ⟨⟨by simpa using S.len, S.mu.less fun b => own_set, fun j e h => ?_, fun j a c h => ?_, fun j k a c c' h1 h2 => ?_, fun j c ks ds h => ?_⟩, List.prefix_refl _, fun _ _ => rfl, sm⟩
  · by_cases hj : i = j
    · subst hj
      rw [List.getElem?_set] at h
      simp at h
      obtain ⟨hl, rfl⟩ := h
      have hl' : i < σ.length := by rw [← S.len]; exact hl
      exact ⟨v, by simp [hl'], Rep.mono (List.prefix_refl _) sm _ _ r⟩
    · rw [List.getElem?_set_ne hj] at h
      obtain ⟨u, e1, q⟩ := S.val j e h
      exact ⟨u, by rw [List.getElem?_set_ne hj]; exact e1, Rep.mono (List.prefix_refl _) sm _ _ q⟩
  · by_cases hj : i = j
    · subst hj
      rw [List.getElem?_set] at h
      simp at h
    · rw [List.getElem?_set_ne hj] at h
      obtain ⟨e1, nz, q⟩ := S.own j a c h
      exact ⟨by rw [List.getElem?_set_ne hj]; exact e1, nz, q.keep (List.prefix_refl _) sm rfl⟩
  · have nj : i ≠ j := fun e => by subst e; rw [List.getElem?_set] at h1; simp at h1
    have nk : i ≠ k := fun e => by subst e; rw [List.getElem?_set] at h2; simp at h2
    rw [List.getElem?_set_ne nj] at h1
    rw [List.getElem?_set_ne nk] at h2
    exact S.dis j k a c c' h1 h2
  · have nj : i ≠ j := fun e => by subst e; rw [List.getElem?_set] at h; simp at h
    rw [List.getElem?_set_ne nj] at h ⊢
    exact (S.exn j c ks ds h).mono (List.prefix_refl _) sm
def sSet (i : Nat) (wa : WE) : WS := fun E ρ μ => wa ρ μ (fun d μ1 => E.nx (ρ.set i (.v d)) μ1) fun c ks es μ' => E.xc c ks es ρ μ'
/-! ### targets -/
abbrev WG := D → DS → Mu → (DS → Mu → Prop) → Prop
abbrev WGs := List D → DS → Mu → (DS → Mu → Prop) → Prop
def liftG (G : Gx) (g : WG) : TG := fun v σ H Q' => ∃ Z m ρ μ d Q, SR G Z m σ H ρ μ ∧ Rep G m (vis (ownW Z σ ρ) m H) d v ∧ g d ρ μ Q ∧ ∀ σ' H', SPost G Z m σ ρ H Q σ' H' → Q' σ' H'
def liftGs (G : Gx) (g : WGs) : TGs := fun vs σ H Q' => ∃ Z m ρ μ ds Q, SR G Z m σ H ρ μ ∧ Reps G m (vis (ownW Z σ ρ) m H) ds vs ∧ g ds ρ μ Q ∧ ∀ σ' H', SPost G Z m σ ρ H Q σ' H' → Q' σ' H'
abbrev DG (ex : Option (Addr × Addr × Addr)) (X : Cx) (e : Expr) (g : WG) : Prop := PG X e (liftG (gx X ex) g)
abbrev DGs (ex : Option (Addr × Addr × Addr)) (X : Cx) (e : List Expr) (g : WGs) : Prop := PGs X e (liftGs (gx X ex) g)
theorem pg_weak {X : Cx} {e : Expr} {t t' : TG} (h : PG X e t) (k : ∀ v σ H Q, t' v σ H Q → t v σ H Q) : PG X e t' := ⟨fun pins s σ H v u Q I r q => h.run pins s σ H v u Q I r (k v σ H Q q)⟩
theorem pgs_weak {X : Cx} {e : List Expr} {t t' : TGs} (h : PGs X e t) (k : ∀ v σ H Q, t' v σ H Q → t v σ H Q) : PGs X e t' := ⟨fun pins s σ H v u Q I r q => h.run pins s σ H v u Q I r (k v σ H Q q)⟩
def kName (i : Nat) : WG := fun d ρ μ Q => Q (ρ.set i (.v d)) μ
def kNil : WGs := fun ds ρ μ Q => match ds with
  | [] => Q ρ μ
  | _ :: _ => False
def kCons (g : WG) (gs : WGs) : WGs := fun ds ρ μ Q => match ds with
  | d :: r => g d ρ μ fun ρ1 μ1 => gs r ρ1 μ1 Q
  | [] => False
def kTup (n : Nat) (gs : WGs) : WG := fun d ρ μ Q => match d with
  | .tup ds => ds.length = n ∧ gs ds ρ μ Q
  | _ => False
section
variable {ex : Option (Addr × Addr × Addr)} {W : WX} {X : Cx} {e : Expr} {es : List Expr} {pos : Pos}
theorem dg_name {i : Nat} {x : Str} (hN : X.N.Nodup) (hi : X.N[i]? = some x) (hx : Loc X.env.scope x := by first | exact Or.inl rfl | exact Or.inr rfl) (hf : X.fn x = true ∨ X.env.scope.names.lookup x = some .local := by first | exact .inl rfl | exact .inr rfl | assumption) :
    DG ex X (.Name x pos) (kName i) := pg_weak (pg_name hN hi hx hf) fun v σ H Q' q => by
  obtain ⟨Z, m, ρ, μ, d, Q, S, r, q, k⟩ := q
  obtain ⟨S1, s1⟩ := S.set (i := i) r
  exact k _ _ ⟨m, _, μ, S1, s1, q⟩
theorem dgs_nil : DGs ex X [] kNil := pgs_weak pgs_nil fun vs σ H Q' q => by
  obtain ⟨Z, m, ρ, μ, ds, Q, S, r, q, k⟩ := q
  cases ds with
  | nil => rw [Reps] at r; exact ⟨r, k _ _ ⟨m, ρ, μ, S, .refl, q⟩⟩
  | cons d ds => exact q.elim
theorem dgs_cons {g : WG} {gs : WGs} (h1 : DG ex X e g) (h2 : DGs ex X es gs) (hs : (assignEach (e :: es) X.env).map (·.2) = assign e X.env :: (assignEach es X.env).map (·.2) := by rfl) : DGs ex X (e :: es) (kCons g gs) :=
  pgs_weak (pgs_cons h1 h2 hs) fun vs σ H Q' q => by
  obtain ⟨Z, m, ρ, μ, ds, Q, S, r, q, k⟩ := q
  cases ds with
  | nil => exact q.elim
  | cons d ds =>
    obtain ⟨v, vr, rfl, r1, r2⟩ := r.uncons
    refine ⟨v, vr, rfl, Z, m, ρ, μ, d, _, S, r1, q, fun σ1 H1 P => ?_⟩
    obtain ⟨m1, ρ1, μ1, S1, s1, q1⟩ := P
    exact ⟨Z, m1, ρ1, μ1, ds, Q, S1, Reps.mono s1.pre s1.same _ _ r2, q1, fun σ' H' P => k σ' H' (SPost.from s1 P)⟩
theorem dg_tup {k : Nat} {gs : WGs} {n : Nat} (hc : X.calm = true) (h : DGs ex X es gs) (hn : (assignEach es X.env).length = n := by rfl) (hst : (assignEach es X.env).findIdx? (·.1) = none := by rfl) : DG ex X (.Tuple es k pos) (kTup n gs) :=
  pg_weak (pg_tup hc h hn hst) fun v σ H Q' q => by
  obtain ⟨Z, m, ρ, μ, d, Q, S, r, q, k⟩ := q
  cases d with
  | tup ds =>
    obtain ⟨hl, q⟩ := q
    rw [Rep] at r
    obtain ⟨a, vs, e1, st, rs⟩ := r
    exact ⟨a, vs, e1, SqT.same vis_le st, by rw [← rs.len]; exact hl, Z, m, ρ, μ, ds, Q, S, rs, q, k⟩
  | _ => exact q.elim
/-- target = value -/
def sAsg (wa : WE) (g : WG) : WS := fun E ρ μ => wa ρ μ (fun d μ1 => g d ρ μ1 E.nx) fun c ks es μ' => E.xc c ks es ρ μ'
theorem ds_asg {tg : Expr} {wa : WE} {g : WG} (he : DE ex W X e wa) (hg : DG ex X tg g) (hs : swapsWithSole [tg] e pos.line X.env = pure false := by rfl) (hw : swappedStores [tg] e X.env = pure none := by rfl)
    (h1 : (assignEach [tg] X.env).map (·.2) = [assign tg X.env] := by rfl) : DSt ex W X (.Assign [tg] e pos) (sAsg wa g) := ps_weak (ps_asg he hg hs hw h1) fun D σ H q => by
  obtain ⟨Z, m, ρ, μ, E, S, q, kn, kr, kb, kc, kx⟩ := q
  refine ⟨Z, m, ρ, μ, _, _, S, q, fun v H1 P => ?_, fun cls d H' P => kx cls d σ H' (XSPost.of S P)⟩
  obtain ⟨m1, d, μ1, s1, r1, q1⟩ := P
  exact ⟨Z, m1, ρ, μ1, d, _, S.step s1, r1, q1, fun σ' H' P => kn σ' H' (SPost.from (SStep.of s1) P)⟩
theorem ds_set {i : Nat} {x : Str} {wa : WE} {pos' : Pos} (hN : X.N.Nodup) (hi : X.N[i]? = some x) (he : DE ex W X e wa) (hx : Loc X.env.scope x := by first | exact Or.inl rfl | exact Or.inr rfl)
    (hs : swapsWith e (some (.Name x pos')) pos.line X.env = pure false := by rfl) (hf : X.fn x = true ∨ X.env.scope.names.lookup x = some .local := by first | exact .inl rfl | exact .inr rfl | assumption) :
    DSt ex W X (.Assign [.Name x pos'] e pos) (sSet i wa) := ps_weak (ps_set (i := i) hN hi hx he hs hf) fun D σ H q => by
  obtain ⟨Z, m, ρ, μ, E, S, q, kn, kr, kb, kc, kx⟩ := q
  refine ⟨Z, m, ρ, μ, _, _, S, q, fun v H1 P => ?_, fun cls d H' P => kx cls d σ H' (XSPost.of S P)⟩
  obtain ⟨m1, d, μ1, s1, r1, q1⟩ := P
  obtain ⟨S1, s2⟩ := (S.step s1).set (i := i) r1
  exact kn _ _ ⟨m1, _, μ1, S1, (SStep.of s1).trans s2, q1⟩
/-- a, b = x, y and a, b, c = x, y, z: plain local names -/
def kPar2 (i j : Nat) (E : DEnds) (ρ : DS) : List D → Mu → Prop
  | [a, b], μ1 => E.nx ((ρ.set i (.v a)).set j (.v b)) μ1
  | _, _ => False
def kPar3 (i j l : Nat) (E : DEnds) (ρ : DS) : List D → Mu → Prop
  | [a, b, c], μ1 => E.nx (((ρ.set i (.v a)).set j (.v b)).set l (.v c)) μ1
  | _, _ => False
theorem kPar2_of {i j : Nat} {E : DEnds} {ρ : DS} {ds : List D} {μ : Mu} (h : kPar2 i j E ρ ds μ) : ∃ a b, ds = [a, b] ∧ E.nx ((ρ.set i (.v a)).set j (.v b)) μ := by
  match ds, h with
  | [a, b], h => exact ⟨a, b, rfl, h⟩
theorem kPar3_of {i j l : Nat} {E : DEnds} {ρ : DS} {ds : List D} {μ : Mu} (h : kPar3 i j l E ρ ds μ) : ∃ a b c, ds = [a, b, c] ∧ E.nx (((ρ.set i (.v a)).set j (.v b)).set l (.v c)) μ := by
  match ds, h with
  | [a, b, c], h => exact ⟨a, b, c, rfl, h⟩
def sPar2 (i j : Nat) (wa : WA) : WS := fun E ρ μ => wa ρ μ (kPar2 i j E ρ) fun c ks es μ' => E.xc c ks es ρ μ'
def sPar3 (i j l : Nat) (wa : WA) : WS := fun E ρ μ => wa ρ μ (kPar3 i j l E ρ) fun c ks es μ' => E.xc c ks es ρ μ'
theorem ds_par2 {i j : Nat} {x y : Str} {a b : Expr} {ws : WA} {px py pt : Pos} {kt k2 pt2} (hc : X.calm = true) (hN : X.N.Nodup) (hi : X.N[i]? = some x) (hj : X.N[j]? = some y) (hij : i ≠ j)
    (ha : DA ex W X [a, b] ws) (hx : X.env.scope.names.lookup x = some .local := by rfl) (hy : X.env.scope.names.lookup y = some .local := by rfl)
    (hw : swappedStores [.Tuple [.Name x px, .Name y py] kt pt] (.Tuple [a, b] k2 pt2) X.env = pure (some [x, y]) := by rfl)
    (hs : swapsWithSole [.Tuple [.Name x px, .Name y py] kt pt] (.Tuple [a, b] k2 pt2) pos.line X.env = pure false := by rfl) :
    DSt ex W X (.Assign [.Tuple [.Name x px, .Name y py] kt pt] (.Tuple [a, b] k2 pt2) pos) (sPar2 i j ws) := ps_weak (ps_par hc hN hi hj hij hx hy ha hw hs) fun D σ H q => by
  obtain ⟨Z, m, ρ, μ, E, S, q, kn, kr, kb, kc, kx⟩ := q
  refine ⟨Z, m, ρ, μ, kPar2 i j E ρ, _, S, q, fun vs H1 P => ?_, fun cls d H' P => kx cls d σ H' (XSPost.of S P)⟩
  obtain ⟨m1, ds, μ1, s1, r1, q1⟩ := P
  obtain ⟨d1, d2, rfl, q1⟩ := kPar2_of q1
  obtain ⟨v1, _, rfl, h1, r1⟩ := r1.uncons
  obtain ⟨v2, _, rfl, h2, r1⟩ := r1.uncons
  rw [Reps] at r1
  subst r1
  obtain ⟨S1, t1⟩ := (S.step s1).set (i := i) h1
  obtain ⟨S2, t2⟩ := S1.set (i := j) (Rep.mono t1.pre t1.same _ _ h2)
  exact ⟨v1, v2, rfl, kn _ _ ⟨m1, _, μ1, S2, ((SStep.of s1).trans t1).trans t2, q1⟩⟩
theorem ds_par3 {i j l : Nat} {x y z : Str} {a b c : Expr} {ws : WA} {px py pz pt : Pos} {kt k2 pt2} (hc : X.calm = true) (hN : X.N.Nodup) (hi : X.N[i]? = some x) (hj : X.N[j]? = some y) (hl : X.N[l]? = some z) (hij : i ≠ j) (hil : i ≠ l) (hjl : j ≠ l)
    (ha : DA ex W X [a, b, c] ws) (hx : X.env.scope.names.lookup x = some .local := by rfl) (hy : X.env.scope.names.lookup y = some .local := by rfl) (hz : X.env.scope.names.lookup z = some .local := by rfl)
    (hw : swappedStores [.Tuple [.Name x px, .Name y py, .Name z pz] kt pt] (.Tuple [a, b, c] k2 pt2) X.env = pure (some [x, y, z]) := by rfl)
    (hs : swapsWithSole [.Tuple [.Name x px, .Name y py, .Name z pz] kt pt] (.Tuple [a, b, c] k2 pt2) pos.line X.env = pure false := by rfl) :
    DSt ex W X (.Assign [.Tuple [.Name x px, .Name y py, .Name z pz] kt pt] (.Tuple [a, b, c] k2 pt2) pos) (sPar3 i j l ws) := ps_weak (ps_par3 hc hN hi hj hl hij hil hjl hx hy hz ha hw hs) fun D σ H q => by
  obtain ⟨Z, m, ρ, μ, E, S, q, kn, kr, kb, kc, kx⟩ := q
  refine ⟨Z, m, ρ, μ, kPar3 i j l E ρ, _, S, q, fun vs H1 P => ?_, fun cls d H' P => kx cls d σ H' (XSPost.of S P)⟩
  obtain ⟨m1, ds, μ1, s1, r1, q1⟩ := P
  obtain ⟨d1, d2, d3, rfl, q1⟩ := kPar3_of q1
  obtain ⟨v1, _, rfl, h1, r1⟩ := r1.uncons
  obtain ⟨v2, _, rfl, h2, r1⟩ := r1.uncons
  obtain ⟨v3, _, rfl, h3, r1⟩ := r1.uncons
  rw [Reps] at r1
  subst r1
  obtain ⟨S1, t1⟩ := (S.step s1).set (i := i) h1
  obtain ⟨S2, t2⟩ := S1.set (i := j) (Rep.mono t1.pre t1.same _ _ h2)
  obtain ⟨S3, t3⟩ := S2.set (i := l) (Rep.mono (t1.trans t2).pre (t1.trans t2).same _ _ h3)
  exact ⟨v1, v2, v3, rfl, kn _ _ ⟨m1, _, μ1, S3, (((SStep.of s1).trans t1).trans t2).trans t3, q1⟩⟩
/-- name op= e -/
def sAug (i : Nat) (f : F2) (wa : WE) : WS := fun E ρ μ => match ρ[i]? with
  | some (.v x) => wa ρ μ (fun y μ1 => f x y μ1 fun z μ2 => E.nx (ρ.set i (.v z)) μ2) fun c ks es μ' => E.xc c ks es ρ μ'
  | _ => False
theorem ds_aug {i : Nat} {x : Str} {wa : WE} {op : Operator} {r : R2} {f : F2} {pos' : Pos} (ho : OpR X (inplaceOp op) r) (hf2 : S2 (gx X ex) r f) (hN : X.N.Nodup) (hi : X.N[i]? = some x) (he : DE ex W X e wa) (hx : Loc X.env.scope x := by first | exact Or.inl rfl | exact Or.inr rfl)
    (hf : X.fn x = true ∨ X.env.scope.names.lookup x = some .local := by first | exact .inl rfl | exact .inr rfl | assumption) : DSt ex W X (.AugAssign (.Name x pos') op e pos) (sAug i f wa) := ps_weak (ps_aug (i := i) (ti := r) hN hi hx he (fun pins s σ H x y v u Q I rx ry q => ho pins s σ H x y v u Q I rx ry q) hf) fun D σ H q => by
  obtain ⟨Z, m, ρ, μ, E, S, q, kn, kr, kb, kc, kx⟩ := q
  unfold sAug at q
  split at q
  · rename_i d ed
    obtain ⟨v, e1, r0⟩ := S.val i d ed
    refine ⟨v, e1, Z, m, ρ, μ, _, _, S, q, fun u H1 P => ?_, fun cls d H' P => kx cls d σ H' (XSPost.of S P)⟩
    obtain ⟨m1, y, μ1, s1, r1, q1⟩ := P
    refine hf2 _ m1 μ1 H1 d y v u _ _ s1.mu (Rep.mono s1.pre s1.same _ _ r0) r1 q1 fun z H' P => ?_
    obtain ⟨m2, zd, μ2, s2, r2, q2⟩ := P
    obtain ⟨S2, t2⟩ := ((S.step s1).step s2).set (i := i) r2
    exact kn _ _ ⟨m2, _, μ2, S2, (SStep.of (s1.trans s2)).trans t2, q2⟩
  · exact q.elim
end

/-! ### a def -/
def startD (N : List Str) (ds : List D) : DS := ds.map Sl.v ++ List.replicate (N.length - ds.length) Sl.no
theorem start_own {Z : Addr → Prop} {N : List Str} {ds : List D} {vs : List V} : ownW Z (L2.start N vs) (startD N ds) = Z := by
  funext b
  apply propext
  constructor
  · rintro (h | ⟨i, es, e1⟩)
    · exact h
    · unfold startD at e1
      rw [List.getElem?_append] at e1
      split at e1
      · rw [List.getElem?_map] at e1
        cases q : ds[i]? with
        | none => rw [q] at e1; cases e1
        | some d => rw [q] at e1; cases e1
      · have := List.mem_of_getElem? e1
        rw [List.mem_replicate] at this
        exact nomatch this.2
  · exact fun h => .inl h
theorem SR.start {G : Gx} {Z : Addr → Prop} {m : List Addr} {H : Hp} {μ : Mu} {N : List Str} {ds : List D} {vs : List V} (M : MuOk G Z m μ H) (r : Reps G m (vis Z m H) ds vs) : SR G Z m (L2.start N vs) H (startD N ds) μ := by
  refine ⟨by simp [startD, L2.start, r.len], by rw [start_own]; exact M, fun i d e => ?_, fun i a es e => ?_, fun i j a es fs e1 e2 => ?_, fun i c ks es e1 => ?_⟩
  · unfold startD at e
    rw [List.getElem?_append] at e
    split at e
    · rename_i hl
      rw [List.getElem?_map] at e
      rw [List.length_map] at hl
      cases q : ds[i]? with
      | none => rw [q] at e; cases e
      | some d' =>
        rw [q] at e
        cases e
        obtain ⟨v, ev, rv⟩ := r.get q
        refine ⟨v, ?_, by rw [start_own]; exact rv⟩
        unfold L2.start
        rw [List.getElem?_append_left (by rw [List.length_map, ← r.len]; exact hl), List.getElem?_map, ev]
        rfl
    · have := List.mem_of_getElem? e
      rw [List.mem_replicate] at this
      exact nomatch this.2
  · unfold startD at e
    rw [List.getElem?_append] at e
    split at e
    · rw [List.getElem?_map] at e
      cases q : ds[i]? with
      | none => rw [q] at e; cases e
      | some d' => rw [q] at e; cases e
    · have := List.mem_of_getElem? e
      rw [List.mem_replicate] at this
      exact nomatch this.2
  · unfold startD at e1
    rw [List.getElem?_append] at e1
    split at e1
    · rw [List.getElem?_map] at e1
      cases q : ds[i]? with
      | none => rw [q] at e1; cases e1
      | some d' => rw [q] at e1; cases e1
    · have := List.mem_of_getElem? e1
      rw [List.mem_replicate] at this
      exact nomatch this.2
  · unfold startD at e1
    rw [List.getElem?_append] at e1
    split at e1
    · rw [List.getElem?_map] at e1
      cases q : ds[i]? with
      | none => rw [q] at e1; cases e1
      | some d' => rw [q] at e1; cases e1
    · have := List.mem_of_getElem? e1
      rw [List.mem_replicate] at this
      exact nomatch this.2
section
variable {P : Program} {w : World} {K : PySem.W.Frag} {mg : Str → Option Value} {base : Heap}
/-- the ends of a def's body -/
def defE (Q : D → Mu → Prop) (Xd : XD) : DEnds := { nx := fun _ μ => Q .non μ, rt := Q, xc := fun c ks es _ μ => Xd c ks es μ }
theorem fnG_of {x qual : Str} {params : Arguments} {body : List Stmt} {scope : Scope} {dvs : List V} {kws : List (Str × V)} {f : Addr} {fd : FuncData} {N ps : List Str} {k : Nat} {sp : Sp} (F : FunD K x qual params body scope dvs kws f fd) (S : FnScope N ps scope)
    (len : ∀ vs H Q E, sp vs H Q E → vs.length = ps.length)
    (hbody : ∀ (cdv : Value) (A : Around) (fr : List Env) (s : Shared) (H : Hp) (vs : List V) (Q : VK) (E : XK), Room k (A.deeper (envOfC qual scope s.heap.objs.size f cdv)) → (A.deeper (envOfC qual scope s.heap.objs.size f cdv)).guards = some [] → sp vs H Q E →
      ∃ t, PSs (cxOf (L2.CX P w) P w K mg base N qual scope f cdv A fr s H E) body t ∧ t { nx := fun _ H' => Q .non H', rt := Q } (L2.start N vs) H) : FnG P w K mg base (k + 1) f fd ps sp := by
  obtain ⟨oc, od, dV, kV, doc, pm, an, cdv, ct, osl, rfl, lk, hcd, _, _⟩ := F.ex
  refine ⟨len, fun A fr s H args us vs Q E room gd env bd rv hsp => ?_⟩
  have hlen := len _ _ _ _ hsp
  have kin : K.In s.heap := env.mod.kin.keeps fun b o e => (env.bs b o e).1
  have nolim : s.heap.NoLimit := env.mod.nolimit.keeps fun b o e => (env.bs b o e).1
  have kinds : ∀ y ∈ ps.zip us, scope.names.lookup y.1 = some .local ∨ (scope.names.lookup y.1 = some .cell ∧ ((cellsFrom (s.heap.objs.size + 1) scope.names []).lookup y.1).isSome = true) := by
    rintro ⟨n, v⟩ hy
    exact (S.par n (List.of_mem_zip hy).1).elim .inl fun q => .inr ⟨q, PySem.W.cellsFrom_some _ _ _ (.inl q)⟩
  refine codeAny_call_function room.depth (kin _ _ lk) rfl S.co S.gen rfl (PySem.W.codeRec_of kin hcd) (bd _ _ _ _ ?_)
  refine wpAny_newFunctionEnv_cells S.kind kinds fun env1 he1 s1 made => ?_
  subst he1
  refine ⟨nolim.keeps made.toInCall.keep, codeAny_func ?_⟩
  obtain ⟨t, ht, hq⟩ := hbody cdv A fr s H vs Q E (room.deeper _) gd hsp
  have I : Inv (cxOf (L2.CX P w) P w K mg base N qual scope f cdv A fr s H E) [] (L2.start N vs) H s1 := inv_start S room.hd env hlen rv made
  refine wpAny_mono (ht.run [] s1 (L2.start N vs) H _ I hq) (fun fl s2 hs => ?_) fun er s2 hs => hs
  match fl, hs with
  | .ret u, ⟨v, σ2, H2, J, rv2, q⟩ => exact ⟨v, H2, J.os, J.bare, J.base, J.hok, rv2, q⟩
  | .next, ⟨σ2, H2, J, q⟩ => exact ⟨V.non, H2, J.os, J.bare, J.base, J.hok, rfl, q⟩
  | .brk, ⟨_, _, _, q⟩ => exact q.elim
  | .cont, ⟨_, _, _, q⟩ => exact q.elim
theorem def_ok {x qual : Str} {params : Arguments} {body : List Stmt} {scope : Scope} {dvs : List V} {kws : List (Str × V)} {f : Addr} {fd : FuncData} {N ps : List Str} {k : Nat} {sp : DSp} {wb : WS} (F : FunD K x qual params body scope dvs kws f fd) (S : FnScope N ps scope)
    (len : ∀ ds μ Q Xd, sp ds μ Q Xd → ds.length = ps.length)
    (hbody : ∀ (cdv : Value) (A : Around) (fr : List Env) (s : Shared) (H : Hp) (E : XK), Room k (A.deeper (envOfC qual scope s.heap.objs.size f cdv)) → (A.deeper (envOfC qual scope s.heap.objs.size f cdv)).guards = some [] →
      DSs none (fun cls d _ H' => E cls d H') (cxOf (L2.CX P w) P w K mg base N qual scope f cdv A fr s H E) body wb)
    (hw : ∀ ds μ Q Xd, sp ds μ Q Xd → wb (defE Q Xd) (startD N ds) μ) : FnG P w K mg base (k + 1) f fd ps (toSp ⟨K, mg, none⟩ sp) := by
  refine fnG_of F S (fun vs H Q E h => ?_) (fun cdv A outer s H vs Q E hr hgd h => ?_)
  · obtain ⟨Z, m, μ, ds, Q', Xd, M, r, q, _⟩ := h
    rw [← r.len]
    exact len _ _ _ _ q
  · refine ⟨_, hbody cdv A outer s H E hr hgd, ?_⟩
    obtain ⟨Z, m, μ, ds, Q', Xd, M, r, q, kq, kx⟩ := h
    refine ⟨Z, m, startD N ds, μ, defE Q' Xd, .start M r, hw ds μ Q' Xd q, fun σ' H' P => ?_, fun v H' P => ?_, fun σ' H' P => ?_, fun σ' H' P => ?_, fun cls d σ' H' P => ?_⟩
    · obtain ⟨m', ρ', μ', S', s', q'⟩ := P
      have z := s'.same
      rw [start_own] at z
      exact kq _ _ ⟨m', .non, μ', ⟨s'.pre, s'.hid, S'.mu.out_own, z.trans vis_own⟩, by rw [Rep], q'⟩
    · obtain ⟨m', d, μ', h1, h2, h3, h4, h5, h6⟩ := P
      rw [start_own] at h4
      exact kq _ _ ⟨m', d, μ', ⟨h1, h2, h3, h4⟩, h5, h6⟩
    · obtain ⟨m', ρ', μ', S', s', q'⟩ := P
      exact q'.elim
    · obtain ⟨m', ρ', μ', S', s', q'⟩ := P
      exact q'.elim
    · obtain ⟨m', c, ks, es, ρ', μ', C, dd, vs', S', s', e1, e2, e3, e4, e5, e6, q'⟩ := P
      have z := s'.same
      rw [start_own] at z
      exact kx _ _ _ ⟨m', c, ks, es, μ', C, dd, vs', ⟨s'.pre, s'.hid, S'.mu.out_own, z.trans vis_own⟩, e1, e2, e3, vis_own _ _ e4, e5, Reps.mono (List.prefix_refl _) vis_own _ _ e6, q'⟩
end
end DL

set_option Elab.async false
set_option linter.all false
set_option maxRecDepth 100000
set_option maxHeartbeats 4000000
set_option autoImplicit false
namespace DL
open PySem PySem.Spec PyProof.Rows L2
/-! ### operations on ints -/
def fII (C : Int → Int → Prop) (g : Int → Int → Int) : F2
  | .int i, .int j, μ, Q => C i j ∧ Q (.int (g i j)) μ
  | _, _, _, _ => False
def fII0 (g : Int → Int → Int) : F2
  | .int i, .int j, μ, Q => Q (.int (g i j)) μ
  | _, _, _, _ => False
def fIB (g : Int → Int → Bool) : F2
  | .int i, .int j, μ, Q => Q (.bl (g i j)) μ
  | _, _, _, _ => False
def fI (g : Int → Int) : F1
  | .int i, μ, Q => Q (.int (g i)) μ
  | _, _, _ => False
theorem fII_of {C : Int → Int → Prop} {g : Int → Int → Int} {x y : D} {μ : Mu} {Q : D → Mu → Prop} (h : fII C g x y μ Q) : ∃ i j, x = .int i ∧ y = .int j ∧ C i j ∧ Q (.int (g i j)) μ := by
  unfold fII at h
  split at h
  · exact ⟨_, _, rfl, rfl, h⟩
  · exact h.elim
theorem fII0_of {g : Int → Int → Int} {x y : D} {μ : Mu} {Q : D → Mu → Prop} (h : fII0 g x y μ Q) : ∃ i j, x = .int i ∧ y = .int j ∧ Q (.int (g i j)) μ := by
  unfold fII0 at h
  split at h
  · exact ⟨_, _, rfl, rfl, h⟩
  · exact h.elim
theorem fIB_of {g : Int → Int → Bool} {x y : D} {μ : Mu} {Q : D → Mu → Prop} (h : fIB g x y μ Q) : ∃ i j, x = .int i ∧ y = .int j ∧ Q (.bl (g i j)) μ := by
  unfold fIB at h
  split at h
  · exact ⟨_, _, rfl, rfl, h⟩
  · exact h.elim
theorem s2_II {G : Gx} {C : Int → Int → Prop} {g : Int → Int → Int} : S2 G (rI C fun i j => .int (g i j)) (fII C g) := by
  intro Z m μ H x y u v Q Q' M rx ry h k
  obtain ⟨i, j, rfl, rfl, c, q⟩ := fII_of h
  rw [Rep] at rx ry
  exact ⟨i, j, rx, ry, c, k _ _ (.now M (by rw [Rep]) q)⟩
theorem s2_II0 {G : Gx} {g : Int → Int → Int} : S2 G (rI0 fun i j => .int (g i j)) (fII0 g) := by
  intro Z m μ H x y u v Q Q' M rx ry h k
  obtain ⟨i, j, rfl, rfl, q⟩ := fII0_of h
  rw [Rep] at rx ry
  exact ⟨i, j, rx, ry, k _ _ (.now M (by rw [Rep]) q)⟩
theorem s2_IB {G : Gx} {g : Int → Int → Bool} : S2 G (rI0 fun i j => .bl (g i j)) (fIB g) := by
  intro Z m μ H x y u v Q Q' M rx ry h k
  obtain ⟨i, j, rfl, rfl, q⟩ := fIB_of h
  rw [Rep] at rx ry
  exact ⟨i, j, rx, ry, k _ _ (.now M (by rw [Rep]) q)⟩
theorem s2_eqI {G : Gx} : S2 G rEq (fIB fun i j => decide (i = j)) := by
  intro Z m μ H x y u v Q Q' M rx ry h k
  obtain ⟨i, j, rfl, rfl, q⟩ := fIB_of h
  rw [Rep] at rx ry
  subst rx ry
  refine ⟨rfl, ?_⟩
  rw [dec_int, Bool.beq_eq_decide_eq]; exact k _ _ (.now M (by rw [Rep]) q)
theorem s2_neI {G : Gx} : S2 G rNe (fIB fun i j => !decide (i = j)) := by
  intro Z m μ H x y u v Q Q' M rx ry h k
  obtain ⟨i, j, rfl, rfl, q⟩ := fIB_of h
  rw [Rep] at rx ry
  subst rx ry
  refine ⟨rfl, ?_⟩
  rw [dec_int, Bool.beq_eq_decide_eq]; exact k _ _ (.now M (by rw [Rep]) q)
theorem fI_of {g : Int → Int} {x : D} {μ : Mu} {Q : D → Mu → Prop} (h : fI g x μ Q) : ∃ i, x = .int i ∧ Q (.int (g i)) μ := by
  unfold fI at h
  split at h
  · exact ⟨_, rfl, h⟩
  · exact h.elim
theorem s1_I {G : Gx} {g : Int → Int} : S1 G (rU fun i => .int (g i)) (fI g) := by
  intro Z m μ H x u Q Q' M rx h k
  obtain ⟨i, rfl, q⟩ := fI_of h
  rw [Rep] at rx
  exact ⟨i, rx, k _ _ (.now M (by rw [Rep]) q)⟩
abbrev fAdd : F2 := fII0 fun i j => i + j
abbrev fSub : F2 := fII0 fun i j => i - j
def CM (i j : Int) : Prop := CMul i j ∨ CMulW i j
theorem op_mulU {X : Cx} : OpR X (binaryOp .Mult) (rI CM fun i j => .int (i * j)) := by
  intro pins s σ H x y v u Q I rx ry h
  obtain ⟨i, j, e1, e2, c, q⟩ := h
  rcases c with c | c
  · exact op_mul pins s σ H x y v u Q I rx ry ⟨i, j, e1, e2, c, q⟩
  · exact op_mulW pins s σ H x y v u Q I rx ry ⟨i, j, e1, e2, c, q⟩
abbrev fMul : F2 := fII CM fun i j => i * j
abbrev fDiv : F2 := fII CDivW fun i j => i / j
abbrev fMod : F2 := fII (fun _ j => 0 < j) fun i j => i % j
abbrev fPow : F2 := fII CPow fun i j => i ^ j.toNat
abbrev fNeg : F1 := fI fun i => -i
abbrev fLt : F2 := fIB fun i j => decide (i < j)
abbrev fLe : F2 := fIB fun i j => decide (i ≤ j)
abbrev fGt : F2 := fIB fun i j => decide (j < i)
abbrev fGe : F2 := fIB fun i j => decide (j ≤ i)
abbrev fEqI : F2 := fIB fun i j => decide (i = j)
abbrev fNeI : F2 := fIB fun i j => !decide (i = j)
/-- is, is not of a value and None -/
def isNon : D → Bool
  | .non => true
  | _ => false
def fIsN : F2
  | x, .non, μ, Q => Q (.bl (isNon x)) μ
  | _, _, _, _ => False
def fNotN : F2
  | x, .non, μ, Q => Q (.bl (!isNon x)) μ
  | _, _, _, _ => False
theorem rep_non {G : Gx} {m : List Addr} {E : Hp} {x : D} {u : V} (r : Rep G m E x u) : decide (u = .non) = isNon x := by
  cases x <;> rw [Rep] at r
  case non => subst r; rfl
  case bl => subst r; rfl
  case int => subst r; rfl
  case str => subst r; rfl
  case ty => subst r; rfl
  case tup => obtain ⟨a, vs, rfl, _⟩ := r; rfl
  case lst => obtain ⟨a, vs, rfl, _⟩ := r; rfl
  case frl => obtain ⟨a, vs, rfl, _⟩ := r; rfl
  case obj => obtain ⟨a, C, dx, vs, rfl, _⟩ := r; rfl
  case loc => obtain ⟨a, rfl, _⟩ := r; rfl
  case cls => obtain ⟨C, _, rfl⟩ := r; rfl
  case opq => obtain ⟨a, rfl, _⟩ := r; rfl
theorem s2_isN {G : Gx} : S2 G (fun x y H Q => y = .non ∧ Q (.bl (decide (x = .non))) H) fIsN := by
  intro Z m μ H x y u v Q Q' M rx ry h k
  unfold fIsN at h
  split at h
  · rw [Rep] at ry
    refine ⟨ry, k _ _ (.now M (d := .bl _) ?_ h)⟩
    rw [Rep, rep_non rx]
  · exact h.elim
theorem s2_notN {G : Gx} : S2 G (fun x y H Q => y = .non ∧ Q (.bl (!decide (x = .non))) H) fNotN := by
  intro Z m μ H x y u v Q Q' M rx ry h k
  unfold fNotN at h
  split at h
  · rw [Rep] at ry
    refine ⟨ry, k _ _ (.now M (d := .bl _) ?_ h)⟩
    rw [Rep, rep_non rx]
  · exact h.elim
section
variable {ex : Option (Addr × Addr × Addr)} {W : WX} {X : Cx} {a b c : Expr} {wa wb wc : WE} {pos : Pos}
theorem de_add (ha : DE ex W X a wa) (hb : DE ex W X b wb) : DE ex W X (.BinOp a .Add b pos) (w2 fAdd wa wb) := de_op op_add s2_II0 ha hb
theorem de_sub (ha : DE ex W X a wa) (hb : DE ex W X b wb) : DE ex W X (.BinOp a .Sub b pos) (w2 fSub wa wb) := de_op op_sub s2_II0 ha hb
theorem de_mul (ha : DE ex W X a wa) (hb : DE ex W X b wb) : DE ex W X (.BinOp a .Mult b pos) (w2 fMul wa wb) := de_op op_mulU s2_II ha hb
theorem de_div (ha : DE ex W X a wa) (hb : DE ex W X b wb) : DE ex W X (.BinOp a .FloorDiv b pos) (w2 fDiv wa wb) := de_op op_fdivW s2_II ha hb
theorem de_mod (ha : DE ex W X a wa) (hb : DE ex W X b wb) : DE ex W X (.BinOp a .Mod b pos) (w2 fMod wa wb) := de_op op_mod s2_II ha hb
theorem de_pow (ha : DE ex W X a wa) (hb : DE ex W X b wb) : DE ex W X (.BinOp a .Pow b pos) (w2 fPow wa wb) := de_op op_pow s2_II ha hb
theorem de_neg (ha : DE ex W X a wa) : DE ex W X (.UnaryOp .USub a pos) (w1 fNeg wa) := de_un un_neg s1_I ha
end
/-! ### data of the library, and == by it -/
mutual
def toP : D → Option PyData
  | .non => some .none
  | .bl b => some (.bool b)
  | .int i => some (.int i)
  | .str s => some (.str s)
  | .tup ds => (toPs ds).map .tuple
  | .lst ds => (toPs ds).map .list
  | .frl ds => (toPs ds).map .list
  | _ => none
def toPs : List D → Option (List PyData)
  | [] => some []
  | d :: ds => match toP d, toPs ds with
    | some p, some ps => some (p :: ps)
    | _, _ => none
end
mutual
theorem dp_of {G : Gx} {m : List Addr} {E H : Hp} (hE : Same E H) : ∀ (d : D) (v : V) (p : PyData), Rep G m E d v → toP d = some p → Dp G.K H v p
  | .non, v, p, r, e => by rw [Rep] at r; rw [toP] at e; cases e; subst r; exact .non
  | .bl b, v, p, r, e => by rw [Rep] at r; rw [toP] at e; cases e; subst r; exact .bl b
  | .int i, v, p, r, e => by rw [Rep] at r; rw [toP] at e; cases e; subst r; exact .int i
  | .str s, v, p, r, e => by rw [Rep] at r; rw [toP] at e; cases e; subst r; exact .str s
  | .tup ds, v, p, r, e => by
    rw [Rep] at r; rw [toP] at e
    obtain ⟨a, vs, rfl, s, q⟩ := r
    cases h : toPs ds with
    | none => rw [h] at e; cases e
    | some ps =>
      rw [h] at e; cases e
      exact .tup (SqT.same hE s) (dps_of hE ds vs ps q h)
  | .lst ds, v, p, r, e => by
    rw [Rep] at r; rw [toP] at e
    obtain ⟨a, vs, rfl, s, q⟩ := r
    cases h : toPs ds with
    | none => rw [h] at e; cases e
    | some ps =>
      rw [h] at e; cases e
      exact .lst (.inl (.inl (hE _ _ s))) (dps_of hE ds vs ps q h)
  | .frl ds, v, p, r, e => by
    rw [Rep] at r; rw [toP] at e
    obtain ⟨a, vs, rfl, s, q⟩ := r
    cases h : toPs ds with
    | none => rw [h] at e; cases e
    | some ps =>
      rw [h] at e; cases e
      exact .lst (Same.seq hE s) (dps_of hE ds vs ps q h)
  | .obj _ _ _, v, p, r, e => by simp [toP] at e
  | .loc _, v, p, r, e => by simp [toP] at e
  | .ty _, v, p, r, e => by simp [toP] at e
  | .cls _, v, p, r, e => by simp [toP] at e
  | .opq _, v, p, r, e => by simp [toP] at e
theorem dps_of {G : Gx} {m : List Addr} {E H : Hp} (hE : Same E H) : ∀ (ds : List D) (vs : List V) (ps : List PyData), Reps G m E ds vs → toPs ds = some ps → DpAll G.K H vs ps
  | [], vs, ps, r, e => by rw [Reps] at r; rw [toPs] at e; cases e; subst r; exact .nil
  | d :: ds, vs, ps, r, e => by
    obtain ⟨v, t, rfl, h, q⟩ := r.uncons
    rw [toPs] at e
    cases h1 : toP d with
    | none => rw [h1] at e; cases e
    | some p =>
      cases h2 : toPs ds with
      | none => rw [h1, h2] at e; cases e
      | some ps' =>
        rw [h1, h2] at e; cases e
        exact .cons (dp_of hE d v p h h1) (dps_of hE ds t ps' q h2)
end
/-- == of data -/
def eqD (x y : D) (k : Bool → Prop) : Prop := ∃ p q, toP x = some p ∧ toP y = some q ∧ SeqAt.shaped p = true ∧ SeqAt.shaped q = true ∧ k (PyData.eqv p q)
def fEqD : F2 := fun x y μ Q => eqD x y fun b => Q (.bl b) μ
def fNeD : F2 := fun x y μ Q => eqD x y fun b => Q (.bl (!b)) μ
theorem s2_eqD {G : Gx} : S2 G (rEqD G.K) fEqD := by
  intro Z m μ H x y u v Q Q' M rx ry h k
  obtain ⟨p, q, e1, e2, s1, s2, h⟩ := h
  exact ⟨p, q, dp_of vis_le _ _ _ rx e1, dp_of vis_le _ _ _ ry e2, s1, s2, k _ _ (.now M (by rw [Rep]) h)⟩
theorem s2_neD {G : Gx} : S2 G (rNeD G.K) fNeD := by
  intro Z m μ H x y u v Q Q' M rx ry h k
  obtain ⟨p, q, e1, e2, s1, s2, h⟩ := h
  exact ⟨p, q, dp_of vis_le _ _ _ rx e1, dp_of vis_le _ _ _ ry e2, s1, s2, k _ _ (.now M (by rw [Rep]) h)⟩
/-- in, not in, a list's index: data -/
def fInD : F2 := fun x y μ Q => ∃ p qs, toP x = some p ∧ toP y = some (.list qs) ∧ SeqAt.shaped p = true ∧ SeqAt.shaped (.list qs) = true ∧ Q (.bl (qs.any fun z => PyData.eqv z p)) μ
def fNotInD : F2 := fun x y μ Q => ∃ p qs, toP x = some p ∧ toP y = some (.list qs) ∧ SeqAt.shaped p = true ∧ SeqAt.shaped (.list qs) = true ∧ Q (.bl (!qs.any fun z => PyData.eqv z p)) μ
theorem s2_inD {G : Gx} : S2 G (rInD G.K) fInD := by
  intro Z m μ H x y u v Q Q' M rx ry h k
  obtain ⟨p, q, e1, e2, s1, s2, h⟩ := h
  exact ⟨p, q, dp_of vis_le _ _ _ rx e1, dp_of vis_le _ _ _ ry e2, s1, s2, k _ _ (.now M (by rw [Rep]) h)⟩
theorem s2_notInD {G : Gx} : S2 G (rNotInD G.K) fNotInD := by
  intro Z m μ H x y u v Q Q' M rx ry h k
  obtain ⟨p, q, e1, e2, s1, s2, h⟩ := h
  exact ⟨p, q, dp_of vis_le _ _ _ rx e1, dp_of vis_le _ _ _ ry e2, s1, s2, k _ _ (.now M (by rw [Rep]) h)⟩
/-! ### items, lengths, cuts -/
/-- the items of a list or a tuple -/
def itemsD (d : D) (μ : Mu) : Option (List D) := match d with
  | .tup ds => some ds
  | .lst ds => some ds
  | .frl ds => some ds
  | .loc n => match μ[n]? with
    | some (.lst ds) => some ds
    | _ => none
  | _ => none
def fIx : F2 := fun x y μ Q => match itemsD x μ, y with
  | some ds, .int i => match atI ds i with
    | some d => Q d μ
    | none => False
  | _, _ => False
theorem atI_rep {G : Gx} {m : List Addr} {E : Hp} {ds : List D} {vs : List V} {i : Int} {d : D} (r : Reps G m E ds vs) (h : atI ds i = some d) : ∃ v, atI vs i = some v ∧ Rep G m E d v := by
  unfold atI at h ⊢
  rw [← r.len]
  cases e : ixN ds.length i with
  | none => rw [e] at h; cases h
  | some j =>
    rw [e] at h
    obtain ⟨v, e1, q⟩ := r.get (show ds[j]? = some d from h)
    exact ⟨v, e1, q⟩
theorem items_rep {G : Gx} {Z : Addr → Prop} {m : List Addr} {μ : Mu} {H : Hp} {x : D} {u : V} {ds : List D} (M : MuOk G Z m μ H) (r : Rep G m (vis Z m H) x u) (h : itemsD x μ = some ds) :
    ∃ a vs, u = .ref a ∧ (SqL G.K H a vs ∨ SqT G.K H a vs) ∧ Reps G m (vis Z m H) ds vs := by
  unfold itemsD at h
  split at h
  · cases h
    rw [Rep] at r
    obtain ⟨a, vs, e, s, q⟩ := r
    exact ⟨a, vs, e, .inr (SqT.same vis_le s), q⟩
  · cases h
    rw [Rep] at r
    obtain ⟨a, vs, e, s, q⟩ := r
    exact ⟨a, vs, e, .inl (.inl (.inl (vis_le _ _ s))), q⟩
  · cases h
    rw [Rep] at r
    obtain ⟨a, vs, e, s, q⟩ := r
    exact ⟨a, vs, e, .inl (Same.seq vis_le s), q⟩
  · rename_i n
    split at h
    · rename_i es e1
      cases h
      rw [Rep] at r
      obtain ⟨a, e, s⟩ := r
      obtain ⟨vs, h1, h2⟩ := M.cell n _ a e1 s
      exact ⟨a, vs, e, .inl (.inl (.inl h1)), h2⟩
    · cases h
  · cases h
def rIxLT (K : PySem.W.Frag) : R2 := fun x y H Q => rIxL K x y H Q ∨ rIxT K x y H Q
theorem s2_ix {G : Gx} : S2 G (rIxLT G.K) fIx := by
  intro Z m μ H x y u v Q Q' M rx ry h k
  unfold fIx at h
  split at h
  · rename_i ds i e1
    split at h
    · rename_i d e2
      rw [Rep] at ry
      obtain ⟨a, vs, e, s, q⟩ := items_rep M rx e1
      obtain ⟨w, ew, rw'⟩ := atI_rep q e2
      have fin := k w H (.now M rw' h)
      rcases s with s | s
      · exact .inl ⟨a, vs, i, w, e, ry, s, ew, fin⟩
      · exact .inr ⟨a, vs, i, w, e, ry, s, ew, fin⟩
    · exact h.elim
  · exact h.elim
def fLen : FN := fun xs μ Q => match xs with
  | [x] => match itemsD x μ with
    | some ds => Q (.int ds.length) μ
    | none => False
  | _ => False
theorem sn_len {G : Gx} : SN G (fun xs H Q => ∃ p ys, xs = [.ref p] ∧ (SqL G.K H p ys ∨ SqT G.K H p ys) ∧ Q (.int ys.length) H) fLen := by
  intro Z m μ H xs us Q Q' M r h k
  unfold fLen at h
  split at h
  · rename_i x
    split at h
    · rename_i ds e1
      obtain ⟨v, t, rfl, r1, r2⟩ := r.uncons
      rw [Reps] at r2
      subst r2
      obtain ⟨a, vs, rfl, s, q⟩ := items_rep M r1 e1
      exact ⟨a, vs, rfl, s, k _ _ (.now M (by rw [Rep, q.len]) h)⟩
    · exact h.elim
  · exact h.elim
/-- the cut of a list -/
def cutD (ds : List D) (lo hi : Option Int) : List D := (ds.drop (HT.sIx ds.length 0 lo)).take (HT.sIx ds.length ds.length hi - HT.sIx ds.length 0 lo)
theorem cut_rep {G : Gx} {m : List Addr} {E : Hp} {ds : List D} {vs : List V} {lo hi : Option Int} (r : Reps G m E ds vs) : Reps G m E (cutD ds lo hi) (cutV vs lo hi) := by
  unfold cutD cutV
  rw [← r.len]
  exact (r.drop _).take _
/-- a part of a slice -/
abbrev WO := DS → Mu → (Option Int → Mu → Prop) → XD → Prop
def oNone : WO := fun _ μ Q _ => Q none μ
def intOr (d : D) (Q : Int → Prop) : Prop := match d with
  | .int i => Q i
  | _ => False
theorem intOr_of {d : D} {Q : Int → Prop} (h : intOr d Q) : ∃ i, d = .int i ∧ Q i := by
  cases d <;> first | exact h.elim | exact ⟨_, rfl, h⟩
def oSome (wa : WE) : WO := fun ρ μ Q Xd => wa ρ μ (fun d μ1 => intOr d fun i => Q (some i) μ1) Xd
def OPost (G : Gx) (Z : Addr → Prop) (m : List Addr) (H : Hp) (Q : Option Int → Mu → Prop) (o : Option Int) (H' : Hp) : Prop := ∃ m' μ', Step G Z m H m' μ' H' ∧ Q o μ'
def liftO (G : Gx) (W : WX) (w : WO) : TO := fun σ H Q' => ∃ Z m ρ μ Q Xd, SR G Z m σ H ρ μ ∧ w ρ μ Q Xd ∧ (∀ o H', OPost G (ownW Z σ ρ) m H Q o H' → Q' o H') ∧ ∀ cls d H', XPost G (ownW Z σ ρ) m H Xd cls d H' → W cls d σ H'
abbrev DO (ex : Option (Addr × Addr × Addr)) (W : WX) (X : Cx) (e : Option Expr) (w : WO) : Prop := PO X e (liftO (gx X ex) W w)
theorem po_weak {X : Cx} {e : Option Expr} {t t' : TO} (h : PO X e t) (k : ∀ σ H Q, t' σ H Q → t σ H Q) : PO X e t' := ⟨fun pins s σ H Q I q => h.run pins s σ H Q I (k σ H Q q)⟩
def lstOr (d : D) (Q : List D → Prop) : Prop := match d with
  | .lst ds => Q ds
  | .frl ds => Q ds
  | _ => False
theorem lstOr_of {d : D} {Q : List D → Prop} (h : lstOr d Q) : ∃ ds, (d = .lst ds ∨ d = .frl ds) ∧ Q ds := by
  unfold lstOr at h
  split at h
  · exact ⟨_, .inl rfl, h⟩
  · exact ⟨_, .inr rfl, h⟩
  · exact h.elim
theorem lstOr_rep {G : Gx} {m : List Addr} {E : Hp} {d : D} {u : V} {Q : List D → Prop} (h : lstOr d Q) (r : Rep G m E d u) : ∃ ds a vs, u = .ref a ∧ SqL G.K E a vs ∧ Reps G m E ds vs ∧ Q ds := by
  obtain ⟨ds, e | e, q⟩ := lstOr_of h
  · subst e
    rw [Rep] at r
    obtain ⟨a, vs, e, s, r⟩ := r
    exact ⟨_, a, vs, e, .inl (.inl s), r, q⟩
  · subst e
    rw [Rep] at r
    obtain ⟨a, vs, e, s, r⟩ := r
    exact ⟨_, a, vs, e, s, r, q⟩
theorem SqL.same' {K : PySem.W.Frag} {H H' : Hp} {a : Addr} {xs : List V} (e : Same H H') (h : SqL K H a xs) : SqL K H' a xs := Same.seq e h
def wSl (wa : WE) (lo hi : WO) : WE := fun ρ μ Q Xd => wa ρ μ (fun x μ1 => lo ρ μ1 (fun l μ2 => hi ρ μ2 (fun u μ3 => lstOr x fun ds => Q (.lst (cutD ds l u)) μ3) Xd) Xd) Xd
section
variable {ex : Option (Addr × Addr × Addr)} {W : WX} {X : Cx} {a b c : Expr} {wa wb wc : WE} {wl wh : WO} {lo hi : Option Expr} {pos p2 : Pos}
theorem do_none : DO ex W X none oNone := po_weak po_none fun σ H Q' q => by
  obtain ⟨Z, m, ρ, μ, Q, Xd, S, q, k, kx⟩ := q
  exact k _ _ ⟨m, μ, .refl S.mu, q⟩
theorem do_some (h : DE ex W X a wa) : DO ex W X (some a) (oSome wa) := po_weak (po_some h) fun σ H Q' q => by
  obtain ⟨Z, m, ρ, μ, Q, Xd, S, q, k, kx⟩ := q
  refine ⟨Z, m, ρ, μ, _, Xd, S, q, fun v H1 P => ?_, kx⟩
  obtain ⟨m1, d, μ1, s1, r1, q1⟩ := P
  obtain ⟨i, rfl, q2⟩ := intOr_of q1
  rw [Rep] at r1
  exact ⟨i, r1, k _ _ ⟨m1, μ1, s1, q2⟩⟩
theorem de_slice (ha : DE ex W X a wa) (hl : DO ex W X lo wl) (hh : DO ex W X hi wh) : DE ex W X (.Subscript a (.Slice lo hi none p2) pos) (wSl wa wl wh) := pe_weak (pe_slice sl_list ha hl hh) fun σ H Q' q => by
  refine lift_bind (f := fun x ρ μ1 Q Xd => wl ρ μ1 (fun l μ2 => wh ρ μ2 (fun u μ3 => lstOr x fun ds => Q (.lst (cutD ds l u)) μ3) Xd) Xd) q fun Z m ρ μ Q Xd x v H1 S r1 q1 k kx => ?_
  refine ⟨Z, m, ρ, μ, _, Xd, S, q1, fun l H2 P => ?_, kx⟩
  obtain ⟨m2, μ2, s2, q2⟩ := P
  refine ⟨Z, m2, ρ, μ2, _, Xd, S.step s2, q2, fun u H3 P => ?_, fun cls d H' P => kx cls d H' (XPost.from s2 P)⟩
  obtain ⟨m3, μ3, s3, q3⟩ := P
  obtain ⟨ds, p, vs, e, sq, rs, q4⟩ := lstOr_rep q3 (Rep.mono (s2.trans s3).pre (s2.trans s3).same _ _ r1)
  refine ⟨p, vs, e, SqL.same' vis_le sq, fun np hnp => k _ _ ?_⟩
  have s4 := Step.laid (o := .lst (cutV vs l u)) s3.mu hnp
  refine VPost.from (s2.trans s3) ⟨m3, _, μ3, s4, ?_, q4⟩
  rw [Rep]
  refine ⟨np, _, rfl, ?_, cut_rep (Reps.mono s4.pre s4.same _ _ rs)⟩
  rw [vis_upd s3.mu hnp, upd_same]
theorem de_item (ha : DE ex W X a wa) (hb : DE ex W X b wb) (hs : PlainIx b := by exact fun _ _ => rfl) : DE ex W X (.Subscript a b pos) (w2 fIx wa wb) := de_ix (ix_list.or ix_tup) (s2_ix (G := gx X ex)) ha hb hs
theorem de_eqI (ha : DE ex W X a wa) (hb : DE ex W X b wb) : DE ex W X (.Compare a [.Eq] [b] pos) (w2 fEqI wa wb) := de_cmp op_eq s2_eqI ha hb (nomark _)
theorem de_neI (ha : DE ex W X a wa) (hb : DE ex W X b wb) : DE ex W X (.Compare a [.NotEq] [b] pos) (w2 fNeI wa wb) := de_cmp op_ne s2_neI ha hb (nomark _)
theorem de_lt (ha : DE ex W X a wa) (hb : DE ex W X b wb) : DE ex W X (.Compare a [.Lt] [b] pos) (w2 fLt wa wb) := de_cmp op_lt s2_IB ha hb (nomark _)
theorem de_le (ha : DE ex W X a wa) (hb : DE ex W X b wb) : DE ex W X (.Compare a [.LtE] [b] pos) (w2 fLe wa wb) := de_cmp op_le s2_IB ha hb (nomark _)
theorem de_gt (ha : DE ex W X a wa) (hb : DE ex W X b wb) : DE ex W X (.Compare a [.Gt] [b] pos) (w2 fGt wa wb) := de_cmp op_gt s2_IB ha hb (nomark _)
theorem de_ge (ha : DE ex W X a wa) (hb : DE ex W X b wb) : DE ex W X (.Compare a [.GtE] [b] pos) (w2 fGe wa wb) := de_cmp op_ge s2_IB ha hb (nomark _)
theorem de_isN (ha : DE ex W X a wa) (hb : DE ex W X b wb) : DE ex W X (.Compare a [.Is] [b] pos) (w2 fIsN wa wb) := de_cmp op_isN s2_isN ha hb (nomark _)
theorem de_notN (ha : DE ex W X a wa) (hb : DE ex W X b wb) : DE ex W X (.Compare a [.IsNot] [b] pos) (w2 fNotN wa wb) := de_cmp op_notN s2_notN ha hb (nomark _)
theorem de_eqD (hu : X.A.units + 64 < cLine) (ha : DE ex W X a wa) (hb : DE ex W X b wb) : DE ex W X (.Compare a [.Eq] [b] pos) (w2 fEqD wa wb) := de_cmp (op_eqD hu) (s2_eqD (G := gx X ex)) ha hb (nomark _)
theorem de_neD (hu : X.A.units + 64 < cLine) (ha : DE ex W X a wa) (hb : DE ex W X b wb) : DE ex W X (.Compare a [.NotEq] [b] pos) (w2 fNeD wa wb) := de_cmp (op_neD hu) (s2_neD (G := gx X ex)) ha hb (nomark _)
theorem de_inD (hu : X.A.units + 65 < cLine) (ha : DE ex W X a wa) (hb : DE ex W X b wb) (hm : behindInMarks .In b = false := by rfl) : DE ex W X (.Compare a [.In] [b] pos) (w2 fInD wa wb) := de_cmp (op_inD hu) (s2_inD (G := gx X ex)) ha hb hm
theorem de_notInD (hu : X.A.units + 65 < cLine) (ha : DE ex W X a wa) (hb : DE ex W X b wb) (hm : behindInMarks .NotIn b = false := by rfl) : DE ex W X (.Compare a [.NotIn] [b] pos) (w2 fNotInD wa wb) := de_cmp (op_notInD hu) (s2_notInD (G := gx X ex)) ha hb hm
end
/-! ### lists put together -/
def fCat : F2
  | .lst a, .lst b, μ, Q => a.length + b.length ≤ sizeLine ∧ Q (.lst (a ++ b)) μ
  | _, _, _, _ => False
theorem s2_cat {G : Gx} : S2 G rCat fCat := by
  intro Z m μ H x y u v Q Q' M rx ry h k
  unfold fCat at h
  split at h
  · obtain ⟨hl, h⟩ := h
    rw [Rep] at rx ry
    obtain ⟨p, vs, rfl, sp, rp⟩ := rx
    obtain ⟨q, us, rfl, sq, rq⟩ := ry
    refine ⟨p, q, vs, us, rfl, rfl, vis_le _ _ sp, vis_le _ _ sq, by rw [← rp.len, ← rq.len]; exact hl, fun t nt => k _ _ ?_⟩
    have s4 := Step.laid (o := .lst (vs ++ us)) M nt
    refine ⟨m, _, μ, s4, ?_, h⟩
    rw [Rep]
    refine ⟨t, _, rfl, ?_, Reps.append (Reps.mono s4.pre s4.same _ _ rp) (Reps.mono s4.pre s4.same _ _ rq)⟩
    rw [vis_upd M nt, upd_same]
  · exact h.elim
def fRep : F2
  | .lst a, .int n, μ, Q => -(2 ^ 63) ≤ n ∧ n < 2 ^ 63 ∧ a.length * n.toNat ≤ sizeLine ∧ Q (.lst (List.replicate n.toNat a).flatten) μ
  | _, _, _, _ => False
theorem Reps.reps {G : Gx} {m : List Addr} {E : Hp} {ds : List D} {vs : List V} (r : Reps G m E ds vs) : ∀ n : Nat, Reps G m E (List.replicate n ds).flatten (List.replicate n vs).flatten
  | 0 => Reps.nil
  | n + 1 => by
    rw [List.replicate_succ, List.replicate_succ, List.flatten_cons, List.flatten_cons]
    exact Reps.append r (Reps.reps r n)
theorem fRep_of {x y : D} {μ : Mu} {Q : D → Mu → Prop} (h : fRep x y μ Q) : ∃ a n, x = .lst a ∧ y = .int n ∧ -(2 ^ 63) ≤ n ∧ n < 2 ^ 63 ∧ a.length * n.toNat ≤ sizeLine ∧ Q (.lst (List.replicate n.toNat a).flatten) μ := by
  unfold fRep at h
  split at h
  · exact ⟨_, _, rfl, rfl, h⟩
  · exact h.elim
theorem s2_rep {G : Gx} : S2 G rRep fRep := by
  intro Z m μ H x y u v Q Q' M rx ry h k
  obtain ⟨a, n, rfl, rfl, h1, h2, hl, h⟩ := fRep_of h
  rw [Rep] at rx
  rw [Rep] at ry
  obtain ⟨p, vs, rfl, sp, rp⟩ := rx
  refine ⟨p, n, vs, rfl, ry, vis_le _ _ sp, h1, h2, by rw [← rp.len]; exact hl, fun t nt => k _ _ ?_⟩
  have s4 := Step.laid (o := .lst (List.replicate n.toNat vs).flatten) M nt
  refine ⟨m, _, μ, s4, ?_, h⟩
  rw [Rep]
  refine ⟨t, _, rfl, ?_, Reps.reps (Reps.mono s4.pre s4.same _ _ rp) _⟩
  rw [vis_upd M nt, upd_same]
/-! ### calls of built-ins -/
def fInt1 : FN := fun xs μ Q => match xs with
  | [.int i] => Q (.int i) μ
  | [.bl b] => Q (.int (if b then 1 else 0)) μ
  | _ => False
theorem sn_int1 {G : Gx} : SN G (fun xs H Q => (∃ i, xs = [.int i] ∧ Q (.int i) H) ∨ ∃ k, xs = [.bl k] ∧ Q (.int (if k then 1 else 0)) H) fInt1 := by
  intro Z m μ H xs us Q Q' M r h k
  unfold fInt1 at h
  split at h
  · obtain ⟨v, t, rfl, r1, r2⟩ := r.uncons
    rw [Reps] at r2
    rw [Rep] at r1
    subst r1 r2
    exact .inl ⟨_, rfl, k _ _ (.now M (by rw [Rep]) h)⟩
  · obtain ⟨v, t, rfl, r1, r2⟩ := r.uncons
    rw [Reps] at r2
    rw [Rep] at r1
    subst r1 r2
    exact .inr ⟨_, rfl, k _ _ (.now M (by rw [Rep]) h)⟩
  · exact h.elim
def fMax2 : FN := fun xs μ Q => match xs with
  | [.int i, .int j] => Q (.int (if j > i then j else i)) μ
  | _ => False
def fMin2 : FN := fun xs μ Q => match xs with
  | [.int i, .int j] => Q (.int (if j < i then j else i)) μ
  | _ => False
def fAbs : FN := fun xs μ Q => match xs with
  | [.int i] => Q (.int (if i < 0 then -i else i)) μ
  | _ => False
theorem sn_max2 {G : Gx} : SN G (fun xs H Q => ∃ i j, xs = [.int i, .int j] ∧ Q (.int (if j > i then j else i)) H) fMax2 := by
  intro Z m μ H xs us Q Q' M r h k
  unfold fMax2 at h
  split at h
  · obtain ⟨v, t, rfl, r1, r2⟩ := r.uncons
    obtain ⟨v2, t2, rfl, r3, r4⟩ := r2.uncons
    rw [Reps] at r4
    rw [Rep] at r1 r3
    subst r1 r3 r4
    exact ⟨_, _, rfl, k _ _ (.now M (by rw [Rep]) h)⟩
  · exact h.elim
theorem sn_min2 {G : Gx} : SN G (fun xs H Q => ∃ i j, xs = [.int i, .int j] ∧ Q (.int (if j < i then j else i)) H) fMin2 := by
  intro Z m μ H xs us Q Q' M r h k
  unfold fMin2 at h
  split at h
  · obtain ⟨v, t, rfl, r1, r2⟩ := r.uncons
    obtain ⟨v2, t2, rfl, r3, r4⟩ := r2.uncons
    rw [Reps] at r4
    rw [Rep] at r1 r3
    subst r1 r3 r4
    exact ⟨_, _, rfl, k _ _ (.now M (by rw [Rep]) h)⟩
  · exact h.elim
theorem sn_abs {G : Gx} : SN G (fun xs H Q => ∃ i, xs = [.int i] ∧ Q (.int (if i < 0 then -i else i)) H) fAbs := by
  intro Z m μ H xs us Q Q' M r h k
  unfold fAbs at h
  split at h
  · obtain ⟨v, t, rfl, r1, r2⟩ := r.uncons
    rw [Reps] at r2
    rw [Rep] at r1
    subst r1 r2
    exact ⟨_, rfl, k _ _ (.now M (by rw [Rep]) h)⟩
  · exact h.elim
/-- the ints of a list of ints -/
def intD : D → Option Int
  | .int i => some i
  | _ => none
theorem intD_of {d : D} {i : Int} (h : intD d = some i) : d = .int i := by
  cases d <;> first | (cases h; done) | (cases h; rfl)
def intsD : List D → Option (List Int)
  | [] => some []
  | d :: ds => match intD d, intsD ds with
    | some i, some ns => some (i :: ns)
    | _, _ => none
theorem ints_rep {G : Gx} {m : List Addr} {E : Hp} : ∀ {ds : List D} {vs : List V} {ns : List Int}, Reps G m E ds vs → intsD ds = some ns → vs = ns.map V.int
  | [], vs, ns, r, e => by rw [Reps] at r; rw [intsD] at e; cases e; exact r
  | d :: ds, vs, ns, r, e => by
    obtain ⟨v, t, rfl, r1, r2⟩ := r.uncons
    rw [intsD] at e
    split at e
    · rename_i i ms h1 h2
      cases e
      have e1 := intD_of h1
      subst e1
      rw [Rep] at r1
      subst r1
      rw [ints_rep r2 h2]
      rfl
    · cases e
theorem intsD_map (ns : List Int) : intsD (ns.map D.int) = some ns := by
  induction ns with
  | nil => rfl
  | cons n ns ih => rw [List.map_cons, intsD, ih]; rfl
theorem reps_ints {G : Gx} {m : List Addr} {E : Hp} (ns : List Int) : Reps G m E (ns.map D.int) (ns.map V.int) := Reps.map_of (fun _ => by rw [Rep]) ns
/-- sum, max, min, sorted of a list of ints -/
def fListI (P : List Int → (D → Prop) → Prop) : FN := fun xs μ Q => match xs with
  | [x] => match itemsD x μ with
    | some ds => match intsD ds with
      | some ns => P ns fun d => Q d μ
      | none => False
    | none => False
  | _ => False
theorem fListI_of {P : List Int → (D → Prop) → Prop} {xs : List D} {μ : Mu} {Q : D → Mu → Prop} (h : fListI P xs μ Q) : ∃ x ds ns, xs = [x] ∧ itemsD x μ = some ds ∧ intsD ds = some ns ∧ P ns fun d => Q d μ := by
  unfold fListI at h
  split at h
  · split at h
    · split at h
      · exact ⟨_, _, _, rfl, by assumption, by assumption, h⟩
      · exact h.elim
    · exact h.elim
  · exact h.elim
end DL

set_option Elab.async false
set_option linter.all false
set_option maxRecDepth 100000
set_option maxHeartbeats 4000000
set_option autoImplicit false
namespace DL
open PySem PySem.Spec PyProof.Rows L2 RZ
/-! ### what is walked -/
abbrev WI := DS → Mu → (List D → Mu → Prop) → XD → Prop
/-- an iterator that gives the data ds, as long as what E0 shows stands -/
structure ItOk (G : Gx) (J : It) (m0 : List Addr) (E0 : Hp) (ds : List D) : Prop where
  go : ∀ (i : Nat) H, i < ds.length → Same E0 H → J.go i H
  stop : ∀ H, Same E0 H → J.stop ds.length H
  yld : ∀ (i : Nat) H x H3, i < ds.length → Same E0 H → J.yld i H x H3 → ∃ d, ds[i]? = some d ∧ ((H3 = H ∧ Rep G m0 E0 d x) ∨ ∃ T o, H T = none ∧ H3 = upd H T o ∧ ∀ m E, m0 <+: m → Same E0 E → E T = some o → Rep G m E d x)
def IPost (G : Gx) (Z : Addr → Prop) (m : List Addr) (H : Hp) (Q : List D → Mu → Prop) (J : It) (H' : Hp) : Prop :=
  ∃ m' ds μ', Step G Z m H m' μ' H' ∧ ItOk G J m' (vis Z m' H') ds ∧ Q ds μ'
/-- the same, as long as what is hidden stands, too -/
structure ItOkF (G : Gx) (J : It) (m0 : List Addr) (E0 : Hp) (F : Hp → Prop) (ds : List D) : Prop where
  go : ∀ (i : Nat) H, i < ds.length → Same E0 H → F H → J.go i H
  stop : ∀ H, Same E0 H → F H → J.stop ds.length H
  yld : ∀ (i : Nat) H x H3, i < ds.length → Same E0 H → F H → J.yld i H x H3 → ∃ d, ds[i]? = some d ∧ ((H3 = H ∧ Rep G m0 E0 d x) ∨ ∃ T o, H T = none ∧ H3 = upd H T o ∧ ∀ m E, m0 <+: m → Same E0 E → E T = some o → Rep G m E d x)
theorem ItOk.toF {G : Gx} {J : It} {m0 : List Addr} {E0 : Hp} {F : Hp → Prop} {ds : List D} (h : ItOk G J m0 E0 ds) : ItOkF G J m0 E0 F ds := ⟨fun i H a b _ => h.go i H a b, fun H b _ => h.stop H b, fun i H x H3 a b _ c => h.yld i H x H3 a b c⟩
def IPostF (G : Gx) (Z : Addr → Prop) (m : List Addr) (H : Hp) (Q : List D → Mu → Prop) (J : It) (H' : Hp) : Prop :=
  ∃ m' ds μ' F, Step G Z m H m' μ' H' ∧ (∀ H2, (∀ z, Z z → H2 z = H' z) → F H2) ∧ ItOkF G J m' (vis Z m' H') F ds ∧ Q ds μ'
theorem IPost.toF {G : Gx} {Z : Addr → Prop} {m : List Addr} {H : Hp} {Q : List D → Mu → Prop} {J : It} {H' : Hp} (p : IPost G Z m H Q J H') : IPostF G Z m H Q J H' := by
  obtain ⟨m', ds, μ', s, ok, q⟩ := p
  exact ⟨m', ds, μ', fun _ => True, s, fun _ _ => trivial, ok.toF, q⟩
def liftIF (G : Gx) (W : WX) (w : WI) : TI := fun σ H R => ∃ Z m ρ μ Q Xd, SR G Z m σ H ρ μ ∧ w ρ μ Q Xd ∧ (∀ J H', IPostF G (ownW Z σ ρ) m H Q J H' → R J H') ∧ ∀ cls d H', XPost G (ownW Z σ ρ) m H Xd cls d H' → W cls d σ H'
def liftI (G : Gx) (W : WX) (w : WI) : TI := fun σ H R => ∃ Z m ρ μ Q Xd, SR G Z m σ H ρ μ ∧ w ρ μ Q Xd ∧ (∀ J H', IPost G (ownW Z σ ρ) m H Q J H' → R J H') ∧ ∀ cls d H', XPost G (ownW Z σ ρ) m H Xd cls d H' → W cls d σ H'
abbrev DI (ex : Option (Addr × Addr × Addr)) (W : WX) (X : Cx) (tg e : Expr) (w : WI) : Prop := PI X tg e (liftI (gx X ex) W w)
theorem pi_weak {X : Cx} {tg e : Expr} {t t' : TI} (h : PI X tg e t) (k : ∀ σ H Q, t' σ H Q → t σ H Q) : PI X tg e t' := ⟨fun pins s σ H Q I q => h.run pins s σ H Q I (k σ H Q q)⟩
abbrev DIF (ex : Option (Addr × Addr × Addr)) (W : WX) (X : Cx) (tg e : Expr) (w : WI) : Prop := PI X tg e (liftIF (gx X ex) W w)
theorem DI.toF {ex : Option (Addr × Addr × Addr)} {W : WX} {X : Cx} {tg e : Expr} {w : WI} (h : DI ex W X tg e w) : DIF ex W X tg e w := pi_weak h fun σ H R q => by
  obtain ⟨Z, m, ρ, μ, Q, Xd, S, q, k, kx⟩ := q
  exact ⟨Z, m, ρ, μ, Q, Xd, S, q, fun J H' P => k J H' P.toF, kx⟩
def tupOr (d : D) (Q : List D → Prop) : Prop := match d with
  | .tup ds => Q ds
  | _ => False
theorem tupOr_of {d : D} {Q : List D → Prop} (h : tupOr d Q) : ∃ ds, d = .tup ds ∧ Q ds := by
  unfold tupOr at h
  split at h
  · exact ⟨_, rfl, h⟩
  · exact h.elim
def wiL (wa : WE) : WI := fun ρ μ Q Xd => wa ρ μ (fun d μ1 => lstOr d fun ds => Q ds μ1) Xd
def wiT (wa : WE) : WI := fun ρ μ Q Xd => wa ρ μ (fun d μ1 => tupOr d fun ds => Q ds μ1) Xd
/-- lo, lo + 1, .. -/
def rangeD (lo : Int) (n : Nat) : List D := (List.range n).map fun (k : Nat) => D.int (lo + (k : Int))
def rg1 (ds : List D) (Q : List D → Prop) : Prop := match ds with
  | [.int j] => -(2 ^ 62) ≤ j ∧ j < 2 ^ 62 ∧ Q (rangeD 0 j.toNat)
  | _ => False
def rg2 (ds : List D) (Q : List D → Prop) : Prop := match ds with
  | [.int i, .int j] => (-(2 ^ 62) ≤ i ∧ i < 2 ^ 62 ∧ -(2 ^ 62) ≤ j ∧ j < 2 ^ 62) ∧ Q (rangeD i (j - i).toNat)
  | _ => False
theorem rg1_of {ds : List D} {Q : List D → Prop} (h : rg1 ds Q) : ∃ j : Int, ds = [.int j] ∧ -(2 ^ 62) ≤ j ∧ j < 2 ^ 62 ∧ Q (rangeD 0 j.toNat) := by
  unfold rg1 at h
  split at h
  · exact ⟨_, rfl, h⟩
  · exact h.elim
theorem rg2_of {ds : List D} {Q : List D → Prop} (h : rg2 ds Q) : ∃ i j : Int, ds = [.int i, .int j] ∧ (-(2 ^ 62) ≤ i ∧ i < 2 ^ 62 ∧ -(2 ^ 62) ≤ j ∧ j < 2 ^ 62) ∧ Q (rangeD i (j - i).toNat) := by
  unfold rg2 at h
  split at h
  · exact ⟨_, _, rfl, h⟩
  · exact h.elim
def wiR1 (wa : WA) : WI := fun ρ μ Q Xd => wa ρ μ (fun ds μ1 => rg1 ds fun es => Q es μ1) Xd
def wiR2 (wa : WA) : WI := fun ρ μ Q Xd => wa ρ μ (fun ds μ1 => rg2 ds fun es => Q es μ1) Xd
/-- enumerate, zip -/
def enumD (ds : List D) : List D := ds.mapIdx fun i d => D.tup [.int (i : Nat), d]
def zipD (a b : List D) : List D := (a.zip b).map fun p => D.tup [p.1, p.2]
def lst1 (ds : List D) (Q : List D → Prop) : Prop := match ds with
  | [d] => lstOr d Q
  | _ => False
theorem lst1_of {ds : List D} {Q : List D → Prop} (h : lst1 ds Q) : ∃ d, ds = [d] ∧ lstOr d Q := by
  unfold lst1 at h
  split at h
  · exact ⟨_, rfl, h⟩
  · exact h.elim
def wiEnum (wa : WA) : WI := fun ρ μ Q Xd => wa ρ μ (fun ds μ1 => lst1 ds fun es => Q (enumD es) μ1) Xd
def zip2 (ds : List D) (Q : List D → Prop) : Prop := match ds with
  | [a, b] => match a, b with
    | .tup xs, .tup ys => Q (zipD xs ys)
    | .lst xs, .lst ys => Q (zipD xs ys)
    | .frl xs, .lst ys => Q (zipD xs ys)
    | .lst xs, .frl ys => Q (zipD xs ys)
    | _, _ => False
  | _ => False
def wiZip (wa : WA) : WI := fun ρ μ Q Xd => wa ρ μ (fun ds μ1 => zip2 ds fun es => Q es μ1) Xd
theorem itok_list {G : Gx} {m : List Addr} {E : Hp} {a : Addr} {vs : List V} {ds : List D} (s : SqL G.K E a vs) (r : Reps G m E ds vs) : ItOk G (Itl G.K a) m E ds := by
  refine ⟨fun i H hi hs => ?_, fun H hs => ⟨vs, Same.seq hs s, by rw [r.len]; exact Nat.le_refl _⟩, fun i H x H3 hi hs y => ?_⟩
  · obtain ⟨v, e, _⟩ := r.get (List.getElem?_eq_getElem hi)
    exact ⟨vs, v, Same.seq hs s, e⟩
  · obtain ⟨e, y⟩ := y
    obtain ⟨d, ed, rd⟩ := r.get' (y vs (Same.seq hs s))
    exact ⟨d, ed, .inl ⟨e, rd⟩⟩
theorem itok_tup {G : Gx} {m : List Addr} {E : Hp} {a : Addr} {vs : List V} {ds : List D} (s : SqT G.K E a vs) (r : Reps G m E ds vs) : ItOk G (Itt G.K a) m E ds := by
  refine ⟨fun i H hi hs => ?_, fun H hs => ⟨vs, SqT.same hs s, by rw [r.len]; exact Nat.le_refl _⟩, fun i H x H3 hi hs y => ?_⟩
  · obtain ⟨v, e, _⟩ := r.get (List.getElem?_eq_getElem hi)
    exact ⟨vs, v, SqT.same hs s, e⟩
  · obtain ⟨e, y⟩ := y
    obtain ⟨d, ed, rd⟩ := r.get' (y vs (SqT.same hs s))
    exact ⟨d, ed, .inl ⟨e, rd⟩⟩
theorem itok_range {G : Gx} {m : List Addr} {E : Hp} {lo : Int} {n : Nat} : ItOk G (Itr lo n) m E (rangeD lo n) := by
  have hl : (rangeD lo n).length = n := by simp [rangeD]
  refine ⟨fun i H hi hs => ?_, fun H hs => ?_, fun i H x H3 hi hs y => ?_⟩
  · rw [hl] at hi; exact hi
  · rw [hl]; exact Nat.le_refl _
  · rw [hl] at hi
    obtain ⟨e, ex⟩ := y
    refine ⟨.int (lo + i), ?_, .inl ⟨e, by rw [Rep]; exact ex⟩⟩
    simp [rangeD, hi]
theorem itok_enum {G : Gx} {m : List Addr} {E : Hp} {a : Addr} {vs : List V} {ds : List D} (s : SqL G.K E a vs) (r : Reps G m E ds vs) : ItOk G (Ite G.K a) m E (enumD ds) := by
  have hl : (enumD ds).length = ds.length := by simp [enumD]
  refine ⟨fun i H hi hs => ?_, fun H hs => ⟨vs, Same.seq hs s, by rw [hl, r.len]; exact Nat.le_refl _⟩, fun i H x H3 hi hs y => ?_⟩
  · rw [hl] at hi
    obtain ⟨v, e, _⟩ := r.get (List.getElem?_eq_getElem hi)
    exact ⟨vs, v, Same.seq hs s, e⟩
  · obtain ⟨T, x', e, nT, eH, y⟩ := y
    obtain ⟨d, ed, rd⟩ := r.get' (y vs (Same.seq hs s))
    refine ⟨.tup [.int (i : Nat), d], ?_, .inr ⟨T, _, nT, eH, fun m' E' hp hE eT => ?_⟩⟩
    · simp only [enumD, List.getElem?_mapIdx, ed, Option.map_some]
    · rw [Rep]
      exact ⟨T, _, e, .inl (.inl eT), Reps.cons (by rw [Rep]) (Reps.cons (Rep.mono hp hE _ _ rd) Reps.nil)⟩
theorem zipD_get {a b : List D} {i : Nat} {x y : D} (hx : a[i]? = some x) (hy : b[i]? = some y) : (zipD a b)[i]? = some (.tup [x, y]) := by
  unfold zipD
  rw [List.getElem?_map, List.getElem?_zip_eq_some (z := (x, y)) |>.mpr ⟨hx, hy⟩]
  rfl
theorem zipD_len (a b : List D) : (zipD a b).length = min a.length b.length := by simp [zipD]
theorem itok_zipL {G : Gx} {m : List Addr} {E : Hp} {a b : Addr} {vs us : List V} {ds es : List D} (s : SqL G.K E a vs) (r : Reps G m E ds vs) (s' : SqL G.K E b us) (r' : Reps G m E es us) : ItOk G (Itz G.K a b) m E (zipD ds es) := by
  have l1 := r.len
  have l2 := r'.len
  refine ⟨fun i H hi hs => ?_, fun H hs => ⟨vs, us, Same.seq hs s, Same.seq hs s', by rw [zipD_len]; omega⟩, fun i H x H3 hi hs y => ?_⟩
  · rw [zipD_len] at hi
    obtain ⟨v, e, _⟩ := r.get (List.getElem?_eq_getElem (show i < ds.length by omega))
    obtain ⟨u, e', _⟩ := r'.get (List.getElem?_eq_getElem (show i < es.length by omega))
    exact ⟨vs, us, v, u, Same.seq hs s, Same.seq hs s', e, e'⟩
  · obtain ⟨T, x', y', e, nT, eH, y1, y2⟩ := y
    obtain ⟨d, ed, rd⟩ := r.get' (y1 vs (Same.seq hs s))
    obtain ⟨d', ed', rd'⟩ := r'.get' (y2 us (Same.seq hs s'))
    refine ⟨.tup [d, d'], zipD_get ed ed', .inr ⟨T, _, nT, eH, fun m' E' hp hE eT => ?_⟩⟩
    rw [Rep]
    exact ⟨T, _, e, .inl (.inl eT), Reps.cons (Rep.mono hp hE _ _ rd) (Reps.cons (Rep.mono hp hE _ _ rd') Reps.nil)⟩
theorem itok_zipT {G : Gx} {m : List Addr} {E : Hp} {a b : Addr} {vs us : List V} {ds es : List D} (s : SqT G.K E a vs) (r : Reps G m E ds vs) (s' : SqT G.K E b us) (r' : Reps G m E es us) : ItOk G (ItzT G.K a b) m E (zipD ds es) := by
  have l1 := r.len
  have l2 := r'.len
  refine ⟨fun i H hi hs => ?_, fun H hs => ⟨vs, us, SqT.same hs s, SqT.same hs s', by rw [zipD_len]; omega⟩, fun i H x H3 hi hs y => ?_⟩
  · rw [zipD_len] at hi
    obtain ⟨v, e, _⟩ := r.get (List.getElem?_eq_getElem (show i < ds.length by omega))
    obtain ⟨u, e', _⟩ := r'.get (List.getElem?_eq_getElem (show i < es.length by omega))
    exact ⟨vs, us, v, u, SqT.same hs s, SqT.same hs s', e, e'⟩
  · obtain ⟨T, x', y', e, nT, eH, y1, y2⟩ := y
    obtain ⟨d, ed, rd⟩ := r.get' (y1 vs (SqT.same hs s))
    obtain ⟨d', ed', rd'⟩ := r'.get' (y2 us (SqT.same hs s'))
    refine ⟨.tup [d, d'], zipD_get ed ed', .inr ⟨T, _, nT, eH, fun m' E' hp hE eT => ?_⟩⟩
    rw [Rep]
    exact ⟨T, _, e, .inl (.inl eT), Reps.cons (Rep.mono hp hE _ _ rd) (Reps.cons (Rep.mono hp hE _ _ rd') Reps.nil)⟩
section
variable {ex : Option (Addr × Addr × Addr)} {W : WX} {X : Cx} {tg e : Expr} {wa : WE} {ws : WA} {p pos : Pos}
theorem di_list (h : DE ex W X e wa) : DI ex W X tg e (wiL wa) := pi_weak (pi_list h) fun σ H R q => by
  obtain ⟨Z, m, ρ, μ, Q, Xd, S, q, k, kx⟩ := q
  refine ⟨Z, m, ρ, μ, _, Xd, S, q, fun v H1 P => ?_, kx⟩
  obtain ⟨m1, d, μ1, s1, r1, q1⟩ := P
  obtain ⟨ds, a, vs, e, sq, rs, q2⟩ := lstOr_rep q1 r1
  exact ⟨a, e, ⟨vs, Same.seq vis_le sq⟩, k _ _ ⟨m1, ds, μ1, s1, itok_list (G := gx X ex) sq rs, q2⟩⟩
theorem di_tup (h : DE ex W X e wa) : DI ex W X tg e (wiT wa) := pi_weak (pi_tup h) fun σ H R q => by
  obtain ⟨Z, m, ρ, μ, Q, Xd, S, q, k, kx⟩ := q
  refine ⟨Z, m, ρ, μ, _, Xd, S, q, fun v H1 P => ?_, kx⟩
  obtain ⟨m1, d, μ1, s1, r1, q1⟩ := P
  obtain ⟨ds, rfl, q2⟩ := tupOr_of q1
  rw [Rep] at r1
  obtain ⟨a, vs, e, sq, rs⟩ := r1
  exact ⟨a, e, ⟨vs, SqT.same vis_le sq⟩, k _ _ ⟨m1, ds, μ1, s1, itok_tup (G := gx X ex) sq rs, q2⟩⟩
theorem di_range1 (hg : Gl X "range") (hm : X.mg "range" = none) (ha : DA ex W X [e] ws) (hs : starEach [e] X.env = [(false, eval e X.env)] := by rfl) : DI ex W X tg (.Call (.Name "range" p) [e] [] pos) (wiR1 ws) := pi_weak (pi_range1 hg hm ha hs) fun σ H R q => by
  obtain ⟨Z, m, ρ, μ, Q, Xd, S, q, k, kx⟩ := q
  refine ⟨Z, m, ρ, μ, _, Xd, S, q, fun vs H1 P => ?_, kx⟩
  obtain ⟨m1, ds, μ1, s1, r1, q1⟩ := P
  obtain ⟨j, rfl, h1, h2, q2⟩ := rg1_of q1
  obtain ⟨v, t, rfl, r2, r3⟩ := r1.uncons
  rw [Reps] at r3
  rw [Rep] at r2
  subst r2 r3
  exact ⟨j, rfl, h1, h2, k _ _ ⟨m1, _, μ1, s1, itok_range, q2⟩⟩
theorem di_range2 {e2 : Expr} (hg : Gl X "range") (hm : X.mg "range" = none) (ha : DA ex W X [e, e2] ws) (hs : starEach [e, e2] X.env = [(false, eval e X.env), (false, eval e2 X.env)] := by rfl) (hs2 : starEach [e2] X.env = [(false, eval e2 X.env)] := by rfl) :
    DI ex W X tg (.Call (.Name "range" p) [e, e2] [] pos) (wiR2 ws) := pi_weak (pi_range2 hg hm ha hs hs2) fun σ H R q => by
  obtain ⟨Z, m, ρ, μ, Q, Xd, S, q, k, kx⟩ := q
  refine ⟨Z, m, ρ, μ, _, Xd, S, q, fun vs H1 P => ?_, kx⟩
  obtain ⟨m1, ds, μ1, s1, r1, q1⟩ := P
  obtain ⟨i, j, rfl, h1, q2⟩ := rg2_of q1
  obtain ⟨v, t, rfl, r2, r3⟩ := r1.uncons
  obtain ⟨v', t', rfl, r4, r5⟩ := r3.uncons
  rw [Reps] at r5
  rw [Rep] at r2
  rw [Rep] at r4
  subst r2 r4 r5
  exact ⟨i, j, rfl, h1, k _ _ ⟨m1, _, μ1, s1, itok_range, q2⟩⟩
theorem di_enum {elts : List Expr} {kk : Nat} {tpos : Pos} (hg : Gl X "enumerate") (hm : X.mg "enumerate" = none) (ha : DA ex W X [e] ws) (hs : starEach [e] X.env = [(false, eval e X.env)] := by rfl) :
    DI ex W X (.Tuple elts kk tpos) (.Call (.Name "enumerate" p) [e] [] pos) (wiEnum ws) := pi_weak (pi_enum hg hm ha hs) fun σ H R q => by
  obtain ⟨Z, m, ρ, μ, Q, Xd, S, q, k, kx⟩ := q
  refine ⟨Z, m, ρ, μ, _, Xd, S, q, fun vs H1 P => ?_, kx⟩
  obtain ⟨m1, ds, μ1, s1, r1, q1⟩ := P
  obtain ⟨d, rfl, q2⟩ := lst1_of q1
  obtain ⟨v, t, rfl, r2, r3⟩ := r1.uncons
  rw [Reps] at r3
  subst r3
  obtain ⟨es, a, vs, rfl, sq, rs, q3⟩ := lstOr_rep q2 r2
  exact ⟨a, vs, rfl, Same.seq vis_le sq, k _ _ ⟨m1, _, μ1, s1, itok_enum (G := gx X ex) sq rs, q3⟩⟩
theorem zip2_of {ds : List D} {Q : List D → Prop} (h : zip2 ds Q) : ∃ a b xs ys, ds = [a, b] ∧ ((a = .tup xs ∧ b = .tup ys) ∨ ((a = .lst xs ∨ a = .frl xs) ∧ (b = .lst ys ∨ b = .frl ys))) ∧ Q (zipD xs ys) := by
  unfold zip2 at h
  split at h
  · split at h
    · exact ⟨_, _, _, _, rfl, .inl ⟨rfl, rfl⟩, h⟩
    · exact ⟨_, _, _, _, rfl, .inr ⟨.inl rfl, .inl rfl⟩, h⟩
    · exact ⟨_, _, _, _, rfl, .inr ⟨.inr rfl, .inl rfl⟩, h⟩
    · exact ⟨_, _, _, _, rfl, .inr ⟨.inl rfl, .inr rfl⟩, h⟩
    · exact h.elim
  · exact h.elim
theorem lst_rep' {G : Gx} {m : List Addr} {E : Hp} {d : D} {ds : List D} {u : V} (h : d = .lst ds ∨ d = .frl ds) (r : Rep G m E d u) : ∃ a vs, u = .ref a ∧ SqL G.K E a vs ∧ Reps G m E ds vs := by
  obtain ⟨es, a, vs, h1, h2, h3, h4⟩ := lstOr_rep (Q := fun es => es = ds) (by rcases h with e | e <;> (subst e; rfl)) r
  exact ⟨a, vs, h1, h2, h4 ▸ h3⟩
theorem di_zip {e2 : Expr} {elts : List Expr} {kk : Nat} {tpos : Pos} (hg : Gl X "zip") (hm : X.mg "zip" = none) (ha : DA ex W X [e, e2] ws)
    (hs : starEach [e, e2] X.env = (false, eval e X.env) :: starEach [e2] X.env := by rfl) (hpl : (backTo pos (starEach [e2] X.env)).any (·.1) = false := by rfl) :
    DI ex W X (.Tuple elts kk tpos) (.Call (.Name "zip" p) [e, e2] [] pos) (wiZip ws) := pi_weak (pi_zipA hg hm ha hs hpl) fun σ H R q => by
  obtain ⟨Z, m, ρ, μ, Q, Xd, S, q, k, kx⟩ := q
  refine ⟨Z, m, ρ, μ, _, Xd, S, q, fun vs H1 P => ?_, kx⟩
  obtain ⟨m1, ds, μ1, s1, r1, q1⟩ := P
  obtain ⟨a, b, xs, ys, rfl, h, q2⟩ := zip2_of q1
  obtain ⟨v, t, rfl, r2, r3⟩ := r1.uncons
  obtain ⟨v', t', rfl, r4, r5⟩ := r3.uncons
  rw [Reps] at r5
  subst r5
  rcases h with ⟨rfl, rfl⟩ | ⟨ha, hb⟩
  · rw [Rep] at r2
    rw [Rep] at r4
    obtain ⟨pa, va, rfl, sa, ra⟩ := r2
    obtain ⟨pb, vb, rfl, sb, rb⟩ := r4
    exact ⟨pa, pb, va, vb, rfl, .inr ⟨SqT.same vis_le sa, SqT.same vis_le sb, k _ _ ⟨m1, _, μ1, s1, itok_zipT (G := gx X ex) sa ra sb rb, q2⟩⟩⟩
  · obtain ⟨pa, va, rfl, sa, ra⟩ := lst_rep' ha r2
    obtain ⟨pb, vb, rfl, sb, rb⟩ := lst_rep' hb r4
    exact ⟨pa, pb, va, vb, rfl, .inl ⟨Same.seq vis_le sa, Same.seq vis_le sb, k _ _ ⟨m1, _, μ1, s1, itok_zipL (G := gx X ex) sa ra sb rb, q2⟩⟩⟩
end
/-! ### a list of the def's own, walked while it stands -/
def ownL (o : Option Sl) (k : List D → Prop) : Prop := match o with
  | some (.own _ (.lst ds)) => k ds
  | _ => False
theorem ownL_of {o : Option Sl} {k : List D → Prop} (h : ownL o k) : ∃ p ds, o = some (.own p (.lst ds)) ∧ k ds := by
  unfold ownL at h
  split at h
  · exact ⟨_, _, rfl, h⟩
  · exact h.elim
def wiOwn (i : Nat) : WI := fun ρ μ Q _ => ownL (ρ[i]?) fun ds => Q ds μ
theorem itokF_own {G : Gx} {m : List Addr} {E : Hp} {a : Addr} {vs : List V} {ds : List D} (r : Reps G m E ds vs) : ItOkF G (Itl G.K a) m E (fun H => H a = some (.lst vs)) ds := by
  refine ⟨fun i H hi hs hf => ?_, fun H hs hf => ⟨vs, .inl (.inl hf), by rw [r.len]; exact Nat.le_refl _⟩, fun i H x H3 hi hs hf y => ?_⟩
  · obtain ⟨v, e, _⟩ := r.get (List.getElem?_eq_getElem hi)
    exact ⟨vs, v, .inl (.inl hf), e⟩
  · obtain ⟨e, y⟩ := y
    obtain ⟨d, ed, rd⟩ := r.get' (y vs (.inl (.inl hf)))
    exact ⟨d, ed, .inl ⟨e, rd⟩⟩
/-! ### for -/
def forL (g : WG) (b : WS) (E : DEnds) : List D → DS → Mu → Prop
  | [], ρ, μ => E.nx ρ μ
  | d :: ds, ρ, μ => g d ρ μ fun ρ1 μ1 => b { E with nx := forL g b E ds, ct := forL g b E ds, bk := E.nx } ρ1 μ1
def sFor (wi : WI) (g : WG) (b : WS) : WS := fun E ρ μ => wi ρ μ (fun ds μ1 => forL g b E ds ρ μ1) fun c ks es μ' => E.xc c ks es ρ μ'
theorem SR.laid {G : Gx} {Z : Addr → Prop} {m : List Addr} {σ : L2.St} {H : Hp} {ρ : DS} {μ : Mu} (S : SR G Z m σ H ρ μ) {p : Addr} {o : HO} (np : H p = none) : SR G Z m σ (upd H p o) ρ μ ∧ SStep G Z m σ ρ H m σ ρ (upd H p o) :=
  ⟨S.step (Step.laid S.mu np), SStep.of (μ' := μ) (Step.laid S.mu np)⟩
theorem forL_cons {g : WG} {b : WS} {E : DEnds} {ds : List D} {i : Nat} {d : D} {ρ : DS} {μ : Mu} (hd : ds[i]? = some d) (h : forL g b E (ds.drop i) ρ μ) :
    g d ρ μ fun ρ1 μ1 => b { E with nx := forL g b E (ds.drop (i + 1)), ct := forL g b E (ds.drop (i + 1)), bk := E.nx } ρ1 μ1 := by
  obtain ⟨hi, e⟩ := List.getElem?_eq_some_iff.mp hd
  rw [List.drop_eq_getElem_cons hi, forL, e] at h
  exact h
section
variable {ex : Option (Addr × Addr × Addr)} {W : WX} {X : Cx} {tg iter : Expr} {body : List Stmt} {wi : WI} {g : WG} {b : WS} {pos : Pos}
theorem ds_for (hp : PassesOwn (model X.prog X.w) X.A X.env X.xe) (hc : X.calm = true) (hi : DI ex W X tg iter wi) (hg : DG ex X tg g) (hb : DSs ex W X body b) (hs : ∀ x, foldedSetIterable iter X.env x = pure x := by intro _; rfl) :
    DSt ex W X (.For tg iter body [] pos) (sFor wi g b) := ps_weak (ps_for hp hc hi hg hb hs) fun De σ H q => by
  obtain ⟨Z, m, ρ, μ, E, S, q, kn, kr, kb, kc, kx⟩ := q
  refine ⟨Z, m, ρ, μ, _, _, S, q, fun J H1 P => ?_, fun cls d H' P => kx cls d σ H' (XSPost.of S P)⟩
  obtain ⟨m1, ds, μ1, s1, ok, q1⟩ := P
  have t1 : SStep (gx X ex) Z m σ ρ H m1 σ ρ H1 := SStep.of s1
  refine ⟨fun i n σ' H' => n = ds.length - i ∧ i ≤ ds.length ∧ ∃ m' ρ' μ', SR (gx X ex) Z m' σ' H' ρ' μ' ∧ SStep (gx X ex) Z m1 σ ρ H1 m' σ' ρ' H' ∧ forL g b E (ds.drop i) ρ' μ', ⟨_, rfl, Nat.zero_le _, m1, ρ, μ1, S.step s1, .refl, q1⟩, ?_⟩
  rintro i n σ' H' ⟨rfl, hle, m', ρ', μ', S', s', q'⟩
  have vis' : Same (vis (ownW Z σ ρ) m1 H1) H' := s'.same.trans vis_le
  by_cases hlt : i < ds.length
  · refine .inr ⟨ok.go i H' hlt vis', fun σ2 H2 => ∃ m2 ρ2 μ2, SR (gx X ex) Z m2 σ2 H2 ρ2 μ2 ∧ SStep (gx X ex) Z m1 σ ρ H1 m2 σ2 ρ2 H2 ∧ forL g b E (ds.drop (i + 1)) ρ2 μ2,
      fun σ2 H2 ⟨m2, ρ2, μ2, S2, s2, q2⟩ => ⟨_, (by omega : ds.length - (i + 1) < ds.length - i), rfl, hlt, m2, ρ2, μ2, S2, s2, q2⟩, fun x H3 y => ?_⟩
    obtain ⟨d, ed, hy⟩ := ok.yld i H' x H3 hlt vis' y
    have q2 := forL_cons ed q'
    have : ∃ S3 : SR (gx X ex) Z m' σ' H3 ρ' μ', SStep (gx X ex) Z m1 σ ρ H1 m' σ' ρ' H3 ∧ Rep (gx X ex) m' (vis (ownW Z σ' ρ') m' H3) d x := by
      rcases hy with ⟨rfl, rd⟩ | ⟨T, o, nT, rfl, rd⟩
      · exact ⟨S', s', Rep.mono s'.pre s'.same _ _ rd⟩
      · obtain ⟨S3, s3⟩ := S'.laid (o := o) nT
        exact ⟨S3, s'.trans s3, rd _ _ s'.pre (s'.trans s3).same (by rw [vis_upd S'.mu nT, upd_same])⟩
    obtain ⟨S3, s3, rd⟩ := this
    refine ⟨Z, m', ρ', μ', d, _, S3, rd, q2, fun σ4 H4 P => ?_⟩
    obtain ⟨m4, ρ4, μ4, S4, s4, q4⟩ := P
    have t4 := s3.trans s4
    refine ⟨Z, m4, ρ4, μ4, _, S4, q4, fun σ5 H5 P => ?_, fun v H5 P => kr v H5 (RPost.from (t1.trans t4) P), fun σ5 H5 P => kn σ5 H5 (SPost.from (t1.trans t4) P), fun σ5 H5 P => ?_, fun cls d σ5 H5 P => kx cls d σ5 H5 (XSPost.from (t1.trans t4) P)⟩
    · obtain ⟨m5, ρ5, μ5, S5, s5, q5⟩ := P
      exact ⟨m5, ρ5, μ5, S5, t4.trans s5, q5⟩
    · obtain ⟨m5, ρ5, μ5, S5, s5, q5⟩ := P
      exact ⟨m5, ρ5, μ5, S5, t4.trans s5, q5⟩
  · have e : i = ds.length := by omega
    subst e
    refine .inl ⟨ok.stop H' vis', kn σ' H' ⟨m', ρ', μ', S', t1.trans s', ?_⟩⟩
    rw [List.drop_length, forL] at q'
    exact q'
/-! ### while -/
def whileL (c : WT) (b : WS) (E : DEnds) : Nat → DS → Mu → Prop
  | 0, _, _ => False
  | n + 1, ρ, μ => c ρ μ (fun k μ1 => if k = true then b { E with nx := whileL c b E n, ct := whileL c b E n, bk := E.nx } ρ μ1 else E.nx ρ μ1) fun c ks es μ' => E.xc c ks es ρ μ'
def sWhile (c : WT) (b : WS) : WS := fun E ρ μ => ∃ n, whileL c b E n ρ μ
theorem ds_while {c : Expr} {t : WT} (hp : PassesOwn (model X.prog X.w) X.A X.env X.xe) (hc : DT ex W X c t) (hb : DSs ex W X body b) : DSt ex W X (.While c body [] pos) (sWhile t b) := ps_weak (ps_while hp hc hb) fun De σ H q => by
  obtain ⟨Z, m, ρ, μ, E, S, ⟨n, q⟩, kn, kr, kb, kc, kx⟩ := q
  refine ⟨fun n σ' H' => ∃ m' ρ' μ', SR (gx X ex) Z m' σ' H' ρ' μ' ∧ SStep (gx X ex) Z m σ ρ H m' σ' ρ' H' ∧ whileL t b E n ρ' μ', ⟨n, m, ρ, μ, S, .refl, q⟩, ?_⟩
  rintro n σ' H' ⟨m', ρ', μ', S', s', q'⟩
  cases n with
  | zero => exact q'.elim
  | succ n =>
    refine ⟨Z, m', ρ', μ', _, _, S', q', fun k H1 P => ?_, fun cls d H1 P => kx cls d σ' H1 (XSPost.from s' (XSPost.of S' P))⟩
    obtain ⟨m1, μ1, s1, q1⟩ := P
    have t1 := s'.trans (SStep.of s1)
    cases k with
    | true =>
      rw [if_pos rfl] at q1 ⊢
      refine ⟨fun σ2 H2 => ∃ m2 ρ2 μ2, SR (gx X ex) Z m2 σ2 H2 ρ2 μ2 ∧ SStep (gx X ex) Z m σ ρ H m2 σ2 ρ2 H2 ∧ whileL t b E n ρ2 μ2, fun σ2 H2 h2 => ⟨n, Nat.lt_succ_self _, h2⟩, ?_⟩
      refine ⟨Z, m1, ρ', μ1, _, S'.step s1, q1, fun σ5 H5 P => ?_, fun v H5 P => kr v H5 (RPost.from t1 P), fun σ5 H5 P => kn σ5 H5 (SPost.from t1 P), fun σ5 H5 P => ?_, fun cls d σ5 H5 P => kx cls d σ5 H5 (XSPost.from t1 P)⟩
      · obtain ⟨m5, ρ5, μ5, S5, s5, q5⟩ := P
        exact ⟨m5, ρ5, μ5, S5, t1.trans s5, q5⟩
      · obtain ⟨m5, ρ5, μ5, S5, s5, q5⟩ := P
        exact ⟨m5, ρ5, μ5, S5, t1.trans s5, q5⟩
    | false =>
      rw [if_neg Bool.false_ne_true] at q1 ⊢
      exact kn σ' H1 ⟨m1, ρ', μ1, S'.step s1, t1, q1⟩
end
end DL

set_option Elab.async false
set_option linter.all false
set_option maxRecDepth 100000
set_option maxHeartbeats 4000000
set_option autoImplicit false
namespace DL
open PySem PySem.Spec PyProof.Rows L2
/-! ### comprehensions -/
def wipeD (ρ : DS) : List Nat → DS
  | [] => ρ
  | v :: vs => (wipeD ρ vs).set v .no
theorem wipeD_len (ρ : DS) : ∀ vs, (wipeD ρ vs).length = ρ.length
  | [] => rfl
  | v :: vs => by rw [wipeD, List.length_set, wipeD_len]
theorem wipeD_get {ρ : DS} {i : Nat} {x : Sl} (hx : x ≠ .no) : ∀ {vs : List Nat}, (wipeD ρ vs)[i]? = some x → ρ[i]? = some x ∧ i ∉ vs
  | [], h => ⟨h, by simp⟩
  | v :: vs, h => by
    rw [wipeD] at h
    by_cases hv : v = i
    · subst hv
      rw [List.getElem?_set] at h
      simp at h
      exact absurd h.2.symm hx
    · rw [List.getElem?_set_ne hv] at h
      obtain ⟨h1, h2⟩ := wipeD_get hx h
      exact ⟨h1, by simp [h2, Ne.symm hv]⟩
theorem wipe_get {σ : L2.St} {i : Nat} : ∀ {vs : List Nat}, i ∉ vs → (wipe σ vs)[i]? = σ[i]?
  | [], _ => rfl
  | v :: vs, h => by
    rw [wipe, List.getElem?_set_ne (fun e => h (by simp [e]))]
    exact wipe_get fun q => h (by simp [q])
/-- no slot at vs is a list that is being filled -/
def noOwn (ρ : DS) (vs : List Nat) : Prop := ∀ v ∈ vs, ∀ a ds, ρ[v]? ≠ some (.own a ds)
theorem own_wipe {Z : Addr → Prop} {σ : L2.St} {ρ : DS} {vs : List Nat} {b : Addr} (h : ownW Z (wipe σ vs) (wipeD ρ vs) b) : ownW Z σ ρ b := by
  rcases h with h | ⟨i, ds, e1⟩
  · exact .inl h
  · obtain ⟨e3, e4⟩ := wipeD_get (by intro z; cases z) e1
    exact .inr ⟨i, ds, e3⟩
theorem own_wipe' {Z : Addr → Prop} {σ : L2.St} {ρ : DS} {vs : List Nat} (no : noOwn ρ vs) : ownW Z (wipe σ vs) (wipeD ρ vs) = ownW Z σ ρ := by
  funext b
  refine propext ⟨own_wipe, fun h => ?_⟩
  rcases h with h | ⟨i, ds, e1⟩
  · exact .inl h
  · have hi : i ∉ vs := fun q => no i q b ds e1
    refine .inr ⟨i, ds, ?_⟩
    have : ∀ {l : List Nat}, i ∉ l → (wipeD ρ l)[i]? = ρ[i]? := by
      intro l
      induction l with
      | nil => intro _; rfl
      | cons v l ih =>
        intro hv
        rw [wipeD, List.getElem?_set_ne (fun e => hv (by simp [e]))]
        exact ih fun q => hv (by simp [q])
    rw [this hi]; exact e1
/-- hiding one thing more -/
def addZ (Z : Addr → Prop) (D : Addr) : Addr → Prop := fun b => Z b ∨ b = D
theorem own_add {Z : Addr → Prop} {D : Addr} {σ : L2.St} {ρ : DS} : ownW (addZ Z D) σ ρ = addZ (ownW Z σ ρ) D := by
  funext b
  apply propext
  unfold ownW addZ
  constructor
  · rintro ((h | h) | h)
    · exact .inl (.inl h)
    · exact .inr h
    · exact .inl (.inr h)
  · rintro ((h | h) | h)
    · exact .inl (.inl h)
    · exact .inr h
    · exact .inl (.inr h)
theorem SR.wiped {G : Gx} {Z : Addr → Prop} {m : List Addr} {σ : L2.St} {H : Hp} {ρ : DS} {μ : Mu} (S : SR G Z m σ H ρ μ) {vs : List Nat} (no : noOwn ρ vs) : SR G Z m (wipe σ vs) H (wipeD ρ vs) μ := by
  refine ⟨by rw [wipeD_len, wipe_length]; exact S.len, by rw [own_wipe' no]; exact S.mu, fun i d e => ?_, fun i a ds e => ?_, fun i j a ds es e1 e2 => ?_, fun i c ks ds e => ?_⟩
  · obtain ⟨e1, e2⟩ := wipeD_get (by intro z; cases z) e
    obtain ⟨v, h1, h2⟩ := S.val i d e1
    exact ⟨v, by rw [wipe_get e2]; exact h1, by rw [own_wipe' no]; exact h2⟩
  · obtain ⟨e1, e2⟩ := wipeD_get (by intro z; cases z) e
    obtain ⟨h1, h2, h4⟩ := S.own i a ds e1
    exact ⟨by rw [wipe_get e2]; exact h1, h2, by rw [own_wipe' no]; exact h4⟩
  · obtain ⟨h1, h2⟩ := wipeD_get (by intro z; cases z) e1
    obtain ⟨h3, h4⟩ := wipeD_get (by intro z; cases z) e2
    exact S.dis i j a ds es h1 h3
  · obtain ⟨e1, e2⟩ := wipeD_get (by intro z; cases z) e
    rw [wipe_get e2, own_wipe' no]
    exact S.exn i c ks ds e1
/-- the new list is hidden: it is in nobody's sight -/
theorem MuOk.hide {G : Gx} {Z : Addr → Prop} {m : List Addr} {μ : Mu} {H : Hp} (M : MuOk G Z m μ H) {D : Addr} {o : HO} (nD : H D = none) : MuOk G (addZ Z D) m μ (upd H D o) ∧ Same (vis Z m H) (vis (addZ Z D) m (upd H D o)) := by
  obtain ⟨h1, h2⟩ := M.fresh nD
  have sm : Same (vis Z m H) (vis (addZ Z D) m (upd H D o)) := fun b x e => by
    obtain ⟨z1, z2, z3⟩ := vis_some.mp e
    have hb : b ≠ D := fun q => by rw [q, nD] at z3; cases z3
    exact vis_some.mpr ⟨fun q => q.elim z1 hb, z2, by rw [upd_ne hb]; exact z3⟩
  refine ⟨⟨M.len, M.nd, fun a ha q => q.elim (M.out a ha) fun e => h2 (e ▸ ha), fun z hz => ?_, fun n c a hc ha => ?_⟩, sm⟩
  · rcases hz with hz | hz
    · by_cases e : z = D
      · rw [e, upd_same]; intro q; cases q
      · rw [upd_ne e]; exact M.hw z hz
    · rw [hz, upd_same]; intro q; cases q
  · have hb : a ≠ D := fun e => h2 (e ▸ List.mem_of_getElem? ha)
    exact (M.cell n c a hc ha).keep (List.prefix_refl _) sm (upd_ne hb)
theorem vis_hidden {Z : Addr → Prop} {m : List Addr} {H : Hp} {D : Addr} {o : HO} : vis (addZ Z D) m (upd H D o) = vis (addZ Z D) m H := by
  funext b
  unfold vis
  by_cases hb : b = D
  · rw [if_pos (.inl (.inr hb)), if_pos (.inl (.inr hb))]
  · rw [upd_ne hb]
/-- a hidden thing is written -/
theorem MuOk.hid {G : Gx} {Z : Addr → Prop} {m : List Addr} {μ : Mu} {H : Hp} {D : Addr} {o : HO} (M : MuOk G (addZ Z D) m μ H) : MuOk G (addZ Z D) m μ (upd H D o) := by
  refine ⟨M.len, M.nd, M.out, fun z hz => ?_, fun n c a hc ha => ?_⟩
  · by_cases e : z = D
    · rw [e, upd_same]; intro q; cases q
    · rw [upd_ne e]; exact M.hw z hz
  · have hb : a ≠ D := fun e => M.out a (List.mem_of_getElem? ha) (.inr e)
    rw [vis_hidden]
    exact (M.cell n c a hc ha).keep (List.prefix_refl _) (Same.refl _) (upd_ne hb)
theorem SR.hid {G : Gx} {Z : Addr → Prop} {m : List Addr} {σ : L2.St} {H : Hp} {ρ : DS} {μ : Mu} {D : Addr} {o : HO} (S : SR G (addZ Z D) m σ H ρ μ) : SR G (addZ Z D) m σ (upd H D o) ρ μ := by
  have e := own_add (Z := Z) (D := D) (σ := σ) (ρ := ρ)
  refine ⟨S.len, ?_, fun i d h => ?_, fun i a ds h => ?_, S.dis, fun i c ks ds h => ?_⟩
  · rw [e]; exact MuOk.hid (e ▸ S.mu)
  · obtain ⟨v, h1, h2⟩ := S.val i d h
    rw [e] at h2
    exact ⟨v, h1, by rw [e, vis_hidden]; exact h2⟩
  · obtain ⟨h1, h2, h4⟩ := S.own i a ds h
    rw [e] at h4
    exact ⟨h1, h2, by rw [e, vis_hidden]; exact h4.keep (List.prefix_refl _) (Same.refl _) (upd_ne (fun q => h2 (.inr q)))⟩
  · have z := S.exn i c ks ds h
    rw [e] at z ⊢
    rw [vis_hidden]
    exact z
/-- a comprehension's target: what it does to the slots -/
def LcG (G : Gx) (vs : List Nat) (g : TG) (k : WG) : Prop := ∀ (Z : Addr → Prop) (m : List Addr) (μ : Mu) (σ : L2.St) (H : Hp) (ρ : DS) (d : D) (v : V) (Q : DS → Mu → Prop) (R : L2.St → Hp → Prop),
  SR G Z m σ H ρ μ → Rep G m (vis (ownW Z σ ρ) m H) d v → k d ρ μ Q → (∀ σ' ρ', SR G Z m σ' H ρ' μ → ownW Z σ' ρ' = ownW Z σ ρ → wipe σ' vs = wipe σ vs → Q ρ' μ → R σ' H) → g v σ H R
theorem wipe_set {σ : L2.St} {i : Nat} {x : Option V} : ∀ {vs : List Nat}, i ∈ vs → wipe (σ.set i x) vs = wipe σ vs
  | v :: vs, h => by
    rw [wipe, wipe]
    by_cases hi : i ∈ vs
    · rw [wipe_set hi]
    · have e : v = i := by simpa [hi, eq_comm] using h
      subst e
      have : ∀ {l : List Nat}, v ∉ l → wipe (σ.set v x) l = (wipe σ l).set v x := by
        intro l
        induction l with
        | nil => intro _; rfl
        | cons u l ih =>
          intro hu
          rw [wipe, wipe, ih fun q => hu (by simp [q]), List.set_comm _ _ (fun q => hu (by simp [q]))]
      rw [this hi, List.set_set]
theorem own_set_no {Z : Addr → Prop} {σ : L2.St} {ρ : DS} {i : Nat} {v : V} {d : D} (h : ∀ a ds, ρ[i]? ≠ some (.own a ds)) : ownW Z (σ.set i (some v)) (ρ.set i (.v d)) = ownW Z σ ρ := by
  funext b
  refine propext ⟨own_set, fun q => ?_⟩
  rcases q with q | ⟨j, ds, e1⟩
  · exact .inl q
  · have hj : i ≠ j := fun e => h b ds (e ▸ e1)
    exact .inr ⟨j, ds, by rw [List.getElem?_set_ne hj]; exact e1⟩
/-- a slot that is not being filled: checked where it is stored -/
def notOwn (ρ : DS) (i : Nat) : Prop := match ρ[i]? with
  | some (.own _ _) => False
  | _ => True
theorem notOwn_of {ρ : DS} {i : Nat} (h : notOwn ρ i) : ∀ a ds, ρ[i]? ≠ some (.own a ds) := fun a ds e => by
  unfold notOwn at h
  rw [e] at h
  exact h
def kNameC (i : Nat) : WG := fun d ρ μ Q => notOwn ρ i ∧ Q (ρ.set i (.v d)) μ
theorem lcg_name {G : Gx} {vs : List Nat} {i : Nat} (hi : i ∈ vs) : LcG G vs (gName i) (kNameC i) := by
  intro Z m μ σ H ρ d v Q R S r q k
  obtain ⟨no, q⟩ := q
  have no := notOwn_of no
  obtain ⟨S1, s1⟩ := S.set (i := i) r
  exact k _ _ S1 (own_set_no no) (wipe_set hi) q
def LcGs (G : Gx) (vs : List Nat) (g : TGs) (k : WGs) : Prop := ∀ (Z : Addr → Prop) (m : List Addr) (μ : Mu) (σ : L2.St) (H : Hp) (ρ : DS) (ds : List D) (us : List V) (Q : DS → Mu → Prop) (R : L2.St → Hp → Prop),
  SR G Z m σ H ρ μ → Reps G m (vis (ownW Z σ ρ) m H) ds us → k ds ρ μ Q → (∀ σ' ρ', SR G Z m σ' H ρ' μ → ownW Z σ' ρ' = ownW Z σ ρ → wipe σ' vs = wipe σ vs → Q ρ' μ → R σ' H) → g us σ H R
theorem lcgs_nil {G : Gx} {vs : List Nat} : LcGs G vs gNil kNil := by
  intro Z m μ σ H ρ ds us Q R S r q k
  cases ds with
  | nil => rw [Reps] at r; exact ⟨r, k _ _ S rfl rfl q⟩
  | cons d ds => exact q.elim
theorem lcgs_cons {G : Gx} {vs : List Nat} {g : TG} {k : WG} {gs : TGs} {ks : WGs} (h1 : LcG G vs g k) (h2 : LcGs G vs gs ks) : LcGs G vs (gCons g gs) (kCons k ks) := by
  intro Z m μ σ H ρ ds us Q R S r q kk
  cases ds with
  | nil => exact q.elim
  | cons d ds =>
    obtain ⟨v, vr, rfl, r1, r2⟩ := r.uncons
    refine ⟨v, vr, rfl, h1 Z m μ σ H ρ d v _ _ S r1 q fun σ' ρ' S' ow e q' => ?_⟩
    exact h2 Z m μ σ' H ρ' ds vr Q R S' (by rw [ow]; exact r2) q' fun σ2 ρ2 S2 ow2 e2 q2 => kk σ2 ρ2 S2 (ow2.trans ow) (e2.trans e) q2
theorem lcg_tup {G : Gx} {vs : List Nat} {n : Nat} {gs : TGs} {ks : WGs} (h : LcGs G vs gs ks) : LcG G vs (gTup G.K n gs) (kTup n ks) := by
  intro Z m μ σ H ρ d v Q R S r q k
  cases d with
  | tup ds =>
    obtain ⟨hl, q⟩ := q
    rw [Rep] at r
    obtain ⟨a, us, e1, st, rs⟩ := r
    exact ⟨a, us, e1, SqT.same vis_le st, by rw [← rs.len]; exact hl, h Z m μ σ H ρ ds us Q R S rs q k⟩
  | _ => exact q.elim
theorem wipe_at {σ : L2.St} {i : Nat} : ∀ {vs : List Nat}, i ∈ vs → (wipe σ vs).set i none = wipe σ vs
  | v :: vs, h => by
    by_cases e : v = i
    · subst e; rw [wipe, List.set_set]
    · have hi : i ∈ vs := by
        rcases List.mem_cons.mp h with q | q
        · exact absurd q.symm e
        · exact q
      rw [wipe, List.set_comm _ _ e, wipe_at hi]
theorem wipe_sub {σ : L2.St} {vs : List Nat} : ∀ {us : List Nat}, (∀ u ∈ us, u ∈ vs) → wipe (wipe σ vs) us = wipe σ vs
  | [], _ => rfl
  | u :: us, h => by rw [wipe, wipe_sub fun x hx => h x (by simp [hx]), wipe_at (h u (by simp))]
theorem wipe_wipe (σ : L2.St) (vs : List Nat) : wipe (wipe σ vs) vs = wipe σ vs := wipe_sub fun _ h => h
def WF : WX := fun _ _ _ _ => False
def xF : XD := fun _ _ _ _ => False
def lcL (g : WG) (tt : WT) (te : WE) (ρw : DS) : List D → List D → Mu → (D → Mu → Prop) → Prop
  | [], acc, μ, Q => Q (.lst acc) μ
  | d :: ds, acc, μ, Q => g d ρw μ fun ρ2 μ2 => tt ρ2 μ2 (fun b μ3 => if b = true then te ρ2 μ3 (fun y μ4 => acc.length < 1000000 ∧ lcL g tt te ρw ds (acc ++ [y]) μ4 Q) xF else lcL g tt te ρw ds acc μ3 Q) xF
def wLc (wi : WI) (g : WG) (tt : WT) (te : WE) (vs : List Nat) : WE := fun ρ μ Q Xd => wi ρ μ (fun ds μ1 => (∀ v ∈ vs, notOwn ρ v) ∧ lcL g tt te (wipeD ρ vs) ds [] μ1 Q) Xd
theorem xpF {G : Gx} {Z : Addr → Prop} {m : List Addr} {H H' : Hp} {cls : Value} {d : Option Addr} (p : XPost G Z m H xF cls d H') : False := by
  obtain ⟨_, _, _, _, _, _, _, _, _, _, _, _, _, _, _, q⟩ := p
  exact q
abbrev DTs (X : Cx) (ifs : List Expr) (w : WT) : Prop := PTs X ifs (liftT (gx X none) WF w)
def wYes : WT := fun _ μ Q _ => Q true μ
theorem pts_weak {X : Cx} {es : List Expr} {t t' : TT} (h : PTs X es t) (k : ∀ σ H Q, t' σ H Q → t σ H Q) : PTs X es t' := ⟨fun pins s σ H Q I q => h.run pins s σ H Q I (k σ H Q q)⟩
theorem dts_nil {X : Cx} : DTs X [] wYes := pts_weak pts_nil fun σ H Q' q => by
  obtain ⟨Z, m, ρ, μ, Q, Xd, S, q, k, kx⟩ := q
  exact k true H ⟨m, μ, .refl S.mu, q⟩
theorem dts_one {X : Cx} {c : Expr} {t : WT} (h : DT none WF X c t) : DTs X [c] t := pts_one h
theorem lift_lc {G : Gx} {W : WX} {wi : WI} {g : TG} {k : WG} {tt : WT} {te : WE} {vs : List Nat} (hg : LcG G vs g k) {σ : L2.St} {H : Hp} {Q' : VK} (q : lift G W (wLc wi k tt te vs) σ H Q') :
    tLc (liftIF G W wi) g (liftT G WF tt) (lift G WF te) vs σ H Q' := by
  obtain ⟨Z, m, ρ, μ, Q, Xd, S, q, kq, kx⟩ := q
  refine ⟨Z, m, ρ, μ, _, Xd, S, q, fun J H1 P => ?_, kx⟩
  obtain ⟨m1, ds, μ1, F, s1, hF, ok, no', q1⟩ := P
  have no : noOwn ρ vs := fun v hv a ds => notOwn_of (no' v hv) a ds
  intro D nD
  have S1 := S.step s1
  have E0 := own_wipe' (Z := Z) (σ := σ) (ρ := ρ) (vs := vs) no
  have Sw := S1.wiped (vs := vs) no
  obtain ⟨Mh, sh⟩ := MuOk.hide (o := .lst []) S1.mu nD
  -- the state of a turn
  have base : SR G (addZ Z D) m1 (wipe σ vs) (upd H1 D (.lst [])) (wipeD ρ vs) μ1 := by
    refine ⟨Sw.len, by rw [own_add, E0]; exact Mh, fun i d e => ?_, fun i a es e => ?_, Sw.dis, fun i c ks es e => ?_⟩
    · obtain ⟨v, h1, h2⟩ := Sw.val i d e
      rw [E0] at h2
      exact ⟨v, h1, by rw [own_add, E0]; exact Rep.mono (List.prefix_refl _) sh _ _ h2⟩
    · obtain ⟨h1, h2, h4⟩ := Sw.own i a es e
      rw [E0] at h4
      have na : a ≠ D := fun z => h4.there (by rw [z, nD])
      exact ⟨h1, fun z => z.elim h2 na, by rw [own_add, E0]; exact h4.keep (List.prefix_refl _) sh (upd_ne na)⟩
    · have z := Sw.exn i c ks es e
      rw [E0] at z
      rw [own_add, E0]
      exact z.mono (List.prefix_refl _) sh
  have nDW : ¬ ownW Z σ ρ D := fun z => S1.mu.hw D z nD
  let In : List DL.D → Hp → Prop := fun rest H' => ∃ m' μ' acc us, m1 <+: m' ∧ (∀ z, ownW Z σ ρ z → H' z = H1 z) ∧ SR G (addZ Z D) m' (wipe σ vs) H' (wipeD ρ vs) μ' ∧ Same (vis (ownW Z σ ρ) m1 H1) (vis (addZ (ownW Z σ ρ) D) m' H') ∧
    H' D = some (.lst us) ∧ Reps G m' (vis (addZ (ownW Z σ ρ) D) m' H') acc us ∧ lcL k tt te (wipeD ρ vs) rest acc μ' Q
  refine ⟨fun i n H' => n = ds.length - i ∧ i ≤ ds.length ∧ In (ds.drop i) H', ⟨_, rfl, Nat.zero_le _, m1, μ1, [], [], List.prefix_refl _, fun z hz => upd_ne fun e => nDW (e ▸ hz), base, sh, upd_same, Reps.nil, q1⟩, ?_⟩
  rintro i n H' ⟨rfl, hle, m', μ', acc, us, pm, hid, S', sm, hD, ra, q'⟩
  have vis' : Same (vis (ownW Z σ ρ) m1 H1) H' := sm.trans vis_le
  by_cases hlt : i < ds.length
  · refine .inr ⟨ok.go i H' hlt vis' (hF H' hid), In (ds.drop (i + 1)), fun H2 h2 => ⟨_, (by omega : ds.length - (i + 1) < ds.length - i), rfl, hlt, h2⟩, fun x H3 y => ?_⟩
    obtain ⟨d, ed, hy⟩ := ok.yld i H' x H3 hlt vis' (hF H' hid) y
    obtain ⟨hi', ee⟩ := List.getElem?_eq_some_iff.mp ed
    rw [List.drop_eq_getElem_cons hi', lcL, ee] at q'
    have ow : ownW (addZ Z D) (wipe σ vs) (wipeD ρ vs) = addZ (ownW Z σ ρ) D := by rw [own_add, E0]
    have : SR G (addZ Z D) m' (wipe σ vs) H3 (wipeD ρ vs) μ' ∧ Same (vis (addZ (ownW Z σ ρ) D) m' H') (vis (addZ (ownW Z σ ρ) D) m' H3) ∧ (∀ z, addZ (ownW Z σ ρ) D z → H3 z = H' z) ∧ Rep G m' (vis (addZ (ownW Z σ ρ) D) m' H3) d x := by
      rcases hy with ⟨rfl, rd⟩ | ⟨T, o, nT, rfl, rd⟩
      · exact ⟨S', Same.refl _, fun _ _ => rfl, Rep.mono pm sm _ _ rd⟩
      · have st := Step.laid (o := o) S'.mu nT
        rw [ow] at st
        exact ⟨S'.step (by rw [ow]; exact st), st.same, st.hid, rd _ _ pm (sm.trans st.same) (by rw [vis_upd (ow ▸ S'.mu) nT, upd_same])⟩
    obtain ⟨S3, sm3, hid3, rd⟩ := this
    refine hg (addZ Z D) m' μ' (wipe σ vs) H3 (wipeD ρ vs) d x _ _ S3 (by rw [ow]; exact rd) q' fun σ4 ρ4 S4 ow4 ew q4 => ⟨?_, ?_⟩
    · exact ew.trans (wipe_wipe σ vs)
    · refine ⟨addZ Z D, m', ρ4, μ', _, _, S4, q4, fun b H5 P => ?_, fun cls dd H5 P => (xpF P).elim⟩
      obtain ⟨m5, μ5, s5, q5⟩ := P
      rw [ow4, ow] at s5
      have back : ∀ {m6 μ6 H6}, Step G (addZ (ownW Z σ ρ) D) m' H3 m6 μ6 H6 → SR G (addZ Z D) m6 (wipe σ vs) H6 (wipeD ρ vs) μ6 := fun {m6 μ6 H6} s6 => S3.step (by rw [ow]; exact s6)
      cases b with
      | false =>
        rw [if_neg Bool.false_ne_true] at q5 ⊢
        exact ⟨m5, μ5, acc, us, pm.trans s5.pre, fun z hz => ((s5.hid z (.inl hz)).trans (hid3 z (.inl hz))).trans (hid z hz), back s5, (sm.trans sm3).trans s5.same, ((s5.hid D (.inr rfl)).trans (hid3 D (.inr rfl))).trans hD, Reps.mono s5.pre (sm3.trans s5.same) _ _ ra, q5⟩
      | true =>
        rw [if_pos rfl] at q5 ⊢
        refine ⟨addZ Z D, m5, ρ4, μ5, _, _, S4.step (by rw [ow4, ow]; exact s5), q5, fun u H6 P => ?_, fun cls dd H6 P => (xpF P).elim⟩
        obtain ⟨m6, yd, μ6, s6, r6, hlen, q6⟩ := P
        rw [ow4, ow] at s6 r6
        have s56 := s5.trans s6
        refine ⟨us, ((s56.hid D (.inr rfl)).trans (hid3 D (.inr rfl))).trans hD, by rw [← ra.len]; exact Nat.lt_of_lt_of_le hlen (by decide), ?_⟩
        refine ⟨m6, μ6, acc ++ [yd], us ++ [u], pm.trans s56.pre, fun z hz => ?_, (back s56).hid, ?_, upd_same, ?_, q6⟩
        · have hb : z ≠ D := fun e => nDW (e ▸ hz)
          rw [upd_ne hb]
          exact ((s56.hid z (.inl hz)).trans (hid3 z (.inl hz))).trans (hid z hz)
        · rw [vis_hidden]
          exact (sm.trans sm3).trans s56.same
        · rw [vis_hidden]
          exact Reps.append (Reps.mono s56.pre (sm3.trans s56.same) _ _ ra) (Reps.cons r6 Reps.nil)
  · have e : i = ds.length := by omega
    subst e
    rw [List.drop_length, lcL] at q'
    refine .inl ⟨ok.stop H' vis' (hF H' hid), kq _ _ (VPost.from s1 ?_)⟩
    have ow : ownW (addZ Z D) (wipe σ vs) (wipeD ρ vs) = addZ (ownW Z σ ρ) D := by rw [own_add, E0]
    have M' := S'.mu
    rw [ow] at M'
    have sub : ∀ b, ownW Z σ ρ b → addZ (ownW Z σ ρ) D b := fun b h => .inl h
    refine ⟨m', .lst acc, μ', ⟨pm, hid, M'.less sub, sm.trans (vis_mono sub)⟩, ?_, q'⟩
    rw [Rep]
    exact ⟨D, us, rfl, vis_some.mpr ⟨nDW, fun z => M'.out D z (.inr rfl), hD⟩, Reps.mono (List.prefix_refl _) (vis_mono sub) _ _ ra⟩
section
variable {W : WX} {X : Cx} {elt tg iter : Expr} {ifs : List Expr} {scope : Scope} {own : List (Str × Nat)} {pos : Pos} {wi : WI} {g : TG} {k : WG} {tt : WT} {te : WE}
theorem de_lcF (hc : X.calm = true) (hN : X.N.Nodup) (hi : DIF none W X tg iter wi) (ok : BlkOk X.N X.env.scope scope own) (hk : LcG (gx X none) (own.map (·.2)) g k)
    (hg : ∀ (s : Shared) (H : Hp) (C : Addr) (cl : List (Str × Addr)) (fp : List Addr), PG (X.blk s H scope (compEnvC scope cl C X.env) fp) tg g) (ht : ∀ (s : Shared) (H : Hp) (C : Addr) (cl : List (Str × Addr)) (fp : List Addr), DTs (X.blk s H scope (compEnvC scope cl C X.env) fp) ifs tt)
    (he : ∀ (s : Shared) (H : Hp) (C : Addr) (cl : List (Str × Addr)) (fp : List Addr), DE none WF (X.blk s H scope (compEnvC scope cl C X.env) fp) elt te) (hs : ∀ x, foldedSetIterable iter X.env x = pure x := by intro _; rfl) :
    DE none W X (.ListComp elt [⟨tg, iter, ifs, 0⟩] scope pos) (wLc wi k tt te (own.map (·.2))) := pe_weak (pe_lc hc hN hi ok hg ht he hs) fun _ _ _ q => lift_lc hk q
theorem de_lc (hc : X.calm = true) (hN : X.N.Nodup) (hi : DI none W X tg iter wi) (ok : BlkOk X.N X.env.scope scope own) (hk : LcG (gx X none) (own.map (·.2)) g k)
    (hg : ∀ (s : Shared) (H : Hp) (C : Addr) (cl : List (Str × Addr)) (fp : List Addr), PG (X.blk s H scope (compEnvC scope cl C X.env) fp) tg g) (ht : ∀ (s : Shared) (H : Hp) (C : Addr) (cl : List (Str × Addr)) (fp : List Addr), DTs (X.blk s H scope (compEnvC scope cl C X.env) fp) ifs tt)
    (he : ∀ (s : Shared) (H : Hp) (C : Addr) (cl : List (Str × Addr)) (fp : List Addr), DE none WF (X.blk s H scope (compEnvC scope cl C X.env) fp) elt te) (hs : ∀ x, foldedSetIterable iter X.env x = pure x := by intro _; rfl) :
    DE none W X (.ListComp elt [⟨tg, iter, ifs, 0⟩] scope pos) (wLc wi k tt te (own.map (·.2))) := de_lcF hc hN hi.toF ok hk hg ht he hs
theorem ds_setLcF {i : Nat} {y : Str} {py spos : Pos} (hc : X.calm = true) (hN : X.N.Nodup) (hy : X.N[i]? = some y) (hsw : swapsWith (.ListComp elt [⟨tg, iter, ifs, 0⟩] scope pos) (some (.Name y py)) spos.line X.env = pure true)
    (hi : DIF none W X tg iter wi) (ok : BlkOk X.N X.env.scope scope own) (hk : LcG (gx X none) (own.map (·.2)) g k)
    (hg : ∀ (s : Shared) (H : Hp) (C : Addr) (cl : List (Str × Addr)) (fp : List Addr), PG (X.blk s H scope (compEnvC scope cl C X.env) fp) tg g) (ht : ∀ (s : Shared) (H : Hp) (C : Addr) (cl : List (Str × Addr)) (fp : List Addr), DTs (X.blk s H scope (compEnvC scope cl C X.env) fp) ifs tt)
    (he : ∀ (s : Shared) (H : Hp) (C : Addr) (cl : List (Str × Addr)) (fp : List Addr), DE none WF (X.blk s H scope (compEnvC scope cl C X.env) fp) elt te) (hyl : X.env.scope.names.lookup y = some .local := by rfl) (hs : ∀ x, foldedSetIterable iter X.env x = pure x := by intro _; rfl) :
    DSt none W X (.Assign [.Name y py] (.ListComp elt [⟨tg, iter, ifs, 0⟩] scope pos) spos) (sSet i (wLc wi k tt te (own.map (·.2)))) := ps_weak (ps_setLc hc hN hy hyl hsw hi ok hg ht he hs) fun De σ H q => by
  obtain ⟨Z, m, ρ, μ, E, S, q, kn, kr, kb, kc, kx⟩ := q
  refine lift_lc (W := W) hk ⟨Z, m, ρ, μ, _, _, S, q, fun v H1 P => ?_, fun cls d H' P => kx cls d σ H' (XSPost.of S P)⟩
  obtain ⟨m1, d, μ1, s1, r1, q1⟩ := P
  obtain ⟨S1, s2⟩ := (S.step s1).set (i := i) r1
  exact kn _ _ ⟨m1, _, μ1, S1, (SStep.of s1).trans s2, q1⟩
theorem ds_setLc {i : Nat} {y : Str} {py spos : Pos} (hc : X.calm = true) (hN : X.N.Nodup) (hy : X.N[i]? = some y) (hsw : swapsWith (.ListComp elt [⟨tg, iter, ifs, 0⟩] scope pos) (some (.Name y py)) spos.line X.env = pure true)
    (hi : DI none W X tg iter wi) (ok : BlkOk X.N X.env.scope scope own) (hk : LcG (gx X none) (own.map (·.2)) g k)
    (hg : ∀ (s : Shared) (H : Hp) (C : Addr) (cl : List (Str × Addr)) (fp : List Addr), PG (X.blk s H scope (compEnvC scope cl C X.env) fp) tg g) (ht : ∀ (s : Shared) (H : Hp) (C : Addr) (cl : List (Str × Addr)) (fp : List Addr), DTs (X.blk s H scope (compEnvC scope cl C X.env) fp) ifs tt)
    (he : ∀ (s : Shared) (H : Hp) (C : Addr) (cl : List (Str × Addr)) (fp : List Addr), DE none WF (X.blk s H scope (compEnvC scope cl C X.env) fp) elt te) (hyl : X.env.scope.names.lookup y = some .local := by rfl) (hs : ∀ x, foldedSetIterable iter X.env x = pure x := by intro _; rfl) :
    DSt none W X (.Assign [.Name y py] (.ListComp elt [⟨tg, iter, ifs, 0⟩] scope pos) spos) (sSet i (wLc wi k tt te (own.map (·.2)))) := ds_setLcF hc hN hy hsw hi.toF ok hk hg ht he hyl hs
end
end DL

set_option Elab.async false
set_option linter.all false
set_option maxRecDepth 100000
set_option maxHeartbeats 4000000
set_option autoImplicit false
namespace DL
open PySem PySem.Spec PyProof.Rows L2
/-! ### cells made and written -/
theorem vis_cell {Z : Addr → Prop} {m : List Addr} {H : Hp} {p : Addr} {o : HO} (np : H p = none) : vis Z (m ++ [p]) (upd H p o) = vis Z m H := by
  funext b
  by_cases hb : b = p
  · subst hb
    rw [vis_none np]
    unfold vis
    rw [if_pos (.inr (by simp))]
  · unfold vis
    rw [upd_ne hb]
    by_cases h : Z b ∨ b ∈ m
    · rw [if_pos h, if_pos (h.imp id fun q => List.mem_append_left _ q)]
    · rw [if_neg h, if_neg (by simpa [hb] using h)]
theorem Step.cell {G : Gx} {Z : Addr → Prop} {m : List Addr} {μ : Mu} {H : Hp} (M : MuOk G Z m μ H) {p : Addr} {o : HO} {c : Cell} (np : H p = none) (hc : CellOk G (m ++ [p]) (vis Z m H) (upd H p o) c p) :
    Step G Z m H (m ++ [p]) (μ ++ [c]) (upd H p o) := by
  obtain ⟨h1, h2⟩ := M.fresh np
  have ev := vis_cell (Z := Z) (m := m) (o := o) np
  have pre : m <+: m ++ [p] := List.prefix_append _ _
  refine ⟨pre, fun z hz => upd_ne fun e => ?_, ⟨by simp [M.len], ?_, fun a ha => ?_, fun z hz => ?_, fun n d a hd ha => ?_⟩, by rw [ev]; exact Same.refl _⟩
  · subst e; exact M.hw z hz np
  · rw [List.nodup_append]
    refine ⟨M.nd, by simp, fun a ha b hb => ?_⟩
    rw [List.mem_singleton] at hb
    subst hb
    exact fun e => h2 (e ▸ ha)
  · rcases List.mem_append.mp ha with q | q
    · exact M.out a q
    · rw [List.mem_singleton] at q; subst q; exact h1
  · by_cases e : z = p
    · subst e; rw [upd_same]; intro q; cases q
    · rw [upd_ne e]; exact M.hw z hz
  · rw [ev]
    by_cases hn : n < m.length
    · rw [List.getElem?_append_left hn] at ha
      rw [List.getElem?_append_left (by rw [← M.len]; exact hn)] at hd
      have hb : a ≠ p := fun e => h2 (e ▸ List.mem_of_getElem? ha)
      exact (M.cell n d a hd ha).keep pre (Same.refl _) (upd_ne hb)
    · have hlt := (List.getElem?_eq_some_iff.mp ha).1
      have e : n = m.length := by simp at hlt; omega
      subst e
      rw [List.getElem?_concat_length] at ha
      rw [M.len, List.getElem?_concat_length] at hd
      cases ha
      cases hd
      exact hc
theorem vis_put {Z : Addr → Prop} {m : List Addr} {H : Hp} {a : Addr} {o : HO} (ha : a ∈ m) : vis Z m (upd H a o) = vis Z m H := by
  funext b
  unfold vis
  by_cases hb : b = a
  · subst hb
    rw [if_pos (.inr ha), if_pos (.inr ha)]
  · rw [upd_ne hb]
theorem Step.put {G : Gx} {Z : Addr → Prop} {m : List Addr} {μ : Mu} {H : Hp} (M : MuOk G Z m μ H) {n : Nat} {a : Addr} {o : HO} {c : Cell} (ha : m[n]? = some a) (hc : CellOk G m (vis Z m H) (upd H a o) c a) :
    Step G Z m H m (μ.set n c) (upd H a o) := by
  have hm := List.mem_of_getElem? ha
  have ev := vis_put (Z := Z) (H := H) (o := o) hm
  refine ⟨List.prefix_refl _, fun z hz => upd_ne fun e => M.out a hm (e ▸ hz), ⟨by rw [List.length_set]; exact M.len, M.nd, M.out, fun z hz => ?_, fun k d b hd hb => ?_⟩, by rw [ev]; exact Same.refl _⟩
  · by_cases e : z = a
    · subst e; rw [upd_same]; intro q; cases q
    · rw [upd_ne e]; exact M.hw z hz
  · rw [ev]
    by_cases hk : n = k
    · subst hk
      rw [ha] at hb
      cases hb
      have hl : n < μ.length := by rw [← M.len]; exact (List.getElem?_eq_some_iff.mp ha).1
      rw [List.getElem?_set_self hl] at hd
      cases hd
      exact hc
    · rw [List.getElem?_set_ne hk] at hd
      have hab : b ≠ a := fun e => by
        subst e
        obtain ⟨l1, e1⟩ := List.getElem?_eq_some_iff.mp ha
        obtain ⟨l2, e2⟩ := List.getElem?_eq_some_iff.mp hb
        exact hk ((List.getElem_inj M.nd).mp (e1.trans e2.symm))
      exact (M.cell k d b hd hb).keep (List.prefix_refl _) (Same.refl _) (upd_ne hab)
/-- a list display whose list is changed later: a cell -/
def wLstC (wa : WA) : WE := fun ρ μ Q Xd => wa ρ μ (fun ds μ1 => ds.length ≤ 1000 ∧ Q (.loc μ1.length) (μ1 ++ [.lst ds])) Xd
section
variable {ex : Option (Addr × Addr × Addr)} {W : WX} {X : Cx} {e o i : Expr} {es : List Expr} {wa wo wi : WE} {ws : WA} {pos : Pos}
theorem de_lstC (h : DA ex W X es ws) : DE ex W X (.List es pos) (wLstC ws) := pe_weak (pe_lst h) fun σ H Q' q => by
  obtain ⟨Z, m, ρ, μ, Q, Xd, S, q, k, kx⟩ := q
  refine ⟨Z, m, ρ, μ, _, Xd, S, q, fun vs H1 P => ?_, kx⟩
  obtain ⟨m1, ds, μ1, s1, r1, hl, q1⟩ := P
  refine ⟨by rw [← r1.len]; exact le1000 hl, fun p np => k _ _ ?_⟩
  have s2 : Step (gx X ex) (ownW Z σ ρ) m1 H1 (m1 ++ [p]) (μ1 ++ [.lst ds]) (upd H1 p (.lst vs)) := Step.cell s1.mu np ⟨vs, upd_same, Reps.mono (List.prefix_append _ _) (Same.refl _) _ _ r1⟩
  refine VPost.from s1 ⟨_, _, _, s2, ?_, q1⟩
  rw [Rep]
  exact ⟨p, rfl, by rw [← s1.mu.len]; exact List.getElem?_concat_length⟩
/-- cell[i] = d -/
def stL (o i d : D) (μ : Mu) (k : Mu → Prop) : Prop := match o, i with
  | .loc n, .int j => match μ[n]? with
    | some (.lst ds) => match ixN ds.length j with
      | some x => k (μ.set n (.lst (ds.set x d)))
      | none => False
    | _ => False
  | _, _ => False
theorem stL_of {o i d : D} {μ : Mu} {k : Mu → Prop} (h : stL o i d μ k) : ∃ n j ds x, o = .loc n ∧ i = .int j ∧ μ[n]? = some (.lst ds) ∧ ixN ds.length j = some x ∧ k (μ.set n (.lst (ds.set x d))) := by
  unfold stL at h
  split at h
  · split at h
    · split at h
      · exact ⟨_, _, _, _, rfl, rfl, by assumption, by assumption, h⟩
      · exact h.elim
    · exact h.elim
  · exact h.elim
def kSub (wo wi : WE) : WG := fun d ρ μ Q => wo ρ μ (fun x μ1 => wi ρ μ1 (fun y μ2 => stL x y d μ2 fun μ3 => Q ρ μ3) xF) xF
theorem dg_sub (ho : DE none WF X o wo) (hi : DE none WF X i wi)
    (ha : ∀ v, assign (.Subscript o i pos) X.env v = (do
      let ov ← holding [v] (eval o X.env)
      let iv ← holding [v, ov] (eval i X.env)
      standAt pos
      holding [v, ov, iv] (setItem ov iv v)
      release [v, ov, iv] []) := by intro _; rfl) : DG none X (.Subscript o i pos) (kSub wo wi) := pg_weak (pg_sub ho hi set_list ha) fun v σ H Q' q => by
  obtain ⟨Z, m, ρ, μ, d, Q, S, r, q, k⟩ := q
  refine ⟨Z, m, ρ, μ, _, _, S, q, fun x H1 P => ?_, fun cls dd H1 P => (xpF P).elim⟩
  obtain ⟨m1, xd, μ1, s1, r1, q1⟩ := P
  refine ⟨Z, m1, ρ, μ1, _, _, S.step s1, q1, fun y H2 P => ?_, fun cls dd H1 P => (xpF P).elim⟩
  obtain ⟨m2, yd, μ2, s2, r2, q2⟩ := P
  obtain ⟨n, j, ds, z, rfl, rfl, e1, e2, q3⟩ := stL_of q2
  have s12 := s1.trans s2
  have r1' := Rep.mono s2.pre s2.same _ _ r1
  rw [Rep] at r1'
  rw [Rep] at r2
  obtain ⟨a, rfl, ea⟩ := r1'
  obtain ⟨vs, hv, rv⟩ := s2.mu.cell n _ a e1 ea
  have rd := Rep.mono s12.pre s12.same _ _ r
  refine ⟨a, vs, j, z, rfl, r2, hv, by rw [← rv.len]; exact e2, ?_⟩
  have s3 : Step (gx X none) (ownW Z σ ρ) m2 H2 m2 (μ2.set n (.lst (ds.set z d))) (upd H2 a (.lst (vs.set z v))) := Step.put s2.mu ea ⟨_, upd_same, Reps.set rd z rv⟩
  have s13 := s12.trans s3
  exact k _ _ ⟨m2, ρ, _, S.step s13, SStep.of s13, q3⟩
end
/-! ### and, or, if as values -/
section
variable {ex : Option (Addr × Addr × Addr)} {W : WX} {X : Cx} {a b c : Expr} {wa wb : WE} {t : WT} {pos : Pos} {rest : List Expr}
def wIf (t : WT) (wa wb : WE) : WE := fun ρ μ Q Xd => t ρ μ (fun k μ1 => if k = true then wa ρ μ1 Q Xd else wb ρ μ1 Q Xd) Xd
theorem de_if (hc : DT ex W X c t) (ha : DE ex W X a wa) (hb : DE ex W X b wb) : DE ex W X (.IfExp c a b pos) (wIf t wa wb) := pe_weak (pe_ifExp hc ha hb) fun σ H Q' q => by
  obtain ⟨Z, m, ρ, μ, Q, Xd, S, q, k, kx⟩ := q
  refine ⟨Z, m, ρ, μ, _, Xd, S, q, fun c H1 P => ?_, kx⟩
  obtain ⟨m1, μ1, s1, q1⟩ := P
  cases c with
  | true =>
    rw [if_pos rfl] at q1 ⊢
    exact ⟨Z, m1, ρ, μ1, Q, Xd, S.step s1, q1, fun v H2 P => k v H2 (VPost.from s1 P), fun cls d H' P => kx cls d H' (XPost.from s1 P)⟩
  | false =>
    rw [if_neg Bool.false_ne_true] at q1 ⊢
    exact ⟨Z, m1, ρ, μ1, Q, Xd, S.step s1, q1, fun v H2 P => k v H2 (VPost.from s1 P), fun cls d H' P => kx cls d H' (XPost.from s1 P)⟩
/-- a and b, a or b where a is a bool -/
def wAndV (wa wb : WE) : WE := fun ρ μ Q Xd => wa ρ μ (fun x μ1 => fBool x fun k => if k = true then wb ρ μ1 Q Xd else Q (.bl false) μ1) Xd
def wOrV (wa wb : WE) : WE := fun ρ μ Q Xd => wa ρ μ (fun x μ1 => fBool x fun k => if k = true then Q (.bl true) μ1 else wb ρ μ1 Q Xd) Xd
end
end DL

set_option Elab.async false
set_option linter.all false
set_option maxRecDepth 100000
set_option maxHeartbeats 4000000
set_option autoImplicit false
namespace DL
open PySem PySem.Spec PyProof.Rows L2
section
variable {ex : Option (Addr × Addr × Addr)} {W : WX} {X : Cx} {a b c : Expr} {wa wb : WE} {t : WT} {pos : Pos} {rest : List Expr}
theorem de_one {op : BoolOp} (h : DE ex W X a wa) : DE ex W X (.BoolOp op [a] pos) wa := pe_one h
theorem de_and (ha : DE ex W X a wa) (hb : DE ex W X (.BoolOp .And (b :: rest) pos) wb) : DE ex W X (.BoolOp .And (a :: b :: rest) pos) (wAndV wa wb) := pe_weak (pe_and ha hb) fun σ H Q' q => by
  obtain ⟨Z, m, ρ, μ, Q, Xd, S, q, k, kx⟩ := q
  refine ⟨Z, m, ρ, μ, _, Xd, S, q, fun v H1 P => ?_, kx⟩
  obtain ⟨m1, d, μ1, s1, r1, q1⟩ := P
  obtain ⟨c, rfl, q2⟩ := fBool_of q1
  rw [Rep] at r1
  clear q1
  have q1 := q2
  clear q2
  refine ⟨c, r1, ?_⟩
  cases c with
  | true =>
    rw [if_pos rfl] at q1 ⊢
    exact ⟨Z, m1, ρ, μ1, Q, Xd, S.step s1, q1, fun v H2 P => k v H2 (VPost.from s1 P), fun cls d H' P => kx cls d H' (XPost.from s1 P)⟩
  | false =>
    rw [if_neg Bool.false_ne_true] at q1 ⊢
    exact k _ _ (VPost.from s1 (.now s1.mu (by rw [Rep]) q1))
theorem de_or (ha : DE ex W X a wa) (hb : DE ex W X (.BoolOp .Or (b :: rest) pos) wb) : DE ex W X (.BoolOp .Or (a :: b :: rest) pos) (wOrV wa wb) := pe_weak (pe_or ha hb) fun σ H Q' q => by
  obtain ⟨Z, m, ρ, μ, Q, Xd, S, q, k, kx⟩ := q
  refine ⟨Z, m, ρ, μ, _, Xd, S, q, fun v H1 P => ?_, kx⟩
  obtain ⟨m1, d, μ1, s1, r1, q1⟩ := P
  obtain ⟨c, rfl, q2⟩ := fBool_of q1
  rw [Rep] at r1
  clear q1
  have q1 := q2
  clear q2
  refine ⟨c, r1, ?_⟩
  cases c with
  | true =>
    rw [if_pos rfl] at q1 ⊢
    exact k _ _ (VPost.from s1 (.now s1.mu (by rw [Rep]) q1))
  | false =>
    rw [if_neg Bool.false_ne_true] at q1 ⊢
    exact ⟨Z, m1, ρ, μ1, Q, Xd, S.step s1, q1, fun v H2 P => k v H2 (VPost.from s1 P), fun cls d H' P => kx cls d H' (XPost.from s1 P)⟩
def wNotV (wa : WE) : WE := fun ρ μ Q Xd => wa ρ μ (fun x μ1 => fBool x fun k => Q (.bl (!k)) μ1) Xd
theorem de_not (ha : DE ex W X a wa) : DE ex W X (.UnaryOp .Not a pos) (wNotV wa) := pe_weak (pe_not ha) fun σ H Q' q => by
  obtain ⟨Z, m, ρ, μ, Q, Xd, S, q, k, kx⟩ := q
  refine ⟨Z, m, ρ, μ, _, Xd, S, q, fun v H1 P => ?_, kx⟩
  obtain ⟨m1, d, μ1, s1, r1, q1⟩ := P
  obtain ⟨c, rfl, q2⟩ := fBool_of q1
  rw [Rep] at r1
  exact ⟨c, r1, k _ _ (VPost.from s1 (.now s1.mu (by rw [Rep]) q2))⟩
/-! (a, b, ..) = a list of that length -/
def kUnl (n : Nat) (gs : WGs) : WG := fun d ρ μ Q => match d with
  | .lst ds => ds.length = n ∧ gs ds ρ μ Q
  | .frl ds => ds.length = n ∧ gs ds ρ μ Q
  | _ => False
theorem kUnl_of {n : Nat} {gs : WGs} {d : D} {ρ : DS} {μ : Mu} {Q : DS → Mu → Prop} (h : kUnl n gs d ρ μ Q) : ∃ ds, (d = .lst ds ∨ d = .frl ds) ∧ ds.length = n ∧ gs ds ρ μ Q := by
  unfold kUnl at h
  split at h
  · exact ⟨_, .inl rfl, h⟩
  · exact ⟨_, .inr rfl, h⟩
  · exact h.elim
theorem dg_unl {es : List Expr} {k : Nat} {gs : WGs} {n : Nat} (hc : X.calm = true) (h : DGs ex X es gs) (hn : (assignEach es X.env).length = n := by rfl) (hst : (assignEach es X.env).findIdx? (·.1) = none := by rfl) : DG ex X (.Tuple es k pos) (kUnl n gs) :=
  pg_weak (pg_unl hc h hn hst) fun v σ H Q' q => by
  obtain ⟨Z, m, ρ, μ, d, Q, S, r, q, k⟩ := q
  obtain ⟨ds, hd, hl, q⟩ := kUnl_of q
  obtain ⟨a, vs, e1, st, rs⟩ := lst_rep' hd r
  exact ⟨a, vs, e1, Same.seq vis_le st, by rw [← rs.len]; exact hl, Z, m, ρ, μ, ds, Q, S, rs, q, k⟩
end
/-! ### isinstance -/
inductive TyN where
  | b (n : String) | c (c : Str)
  deriving DecidableEq
def tyD (d : D) (μ : Mu) : Option TyN := match d with
  | .non => some (.b "NoneType")
  | .bl _ => some (.b "bool")
  | .int _ => some (.b "int")
  | .str _ => some (.b "str")
  | .tup _ => some (.b "tuple")
  | .lst _ => some (.b "list")
  | .frl _ => some (.b "list")
  | .obj c _ _ => some (.c c)
  | .loc n => match μ[n]? with
    | some (.lst _) => some (.b "list")
    | some (.ins c _ _) => some (.c c)
    | _ => none
  | .opq (.dK _) => some (.b "dict")
  | _ => none
def clD : D → Option TyN
  | .ty n => some (.b n)
  | .cls c => some (.c c)
  | _ => none
/-- what of the text a class must have that type(x) is it -/
structure InsT (K : PySem.W.Frag) (C : Addr) : Prop where
  cl : Cls K C
  ca : PySem.W.findIn K (.ref C) "__class__" = some (some (.builtin "object.__class__"))
  cn : PySem.W.specialIn K (.builtin "object.__class__") "__get__" = some (some (.builtin "getset_descriptor.__get__"))
  ct : PySem.W.takesIn K (.builtin "object.__class__") = some true
  cm : PySem.W.mroIn K C (.type "object") = some true
def TyVal (G : Gx) : TyN → Value → Prop
  | .b n, v => v = .type n
  | .c c, v => ∃ C, G.mg c = some (.ref C) ∧ v = .ref C
/-- the answers of isinstance that are known: by a table -/
structure IsiTab (G : Gx) (f : TyN → TyN → Option Bool) : Prop where
  ok : ∀ t u b, f t u = some b → ∀ tv uv, TyVal G t tv → TyVal G u uv → PySem.W.kitOne G.K tv uv = some b
  ins : ∀ c u b, f (.c c) u = some b → ∀ C, G.mg c = some (.ref C) → InsT G.K C
theorem tyX_of {G : Gx} {Z : Addr → Prop} {m : List Addr} {μ : Mu} {H : Hp} {x : D} {v : V} {t : TyN} (M : MuOk G Z m μ H) (r : Rep G m (vis Z m H) x v) (h : tyD x μ = some t) (hi : ∀ c, t = .c c → ∀ C, G.mg c = some (.ref C) → InsT G.K C) :
    ∃ tv, TyVal G t tv ∧ TyX G.K H v tv := by
  unfold tyD at h
  split at h
  · cases h; rw [Rep] at r; subst r; exact ⟨_, rfl, .base .non⟩
  · cases h; rw [Rep] at r; subst r; exact ⟨_, rfl, .base (.bl _)⟩
  · cases h; rw [Rep] at r; subst r; exact ⟨_, rfl, .base (.int _)⟩
  · cases h; rw [Rep] at r; subst r; exact ⟨_, rfl, .base (.str _)⟩
  · cases h; rw [Rep] at r
    obtain ⟨a, vs, rfl, s, _⟩ := r
    refine ⟨_, rfl, ?_⟩
    rcases SqT.same vis_le s with (s | ⟨o, s⟩) | ⟨o, its, n, s, c, _⟩
    · exact .base (.tup s)
    · exact .fTuple s
    · exact .kTuple s c
  · cases h; rw [Rep] at r
    obtain ⟨a, vs, rfl, s, _⟩ := r
    exact ⟨_, rfl, .base (.lst (vis_le _ _ s))⟩
  · cases h; rw [Rep] at r
    obtain ⟨a, vs, rfl, s, _⟩ := r
    refine ⟨_, rfl, ?_⟩
    rcases Same.seq vis_le s with (s | ⟨o, s⟩) | ⟨o, its, n, s, c, _⟩
    · exact .base (.lst s)
    · exact .base (.frz s)
    · exact .kList s c
  · cases h; rw [Rep] at r
    obtain ⟨a, C, dx, vs, rfl, g, s, _⟩ := r
    have i := hi _ rfl C g
    exact ⟨_, ⟨C, g, rfl⟩, .base (.ins (vis_le _ _ s) i.cl i.ca i.cn i.ct i.cm)⟩
  · rw [Rep] at r
    obtain ⟨a, rfl, ea⟩ := r
    split at h
    · rename_i e1
      cases h
      obtain ⟨vs, h1, _⟩ := M.cell _ _ a e1 ea
      exact ⟨_, rfl, .base (.lst h1)⟩
    · rename_i e1
      cases h
      obtain ⟨C, dx, vs, g, h1, _⟩ := M.cell _ _ a e1 ea
      have i := hi _ rfl C g
      exact ⟨_, ⟨C, g, rfl⟩, .base (.ins h1 i.cl i.ca i.cn i.ct i.cm)⟩
    · cases h
  · cases h; rw [Rep] at r
    obtain ⟨a, rfl, s⟩ := r
    exact ⟨_, rfl, .base (.dK (vis_le _ _ s))⟩
  · cases h
theorem clV_of {G : Gx} {m : List Addr} {E : Hp} {x : D} {v : V} {u : TyN} (r : Rep G m E x v) (h : clD x = some u) : ∃ uv, TyVal G u uv ∧ ClsV v uv := by
  unfold clD at h
  split at h
  · cases h; rw [Rep] at r; subst r; exact ⟨_, rfl, .ty _⟩
  · cases h; rw [Rep] at r
    obtain ⟨C, g, rfl⟩ := r
    exact ⟨_, ⟨C, g, rfl⟩, .own C⟩
  · cases h
def isiD (f : TyN → TyN → Option Bool) (x c : D) (μ : Mu) : Option Bool := match tyD x μ, clD c with
  | some t, some u => f t u
  | _, _ => none
def fIsi (f : TyN → TyN → Option Bool) : FN := fun xs μ Q => match xs with
  | [x, c] => match isiD f x c μ with
    | some b => Q (.bl b) μ
    | none => False
  | _ => False
theorem isiD_of {f : TyN → TyN → Option Bool} {x c : D} {μ : Mu} {b : Bool} (h : isiD f x c μ = some b) : ∃ t u, tyD x μ = some t ∧ clD c = some u ∧ f t u = some b := by
  unfold isiD at h
  split at h
  · exact ⟨_, _, by assumption, by assumption, h⟩
  · cases h
theorem fIsi_of {f : TyN → TyN → Option Bool} {xs : List D} {μ : Mu} {Q : D → Mu → Prop} (h : fIsi f xs μ Q) : ∃ x c b, xs = [x, c] ∧ isiD f x c μ = some b ∧ Q (.bl b) μ := by
  unfold fIsi at h
  split at h
  · split at h
    · exact ⟨_, _, _, rfl, by assumption, h⟩
    · exact h.elim
  · exact h.elim
theorem sn_isi {G : Gx} {f : TyN → TyN → Option Bool} (T : IsiTab G f) : SN G (rIsi G.K) (fIsi f) := by
  intro Z m μ H xs us Q Q' M r h k
  obtain ⟨x, c, b, rfl, hb, q⟩ := fIsi_of h
  obtain ⟨v, t, rfl, r1, r2⟩ := r.uncons
  obtain ⟨v', t', rfl, r3, r4⟩ := r2.uncons
  rw [Reps] at r4
  subst r4
  obtain ⟨tn, un, h1, h2, h3⟩ := isiD_of hb
  obtain ⟨tv, t1, t2⟩ := tyX_of M r1 h1 fun c e C g => T.ins c un b (e ▸ h3) C g
  obtain ⟨uv, u1, u2⟩ := clV_of r3 h2
  exact ⟨v, v', tv, uv, b, rfl, u2, t2, T.ok _ _ _ h3 _ _ t1 u1, k _ _ (.now M (by rw [Rep]) q)⟩
/-! ### attributes -/
/-- an instance: class, names, values -/
def insD (d : D) (μ : Mu) : Option (Str × List Str × List D) := match d with
  | .obj c ks ds => some (c, ks, ds)
  | .loc n => match μ[n]? with
    | some (.ins c ks ds) => some (c, ks, ds)
    | _ => none
  | _ => none
theorem ins_rep {G : Gx} {Z : Addr → Prop} {m : List Addr} {μ : Mu} {H : Hp} {x : D} {v : V} {c : Str} {ks : List Str} {ds : List D} (M : MuOk G Z m μ H) (r : Rep G m (vis Z m H) x v) (h : insD x μ = some (c, ks, ds)) :
    ∃ a C dx vs, v = .ref a ∧ G.mg c = some (.ref C) ∧ H a = some (.ins C dx (ks.zip vs)) ∧ ks.length = ds.length ∧ Reps G m (vis Z m H) ds vs := by
  unfold insD at h
  split at h
  · cases h
    rw [Rep] at r
    obtain ⟨a, C, dx, vs, e, g, s, l, q⟩ := r
    exact ⟨a, C, dx, vs, e, g, vis_le _ _ s, l, q⟩
  · split at h
    · rename_i e1
      cases h
      rw [Rep] at r
      obtain ⟨a, e, ea⟩ := r
      obtain ⟨C, dx, vs, g, s, l, q⟩ := M.cell _ _ a e1 ea
      exact ⟨a, C, dx, vs, e, g, s, l, q⟩
    · cases h
  · cases h
/-- the value of a name -/
def fldOf (f : Str) : List Str → List D → Option D
  | k :: ks, d :: ds => if f == k then some d else fldOf f ks ds
  | _, _ => none
theorem fldOf_rep {G : Gx} {m : List Addr} {E : Hp} {f : Str} : ∀ {ks : List Str} {ds : List D} {vs : List V} {d : D}, Reps G m E ds vs → fldOf f ks ds = some d → ∃ v, (ks.zip vs).lookup f = some v ∧ Rep G m E d v
  | [], ds, vs, d, r, h => by cases ds <;> cases h
  | k :: ks, [], vs, d, r, h => by cases h
  | k :: ks, d0 :: ds, vs, d, r, h => by
    obtain ⟨v, t, rfl, r1, r2⟩ := r.uncons
    rw [List.zip_cons_cons, List.lookup_cons]
    rw [fldOf] at h
    cases e : f == k with
    | true => rw [e] at h; cases h; exact ⟨v, rfl, r1⟩
    | false => rw [e] at h; exact fldOf_rep r2 h
def fFld (c f : Str) : F1 := fun x μ Q => match insD x μ with
  | some (c', ks, ds) => c' = c ∧ match fldOf f ks ds with
    | some d => Q d μ
    | none => False
  | none => False
theorem fFld_of {c f : Str} {x : D} {μ : Mu} {Q : D → Mu → Prop} (h : fFld c f x μ Q) : ∃ ks ds d, insD x μ = some (c, ks, ds) ∧ fldOf f ks ds = some d ∧ Q d μ := by
  unfold fFld at h
  split at h
  · rename_i e
    obtain ⟨rfl, h⟩ := h
    split at h
    · exact ⟨_, _, _, e, by assumption, h⟩
    · exact h.elim
  · exact h.elim
def rFld (K : PySem.W.Frag) (f : Str) : V → Hp → VK → Prop := fun x H1 Q => ∃ a C dx fs v, x = .ref a ∧ H1 a = some (.ins C dx fs) ∧ Cls K C ∧ NoAttr K C f ∧ fs.lookup f = some v ∧ Q v H1
theorem s1_fld {G : Gx} {c f : Str} {C : Addr} (hm : G.mg c = some (.ref C)) (hc : Cls G.K C) (hn : NoAttr G.K C f) : S1 G (rFld G.K f) (fFld c f) := by
  intro Z m μ H x u Q Q' M rx h k
  obtain ⟨ks, ds, d, e1, e2, q⟩ := fFld_of h
  obtain ⟨a, C', dx, vs, rfl, g, s, l, rs⟩ := ins_rep M rx e1
  rw [hm] at g
  cases g
  obtain ⟨v, ev, rv⟩ := fldOf_rep rs e2
  exact ⟨a, C, dx, _, v, rfl, s, hc, hn, ev, k _ _ (.now M rv q)⟩
section
variable {ex : Option (Addr × Addr × Addr)} {W : WX} {X : Cx} {e o value : Expr} {wa wo : WE} {pos pos' : Pos}
theorem de_fld {c f : Str} {C : Addr} (hm : X.mg c = some (.ref C)) (hc : Cls X.K C) (hn : NoAttr X.K C f) (he : DE ex W X e wa) (hb : attributeBase e f X.env (eval e X.env) = eval e X.env := by rfl) : DE ex W X (.Attribute e f pos) (w1 (fFld c f) wa) :=
  pe_weak (pe_fld he hb) fun _ _ _ q => lift_w1 (G := gx X ex) (s1_fld hm hc hn) q
end
/-! stored -/
def putK (f : Str) : List Str → List Str
  | [] => [f]
  | g :: r => if g = f then g :: r else g :: putK f r
def putD {α : Type} (f : Str) (y : α) : List Str → List α → List α
  | [], _ => [y]
  | g :: r, x :: xs => if g = f then y :: xs else x :: putD f y r xs
  | _ :: _, [] => []
theorem putF_zip (f : Str) (y : V) : ∀ (ks : List Str) (vs : List V), ks.length = vs.length → putF f y (ks.zip vs) = (putK f ks).zip (putD f y ks vs)
  | [], [], _ => rfl
  | [], _ :: _, h => nomatch h
  | _ :: _, [], h => nomatch h
  | g :: r, x :: xs, h => by
    have ih := putF_zip f y r xs (by simpa using h)
    rw [List.zip_cons_cons, putK, putD, putF]
    by_cases e : g = f
    · rw [if_pos e, if_pos e, if_pos e, List.zip_cons_cons]
    · rw [if_neg e, if_neg e, if_neg e, List.zip_cons_cons, ih]
theorem putD_len (f : Str) : ∀ (ks : List Str) (ds : List D) (d : D), ks.length = ds.length → (putK f ks).length = (putD f d ks ds).length
  | [], [], _, _ => rfl
  | [], _ :: _, _, h => nomatch h
  | _ :: _, [], _, h => nomatch h
  | g :: r, x :: xs, d, h => by
    have ih := putD_len f r xs d (by simpa using h)
    rw [putK, putD]
    by_cases e : g = f
    · rw [if_pos e, if_pos e]; exact h
    · rw [if_neg e, if_neg e, List.length_cons, List.length_cons, ih]
theorem putD_rep {G : Gx} {m : List Addr} {E : Hp} {f : Str} {d : D} {v : V} (rd : Rep G m E d v) : ∀ {ks : List Str} {ds : List D} {vs : List V}, ks.length = ds.length → Reps G m E ds vs → Reps G m E (putD f d ks ds) (putD f v ks vs)
  | [], [], vs, _, r => by rw [Reps] at r; subst r; exact Reps.cons rd Reps.nil
  | [], _ :: _, _, h, _ => nomatch h
  | _ :: _, [], _, h, _ => nomatch h
  | g :: r, x :: xs, vs, h, q => by
    obtain ⟨u, t, rfl, q1, q2⟩ := q.uncons
    rw [putD, putD]
    by_cases e : g = f
    · rw [if_pos e, if_pos e]; exact Reps.cons rd q2
    · rw [if_neg e, if_neg e]; exact Reps.cons q1 (putD_rep rd (by simpa using h) q2)
/-- an own thing is written -/
theorem own_put {Z : Addr → Prop} {σ : L2.St} {ρ : DS} {i : Nat} {a : Addr} {c c' : Cell} (hi : ρ[i]? = some (.own a c)) : ownW Z σ (ρ.set i (.own a c')) = ownW Z σ ρ := by
  have hil := (List.getElem?_eq_some_iff.mp hi).1
  funext b
  apply propext
  constructor
  · rintro (h | ⟨j, e, h1⟩)
    · exact .inl h
    · by_cases hj : i = j
      · subst hj
        rw [List.getElem?_set_self hil] at h1
        cases h1
        exact .inr ⟨i, c, hi⟩
      · rw [List.getElem?_set_ne hj] at h1; exact .inr ⟨j, e, h1⟩
  · rintro (h | ⟨j, e, h1⟩)
    · exact .inl h
    · by_cases hj : i = j
      · subst hj
        rw [hi] at h1
        cases h1
        exact .inr ⟨i, c', List.getElem?_set_self hil⟩
      · exact .inr ⟨j, e, by rw [List.getElem?_set_ne hj]; exact h1⟩
theorem SR.putOwn {G : Gx} {Z : Addr → Prop} {m : List Addr} {σ : L2.St} {H : Hp} {ρ : DS} {μ : Mu} (S : SR G Z m σ H ρ μ) {i : Nat} {c c' : Cell} {a : Addr} {o : HO} (hi : ρ[i]? = some (.own a c))
    (hc : CellOk G m (vis (ownW Z σ ρ) m H) (upd H a o) c' a) : SR G Z m σ (upd H a o) (ρ.set i (.own a c')) μ ∧ SStep G Z m σ ρ H m σ (ρ.set i (.own a c')) (upd H a o) := by
  have hil := (List.getElem?_eq_some_iff.mp hi).1
  obtain ⟨hs, nz, _⟩ := S.own i a c hi
  have ow : ownW Z σ (ρ.set i (.own a c')) = ownW Z σ ρ := own_put hi
  have wa : ownW Z σ ρ a := .inr ⟨i, c, hi⟩
  have ev : vis (ownW Z σ ρ) m (upd H a o) = vis (ownW Z σ ρ) m H := by
    funext b
    unfold vis
    by_cases hb : b = a
    · rw [hb, if_pos (.inl wa), if_pos (.inl wa)]
    · rw [upd_ne hb]
  refine ⟨⟨by rw [List.length_set]; exact S.len, ?_, fun j d e => ?_, fun j b e h => ?_, fun j k b e f h1 h2 => ?_, fun j c ks ds h => ?_⟩, List.prefix_refl _, fun z hz => upd_ne fun e => nz (e ▸ hz), by rw [ow, ev]; exact Same.refl _⟩
  · rw [ow]
    refine ⟨S.mu.len, S.mu.nd, S.mu.out, fun z hz => ?_, fun n d b hd hb => ?_⟩
    · by_cases e : z = a
      · rw [e, upd_same]; intro q; cases q
      · rw [upd_ne e]; exact S.mu.hw z hz
    · rw [ev]
      have nb : b ≠ a := fun e => S.mu.out b (List.mem_of_getElem? hb) (e ▸ wa)
      exact (S.mu.cell n d b hd hb).keep (List.prefix_refl _) (Same.refl _) (upd_ne nb)
  · rw [ow, ev]
    have hj : i ≠ j := fun q => by subst q; rw [List.getElem?_set_self hil] at e; cases e
    rw [List.getElem?_set_ne hj] at e
    exact S.val j d e
  · rw [ow, ev]
    by_cases hj : i = j
    · subst hj
      rw [List.getElem?_set_self hil] at h
      cases h
      exact ⟨hs, nz, hc⟩
    · rw [List.getElem?_set_ne hj] at h
      obtain ⟨h1, h2, h3⟩ := S.own j b e h
      exact ⟨h1, h2, h3.keep (List.prefix_refl _) (Same.refl _) (upd_ne fun q => hj (S.dis i j a c e hi (q ▸ h)))⟩
  · have get : ∀ {l : Nat} {b : Addr} {es : Cell}, (ρ.set i (Sl.own a c'))[l]? = some (Sl.own b es) → ∃ es2 : Cell, ρ[l]? = some (Sl.own b es2) := fun {l b es} h => by
      by_cases hj : i = l
      · subst hj
        rw [List.getElem?_set_self hil] at h
        cases h
        exact ⟨c, hi⟩
      · rw [List.getElem?_set_ne hj] at h; exact ⟨es, h⟩
    obtain ⟨_, g1⟩ := get h1
    obtain ⟨_, g2⟩ := get h2
    exact S.dis j k b _ _ g1 g2
  · rw [ow, ev]
    have hj : i ≠ j := fun q => by subst q; rw [List.getElem?_set_self hil] at h; cases h
    rw [List.getElem?_set_ne hj] at h
    exact S.exn j c ks ds h
/-- self.f = value, self the thing that is being made -/
def putOwnI (c0 : Str) (i : Nat) (f : Str) (d : D) (ρ : DS) (k : DS → Prop) : Prop := match ρ[i]? with
  | some (.own a (.ins c ks ds)) => c = c0 ∧ ks.length < 1000 ∧ k (ρ.set i (.own a (.ins c (putK f ks) (putD f d ks ds))))
  | _ => False
theorem putOwnI_of {c : Str} {i : Nat} {f : Str} {d : D} {ρ : DS} {k : DS → Prop} (h : putOwnI c i f d ρ k) : ∃ a ks ds, ρ[i]? = some (.own a (.ins c ks ds)) ∧ ks.length < 1000 ∧ k (ρ.set i (.own a (.ins c (putK f ks) (putD f d ks ds)))) := by
  unfold putOwnI at h
  split at h
  · rename_i e
    obtain ⟨rfl, h⟩ := h
    exact ⟨_, _, _, e, h⟩
  · exact h.elim
def sFldO (c : Str) (i : Nat) (f : Str) (wa : WE) : WS := fun E ρ μ => wa ρ μ (fun d μ1 => putOwnI c i f d ρ fun ρ1 => E.nx ρ1 μ1) fun c ks es μ' => E.xc c ks es ρ μ'
section
variable {ex : Option (Addr × Addr × Addr)} {W : WX} {X : Cx} {e o value : Expr} {wa wo : WE} {pos pos' p0 : Pos}
theorem ds_fldO {i : Nat} {x c f : Str} {C : Addr} (hm : X.mg c = some (.ref C)) (hc : Cls X.K C) (hn : NoAttr X.K C f) (hN : X.N[i]? = some x) (hv : DE ex W X value wa) (hs : swapsWith value (some (.Attribute (.Name x p0) f pos')) pos.line X.env = pure false)
    (hvis : Vis X.env.scope x := by first | exact Or.inl rfl | exact Or.inr (Or.inl rfl) | exact Or.inr (Or.inr rfl)) (hd : (x == ("__debug__" : Str)) = false := by decide) (hcd : (x == ("__classdict__" : Str)) = false := by decide) :
    DSt ex W X (.Assign [.Attribute (.Name x p0) f pos'] value pos) (sFldO c i f wa) := ps_weak (ps_fld (pe_var hN hvis hd hcd) hv hs) fun De σ H q => by
  obtain ⟨Z, m, ρ, μ, E, S, q, kn, kr, kb, kc, kx⟩ := q
  refine ⟨Z, m, ρ, μ, _, _, S, q, fun v H1 P => ?_, fun cls d H' P => kx cls d σ H' (XSPost.of S P)⟩
  obtain ⟨m1, d, μ1, s1, r1, q1⟩ := P
  obtain ⟨a, ks, ds, hi, hl, q2⟩ := putOwnI_of q1
  have S1 := S.step s1
  obtain ⟨ha, nz, C0, dx, vs, g, hv, l, rs⟩ := S1.own i a _ hi
  have hC : C0 = C := by
    have g' : X.mg c = some (.ref C0) := g
    rw [hm] at g'; cases g'; rfl
  subst hC
  have lv : ks.length = vs.length := by rw [l]; exact rs.len
  refine ⟨_, ha, a, C0, dx, _, rfl, hv, hc, hn, by rw [List.length_zip, ← lv, Nat.min_self]; exact hl, ?_⟩
  obtain ⟨S2, s2⟩ := S1.putOwn (o := .ins C0 dx (putF f v (ks.zip vs))) (c' := .ins c (putK f ks) (putD f d ks ds)) hi ⟨C0, dx, putD f v ks vs, g, by rw [upd_same, putF_zip f v ks vs lv], putD_len f ks ds d l, putD_rep r1 l rs⟩
  exact kn _ _ ⟨m1, _, μ1, S2, (SStep.of s1).trans s2, q2⟩
end
end DL

set_option Elab.async false
set_option linter.all false
set_option maxRecDepth 100000
set_option maxHeartbeats 4000000
set_option autoImplicit false
namespace DL
open PySem PySem.Spec PyProof.Rows L2
/-! ### an own thing let go: a datum -/
def cellD : Cell → Option D
  | .lst ds => some (.lst ds)
  | .ins c ks ds => some (.obj c ks ds)
  | .pool => none
theorem cellD_rep {G : Gx} {m : List Addr} {E H : Hp} {c : Cell} {a : Addr} {d : D} (h : CellOk G m E H c a) (e : cellD c = some d) {E' : Hp} (hE : Same E E') (ha : ∀ o, H a = some o → E' a = some o) : Rep G m E' d (.ref a) := by
  cases c with
  | lst ds =>
    cases e
    obtain ⟨vs, h1, h2⟩ := h
    rw [Rep]
    exact ⟨a, vs, rfl, ha _ h1, Reps.mono (List.prefix_refl _) hE _ _ h2⟩
  | ins c ks ds =>
    cases e
    obtain ⟨C, dx, vs, g, h1, l, h2⟩ := h
    rw [Rep]
    exact ⟨a, C, dx, vs, rfl, g, ha _ h1, l, Reps.mono (List.prefix_refl _) hE _ _ h2⟩
  | pool => cases e
theorem SR.free {G : Gx} {Z : Addr → Prop} {m : List Addr} {σ : L2.St} {H : Hp} {ρ : DS} {μ : Mu} (S : SR G Z m σ H ρ μ) {i : Nat} {a : Addr} {c : Cell} {d : D} (hi : ρ[i]? = some (.own a c)) (hd : cellD c = some d) :
    SR G Z m σ H (ρ.set i (.v d)) μ ∧ SStep G Z m σ ρ H m σ (ρ.set i (.v d)) H := by
  have hil := (List.getElem?_eq_some_iff.mp hi).1
  obtain ⟨hs, nz, hc⟩ := S.own i a c hi
  have sub : ∀ b, ownW Z σ (ρ.set i (.v d)) b → ownW Z σ ρ b := fun b h => by
    rcases h with h | ⟨j, e, h1⟩
    · exact .inl h
    · by_cases hj : i = j
      · subst hj; rw [List.getElem?_set_self hil] at h1; cases h1
      · rw [List.getElem?_set_ne hj] at h1; exact .inr ⟨j, e, h1⟩
  have sm := vis_mono (m := m) (H := H) sub
  have nw : ¬ ownW Z σ (ρ.set i (.v d)) a := by
    rintro (h | ⟨j, e, h1⟩)
    · exact nz h
    · by_cases hj : i = j
      · subst hj; rw [List.getElem?_set_self hil] at h1; cases h1
      · rw [List.getElem?_set_ne hj] at h1; exact hj (S.dis i j a c e hi h1)
  refine ⟨⟨by rw [List.length_set]; exact S.len, S.mu.less sub, fun j e h => ?_, fun j b e h => ?_, fun j k b e f h1 h2 => ?_, fun j c ks ds h => ?_⟩, List.prefix_refl _, fun _ _ => rfl, sm⟩
  · by_cases hj : i = j
    · subst hj
      rw [List.getElem?_set_self hil] at h
      cases h
      exact ⟨_, hs, cellD_rep hc hd sm fun o ho => vis_some.mpr ⟨nw, fun q => S.mu.out a q (.inr ⟨i, c, hi⟩), ho⟩⟩
    · rw [List.getElem?_set_ne hj] at h
      obtain ⟨v, h1, h2⟩ := S.val j e h
      exact ⟨v, h1, Rep.mono (List.prefix_refl _) sm _ _ h2⟩
  · by_cases hj : i = j
    · subst hj; rw [List.getElem?_set_self hil] at h; cases h
    · rw [List.getElem?_set_ne hj] at h
      obtain ⟨h1, h2, h3⟩ := S.own j b e h
      exact ⟨h1, h2, h3.keep (List.prefix_refl _) sm rfl⟩
  · have get : ∀ {l : Nat} {b : Addr} {es : Cell}, (ρ.set i (Sl.v d))[l]? = some (Sl.own b es) → ρ[l]? = some (Sl.own b es) := fun {l b es} h => by
      by_cases hj : i = l
      · subst hj; rw [List.getElem?_set_self hil] at h; cases h
      · rw [List.getElem?_set_ne hj] at h; exact h
    exact S.dis j k b _ _ (get h1) (get h2)
  · have hj : i ≠ j := fun q => by subst q; rw [List.getElem?_set_self hil] at h; cases h
    rw [List.getElem?_set_ne hj] at h
    exact (S.exn j c ks ds h).mono (List.prefix_refl _) sm
/-- ahead of a statement: the thing at slot i is let go -/
def frz (i : Nat) (ρ : DS) (k : DS → Prop) : Prop := match ρ[i]? with
  | some (.own _ c) => match cellD c with
    | some d => k (ρ.set i (.v d))
    | none => False
  | _ => False
theorem frz_of {i : Nat} {ρ : DS} {k : DS → Prop} (h : frz i ρ k) : ∃ a c d, ρ[i]? = some (.own a c) ∧ cellD c = some d ∧ k (ρ.set i (.v d)) := by
  unfold frz at h
  split at h
  · split at h
    · exact ⟨_, _, _, by assumption, by assumption, h⟩
    · exact h.elim
  · exact h.elim
def sFrz (i : Nat) (w : WS) : WS := fun E ρ μ => frz i ρ fun ρ1 => w E ρ1 μ
section
variable {ex : Option (Addr × Addr × Addr)} {W : WX} {X : Cx} {st : Stmt} {sts : List Stmt} {w : WS} {e : Expr} {wa : WE} {ws : WA} {es : List Expr} {pos : Pos}
theorem lift_frz {G : Gx} {i : Nat} {De : Ends} {σ : L2.St} {H : Hp} (q : liftS G W (sFrz i w) De σ H) : liftS G W w De σ H := by
  obtain ⟨Z, m, ρ, μ, E, S, q, kn, kr, kb, kc, kx⟩ := q
  obtain ⟨a, c, d, hi, hd, q⟩ := frz_of q
  obtain ⟨S1, s1⟩ := S.free hi hd
  exact ⟨Z, m, _, μ, E, S1, q, fun σ' H' P => kn σ' H' (SPost.from s1 P), fun v H' P => kr v H' (RPost.from s1 P), fun σ' H' P => kb σ' H' (SPost.from s1 P), fun σ' H' P => kc σ' H' (SPost.from s1 P), fun cls d σ' H' P => kx cls d σ' H' (XSPost.from s1 P)⟩
theorem ds_frz (i : Nat) (h : DSt ex W X st w) : DSt ex W X st (sFrz i w) := ps_weak h fun De σ H q => lift_frz q
theorem dss_frz (i : Nat) (h : DSs ex W X sts w) : DSs ex W X sts (sFrz i w) := pss_weak h fun De σ H q => lift_frz q
/-! ### a list of the def's own: made -/
theorem SR.born {G : Gx} {Z : Addr → Prop} {m : List Addr} {σ : L2.St} {H : Hp} {ρ : DS} {μ : Mu} (S : SR G Z m σ H ρ μ) {i : Nat} {p : Addr} {o : HO} {c : Cell} (np : H p = none) (hi : i < ρ.length) (hc : CellOk G m (vis (ownW Z σ ρ) m H) (upd H p o) c p) :
    SR G Z m (σ.set i (some (.ref p))) (upd H p o) (ρ.set i (.own p c)) μ ∧ SStep G Z m σ ρ H m (σ.set i (some (.ref p))) (ρ.set i (.own p c)) (upd H p o) := by
  have hil : i < σ.length := by rw [← S.len]; exact hi
  obtain ⟨f1, f2⟩ := S.mu.fresh np
  have sub : ∀ b, ownW Z (σ.set i (some (.ref p))) (ρ.set i (.own p c)) b → addZ (ownW Z σ ρ) p b := fun b h => by
    rcases h with h | ⟨j, e, h1⟩
    · exact .inl (.inl h)
    · by_cases hj : i = j
      · subst hj; rw [List.getElem?_set_self hi] at h1; cases h1; exact .inr rfl
      · rw [List.getElem?_set_ne hj] at h1; exact .inl (.inr ⟨j, e, h1⟩)
  obtain ⟨Mh, sh⟩ := MuOk.hide (o := o) S.mu np
  have sm : Same (vis (ownW Z σ ρ) m H) (vis (ownW Z (σ.set i (some (.ref p))) (ρ.set i (.own p c))) m (upd H p o)) := sh.trans (vis_mono sub)
  have nzp : ¬ Z p := fun h => f1 (.inl h)
  have old : ∀ {j : Nat} {e : Cell}, ρ[j]? ≠ some (Sl.own p e) := fun {j e} h => f1 (.inr ⟨j, e, h⟩)
  refine ⟨⟨by rw [List.length_set, List.length_set]; exact S.len, Mh.less sub, fun j e h => ?_, fun j b e h => ?_, fun j k b e f h1 h2 => ?_, fun j c ks ds h => ?_⟩, List.prefix_refl _, fun z hz => upd_ne fun q => nzp (q ▸ hz), sm⟩
  · by_cases hj : i = j
    · subst hj; rw [List.getElem?_set_self hi] at h; cases h
    · rw [List.getElem?_set_ne hj] at h
      obtain ⟨v, h1, h2⟩ := S.val j e h
      exact ⟨v, by rw [List.getElem?_set_ne hj]; exact h1, Rep.mono (List.prefix_refl _) sm _ _ h2⟩
  · by_cases hj : i = j
    · subst hj
      rw [List.getElem?_set_self hi] at h
      cases h
      exact ⟨List.getElem?_set_self hil, nzp, hc.keep (List.prefix_refl _) sm rfl⟩
    · rw [List.getElem?_set_ne hj] at h
      obtain ⟨h1, h2, h3⟩ := S.own j b e h
      refine ⟨by rw [List.getElem?_set_ne hj]; exact h1, h2, h3.keep (List.prefix_refl _) sm (upd_ne fun q => ?_)⟩
      subst q
      exact old h
  · by_cases hj : i = j
    · subst hj
      rw [List.getElem?_set_self hi] at h1
      cases h1
      by_cases hk : i = k
      · exact hk
      · rw [List.getElem?_set_ne hk] at h2
        exact absurd h2 old
    · rw [List.getElem?_set_ne hj] at h1
      by_cases hk : i = k
      · subst hk
        rw [List.getElem?_set_self hi] at h2
        cases h2
        exact absurd h1 old
      · rw [List.getElem?_set_ne hk] at h2
        exact S.dis j k b e f h1 h2
  · have hj : i ≠ j := fun q => by subst q; rw [List.getElem?_set_self hi] at h; cases h
    rw [List.getElem?_set_ne hj] at h ⊢
    exact (S.exn j c ks ds h).mono (List.prefix_refl _) sm
def sSetO (i : Nat) (wa : WA) : WS := fun E ρ μ => wa ρ μ (fun ds μ1 => ds.length ≤ 1000 ∧ i < ρ.length ∧ ∀ p, E.nx (ρ.set i (.own p (.lst ds))) μ1) fun c ks es μ' => E.xc c ks es ρ μ'
theorem ds_setO {i : Nat} {x : Str} {pos' lp : Pos} (hN : X.N.Nodup) (hi : X.N[i]? = some x) (he : DA ex W X es ws) (hx : Loc X.env.scope x := by first | exact Or.inl rfl | exact Or.inr rfl)
    (hs : swapsWith (.List es lp) (some (.Name x pos')) pos.line X.env = pure false := by rfl) (hf : X.fn x = true ∨ X.env.scope.names.lookup x = some .local := by first | exact .inl rfl | exact .inr rfl | assumption) :
    DSt ex W X (.Assign [.Name x pos'] (.List es lp) pos) (sSetO i ws) := ps_weak (ps_set (i := i) hN hi hx (pe_lst he) hs hf) fun D σ H q => by
  obtain ⟨Z, m, ρ, μ, E, S, q, kn, kr, kb, kc, kx⟩ := q
  refine ⟨Z, m, ρ, μ, _, _, S, q, fun vs H1 P => ?_, fun cls d H' P => kx cls d σ H' (XSPost.of S P)⟩
  obtain ⟨m1, ds, μ1, s1, r1, hl, hil, q1⟩ := P
  refine ⟨by rw [← r1.len]; exact le1000 hl, fun p np => kn _ _ ?_⟩
  obtain ⟨S2, s2⟩ := (S.step s1).born (o := .lst vs) (c := .lst ds) np hil ⟨vs, upd_same, r1⟩
  exact ⟨m1, _, μ1, S2, (SStep.of s1).trans s2, q1 p⟩
end
end DL

set_option Elab.async false
set_option linter.all false
set_option maxRecDepth 100000
set_option maxHeartbeats 4000000
set_option autoImplicit false
namespace DL
open PySem PySem.Spec PyProof.Rows L2
/-! ### __init__ and the making of instances -/
abbrev ISp := List D → Mu → (List Str → List D → Mu → Prop) → XD → Prop
def InitPost (G : Gx) (Z : Addr → Prop) (x : Addr) (c : Str) (m : List Addr) (H : Hp) (Q : List Str → List D → Mu → Prop) (H' : Hp) : Prop :=
  ∃ m' ks es μ', m <+: m' ∧ (∀ z, Z z → H' z = H z) ∧ MuOk G (addZ Z x) m' μ' H' ∧ Same (vis (addZ Z x) m H) (vis (addZ Z x) m' H') ∧ CellOk G m' (vis (addZ Z x) m' H') H' (.ins c ks es) x ∧ Q ks es μ'
def XInit (G : Gx) (Z : Addr → Prop) (x : Addr) (m : List Addr) (H : Hp) (Xd : XD) (cls : Value) (d : Option Addr) (H' : Hp) : Prop :=
  ∃ m' c ks es μ' C dd vs, m <+: m' ∧ (∀ z, Z z → H' z = H z) ∧ MuOk G Z m' μ' H' ∧ Same (vis (addZ Z x) m H) (vis Z m' H') ∧ cls = .ref C ∧ d = some dd ∧ G.mg c = some (.ref C) ∧ vis Z m' H' dd = some (.xd (ks.zip vs)) ∧ ks.length = es.length ∧
    Reps G m' (vis Z m' H') es vs ∧ Xd c ks es μ'
def toSpI (G : Gx) (c : Str) (sp : ISp) : Sp := fun vs H Q' E => ∃ x us C dx Z m μ ds Q Xd, vs = .ref x :: us ∧ G.mg c = some (.ref C) ∧ H x = some (.ins C dx []) ∧ ¬ Z x ∧ MuOk G (addZ Z x) m μ H ∧ Reps G m (vis (addZ Z x) m H) ds us ∧ sp ds μ Q Xd ∧
  (∀ H', InitPost G Z x c m H Q H' → Q' .non H') ∧ ∀ cls d H', XInit G Z x m H Xd cls d H' → E cls d H'
def startI (N : List Str) (c : Str) (x : Addr) (ds : List D) : DS := .own x (.ins c [] []) :: (ds.map Sl.v ++ List.replicate (N.length - ds.length - 1) Sl.no)
theorem startI_own {N : List Str} {c : Str} {x : Addr} {ds : List D} {i : Nat} {a : Addr} {e : Cell} (h : (startI N c x ds)[i]? = some (.own a e)) : i = 0 ∧ a = x ∧ e = .ins c [] [] := by
  unfold startI at h
  cases i with
  | zero => cases h; exact ⟨rfl, rfl, rfl⟩
  | succ i =>
    rw [List.getElem?_cons_succ] at h
    have hm := List.mem_of_getElem? h
    rcases List.mem_append.mp hm with q | q
    · obtain ⟨d, _, q⟩ := List.mem_map.mp q
      cases q
    · rw [List.mem_replicate] at q
      exact nomatch q.2
theorem startI_ownW {Z : Addr → Prop} {N : List Str} {c : Str} {x : Addr} {ds : List D} {σ : L2.St} : ownW Z σ (startI N c x ds) = addZ Z x := by
  funext b
  apply propext
  constructor
  · rintro (h | ⟨i, e, h⟩)
    · exact .inl h
    · obtain ⟨_, rfl, _⟩ := startI_own h
      exact .inr rfl
  · rintro (h | h)
    · exact .inl h
    · subst h
      exact .inr ⟨0, _, rfl⟩
theorem SR.startI {G : Gx} {Z : Addr → Prop} {m : List Addr} {H : Hp} {μ : Mu} {N : List Str} {ds : List D} {us : List V} {c : Str} {C x dx : Addr} (g : G.mg c = some (.ref C)) (hx : H x = some (.ins C dx [])) (nz : ¬ Z x) (M : MuOk G (addZ Z x) m μ H)
    (r : Reps G m (vis (addZ Z x) m H) ds us) : SR G Z m (L2.start N (.ref x :: us)) H (startI N c x ds) μ := by
  have ow := startI_ownW (Z := Z) (N := N) (c := c) (x := x) (ds := ds) (σ := L2.start N (.ref x :: us))
  refine ⟨?_, by rw [ow]; exact M, fun i d e => ?_, fun i a e h => ?_, fun i j a e f h1 h2 => ?_, fun i c2 ks es e => ?_⟩
  · have hl := r.len
    simp [startI, DL.startI, L2.start]
    omega
  · rw [ow]
    unfold DL.startI at e
    cases i with
    | zero => cases e
    | succ i =>
      rw [List.getElem?_cons_succ, List.getElem?_append] at e
      split at e
      · rename_i hl
        rw [List.getElem?_map] at e
        rw [List.length_map] at hl
        cases q : ds[i]? with
        | none => rw [q] at e; cases e
        | some d' =>
          rw [q] at e
          cases e
          obtain ⟨v, ev, rv⟩ := r.get q
          refine ⟨v, ?_, rv⟩
          unfold L2.start
          rw [List.map_cons, List.cons_append, List.getElem?_cons_succ, List.getElem?_append_left (by rw [List.length_map, ← r.len]; exact hl), List.getElem?_map, ev]
          rfl
      · have := List.mem_of_getElem? e
        rw [List.mem_replicate] at this
        exact nomatch this.2
  · obtain ⟨rfl, rfl, rfl⟩ := startI_own h
    exact ⟨rfl, nz, C, dx, [], g, hx, rfl, Reps.nil⟩
  · rw [(startI_own h1).1, (startI_own h2).1]
  · unfold DL.startI at e
    have hm := List.mem_of_getElem? e
    rcases List.mem_cons.mp hm with q | q
    · cases q
    · rcases List.mem_append.mp q with q | q
      · obtain ⟨d, _, q⟩ := List.mem_map.mp q
        cases q
      · rw [List.mem_replicate] at q
        exact nomatch q.2
/-- the ends of an __init__'s body -/
def initEnd (c : Str) (x : Addr) (Q : List Str → List D → Prop) (ρ : DS) : Prop := match ρ[0]? with
  | some (Sl.own a (Cell.ins c' ks ds)) => a = x ∧ c' = c ∧ Q ks ds
  | _ => False
theorem initEnd_of {c : Str} {x : Addr} {Q : List Str → List D → Prop} {ρ : DS} (h : initEnd c x Q ρ) : ∃ ks ds, ρ[0]? = some (.own x (.ins c ks ds)) ∧ Q ks ds := by
  unfold initEnd at h
  split at h
  · rename_i e
    obtain ⟨rfl, rfl, h⟩ := h
    exact ⟨_, _, e, h⟩
  · exact h.elim
def defI (c : Str) (x : Addr) (Q : List Str → List D → Mu → Prop) (Xd : XD) : DEnds := { nx := fun ρ μ => initEnd c x (fun ks ds => Q ks ds μ) ρ, rt := fun _ _ => False, xc := fun c ks es _ μ => Xd c ks es μ }
section
variable {P : Program} {w : World} {K : PySem.W.Frag} {mg : Str → Option Value} {base : Heap}
theorem def_okI {x qual : Str} {params : Arguments} {body : List Stmt} {scope : Scope} {dvs : List V} {kws : List (Str × V)} {f : Addr} {fd : FuncData} {N ps : List Str} {k : Nat} {c : Str} {sp : ISp} {wb : WS} (F : FunD K x qual params body scope dvs kws f fd) (S : FnScope N ps scope)
    (len : ∀ ds μ Q Xd, sp ds μ Q Xd → ds.length + 1 = ps.length)
    (hbody : ∀ (cdv : Value) (A : Around) (fr : List Env) (s : Shared) (H : Hp) (E : XK), Room k (A.deeper (envOfC qual scope s.heap.objs.size f cdv)) → (A.deeper (envOfC qual scope s.heap.objs.size f cdv)).guards = some [] →
      DSs none (fun cls d _ H' => E cls d H') (cxOf (L2.CX P w) P w K mg base N qual scope f cdv A fr s H E) body wb)
    (hw : ∀ ds μ Q Xd (a : Addr), sp ds μ Q Xd → wb (defI c a Q Xd) (startI N c a ds) μ) : FnG P w K mg base (k + 1) f fd ps (toSpI ⟨K, mg, none⟩ c sp) := by
  refine fnG_of F S (fun vs H Q E h => ?_) (fun cdv A outer s H vs Q E hr hgd h => ?_)
  · obtain ⟨a, us, C, dx, Z, m, μ, ds, Q', Xd, rfl, _, _, _, _, r, q, _⟩ := h
    rw [List.length_cons, ← r.len]
    exact len _ _ _ _ q
  · refine ⟨_, hbody cdv A outer s H E hr hgd, ?_⟩
    obtain ⟨a, us, C, dx, Z, m, μ, ds, Q', Xd, rfl, g, hx, nz, M, r, q, kq, kx⟩ := h
    refine ⟨Z, m, startI N c a ds, μ, defI c a Q' Xd, .startI g hx nz M r, hw ds μ Q' Xd a q, fun σ' H' P => ?_, fun v H' P => ?_, fun σ' H' P => ?_, fun σ' H' P => ?_, fun cls d σ' H' P => ?_⟩
    · obtain ⟨m', ρ', μ', S', s', q'⟩ := P
      obtain ⟨ks, es, h0, q2⟩ := initEnd_of q'
      obtain ⟨_, _, hc⟩ := S'.own 0 a _ h0
      have z := s'.same
      rw [startI_ownW] at z
      have sub : ∀ b, addZ Z a b → ownW Z σ' ρ' b := fun b h => by
        rcases h with h | h
        · exact .inl h
        · subst h; exact .inr ⟨0, _, h0⟩
      have sm := vis_mono (m := m') (H := H') sub
      exact kq _ ⟨m', ks, es, μ', s'.pre, s'.hid, S'.mu.less sub, z.trans sm, hc.keep (List.prefix_refl _) sm rfl, q2⟩
    · obtain ⟨m', d, μ', h1, h2, h3, h4, h5, h6⟩ := P
      exact h6.elim
    · obtain ⟨m', ρ', μ', S', s', q'⟩ := P
      exact q'.elim
    · obtain ⟨m', ρ', μ', S', s', q'⟩ := P
      exact q'.elim
    · obtain ⟨m', c', ks, es, ρ', μ', C', dd, vs', S', s', e1, e2, e3, e4, e5, e6, q'⟩ := P
      have z := s'.same
      rw [startI_ownW] at z
      exact kx _ _ _ ⟨m', c', ks, es, μ', C', dd, vs', s'.pre, s'.hid, S'.mu.out_own, z.trans vis_own, e1, e2, e3, vis_own _ _ e4, e5, Reps.mono (List.prefix_refl _) vis_own _ _ e6, q'⟩
end
/-! made -/
section
variable {ex : Option (Addr × Addr × Addr)} {W : WX} {X : Cx} {e o : Expr} {es : List Expr} {wa wo : WE} {ws : WA} {pos p apos : Pos} {k : Nat} {f C : Addr} {fd : FuncData} {ps : List Str} {c : Str}
theorem run_makeG {sp : Sp} {pins : List (Addr × Obj)} {σ : L2.St} {H : Hp} {s : Shared} {Q : VK} {us : List Value} {vs : List V} (M : Mk X.K C f) (F : FnG X.prog X.w X.K X.mg X.base k f fd ps sp) (hr : Room (k + 1) X.A) (hgd : X.A.guards = some []) (hb : Binds X.K fd ps [])
    (tk : Takes X W) (I : Inv X pins σ H s) (r : Vals vs us)
    (h : ∀ x dx, H x = none → H dx = none → dx ≠ x → sp (.ref x :: vs) (upd (upd H dx (.own x)) x (.ins C dx [])) (fun v H2 => v = .non ∧ Q (.ref x) H2) (L2.WE W σ)) :
    wpAny (model X.prog X.w) X.A (call (.ref C) us) (EP X pins σ Q) X.xe s := by
  have hq := h (s.heap.objs.size + 1) s.heap.objs.size (I.hok.fresh (Nat.le_succ _)) (I.hok.fresh (Nat.le_refl _)) (Nat.ne_of_lt (Nat.lt_succ_self _))
  have I2 := Inv.made (C := C) I
  have r2 : Vals (V.ref (s.heap.objs.size + 1) :: vs) (Value.ref (s.heap.objs.size + 1) :: us) := .cons rfl r
  have hl : (Value.ref (s.heap.objs.size + 1) :: us).length = ps.length := r2.length.symm.trans (F.len _ _ _ _ hq)
  have bd := hb _ (Value.ref (s.heap.objs.size + 1) :: us) I2.kIn (by simpa using hl)
  rw [List.append_nil] at bd
  refine wpAny_call (make_map (f := f) I.kIn M.makes M.init (beq_iff_eq.mp M.fn) (codeAny_mono (F.run _ X.stack _ _ ⟨Value.ref (s.heap.objs.size + 1) :: us, []⟩ (Value.ref (s.heap.objs.size + 1) :: us) _ _ _ (hr.make C us []) hgd (I2.env0.make C us []) bd r2 hq) fun res s2 hres => ?_))
  match res, hres with
  | .error er, hres => exact passAt tk σ pins _ _ er s2 I2 hres
  | .ok (.ret u), hres =>
    obtain ⟨v, H', I3, rv, ev, q3⟩ := I2.after hres
    subst ev
    exact ⟨rv, ⟨V.ref (s.heap.objs.size + 1), H', I3, rfl, q3⟩⟩
/-- C(..): the made thing as a datum; as a cell -/
def wMake (c : Str) (sp : ISp) (wa : WA) : WE := fun ρ μ Q Xd => wa ρ μ (fun ds μ1 => sp ds μ1 (fun ks es μ2 => Q (.obj c ks es) μ2) Xd) Xd
def wMakeC (c : Str) (sp : ISp) (wa : WA) : WE := fun ρ μ Q Xd => wa ρ μ (fun ds μ1 => sp ds μ1 (fun ks es μ2 => Q (.loc μ2.length) (μ2 ++ [.ins c ks es])) Xd) Xd
theorem made_in {G : Gx} {Z : Addr → Prop} {m : List Addr} {μ : Mu} {H : Hp} (M : MuOk G Z m μ H) {x dx C : Addr} (nx : H x = none) (nd : H dx = none) (ne : dx ≠ x) :
    ¬ Z x ∧ MuOk G (addZ Z x) m μ (upd (upd H dx (.own x)) x (.ins C dx [])) ∧ Same (vis Z m H) (vis (addZ Z x) m (upd (upd H dx (.own x)) x (.ins C dx []))) ∧ ∀ z, Z z → upd (upd H dx (.own x)) x (.ins C dx []) z = H z := by
  have s1 := Step.laid (o := .own x) M nd
  have nx' : upd H dx (.own x) x = none := by rw [upd_ne (Ne.symm ne)]; exact nx
  obtain ⟨M2, sm⟩ := MuOk.hide (o := .ins C dx []) s1.mu nx'
  have nz : ¬ Z x := fun z => M.hw x z nx
  refine ⟨nz, M2, s1.same.trans sm, fun z hz => ?_⟩
  have hb : z ≠ x := fun q => nz (q ▸ hz)
  exact (upd_ne hb).trans (s1.hid z hz)
theorem lift_make {G : Gx} {sp : ISp} {b : Bool} (hm : G.mg c = some (.ref C)) {σ : L2.St} {H : Hp} {Q' : VK} (q : lift G W (if b = true then wMake c sp ws else wMakeC c sp ws) σ H Q') :
    liftA G W ws σ H fun vs H1 => ∀ x dx, H1 x = none → H1 dx = none → dx ≠ x → toSpI G c sp (.ref x :: vs) (upd (upd H1 dx (.own x)) x (.ins C dx [])) (fun v H2 => v = .non ∧ Q' (.ref x) H2) (L2.WE W σ) := by
  obtain ⟨Z, m, ρ, μ, Q, Xd, S, q, k, kx⟩ := q
  cases b with
  | true =>
    rw [if_pos rfl] at q
    refine ⟨Z, m, ρ, μ, _, Xd, S, q, fun vs H1 P x dx nx nd ne => ?_, kx⟩
    obtain ⟨m1, ds, μ1, s1, r1, q1⟩ := P
    obtain ⟨nz, M2, sm, hid⟩ := made_in (C := C) s1.mu nx nd ne
    refine ⟨x, vs, C, dx, _, m1, μ1, ds, _, Xd, rfl, hm, upd_same, nz, M2, Reps.mono (List.prefix_refl _) sm _ _ r1, q1, fun H' P => ⟨rfl, k _ _ (VPost.from s1 ?_)⟩, fun cls d H' P => kx cls d H' (XPost.from s1 ?_)⟩
    · obtain ⟨m', ks, es, μ', h1, h2, h3, h4, h5, h6⟩ := P
      have sub : ∀ b, ownW Z σ ρ b → addZ (ownW Z σ ρ) x b := fun b h => .inl h
      refine ⟨m', _, μ', ⟨h1, fun z hz => (h2 z hz).trans (hid z hz), h3.less sub, (sm.trans h4).trans (vis_mono sub)⟩, ?_, h6⟩
      exact cellD_rep h5 rfl (vis_mono sub) fun o ho => vis_some.mpr ⟨nz, fun q => h3.out x q (.inr rfl), ho⟩
    · obtain ⟨m', c', ks, es, μ', C', dd, vs', h1, h2, h3, h4, e1, e2, e3, e4, e5, e6, h6⟩ := P
      exact ⟨m', c', ks, es, μ', C', dd, vs', ⟨h1, fun z hz => (h2 z hz).trans (hid z hz), h3, sm.trans h4⟩, e1, e2, e3, e4, e5, e6, h6⟩
  | false =>
    rw [if_neg Bool.false_ne_true] at q
    refine ⟨Z, m, ρ, μ, _, Xd, S, q, fun vs H1 P x dx nx nd ne => ?_, kx⟩
    obtain ⟨m1, ds, μ1, s1, r1, q1⟩ := P
    obtain ⟨nz, M2, sm, hid⟩ := made_in (C := C) s1.mu nx nd ne
    refine ⟨x, vs, C, dx, _, m1, μ1, ds, _, Xd, rfl, hm, upd_same, nz, M2, Reps.mono (List.prefix_refl _) sm _ _ r1, q1, fun H' P => ⟨rfl, k _ _ (VPost.from s1 ?_)⟩, fun cls d H' P => kx cls d H' (XPost.from s1 ?_)⟩
    · obtain ⟨m', ks, es, μ', h1, h2, h3, h4, h5, h6⟩ := P
      have sub : ∀ b, ownW Z σ ρ b → addZ (ownW Z σ ρ) x b := fun b h => .inl h
      have sm2 : vis (ownW Z σ ρ) (m' ++ [x]) H' = vis (addZ (ownW Z σ ρ) x) m' H' := by
        funext b
        unfold vis addZ
        by_cases hb : (ownW Z σ ρ b ∨ b = x) ∨ b ∈ m'
        · rw [if_pos hb, if_pos]
          rcases hb with (h | h) | h
          · exact .inl h
          · exact .inr (by simp [h])
          · exact .inr (by simp [h])
        · rw [if_neg hb, if_neg]
          rintro (h | h)
          · exact hb (.inl (.inl h))
          · rcases List.mem_append.mp h with q | q
            · exact hb (.inr q)
            · exact hb (.inl (.inr (by simpa using q)))
      have nm : x ∉ m' := fun q => h3.out x q (.inr rfl)
      have pre : m' <+: m' ++ [x] := List.prefix_append _ _
      refine ⟨m' ++ [x], _, μ' ++ [.ins c ks es], ⟨h1.trans pre, fun z hz => (h2 z hz).trans (hid z hz), ⟨by simp [h3.len], ?_, fun a ha => ?_, fun z hz => h3.hw z (.inl hz), fun n d a hd ha => ?_⟩, by rw [sm2]; exact sm.trans h4⟩, ?_, h6⟩
      · rw [List.nodup_append]
        refine ⟨h3.nd, by simp, fun a ha b hb => ?_⟩
        rw [List.mem_singleton] at hb
        subst hb
        exact fun e => nm (e ▸ ha)
      · rcases List.mem_append.mp ha with q | q
        · exact fun z => h3.out a q (.inl z)
        · rw [List.mem_singleton] at q; subst q; exact nz
      · rw [sm2]
        by_cases hn : n < m'.length
        · rw [List.getElem?_append_left hn] at ha
          rw [List.getElem?_append_left (by rw [← h3.len]; exact hn)] at hd
          exact (h3.cell n d a hd ha).keep pre (Same.refl _) rfl
        · have hlt := (List.getElem?_eq_some_iff.mp ha).1
          have e : n = m'.length := by simp at hlt; omega
          subst e
          rw [List.getElem?_concat_length] at ha
          rw [h3.len, List.getElem?_concat_length] at hd
          cases ha
          cases hd
          exact h5.keep pre (Same.refl _) rfl
      · rw [Rep]
        exact ⟨x, rfl, by rw [← h3.len]; exact List.getElem?_concat_length⟩
    · obtain ⟨m', c', ks, es, μ', C', dd, vs', h1, h2, h3, h4, e1, e2, e3, e4, e5, e6, h6⟩ := P
      exact ⟨m', c', ks, es, μ', C', dd, vs', ⟨h1, fun z hz => (h2 z hz).trans (hid z hz), h3, sm.trans h4⟩, e1, e2, e3, e4, e5, e6, h6⟩
theorem de_makeB (b : Bool) {x : Str} {sp : ISp} (M : Mk X.K C f) (F : FnG X.prog X.w X.K X.mg X.base k f fd ps (toSpI (gx X ex) x sp)) (hr : Room (k + 1) X.A) (hgd : X.A.guards = some []) (hg : Gl X x) (hm : X.mg x = some (.ref C)) (hb : Binds X.K fd ps [])
    (tk : Takes X W) (ha : DA ex W X (e :: es) ws) (hdb : (x == ("__debug__" : Str)) = false := by decide)
    (he : starEach (e :: es) X.env = (false, eval e X.env) :: starEach es X.env := by rfl) (hpl : (backTo pos (starEach es X.env)).any (·.1) = false := by rfl) :
    DE ex W X (.Call (.Name x p) (e :: es) [] pos) (if b = true then wMake x sp ws else wMakeC x sp ws) := by
  refine ⟨fun pins s σ H Q I h => ?_⟩
  refine wpAny_Call_Name_kw (ld_glob I hg hm ?_ hdb)
  refine PySem.W.callWith_K (h₀ := X.base) I.ok.mod.kin M.kp (thn (ha.run pos pins s σ H _ I (lift_make (G := gx X ex) hm h)) fun us s1 ⟨vs, H1, I1, r, q⟩ => ⟨I1.kIn, ?_⟩) he hpl
  exact run_makeG M F hr hgd hb tk I1 r q
theorem de_make {x : Str} {sp : ISp} (M : Mk X.K C f) (F : FnG X.prog X.w X.K X.mg X.base k f fd ps (toSpI (gx X ex) x sp)) (hr : Room (k + 1) X.A) (hgd : X.A.guards = some []) (hg : Gl X x) (hm : X.mg x = some (.ref C)) (hb : Binds X.K fd ps [])
    (tk : Takes X W) (ha : DA ex W X (e :: es) ws) (hdb : (x == ("__debug__" : Str)) = false := by decide)
    (he : starEach (e :: es) X.env = (false, eval e X.env) :: starEach es X.env := by rfl) (hpl : (backTo pos (starEach es X.env)).any (·.1) = false := by rfl) :
    DE ex W X (.Call (.Name x p) (e :: es) [] pos) (wMake x sp ws) := de_makeB true M F hr hgd hg hm hb tk ha hdb he hpl
theorem de_makeC {x : Str} {sp : ISp} (M : Mk X.K C f) (F : FnG X.prog X.w X.K X.mg X.base k f fd ps (toSpI (gx X ex) x sp)) (hr : Room (k + 1) X.A) (hgd : X.A.guards = some []) (hg : Gl X x) (hm : X.mg x = some (.ref C)) (hb : Binds X.K fd ps [])
    (tk : Takes X W) (ha : DA ex W X (e :: es) ws) (hdb : (x == ("__debug__" : Str)) = false := by decide)
    (he : starEach (e :: es) X.env = (false, eval e X.env) :: starEach es X.env := by rfl) (hpl : (backTo pos (starEach es X.env)).any (·.1) = false := by rfl) :
    DE ex W X (.Call (.Name x p) (e :: es) [] pos) (wMakeC x sp ws) := de_makeB false M F hr hgd hg hm hb tk ha hdb he hpl
end
end DL

set_option Elab.async false
set_option linter.all false
set_option maxRecDepth 100000
set_option maxHeartbeats 4000000
set_option autoImplicit false
namespace DL
open PySem PySem.Spec PyProof.Rows L2
/-! ### methods -/
/-- an instance's class; its attributes' names -/
def clsD (d : D) (μ : Mu) : Option (Str × List Str) := (insD d μ).map fun x => (x.1, x.2.1)
def hasCls (c m : Str) (d : D) (μ : Mu) (Q : Prop) : Prop := match insD d μ with
  | some (c', ks, _) => c' = c ∧ ks.contains m = false ∧ Q
  | none => False
theorem hasCls_of {c m : Str} {d : D} {μ : Mu} {Q : Prop} (h : hasCls c m d μ Q) : ∃ ks ds, insD d μ = some (c, ks, ds) ∧ ks.contains m = false ∧ Q := by
  unfold hasCls at h
  split at h
  · rename_i e
    obtain ⟨rfl, h⟩ := h
    exact ⟨_, _, e, h⟩
  · exact h.elim
theorem lookup_zip_none {α : Type} {m : Str} : ∀ {ks : List Str} {vs : List α}, ks.contains m = false → (ks.zip vs).lookup m = none
  | [], _, _ => by simp
  | _ :: _, [], _ => by simp
  | k :: ks, v :: vs, h => by
    rw [List.contains_cons, Bool.or_eq_false_iff] at h
    rw [List.zip_cons_cons, List.lookup_cons, h.1]
    exact lookup_zip_none h.2
/-- o.m(..) -/
def wMeth (c m : Str) (sp : DSp) (wo : WE) (wa : WA) : WE := fun ρ μ Q Xd => wo ρ μ (fun x μ1 => hasCls c m x μ1 (wa ρ μ1 (fun ds μ2 => sp (x :: ds) μ2 Q Xd) Xd)) Xd
section
variable {ex : Option (Addr × Addr × Addr)} {W : WX} {X : Cx} {e o : Expr} {es : List Expr} {wa wo : WE} {ws : WA} {pos p apos : Pos} {k : Nat} {f C : Addr} {fd : FuncData} {ps : List Str} {c m : Str} {sp : DSp}
def tMethG (K : PySem.W.Frag) (C : Addr) (m : Str) (sp : Sp) (W : WX) (to : TE) (ta : TA) : TE := fun σ H Q => to σ H fun x H1 => ∃ a dx fs, x = .ref a ∧ H1 a = some (.ins C dx fs) ∧ fs.lookup m = none ∧ ta σ H1 fun vs H2 => sp (.ref a :: vs) H2 Q (L2.WE W σ)
theorem pe_methG {sp : Sp} {to : TE} {ta : TA} {pl : Sem Bool} (he : PE X o to) (hc : Cls X.K C) (hm : Meth X.K C m f) (F : FnG X.prog X.w X.K X.mg X.base k f fd ps sp) (hr : Room k X.A) (hgd : X.A.guards = some []) (hb : Binds X.K fd ps []) (tk : Takes X W) (ha : PA X (e :: es) ta)
    (hst : starEach (e :: es) X.env = (false, eval e X.env) :: starEach es X.env) (hpl : (backTo pos (starEach es X.env)).any (·.1) = false)
    (ht : eval (.Call (.Attribute o m apos) (e :: es) [] pos) X.env = (do
      let ov ← eval o X.env
      standAt apos.atName
      let (f, first) ← holding [ov] (getMethod ov m pl)
      callWith pos f first (backTo pos (starEach (e :: es) X.env)) (backToKw pos (keywordEach [] X.env)))) :
    PE X (.Call (.Attribute o m apos) (e :: es) [] pos) (tMethG X.K C m sp W to ta) := by
  refine ⟨fun pins s σ H Q I h => ?_⟩
  refine PySem.W.methodCall_KW (pl := pl) (thn (he.run pins s σ H _ I h) fun u s1 hx => ?_) ht
  obtain ⟨x, H1, I1, rx, a, dx, fs, ex, ea, l, q⟩ := hx
  subst ex
  obtain rfl : u = Value.ref a := rx
  refine getmeth_ok I1 ea hc hm l ?_
  refine PySem.W.callWith_K (first := [.ref a]) (h₀ := X.base) I.ok.mod.kin hm.kp (thn (ha.run pos pins s1 σ H1 _ I1 q) fun us s2 hx => ?_) hst hpl
  obtain ⟨vs, H2, I2, r, q2⟩ := hx
  exact ⟨I2.kIn, run_fnG (us := .ref a :: us) (vs := .ref a :: vs) F hr hgd hb tk I2 (.cons rfl r) q2⟩
theorem pe_methG0 {sp : Sp} {to : TE} {pl : Sem Bool} (he : PE X o to) (hc : Cls X.K C) (hm : Meth X.K C m f) (F : FnG X.prog X.w X.K X.mg X.base k f fd ps sp) (hr : Room k X.A) (hgd : X.A.guards = some []) (hb : Binds X.K fd ps []) (tk : Takes X W)
    (ht : eval (.Call (.Attribute o m apos) [] [] pos) X.env = (do
      let ov ← eval o X.env
      standAt apos.atName
      let (f, first) ← holding [ov] (getMethod ov m pl)
      callWith pos f first (backTo pos (starEach [] X.env)) (backToKw pos (keywordEach [] X.env)))) :
    PE X (.Call (.Attribute o m apos) [] [] pos) (tMethG X.K C m sp W to tNil) := by
  refine ⟨fun pins s σ H Q I h => ?_⟩
  refine PySem.W.methodCall_KW (pl := pl) (thn (he.run pins s σ H _ I h) fun u s1 hx => ?_) ht
  obtain ⟨x, H1, I1, rx, a, dx, fs, ex, ea, l, q⟩ := hx
  subst ex
  obtain rfl : u = Value.ref a := rx
  refine getmeth_ok I1 ea hc hm l ?_
  exact PySem.W.callWith_K0 (first := [.ref a]) I1.kIn hm.kp (run_fnG (us := [.ref a]) (vs := [.ref a]) F hr hgd hb tk I1 (.cons rfl .nil) q)
theorem lift_meth {G : Gx} {C : Addr} (hmC : G.mg c = some (.ref C)) {σ : L2.St} {H : Hp} {Q' : VK} (q : lift G W (wMeth c m sp wo ws) σ H Q') : tMethG G.K C m (toSp G sp) W (lift G W wo) (liftA G W ws) σ H Q' := by
  obtain ⟨Z, m0, ρ, μ, Q, Xd, S, q, k, kx⟩ := q
  refine ⟨Z, m0, ρ, μ, _, Xd, S, q, fun v H1 P => ?_, kx⟩
  obtain ⟨m1, x, μ1, s1, r1, q1⟩ := P
  obtain ⟨ks, ds, hi, hks, q2⟩ := hasCls_of q1
  obtain ⟨a, C', dx, vs, rfl, g, ha, l, rs⟩ := ins_rep s1.mu r1 hi
  rw [hmC] at g
  cases g
  refine ⟨a, dx, _, rfl, ha, lookup_zip_none hks, Z, m1, ρ, μ1, _, Xd, S.step s1, q2, fun us H2 P => ?_, fun cls d H' P => kx cls d H' (XPost.from s1 P)⟩
  obtain ⟨m2, es, μ2, s2, r2, q3⟩ := P
  exact ⟨_, m2, μ2, x :: es, Q, Xd, s2.mu, Reps.cons (Rep.mono s2.pre s2.same _ _ r1) r2, q3, fun v H' P => k v H' (VPost.from (s1.trans s2) P), fun cls d H' P => kx cls d H' (XPost.from (s1.trans s2) P)⟩
theorem de_meth {pl : Sem Bool} (hmC : X.mg c = some (.ref C)) (hc : Cls X.K C) (hm : Meth X.K C m f) (F : FnG X.prog X.w X.K X.mg X.base k f fd ps (toSp (gx X ex) sp)) (hr : Room k X.A) (hgd : X.A.guards = some []) (hb : Binds X.K fd ps []) (tk : Takes X W) (he : DE ex W X o wo) (ha : DA ex W X (e :: es) ws)
    (hst : starEach (e :: es) X.env = (false, eval e X.env) :: starEach es X.env := by rfl) (hpl : (backTo pos (starEach es X.env)).any (·.1) = false := by rfl)
    (ht : eval (.Call (.Attribute o m apos) (e :: es) [] pos) X.env = (do
      let ov ← eval o X.env
      standAt apos.atName
      let (f, first) ← holding [ov] (getMethod ov m pl)
      callWith pos f first (backTo pos (starEach (e :: es) X.env)) (backToKw pos (keywordEach [] X.env))) := by rfl) :
    DE ex W X (.Call (.Attribute o m apos) (e :: es) [] pos) (wMeth c m sp wo ws) := pe_weak (pe_methG he hc hm F hr hgd hb tk ha hst hpl ht) fun _ _ _ q => lift_meth (G := gx X ex) hmC q
theorem de_meth0 {pl : Sem Bool} (hmC : X.mg c = some (.ref C)) (hc : Cls X.K C) (hm : Meth X.K C m f) (F : FnG X.prog X.w X.K X.mg X.base k f fd ps (toSp (gx X ex) sp)) (hr : Room k X.A) (hgd : X.A.guards = some []) (hb : Binds X.K fd ps []) (tk : Takes X W) (he : DE ex W X o wo)
    (ht : eval (.Call (.Attribute o m apos) [] [] pos) X.env = (do
      let ov ← eval o X.env
      standAt apos.atName
      let (f, first) ← holding [ov] (getMethod ov m pl)
      callWith pos f first (backTo pos (starEach [] X.env)) (backToKw pos (keywordEach [] X.env))) := by rfl) :
    DE ex W X (.Call (.Attribute o m apos) [] [] pos) (wMeth c m sp wo wNil) := pe_weak (pe_methG0 he hc hm F hr hgd hb tk ht) fun σ H Q' q => by
  obtain ⟨Z, m0, ρ, μ, Q, Xd, S, q, k, kx⟩ := q
  refine ⟨Z, m0, ρ, μ, _, Xd, S, q, fun v H1 P => ?_, kx⟩
  obtain ⟨m1, x, μ1, s1, r1, q1⟩ := P
  obtain ⟨ks, ds, hi, hks, q2⟩ := hasCls_of q1
  obtain ⟨a, C', dx, vs, rfl, g, ha, l, rs⟩ := ins_rep s1.mu r1 hi
  have g' : X.mg c = some (.ref C') := g
  rw [hmC] at g'
  cases g'
  exact ⟨a, dx, _, rfl, ha, lookup_zip_none hks, ⟨_, m1, μ1, [x], Q, Xd, s1.mu, Reps.cons r1 Reps.nil, q2, fun v H' P => k v H' (VPost.from s1 P), fun cls d H' P => kx cls d H' (XPost.from s1 P)⟩⟩
end
/-! ### own operators -/
/-- what of the text an operator of a class needs: the def; beside a value of a built-in type -/
structure OpFn (K : PySem.W.Frag) (C : Addr) (op : Operator) (f : Addr) : Prop where
  first : PySem.W.selfFirst K C = true
  at_ : PySem.W.findIn K (.ref C) (PySem.dunder op.info.2) = some (some (.ref f))
  fn : PySem.W.isFn K (.ref f) = true
  back : ∃ rc, PySem.W.findIn K (.ref C) (PySem.dunderR op.info.2) = some rc ∧ (rc = none ∨ ∃ g : Addr, rc = some (.ref g))
structure OpTy (K : PySem.W.Frag) (C : Addr) (op : Operator) (T : String) : Prop where
  fo : ∃ r, PySem.W.findIn K (.type T) (PySem.dunder op.info.2) = some r
  ro : ∃ r, PySem.W.findIn K (.type T) (PySem.dunderR op.info.2) = some r
  sub : PySem.W.subIn K (.type T) (.ref C) = some false

section
open PySem.W
variable {prog : Program} {w : World} {A : Around} {E : Value → Shared → Prop} {s : Shared} {K : Frag} {x C g : Addr} {ox : Obj} {od : Option Obj} {T : String}
/-- x op y, y of a built-in type: x's own def is asked -/
theorem bin_own {op : Operator} {y : Value} {QQ : Value → Shared → Prop} (kin : K.In s.heap) (J : InstAt s.heap x ox C od) (ty : Looks (model prog w) s.heap (typeOf y) (.type T)) (O : OpFn K C op g) (B : OpTy K C op T)
    (run : wpAny (model prog w) A (call (.ref g) [.ref x, y]) (PySem.W.CmpBack QQ) E s) : wpAny (model prog w) A (binaryOp op (.ref x) y) QQ E s := by
  obtain ⟨cd, tl, e1, e2⟩ := ksp_first O.first
  obtain ⟨rc, hrc, hp⟩ := O.back
  obtain ⟨fo, hfo⟩ := B.fo
  obtain ⟨ro, hro⟩ := B.ro
  have hs := O.at_
  rcases hi : op.info with ⟨sg, nn⟩
  rw [hi] at hs hrc hfo hro
  dsimp only at hs hrc hfo hro
  have ask := ksp_try kin J hs O.fn run
  obtain ⟨hh, gg, dd, tt, os⟩ := s
  have t1 : Looks (model prog w) hh (typeOf (.ref x)) (.ref C) := J.type
  have t2 : Looks (model prog w) hh (typeOf y) (.type T) := ty
  have t3 : Looks (model prog w) hh (fillsNumberSlot (.ref C) nn) true := fills_K kin e1 e2 hs
  have t4 : Looks (model prog w) hh (fillsNumberSlot (.type T) nn) ((fo.isSome && !isSeqSlot fo) || (ro.isSome && !isSeqSlot ro)) := ksp_fillsT kin hfo hro
  have t5 : Looks (model prog w) hh (isSubtype (.type T) (.ref C)) false := looks_subIn kin B.sub
  have t6 : Looks (model prog w) hh (numberSlotInPython (.ref C) nn) true := ksp_inPy kin hs hrc hp
  have t7 : Looks (model prog w) hh (numberSlotInPython (.type T) nn) false := Looks.of_pure rfl
  have t8 : Looks (model prog w) hh (typeLookup (.type T) (dunderR nn)) ro := looks_findIn kin hro
  generalize ((fo.isSome && !isSeqSlot fo) || (ro.isSome && !isSeqSlot ro)) = right at t4
  have dif : (Value.ref C == Value.type T) = false := Bool.eq_false_iff.mpr fun z => by cases beq_iff_eq.mp z
  simp only [binaryOp, hi]
  refine wpAny_holding (wpAny_bind ?_)
  unfold binaryOp1
  refine wpAny_bind (t1.at (wpAny_bind (t2.at (wpAny_bind (t3.at ?_)))))
  simp only [dif, Bool.false_eq_true, if_false]
  cases right with
  | false =>
    ksp_lk
    refine wpAny_mono ask (fun r s2 got => ?_) fun _ _ z => z
    obtain ⟨v, rfl, hq⟩ := got
    ksp_lk
    exact hq
  | true =>
    ksp_lk
    refine wpAny_mono ask (fun r s2 got => ?_) fun _ _ z => z
    obtain ⟨v, rfl, hq⟩ := got
    ksp_lk
    exact hq
end
/-- the other operand: of a built-in type that is listed, or of the class itself -/
def othTy (c : Str) (Ts : List String) (y : D) (μ : Mu) (Q : Prop) : Prop := match tyD y μ with
  | some (.b T) => T ∈ Ts ∧ Q
  | some (.c c') => c' = c ∧ Q
  | none => False
theorem othTy_of {c : Str} {Ts : List String} {y : D} {μ : Mu} {Q : Prop} (h : othTy c Ts y μ Q) : ((∃ T, tyD y μ = some (.b T) ∧ T ∈ Ts) ∨ tyD y μ = some (.c c)) ∧ Q := by
  unfold othTy at h
  split at h
  · exact ⟨.inl ⟨_, by assumption, h.1⟩, h.2⟩
  · rename_i e
    obtain ⟨rfl, h⟩ := h
    exact ⟨.inr e, h⟩
  · exact h.elim
def isCls (c : Str) (d : D) (μ : Mu) (Q : Prop) : Prop := match insD d μ with
  | some (c', _, _) => c' = c ∧ Q
  | none => False
theorem isCls_of {c : Str} {d : D} {μ : Mu} {Q : Prop} (h : isCls c d μ Q) : ∃ ks ds, insD d μ = some (c, ks, ds) ∧ Q := by
  unfold isCls at h
  split at h
  · rename_i e
    obtain ⟨rfl, h⟩ := h
    exact ⟨_, _, e, h⟩
  · exact h.elim
/-- x op y by x's own def -/
def wBinO (c : Str) (Ts : List String) (sp : DSp) (wa wb : WE) : WE := fun ρ μ Q Xd => wa ρ μ (fun x μ1 => wb ρ μ1 (fun y μ2 => isCls c x μ2 (othTy c Ts y μ2 (sp [x, y] μ2 Q Xd))) Xd) Xd
section
variable {ex : Option (Addr × Addr × Addr)} {W : WX} {X : Cx} {a b : Expr} {wa wb : WE} {pos : Pos} {k : Nat} {f C : Addr} {fd : FuncData} {ps : List Str} {c : Str} {sp : DSp} {Ts : List String}
def tBinG (K : PySem.W.Frag) (C : Addr) (op : Operator) (sp : Sp) (W : WX) (ta tb : TE) : TE := fun σ H Q => ta σ H fun x H1 => tb σ H1 fun y H2 => ∃ p dx fs t, x = .ref p ∧ H2 p = some (.ins C dx fs) ∧ TyX K H2 y t ∧ ((∃ T, t = .type T ∧ OpTy K C op T) ∨ t = .ref C) ∧ sp [x, y] H2 Q (L2.WE W σ)
theorem pe_binG {op : Operator} {sp : Sp} {ta tb : TE} (O : OpFn X.K C op f) (F : FnG X.prog X.w X.K X.mg X.base k f fd ps sp) (hr : Room k X.A) (hgd : X.A.guards = some []) (hb : Binds X.K fd ps []) (tk : Takes X W) (h1 : PE X a ta) (h2 : PE X b tb) :
    PE X (.BinOp a op b pos) (tBinG X.K C op sp W ta tb) := by
  refine ⟨fun pins s σ H Q I h => ?_⟩
  refine wpAny_BinOp (binT h1 h2 I h fun v u s2 x y H2 I2 rx ry q => ?_)
  obtain ⟨p, dx, fs, t, rfl, hp, ty, cs, q⟩ := q
  obtain rfl : v = Value.ref p := rx
  obtain ⟨mA, O2, _⟩ := ins_get I2.hok hp
  obtain ⟨od, J, _⟩ := O2.look
  obtain ⟨PP, Z, pp, _⟩ := kit_of I2 ry ty
  have lk := Z.ty (model X.prog X.w) s2.heap I2.kIn pp
  have fin : wpAny (model X.prog X.w) X.A (call (.ref f) [.ref p, u]) (PySem.W.CmpBack (EP X pins σ Q)) X.xe s2 :=
    wpAny_mono (run_fnG (us := [.ref p, u]) (vs := [.ref p, y]) F hr hgd hb tk I2 (.cons rfl (.cons ry .nil)) q) (fun w' s' z => by
      obtain ⟨z', H', I', rz, qz⟩ := z
      exact SlX.cmpback rz ⟨z', H', I', rz, qz⟩) fun _ _ z => z
  rcases cs with ⟨T, rfl, B⟩ | rfl
  · exact bin_own I2.kIn J lk O B fin
  · obtain ⟨m0, hF⟩ := I2.fr
    exact PySem.W.binop_K hF I2.ok.mod.kin J lk O.first O.at_ O.fn fin
theorem de_binO {op : Operator} (hmC : X.mg c = some (.ref C)) (hI : InsT X.K C) (O : OpFn X.K C op f) (hT : ∀ T ∈ Ts, OpTy X.K C op T) (F : FnG X.prog X.w X.K X.mg X.base k f fd ps (toSp (gx X ex) sp)) (hr : Room k X.A) (hgd : X.A.guards = some []) (hb : Binds X.K fd ps []) (tk : Takes X W)
    (h1 : DE ex W X a wa) (h2 : DE ex W X b wb) : DE ex W X (.BinOp a op b pos) (wBinO c Ts sp wa wb) := pe_weak (pe_binG O F hr hgd hb tk h1 h2) fun σ H Q' q => by
  obtain ⟨Z, m, ρ, μ, Q, Xd, S, q, k, kx⟩ := q
  refine ⟨Z, m, ρ, μ, _, Xd, S, q, fun v H1 P => ?_, kx⟩
  obtain ⟨m1, x, μ1, s1, r1, q1⟩ := P
  refine ⟨Z, m1, ρ, μ1, _, Xd, S.step s1, q1, fun u H2 P => ?_, fun cls d H' P => kx cls d H' (XPost.from s1 P)⟩
  obtain ⟨m2, y, μ2, s2, r2, q2⟩ := P
  obtain ⟨ks, ds, hi, q3⟩ := isCls_of q2
  obtain ⟨hty, q4⟩ := othTy_of q3
  have r1' := Rep.mono s2.pre s2.same _ _ r1
  obtain ⟨p, C', dx, vs, rfl, g, hp, l, rs⟩ := ins_rep s2.mu r1' hi
  have g' : X.mg c = some (.ref C') := g
  rw [hmC] at g'
  cases g'
  have s12 := s1.trans s2
  have fin : toSp (gx X ex) sp [.ref p, u] H2 Q' (L2.WE W σ) := ⟨_, m2, μ2, [x, y], Q, Xd, s2.mu, Reps.cons r1' (Reps.cons r2 Reps.nil), q4, fun v H' P => k v H' (VPost.from s12 P), fun cls d H' P => kx cls d H' (XPost.from s12 P)⟩
  rcases hty with ⟨T, e, hT'⟩ | e
  · obtain ⟨tv, t1, t2⟩ := tyX_of (G := gx X ex) s2.mu r2 e (fun c' z => nomatch z)
    exact ⟨p, dx, _, tv, rfl, hp, t2, .inl ⟨T, t1, hT T hT'⟩, fin⟩
  · obtain ⟨tv, t1, t2⟩ := tyX_of (G := gx X ex) s2.mu r2 e (fun c' z C' g => by
      cases z
      have g' : X.mg c = some (.ref C') := g
      rw [hmC] at g'
      cases g'
      exact hI)
    obtain ⟨C', g, rfl⟩ := t1
    have g' : X.mg c = some (.ref C') := g
    rw [hmC] at g'
    cases g'
    exact ⟨p, dx, _, _, rfl, hp, t2, .inr rfl, fin⟩
end
end DL

set_option Elab.async false
set_option linter.all false
set_option maxRecDepth 100000
set_option maxHeartbeats 4000000
set_option autoImplicit false
namespace DL
open PySem PySem.Spec PyProof.Rows L2
/-! ### what can be called, by name -/
section
variable {P : Program} {w : World} {K : PySem.W.Frag} {mg : Str → Option Value} {base : Heap}
structure CallD (P : Program) (w : World) (K : PySem.W.Frag) (mg : Str → Option Value) (base : Heap) (k : Nat) (x : Str) (ps : List Str) (sp : DSp) : Prop where
  ex : ∃ f fd, mg x = some (.ref f) ∧ PySem.W.keepIn K (.ref f) = true ∧ Binds K fd ps [] ∧ FnG P w K mg base k f fd ps (toSp ⟨K, mg, none⟩ sp)
structure MethD (P : Program) (w : World) (K : PySem.W.Frag) (mg : Str → Option Value) (base : Heap) (k : Nat) (c m : Str) (ps : List Str) (sp : DSp) : Prop where
  ex : ∃ C f fd, mg c = some (.ref C) ∧ Cls K C ∧ Meth K C m f ∧ Binds K fd ps [] ∧ FnG P w K mg base k f fd ps (toSp ⟨K, mg, none⟩ sp)
structure MakeD (P : Program) (w : World) (K : PySem.W.Frag) (mg : Str → Option Value) (base : Heap) (k : Nat) (c : Str) (ps : List Str) (sp : ISp) : Prop where
  ex : ∃ C f fd, mg c = some (.ref C) ∧ Mk K C f ∧ Binds K fd ps [] ∧ FnG P w K mg base k f fd ps (toSpI ⟨K, mg, none⟩ c sp)
structure OperD (P : Program) (w : World) (K : PySem.W.Frag) (mg : Str → Option Value) (base : Heap) (k : Nat) (c : Str) (op : Operator) (Ts : List String) (ps : List Str) (sp : DSp) : Prop where
  ex : ∃ C f fd, mg c = some (.ref C) ∧ InsT K C ∧ OpFn K C op f ∧ (∀ T ∈ Ts, OpTy K C op T) ∧ Binds K fd ps [] ∧ FnG P w K mg base k f fd ps (toSp ⟨K, mg, none⟩ sp)
structure FldD (K : PySem.W.Frag) (mg : Str → Option Value) (c f : Str) : Prop where
  ex : ∃ C, mg c = some (.ref C) ∧ Cls K C ∧ NoAttr K C f
end
section
variable {W : WX} {X : Cx} {e o : Expr} {es : List Expr} {wa wo : WE} {ws : WA} {pos p apos : Pos} {k j : Nat} {ps : List Str} {x c m : Str} {sp : DSp}
theorem de_callD (C : CallD X.prog X.w X.K X.mg X.base k x ps sp) (hr : Room j X.A) (hkj : k ≤ j) (hgd : X.A.guards = some []) (hg : Gl X x) (tk : Takes X W) (ha : DA none W X (e :: es) ws) (hdb : (x == ("__debug__" : Str)) = false := by decide)
    (he : starEach (e :: es) X.env = (false, eval e X.env) :: starEach es X.env := by rfl) (hpl : (backTo pos (starEach es X.env)).any (·.1) = false := by rfl) : DE none W X (.Call (.Name x p) (e :: es) [] pos) (wCall sp ws) := by
  obtain ⟨f, fd, h1, h2, h3, F⟩ := C.ex
  exact de_call F (hr.mono hkj) hgd hg h1 h2 h3 tk ha hdb he hpl
theorem de_callD0 (C : CallD X.prog X.w X.K X.mg X.base k x ps sp) (hr : Room j X.A) (hkj : k ≤ j) (hgd : X.A.guards = some []) (hg : Gl X x) (tk : Takes X W) (hdb : (x == ("__debug__" : Str)) = false := by decide) : DE none W X (.Call (.Name x p) [] [] pos) (wCall sp wNil) := by
  obtain ⟨f, fd, h1, h2, h3, F⟩ := C.ex
  exact de_call0 F (hr.mono hkj) hgd hg h1 h2 h3 tk hdb
theorem de_methD {pl : Sem Bool} (C : MethD X.prog X.w X.K X.mg X.base k c m ps sp) (hr : Room j X.A) (hkj : k ≤ j) (hgd : X.A.guards = some []) (tk : Takes X W) (he : DE none W X o wo) (ha : DA none W X (e :: es) ws)
    (hst : starEach (e :: es) X.env = (false, eval e X.env) :: starEach es X.env := by rfl) (hpl : (backTo pos (starEach es X.env)).any (·.1) = false := by rfl)
    (ht : eval (.Call (.Attribute o m apos) (e :: es) [] pos) X.env = (do
      let ov ← eval o X.env
      standAt apos.atName
      let (f, first) ← holding [ov] (getMethod ov m pl)
      callWith pos f first (backTo pos (starEach (e :: es) X.env)) (backToKw pos (keywordEach [] X.env))) := by rfl) : DE none W X (.Call (.Attribute o m apos) (e :: es) [] pos) (wMeth c m sp wo ws) := by
  obtain ⟨Ca, f, fd, h1, h2, h3, h4, F⟩ := C.ex
  exact de_meth h1 h2 h3 F (hr.mono hkj) hgd h4 tk he ha hst hpl ht
theorem de_methD0 {pl : Sem Bool} (C : MethD X.prog X.w X.K X.mg X.base k c m ps sp) (hr : Room j X.A) (hkj : k ≤ j) (hgd : X.A.guards = some []) (tk : Takes X W) (he : DE none W X o wo)
    (ht : eval (.Call (.Attribute o m apos) [] [] pos) X.env = (do
      let ov ← eval o X.env
      standAt apos.atName
      let (f, first) ← holding [ov] (getMethod ov m pl)
      callWith pos f first (backTo pos (starEach [] X.env)) (backToKw pos (keywordEach [] X.env))) := by rfl) : DE none W X (.Call (.Attribute o m apos) [] [] pos) (wMeth c m sp wo wNil) := by
  obtain ⟨Ca, f, fd, h1, h2, h3, h4, F⟩ := C.ex
  exact de_meth0 h1 h2 h3 F (hr.mono hkj) hgd h4 tk he ht
theorem de_makeD {isp : ISp} (C : MakeD X.prog X.w X.K X.mg X.base k x ps isp) (hr : Room j X.A) (hkj : k + 1 ≤ j) (hgd : X.A.guards = some []) (hg : Gl X x) (tk : Takes X W) (ha : DA none W X (e :: es) ws) (hdb : (x == ("__debug__" : Str)) = false := by decide)
    (he : starEach (e :: es) X.env = (false, eval e X.env) :: starEach es X.env := by rfl) (hpl : (backTo pos (starEach es X.env)).any (·.1) = false := by rfl) : DE none W X (.Call (.Name x p) (e :: es) [] pos) (wMake x isp ws) := by
  obtain ⟨Ca, f, fd, h1, h2, h3, F⟩ := C.ex
  exact de_make h2 F (hr.mono hkj) hgd hg h1 h3 tk ha hdb he hpl
theorem de_makeDC {isp : ISp} (C : MakeD X.prog X.w X.K X.mg X.base k x ps isp) (hr : Room j X.A) (hkj : k + 1 ≤ j) (hgd : X.A.guards = some []) (hg : Gl X x) (tk : Takes X W) (ha : DA none W X (e :: es) ws) (hdb : (x == ("__debug__" : Str)) = false := by decide)
    (he : starEach (e :: es) X.env = (false, eval e X.env) :: starEach es X.env := by rfl) (hpl : (backTo pos (starEach es X.env)).any (·.1) = false := by rfl) : DE none W X (.Call (.Name x p) (e :: es) [] pos) (wMakeC x isp ws) := by
  obtain ⟨Ca, f, fd, h1, h2, h3, F⟩ := C.ex
  exact de_makeC h2 F (hr.mono hkj) hgd hg h1 h3 tk ha hdb he hpl
theorem de_operD {a b : Expr} {wb : WE} {op : Operator} {Ts : List String} (C : OperD X.prog X.w X.K X.mg X.base k c op Ts ps sp) (hr : Room j X.A) (hkj : k ≤ j) (hgd : X.A.guards = some []) (tk : Takes X W) (h1 : DE none W X a wa) (h2 : DE none W X b wb) :
    DE none W X (.BinOp a op b pos) (wBinO c Ts sp wa wb) := by
  obtain ⟨Ca, f, fd, g1, g2, g3, g4, g5, F⟩ := C.ex
  exact de_binO g1 g2 g3 g4 F (hr.mono hkj) hgd g5 tk h1 h2
theorem de_fldD {f : Str} (C : FldD X.K X.mg c f) (he : DE none W X e wa) (hb : attributeBase e f X.env (eval e X.env) = eval e X.env := by rfl) : DE none W X (.Attribute e f pos) (w1 (fFld c f) wa) := by
  obtain ⟨Ca, h1, h2, h3⟩ := C.ex
  exact de_fld h1 h2 h3 he hb
theorem ds_fldOD {i : Nat} {f : Str} {value : Expr} {p0 pos' : Pos} (C : FldD X.K X.mg c f) (hN : X.N[i]? = some x) (hv : DE none W X value wa) (hs : swapsWith value (some (.Attribute (.Name x p0) f pos')) pos.line X.env = pure false := by rfl)
    (hvis : Vis X.env.scope x := by first | exact Or.inl rfl | exact Or.inr (Or.inl rfl) | exact Or.inr (Or.inr rfl)) (hd : (x == ("__debug__" : Str)) = false := by decide) (hcd : (x == ("__classdict__" : Str)) = false := by decide) :
    DSt none W X (.Assign [.Attribute (.Name x p0) f pos'] value pos) (sFldO c i f wa) := by
  obtain ⟨Ca, h1, h2, h3⟩ := C.ex
  exact ds_fldO h1 h2 h3 hN hv hs hvis hd hcd
theorem room64 {A : Around} (h : Room k A) : A.units + 64 < cLine := by have := h.un; omega
theorem room65 {A : Around} (h : Room k A) : A.units + 65 < cLine := by have := h.un; omega
end
/-! ### one rule for several kinds -/
def F2.or (f g : F2) : F2 := fun x y μ Q => f x y μ Q ∨ g x y μ Q
theorem s2_or {G : Gx} {r r' : R2} {f g : F2} (h1 : S2 G r f) (h2 : S2 G r' g) : S2 G (fun x y H Q => r x y H Q ∨ r' x y H Q) (F2.or f g) := by
  intro Z m μ H x y u v Q Q' M rx ry h k
  rcases h with h | h
  · exact .inl (h1 Z m μ H x y u v Q Q' M rx ry h k)
  · exact .inr (h2 Z m μ H x y u v Q Q' M rx ry h k)
/-- + of ints or lists, * of ints or a list and an int -/
def fPlus : F2
  | .int i, .int j, μ, Q => Q (.int (i + j)) μ
  | .lst a, .lst b, μ, Q => a.length + b.length ≤ sizeLine ∧ Q (.lst (a ++ b)) μ
  | _, _, _, _ => False
def fTimes : F2
  | .int i, .int j, μ, Q => CM i j ∧ Q (.int (i * j)) μ
  | .lst a, .int n, μ, Q => -(2 ^ 63) ≤ n ∧ n < 2 ^ 63 ∧ a.length * n.toNat ≤ sizeLine ∧ Q (.lst (List.replicate n.toNat a).flatten) μ
  | _, _, _, _ => False
theorem S2.imp {G : Gx} {r : R2} {f g : F2} (h : S2 G r f) (k : ∀ x y μ Q, g x y μ Q → f x y μ Q) : S2 G r g := fun Z m μ H x y u v Q Q' M rx ry q kk => h Z m μ H x y u v Q Q' M rx ry (k _ _ _ _ q) kk
theorem s2_plus {G : Gx} : S2 G (fun x y H Q => rI0 (fun i j => .int (i + j)) x y H Q ∨ rCat x y H Q) fPlus := (s2_or s2_II0 s2_cat).imp fun x y μ Q h => by
  unfold fPlus at h
  split at h
  · exact .inl h
  · exact .inr h
  · exact h.elim
theorem s2_times {G : Gx} : S2 G (fun x y H Q => rI CM (fun i j => .int (i * j)) x y H Q ∨ rRep x y H Q) fTimes := (s2_or s2_II s2_rep).imp fun x y μ Q h => by
  unfold fTimes at h
  split at h
  · exact .inl h
  · exact .inr h
  · exact h.elim
section
variable {ex : Option (Addr × Addr × Addr)} {W : WX} {X : Cx} {a b : Expr} {wa wb : WE} {pos : Pos}
theorem de_plus (ha : DE ex W X a wa) (hb : DE ex W X b wb) : DE ex W X (.BinOp a .Add b pos) (w2 fPlus wa wb) := de_op (op_add.or op_cat) s2_plus ha hb
theorem de_times (ha : DE ex W X a wa) (hb : DE ex W X b wb) : DE ex W X (.BinOp a .Mult b pos) (w2 fTimes wa wb) := de_op (op_mulU.or op_rep) s2_times ha hb
end
/-! ### the end: the law's def at the script -/
theorem mu_none {G : Gx} {H : Hp} : MuOk G (fun _ => False) [] [] H := ⟨rfl, by simp, fun a h => by simp at h, fun z h => h.elim, fun n c a h _ => by simp at h⟩
theorem vis_none_all {H : Hp} : vis (fun _ => False) [] H = H := by
  funext b
  unfold vis
  rw [if_neg (by simp)]
theorem sp_start {K : PySem.W.Frag} {mg : Str → Option Value} {sp : DSp} {H : Hp} {a : Addr} {ns : List Int} (hS : SqL K H a (ns.map V.int)) (h : sp [.frl (ns.map D.int)] [] (fun d _ => d = .bl true) xF) :
    toSp ⟨K, mg, none⟩ sp [.ref a] H (fun v _ => v = .bl true) fun _ _ _ => False := by
  refine ⟨fun _ => False, [], [], _, _, _, mu_none, ?_, h, fun v H' P => ?_, fun cls d H' P => xpF P⟩
  · rw [vis_none_all]
    refine Reps.cons ?_ Reps.nil
    rw [Rep]
    exact ⟨a, _, rfl, hS, reps_ints ns⟩
  · obtain ⟨m', d, μ', s, r, rfl⟩ := P
    rw [Rep] at r
    exact r
theorem call_at {P : Program} {w : World} {K : PySem.W.Frag} {mg bm : Str → Option Value} {k : Nat} {fa sc : Addr} {fd : FuncData} {x : Str} {sp : Sp} {s1 : Shared} {vs : List Value} {ns : List Int}
    (kin : K.In s1.heap) (gl : s1.heap.Ns mainGlobals mg) (bl : s1.heap.Ns builtinsNs bm) (bb : ∀ y : Str, y ≠ "__name__" → bm y = bootBuiltins y) (nolim : s1.heap.NoLimit) (gens : s1.gens = #[])
    (at_ : s1.heap.get? sc = some { cls := .type "list", data := .seq vs.toArray }) (iv : IntsAre vs ns) (few : ns.length ≤ sizeLine) (room : Room k callerA)
    (F : ∀ base : Heap, K.In base → base.Ns mainGlobals mg → FnG P w K mg base k fa fd [x] sp) (bind : ∀ (s : Shared) (u : Value), BindsTo s fd ⟨[u], []⟩ [(x, u)])
    (holds : ∀ H : Hp, SqL K H sc (ns.map V.int) → sp [.ref sc] H (fun v _ => v = .bl true) fun _ _ _ => False) :
    codeAny (model P w) callerA (.call (.ref fa) ⟨[.ref sc], []⟩) (fun r s' => r = .ok (.ret (.bool true)) ∧ OldK s1.heap s'.heap ∧ s'.os = s1.os ∧ AllBare s'.gens) s1 := by
  have lenI := iv.length
  have main : ∀ H : Hp, (∀ b, H b = none ∨ ∃ o xs, H b = some (.frz o (.lst xs))) → SqL K H sc (ns.map V.int) → HOk P w H s1.heap → (∀ b, H b ≠ none → b = sc) → (H sc ≠ none → K.lookup sc = none) →
      codeAny (model P w) callerA (.call (.ref fa) ⟨[.ref sc], []⟩) (fun r s' => r = .ok (.ret (.bool true)) ∧ OldK s1.heap s'.heap ∧ s'.os = s1.os ∧ AllBare s'.gens) s1 := by
    intro H frz isL hok alone free
    have none_of : ∀ {b : Addr}, b ≠ sc → H b = none := fun {b} nb => by
      cases z : H b with
      | none => rfl
      | some u => exact absurd (alone b (by rw [z]; simp)) nb
    have seen : ∀ {b : Addr} {o : Obj}, s1.heap.get? b = some o → H b = none → (hidT s1.heap H).get? b = some o := fun e n => hidT_get e n
    have notSc : ∀ {b : Addr} {o : Obj} {es : Array DictEntry} {ep : Nat}, s1.heap.get? b = some o → o.data = .dict es ep → b ≠ sc := fun {b o es ep} e d z => by
      subst z
      rw [at_] at e
      cases e
      cases (show Data.seq vs.toArray _ = Data.dict es ep from d)
    have names : ∀ {b : Addr} {m : Str → Option Value}, s1.heap.Ns b m → (hidT s1.heap H).Ns b m := fun {b m} hn => by
      obtain ⟨o, es, ep, e, d, r⟩ := hn
      exact ⟨o, es, ep, seen e (none_of (notSc e d)), d, r⟩
    have inB : K.In (hidT s1.heap H) := fun b o e => seen (kin b o e) (by
      cases z : H b with
      | none => rfl
      | some u =>
        have eb := alone b (by rw [z]; simp)
        subst eb
        rw [free (by rw [z]; simp)] at e
        cases e)
    obtain ⟨lm, l1, l2⟩ := nolim
    have md : Mod K mg (hidT s1.heap H) := ⟨inB, names gl, ⟨bm, names bl, bb⟩, ⟨lm, names l1, l2⟩⟩
    have env : Env0 P w K mg (hidT s1.heap H) callerA [] s1 H := ⟨rfl, md, fun b o e => of_hidT e, Nat.le_of_eq (hidT_size _ _), trivial, fun b hb => by simp [frs] at hb, hok, .of_eq gens⟩
    refine codeAny_mono ((F _ inB (names gl)).run callerA [] s1 H ⟨[.ref sc], []⟩ [.ref sc] [.ref sc] _ _ room rfl env (bind s1 (.ref sc)) (.cons rfl .nil) (holds H isL)) fun res s2 out => ?_
    match res, out with
    | .error er, out =>
      obtain ⟨_, _, _, _, _, _, _, _, _, _, _, _, z⟩ := out
      exact z.elim
    | .ok (.ret u), out =>
      obtain ⟨v, H', os, bare, un, hok', rv, ev⟩ := out
      have ev' : v = .bl true := ev
      subst ev'
      obtain rfl : u = Value.bool true := rv
      refine ⟨rfl, OldK.of_keep fun b o e => ?_, os, bare⟩
      rcases frz b with z | ⟨ob, xs, z⟩
      · exact un.keep b o e z (by simp [frs]) (by simp)
      · obtain ⟨e1, _⟩ := hok b _ z
        obtain ⟨e2, _⟩ := hok' b _ (un.frzs b ob _ z)
        rw [e] at e1
        cases e1
        exact e2
  cases hk : K.lookup sc with
  | some o =>
    have e := kin sc o hk
    rw [at_] at e
    cases e
    have isL : SqL K (fun _ => none) sc (ns.map V.int) := .inr ⟨_, vs.toArray, _, hk, rfl, rfl, rfl, by rw [List.size_toArray, lenI]; exact few, by simpa using vals_ints iv⟩
    exact main (fun _ => none) (fun _ => .inl rfl) isL (fun b u z => nomatch z) (fun b z => absurd rfl z) (fun z => absurd rfl z)
  | none =>
    obtain ⟨HH, eq1, eq2⟩ : ∃ HH : Hp, (∀ b, b = sc → HH b = some (.frz { cls := .type "list", data := .seq vs.toArray } (.lst (ns.map V.int)))) ∧ ∀ b, b ≠ sc → HH b = none :=
      ⟨fun b => if b = sc then some (.frz { cls := .type "list", data := .seq vs.toArray } (.lst (ns.map V.int))) else none, fun b hb => if_pos hb, fun b hb => if_neg hb⟩
    refine main HH (fun b => ?_) (.inl (.inr ⟨_, eq1 sc rfl⟩)) (fun b u z => ?_) (fun b z => ?_) fun _ => hk
    · by_cases hb : b = sc
      · exact .inr ⟨_, _, eq1 b hb⟩
      · exact .inl (eq2 b hb)
    · by_cases hb : b = sc
      · rw [eq1 b hb] at z
        cases z
        subst hb
        exact ⟨at_, by rw [List.length_map]; exact few, vs, _, vals_ints iv, at_⟩
      · rw [eq2 b hb] at z
        cases z
    · by_cases hb : b = sc
      · exact hb
      · exact absurd (eq2 b hb) z
/-- the goal that the head leaves, from the promise of the law's def -/
theorem walk_ofD {l : PySem.W.OpenLaw} {n k : Nat} {q : Program} {loose : List Str} {XP : (Str → Option Value) → Heap → Prop} {YP : World → Heap → Prop} {d : DefRec} {x : Str} {sp : DSp}
    (most : l.most = some n) (small : n ≤ sizeLine) (nodef : d.params.defaults = []) (room : Room k callerA)
    (F : ∀ (w : World) (mg : Str → Option Value) (fa : Addr) (h : Heap), YP w h → h.Ns mainGlobals mg → mg d.name = some (.ref fa) →
      ∃ (K : PySem.W.Frag) (fd : FuncData), K.In h ∧ (∀ (s : Shared) (u : Value), BindsTo s fd ⟨[u], []⟩ [(x, u)]) ∧ ∀ base : Heap, K.In base → base.Ns mainGlobals mg → FnG l.prog w K mg base k fa fd [x] (toSp ⟨K, mg, none⟩ sp))
    (holds : ∀ ns : List Int, ns.length ≤ n → sp [.frl (ns.map D.int)] [] (fun d _ => d = .bl true) xF) : PySem.W.WalkO q loose XP YP l.row.toRowW d [] (fun f vs => PySem.call f vs) := by
  refine Att.attach_call most nodef fun w s0 s1 mg bm fa o pm cd doc a vs ns G Y ho hd hcd hmg hobj hints hlen hgens => ?_
  obtain ⟨K, fd, kin, bind, hF⟩ := F w mg fa _ Y G.T.g hmg
  exact call_at kin G.T.g G.T.b G.T.builtins G.T.nolimit hgens hobj hints (Nat.le_trans hlen small) room hF bind fun H hS => sp_start hS (holds ns hlen)
end DL

set_option Elab.async false
set_option linter.all false
set_option maxRecDepth 100000
set_option maxHeartbeats 4000000
set_option autoImplicit false
namespace DL
open PySem PySem.Spec PyProof.Rows L2
/-! ### isinstance by a table -/
abbrev IsiL := List ((TyN × TyN) × Bool)
def isiF (L : IsiL) (t u : TyN) : Option Bool := (L.find? fun e => decide (e.1 = (t, u))).map (·.2)
def tvK (K : PySem.W.Frag) : TyN → Value
  | .b n => .type n
  | .c c => .ref (He.ga K c)
def insB (K : PySem.W.Frag) (c : Str) : Bool := (He.Fa.cls c).ok K && (He.eqO (PySem.W.findIn K (.ref (He.ga K c)) "__class__") (some (some (.builtin "object.__class__"))) && (He.eqO (PySem.W.specialIn K (.builtin "object.__class__") "__get__") (some (some (.builtin "getset_descriptor.__get__"))) &&
  (decide (PySem.W.takesIn K (.builtin "object.__class__") = some true) && decide (PySem.W.mroIn K (He.ga K c) (.type "object") = some true))))
theorem insB_ok {K : PySem.W.Frag} {c : Str} (h : insB K c = true) : InsT K (He.ga K c) := by
  obtain ⟨h1, h⟩ := He.ba h
  obtain ⟨h2, h⟩ := He.ba h
  obtain ⟨h3, h⟩ := He.ba h
  obtain ⟨h4, h5⟩ := He.ba h
  exact ⟨He.cls_ok h1, He.eqO_ok h2, He.eqO_ok h3, of_decide_eq_true h4, of_decide_eq_true h5⟩
def tyB (K : PySem.W.Frag) : TyN → Bool
  | .b _ => true
  | .c c => (He.Fa.glo c).ok K && insB K c
def clB (K : PySem.W.Frag) : TyN → Bool
  | .b _ => true
  | .c c => (He.Fa.glo c).ok K
def isiB (L : IsiL) (K : PySem.W.Frag) : Bool := L.all fun e => tyB K e.1.1 && (clB K e.1.2 && decide (PySem.W.kitOne K (tvK K e.1.1) (tvK K e.1.2) = some e.2))
section
variable {K : PySem.W.Frag} {h : Heap} {mg : Str → Option Value} (X : K.In h) (G : h.Ns mainGlobals mg)
include X G
theorem tv_of {t : TyN} {v : Value} {ex : Option (Addr × Addr × Addr)} (c : clB K t = true) (hv : TyVal ⟨K, mg, ex⟩ t v) : v = tvK K t := by
  cases t with
  | b n => exact hv
  | c c0 =>
    obtain ⟨C, h1, rfl⟩ := hv
    have h1' : mg c0 = some (.ref C) := h1
    rw [He.glo_ok X G c] at h1'
    cases h1'
    rfl
theorem isiTab_of {L : IsiL} {ex : Option (Addr × Addr × Addr)} (c : isiB L K = true) : IsiTab ⟨K, mg, ex⟩ (isiF L) := by
  have get : ∀ {t u b}, isiF L t u = some b → tyB K t = true ∧ clB K u = true ∧ PySem.W.kitOne K (tvK K t) (tvK K u) = some b := fun {t u b} e => by
    unfold isiF at e
    obtain ⟨z, e1, e2⟩ := Option.map_eq_some_iff.mp e
    have m := List.mem_of_find?_eq_some e1
    have p : z.1 = (t, u) := by
      have q := List.find?_some e1
      exact of_decide_eq_true q
    obtain ⟨zz, bb⟩ := z
    cases p
    cases e2
    have q := List.all_eq_true.mp c _ m
    obtain ⟨q1, q⟩ := He.ba q
    obtain ⟨q2, q3⟩ := He.ba q
    exact ⟨q1, q2, of_decide_eq_true q3⟩
  have lo : ∀ {t}, tyB K t = true → clB K t = true := fun {t} e => by
    cases t with
    | b n => rfl
    | c c0 => exact (He.ba e).1
  refine ⟨fun t u b e tv uv ht hu => ?_, fun c0 u b e C g => ?_⟩
  · obtain ⟨q1, q2, q3⟩ := get e
    rw [tv_of X G (lo q1) ht, tv_of X G q2 hu]
    exact q3
  · obtain ⟨q1, _, _⟩ := get e
    obtain ⟨q2, q4⟩ := He.ba q1
    have g' : mg c0 = some (.ref C) := g
    rw [He.glo_ok X G q2] at g'
    cases g'
    exact insB_ok q4
end
/-! ### own operators -/
def backB (K : PySem.W.Frag) (c : Str) (nm : Str) : Bool := match PySem.W.findIn K (.ref (He.ga K c)) nm with
  | some none => true
  | some (some (.ref _)) => true
  | _ => false
def oneB (K : PySem.W.Frag) (T : String) (nm rn : Str) : Bool := (PySem.W.findIn K (.type T) nm).isSome && (PySem.W.findIn K (.type T) rn).isSome
def opB (K : PySem.W.Frag) (c nm rn : Str) (Ts : List String) : Bool := (He.Fa.glo c).ok K && (insB K c && (PySem.W.selfFirst K (He.ga K c) && (He.eqO (PySem.W.findIn K (.ref (He.ga K c)) nm) (some (some (.ref (He.ma K (He.ga K c) nm)))) &&
  (PySem.W.isFn K (.ref (He.ma K (He.ga K c) nm)) && (backB K c rn && Ts.all fun T => oneB K T nm rn && decide (PySem.W.subIn K (.type T) (.ref (He.ga K c)) = some false))))))
theorem operD_of {P : Program} {w : World} {K : PySem.W.Frag} {h : Heap} {mg : Str → Option Value} {base : Heap} {k : Nat} {c nm rn : Str} {op : Operator} {Ts : List String} {ps : List Str} {sp : DSp} {fd : FuncData} (X : K.In h) (G : h.Ns mainGlobals mg)
    (B : opB K c nm rn Ts = true) (e1 : PySem.dunder op.info.2 = nm) (e2 : PySem.dunderR op.info.2 = rn) (bi : Binds K fd ps []) (F : FnG P w K mg base k (He.fAd K (c, some nm)) fd ps (toSp ⟨K, mg, none⟩ sp)) : OperD P w K mg base k c op Ts ps sp := by
  subst e1 e2
  obtain ⟨h1, B⟩ := He.ba B
  obtain ⟨h2, B⟩ := He.ba B
  obtain ⟨h3, B⟩ := He.ba B
  obtain ⟨h4, B⟩ := He.ba B
  obtain ⟨h5, B⟩ := He.ba B
  obtain ⟨h6, h7⟩ := He.ba B
  refine ⟨_, _, fd, He.glo_ok X G h1, insB_ok h2, ⟨h3, He.eqO_ok h4, h5, ?_⟩, fun T hT => ?_, bi, F⟩
  · unfold backB at h6
    split at h6
    · rename_i e; exact ⟨_, e, .inl rfl⟩
    · rename_i g e; exact ⟨_, e, .inr ⟨g, rfl⟩⟩
    · cases h6
  · obtain ⟨q1, q2⟩ := He.ba (List.all_eq_true.mp h7 T hT)
    obtain ⟨q3, q4⟩ := He.ba q1
    exact ⟨Option.isSome_iff_exists.mp q3, Option.isSome_iff_exists.mp q4, of_decide_eq_true q2⟩
/-! ### names, compared -/
theorem str_iff (a b : String) : Str.ofString a = Str.ofString b ↔ a = b := by
  constructor
  · intro h
    rw [Str.ofString_eq_toList, Str.ofString_eq_toList] at h
    have h1 := congrArg (fun z : Str => z.cps.toList) h
    have h2 : a.toList.map Char.toNat = b.toList.map Char.toNat := by simpa using h1
    have inj : ∀ {l k : List Char}, l.map Char.toNat = k.map Char.toNat → l = k := by
      intro l
      induction l with
      | nil => intro k e; cases k with
        | nil => rfl
        | cons c k => cases e
      | cons c l ih => intro k e; cases k with
        | nil => cases e
        | cons d k =>
          rw [List.map_cons, List.map_cons] at e
          injection e with e1 e2
          have : c = d := Char.ext (UInt32.toNat.inj e1)
          rw [this, ih e2]
    exact String.toList_inj.mp (inj h2)
  · intro h; rw [h]
theorem str_eq (a b : String) : (Str.ofString a = Str.ofString b) = (a = b) := propext (str_iff a b)
theorem str_beq (a b : String) : (Str.ofString a == Str.ofString b) = decide (a = b) := by
  by_cases h : a = b
  · subst h; simp
  · rw [decide_eq_false h]
    exact beq_eq_false_iff_ne.mpr fun e => h ((str_iff a b).mp e)
/-! ### boot -/
theorem bt_int : bootBuiltins "int" = some (.type "int") := by decide +kernel
theorem bt_bool : bootBuiltins "bool" = some (.type "bool") := by decide +kernel
theorem bt_str : bootBuiltins "str" = some (.type "str") := by decide +kernel
theorem bt_tuple : bootBuiltins "tuple" = some (.type "tuple") := by decide +kernel
theorem bt_list : bootBuiltins "list" = some (.type "list") := by decide +kernel
theorem bt_len : bootBuiltins "len" = some (.builtin "len") := by decide +kernel
theorem bt_abs : bootBuiltins "abs" = some (.builtin "abs") := by decide +kernel
theorem bt_max : bootBuiltins "max" = some (.builtin "max") := by decide +kernel
theorem bt_min : bootBuiltins "min" = some (.builtin "min") := by decide +kernel
theorem bt_sum : bootBuiltins "sum" = some (.builtin "sum") := by decide +kernel
theorem bt_sorted : bootBuiltins "sorted" = some (.builtin "sorted") := by decide +kernel
theorem bt_isinstance : bootBuiltins "isinstance" = some (.builtin "isinstance") := by decide +kernel
theorem bt_repr : bootBuiltins "repr" = some (.builtin "repr") := by decide +kernel
theorem bt_all : bootBuiltins "all" = some (.builtin "all") := by decide +kernel
theorem bt_any : bootBuiltins "any" = some (.builtin "any") := by decide +kernel
end DL

set_option Elab.async false
set_option linter.all false
set_option maxRecDepth 100000
set_option maxHeartbeats 4000000
set_option autoImplicit false
namespace DL
open PySem PySem.Spec PyProof.Rows L2
/-! ### exceptions of the text: raised -/
structure RaiseD (P : Program) (w : World) (K : PySem.W.Frag) (mg : Str → Option Value) (base : Heap) (k : Nat) (c : Str) (ks : List Str) : Prop where
  ex : ∃ C fI fd ps sp, mg c = some (.ref C) ∧ OexC K C ∧ PySem.W.findIn K (.ref C) "__init__" = some (some (.ref fI)) ∧ PySem.W.typeIn K (.ref fI) = some (.type "function") ∧ Binds K fd ps [] ∧ FnOk P w K mg base CX0 k fI fd ps sp ∧
    ∀ a ws H Q E, ws.length = ks.length → H a = some (exo a C none) → (∀ d H2, H d = none → d ≠ a → H2 a = some (exo a C (some d)) → H2 d = some (exd d (ks.zip ws).reverse) → (∀ b, b ≠ a → b ≠ d → H2 b = H b) → Q .non H2) → sp (.ref a :: ws) H Q E
def sRaise (c : Str) (ks : List Str) (wa : WA) : WS := fun E ρ μ => wa ρ μ (fun ds μ1 => ds.length ≤ 1000 ∧ ds.length = ks.length ∧ E.xc c ks.reverse ds.reverse ρ μ1) fun c ks es μ' => E.xc c ks es ρ μ'
theorem zip_reverse {α β : Type} : ∀ (xs : List α) (ys : List β), xs.length = ys.length → (xs.zip ys).reverse = xs.reverse.zip ys.reverse := by
  intro xs ys h
  rw [List.zip_eq_zipWith, List.zip_eq_zipWith]
  exact List.reverse_zipWith h
section
variable {W : WX} {X : Cx} {e : Expr} {es : List Expr} {ws : WA} {p pos pos' : Pos} {k j : Nat} {c : Str} {ks : List Str}
theorem ds_raiseD (R : RaiseD X.prog X.w X.K X.mg X.base k c ks) (hc : X.calm = true) (hr : Room j X.A) (hkj : k + 1 ≤ j) (hg : Gl X c) (tk : Takes X W) (ha : DA none W X (e :: es) ws) (hdb : (c == ("__debug__" : Str)) = false := by decide)
    (he : starEach (e :: es) X.env = (false, eval e X.env) :: starEach es X.env := by rfl) (hpl : (backTo pos (starEach es X.env)).any (·.1) = false := by rfl) :
    DSt none W X (.Raise (some (.Call (.Name c p) (e :: es) [] pos)) none pos') (sRaise c ks ws) := by
  obtain ⟨C, fI, fd, ps, sp, hm, T, hi, hf, hb, F, hsp⟩ := R.ex
  have mk := pmk_oex (ta := liftA (gx X none) W ws) (p := p) (pos := pos) T hi hf F (hr.mono hkj) hb .nil pass0 hg hm ha hdb he hpl
  refine ps_weak (ps_raise hc tk mk) fun De σ H q => ?_
  obtain ⟨Z, m, ρ, μ, E, S, q, kn, kr, kb, kc, kx⟩ := q
  refine ⟨Z, m, ρ, μ, _, _, S, q, fun vs H1 P => ?_, fun cls d H' P => kx cls d σ H' (XSPost.of S P)⟩
  obtain ⟨m1, ds, μ1, s1, r1, hl, hn, q1⟩ := P
  refine ⟨by rw [← r1.len]; exact hl, fun a na => ?_⟩
  rw [List.append_nil]
  have lv : vs.length = ks.length := by rw [← r1.len]; exact hn
  refine hsp a vs _ _ _ lv upd_same fun d H2 nd ne ha2 hd2 hold => ⟨rfl, d, _, ha2, hd2, ?_, ?_⟩
  · rw [upd_ne ne] at nd; exact nd
  · rw [upd_ne ne] at nd
    have same : upd (del H2 a) d (.xd (ks.zip vs).reverse) = upd H1 d (.xd (ks.zip vs).reverse) := by
      funext b
      by_cases hb : b = d
      · subst hb; rw [upd_same, upd_same]
      · rw [upd_ne hb, upd_ne hb]
        by_cases hba : b = a
        · subst hba; rw [del_same, na]
        · rw [del_ne hba, hold b hba hb, upd_ne hba]
    rw [same]
    have s2 := Step.laid (o := .xd (ks.zip vs).reverse) s1.mu nd
    have s12 := s1.trans s2
    refine kx _ _ σ _ (XSPost.from (SStep.of s12) ?_)
    refine ⟨m1, c, ks.reverse, ds.reverse, ρ, μ1, C, d, vs.reverse, S.step s12, .refl, rfl, rfl, hm, ?_, by rw [List.length_reverse, List.length_reverse]; exact hn.symm, ?_, q1⟩
    · rw [vis_upd s1.mu nd, upd_same, zip_reverse ks vs lv.symm]
    · exact Reps.reverse (Reps.mono s2.pre s2.same _ _ r1)
end
/-! the __init__ of an exception: one attribute, two -/
theorem raise1 {P : Program} {w : World} {K : PySem.W.Frag} {mg : Str → Option Value} {base : Heap} {c f x y qual : Str} {params : Arguments} {scope : Scope} {C fI : Addr} {fd : FuncData} {body : List Stmt}
    (hm : mg c = some (.ref C)) (T : OexC K C) (hno : PySem.W.findIn K (.ref C) f = some none) (hi : PySem.W.findIn K (.ref C) "__init__" = some (some (.ref fI))) (hf : PySem.W.typeIn K (.ref fI) = some (.type "function"))
    (F : FunD K "__init__" qual params body scope [] [] fI fd) (S : FnScope [x, y] [x, y] scope) (hb : Binds K fd [x, y] [])
    (hd : ∀ (cdv : Value) (A : Around) (fr : List Env) (s : Shared) (H : Hp) (E : XK), PSs (cxOf CX0 P w K mg base [x, y] qual scope fI cdv A fr s H E) body (tOst K f (tVar 0) (tVar 1))) : RaiseD P w K mg base 1 c [f] := by
  refine ⟨C, fI, fd, [x, y], fun vs H Q E => ∃ a v, vs = [.ref a, v] ∧ H a = some (exo a C none) ∧ ∀ dx, H dx = none → dx ≠ a → Q .non (upd (upd H dx (exd dx [(f, v)])) a (exo a C (some dx))), hm, T, hi, hf, hb, ?_, ?_⟩
  · refine F.ok S (fun vs H Q E h => ?_) (fun cdv A fr s H vs Q E hr h => ⟨tOst K f (tVar 0) (tVar 1), ?_, ?_⟩)
    · obtain ⟨a, v, rfl, _⟩ := h
      rfl
    · exact hd _ _ _ _ _ _
    · obtain ⟨a, v, rfl, ea, hq⟩ := h
      refine ⟨v, rfl, .ref a, rfl, a, C, rfl, T, hno, .inl ⟨ea, hq⟩⟩
  · intro a ws H Q E hl ea h
    match ws, hl with
    | [v], _ =>
      refine ⟨a, v, rfl, ea, fun dx nd ne => h dx _ nd ne upd_same ?_ fun b hba hbd => ?_⟩
      · rw [upd_ne ne, upd_same]; rfl
      · rw [upd_ne hba, upd_ne hbd]
theorem raise2 {P : Program} {w : World} {K : PySem.W.Frag} {mg : Str → Option Value} {base : Heap} {c f g x y z qual : Str} {params : Arguments} {scope : Scope} {C fI : Addr} {fd : FuncData} {body : List Stmt}
    (hm : mg c = some (.ref C)) (T : OexC K C) (hno : PySem.W.findIn K (.ref C) f = some none) (hno2 : PySem.W.findIn K (.ref C) g = some none) (hi : PySem.W.findIn K (.ref C) "__init__" = some (some (.ref fI))) (hf : PySem.W.typeIn K (.ref fI) = some (.type "function"))
    (F : FunD K "__init__" qual params body scope [] [] fI fd) (S : FnScope [x, y, z] [x, y, z] scope) (hb : Binds K fd [x, y, z] [])
    (hd : ∀ (cdv : Value) (A : Around) (fr : List Env) (s : Shared) (H : Hp) (E : XK), PSs (cxOf CX0 P w K mg base [x, y, z] qual scope fI cdv A fr s H E) body (tSeq (tOst K f (tVar 0) (tVar 1)) (tOst K g (tVar 0) (tVar 2)))) : RaiseD P w K mg base 1 c [f, g] := by
  refine ⟨C, fI, fd, [x, y, z], fun vs H Q E => ∃ a v u, vs = [.ref a, v, u] ∧ H a = some (exo a C none) ∧ ∀ dx, H dx = none → dx ≠ a → Q .non (upd (upd (upd H dx (exd dx [(f, v)])) a (exo a C (some dx))) dx (exd dx [(g, u), (f, v)])), hm, T, hi, hf, hb, ?_, ?_⟩
  · refine F.ok S (fun vs H Q E h => ?_) (fun cdv A fr s H vs Q E hr h => ⟨tSeq (tOst K f (tVar 0) (tVar 1)) (tOst K g (tVar 0) (tVar 2)), ?_, ?_⟩)
    · obtain ⟨a, v, u, rfl, _⟩ := h
      rfl
    · exact hd _ _ _ _ _ _
    · obtain ⟨a, v, u, rfl, ea, hq⟩ := h
      refine ⟨v, rfl, .ref a, rfl, a, C, rfl, T, hno, .inl ⟨ea, fun dx nd ne => ?_⟩⟩
      refine ⟨u, rfl, .ref a, rfl, a, C, rfl, T, hno2, .inr ⟨dx, [(f, v)], upd_same, by rw [upd_ne ne, upd_same], by simp, hq dx nd ne⟩⟩
  · intro a ws H Q E hl ea h
    match ws, hl with
    | [v, u], _ =>
      refine ⟨a, v, u, rfl, ea, fun dx nd ne => h dx _ nd ne ?_ ?_ fun b hba hbd => ?_⟩
      · rw [upd_ne (Ne.symm ne), upd_same]
      · rw [upd_same]; rfl
      · rw [upd_ne hbd, upd_ne hba, upd_ne hbd]
end DL

set_option Elab.async false
set_option linter.all false
set_option maxRecDepth 100000
set_option maxHeartbeats 4000000
set_option autoImplicit false
namespace DL
open PySem PySem.Spec PyProof.Rows L2
/-! ### what does not hang on the caught exception -/
mutual
theorem Rep.ex {K : PySem.W.Frag} {mg : Str → Option Value} {e1 e2 : Option (Addr × Addr × Addr)} {m : List Addr} {E : Hp} : ∀ (d : D) (v : V), Rep ⟨K, mg, e1⟩ m E d v → Rep ⟨K, mg, e2⟩ m E d v
  | .non, v, r => by rw [Rep] at r ⊢; exact r
  | .bl b, v, r => by rw [Rep] at r ⊢; exact r
  | .int i, v, r => by rw [Rep] at r ⊢; exact r
  | .str s, v, r => by rw [Rep] at r ⊢; exact r
  | .ty n, v, r => by rw [Rep] at r ⊢; exact r
  | .cls c, v, r => by rw [Rep] at r ⊢; exact r
  | .tup ds, v, r => by
    rw [Rep] at r ⊢
    obtain ⟨a, vs, e, s, q⟩ := r
    exact ⟨a, vs, e, s, Reps.ex ds vs q⟩
  | .lst ds, v, r => by
    rw [Rep] at r ⊢
    obtain ⟨a, vs, e, s, q⟩ := r
    exact ⟨a, vs, e, s, Reps.ex ds vs q⟩
  | .frl ds, v, r => by
    rw [Rep] at r ⊢
    obtain ⟨a, vs, e, s, q⟩ := r
    exact ⟨a, vs, e, s, Reps.ex ds vs q⟩
  | .obj c ks ds, v, r => by
    rw [Rep] at r ⊢
    obtain ⟨a, C, dx, vs, e, g, s, l, q⟩ := r
    exact ⟨a, C, dx, vs, e, g, s, l, Reps.ex ds vs q⟩
  | .loc n, v, r => by rw [Rep] at r ⊢; exact r
  | .opq o, v, r => by rw [Rep] at r ⊢; exact r
theorem Reps.ex {K : PySem.W.Frag} {mg : Str → Option Value} {e1 e2 : Option (Addr × Addr × Addr)} {m : List Addr} {E : Hp} : ∀ (ds : List D) (vs : List V), Reps ⟨K, mg, e1⟩ m E ds vs → Reps ⟨K, mg, e2⟩ m E ds vs
  | [], vs, r => by rw [Reps] at r ⊢; exact r
  | d :: ds, vs, r => by
    rw [Reps] at r ⊢
    obtain ⟨v, t, e, s, q⟩ := r
    exact ⟨v, t, e, Rep.ex d v s, Reps.ex ds t q⟩
end
section
variable {K : PySem.W.Frag} {mg : Str → Option Value} {e1 e2 : Option (Addr × Addr × Addr)} {Z : Addr → Prop} {m : List Addr} {μ : Mu} {H E : Hp} {σ : L2.St} {ρ : DS}
theorem CellOk.ex {c : Cell} {a : Addr} (h : CellOk ⟨K, mg, e1⟩ m E H c a) : CellOk ⟨K, mg, e2⟩ m E H c a := by
  cases c with
  | lst ds =>
    obtain ⟨vs, h1, h2⟩ := h
    exact ⟨vs, h1, Reps.ex _ _ h2⟩
  | ins c ks ds =>
    obtain ⟨C, dx, vs, h0, h1, hl, h2⟩ := h
    exact ⟨C, dx, vs, h0, h1, hl, Reps.ex _ _ h2⟩
  | pool => exact h
theorem MuOk.ex (M : MuOk ⟨K, mg, e1⟩ Z m μ H) : MuOk ⟨K, mg, e2⟩ Z m μ H := ⟨M.len, M.nd, M.out, M.hw, fun n c a h1 h2 => (M.cell n c a h1 h2).ex⟩
/-- no slot holds an exception -/
def noExn (ρ : DS) : Bool := ρ.all fun s => match s with
  | .exn _ _ _ => false
  | _ => true
theorem noExn_get (h : noExn ρ = true) {i : Nat} {c : Str} {ks : List Str} {ds : List D} : ρ[i]? ≠ some (.exn c ks ds) := fun e => by
  have := List.all_eq_true.mp h _ (List.mem_of_getElem? e)
  cases this
theorem SR.ex (S : SR ⟨K, mg, e1⟩ Z m σ H ρ μ) (hx : ∀ (i : Nat) c ks ds, ρ[i]? ≠ some (Sl.exn c ks ds)) : SR ⟨K, mg, e2⟩ Z m σ H ρ μ := by
  refine ⟨S.len, S.mu.ex, fun i d e => ?_, fun i a c e => ?_, S.dis, fun i c ks ds e => absurd e (hx i c ks ds)⟩
  · obtain ⟨v, h1, h2⟩ := S.val i d e
    exact ⟨v, h1, Rep.ex _ _ h2⟩
  · obtain ⟨h1, h2, h3⟩ := S.own i a c e
    exact ⟨h1, h2, h3.ex⟩
theorem SR.none_exn (S : SR ⟨K, mg, none⟩ Z m σ H ρ μ) {i : Nat} {c : Str} {ks : List Str} {ds : List D} : ρ[i]? ≠ some (.exn c ks ds) := fun e => by
  obtain ⟨_, _, _, _, h, _⟩ := S.exn i c ks ds e
  cases h
/-- a slot is set to what is no thing of its own: anything -/
theorem own_drop {i : Nat} {x : Sl} {σ' : L2.St} (hx : ∀ a c, x ≠ .own a c) {b : Addr} (h : ownW Z σ' (ρ.set i x) b) : ownW Z σ ρ b := by
  rcases h with h | ⟨j, e, h1⟩
  · exact .inl h
  · by_cases hj : i = j
    · subst hj
      rw [List.getElem?_set] at h1
      simp at h1
      exact absurd h1.2 (hx b e)
    · rw [List.getElem?_set_ne hj] at h1; exact .inr ⟨j, e, h1⟩
theorem SR.setX {G : Gx} (S : SR G Z m σ H ρ μ) {i : Nat} {x : Sl} {o : Option V} (hx : ∀ a c, x ≠ .own a c) (hv : ∀ d, x ≠ .v d) (he : ∀ c ks ds, x = .exn c ks ds → ExOk G m (vis (ownW Z σ ρ) m H) (some o) c ks ds) :
    SR G Z m (σ.set i o) H (ρ.set i x) μ ∧ SStep G Z m σ ρ H m (σ.set i o) (ρ.set i x) H := by
  have sub : ∀ b, ownW Z (σ.set i o) (ρ.set i x) b → ownW Z σ ρ b := fun b h => own_drop hx h
  have sm := vis_mono (m := m) (H := H) sub
  have get : ∀ {j : Nat} {y : Sl}, (ρ.set i x)[j]? = some y → (j = i ∧ y = x) ∨ (i ≠ j ∧ ρ[j]? = some y) := fun {j y} h => by
    by_cases hj : i = j
    · subst hj
      rw [List.getElem?_set] at h
      simp at h
      exact .inl ⟨rfl, h.2.symm⟩
    · rw [List.getElem?_set_ne hj] at h; exact .inr ⟨hj, h⟩
  refine ⟨⟨by rw [List.length_set, List.length_set]; exact S.len, S.mu.less sub, fun j d e => ?_, fun j a c e => ?_, fun j k a c c' h1 h2 => ?_, fun j c ks ds e => ?_⟩, List.prefix_refl _, fun _ _ => rfl, sm⟩
  · rcases get e with ⟨_, h⟩ | ⟨hj, h⟩
    · exact absurd h.symm (hv d)
    · obtain ⟨v, h1, h2⟩ := S.val j d h
      exact ⟨v, by rw [List.getElem?_set_ne hj]; exact h1, Rep.mono (List.prefix_refl _) sm _ _ h2⟩
  · rcases get e with ⟨_, h⟩ | ⟨hj, h⟩
    · exact absurd h.symm (hx a c)
    · obtain ⟨h1, h2, h3⟩ := S.own j a c h
      exact ⟨by rw [List.getElem?_set_ne hj]; exact h1, h2, h3.keep (List.prefix_refl _) sm rfl⟩
  · rcases get h1 with ⟨_, h⟩ | ⟨_, h⟩
    · exact absurd h.symm (hx a c)
    · rcases get h2 with ⟨_, h'⟩ | ⟨_, h'⟩
      · exact absurd h'.symm (hx a c')
      · exact S.dis j k a c c' h h'
  · rcases get e with ⟨hj, h⟩ | ⟨hj, h⟩
    · subst hj
      have hl : j < σ.length := by
        rw [← S.len]
        have := (List.getElem?_eq_some_iff.mp e).1
        simpa using this
      rw [List.getElem?_set_self hl]
      exact (he c ks ds h.symm).mono (List.prefix_refl _) sm
    · rw [List.getElem?_set_ne hj]
      exact (S.exn j c ks ds h).mono (List.prefix_refl _) sm
end
/-! ### try: .. except C as e: .. -/
def exOf (a : Addr) (cls : Value) (d : Option Addr) : Option (Addr × Addr × Addr) := match cls, d with
  | .ref C, some dd => some (a, C, dd)
  | _, _ => none
/-- which classes the clause catches -/
def CatchD (K : PySem.W.Frag) (mg : Str → Option Value) (cv : Value) (mt : Str → Option Bool) : Prop := ∀ c b, mt c = some b → ∀ C, mg c = some (.ref C) → PySem.W.exmOne K (.ref C) cv = some b
def suiteE (i : Nat) (E : DEnds) : DEnds := { nx := fun ρ2 μ2 => noExn (ρ2.set i .no) = true ∧ E.nx (ρ2.set i .no) μ2, rt := E.rt, bk := fun ρ2 μ2 => noExn (ρ2.set i .no) = true ∧ E.bk (ρ2.set i .no) μ2, ct := fun ρ2 μ2 => noExn (ρ2.set i .no) = true ∧ E.ct (ρ2.set i .no) μ2 }
def caught (mt : Str → Option Bool) (i : Nat) (wsu : WS) (E : DEnds) : XS := fun c ks es ρ' μ' => match mt c with
  | some true => wsu (suiteE i E) (ρ'.set i (.exn c ks es)) μ'
  | some false => E.xc c ks es ρ' μ'
  | none => False
def sTry (mt : Str → Option Bool) (i : Nat) (wb wsu : WS) : WS := fun E ρ μ => wb { E with xc := caught mt i wsu E } ρ μ
section
variable {W : WX} {X : Cx} {x n : Str} {cv : Value} {i : Nat} {body suite : List Stmt} {b0 : Stmt} {np pos pos' : Pos} {wb wsu : WS} {mt : Str → Option Bool}
theorem ds_try (hs : X.stack = X.env :: X.outer) (hf : X.env.frame = some X.env.locals) (hN : X.N.Nodup) (hi : X.N[i]? = some n) (hln : X.env.kindOf n = some .local) (hc : Names X x cv) (tk : Takes X W) (hm : CatchD X.K X.mg cv mt)
    (hb : ∀ (W2 : WX) (pn : List (Addr × Obj)) (xe : Value → Shared → Prop), Takes (X.tr pn xe) W2 → PassesOwn (model X.prog X.w) X.A X.env xe → DSs none W2 (X.tr pn xe) body wb)
    (hsu : ∀ (a : Addr) (oe : Obj) (cls : Value) (d : Option Addr) (pn : List (Addr × Obj)), Zc cls d oe → (∃ vs, oe.data = .fields vs) → DSs (exOf a cls d) WF (X.suite a ((a, oe) :: pn)) (b0 :: suite) wsu) :
    DSt none W X (.Try body [.ExceptHandler (some (.Name x np)) (some n) (b0 :: suite) pos'] [] [] pos) (sTry mt i wb wsu) := by
  refine ps_weak (ps_try_as (i := i) (c := cv) (tb := fun W2 => liftS (gx X none) W2 wb) (ts := fun a cls d => liftS (gx X (exOf a cls d)) WF wsu) hs hf hN hi hln hc tk hb hsu) fun De σ H q => ?_
  obtain ⟨Z, m, ρ, μ, E, S, q, kn, kr, kb, kc, kx⟩ := q
  refine ⟨Z, m, ρ, μ, { E with xc := caught mt i wsu E }, S, q, kn, kr, kb, kc, fun cls d σ' H' P => ?_⟩
  obtain ⟨m', c, ks, es, ρ', μ', C, dd, vs, S', s', rfl, rfl, hC, hdd, hl, rs, q'⟩ := P
  have hC' : X.mg c = some (.ref C) := hC
  have q2 : caught mt i wsu E c ks es ρ' μ' := q'
  unfold caught at q2
  split at q2
  · rename_i hmt
    refine ⟨true, hm c true hmt C hC', fun _ a na => ?_, fun z => absurd z (by decide)⟩
    have S2 : SR (gx X (some (a, C, dd))) Z m' σ' H' ρ' μ' := S'.ex fun j c2 ks2 ds2 => S'.none_exn
    obtain ⟨S3, s3⟩ := S2.setX (i := i) (x := .exn c ks es) (o := some (.ref a)) (fun _ _ z => nomatch z) (fun _ z => nomatch z) (fun c2 ks2 ds2 e => by
      cases e
      exact ⟨a, C, dd, vs, rfl, hC', rfl, hdd, hl, Reps.ex _ _ rs⟩)
    have t3 : SStep (gx X none) Z m σ ρ H m' (σ'.set i (some (.ref a))) (ρ'.set i (.exn c ks es)) H' := s'.trans ⟨s3.pre, s3.hid, s3.same⟩
    have back : ∀ {Pd : DS → Mu → Prop} {σ2 H2}, SPost (gx X (some (a, C, dd))) Z m' (σ'.set i (some (.ref a))) (ρ'.set i (.exn c ks es)) H' (fun ρ2 μ2 => noExn (ρ2.set i .no) = true ∧ Pd (ρ2.set i .no) μ2) σ2 H2 →
        SPost (gx X none) Z m σ ρ H Pd (σ2.set i none) H2 := fun {Pd σ2 H2} P => by
      obtain ⟨m2, ρ2, μ2, T, t, hno, q⟩ := P
      obtain ⟨T2, t2⟩ := T.setX (i := i) (x := .no) (o := none) (fun _ _ z => nomatch z) (fun _ z => nomatch z) (fun _ _ _ z => nomatch z)
      exact ⟨m2, _, μ2, T2.ex fun j c2 ks2 ds2 => noExn_get hno, t3.trans (SStep.trans ⟨t.pre, t.hid, t.same⟩ ⟨t2.pre, t2.hid, t2.same⟩), q⟩
    refine ⟨Z, m', _, μ', suiteE i E, S3, q2, fun σ2 H2 P => kn _ _ (back P), fun v H2 P => ?_, fun σ2 H2 P => kb _ _ (back P), fun σ2 H2 P => kc _ _ (back P), fun cls2 d2 σ2 H2 P => ?_⟩
    · obtain ⟨m2, d, μ2, h1, h2, h3, h4, h5, h6⟩ := P
      exact kr v H2 (RPost.from t3 ⟨m2, d, μ2, h1, h2, h3.ex, h4, Rep.ex _ _ h5, h6⟩)
    · obtain ⟨_, _, _, _, _, _, _, _, _, _, _, _, _, _, _, _, _, z⟩ := P
      exact z.elim
  · rename_i hmt
    refine ⟨false, hm c false hmt C hC', fun z => absurd z Bool.false_ne_true, fun _ => kx _ _ σ' H' ⟨m', c, ks, es, ρ', μ', C, dd, vs, S', s', rfl, rfl, hC, hdd, hl, rs, q2⟩⟩
  · exact q2.elim
end
/-! in the suite: e.f, isinstance(e, C) -/
def KExn (o : Option Sl) (k : Str → List Str → List D → Prop) : Prop := match o with
  | some (.exn c ks ds) => k c ks ds
  | _ => False
theorem KExn_of {o : Option Sl} {k : Str → List Str → List D → Prop} (h : KExn o k) : ∃ c ks ds, o = some (.exn c ks ds) ∧ k c ks ds := by
  unfold KExn at h
  split at h
  · exact ⟨_, _, _, rfl, h⟩
  · exact h.elim
def getX (cs : List Str) (f : Str) (Q : D → Prop) : Str → List Str → List D → Prop := fun c ks ds => c ∈ cs ∧ match fldOf f ks ds with
  | some d => Q d
  | none => False
def wXf (cs : List Str) (i : Nat) (f : Str) : WE := fun ρ μ Q _ => KExn (ρ[i]?) (getX cs f fun d => Q d μ)
def XfD (K : PySem.W.Frag) (mg : Str → Option Value) (cs : List Str) (f : Str) : Prop := ∀ c ∈ cs, ∀ C, mg c = some (.ref C) → XfC K C ∧ PySem.W.findIn K (.ref C) f = some none
def wIsE (f : TyN → TyN → Option Bool) (i : Nat) (cn : Str) : WE := fun ρ μ Q _ => KExn (ρ[i]?) fun c _ _ => match f (.c c) (.c cn) with
  | some b => Q (.bl b) μ
  | none => False
/-- isinstance of caught exceptions: by a table -/
structure IsxTab (K : PySem.W.Frag) (mg : Str → Option Value) (f : TyN → TyN → Option Bool) : Prop where
  ok : ∀ c u b, f (.c c) (.c u) = some b → ∀ C U, mg c = some (.ref C) → mg u = some (.ref U) → ExcC K C ∧ PySem.W.kitOne K (.ref C) (.ref U) = some b
section
variable {X : Cx} {a : Addr} {oe : Obj} {cls : Value} {d : Option Addr} {pn : List (Addr × Obj)} {pos p1 p2 p3 : Pos} {x n cn : Str} {i : Nat} {cs : List Str}
theorem exOf_some {a a' C dd : Addr} {cls : Value} {d : Option Addr} (h : exOf a cls d = some (a', C, dd)) : a' = a ∧ cls = .ref C ∧ d = some dd := by
  unfold exOf at h
  split at h
  · cases h; exact ⟨rfl, rfl, rfl⟩
  · cases h
theorem de_xf {f : Str} (hz : Zc cls d oe) (hf : ∃ vs, oe.data = .fields vs) (T : XfD X.K X.mg cs f) (hN : X.N[i]? = some x) (hv : Vis X.env.scope x := by first | exact Or.inl rfl | exact Or.inr (Or.inl rfl) | exact Or.inr (Or.inr rfl))
    (hd : (x == ("__debug__" : Str)) = false := by decide) (hcd : (x == ("__classdict__" : Str)) = false := by decide) (hb : attributeBase (.Name x p1) f X.env (eval (.Name x p1) X.env) = eval (.Name x p1) X.env := by rfl) :
    DE (exOf a cls d) WF (X.suite a ((a, oe) :: pn)) (.Attribute (.Name x p1) f pos) (wXf cs i f) := by
  refine ⟨fun pins s σ H Q' I q => ?_⟩
  obtain ⟨Z, m, ρ, μ, Q, Xd, S, q, k, kx⟩ := q
  obtain ⟨c, ks, ds, e, q⟩ := KExn_of q
  obtain ⟨hcs, q⟩ := q
  obtain ⟨a', C, dd, vs, h1, h2, h3, h4, h5, h6⟩ := S.exn i c ks ds e
  obtain ⟨rfl, rfl, rfl⟩ := exOf_some h1
  obtain ⟨T1, T2⟩ := T c hcs C h2
  split at q
  · rename_i dv hdv
    obtain ⟨v, hv1, hv2⟩ := fldOf_rep h6 hdv
    have R := pe_xf (pos := pos) (a := a') (pn := pn) T1 T2 hz hf (pe_var (X := X.suite a' ((a', oe) :: pn)) (i := i) (x := x) (pos := p1) hN hv hd hcd) hb
    exact R.run pins s σ H Q' I ⟨_, h3, rfl, rfl, dd, _, v, rfl, vis_le _ _ h4, hv1, k _ _ (.now S.mu hv2 q)⟩
  · exact q.elim
theorem call_isX {f : TyN → TyN → Option Bool} (T : IsxTab X.K X.mg f) (hz : Zc cls d oe) (hf : ∃ vs, oe.data = .fields vs) : CallR (X.suite a ((a, oe) :: pn)) (.builtin "isinstance") (fun xs H Q => ∃ C U dd fs c u b, xs = [.ref a, .ref U] ∧ cls = .ref C ∧ d = some dd ∧ H dd = some (.xd fs) ∧
    X.mg c = some (.ref C) ∧ X.mg u = some (.ref U) ∧ f (.c c) (.c u) = some b ∧ Q (.bl b) H) := by
  intro pins s σ H xs us Q I r h
  obtain ⟨C, U, dd, fs, c, u, b, rfl, rfl, rfl, hdd, hc, hu, e, q⟩ := h
  obtain ⟨u1, u2, rfl, r1, r2⟩ := vals2 r
  cases (show u1 = Value.ref a from r1)
  cases (show u2 = Value.ref U from r2)
  obtain ⟨hget, _⟩ := I.pin (a, oe) (List.mem_append.mpr (.inl List.mem_cons_self))
  obtain ⟨E, kit⟩ := T.ok c u b e C U hc hu
  obtain ⟨vs, hv⟩ := hf
  obtain ⟨mA, hns, hr⟩ := (show ObjOk X.prog X.w H s.heap dd (.xd fs) from I.hok dd _ hdd)
  obtain ⟨od, ho, hl⟩ := lookIn_ns hns
  have J : PySem.W.InstAt s.heap a oe C (some od) := ⟨hget, hz.1, by unfold PySem.W.notCls; rw [hv] <;> rfl, by rw [hz.2]; exact ho⟩
  have hcl : (PySem.W.clsIn X.K C).isSome = true := by
    obtain ⟨cd, hcd, _⟩ := PySem.W.any_some E.hd
    rw [hcd]; rfl
  exact PySem.W.kia_one (PySem.W.kitx_exc hcl E.hg E.hk E.hs E.ha E.hn E.ht E.hm) I.kIn J kit (fun z => nomatch z) fun tk => ⟨.bl b, H, I.kept (t' := tk) fun _ _ z => z, rfl, q⟩
theorem de_isX {f : TyN → TyN → Option Bool} {C2 : Addr} (T : IsxTab X.K X.mg f) (hz : Zc cls d oe) (hf : ∃ vs, oe.data = .fields vs) (hg : Gl X "isinstance") (hm : X.mg "isinstance" = none) (hN : X.N[i]? = some x) (hg2 : Gl X cn) (hm2 : X.mg cn = some (.ref C2))
    (hv : Vis X.env.scope x := by first | exact Or.inl rfl | exact Or.inr (Or.inl rfl) | exact Or.inr (Or.inr rfl)) (hd : (x == ("__debug__" : Str)) = false := by decide) (hcd : (x == ("__classdict__" : Str)) = false := by decide) (hd2 : (cn == ("__debug__" : Str)) = false := by decide) :
    DE (exOf a cls d) WF (X.suite a ((a, oe) :: pn)) (.Call (.Name "isinstance" p1) [.Name x p2, .Name cn p3] [] pos) (wIsE f i cn) := by
  have A1 : PA (X.suite a ((a, oe) :: pn)) [.Name x p2, .Name cn p3] (tCons (tVar i) (tCons (tC (.ref C2)) tNil)) := pa_cons (pe_var (X := X.suite a ((a, oe) :: pn)) hN hv hd hcd) (pa_cons (pe_glob (X := X.suite a ((a, oe) :: pn)) hg2 hm2 (v := .ref C2) rfl hd2) pa_nil)
  refine pe_weak (pe_callB (X := X.suite a ((a, oe) :: pn)) (call_isX T hz hf) hg hm bt_isinstance A1) fun σ H Q' q => ?_
  obtain ⟨Z, m, ρ, μ, Q, Xd, S, q, k, kx⟩ := q
  obtain ⟨c, ks, ds, e, q⟩ := KExn_of q
  obtain ⟨a', C, dd, vs, h1, h2, h3, h4, h5, h6⟩ := S.exn i c ks ds e
  obtain ⟨rfl, rfl, rfl⟩ := exOf_some h1
  split at q
  · rename_i b hb
    exact ⟨_, h3, C, C2, dd, _, c, cn, b, rfl, rfl, rfl, vis_le _ _ h4, h2, hm2, hb, k _ _ (.now S.mu (by rw [Rep]) q)⟩
  · exact q.elim
end
end DL

set_option Elab.async false
set_option linter.all false
set_option maxRecDepth 100000
set_option maxHeartbeats 4000000
set_option autoImplicit false
namespace DL
open PySem PySem.Spec PyProof.Rows L2
/-! ### repr -/
def reprC : PyData → Prop
  | .none => True
  | .bool _ => True
  | .int i => i.natAbs.log2 < 1920
  | .str x => (reprText x).length ≤ sizeLine
  | .list xs => (PyData.list xs).showable = true ∧ (PyData.list xs).hasDict = false ∧ (PyData.list xs).depth ≤ 50 ∧ (PyData.list xs).shown.length ≤ sizeLine
  | .tuple xs => (PyData.tuple xs).showable = true ∧ (PyData.tuple xs).hasDict = false ∧ (PyData.tuple xs).depth ≤ 50 ∧ (PyData.tuple xs).shown.length ≤ sizeLine
  | _ => False
theorem call_reprD {X : Cx} (hgd : X.A.guards = some []) (hu : X.A.units + 64 < cLine) : CallR X (.builtin "repr") (fun xs H Q => ∃ v p, xs = [v] ∧ Dp X.K H v p ∧ reprC p ∧ Q (.str p.shown) H) := by
  intro pins s σ H xs us Q I r h
  obtain ⟨v, p, rfl, dp, hc, q⟩ := h
  obtain ⟨u, rfl, ru⟩ := r.one
  have box : ∀ {d : PyData} {a : Addr}, Dp X.K H (.ref a) d → d.showable = true → d.hasDict = false → d.depth ≤ 50 → d.shown.length ≤ sizeLine → Q (.str d.shown) H → wpAny (model X.prog X.w) X.A (call (.builtin "repr") [.ref a]) (EP X pins σ Q) X.xe s := fun {d a} dp h1 h2 h3 h4 q => by
    obtain ⟨as, rd⟩ := Dp.reads I d (.ref a) (.ref a) dp rfl
    exact repr_of_reads' rd h1 (fun z => absurd (h2.symm.trans z) Bool.false_ne_true) hgd (by omega) (fun _ _ e => e) (fun h' u tk k => ⟨.str _, H, I.kept k, ⟨_, rfl⟩, q⟩) h4
  cases dp with
  | non =>
    cases (show u = Value.none from ru)
    exact PySem.P.repr_of_none ⟨.str _, H, I.tok _, ⟨_, rfl⟩, q⟩
  | bl b =>
    cases (show u = Value.bool b from ru)
    exact PySem.P.repr_of_bool ⟨.str _, H, I.tok _, ⟨_, rfl⟩, q⟩
  | int i =>
    obtain ⟨t, rfl⟩ := (show ∃ t, u = Value.int i t from ru)
    exact PySem.P.repr_of_int hc ⟨.str _, H, I.tok _, ⟨_, rfl⟩, q⟩
  | str x =>
    obtain ⟨t, rfl⟩ := (show ∃ t, u = Value.str x t from ru)
    exact PySem.P.repr_of_str (hsz := hc) ⟨.str _, H, I.tok _, ⟨_, rfl⟩, q⟩
  | lst s1 s2 =>
    cases (show u = Value.ref _ from ru)
    exact box (.lst s1 s2) hc.1 hc.2.1 hc.2.2.1 hc.2.2.2 q
  | tup s1 s2 =>
    cases (show u = Value.ref _ from ru)
    exact box (.tup s1 s2) hc.1 hc.2.1 hc.2.2.1 hc.2.2.2 q
def fRepr : FN := fun xs μ Q => match xs with
  | [x] => ∃ p, toP x = some p ∧ reprC p ∧ Q (.str p.shown) μ
  | _ => False
theorem sn_repr {G : Gx} : SN G (fun xs H Q => ∃ v p, xs = [v] ∧ Dp G.K H v p ∧ reprC p ∧ Q (.str p.shown) H) fRepr := by
  intro Z m μ H xs us Q Q' M r h k
  unfold fRepr at h
  split at h
  · obtain ⟨p, h1, h2, h3⟩ := h
    obtain ⟨v, t, rfl, r1, r2⟩ := r.uncons
    rw [Reps] at r2
    subst r2
    exact ⟨v, p, rfl, dp_of vis_le _ _ _ r1 h1, h2, k _ _ (.now M (by rw [Rep]) h3)⟩
  · exact h.elim
end DL

set_option Elab.async false
set_option linter.all false
set_option maxRecDepth 100000
set_option maxHeartbeats 4000000
set_option autoImplicit false
namespace DL
open PySem PySem.Spec PyProof.Rows L2
/-! ### what the head tells of exceptions -/
def oexB (K : PySem.W.Frag) (C : Addr) : Bool := (match K.lookup C with
  | some ⟨.type "type", _, .cls cd, sl⟩ => (match cd.mro, sl.toList with
    | .ref C' :: bm, [_, _, _, _, some (.builtin n), _] => decide (C' = C) && (decide (n = "ValueError.__new__") && (cd.hasDict && (!cd.hasDel && PySem.HandSPX.refsVE bm)))
    | _, _ => false)
  | _ => false) && (He.eqO (PySem.W.findIn K (.ref C) "__setattr__") (some (some (.builtin "object.__setattr__"))) && (decide (PySem.W.subIn K (.ref C) (.type "BaseException") = some true) && (decide (PySem.W.typeIn K (.ref C) = some (.type "type")) && PySem.W.keepIn K (.ref C))))
theorem oexB_ok {K : PySem.W.Frag} {C : Addr} (h : oexB K C = true) : OexC K C := by
  obtain ⟨h1, h⟩ := He.ba h
  obtain ⟨h2, h⟩ := He.ba h
  obtain ⟨h3, h⟩ := He.ba h
  obtain ⟨h4, h5⟩ := He.ba h
  refine ⟨?_, He.eqO_ok h2, of_decide_eq_true h3, of_decide_eq_true h4, h5⟩
  split at h1
  · rename_i dd cd sl ho
    split at h1
    · rename_i C' bm k0 k1 k2 k3 n k5 em es
      obtain ⟨g1, h1⟩ := He.ba h1
      obtain ⟨g2, h1⟩ := He.ba h1
      obtain ⟨g3, h1⟩ := He.ba h1
      obtain ⟨g4, g5⟩ := He.ba h1
      have g1 := of_decide_eq_true g1
      have g2 := of_decide_eq_true g2
      rw [Bool.not_eq_true'] at g4
      obtain ⟨nm, bs, mro, ns, qn, hd, sn, sub, ab, col, dl⟩ := cd
      dsimp only at em g3 g4
      subst em g1 g2 g3 g4
      have hsl : sl = #[k0, k1, k2, k3, some (.builtin "ValueError.__new__"), k5] := by
        obtain ⟨l⟩ := sl
        simp only at es
        rw [es]
      subst hsl
      exact ⟨nm, qn, ns, bs, bm, sn, sub, ab, col, dd, k0, k1, k2, k3, k5, ho, g5⟩
    · cases h1
  · cases h1
/-- an exception class with its __init__, which stores the attributes ks -/
def rxB (K : PySem.W.Frag) (c : Str) (ks : List Str) : Bool := (He.Fa.glo c).ok K && (oexB K (He.ga K c) && (He.eqO (PySem.W.findIn K (.ref (He.ga K c)) "__init__") (some (some (.ref (He.ma K (He.ga K c) "__init__")))) &&
  (decide (PySem.W.typeIn K (.ref (He.ma K (He.ga K c) "__init__")) = some (.type "function")) && ks.all fun f => He.eqO (PySem.W.findIn K (.ref (He.ga K c)) f) (some none))))
theorem rxB_ok {K : PySem.W.Frag} {c : Str} {ks : List Str} (h : rxB K c ks = true) : OexC K (He.ga K c) ∧ PySem.W.findIn K (.ref (He.ga K c)) "__init__" = some (some (.ref (He.fAd K (c, some "__init__")))) ∧
    PySem.W.typeIn K (.ref (He.fAd K (c, some "__init__"))) = some (.type "function") ∧ ∀ f ∈ ks, PySem.W.findIn K (.ref (He.ga K c)) f = some none := by
  obtain ⟨h1, h⟩ := He.ba h
  obtain ⟨h2, h⟩ := He.ba h
  obtain ⟨h3, h⟩ := He.ba h
  obtain ⟨h4, h5⟩ := He.ba h
  exact ⟨oexB_ok h2, He.eqO_ok h3, of_decide_eq_true h4, fun f hf => He.eqO_ok (List.all_eq_true.mp h5 f hf)⟩
section
variable {K : PySem.W.Frag} {h : Heap} {mg : Str → Option Value} (X : K.In h) (G : h.Ns mainGlobals mg)
include X G
theorem rx_glo {c : Str} {ks : List Str} (b : rxB K c ks = true) : mg c = some (.ref (He.ga K c)) := He.glo_ok X G (He.ba b).1
end
/-! which exceptions a clause catches -/
def catF (L : List (Str × Bool)) (c : Str) : Option Bool := (L.find? fun e => decide (e.1 = c)).map (·.2)
def catB (K : PySem.W.Frag) (y : Str) (L : List (Str × Bool)) : Bool := (He.Fa.glo y).ok K && L.all fun e => (He.Fa.glo e.1).ok K && decide (PySem.W.exmOne K (.ref (He.ga K e.1)) (.ref (He.ga K y)) = some e.2)
theorem catF_mem {L : List (Str × Bool)} {c : Str} {b : Bool} (h : catF L c = some b) : (c, b) ∈ L := by
  unfold catF at h
  obtain ⟨z, e1, e2⟩ := Option.map_eq_some_iff.mp h
  have m := List.mem_of_find?_eq_some e1
  have p : z.1 = c := by
    have q := List.find?_some e1
    exact of_decide_eq_true q
  obtain ⟨z1, z2⟩ := z
  cases p
  cases e2
  exact m
section
variable {K : PySem.W.Frag} {h : Heap} {mg : Str → Option Value} (X : K.In h) (G : h.Ns mainGlobals mg)
include X G
theorem catchD_of {y : Str} {L : List (Str × Bool)} (c : catB K y L = true) : CatchD K mg (.ref (He.ga K y)) (catF L) ∧ mg y = some (.ref (He.ga K y)) := by
  obtain ⟨c1, c2⟩ := He.ba c
  refine ⟨fun x b hb C hC => ?_, He.glo_ok X G c1⟩
  obtain ⟨q1, q2⟩ := He.ba (List.all_eq_true.mp c2 _ (catF_mem hb))
  rw [He.glo_ok X G q1] at hC
  cases hC
  exact of_decide_eq_true q2
/-! fields, isinstance -/
omit X G in
theorem xfD_of {cs : List Str} {f : Str} (X : K.In h) (G : h.Ns mainGlobals mg) (c : (cs.all fun x => (He.Fa.glo x).ok K && (xfB K (He.ga K x) && He.eqO (PySem.W.findIn K (.ref (He.ga K x)) f) (some none))) = true) : XfD K mg cs f := by
  intro x hx C hC
  obtain ⟨q1, q⟩ := He.ba (List.all_eq_true.mp c x hx)
  obtain ⟨q2, q3⟩ := He.ba q
  rw [He.glo_ok X G q1] at hC
  cases hC
  exact ⟨xfB_ok q2, He.eqO_ok q3⟩
end
def exCB (K : PySem.W.Frag) (D : Addr) : Bool := He.eqO (PySem.W.findIn K (.ref D) "__getattribute__") (some (some (.builtin "BaseException.__getattribute__"))) && (He.eqO (PySem.W.findIn K (.ref D) "__getattr__") (some none) && (decide (PySem.W.subIn K (.ref D) (.type "BaseException") = some true) && (PySem.W.hasDictIn K D &&
  (He.eqO (PySem.W.findIn K (.ref D) "__class__") (some (some (.builtin "object.__class__"))) && (He.eqO (PySem.W.specialIn K (.builtin "object.__class__") "__get__") (some (some (.builtin "getset_descriptor.__get__"))) && (decide (PySem.W.takesIn K (.builtin "object.__class__") = some true) && decide (PySem.W.mroIn K D (.type "object") = some true)))))))
theorem exCB_ok {K : PySem.W.Frag} {D : Addr} (h : exCB K D = true) : ExcC K D := by
  obtain ⟨h1, h⟩ := He.ba h
  obtain ⟨h2, h⟩ := He.ba h
  obtain ⟨h3, h⟩ := He.ba h
  obtain ⟨h4, h⟩ := He.ba h
  obtain ⟨h5, h⟩ := He.ba h
  obtain ⟨h6, h⟩ := He.ba h
  obtain ⟨h7, h8⟩ := He.ba h
  exact ⟨He.eqO_ok h1, He.eqO_ok h2, of_decide_eq_true h3, h4, He.eqO_ok h5, He.eqO_ok h6, of_decide_eq_true h7, of_decide_eq_true h8⟩
abbrev IsxL := List ((Str × Str) × Bool)
def isxF (L : IsxL) (t u : TyN) : Option Bool := match t, u with
  | .c a, .c b => (L.find? fun e => decide (e.1 = (a, b))).map (·.2)
  | _, _ => none
def isxB (K : PySem.W.Frag) (L : IsxL) : Bool := L.all fun e => (He.Fa.glo e.1.1).ok K && ((He.Fa.glo e.1.2).ok K && (exCB K (He.ga K e.1.1) && decide (PySem.W.kitOne K (.ref (He.ga K e.1.1)) (.ref (He.ga K e.1.2)) = some e.2)))
theorem isxTab_of {K : PySem.W.Frag} {h : Heap} {mg : Str → Option Value} (X : K.In h) (G : h.Ns mainGlobals mg) {L : IsxL} (c : isxB K L = true) : IsxTab K mg (isxF L) := by
  refine ⟨fun a u b e C U hC hU => ?_⟩
  have e' : (L.find? fun e => decide (e.1 = (a, u))).map (·.2) = some b := e
  obtain ⟨z, e1, e2⟩ := Option.map_eq_some_iff.mp e'
  have m := List.mem_of_find?_eq_some e1
  have p : z.1 = (a, u) := by
    have q := List.find?_some e1
    exact of_decide_eq_true q
  obtain ⟨z1, z2⟩ := z
  cases p
  cases e2
  obtain ⟨q1, q⟩ := He.ba (List.all_eq_true.mp c _ m)
  obtain ⟨q2, q⟩ := He.ba q
  obtain ⟨q3, q4⟩ := He.ba q
  rw [He.glo_ok X G q1] at hC
  rw [He.glo_ok X G q2] at hU
  cases hC
  cases hU
  exact ⟨exCB_ok q3, of_decide_eq_true q4⟩
end DL

set_option Elab.async false
set_option linter.all false
set_option maxRecDepth 100000
set_option maxHeartbeats 4000000
set_option autoImplicit false
namespace DL
open PySem PySem.Spec PyProof.Rows L2
/-! ### properties -/
structure PropD (P : Program) (w : World) (K : PySem.W.Frag) (mg : Str → Option Value) (base : Heap) (k : Nat) (c f : Str) (ps : List Str) (sp : DSp) : Prop where
  ex : ∃ C p g fd, mg c = some (.ref C) ∧ Cls K C ∧ PropOf K C f p g ∧ Binds K fd ps [] ∧ FnG P w K mg base k g fd ps (toSp ⟨K, mg, none⟩ sp)
def wProp (c : Str) (sp : DSp) (wa : WE) : WE := fun ρ μ Q Xd => wa ρ μ (fun x μ1 => isCls c x μ1 (sp [x] μ1 Q xF)) Xd
section
variable {ex : Option (Addr × Addr × Addr)} {W : WX} {X : Cx} {e : Expr} {wa : WE} {pos : Pos} {k j : Nat} {ps : List Str} {c f : Str} {sp : DSp} {C p g a dx : Addr} {fd : FuncData}
theorem getprop_G {sp : Sp} {fs : List (Str × V)} {pins : List (Addr × Obj)} {σ : L2.St} {H : Hp} {s : Shared} {Q : VK} {b : Bool} {E' : Value → Shared → Prop} (I : Inv X pins σ H s) (at_ : H a = some (.ins C dx fs)) (cl : Cls X.K C) (hp : PropOf X.K C f p g)
    (F : FnG X.prog X.w X.K X.mg X.base k g fd ps sp) (hr : Room (k + 1) X.A) (hgd : X.A.guards = some []) (hb : Binds X.K fd ps []) (h : sp [.ref a] H Q fun _ _ _ => False) : wpAny (model X.prog X.w) X.A (getAttr (.ref a) f b) (EP X pins σ Q) E' s := by
  obtain ⟨mA, O, _⟩ := ins_get I.hok at_
  obtain ⟨od, J, _⟩ := O.look
  obtain ⟨rest, hrec⟩ := hp.rec_
  have I1 := I.tok (s.toks + 1)
  have hl : [Value.ref a].length = ps.length := (F.len _ _ _ _ h)
  have bd := hb { s with toks := s.toks + 1 } [.ref a] I1.kIn (by simpa using hl)
  rw [List.append_nil] at bd
  have hcl : (PySem.W.clsIn X.K C).isSome = true := by
    obtain ⟨cd, e1, _⟩ := PySem.W.any_some cl.hd
    rw [e1]; rfl
  refine PySem.W.get_bind I.kIn J (PySem.W.plainGet_of (cl.get f)).1 (PySem.W.findObj_data hcl hp.at_ hp.get hp.tak) (PySem.W.plainGet_of (cl.get f)).2 (wpAny_call (PySem.W.prop_get (s := { s with toks := s.toks + 1 }) I.kIn hrec ?_))
  refine codeAny_mono (F.run X.A.in1 X.stack { s with toks := s.toks + 1 } H ⟨[.ref a], []⟩ [.ref a] [.ref a] Q _ hr.in1 hgd I1.env0.in1 bd (.cons rfl .nil) h) fun res s2 out => ?_
  match res, out with
  | .error er, out =>
    obtain ⟨_, _, _, _, _, _, _, _, _, _, _, _, z⟩ := out
    exact z.elim
  | .ok (.ret u), out =>
    obtain ⟨v, H', I3, rv, q3⟩ := I1.after out
    show wpAny _ _ (handedOut u) _ _ _
    rw [PySem.W.handedOut_of (handed_of rv)]
    exact wpAny_pure ⟨v, H', I3, rv, q3⟩
theorem de_propD (D : PropD X.prog X.w X.K X.mg X.base k c f ps sp) (hr : Room j X.A) (hkj : k + 1 ≤ j) (hgd : X.A.guards = some []) (he : DE none W X e wa) (hab : attributeBase e f X.env (eval e X.env) = eval e X.env := by rfl) : DE none W X (.Attribute e f pos) (wProp c sp wa) := by
  obtain ⟨C, p, g, fd, h1, h2, h3, h4, F⟩ := D.ex
  refine ⟨fun pins s σ H Q' I h => ?_⟩
  obtain ⟨Z, m, ρ, μ, Q, Xd, S, q, kq, kx⟩ := h
  refine attr_of hab (thn (he.run pins s σ H _ I ⟨Z, m, ρ, μ, _, Xd, S, q, fun v H1 P => P, kx⟩) fun u s1 hu => ?_)
  obtain ⟨v, H1, I1, rv, m1, x, μ1, s1, r1, q1⟩ := hu
  obtain ⟨ks, ds, hi, q2⟩ := isCls_of q1
  obtain ⟨a, C', dx, vs, rfl, g', hp, l, rs⟩ := ins_rep s1.mu r1 hi
  have g2 : X.mg c = some (.ref C') := g'
  rw [h1] at g2
  cases g2
  obtain rfl : u = Value.ref a := rv
  refine getprop_G I1 hp h2 h3 F (hr.mono hkj) hgd h4 ⟨_, m1, μ1, [x], Q, xF, s1.mu, Reps.cons r1 Reps.nil, q2, fun v H' P => kq v H' (VPost.from s1 P), fun cls d H' P => (xpF P).elim⟩
end
/-! from the head's facts -/
def getA (K : PySem.W.Frag) (c f : Str) : Addr := match PySem.W.recIn K (He.ma K (He.ga K c) f) "property" with
  | some (.ref g :: _) => g
  | _ => 0
def propB (K : PySem.W.Frag) (c f : Str) : Bool := (He.Fa.glo c).ok K && ((He.Fa.cls c).ok K && (He.eqO (PySem.W.findIn K (.ref (He.ga K c)) f) (some (some (.ref (He.ma K (He.ga K c) f)))) && (He.eqO (PySem.W.specialIn K (.ref (He.ma K (He.ga K c) f)) "__get__") (some (some (.builtin "property.__get__"))) &&
  (decide (PySem.W.takesIn K (.ref (He.ma K (He.ga K c) f)) = some true) && (match PySem.W.recIn K (He.ma K (He.ga K c) f) "property" with
    | some (.ref _ :: _) => true
    | _ => false)))))
theorem propD_of {P : Program} {w : World} {K : PySem.W.Frag} {h : Heap} {mg : Str → Option Value} {base : Heap} {k : Nat} {c f : Str} {ps : List Str} {sp : DSp} {fd : FuncData} (X : K.In h) (G : h.Ns mainGlobals mg)
    (B : propB K c f = true) (bi : Binds K fd ps []) (F : FnG P w K mg base k (getA K c f) fd ps (toSp ⟨K, mg, none⟩ sp)) : PropD P w K mg base k c f ps sp := by
  obtain ⟨h1, B⟩ := He.ba B
  obtain ⟨h2, B⟩ := He.ba B
  obtain ⟨h3, B⟩ := He.ba B
  obtain ⟨h4, B⟩ := He.ba B
  obtain ⟨h5, h6⟩ := He.ba B
  refine ⟨_, _, _, fd, He.glo_ok X G h1, He.cls_ok h2, ⟨He.eqO_ok h3, He.eqO_ok h4, of_decide_eq_true h5, ?_⟩, bi, F⟩
  unfold getA
  split at h6
  · rename_i g rest e
    rw [e]
    exact ⟨rest, rfl⟩
  · cases h6
/-! ### the Hook: defs at any address, and one Bool more -/
abbrev AlY : Type := He.AlD × Bool
/-- the addresses that are looked at; the keys of dicts, too -/
def asY (g : Addr → Option Obj) (n : Nat) : List Addr := He5.asA g n ++ (He5.asA g n).flatMap fun a => match g a with
  | some ⟨_, _, .dict es _, _⟩ => es.toList.flatMap fun e => He.refV e.key
  | _ => []
def obsY (n : Nat) (fa : List He.Fa) (fn : List He5.DefA) (ex : PySem.W.Frag → Bool) (g : Addr → Option Obj) : AlY := (He5.obsA fa fn (He.frG g (asY g n)), ex (He.frG g (asY g n)))
structure SaysY (fa : List He.Fa) (fn : List He5.DefA) (ex : PySem.W.Frag → Bool) (K : PySem.W.Frag) : Prop where
  d : He5.SaysA fa fn K
  more : ex K = true
def hookY (n : Nat) (fa : List He.Fa) (fn : List He5.DefA) (ex : PySem.W.Frag → Bool) : PySem.W.Hook where
  α := AlY
  obs := fun s => obsY n fa fn ex s.heap.get?
  val := fun _ => (He5.valA fn, true)
  says := fun _ h => ∃ K : PySem.W.Frag, K.In h ∧ SaysY fa fn ex K
  of := fun _ _ e => ⟨_, He.frG_in, congrArg (fun z : AlY => z.1) e, congrArg (fun z : AlY => z.2) e⟩
  keeps := fun _ _ _ hx k => let ⟨K, hK, c⟩ := hx; ⟨K, PySem.W.Frag.In.keeps hK k, c⟩
theorem obsY_eq {n : Nat} {fa : List He.Fa} {fn : List He5.DefA} {ex : PySem.W.Frag → Bool} {g : Addr → Option Obj} {s : Shared} (h : ∀ a, g a = s.heap.get? a) : obsY n fa fn ex g = (hookY n fa fn ex).obs s := by
  have e : g = s.heap.get? := funext h
  rw [e] <;> rfl
/-! a module's int -/
theorem de_gintE {ex : Option (Addr × Addr × Addr)} {W : WX} {X : Cx} {x : Str} {i : Int} {pos : Pos} (hg : Gl X x) (hm : ∃ t, X.mg x = some (.int i t)) (hd : (x == ("__debug__" : Str)) = false := by decide) : DE ex W X (.Name x pos) (wC (.int i)) := by
  obtain ⟨t, hm⟩ := hm
  exact de_gint hg hm hd
theorem de_gstrE {ex : Option (Addr × Addr × Addr)} {W : WX} {X : Cx} {x z : Str} {pos : Pos} (hg : Gl X x) (hm : ∃ t, X.mg x = some (.str z t)) (hd : (x == ("__debug__" : Str)) = false := by decide) : DE ex W X (.Name x pos) (wC (.str z)) := by
  obtain ⟨t, hm⟩ := hm
  exact de_gstr hg hm hd
end DL

set_option Elab.async false
set_option linter.all false
set_option maxRecDepth 100000
set_option maxHeartbeats 4000000
set_option autoImplicit false
namespace DL
open PySem PySem.Spec PyProof.Rows L2
/-! ### == of scalars or of data -/
def atomV : D → Option V
  | .non => some .non
  | .bl b => some (.bl b)
  | .int i => some (.int i)
  | .str s => some (.str s)
  | _ => none
theorem atom_rep {G : Gx} {m : List Addr} {E : Hp} {x : D} {u v : V} (r : Rep G m E x u) (h : atomV x = some v) : u = v := by
  cases x <;> first | (rw [Rep] at r; cases h; exact r) | cases h
def eqU (x y : D) (k : Bool → Prop) : Prop := (∃ u v, atomV x = some u ∧ atomV y = some v ∧ scal u v = true ∧ k (decide (u = v))) ∨ eqD x y k
def fEqU : F2 := fun x y μ Q => eqU x y fun b => Q (.bl b) μ
def fNeU : F2 := fun x y μ Q => eqU x y fun b => Q (.bl (!b)) μ
theorem s2_eqU {G : Gx} : S2 G (fun x y H Q => rEq x y H Q ∨ rEqD G.K x y H Q) fEqU := by
  intro Z m μ H x y u v Q Q' M rx ry h k
  rcases h with ⟨u', v', e1, e2, hs, q⟩ | h
  · cases atom_rep rx e1
    cases atom_rep ry e2
    exact .inl ⟨hs, k _ _ (.now M (by rw [Rep]) q)⟩
  · exact .inr (s2_eqD Z m μ H x y u v Q Q' M rx ry h k)
theorem s2_neU {G : Gx} : S2 G (fun x y H Q => rNe x y H Q ∨ rNeD G.K x y H Q) fNeU := by
  intro Z m μ H x y u v Q Q' M rx ry h k
  rcases h with ⟨u', v', e1, e2, hs, q⟩ | h
  · cases atom_rep rx e1
    cases atom_rep ry e2
    exact .inl ⟨hs, k _ _ (.now M (by rw [Rep]) q)⟩
  · exact .inr (s2_neD Z m μ H x y u v Q Q' M rx ry h k)
theorem op_eqU {X : Cx} (hu : X.A.units + 64 < cLine) : OpR X (compareOp .Eq) (fun x y H Q => rEq x y H Q ∨ rEqD X.K x y H Q) := op_eq.or (op_eqD hu)
theorem op_neU {X : Cx} (hu : X.A.units + 64 < cLine) : OpR X (compareOp .NotEq) (fun x y H Q => rNe x y H Q ∨ rNeD X.K x y H Q) := op_ne.or (op_neD hu)
end DL

set_option Elab.async false
set_option linter.all false
set_option maxRecDepth 100000
set_option maxHeartbeats 4000000
set_option autoImplicit false
namespace DL
open PySem PySem.Spec PyProof.Rows L2
/-! ### sum, max, min, sorted of ints; any, all of truths -/
def lstInts (x : D) (k : List Int → Prop) : Prop := lstOr x fun ds => ∃ ns, intsD ds = some ns ∧ k ns
def boolD : D → Option Bool
  | .bl b => some b
  | _ => none
def boolsD : List D → Option (List Bool)
  | [] => some []
  | d :: ds => match boolD d, boolsD ds with
    | some i, some ns => some (i :: ns)
    | _, _ => none
theorem boolD_of {d : D} {b : Bool} (h : boolD d = some b) : d = .bl b := by
  cases d <;> first | (cases h; done) | (cases h; rfl)
theorem bools_rep {G : Gx} {m : List Addr} {E : Hp} : ∀ {ds : List D} {vs : List V} {bs : List Bool}, Reps G m E ds vs → boolsD ds = some bs → vs = bs.map V.bl
  | [], vs, ns, r, e => by rw [Reps] at r; rw [boolsD] at e; cases e; exact r
  | d :: ds, vs, ns, r, e => by
    obtain ⟨v, t, rfl, r1, r2⟩ := r.uncons
    rw [boolsD] at e
    split at e
    · rename_i i ms h1 h2
      cases e
      have e1 := boolD_of h1
      subst e1
      rw [Rep] at r1
      subst r1
      rw [bools_rep r2 h2]
      rfl
    · cases e
theorem boolsD_map (bs : List Bool) : boolsD (bs.map D.bl) = some bs := by
  induction bs with
  | nil => rfl
  | cons n ns ih => rw [List.map_cons, boolsD, ih]; rfl
def lstBools (x : D) (k : List Bool → Prop) : Prop := lstOr x fun ds => ∃ bs, boolsD ds = some bs ∧ k bs
theorem lstInts_rep {G : Gx} {m : List Addr} {E : Hp} {d : D} {u : V} {k : List Int → Prop} (h : lstInts d k) (r : Rep G m E d u) : ∃ ns a, u = .ref a ∧ SqL G.K E a (ns.map V.int) ∧ k ns := by
  obtain ⟨ds, a, vs, e, s, rs, ns, hn, q⟩ := lstOr_rep h r
  have := ints_rep rs hn
  subst this
  exact ⟨ns, a, e, s, q⟩
theorem lstBools_rep {G : Gx} {m : List Addr} {E : Hp} {d : D} {u : V} {k : List Bool → Prop} (h : lstBools d k) (r : Rep G m E d u) : ∃ ns a, u = .ref a ∧ SqL G.K E a (ns.map V.bl) ∧ k ns := by
  obtain ⟨ds, a, vs, e, s, rs, ns, hn, q⟩ := lstOr_rep h r
  have := bools_rep rs hn
  subst this
  exact ⟨ns, a, e, s, q⟩
def fSum : FN := fun xs μ Q => match xs with
  | [x] => lstInts x fun ns => Q (.int ns.sum) μ
  | _ => False
def fMaxL : FN := fun xs μ Q => match xs with
  | [x] => lstInts x fun ns => 0 < ns.length ∧ ∀ m, m ∈ ns → (∀ y, y ∈ ns → y ≤ m) → Q (.int m) μ
  | _ => False
def fMinL : FN := fun xs μ Q => match xs with
  | [x] => lstInts x fun ns => 0 < ns.length ∧ ∀ m, m ∈ ns → (∀ y, y ∈ ns → m ≤ y) → Q (.int m) μ
  | _ => False
def fSorted : FN := fun xs μ Q => match xs with
  | [x] => lstInts x fun ns => ns.length < 64 ∧ ∀ ns' : List Int, ns'.Perm ns → ns'.Pairwise (· ≤ ·) → Q (.lst (ns'.map D.int)) μ
  | _ => False
def fAny : FN := fun xs μ Q => match xs with
  | [x] => lstBools x fun bs => Q (.bl (bs.any id)) μ
  | _ => False
def fAll : FN := fun xs μ Q => match xs with
  | [x] => lstBools x fun bs => Q (.bl (bs.all id)) μ
  | _ => False
section
variable {G : Gx}
theorem sn_sum : SN G (rSum G.K) fSum := by
  intro Z m μ H xs us Q Q' M r h k
  unfold fSum at h
  split at h
  · obtain ⟨v, t, rfl, r1, r2⟩ := r.uncons
    rw [Reps] at r2
    subst r2
    obtain ⟨ns, a, rfl, s, q⟩ := lstInts_rep h r1
    exact ⟨a, ns, rfl, Same.seq vis_le s, k _ _ (.now M (by rw [Rep]) q)⟩
  · exact h.elim
theorem sn_maxL : SN G (rMax G.K) fMaxL := by
  intro Z m μ H xs us Q Q' M r h k
  unfold fMaxL at h
  split at h
  · obtain ⟨v, t, rfl, r1, r2⟩ := r.uncons
    rw [Reps] at r2
    subst r2
    obtain ⟨ns, a, rfl, s, hl, q⟩ := lstInts_rep h r1
    exact ⟨a, ns, rfl, Same.seq vis_le s, hl, fun z z1 z2 => k _ _ (.now M (by rw [Rep]) (q z z1 z2))⟩
  · exact h.elim
theorem sn_minL : SN G (rMin G.K) fMinL := by
  intro Z m μ H xs us Q Q' M r h k
  unfold fMinL at h
  split at h
  · obtain ⟨v, t, rfl, r1, r2⟩ := r.uncons
    rw [Reps] at r2
    subst r2
    obtain ⟨ns, a, rfl, s, hl, q⟩ := lstInts_rep h r1
    exact ⟨a, ns, rfl, Same.seq vis_le s, hl, fun z z1 z2 => k _ _ (.now M (by rw [Rep]) (q z z1 z2))⟩
  · exact h.elim
theorem sn_sorted : SN G (rSorted G.K) fSorted := by
  intro Z m μ H xs us Q Q' M r h k
  unfold fSorted at h
  split at h
  · obtain ⟨v, t, rfl, r1, r2⟩ := r.uncons
    rw [Reps] at r2
    subst r2
    obtain ⟨ns, a, rfl, s, hl, q⟩ := lstInts_rep h r1
    refine ⟨a, ns, rfl, Same.seq vis_le s, hl, fun ns' p h1 h2 np => k _ _ ?_⟩
    have s2 := Step.laid (o := .lst (ns'.map V.int)) M np
    refine ⟨m, _, μ, s2, ?_, q ns' h1 h2⟩
    rw [Rep]
    exact ⟨p, _, rfl, by rw [vis_upd M np, upd_same], reps_ints ns'⟩
  · exact h.elim
theorem sn_any : SN G (rAny G.K) fAny := by
  intro Z m μ H xs us Q Q' M r h k
  unfold fAny at h
  split at h
  · obtain ⟨v, t, rfl, r1, r2⟩ := r.uncons
    rw [Reps] at r2
    subst r2
    obtain ⟨ns, a, rfl, s, q⟩ := lstBools_rep h r1
    exact ⟨a, ns, rfl, Same.seq vis_le s, k _ _ (.now M (by rw [Rep]) q)⟩
  · exact h.elim
theorem sn_all : SN G (rAll G.K) fAll := by
  intro Z m μ H xs us Q Q' M r h k
  unfold fAll at h
  split at h
  · obtain ⟨v, t, rfl, r1, r2⟩ := r.uncons
    rw [Reps] at r2
    subst r2
    obtain ⟨ns, a, rfl, s, q⟩ := lstBools_rep h r1
    exact ⟨a, ns, rfl, Same.seq vis_le s, k _ _ (.now M (by rw [Rep]) q)⟩
  · exact h.elim
end
/-- op= of a wide product -/
theorem iop_mulU {X : Cx} : OpR X (inplaceOp .Mult) (rI CMul fun i j => .int (i * j)) := iop_mul
end DL

set_option Elab.async false
set_option linter.all false
set_option maxRecDepth 100000
set_option maxHeartbeats 4000000
set_option autoImplicit false
namespace DL
open PySem PySem.Spec PyProof.Rows L2


theorem runEq3 {r : PySem.W.OpenRow} {q : Program} {H : PySem.W.Hook} {ob : PySem.W.SharedT → H.α} {M : Nat} {loose : List Str} {w : World}
    (h1 : ∀ os : OsState, (HandSHeadRun.endF (HandSHeadRun.stepQ (HandSHeadRun.denQ HandSHeadRun.tabQ) r.prog w) M r.prog w os).map (fun s => HandSHeadRun.looksF r.prog (PySem.W.boot_heap w.params) s.abs) = some true)
    (h2 : ∀ os : OsState, (HandSHeadRun.endF (HandSHeadRun.stepQ (HandSHeadRun.denQ HandSHeadRun.tabQ) r.prog w) M r.prog w os).map (fun s => HandSHeadRun.seenQ q loose (importedModules r.prog.main.body) (fun s => PySem.W.xlAt q [] s && PySem.W.recOk r.toRowW.records s) s.abs) = some (PySem.W.openGood q loose))
    (h3 : ∀ os : OsState, (HandSHeadRun.endF (HandSHeadRun.stepQ (HandSHeadRun.denQ HandSHeadRun.tabQ) r.prog w) M r.prog w os).map (fun s => ob s) = some (H.val w)) : HandSHeadRun.RunEq r q H ob M loose w := by
  intro os
  have a1 := h1 os
  have a2 := h2 os
  have a3 := h3 os
  generalize HandSHeadRun.endF (HandSHeadRun.stepQ (HandSHeadRun.denQ HandSHeadRun.tabQ) r.prog w) M r.prog w os = e at a1 a2 a3 ⊢
  cases e with
  | none => cases a1
  | some s =>
    rw [Option.map_some] at a1 a2 a3 ⊢
    rw [Option.some.inj a1, Option.some.inj a2, Option.some.inj a3]
/-! ### list(x), tuple(x) -/
def fListOf : FN := fun xs μ Q => match xs with
  | [x] => match itemsD x μ with
    | some ds => Q (.lst ds) μ
    | none => False
  | _ => False
theorem sn_listOf {G : Gx} : SN G (fun xs H Q => ∃ p ys, xs = [.ref p] ∧ (SqL G.K H p ys ∨ SqT G.K H p ys) ∧ ∀ l, H l = none → Q (.ref l) (upd H l (.lst ys))) fListOf := by
  intro Z m μ H xs us Q Q' M r h k
  unfold fListOf at h
  split at h
  · split at h
    · rename_i ds e1
      obtain ⟨v, t, rfl, r1, r2⟩ := r.uncons
      rw [Reps] at r2
      subst r2
      obtain ⟨a, vs, rfl, s, q⟩ := items_rep M r1 e1
      refine ⟨a, vs, rfl, s, fun l nl => k _ _ ?_⟩
      have s4 := Step.laid (o := .lst vs) M nl
      refine ⟨m, _, μ, s4, ?_, h⟩
      rw [Rep]
      refine ⟨l, _, rfl, ?_, Reps.mono s4.pre s4.same _ _ q⟩
      rw [vis_upd M nl, upd_same]
    · exact h.elim
  · exact h.elim
def fTupOf : FN := fun xs μ Q => match xs with
  | [x] => match itemsD x μ with
    | some ds => Q (.tup ds) μ
    | none => False
  | _ => False
theorem sn_tupOf {G : Gx} : SN G (fun xs H Q => ∃ p ys, xs = [.ref p] ∧ ((SqL G.K H p ys ∧ ∀ l, H l = none → Q (.ref l) (upd H l (.tup ys))) ∨ (SqT G.K H p ys ∧ Q (.ref p) H))) fTupOf := by
  intro Z m μ H xs us Q Q' M r h k
  unfold fTupOf at h
  split at h
  · rename_i x
    split at h
    · rename_i ds e1
      obtain ⟨v, t, rfl, r1, r2⟩ := r.uncons
      rw [Reps] at r2
      subst r2
      have laid : ∀ (a : Addr) (vs : List V), v = .ref a → SqL G.K H a vs → Reps G m (vis Z m H) ds vs → ∃ p ys, [v] = [.ref p] ∧ ((SqL G.K H p ys ∧ ∀ l, H l = none → Q' (.ref l) (upd H l (.tup ys))) ∨ (SqT G.K H p ys ∧ Q' (.ref p) H)) := by
        intro a vs e s q
        subst e
        refine ⟨a, vs, rfl, .inl ⟨s, fun l nl => k _ _ ?_⟩⟩
        have s4 := Step.laid (o := .tup vs) M nl
        refine ⟨m, _, μ, s4, ?_, h⟩
        rw [Rep]
        refine ⟨l, _, rfl, .inl (.inl ?_), Reps.mono s4.pre s4.same _ _ q⟩
        rw [vis_upd M nl, upd_same]
      unfold itemsD at e1
      split at e1
      · cases e1
        have r1' := r1
        rw [Rep] at r1
        obtain ⟨a, vs, e, s, q⟩ := r1
        subst e
        exact ⟨a, vs, rfl, .inr ⟨SqT.same vis_le s, k _ _ (.now M r1' h)⟩⟩
      · cases e1
        rw [Rep] at r1
        obtain ⟨a, vs, e, s, q⟩ := r1
        exact laid a vs e (.inl (.inl (vis_le _ _ s))) q
      · cases e1
        rw [Rep] at r1
        obtain ⟨a, vs, e, s, q⟩ := r1
        exact laid a vs e (Same.seq vis_le s) q
      · split at e1
        · rename_i es e2
          cases e1
          rw [Rep] at r1
          obtain ⟨a, e, s⟩ := r1
          obtain ⟨vs, h1, h2⟩ := M.cell _ _ a e2 s
          exact laid a vs e (.inl (.inl h1)) h2
        · cases e1
      · cases e1
    · exact h.elim
  · exact h.elim
/-! ### isinstance(x, (A, B)) -/
theorem call_isiS {X : Cx} : CallR X (.builtin "isinstance") (fun xs H Q => ∃ (x : V) (tp : Addr) (cs : List V) (t : Value) (us : List Value) (b : Bool), xs = [x, .ref tp] ∧ SqT X.K H tp cs ∧ Paired ClsV cs us ∧ TyX X.K H x t ∧ PySem.W.kitAny X.K t us = some b ∧ Q (.bl b) H) := by
  intro pins s σ H xs us Q I r h
  obtain ⟨x, tp, cs, t, ws, b, rfl, hT, k, ty, e, q⟩ := h
  obtain ⟨u1, u2, rfl, r1, r2⟩ := vals2 r
  cases (show u2 = Value.ref tp from r2)
  obtain ⟨P, Z, p, hx⟩ := kit_of I r1 ty
  obtain ⟨its, o, n, rv, h1, h2, h3⟩ := sqT_at I.hok I.kIn hT
  have e3 := ClsV.all k rv
  subst e3
  obtain ⟨oc, od, dt, sl⟩ := o
  simp only at h2 h3
  subst h2 h3
  exact PySem.W.kia_tup Z I.kIn p h1 e hx fun tk => ⟨.bl b, H, I.tok tk, rfl, q⟩
def anyT (f : TyN → TyN → Option Bool) (t : TyN) : List D → Option Bool
  | [] => some false
  | c :: cs => match clD c with
    | some u => match f t u with
      | some true => if cs.all (fun d => (clD d).isSome) then some true else none
      | some false => anyT f t cs
      | none => none
    | none => none
def isiDT (f : TyN → TyN → Option Bool) (x : D) (cs : List D) (μ : Mu) : Option Bool := match tyD x μ with
  | some t => match cs with
    | [] => none
    | c :: r => anyT f t (c :: r)
  | none => none
def fIsiT (f : TyN → TyN → Option Bool) : FN := fun xs μ Q => match xs with
  | [x, .tup cs] => match isiDT f x cs μ with
    | some b => Q (.bl b) μ
    | none => False
  | _ => False
theorem clVs_of {G : Gx} {m : List Addr} {E : Hp} : ∀ {cs : List D} {vs : List V}, Reps G m E cs vs → cs.all (fun d => (clD d).isSome) = true → ∃ us, Paired ClsV vs us
  | [], vs, r, _ => by rw [Reps] at r; subst r; exact ⟨[], .nil⟩
  | c :: cs, vs, r, h => by
    obtain ⟨v, t, rfl, r1, r2⟩ := r.uncons
    rw [List.all_cons, Bool.and_eq_true_iff] at h
    obtain ⟨u, hu⟩ := Option.isSome_iff_exists.mp h.1
    obtain ⟨uv, _, u2⟩ := clV_of r1 hu
    obtain ⟨us, p⟩ := clVs_of r2 h.2
    exact ⟨_, .cons u2 p⟩
theorem anyT_ok {G : Gx} {f : TyN → TyN → Option Bool} (T : IsiTab G f) {m : List Addr} {E : Hp} {t : TyN} {tv : Value} (ht : TyVal G t tv) : ∀ {cs : List D} {vs : List V} {b : Bool}, Reps G m E cs vs → anyT f t cs = some b →
    ∃ us, Paired ClsV vs us ∧ PySem.W.kitAny G.K tv us = some b
  | [], vs, b, r, e => by
    rw [Reps] at r; subst r
    rw [anyT] at e; cases e
    exact ⟨[], .nil, rfl⟩
  | c :: cs, vs, b, r, e => by
    obtain ⟨v, t', rfl, r1, r2⟩ := r.uncons
    rw [anyT] at e
    split at e
    · rename_i u hu
      obtain ⟨uv, u1, u2⟩ := clV_of r1 hu
      split at e
      · rename_i hf
        split at e
        · rename_i ha
          cases e
          obtain ⟨us, p⟩ := clVs_of r2 ha
          refine ⟨_, .cons u2 p, ?_⟩
          rw [PySem.W.kitAny, T.ok _ _ _ hf _ _ ht u1]
        · cases e
      · rename_i hf
        obtain ⟨us, p, q⟩ := anyT_ok T ht r2 e
        refine ⟨_, .cons u2 p, ?_⟩
        rw [PySem.W.kitAny, T.ok _ _ _ hf _ _ ht u1]
        exact q
      · cases e
    · cases e
theorem sn_isiT {G : Gx} {f : TyN → TyN → Option Bool} (T : IsiTab G f) : SN G (fun xs H Q => ∃ (x : V) (tp : Addr) (cs : List V) (t : Value) (us : List Value) (b : Bool), xs = [x, .ref tp] ∧ SqT G.K H tp cs ∧ Paired ClsV cs us ∧ TyX G.K H x t ∧ PySem.W.kitAny G.K t us = some b ∧ Q (.bl b) H) (fIsiT f) := by
  intro Z m μ H xs us Q Q' M r h k
  unfold fIsiT at h
  split at h
  · rename_i x cs
    split at h
    · rename_i b hb
      obtain ⟨v, t, rfl, r1, r2⟩ := r.uncons
      obtain ⟨v', t', rfl, r3, r4⟩ := r2.uncons
      rw [Reps] at r4
      subst r4
      rw [Rep] at r3
      obtain ⟨tp, vs, rfl, st, rs⟩ := r3
      unfold isiDT at hb
      split at hb
      · rename_i tn h1
        split at hb
        · cases hb
        · rename_i c cr
          obtain ⟨tv, t1, t2⟩ := tyX_of M r1 h1 fun c' e C g => by
            subst e
            rw [anyT] at hb
            split at hb
            · rename_i u hu
              split at hb
              · rename_i hf
                exact T.ins c' u _ hf C g
              · rename_i hf
                exact T.ins c' u _ hf C g
              · cases hb
            · cases hb
          obtain ⟨us, p, q⟩ := anyT_ok T t1 rs hb
          exact ⟨v, tp, vs, tv, us, b, rfl, SqT.same vis_le st, p, t2, q, k _ _ (.now M (by rw [Rep]) h)⟩
      · cases hb
    · exact h.elim
  · exact h.elim
/-! ### a dict of one int beside an int -/
def wDictII (i j : Int) : WE := fun _ μ Q _ => Q (.opq (.dK [(.inl i, .int j)])) μ
section
variable {ex : Option (Addr × Addr × Addr)} {W : WX} {X : Cx} {pos p1 p2 : Pos} {n1 n2 : Nat} {i j : Int}
theorem de_dictII : DE ex W X (.Dict [some (.Constant (.int i) n1 p1)] [.Constant (.int j) n2 p2] pos) (wDictII i j) := pe_weak (pe_disp (pps_cons pe_int pe_int pps_nil) rfl rfl (by simp) (by simp)) fun σ H Q' q => by
  obtain ⟨Z, m, ρ, μ, Q, Xd, S, q, k, kx⟩ := q
  intro p np
  refine ⟨upd_same, [(.inl i, .int j)], rfl, by simp, ?_⟩
  have e : upd (upd H p (.dK [])) p (.dK (mergeK [] [(Sum.inl i, V.int j)])) = upd H p (.dK [(.inl i, .int j)]) := by
    funext b
    by_cases hb : b = p
    · subst hb; rw [upd_same, upd_same]; rfl
    · rw [upd_ne hb, upd_ne hb, upd_ne hb]
  rw [e]
  have s4 := Step.laid (o := .dK [(.inl i, .int j)]) S.mu np
  refine k _ _ ⟨m, _, μ, s4, ?_, q⟩
  rw [Rep]
  exact ⟨p, rfl, by rw [vis_upd S.mu np, upd_same]⟩
end
end DL

set_option Elab.async false
set_option linter.all false
set_option maxRecDepth 100000
set_option maxHeartbeats 4000000
set_option autoImplicit false
namespace DL
open PySem PySem.Spec PyProof.Rows L2
/-! ### comparisons and `in` by own defs -/
structure CmpFn (K : PySem.W.Frag) (C : Addr) (nm : Str) (f : Addr) : Prop where
  at_ : PySem.W.findIn K (.ref C) nm = some (some (.ref f))
  fn : PySem.W.isFn K (.ref f) = true
/-- the class has no own `__ne__` -/
structure NeFn (K : PySem.W.Frag) (C : Addr) : Prop where
  at_ : PySem.W.findIn K (.ref C) "__ne__" = some (some (.builtin "object.__ne__"))
  top : PySem.W.mroIn K C (.type "object") = some true
section
open PySem.W
variable {prog : Program} {w : World} {A : Around} {E : Value → Shared → Prop} {s : Shared} {K : Frag} {x C g : Addr} {ox : Obj} {od : Option Obj} {b tb : Value}
theorem one_bind (self : Value) : bindSpecial (.builtin "object.__ne__") self = pure (.builtin "object.__ne__", [self]) :=
  (Slot.of (T := "object") (name := "__ne__") (owner := "object") (n := "__ne__") (by rw [typeLookup_type, builtinLookup_eq_fast]; kernel_rfl) (by decide +kernel) (by decide +kernel) (by decide +kernel)
    (.inl (by decide +kernel)) (by rw [isSubtype_type]; kernel_rfl)).bind self
theorem one_plain : plainId "object.__ne__" = true := by decide +kernel
/-- x.__ne__(b) as object has it, by the own `__eq__` -/
theorem call_ne {QQ : Value → Shared → Prop} (hu : A.in1.units < cLine) (X : K.In s.heap) (I : InstAt s.heap x ox C od) (N : NeFn K C) (T : CmpFn K C "__eq__" g)
    (run : wpAny (model prog w) A.in1 (call (.ref g) [.ref x, b]) (fun r s' => ∃ k, r = .bool k ∧ QQ (.bool (!k)) s') E s) : wpAny (model prog w) A (call (.builtin "object.__ne__") [.ref x, b]) QQ E s := by
  have inst : Looks (model prog w) s.heap (isInstance (.ref x) (.type "object")) true := I.type.andThen (looks_mroIn X N.top)
  refine wpAny_call (codeAny_call_builtin one_plain F.cmpEntry_ne (@check_slot (model prog w) _ _ s "object.__ne__" "object" "__ne__" (.ref x) [b] [] _ F.cmpKind_ne F.cmpSplit_ne inst (F.cmpArgs_ne _ _) ?_))
  unfold Builtin.«object.__ne__»
  have seen : wpAny (model prog w) A.in1 (callSpecialIfBound? (.ref x) "__eq__" [b]) (fun r s' => ∃ k, r = some (.bool k) ∧ QQ (.bool (!k)) s') E s :=
    ifBound_K X I T.at_ T.fn (wpAny_mono run (fun r s' hr => by
      obtain ⟨k, rfl, q⟩ := hr
      exact ⟨k, rfl, q⟩) fun _ _ e => e)
  repeat (first
    | with_reducible refine wpAny_cRoomFor hu ?_
    | (refine wpAny_bind (m := callSpecialIfBound? (.ref x) (Str.ofString "__eq__") [b]) (wpAny_mono seen (fun r s' hr => by
        obtain ⟨k, rfl, q⟩ := hr
        repeat (first | exact q | exact wpAny_pure q | exact wpAny_truthy_bool q | (refine wpAny_bind (m := truthy (.bool _)) (wpAny_truthy_bool ?_)) | wp_step)) fun _ _ e => e))
    | wp_step)
/-- x != b by the own `__eq__` -/
theorem ne_own {QQ : Value → Shared → Prop} (hu : A.units + 1 < cLine) (X : K.In s.heap) (I : InstAt s.heap x ox C od) (hb : Looks (model prog w) s.heap (typeOf b) tb) (hn : notFirst K C tb = true) (N : NeFn K C) (T : CmpFn K C "__eq__" g)
    (run : wpAny (model prog w) A.in1 (call (.ref g) [.ref x, b]) (fun r s' => ∃ k, r = .bool k ∧ QQ (.bool (!k)) s') E s) : wpAny (model prog w) A (richCompare .NotEq (.ref x) b) QQ E s := by
  have hu' : A.in1.units < cLine := hu
  have tried : wpAny (model prog w) A (tryCompare (.ref x) "__ne__" b) (fun r s' => ∃ v, r = some v ∧ QQ v s') E s := by
    unfold tryCompare
    simp only [callSpecialIfBound?, bindSpecialIfBound?]
    have ans : wpAny (model prog w) A (call (.builtin "object.__ne__") ([.ref x] ++ [b])) (fun r s' => ∃ k, r = .bool k ∧ QQ (.bool k) s') E s :=
      call_ne (QQ := fun r s' => ∃ k, r = .bool k ∧ QQ (.bool k) s') hu' X I N T (wpAny_mono run (fun r s' hr => by
        obtain ⟨k, rfl, q⟩ := hr
        exact ⟨k, rfl, !k, rfl, q⟩) fun _ _ e => e)
    have rest : wpAny (model prog w) A (call (.builtin "object.__ne__") ([.ref x] ++ [b]) >>= fun v => pure (some v)) (fun r s' => ∃ k, r = some (.bool k) ∧ QQ (.bool k) s') E s :=
      wpAny_bind (wpAny_mono ans (fun r s' hr => by
        obtain ⟨k, rfl, q⟩ := hr
        exact wpAny_pure ⟨k, rfl, q⟩) fun _ _ e => e)
    refine wpAny_bind (wpAny_mono (Q := fun r s' => ∃ k, r = some (.bool k) ∧ QQ (.bool k) s') (E := E) ?_ (fun r s' hr => ?_) fun _ _ e => e)
    · refine wpAny_holding (wpAny_bind (wpAny_bind (wpAny_bind (I.type.here ((looks_findIn X N.at_).here ?_)))))
      refine wpAny_bind (wpAny_askSetting (wpAny_ite ?_))
      have bd : Looks (model prog w) s.heap (bindSpecial (.builtin "object.__ne__") (.ref x)) (.builtin "object.__ne__", [.ref x]) := Looks.of_pure (one_bind _)
      split
      · exact wpAny_bind (bd.here (wpAny_pure (by exact rest)))
      · exact wpAny_tryCatch (wpAny_bind (bd.here (wpAny_pure (by exact rest))))
    · obtain ⟨k, rfl, q⟩ := hr
      exact wpAny_pure ⟨_, rfl, q⟩
  unfold richCompare
  simp only [oneThing_ref]
  refine wpAny_holding (wpAny_bind (wpAny_cRoomFor (Nat.lt_of_succ_lt hu) ?_))
  refine wpAny_bind (I.type.here (wpAny_bind (hb.here ?_)))
  have fin : wpAny (model prog w) A (tryCompare (.ref x) "__ne__" b) (fun r s' => ∃ v, r = some v ∧ QQ v s') E s := tried
  split
  · rename_i q
    have e : subIn K tb (.ref C) = some false := by
      rcases Bool.or_eq_true_iff.mp hn with e | e
      · rw [beq_iff_eq.mp e] at q; simp at q
      · exact beq_iff_eq.mp e
    refine wpAny_bind ((looks_subIn X e).here ?_)
    simp only [Bool.false_eq_true, if_false]
    refine wpAny_bind (wpAny_mono fin (fun r s' z => ?_) fun _ _ e => e)
    obtain ⟨v, rfl, hq⟩ := z
    exact wpAny_pure hq
  · refine wpAny_bind (wpAny_pure ?_)
    simp only [Bool.false_eq_true, if_false]
    refine wpAny_bind (wpAny_mono fin (fun r s' z => ?_) fun _ _ e => e)
    obtain ⟨v, rfl, hq⟩ := z
    exact wpAny_pure hq
end
/-- the other operand: of a listed built-in type or class -/
def othC (Ts : List String) (Cs : List Str) (y : D) (μ : Mu) (Q : Prop) : Prop := match tyD y μ with
  | some (.b T) => T ∈ Ts ∧ Q
  | some (.c c') => c' ∈ Cs ∧ Q
  | none => False
theorem othC_of {Ts : List String} {Cs : List Str} {y : D} {μ : Mu} {Q : Prop} (h : othC Ts Cs y μ Q) : ((∃ T, tyD y μ = some (.b T) ∧ T ∈ Ts) ∨ ∃ c, tyD y μ = some (.c c) ∧ c ∈ Cs) ∧ Q := by
  unfold othC at h
  split at h
  · exact ⟨.inl ⟨_, by assumption, h.1⟩, h.2⟩
  · exact ⟨.inr ⟨_, by assumption, h.1⟩, h.2⟩
  · exact h.elim
structure CmpD (P : Program) (w : World) (K : PySem.W.Frag) (mg : Str → Option Value) (base : Heap) (k : Nat) (c nm : Str) (Ts : List String) (Cs : List Str) (ps : List Str) (sp : DSp) : Prop where
  ex : ∃ C f fd, mg c = some (.ref C) ∧ CmpFn K C nm f ∧ (∀ T ∈ Ts, PySem.W.notFirst K C (.type T) = true) ∧ (∀ c' ∈ Cs, ∀ C', mg c' = some (.ref C') → InsT K C' ∧ PySem.W.notFirst K C (.ref C') = true) ∧ Binds K fd ps [] ∧ FnG P w K mg base k f fd ps (toSp ⟨K, mg, none⟩ sp)
/-- what the operands are, by values -/
def Opd (G : Gx) (c : Str) (Ts : List String) (Cs : List Str) (x y : V) (H : Hp) : Prop := ∃ p C dx fs t, x = .ref p ∧ G.mg c = some (.ref C) ∧ H p = some (.ins C dx fs) ∧ TyX G.K H y t ∧ ((∃ T ∈ Ts, t = .type T) ∨ ∃ c' ∈ Cs, ∃ C', G.mg c' = some (.ref C') ∧ t = .ref C')
def rOwn (G : Gx) (c : Str) (Ts : List String) (Cs : List Str) (sp : DSp) : R2 := fun x y H Q => Opd G c Ts Cs x y H ∧ ∀ E, toSp G sp [x, y] H Q E
def rOwnN (G : Gx) (c : Str) (Ts : List String) (Cs : List Str) (sp : DSp) : R2 := fun x y H Q => Opd G c Ts Cs x y H ∧ ∀ E, toSp G sp [x, y] H (fun v H' => ∃ k, v = .bl k ∧ Q (.bl (!k)) H') E
def fOwn (c : Str) (Ts : List String) (Cs : List Str) (sp : DSp) : F2 := fun x y μ Q => isCls c x μ (othC Ts Cs y μ (sp [x, y] μ Q xF))
def fOwnN (c : Str) (Ts : List String) (Cs : List Str) (sp : DSp) : F2 := fun x y μ Q => isCls c x μ (othC Ts Cs y μ (sp [x, y] μ (fun d μ1 => fBool d fun b => Q (.bl (!b)) μ1) xF))
section
variable {X : Cx} {k j : Nat} {ps : List Str} {c nm : Str} {Ts : List String} {Cs : List Str} {sp : DSp}
theorem opd_of {base : Heap} {P : Program} {w : World} {G : Gx} {Z : Addr → Prop} {m : List Addr} {μ : Mu} {H : Hp} {x y : D} {u v : V} {ks : List Str} {ds : List D} (D : CmpD P w G.K G.mg base k c nm Ts Cs ps sp) (M : MuOk G Z m μ H) (rx : Rep G m (vis Z m H) x u) (ry : Rep G m (vis Z m H) y v)
    (hi : insD x μ = some (c, ks, ds)) (hty : (∃ T, tyD y μ = some (.b T) ∧ T ∈ Ts) ∨ ∃ c', tyD y μ = some (.c c') ∧ c' ∈ Cs) : Opd G c Ts Cs u v H := by
  obtain ⟨C, f, fd, g1, g2, g3, g4, g5, F⟩ := D.ex
  obtain ⟨p, C', dx, vs, rfl, g, hp, l, rs⟩ := ins_rep M rx hi
  rcases hty with ⟨T, e, hT'⟩ | ⟨c', e, hc'⟩
  · obtain ⟨tv, t1, t2⟩ := tyX_of (G := G) M ry e (fun c' z => nomatch z)
    exact ⟨p, C', dx, _, tv, rfl, g, hp, t2, .inl ⟨T, hT', t1⟩⟩
  · obtain ⟨tv, t1, t2⟩ := tyX_of (G := G) M ry e (fun c2 z C2 g2' => by
      cases z
      exact (g4 c' hc' C2 g2').1)
    exact ⟨p, C', dx, _, tv, rfl, g, hp, t2, .inr ⟨c', hc', t1⟩⟩
theorem s2_own {base : Heap} {P : Program} {w : World} {G : Gx} (hG : G.ex = none) (D : CmpD P w G.K G.mg base k c nm Ts Cs ps sp) : S2 G (rOwn G c Ts Cs sp) (fOwn c Ts Cs sp) := by
  intro Z m μ H x y u v Q Q' M rx ry h kk
  obtain ⟨ks, ds, hi, q3⟩ := isCls_of h
  obtain ⟨hty, q4⟩ := othC_of q3
  exact ⟨opd_of D M rx ry hi hty, fun E => ⟨Z, m, μ, [x, y], Q, xF, M, Reps.cons rx (Reps.cons ry Reps.nil), q4, kk, fun cls d H' P => (xpF P).elim⟩⟩
theorem s2_ownN {base : Heap} {P : Program} {w : World} {G : Gx} (hG : G.ex = none) (D : CmpD P w G.K G.mg base k c nm Ts Cs ps sp) : S2 G (rOwnN G c Ts Cs sp) (fOwnN c Ts Cs sp) := by
  intro Z m μ H x y u v Q Q' M rx ry h kk
  obtain ⟨ks, ds, hi, q3⟩ := isCls_of h
  obtain ⟨hty, q4⟩ := othC_of q3
  refine ⟨opd_of D M rx ry hi hty, fun E => ⟨Z, m, μ, [x, y], _, xF, M, Reps.cons rx (Reps.cons ry Reps.nil), q4, fun z H' P => ?_, fun cls d H' P => (xpF P).elim⟩⟩
  obtain ⟨m', d, μ', s1, r1, q1⟩ := P
  obtain ⟨b, rfl, q2⟩ := fBool_of q1
  rw [Rep] at r1
  exact ⟨b, r1, kk _ _ ⟨m', _, μ', s1, by rw [Rep], q2⟩⟩
theorem op_own {op : CmpOp} (D : CmpD X.prog X.w X.K X.mg X.base k c nm Ts Cs ps sp) (hr : Room j X.A) (hkj : k ≤ j) (hgd : X.A.guards = some []) (hn : (cmpInfo op).2.1 = nm := by rfl) (ho : ∀ a b, compareOp op a b = richCompare op a b := by intro _ _; rfl) :
    OpR X (compareOp op) (rOwn (gx X none) c Ts Cs sp) := by
  intro pins s σ H x y v u Q I rx ry h
  obtain ⟨C, f, fd, g1, g2, g3, g4, g5, F⟩ := D.ex
  obtain ⟨⟨p, C', dx, fs, t, rfl, gm, hp, ty, cs⟩, q⟩ := h
  have gm' : X.mg c = some (.ref C') := gm
  rw [g1] at gm'
  cases gm'
  obtain rfl : v = Value.ref p := rx
  obtain ⟨mA, O2, _⟩ := ins_get I.hok hp
  obtain ⟨od, J, _⟩ := O2.look
  obtain ⟨PP, Z, pp, _⟩ := kit_of I ry ty
  have lk := Z.ty (model X.prog X.w) s.heap I.kIn pp
  have nf : PySem.W.notFirst X.K C t = true := by
    rcases cs with ⟨T, hT, rfl⟩ | ⟨c', hc, C2, g, rfl⟩
    · exact g3 T hT
    · exact (g4 c' hc C2 g).2
  have fin : wpAny (model X.prog X.w) X.A (call (.ref f) [.ref p, u]) (PySem.W.CmpBack (EP X pins σ Q)) X.xe s :=
    wpAny_mono (run_fnG (us := [.ref p, u]) (vs := [.ref p, y]) F (hr.mono hkj) hgd g5 takes0 I (.cons rfl (.cons ry .nil)) (q _)) (fun w' s' z => by
      obtain ⟨z', H', I', rz, qz⟩ := z
      exact SlX.cmpback rz ⟨z', H', I', rz, qz⟩) fun _ _ z => z
  obtain ⟨m0, hF⟩ := I.fr
  rw [ho]
  refine PySem.W.cmp_K (by have := hr.un; omega) hF I.ok.mod.kin J lk nf ?_ g2.fn fin
  rw [hn]
  exact g2.at_
theorem op_ownNe (D : CmpD X.prog X.w X.K X.mg X.base k c "__eq__" Ts Cs ps sp) (N : ∀ C, X.mg c = some (.ref C) → NeFn X.K C) (hr : Room j X.A) (hkj : k + 1 ≤ j) (hgd : X.A.guards = some []) : OpR X (compareOp .NotEq) (rOwnN (gx X none) c Ts Cs sp) := by
  intro pins s σ H x y v u Q I rx ry h
  obtain ⟨C, f, fd, g1, g2, g3, g4, g5, F⟩ := D.ex
  obtain ⟨⟨p, C', dx, fs, t, rfl, gm, hp, ty, cs⟩, q⟩ := h
  have gm' : X.mg c = some (.ref C') := gm
  rw [g1] at gm'
  cases gm'
  obtain rfl : v = Value.ref p := rx
  obtain ⟨mA, O2, _⟩ := ins_get I.hok hp
  obtain ⟨od, J, _⟩ := O2.look
  obtain ⟨PP, Z, pp, _⟩ := kit_of I ry ty
  have lk := Z.ty (model X.prog X.w) s.heap I.kIn pp
  have nf : PySem.W.notFirst X.K C t = true := by
    rcases cs with ⟨T, hT, rfl⟩ | ⟨c', hc, C2, g, rfl⟩
    · exact g3 T hT
    · exact (g4 c' hc C2 g).2
  have hr2 := hr.mono hkj
  have hl : [Value.ref p, u].length = ps.length := F.len _ _ _ _ (q fun _ _ _ => False)
  have bd := g5 s [.ref p, u] I.kIn (by simpa using hl)
  rw [List.append_nil] at bd
  refine ne_own (by have := hr.un; omega) I.kIn J lk nf (N C g1) g2 (wpAny_call (codeAny_mono (F.run X.A.in1 X.stack s H ⟨[.ref p, u], []⟩ [.ref p, u] [.ref p, y] _ (fun _ _ _ => False) hr2.in1 hgd I.env0.in1 bd (.cons rfl (.cons ry .nil)) (q _)) fun res s2 out => ?_))
  match res, out with
  | .error er, out =>
    obtain ⟨_, _, _, _, _, _, _, _, _, _, _, _, z⟩ := out
    exact z.elim
  | .ok (.ret w2), out =>
    obtain ⟨v2, H', I3, rv, b, rfl, q3⟩ := I.after out
    obtain rfl : w2 = Value.bool b := rv
    exact ⟨b, rfl, .bl (!b), H', I3, rfl, q3⟩
/-! y in x by x's own `__contains__` -/
def rHas (G : Gx) (c : Str) (sp : DSp) : R2 := fun y x H Q => (∃ p C dx fs, x = .ref p ∧ G.mg c = some (.ref C) ∧ H p = some (.ins C dx fs)) ∧ ∀ E, toSp G sp [x, y] H (fun v H' => ∃ k, v = .bl k ∧ Q (.bl k) H') E
def rHasN (G : Gx) (c : Str) (sp : DSp) : R2 := fun y x H Q => (∃ p C dx fs, x = .ref p ∧ G.mg c = some (.ref C) ∧ H p = some (.ins C dx fs)) ∧ ∀ E, toSp G sp [x, y] H (fun v H' => ∃ k, v = .bl k ∧ Q (.bl (!k)) H') E
def fHas (c : Str) (sp : DSp) : F2 := fun y x μ Q => isCls c x μ (sp [x, y] μ (fun d μ1 => fBool d fun b => Q (.bl b) μ1) xF)
def fHasN (c : Str) (sp : DSp) : F2 := fun y x μ Q => isCls c x μ (sp [x, y] μ (fun d μ1 => fBool d fun b => Q (.bl (!b)) μ1) xF)
theorem s2_has {G : Gx} : S2 G (rHas G c sp) (fHas c sp) := by
  intro Z m μ H y x v u Q Q' M ry rx h kk
  obtain ⟨ks, ds, hi, q4⟩ := isCls_of h
  obtain ⟨p, C', dx, vs, rfl, g, hp, l, rs⟩ := ins_rep M rx hi
  refine ⟨⟨p, C', dx, _, rfl, g, hp⟩, fun E => ⟨Z, m, μ, [x, y], _, xF, M, Reps.cons rx (Reps.cons ry Reps.nil), q4, fun z H' P => ?_, fun cls d H' P => (xpF P).elim⟩⟩
  obtain ⟨m', d, μ', s1, r1, q1⟩ := P
  obtain ⟨b, rfl, q2⟩ := fBool_of q1
  rw [Rep] at r1
  exact ⟨b, r1, kk _ _ ⟨m', _, μ', s1, by rw [Rep], q2⟩⟩
theorem s2_hasN {G : Gx} : S2 G (rHasN G c sp) (fHasN c sp) := by
  intro Z m μ H y x v u Q Q' M ry rx h kk
  obtain ⟨ks, ds, hi, q4⟩ := isCls_of h
  obtain ⟨p, C', dx, vs, rfl, g, hp, l, rs⟩ := ins_rep M rx hi
  refine ⟨⟨p, C', dx, _, rfl, g, hp⟩, fun E => ⟨Z, m, μ, [x, y], _, xF, M, Reps.cons rx (Reps.cons ry Reps.nil), q4, fun z H' P => ?_, fun cls d H' P => (xpF P).elim⟩⟩
  obtain ⟨m', d, μ', s1, r1, q1⟩ := P
  obtain ⟨b, rfl, q2⟩ := fBool_of q1
  rw [Rep] at r1
  exact ⟨b, r1, kk _ _ ⟨m', _, μ', s1, by rw [Rep], q2⟩⟩
structure HasD (P : Program) (w : World) (K : PySem.W.Frag) (mg : Str → Option Value) (base : Heap) (k : Nat) (c : Str) (ps : List Str) (sp : DSp) : Prop where
  ex : ∃ C f fd, mg c = some (.ref C) ∧ CmpFn K C "__contains__" f ∧ Binds K fd ps [] ∧ FnG P w K mg base k f fd ps (toSp ⟨K, mg, none⟩ sp)
theorem op_has (D : HasD X.prog X.w X.K X.mg X.base k c ps sp) (hr : Room j X.A) (hkj : k ≤ j) (hgd : X.A.guards = some []) : OpR X (compareOp .In) (rHas (gx X none) c sp) := by
  intro pins s σ H y x u v Q I ry rx h
  obtain ⟨C, f, fd, g1, g2, g5, F⟩ := D.ex
  obtain ⟨⟨p, C', dx, fs, rfl, gm, hp⟩, q⟩ := h
  have gm' : X.mg c = some (.ref C') := gm
  rw [g1] at gm'
  cases gm'
  obtain rfl : v = Value.ref p := rx
  obtain ⟨mA, O2, _⟩ := ins_get I.hok hp
  obtain ⟨od, J, _⟩ := O2.look
  obtain ⟨m0, hF⟩ := I.fr
  refine PySem.W.in_K hF I.ok.mod.kin J g2.at_ g2.fn (wpAny_mono (run_fnG (us := [.ref p, u]) (vs := [.ref p, y]) F (hr.mono hkj) hgd g5 takes0 I (.cons rfl (.cons ry .nil)) (q _)) (fun w' s' z => ?_) fun _ _ z => z)
  obtain ⟨z', H', I', rz, b, rfl, qz⟩ := z
  obtain rfl : w' = Value.bool b := rz
  exact wpAny_truthy_bool ⟨.bl b, H', I', rfl, qz⟩
theorem op_hasN (D : HasD X.prog X.w X.K X.mg X.base k c ps sp) (hr : Room j X.A) (hkj : k ≤ j) (hgd : X.A.guards = some []) : OpR X (compareOp .NotIn) (rHasN (gx X none) c sp) := by
  intro pins s σ H y x u v Q I ry rx h
  obtain ⟨C, f, fd, g1, g2, g5, F⟩ := D.ex
  obtain ⟨⟨p, C', dx, fs, rfl, gm, hp⟩, q⟩ := h
  have gm' : X.mg c = some (.ref C') := gm
  rw [g1] at gm'
  cases gm'
  obtain rfl : v = Value.ref p := rx
  obtain ⟨mA, O2, _⟩ := ins_get I.hok hp
  obtain ⟨od, J, _⟩ := O2.look
  obtain ⟨m0, hF⟩ := I.fr
  refine PySem.W.notIn_K hF I.ok.mod.kin J g2.at_ g2.fn (wpAny_mono (run_fnG (us := [.ref p, u]) (vs := [.ref p, y]) F (hr.mono hkj) hgd g5 takes0 I (.cons rfl (.cons ry .nil)) (q _)) (fun w' s' z => ?_) fun _ _ z => z)
  obtain ⟨z', H', I', rz, b, rfl, qz⟩ := z
  obtain rfl : w' = Value.bool b := rz
  exact wpAny_truthy_bool ⟨.bl (!b), H', I', rfl, qz⟩
end
/-! from the head's facts -/
def cmpB (K : PySem.W.Frag) (c nm : Str) (Ts : List String) (Cs : List Str) : Bool := (He.Fa.glo c).ok K && (He.eqO (PySem.W.findIn K (.ref (He.ga K c)) nm) (some (some (.ref (He.ma K (He.ga K c) nm)))) && (PySem.W.isFn K (.ref (He.ma K (He.ga K c) nm)) &&
  (Ts.all (fun T => PySem.W.notFirst K (He.ga K c) (.type T)) && Cs.all fun c' => (He.Fa.glo c').ok K && (insB K c' && PySem.W.notFirst K (He.ga K c) (.ref (He.ga K c'))))))
theorem cmpD_of {P : Program} {w : World} {K : PySem.W.Frag} {h : Heap} {mg : Str → Option Value} {base : Heap} {k : Nat} {c nm : Str} {Ts : List String} {Cs : List Str} {ps : List Str} {sp : DSp} {fd : FuncData} (X : K.In h) (G : h.Ns mainGlobals mg)
    (B : cmpB K c nm Ts Cs = true) (bi : Binds K fd ps []) (F : FnG P w K mg base k (He.fAd K (c, some nm)) fd ps (toSp ⟨K, mg, none⟩ sp)) : CmpD P w K mg base k c nm Ts Cs ps sp := by
  obtain ⟨h1, B⟩ := He.ba B
  obtain ⟨h2, B⟩ := He.ba B
  obtain ⟨h3, B⟩ := He.ba B
  obtain ⟨h4, h5⟩ := He.ba B
  refine ⟨_, _, fd, He.glo_ok X G h1, ⟨He.eqO_ok h2, h3⟩, fun T hT => List.all_eq_true.mp h4 T hT, fun c' hc C' g => ?_, bi, F⟩
  obtain ⟨q1, q2⟩ := He.ba (List.all_eq_true.mp h5 c' hc)
  obtain ⟨q2, q3⟩ := He.ba q2
  rw [He.glo_ok X G q1] at g
  cases g
  exact ⟨insB_ok q2, q3⟩
def neB (K : PySem.W.Frag) (c : Str) : Bool := (He.Fa.glo c).ok K && (He.eqO (PySem.W.findIn K (.ref (He.ga K c)) "__ne__") (some (some (.builtin "object.__ne__"))) && decide (PySem.W.mroIn K (He.ga K c) (.type "object") = some true))
theorem ne_of {K : PySem.W.Frag} {h : Heap} {mg : Str → Option Value} {c : Str} (X : K.In h) (G : h.Ns mainGlobals mg) (B : neB K c = true) : ∀ C, mg c = some (.ref C) → NeFn K C := by
  obtain ⟨h1, B⟩ := He.ba B
  obtain ⟨h2, h3⟩ := He.ba B
  intro C g
  rw [He.glo_ok X G h1] at g
  cases g
  exact ⟨He.eqO_ok h2, of_decide_eq_true h3⟩
def hasB (K : PySem.W.Frag) (c : Str) : Bool := (He.Fa.glo c).ok K && (He.eqO (PySem.W.findIn K (.ref (He.ga K c)) "__contains__") (some (some (.ref (He.ma K (He.ga K c) "__contains__")))) && PySem.W.isFn K (.ref (He.ma K (He.ga K c) "__contains__")))
theorem hasD_of {P : Program} {w : World} {K : PySem.W.Frag} {h : Heap} {mg : Str → Option Value} {base : Heap} {k : Nat} {c : Str} {ps : List Str} {sp : DSp} {fd : FuncData} (X : K.In h) (G : h.Ns mainGlobals mg)
    (B : hasB K c = true) (bi : Binds K fd ps []) (F : FnG P w K mg base k (He.fAd K (c, some "__contains__")) fd ps (toSp ⟨K, mg, none⟩ sp)) : HasD P w K mg base k c ps sp := by
  obtain ⟨h1, B⟩ := He.ba B
  obtain ⟨h2, h3⟩ := He.ba B
  exact ⟨_, _, fd, He.glo_ok X G h1, ⟨He.eqO_ok h2, h3⟩, bi, F⟩
end DL

set_option Elab.async false
set_option linter.all false
set_option maxRecDepth 100000
set_option maxHeartbeats 4000000
set_option autoImplicit false
namespace DL
open PySem PySem.Spec PyProof.Rows L2
/-! ### y op x, y of a built-in type, by x's own `__rop__` -/
structure RfFn (K : PySem.W.Frag) (C : Addr) (op : Operator) (f : Addr) : Prop where
  first : PySem.W.selfFirst K C = true
  at_ : ∃ g : Addr, PySem.W.findIn K (.ref C) (PySem.dunder op.info.2) = some (some (.ref g))
  back : PySem.W.findIn K (.ref C) (PySem.dunderR op.info.2) = some (some (.ref f))
  fn : PySem.W.isFn K (.ref f) = true
/-- what of the built-in type: whether it has the operator itself (l) -/
structure RfTy (K : PySem.W.Frag) (C : Addr) (op : Operator) (T : String) (l : Bool) : Prop where
  ex : ∃ fo ro, PySem.W.findIn K (.type T) (PySem.dunder op.info.2) = some fo ∧ PySem.W.findIn K (.type T) (PySem.dunderR op.info.2) = some ro ∧ ((fo.isSome && !isSeqSlot fo) || (ro.isSome && !isSeqSlot ro)) = l
  sub : PySem.W.subIn K (.ref C) (.type T) = some false
section
open PySem.W
variable {prog : Program} {w : World} {A : Around} {E : Value → Shared → Prop} {s : Shared} {K : Frag} {x C g : Addr} {ox : Obj} {od : Option Obj} {T : String}
theorem bin_back {op : Operator} {y : Value} {l : Bool} {QQ : Value → Shared → Prop} (kin : K.In s.heap) (J : InstAt s.heap x ox C od) (ty : Looks (model prog w) s.heap (typeOf y) (.type T)) (O : RfFn K C op g) (B : RfTy K C op T l)
    (decl : l = true → wpAny (model prog w) A (tryMethod y (PySem.dunder op.info.2) (.ref x)) (fun r s' => r = none ∧ s' = s) E s)
    (run : wpAny (model prog w) A (call (.ref g) [.ref x, y]) (PySem.W.CmpBack QQ) E s) : wpAny (model prog w) A (binaryOp op y (.ref x)) QQ E s := by
  obtain ⟨cd, tl, e1, e2⟩ := ksp_first O.first
  obtain ⟨f0, hs⟩ := O.at_
  obtain ⟨fo, ro, hfo, hro, hl⟩ := B.ex
  have hb := O.back
  rcases hi : op.info with ⟨sg, nn⟩
  rw [hi] at hs hb hfo hro decl
  dsimp only at hs hb hfo hro decl
  have ask := ksp_try kin J hb O.fn run
  obtain ⟨hh, gg, dd, tt, os⟩ := s
  have t1 : Looks (model prog w) hh (typeOf (.ref x)) (.ref C) := J.type
  have t2 : Looks (model prog w) hh (typeOf y) (.type T) := ty
  have t3 : Looks (model prog w) hh (fillsNumberSlot (.ref C) nn) true := fills_K kin e1 e2 hs
  have t4 : Looks (model prog w) hh (fillsNumberSlot (.type T) nn) l := hl ▸ ksp_fillsT kin hfo hro
  have t5 : Looks (model prog w) hh (isSubtype (.ref C) (.type T)) false := looks_subIn kin B.sub
  have t7 : Looks (model prog w) hh (numberSlotInPython (.type T) nn) false := Looks.of_pure rfl
  have dif : (Value.type T == Value.ref C) = false := Bool.eq_false_iff.mpr fun z => by cases beq_iff_eq.mp z
  simp only [binaryOp, hi]
  refine wpAny_holding (wpAny_bind ?_)
  unfold binaryOp1
  refine wpAny_bind (t2.at (wpAny_bind (t1.at (wpAny_bind (t4.at ?_)))))
  simp only [dif, Bool.false_eq_true, if_false]
  cases l with
  | false =>
    ksp_lk
    refine wpAny_mono ask (fun r s2 got => ?_) fun _ _ z => z
    obtain ⟨v, rfl, hq⟩ := got
    ksp_lk
    exact hq
  | true =>
    ksp_lk
    refine wpAny_mono (decl rfl) (fun r s2 got => ?_) fun _ _ z => z
    obtain ⟨rfl, rfl⟩ := got
    ksp_lk
    refine wpAny_mono ask (fun r s2 got => ?_) fun _ _ z => z
    obtain ⟨v, rfl, hq⟩ := got
    ksp_lk
    exact hq
end
section
open PySem.W
variable {prog : Program} {w : World} {A : Around} {E : Value → Shared → Prop} {s : Shared}
/-- int.__mul__ knows no instance -/
theorem decl_mul {i : Int} {t : Nat} {x C dx : Addr} (hx : s.heap.get? x = some (instObj C dx)) : wpAny (model prog w) A (tryMethod (.int i t) (PySem.dunder "mul") (.ref x)) (fun r s' => r = none ∧ s' = s) E s := by
  unfold tryMethod
  refine wpAny_bind (m := callSpecial? (.int i t) (PySem.dunder "mul") [.ref x]) ?_
  refine @wpAny_callSpecial?_slot (model prog w) A E s (.int i t) "int" (PySem.dunder "mul") "int.__mul__" [.ref x] [] _ (typeIs_int s i t) F.slot_int_mul ?_
  refine GQ.call_here (id := "int.__mul__") (B := Builtin.«int.__mul__») F.slot_int_mul (typeIs_int s i t) F.entry_int_mul ?_ ?_
  · exact F.args_int_mul_2 _ _
  show wpAny _ _ (asInt? (.ref x) >>= _) _ _ s
  refine wpAny_bind ?_
  unfold asInt?
  refine wpAny_bind (wpAny_load hx (wpAny_pure ?_))
  show wpAny _ _ (rule _ >>= fun _ => ret Value.notImplemented) _ _ s
  refine wpAny_bind (wpAny_rule (wpAny_pure ?_))
  exact wpAny_pure ⟨rfl, rfl⟩
end
/-- y op x by x's own reflected def -/
structure BackD (P : Program) (w : World) (K : PySem.W.Frag) (mg : Str → Option Value) (base : Heap) (k : Nat) (c : Str) (op : Operator) (T : String) (l : Bool) (ps : List Str) (sp : DSp) : Prop where
  ex : ∃ C f fd, mg c = some (.ref C) ∧ RfFn K C op f ∧ RfTy K C op T l ∧ Binds K fd ps [] ∧ FnG P w K mg base k f fd ps (toSp ⟨K, mg, none⟩ sp)
def isTy (T : String) (y : D) (μ : Mu) (Q : Prop) : Prop := match tyD y μ with
  | some (.b T') => T' = T ∧ Q
  | _ => False
theorem isTy_of {T : String} {y : D} {μ : Mu} {Q : Prop} (h : isTy T y μ Q) : tyD y μ = some (.b T) ∧ Q := by
  unfold isTy at h
  split at h
  · rename_i e
    exact ⟨h.1 ▸ e, h.2⟩
  · exact h.elim
def wBack (c : Str) (T : String) (sp : DSp) (wa wb : WE) : WE := fun ρ μ Q Xd => wa ρ μ (fun y μ1 => wb ρ μ1 (fun x μ2 => isTy T y μ2 (isCls c x μ2 (sp [x, y] μ2 Q Xd))) Xd) Xd
def intL (T : String) (l : Bool) (v : V) : Prop := l = true → ∃ i, v = .int i
section
variable {W : WX} {X : Cx} {a b : Expr} {wa wb : WE} {pos : Pos} {k j : Nat} {ps : List Str} {c : Str} {sp : DSp} {T : String} {l : Bool}
def tBack (K : PySem.W.Frag) (C : Addr) (T : String) (l : Bool) (sp : Sp) (W : WX) (ta tb : TE) : TE := fun σ H Q => ta σ H fun y H1 => tb σ H1 fun x H2 => ∃ p dx fs, x = .ref p ∧ H2 p = some (.ins C dx fs) ∧ TyX K H2 y (.type T) ∧ intL T l y ∧ sp [x, y] H2 Q (L2.WE W σ)
theorem pe_back {op : Operator} {sp : Sp} {ta tb : TE} {C f : Addr} {fd : FuncData} (O : RfFn X.K C op f) (B : RfTy X.K C op T l) (hm : l = true → op = .Mult) (F : FnG X.prog X.w X.K X.mg X.base k f fd ps sp) (hr : Room k X.A) (hgd : X.A.guards = some []) (hb : Binds X.K fd ps []) (tk : Takes X W) (h1 : PE X a ta) (h2 : PE X b tb) :
    PE X (.BinOp a op b pos) (tBack X.K C T l sp W ta tb) := by
  refine ⟨fun pins s σ H Q I h => ?_⟩
  refine wpAny_BinOp (binT h1 h2 I h fun v u s2 y x H2 I2 ry rx q => ?_)
  obtain ⟨p, dx, fs, rfl, hp, ty, hi, q⟩ := q
  obtain rfl : u = Value.ref p := rx
  obtain ⟨mA, O2, _⟩ := ins_get I2.hok hp
  obtain ⟨od, J, _⟩ := O2.look
  obtain ⟨PP, Z, pp, _⟩ := kit_of I2 ry ty
  have lk := Z.ty (model X.prog X.w) s2.heap I2.kIn pp
  have fin : wpAny (model X.prog X.w) X.A (call (.ref f) [.ref p, v]) (PySem.W.CmpBack (EP X pins σ Q)) X.xe s2 :=
    wpAny_mono (run_fnG (us := [.ref p, v]) (vs := [.ref p, y]) F hr hgd hb tk I2 (.cons rfl (.cons ry .nil)) q) (fun w' s' z => by
      obtain ⟨z', H', I', rz, qz⟩ := z
      exact SlX.cmpback rz ⟨z', H', I', rz, qz⟩) fun _ _ z => z
  refine bin_back I2.kIn J lk O B (fun hl => ?_) fin
  obtain ⟨i, rfl⟩ := hi hl
  obtain ⟨t, rfl⟩ := (show ∃ t, v = Value.int i t from ry)
  cases hm hl
  exact decl_mul J.at_
theorem de_back {op : Operator} (D : BackD X.prog X.w X.K X.mg X.base k c op T l ps sp) (hm : l = true → op = .Mult ∧ T = "int") (hr : Room j X.A) (hkj : k ≤ j) (hgd : X.A.guards = some []) (tk : Takes X W) (h1 : DE none W X a wa) (h2 : DE none W X b wb) :
    DE none W X (.BinOp a op b pos) (wBack c T sp wa wb) := by
  obtain ⟨C, f, fd, g1, g2, g3, g4, F⟩ := D.ex
  refine pe_weak (pe_back g2 g3 (fun hl => (hm hl).1) F (hr.mono hkj) hgd g4 tk h1 h2) fun σ H Q' q => ?_
  obtain ⟨Z, m, ρ, μ, Q, Xd, S, q, k, kx⟩ := q
  refine ⟨Z, m, ρ, μ, _, Xd, S, q, fun v H1 P => ?_, kx⟩
  obtain ⟨m1, y, μ1, s1, r1, q1⟩ := P
  refine ⟨Z, m1, ρ, μ1, _, Xd, S.step s1, q1, fun u H2 P => ?_, fun cls d H' P => kx cls d H' (XPost.from s1 P)⟩
  obtain ⟨m2, x, μ2, s2, r2, q2⟩ := P
  obtain ⟨ht, q3⟩ := isTy_of q2
  obtain ⟨ks, ds, hi, q4⟩ := isCls_of q3
  have r1' := Rep.mono s2.pre s2.same _ _ r1
  obtain ⟨p, C', dx, vs, rfl, g, hp, l', rs⟩ := ins_rep s2.mu r2 hi
  have g' : X.mg c = some (.ref C') := g
  rw [g1] at g'
  cases g'
  have s12 := s1.trans s2
  obtain ⟨tv, t1, t2⟩ := tyX_of (G := gx X none) s2.mu r1' ht (fun c' z => nomatch z)
  have t1' : tv = .type T := t1
  subst t1'
  refine ⟨p, dx, _, rfl, hp, t2, fun hl => ?_, ⟨_, m2, μ2, [x, y], Q, Xd, s2.mu, Reps.cons r2 (Reps.cons r1' Reps.nil), q4, fun v H' P => k v H' (VPost.from s12 P), fun cls d H' P => kx cls d H' (XPost.from s12 P)⟩⟩
  obtain ⟨_, rfl⟩ := hm hl
  cases y with
  | int i =>
    rw [Rep] at r1'
    exact ⟨_, r1'⟩
  | loc n =>
    simp only [tyD] at ht
    split at ht <;> simp at ht
  | opq o =>
    simp only [tyD] at ht
    split at ht <;> simp_all
  | _ => simp [tyD] at ht
end
def rfB (K : PySem.W.Frag) (c nm rn : Str) (T : String) (l : Bool) : Bool := (He.Fa.glo c).ok K && (PySem.W.selfFirst K (He.ga K c) && (He.eqO (PySem.W.findIn K (.ref (He.ga K c)) nm) (some (some (.ref (He.ma K (He.ga K c) nm)))) && (He.eqO (PySem.W.findIn K (.ref (He.ga K c)) rn) (some (some (.ref (He.ma K (He.ga K c) rn)))) &&
  (PySem.W.isFn K (.ref (He.ma K (He.ga K c) rn)) && (decide (PySem.W.subIn K (.ref (He.ga K c)) (.type T) = some false) && (match PySem.W.findIn K (.type T) nm, PySem.W.findIn K (.type T) rn with
    | some fo, some ro => ((fo.isSome && !isSeqSlot fo) || (ro.isSome && !isSeqSlot ro)) == l
    | _, _ => false))))))
theorem backD_of {P : Program} {w : World} {K : PySem.W.Frag} {h : Heap} {mg : Str → Option Value} {base : Heap} {k : Nat} {c nm rn : Str} {op : Operator} {T : String} {l : Bool} {ps : List Str} {sp : DSp} {fd : FuncData} (X : K.In h) (G : h.Ns mainGlobals mg)
    (B : rfB K c nm rn T l = true) (e1 : PySem.dunder op.info.2 = nm) (e2 : PySem.dunderR op.info.2 = rn) (bi : Binds K fd ps []) (F : FnG P w K mg base k (He.fAd K (c, some rn)) fd ps (toSp ⟨K, mg, none⟩ sp)) : BackD P w K mg base k c op T l ps sp := by
  subst e1 e2
  obtain ⟨h1, B⟩ := He.ba B
  obtain ⟨h2, B⟩ := He.ba B
  obtain ⟨h3, B⟩ := He.ba B
  obtain ⟨h4, B⟩ := He.ba B
  obtain ⟨h5, B⟩ := He.ba B
  obtain ⟨h6, B⟩ := He.ba B
  refine ⟨_, _, fd, He.glo_ok X G h1, ⟨h2, ⟨_, He.eqO_ok h3⟩, He.eqO_ok h4, h5⟩, ⟨?_, of_decide_eq_true h6⟩, bi, F⟩
  split at B
  · rename_i fo ro q1 q2
    exact ⟨fo, ro, q1, q2, beq_iff_eq.mp B⟩
  · cases B
end DL

set_option Elab.async false
set_option linter.all false
set_option maxRecDepth 100000
set_option maxHeartbeats 4000000
set_option autoImplicit false
namespace DL
open PySem PySem.Spec PyProof.Rows L2
/-! ### C.m(), m a staticmethod -/
structure StatD (P : Program) (w : World) (K : PySem.W.Frag) (mg : Str → Option Value) (base : Heap) (k : Nat) (c m : Str) (ps : List Str) (sp : DSp) : Prop where
  ex : ∃ C p g fd, mg c = some (.ref C) ∧ PySem.W.specialIn K (.ref C) "__getattribute__" = some (some (.builtin "type.__getattribute__")) ∧ PySem.W.typeIn K (.ref C) = some (.type "type") ∧ PySem.W.readsIn K C (.type "type") = true ∧
    PySem.W.findCls K (.ref C) (.type "type") m = some (.get (.builtin "staticmethod.__get__") (.ref p) .none (.ref C)) ∧ (∃ rest, PySem.W.recIn K p "staticmethod" = some (.ref g :: rest)) ∧ PySem.W.handedIn (.ref g) = true ∧ PySem.W.keepIn K (.ref g) = true ∧
    Binds K fd ps [] ∧ FnG P w K mg base k g fd ps (toSp ⟨K, mg, none⟩ sp)
def wStat (sp : DSp) : WE := fun _ μ Q Xd => sp [] μ Q Xd
section
variable {W : WX} {X : Cx} {o : Expr} {pos apos : Pos} {k j : Nat} {ps : List Str} {c m : Str} {sp : DSp}
theorem de_statD {pl : Sem Bool} (D : StatD X.prog X.w X.K X.mg X.base k c m ps sp) (hr : Room j X.A) (hkj : k ≤ j) (hgd : X.A.guards = some []) (tk : Takes X W) (he : DE none W X o (wC (.cls c)))
    (ht : eval (.Call (.Attribute o m apos) [] [] pos) X.env = (do
      let ov ← eval o X.env
      standAt apos.atName
      let (f, first) ← holding [ov] (getMethod ov m pl)
      callWith pos f first (backTo pos (starEach [] X.env)) (backToKw pos (keywordEach [] X.env))) := by rfl) :
    DE none W X (.Call (.Attribute o m apos) [] [] pos) (wStat sp) := by
  obtain ⟨C, p, g, fd, g1, g2, g3, g4, g5, ⟨rest, g6⟩, g7, g8, g9, F⟩ := D.ex
  refine ⟨fun pins s σ H Q' I h => ?_⟩
  obtain ⟨Z, m0, ρ, μ, Q, Xd, S, q, kq, kx⟩ := h
  refine PySem.W.methodCall_KW (pl := pl) (thn (he.run pins s σ H (fun v H1 => v = .ref C ∧ ∃ m1, Step (gx X none) (ownW Z σ ρ) m0 H m1 μ H1) I ⟨Z, m0, ρ, μ, fun d μ1 => d = .cls c ∧ μ1 = μ, xF, S, ⟨rfl, rfl⟩, fun v H1 P => ?_, fun cls d H' P => (xpF P).elim⟩) fun u s1 hu => ?_) ht
  · obtain ⟨m1, d, μ1, s1, r1, rfl, rfl⟩ := P
    rw [Rep] at r1
    obtain ⟨C', gm, rfl⟩ := r1
    have gm' : X.mg c = some (.ref C') := gm
    rw [g1] at gm'
    cases gm'
    exact ⟨rfl, m1, s1⟩
  · obtain ⟨v, H1, I1, rv, rfl, m1, s1'⟩ := hu
    obtain rfl : u = Value.ref C := rv
    obtain ⟨mf, hF⟩ := I1.fr
    refine PySem.W.method_of_cls hF I1.ok.mod.kin g2 (PySem.W.cls_sm hF I1.ok.mod.kin g3 g4 g5 g6 g7 ?_)
    have I2 := I1.tok (s1.toks + 1)
    exact PySem.W.callWith_K0 (first := []) I2.kIn g8 (run_fnG (us := []) (vs := []) F (hr.mono hkj) hgd g9 tk I2 .nil ⟨_, m1, μ, [], Q, Xd, s1'.mu, Reps.nil, q, fun v H' P => kq v H' (VPost.from s1' P), fun cls d H' P => kx cls d H' (XPost.from s1' P)⟩)
end
def statB (K : PySem.W.Frag) (c m : Str) : Bool := (He.Fa.glo c).ok K && (He.eqO (PySem.W.specialIn K (.ref (He.ga K c)) "__getattribute__") (some (some (.builtin "type.__getattribute__"))) && (decide (PySem.W.typeIn K (.ref (He.ga K c)) = some (.type "type")) && (PySem.W.readsIn K (He.ga K c) (.type "type") &&
  (He5.wrapB K (He.ga K c) "staticmethod" "staticmethod.__get__" m && (PySem.W.handedIn (.ref (He5.wf K (He.ga K c) "staticmethod" m)) && PySem.W.keepIn K (.ref (He5.wf K (He.ga K c) "staticmethod" m)))))))
theorem statD_of {P : Program} {w : World} {K : PySem.W.Frag} {h : Heap} {mg : Str → Option Value} {base : Heap} {k : Nat} {c m : Str} {ps : List Str} {sp : DSp} {fd : FuncData} (X : K.In h) (G : h.Ns mainGlobals mg)
    (B : statB K c m = true) (bi : Binds K fd ps []) (F : FnG P w K mg base k (He5.wf K (He.ga K c) "staticmethod" m) fd ps (toSp ⟨K, mg, none⟩ sp)) : StatD P w K mg base k c m ps sp := by
  obtain ⟨h1, B⟩ := He.ba B
  obtain ⟨h2, B⟩ := He.ba B
  obtain ⟨h3, B⟩ := He.ba B
  obtain ⟨h4, B⟩ := He.ba B
  obtain ⟨h5, B⟩ := He.ba B
  obtain ⟨h6, h7⟩ := He.ba B
  obtain ⟨w1, w2⟩ := He5.wrapB_ok h5
  exact ⟨_, _, _, fd, He.glo_ok X G h1, He.eqO_ok h2, of_decide_eq_true h3, h4, w1, w2, h6, h7, bi, F⟩
/-! ### a list of the def's own -/
section
variable {ex : Option (Addr × Addr × Addr)} {W : WX} {X : Cx} {tg e : Expr} {es : List Expr} {wa : WE} {ws : WA} {pos p0 apos cpos : Pos} {i : Nat} {x : Str}
theorem di_own (hN : X.N[i]? = some x) (hv : Vis X.env.scope x := by first | exact Or.inl rfl | exact Or.inr (Or.inl rfl) | exact Or.inr (Or.inr rfl)) (hd : (x == ("__debug__" : Str)) = false := by decide) (hcd : (x == ("__classdict__" : Str)) = false := by decide) :
    DIF ex W X tg (.Name x pos) (wiOwn i) := pi_weak (pi_list (pe_var hN hv hd hcd)) fun σ H R q => by
  obtain ⟨Z, m, ρ, μ, Q, Xd, S, q, k, kx⟩ := q
  obtain ⟨p, ds, hi, q⟩ := ownL_of q
  obtain ⟨hs, nz, vs, hp, rs⟩ := S.own i p _ hi
  exact ⟨_, hs, p, rfl, ⟨vs, .inl (.inl hp)⟩, k _ _ ⟨m, ds, μ, fun H2 => H2 p = some (.lst vs), .refl S.mu, fun H2 hz => (hz p (.inr ⟨i, _, hi⟩)).trans hp, itokF_own (G := gx X ex) rs, q⟩⟩
def appO (i : Nat) (wa : WA) (E : DEnds) (ρ : DS) (μ : Mu) (o : Option Sl) : Prop := match o with
  | some (.own p (.lst ds)) => wa ρ μ (fun xs μ1 => ds.length < 1000000 ∧ ∃ d, xs = [d] ∧ E.nx (ρ.set i (.own p (.lst (ds ++ [d])))) μ1) fun c ks es μ' => E.xc c ks es ρ μ'
  | _ => False
def sAppO (i : Nat) (wa : WA) : WS := fun E ρ μ => appO i wa E ρ μ (ρ[i]?)
/-- .. a list put behind it -/
def extO (i : Nat) (wa : WA) (E : DEnds) (ρ : DS) (μ : Mu) (o : Option Sl) : Prop := match o with
  | some (.own p (.lst ds)) => wa ρ μ (fun xs μ1 => ∃ zs, xs = [.lst zs] ∧ ds.length + zs.length ≤ 1000000 ∧ E.nx (ρ.set i (.own p (.lst (ds ++ zs)))) μ1) fun c ks es μ' => E.xc c ks es ρ μ'
  | _ => False
def sExtO (i : Nat) (wa : WA) : WS := fun E ρ μ => extO i wa E ρ μ (ρ[i]?)
theorem appO_of {wa : WA} {E : DEnds} {ρ : DS} {μ : Mu} {o : Option Sl} {i : Nat} (h : appO i wa E ρ μ o) : ∃ p ds, o = some (.own p (.lst ds)) ∧ wa ρ μ (fun xs μ1 => ds.length < 1000000 ∧ ∃ d, xs = [d] ∧ E.nx (ρ.set i (.own p (.lst (ds ++ [d])))) μ1) fun c ks es μ' => E.xc c ks es ρ μ' := by
  unfold appO at h
  split at h
  · exact ⟨_, _, rfl, h⟩
  · exact h.elim
theorem extO_of {wa : WA} {E : DEnds} {ρ : DS} {μ : Mu} {o : Option Sl} {i : Nat} (h : extO i wa E ρ μ o) : ∃ p ds, o = some (.own p (.lst ds)) ∧ wa ρ μ (fun xs μ1 => ∃ zs, xs = [.lst zs] ∧ ds.length + zs.length ≤ 1000000 ∧ E.nx (ρ.set i (.own p (.lst (ds ++ zs)))) μ1) fun c ks es μ' => E.xc c ks es ρ μ' := by
  unfold extO at h
  split at h
  · exact ⟨_, _, rfl, h⟩
  · exact h.elim
theorem lt_line {n : Nat} (h : n < 1000000) : n < sizeLine := Nat.lt_of_lt_of_le h (by decide)
theorem le_line {n : Nat} (h : n ≤ 1000000) : n ≤ sizeLine := Nat.le_trans h (by decide)
theorem ds_appO (hN : X.N[i]? = some x) (ha : DA ex W X [e] ws) (hv : Vis X.env.scope x := by first | exact Or.inl rfl | exact Or.inr (Or.inl rfl) | exact Or.inr (Or.inr rfl)) (hd : (x == ("__debug__" : Str)) = false := by decide) (hcd : (x == ("__classdict__" : Str)) = false := by decide)
    (hbase : attributeBase (.Name x p0) "append" X.env (eval (.Name x p0) X.env) = eval (.Name x p0) X.env := by rfl)
    (hfew : ((backTo cpos (starEach [e] X.env)).all (fun x => !x.1) && (backToKw cpos (keywordEach [] X.env)).all (fun x => x.1.isSome)
      && decide (([e] : List Expr).length + ([] : List Keyword).length + (if ([] : List Keyword).isEmpty then 0 else 1) < 30)) = true := by rfl)
    (hline : (apos.endLine == cpos.line) = true := by rfl) (hs : starEach [e] X.env = (false, eval e X.env) :: starEach [] X.env := by rfl) (hplain : (backTo cpos (starEach [] X.env)).any (·.1) = false := by rfl)
    (hsw : swapsWith (.Call (.Attribute (.Name x p0) "append" apos) [e] [] cpos) none pos.line X.env = pure false := by rfl) :
    DSt ex W X (.Expr (.Call (.Attribute (.Name x p0) "append" apos) [e] [] cpos) pos) (sAppO i ws) :=
  ps_weak (ps_expr (pe_bm PySem.F.plainAttrs_list PySem.F.slot_list_append PySem.F.type_list_append mt_append (pe_var hN hv hd hcd) ha hbase hfew hline hs hplain) hsw) fun De σ H q => by
  obtain ⟨Z, m, ρ, μ, E, S, q, kn, kr, kb, kc, kx⟩ := q
  obtain ⟨p, ds, hi, q⟩ := appO_of q
  obtain ⟨hs, nz, vs0, hp0, rs0⟩ := S.own i p _ hi
  refine ⟨_, hs, .inl ⟨rfl, _, .inl (.inl hp0)⟩, Z, m, ρ, μ, _, _, S, q, fun xs H1 P => ?_, fun cls d H' P => kx cls d σ H' (XSPost.of S P)⟩
  obtain ⟨m1, es, μ1, s1, r1, hl, d, rfl, q1⟩ := P
  obtain ⟨v, t, rfl, r3, r2⟩ := r1.uncons
  rw [Reps] at r2
  subst r2
  have S1 := S.step s1
  obtain ⟨_, _, vs, hp, rs⟩ := S1.own i p _ hi
  refine ⟨p, vs, v, rfl, rfl, hp, by rw [← rs.len]; exact lt_line hl, ?_⟩
  obtain ⟨S2, s2⟩ := S1.putOwn (o := .lst (vs ++ [v])) (c' := .lst (ds ++ [d])) hi ⟨vs ++ [v], upd_same, Reps.append rs (Reps.cons r3 Reps.nil)⟩
  exact kn _ _ ⟨m1, _, μ1, S2, (SStep.of s1).trans s2, q1⟩
theorem ds_extO (hN : X.N[i]? = some x) (ha : DA ex W X [e] ws) (hv : Vis X.env.scope x := by first | exact Or.inl rfl | exact Or.inr (Or.inl rfl) | exact Or.inr (Or.inr rfl)) (hd : (x == ("__debug__" : Str)) = false := by decide) (hcd : (x == ("__classdict__" : Str)) = false := by decide)
    (hbase : attributeBase (.Name x p0) "extend" X.env (eval (.Name x p0) X.env) = eval (.Name x p0) X.env := by rfl)
    (hfew : ((backTo cpos (starEach [e] X.env)).all (fun x => !x.1) && (backToKw cpos (keywordEach [] X.env)).all (fun x => x.1.isSome)
      && decide (([e] : List Expr).length + ([] : List Keyword).length + (if ([] : List Keyword).isEmpty then 0 else 1) < 30)) = true := by rfl)
    (hline : (apos.endLine == cpos.line) = true := by rfl) (hs : starEach [e] X.env = (false, eval e X.env) :: starEach [] X.env := by rfl) (hplain : (backTo cpos (starEach [] X.env)).any (·.1) = false := by rfl)
    (hsw : swapsWith (.Call (.Attribute (.Name x p0) "extend" apos) [e] [] cpos) none pos.line X.env = pure false := by rfl) :
    DSt ex W X (.Expr (.Call (.Attribute (.Name x p0) "extend" apos) [e] [] cpos) pos) (sExtO i ws) :=
  ps_weak (ps_expr (pe_bm PySem.F.plainAttrs_list PySem.F.slot_list_extend PySem.F.type_list_extend mt_extend (pe_var hN hv hd hcd) ha hbase hfew hline hs hplain) hsw) fun De σ H q => by
  obtain ⟨Z, m, ρ, μ, E, S, q, kn, kr, kb, kc, kx⟩ := q
  obtain ⟨p, ds, hi, q⟩ := extO_of q
  obtain ⟨hs, nz, vs0, hp0, rs0⟩ := S.own i p _ hi
  refine ⟨_, hs, .inl ⟨rfl, _, .inl (.inl hp0)⟩, Z, m, ρ, μ, _, _, S, q, fun xs H1 P => ?_, fun cls d H' P => kx cls d σ H' (XSPost.of S P)⟩
  obtain ⟨m1, es, μ1, s1, r1, zs, rfl, hl, q1⟩ := P
  obtain ⟨v, t, rfl, r3, r2⟩ := r1.uncons
  rw [Reps] at r2
  subst r2
  rw [Rep] at r3
  obtain ⟨b, us, rfl, hb, rz⟩ := r3
  have S1 := S.step s1
  obtain ⟨_, _, vs, hp, rs⟩ := S1.own i p _ hi
  refine ⟨p, b, vs, us, rfl, rfl, hp, vis_le _ _ hb, by rw [← rs.len, ← rz.len]; exact le_line hl, ?_⟩
  obtain ⟨S2, s2⟩ := S1.putOwn (o := .lst (vs ++ us)) (c' := .lst (ds ++ zs)) hi ⟨vs ++ us, upd_same, Reps.append rs rz⟩
  exact kn _ _ ⟨m1, _, μ1, S2, (SStep.of s1).trans s2, q1⟩
/-! read: len(x), x[j], e in x -/
def wOwnLen (i : Nat) : WE := fun ρ μ Q _ => ownL (ρ[i]?) fun ds => Q (.int ds.length) μ
theorem de_ownLen {p : Pos} (hN : X.N[i]? = some x) (hg : Gl X "len") (hm : X.mg "len" = none) (hv : Vis X.env.scope x := by first | exact Or.inl rfl | exact Or.inr (Or.inl rfl) | exact Or.inr (Or.inr rfl)) (hd : (x == ("__debug__" : Str)) = false := by decide) (hcd : (x == ("__classdict__" : Str)) = false := by decide)
    (ha : PA X [.Name x p0] (tCons (tVar i) tNil)) (he : starEach [.Name x p0] X.env = (false, eval (.Name x p0) X.env) :: starEach [] X.env := by rfl) (hpl : (backTo pos (starEach [] X.env)).any (·.1) = false := by rfl) :
    DE ex W X (.Call (.Name "len" p) [.Name x p0] [] pos) (wOwnLen i) := pe_weak (pe_callB call_len_seq hg hm bt_len ha (by decide) (by decide) he hpl) fun σ H Q' q => by
  obtain ⟨Z, m, ρ, μ, Q, Xd, S, q, k, kx⟩ := q
  obtain ⟨a, ds, hi, q⟩ := ownL_of q
  obtain ⟨hs, nz, vs, hp, rs⟩ := S.own i a _ hi
  exact ⟨_, hs, a, vs, rfl, .inl (.inl (.inl hp)), k _ _ (.now S.mu (by rw [Rep, rs.len]) q)⟩
def wOwnIx (i : Nat) (wb : WE) : WE := fun ρ μ Q Xd => ownL (ρ[i]?) fun ds => wb ρ μ (fun y μ1 => intOr y fun j => match atI ds j with
    | some d => Q d μ1
    | none => False) Xd
theorem de_ownIx {b : Expr} {wb : WE} (hN : X.N[i]? = some x) (hb : DE ex W X b wb) (hs : PlainIx b := by exact fun _ _ => rfl) (hv : Vis X.env.scope x := by first | exact Or.inl rfl | exact Or.inr (Or.inl rfl) | exact Or.inr (Or.inr rfl)) (hd : (x == ("__debug__" : Str)) = false := by decide) (hcd : (x == ("__classdict__" : Str)) = false := by decide) :
    DE ex W X (.Subscript (.Name x p0) b pos) (wOwnIx i wb) := pe_weak (pe_ix ix_list (pe_var hN hv hd hcd) hb hs) fun σ H Q' q => by
  obtain ⟨Z, m, ρ, μ, Q, Xd, S, q, k, kx⟩ := q
  obtain ⟨a, ds, hi, q⟩ := ownL_of q
  obtain ⟨hs, nz, _⟩ := S.own i a _ hi
  refine ⟨_, hs, Z, m, ρ, μ, _, Xd, S, q, fun v H1 P => ?_, kx⟩
  obtain ⟨m1, y, μ1, s1, r1, q1⟩ := P
  obtain ⟨j, rfl, q2⟩ := intOr_of q1
  split at q2
  · rename_i d ed
    rw [Rep] at r1
    obtain ⟨_, _, vs, hp, rs⟩ := (S.step s1).own i a _ hi
    obtain ⟨w, ew, rw'⟩ := atI_rep rs ed
    exact ⟨a, vs, j, w, rfl, r1, .inl (.inl hp), ew, k _ _ (VPost.from s1 (.now s1.mu rw' q2))⟩
  · exact q2.elim
def ownIn (neg : Bool) (x : D) (ds : List D) (Q : Bool → Prop) : Prop := ∃ p qs, toP x = some p ∧ toPs ds = some qs ∧ SeqAt.shaped p = true ∧ SeqAt.shaped (.list qs) = true ∧ Q (neg ^^ qs.any fun z => PyData.eqv z p)
def wOwnIn (neg : Bool) (i : Nat) (wa : WE) : WE := fun ρ μ Q Xd => ownL (ρ[i]?) fun ds => wa ρ μ (fun x μ1 => ownIn neg x ds fun b => Q (.bl b) μ1) Xd
theorem lift_ownIn {G : Gx} {neg : Bool} {σ : L2.St} {H : Hp} {Q' : VK} (q : lift G W (wOwnIn neg i wa) σ H Q') : lift G W wa σ H fun u H1 => ∃ v, σ[i]? = some (some v) ∧ ∃ p qs, Dp G.K H1 u p ∧ Dp G.K H1 v (.list qs) ∧ SeqAt.shaped p = true ∧ SeqAt.shaped (.list qs) = true ∧ Q' (.bl (neg ^^ qs.any fun z => PyData.eqv z p)) H1 := by
  obtain ⟨Z, m, ρ, μ, Q, Xd, S, q, k, kx⟩ := q
  obtain ⟨a, ds, hi, q⟩ := ownL_of q
  obtain ⟨hs, nz, _⟩ := S.own i a _ hi
  refine ⟨Z, m, ρ, μ, _, Xd, S, q, fun v H1 P => ?_, kx⟩
  obtain ⟨m1, y, μ1, s1, r1, p, qs, e1, e2, h1, h2, q1⟩ := P
  obtain ⟨_, _, vs, hp, rs⟩ := (S.step s1).own i a _ hi
  exact ⟨_, hs, p, qs, dp_of vis_le _ _ _ r1 e1, .lst (.inl (.inl hp)) (dps_of vis_le _ _ _ rs e2), h1, h2, k _ _ (VPost.from s1 (.now s1.mu (by rw [Rep]) q1))⟩
theorem de_ownIn (hu : X.A.units + 65 < cLine) (hN : X.N[i]? = some x) (ha : DE ex W X e wa) (hm : behindInMarks .In (.Name x p0) = false) (hv : Vis X.env.scope x := by first | exact Or.inl rfl | exact Or.inr (Or.inl rfl) | exact Or.inr (Or.inr rfl)) (hd : (x == ("__debug__" : Str)) = false := by decide) (hcd : (x == ("__classdict__" : Str)) = false := by decide) :
    DE ex W X (.Compare e [.In] [.Name x p0] pos) (wOwnIn false i wa) := pe_weak (pe_cmpR (op_inD hu) ha (pe_var hN hv hd hcd) hm) fun σ H Q' q => by
  obtain ⟨Z, m, ρ, μ, Q, Xd, S, q, k, kx⟩ := lift_ownIn q
  refine ⟨Z, m, ρ, μ, Q, Xd, S, q, fun v H1 P => ?_, kx⟩
  obtain ⟨v', e, p, qs, h1, h2, h3, h4, q1⟩ := k v H1 P
  refine ⟨v', e, p, qs, h1, h2, h3, h4, ?_⟩
  rw [Bool.false_xor] at q1
  exact q1
theorem de_ownNotIn (hu : X.A.units + 65 < cLine) (hN : X.N[i]? = some x) (ha : DE ex W X e wa) (hm : behindInMarks .NotIn (.Name x p0) = false) (hv : Vis X.env.scope x := by first | exact Or.inl rfl | exact Or.inr (Or.inl rfl) | exact Or.inr (Or.inr rfl)) (hd : (x == ("__debug__" : Str)) = false := by decide) (hcd : (x == ("__classdict__" : Str)) = false := by decide) :
    DE ex W X (.Compare e [.NotIn] [.Name x p0] pos) (wOwnIn true i wa) := pe_weak (pe_cmpR (op_notInD hu) ha (pe_var hN hv hd hcd) hm) fun σ H Q' q => by
  obtain ⟨Z, m, ρ, μ, Q, Xd, S, q, k, kx⟩ := lift_ownIn q
  refine ⟨Z, m, ρ, μ, Q, Xd, S, q, fun v H1 P => ?_, kx⟩
  obtain ⟨v', e, p, qs, h1, h2, h3, h4, q1⟩ := k v H1 P
  refine ⟨v', e, p, qs, h1, h2, h3, h4, ?_⟩
  rw [Bool.true_xor] at q1
  exact q1
end
end DL

set_option Elab.async false
set_option linter.all false
set_option maxRecDepth 100000
set_option maxHeartbeats 4000000
set_option autoImplicit false
namespace DL
open PySem PySem.Spec PyProof.Rows L2
/-! ### a dict of the module whose keys are tuples of ints -/
def intsV : List Value → Option (List Int)
  | [] => some []
  | .int i _ :: r => (intsV r).map (i :: ·)
  | _ => none
def keyInts (K : PySem.W.Frag) (a : Addr) : Option (List Int) := match K.lookup a with
  | some ⟨.type "tuple", _, .seq its _, _⟩ => intsV its.toList
  | _ => none
def hashT (ks : List Int) : Int := reduceHash (Builtin.Tuple.tupleHashOf (ks.map hashInt))
def rdE (K : PySem.W.Frag) (e : DictEntry) : Option (List Int × Addr × Value) := match e.key with
  | .ref a => (keyInts K a).map fun ks => (ks, a, e.val)
  | _ => none
def rdAll (K : PySem.W.Frag) : List DictEntry → Option (List (List Int × Addr × Value))
  | [] => some []
  | e :: r => match rdE K e, rdAll K r with
    | some x, some xs => if e.hash = hashT x.1 then some (x :: xs) else none
    | _, _ => none
def intV : Value → Option Int
  | .int i _ => some i
  | _ => none
theorem intsV_is {prog : Program} {w : World} : ∀ {vs : List Value} {ks : List Int}, intsV vs = some ks → ItemsAre (intKind prog w) ks vs
  | [], ks, h => by cases h; exact .nil
  | v :: vs, ks, h => by
    cases v with
    | int i t =>
      obtain ⟨r, hr, rfl⟩ := Option.map_eq_some_iff.mp (show (intsV vs).map (i :: ·) = some ks from h)
      exact .cons (intKind_is prog w i t) (intsV_is hr)
    | _ => cases h
theorem keyInts_is {prog : Program} {w : World} {K : PySem.W.Frag} {h : Heap} {a : Addr} {ks : List Int} (X : K.In h) (e : keyInts K a = some ks) : IsTupleKey (intKind prog w) h ks a := by
  unfold keyInts at e
  split at e
  · rename_i dd its n sl e1
    exact ⟨_, its, n, X _ _ e1, rfl, rfl, intsV_is e⟩
  · cases e
theorem rdAll_is {K : PySem.W.Frag} : ∀ {es : List DictEntry} {xs : List (List Int × Addr × Value)}, rdAll K es = some xs → es = xs.map (fun x => ⟨hashT x.1, .ref x.2.1, x.2.2⟩) ∧ ∀ x ∈ xs, keyInts K x.2.1 = some x.1
  | [], xs, h => by cases h; exact ⟨rfl, fun x hx => by cases hx⟩
  | e :: es, xs, h => by
    rw [rdAll] at h
    split at h
    · rename_i x xs' h1 h2
      split at h
      · rename_i hh
        cases h
        obtain ⟨q1, q2⟩ := rdAll_is h2
        unfold rdE at h1
        split at h1
        · rename_i a ha
          obtain ⟨ks, hk, rfl⟩ := Option.map_eq_some_iff.mp h1
          obtain ⟨eh, ek, ev⟩ := e
          simp only at ha hh
          subst ha hh
          refine ⟨by rw [List.map_cons, ← q1], fun y hy => ?_⟩
          rcases List.mem_cons.mp hy with rfl | hy
          · exact hk
          · exact q2 y hy
        · cases h1
      · cases h
    · cases h
def kdB (K : PySem.W.Frag) (d : Addr) (L : List (List Int × Int)) : Bool := !(d == sysModules) && (match K.lookup d with
  | some ⟨.type "dict", none, .dict es _, sl⟩ => decide (sl.size = 0) && (match rdAll K es.toList with
    | some xs => decide ((xs.map (·.1)).Nodup) && decide (xs.map (fun x => (x.1, intV x.2.2)) = L.map fun p => (p.1, some p.2))
    | none => false)
  | _ => false)
def kdGet (L : List (List Int × Int)) (ks : List Int) : Option Int := (L.find? fun x => decide (x.1 = ks)).map (·.2)
theorem find_two {xs : List (List Int × Addr × Value)} {L : List (List Int × Int)} {ks : List Int} {v : Int} (e : xs.map (fun x => (x.1, intV x.2.2)) = L.map fun p => (p.1, some p.2)) (h : kdGet L ks = some v) :
    ∃ a t, atKey xs ks = some (a, .int v t) := by
  induction xs generalizing L with
  | nil =>
    cases L with
    | nil => cases h
    | cons p L => cases e
  | cons x xs ih =>
    cases L with
    | nil => cases e
    | cons p L =>
      rw [List.map_cons, List.map_cons] at e
      injection e with e1 e2
      have e3 : x.1 = p.1 := congrArg Prod.fst e1
      have e4 : intV x.2.2 = some p.2 := congrArg Prod.snd e1
      unfold kdGet at h
      unfold atKey
      rw [List.find?_cons] at h ⊢
      rw [e3]
      by_cases c : p.1 = ks
      · rw [decide_eq_true c] at h ⊢
        cases h
        obtain ⟨k, a, u⟩ := x
        cases u <;> first | (cases e4; done) | skip
        cases e4
        exact ⟨a, _, rfl⟩
      · rw [decide_eq_false c] at h ⊢
        exact ih e2 h
def rKd (K : PySem.W.Frag) (L : List (List Int × Int)) : R2 := fun x y H Q => ∃ d a ks v, x = .ref d ∧ y = .ref a ∧ kdB K d L = true ∧ SqT K H a (ks.map V.int) ∧ kdGet L ks = some v ∧ Q (.int v) H
theorem vals_ints {prog : Program} {w : World} : ∀ {ks : List Int} {us : List Value}, Vals (ks.map V.int) us → ItemsAre (intKind prog w) ks us
  | [], us, h => by cases h; exact .nil
  | k :: ks, us, h => by
    cases h with
    | cons r1 r2 =>
      obtain ⟨t, rfl⟩ := r1
      exact .cons (intKind_is prog w k t) (vals_ints r2)
theorem ix_kd {X : Cx} {L : List (List Int × Int)} (hu : X.A.units + 1 < cLine) : IxR X (rKd X.K L) := by
  intro value slice pins s σ H x y v u Q I rx ry h hs
  obtain ⟨d, a, ks, r, rfl, rfl, B, sq, g, q⟩ := h
  obtain rfl : v = Value.ref d := rx
  obtain rfl : u = Value.ref a := ry
  unfold kdB at B
  rw [Bool.and_eq_true_iff] at B
  obtain ⟨B0, B⟩ := B
  split at B
  · rename_i es ep sl hl
    rw [Bool.and_eq_true_iff] at B
    obtain ⟨B1, B⟩ := B
    split at B
    · rename_i xs hx
      rw [Bool.and_eq_true_iff] at B
      obtain ⟨B2, B3⟩ := B
      obtain ⟨q1, q2⟩ := rdAll_is hx
      obtain ⟨a', t, hp⟩ := find_two (of_decide_eq_true B3) g
      have hsl : sl = #[] := Array.eq_empty_of_size_eq_zero (of_decide_eq_true B1)
      subst hsl
      have hd : s.heap.DictOfH (tupleKind (intKind X.prog X.w)) d xs := ⟨_, es, ep, I.kIn _ _ hl, ⟨rfl, rfl, rfl⟩, rfl, q1, fun x hx' => keyInts_is I.kIn (q2 x hx'), of_decide_eq_true B2⟩
      obtain ⟨its, o, n, rv, h1, h2, h3⟩ := sqT_at I.hok I.kIn sq
      have hkey : IsTupleKey (intKind X.prog X.w) s.heap ks a := ⟨o, _, n, h1, h2, h3, vals_ints rv⟩
      exact tail_any hd.typeIs slot_dict_getitem.lookup (wpAny_getItem_heap (knd := tupleKind (intKind X.prog X.w)) hu hkey hd hp ⟨.int r, H, I.tok _, ⟨_, rfl⟩, q⟩) hs
    · cases B
  · cases B
def fKd (L : List (List Int × Int)) : F1 := fun y μ Q => tupOr y fun ds => ∃ ks, intsD ds = some ks ∧ ∃ v, kdGet L ks = some v ∧ Q (.int v) μ
section
variable {ex : Option (Addr × Addr × Addr)} {W : WX} {X : Cx} {b : Expr} {wb : WE} {pos p0 : Pos} {x : Str} {L : List (List Int × Int)} {d : Addr}
theorem de_kd (hu : X.A.units + 1 < cLine) (hg : Gl X x) (hm : X.mg x = some (.ref d)) (B : kdB X.K d L = true) (hb : DE ex W X b wb) (hs : PlainIx b := by exact fun _ _ => rfl) (hd : (x == ("__debug__" : Str)) = false := by decide) :
    DE ex W X (.Subscript (.Name x p0) b pos) (w1 (fKd L) wb) := pe_weak (pe_ix (ix_kd (L := L) hu) (pe_glob hg hm (v := .ref d) rfl hd) hb hs) fun σ H Q' q => by
  obtain ⟨Z, m, ρ, μ, Q, Xd, S, q, k, kx⟩ := q
  refine ⟨Z, m, ρ, μ, _, Xd, S, q, fun v H1 P => ?_, kx⟩
  obtain ⟨m1, y, μ1, s1, r1, q1⟩ := P
  obtain ⟨ds, rfl, ks, hk, r, hr, q2⟩ := tupOr_of q1
  rw [Rep] at r1
  obtain ⟨a, vs, rfl, sq, rs⟩ := r1
  have e := ints_rep rs hk
  subst e
  exact ⟨d, a, ks, r, rfl, rfl, B, SqT.same vis_le sq, hr, k _ _ (VPost.from s1 (.now s1.mu (by rw [Rep]) q2))⟩
end
/-! ### plain data of the module -/
mutual
def datB (K : PySem.W.Frag) : D → Value → Bool
  | .int i, .int j _ => decide (i = j)
  | .tup ds, .ref a => match K.lookup a with
    | some ⟨.type "tuple", _, .seq its _, _⟩ => decide (its.size ≤ 1000) && datsB K ds its.toList
    | _ => false
  | _, _ => false
def datsB (K : PySem.W.Frag) : List D → List Value → Bool
  | [], [] => true
  | d :: ds, v :: vs => datB K d v && datsB K ds vs
  | _, _ => false
end
mutual
theorem dat_ok {G : Gx} : ∀ (d : D) (u : Value), datB G.K d u = true → ∃ v, RelV v u ∧ ∀ m E, Rep G m E d v := by
  intro d u h
  cases d with
  | int i =>
    cases u with
    | int j t =>
      have e : i = j := of_decide_eq_true h
      subst e
      exact ⟨.int i, ⟨t, rfl⟩, fun m E => by rw [Rep]⟩
    | _ => cases h
  | tup ds =>
    cases u with
    | ref a =>
      rw [datB] at h
      split at h
      · rename_i dd its n sl hl
        rw [Bool.and_eq_true_iff] at h
        obtain ⟨h1, h2⟩ := h
        obtain ⟨vs, r1, r2⟩ := dats_ok ds its.toList h2
        refine ⟨.ref a, rfl, fun m E => ?_⟩
        rw [Rep]
        exact ⟨a, vs, rfl, .inr ⟨_, its, n, hl, rfl, rfl, le1000 (of_decide_eq_true h1), r1⟩, r2 m E⟩
      · cases h
    | _ => cases h
  | _ => cases u <;> cases h
theorem dats_ok {G : Gx} : ∀ (ds : List D) (us : List Value), datsB G.K ds us = true → ∃ vs, Vals vs us ∧ ∀ m E, Reps G m E ds vs := by
  intro ds us h
  cases ds with
  | nil =>
    cases us with
    | nil => exact ⟨[], .nil, fun m E => Reps.nil⟩
    | cons u us => cases h
  | cons d ds =>
    cases us with
    | nil => cases h
    | cons u us =>
      rw [datsB, Bool.and_eq_true_iff] at h
      obtain ⟨v, r1, r2⟩ := dat_ok d u h.1
      obtain ⟨vs, r3, r4⟩ := dats_ok ds us h.2
      exact ⟨v :: vs, .cons r1 r3, fun m E => Reps.cons (r2 m E) (r4 m E)⟩
end
theorem de_gdat {ex : Option (Addr × Addr × Addr)} {W : WX} {X : Cx} {x : Str} {u : Value} {d : D} {pos : Pos} (hg : Gl X x) (hm : X.mg x = some u ∧ datB X.K d u = true) (hd : (x == ("__debug__" : Str)) = false := by decide) : DE ex W X (.Name x pos) (wC d) := by
  obtain ⟨v, r1, r2⟩ := dat_ok (G := gx X ex) d u hm.2
  exact de_c (pe_glob hg hm.1 r1 hd) fun m E => r2 m E
end DL

set_option Elab.async false
set_option linter.all false
set_option maxRecDepth 100000
set_option maxHeartbeats 4000000
set_option autoImplicit false
namespace DL
open PySem PySem.Spec PyProof.Rows L2 RZ
/-! ### zip(a tuple, a list) -/
section
variable {prog : Program} {w : World} {A : Around} {E : Value → Shared → Prop} {s : Shared} {zz pT pO u v m n : Addr} {c1 c2 : Nat} {ps qs : Array Value} {p q a0 b0 : Value}
/-- one turn: both give an item -/
theorem mix_item {QQ : Value → Shared → Prop} (ap : ZipApart zz pT pO u v m n) (kz : IsZip s.heap zz pT pO .none) (kT : IsPair s.heap pT (.ref u) (.ref v)) (kO : IsPair s.heap pO a0 b0) (ku : s.heap.IsTupleIter u m c1) (kv : s.heap.IsListIter v n c2)
    (km : s.heap.IsTuple m ps) (kn : s.heap.IsList n qs) (hp : ps[c1]? = some p) (hq : qs[c2]? = some q)
    (out : ∀ h', IsZip h' zz pT pO (rawInt s.heap.objs.size) → IsPair h' pO p q → h'.IsTupleIter u m (c1 + 1) → h'.IsListIter v n (c2 + 1) → IsPair h' s.heap.objs.size p q → h'.objs.size = s.heap.objs.size + 1 →
      (∀ c o, c ≠ zz → c ≠ pO → c ≠ u → c ≠ v → s.heap.get? c = some o → h'.get? c = some o) → QQ (.ref s.heap.objs.size) { s with heap := h' }) :
    wpAny (model prog w) A (Builtin.«zip.__next__» ⟨[.ref zz], []⟩) (fun fin s' => ∃ r, fin = .done (.ret r) ∧ QQ r s') E s := by
  show wpAny _ _ (field (.ref zz) 2 >>= _) _ _ _
  refine wpAny_bind (wpAny_field kz rfl (x := .bool false) rfl ?_)
  show wpAny _ _ (field (.ref zz) 3 >>= _) _ _ _
  refine wpAny_bind (wpAny_field kz rfl (x := .ref pT) rfl (wpAny_bind (wpAny_seqItems kT rfl ?_)))
  show wpAny _ _ (Builtin.SmallTypes.ownedTupleIsFree (.ref zz) >>= _) _ _ _
  refine wpAny_bind ?_
  unfold Builtin.SmallTypes.ownedTupleIsFree
  refine wpAny_bind (wpAny_field kz rfl (x := .none) rfl (wpAny_pure ?_))
  simp only [if_true]
  refine wpAny_bind (wpAny_rule (wpAny_bind (wpAny_field kz rfl (x := .ref pO) rfl (wpAny_bind (wpAny_setField_rec kz (by simp) fun g1 z1 e1 => ?_)))))
  replace z1 : IsZip g1 zz pT pO .ellipsis := z1
  refine wpAny_bind ?_
  simp only [List.zipIdx_cons, List.zipIdx_nil, List.forIn_cons, List.forIn_nil]
  refine wpAny_bind (wpAny_bind (wpAny_onRaise ?_))
  show wpAny _ _ (Builtin.SmallTypes.nextOf (.ref u) >>= _) _ _ _
  refine wpAny_bind (nextOf_tuple_item (ku.extBut e1.extBut ap.i1z) (km.extBut e1.extBut ap.l1z) hp fun g2 u2 e2 => wpAny_pure ?_)
  have O2 : IsPair g2 pO a0 b0 := e2.extBut _ _ ap.TOi1 (e1.extBut _ _ ap.TOz kO)
  refine wpAny_bind (wpAny_seqItems O2 rfl (wpAny_bind (wpAny_updateSeq_pair O2 fun g3 O3 e3 => ?_)))
  replace O3 : IsPair g3 pO p b0 := O3
  refine wpAny_bind (wpAny_letGo (wpAny_pure (wpAny_bind (wpAny_bind (wpAny_onRaise ?_)))))
  show wpAny _ _ (Builtin.SmallTypes.nextOf (.ref v) >>= _) _ _ _
  refine wpAny_bind (wpAny_nextOf_list_item (((kv.extBut e1.extBut ap.i2z).extBut e2.extBut ap.i12.symm).extBut e3.extBut ap.TOi2.symm) (((kn.extBut e1.extBut ap.l2z).extBut e2.extBut ap.l2i1).extBut e3.extBut ap.l2TO) hq fun g4 v4 e4 => wpAny_pure ?_)
  have O4 : IsPair g4 pO p b0 := e4.extBut _ _ ap.TOi2 O3
  refine wpAny_bind (wpAny_seqItems O4 rfl (wpAny_bind (wpAny_updateSeq_pair O4 fun g5 O5 e5 => ?_)))
  replace O5 : IsPair g5 pO p q := O5
  refine wpAny_bind (wpAny_letGo (wpAny_pure (wpAny_pure (wpAny_bind (wpAny_seqItems O5 rfl (wpAny_bind (wpAny_newTuple ?_)))))))
  have size5 : g5.objs.size = s.heap.objs.size := by rw [e5.1, e4.1, e3.1, e2.1, e1.1]
  have z5 : IsZip g5 zz pT pO .ellipsis := e5.extBut _ _ ap.TOz.symm (e4.extBut _ _ ap.i2z.symm (e3.extBut _ _ ap.TOz.symm (e2.extBut _ _ ap.i1z.symm z1)))
  have old5 : ∀ c o, c ≠ zz → c ≠ pO → c ≠ u → c ≠ v → s.heap.get? c = some o → g5.get? c = some o := fun c o k1 k2 k3 k4 k =>
    e5.extBut _ _ k2 (e4.extBut _ _ k4 (e3.extBut _ _ k2 (e2.extBut _ _ k3 (e1.extBut _ _ k1 k))))
  have u5 : g5.IsTupleIter u m (c1 + 1) := ((u2.extBut e3.extBut ap.TOi1.symm).extBut e4.extBut ap.i12).extBut e5.extBut ap.TOi1.symm
  have v5 : g5.IsListIter v n (c2 + 1) := v4.extBut e5.extBut ap.TOi2.symm
  have zlt : zz < g5.objs.size := Heap.lt_size z5
  show wpAny _ _ (Builtin.SmallTypes.ownedTupleHandOut (.ref zz) (.ref g5.objs.size) >>= _) _ _ _
  refine wpAny_bind ?_
  unfold Builtin.SmallTypes.ownedTupleHandOut
  have z6 : IsZip (g5.push { cls := .type "tuple", data := .seq #[p, q] }) zz pT pO .ellipsis := Heap.get?_push_of_some _ z5
  refine wpAny_bind (wpAny_setField_rec z6 (by simp) fun g7 z7 e7 => ?_)
  replace z7 : IsZip g7 zz pT pO (rawInt g5.objs.size) := z7
  refine wpAny_setField_rec z7 (by simp) fun g8 z8 e8 => ?_
  replace z8 : IsZip g8 zz pT pO (rawInt g5.objs.size) := z8
  have lift : ∀ c o, c ≠ zz → g5.get? c = some o → g8.get? c = some o := fun c o k1 k => e8.extBut _ _ k1 (e7.extBut _ _ k1 (Heap.get?_push_of_some _ k))
  have T8 : IsPair g8 g5.objs.size p q := e8.extBut _ _ (Nat.ne_of_gt zlt) (e7.extBut _ _ (Nat.ne_of_gt zlt) (Heap.get?_push_size _ rfl))
  have size8 : g8.objs.size = g5.objs.size + 1 := by rw [e8.1, e7.1, Heap.size_push]
  rw [size5] at z8 T8 size8
  refine wpAny_pure ⟨_, rfl, ?_⟩
  show QQ (.ref g5.objs.size) _
  rw [size5]
  exact out g8 z8 (lift _ _ ap.TOz O5) (u5.at fun o k => lift _ o ap.i1z k) (v5.at fun o k => lift _ o ap.i2z k) T8 size8 fun c o k1 k2 k3 k4 k => lift c o k1 (old5 c o k1 k2 k3 k4 k)
/-- one of them is at its end -/
theorem mix_end {QQ : Fin → Shared → Prop} (hh : A.handled = none) (ap : ZipApart zz pT pO u v m n) (kz : IsZip s.heap zz pT pO .none) (kT : IsPair s.heap pT (.ref u) (.ref v)) (kO : IsPair s.heap pO a0 b0) (ku : s.heap.IsTupleIter u m c1) (kv : s.heap.IsListIter v n c2)
    (km : s.heap.IsTuple m ps) (kn : s.heap.IsList n qs) (over : ps[c1]? = none ∨ qs[c2]? = none)
    (out : ∀ h' e, (∀ c o, c ≠ zz → c ≠ pO → c ≠ u → c ≠ v → s.heap.get? c = some o → h'.get? c = some o) → (∃ o, h'.get? e = some o ∧ o.cls = .type "StopIteration") → E (.ref e) { s with heap := h' }) :
    wpAny (model prog w) A (Builtin.«zip.__next__» ⟨[.ref zz], []⟩) QQ E s := by
  show wpAny _ _ (field (.ref zz) 2 >>= _) _ _ _
  refine wpAny_bind (wpAny_field kz rfl (x := .bool false) rfl ?_)
  show wpAny _ _ (field (.ref zz) 3 >>= _) _ _ _
  refine wpAny_bind (wpAny_field kz rfl (x := .ref pT) rfl (wpAny_bind (wpAny_seqItems kT rfl ?_)))
  show wpAny _ _ (Builtin.SmallTypes.ownedTupleIsFree (.ref zz) >>= _) _ _ _
  refine wpAny_bind ?_
  unfold Builtin.SmallTypes.ownedTupleIsFree
  refine wpAny_bind (wpAny_field kz rfl (x := .none) rfl (wpAny_pure ?_))
  simp only [if_true]
  refine wpAny_bind (wpAny_rule (wpAny_bind (wpAny_field kz rfl (x := .ref pO) rfl (wpAny_bind (wpAny_setField_rec kz (by simp) fun g1 z1 e1 => ?_)))))
  replace z1 : IsZip g1 zz pT pO .ellipsis := z1
  refine wpAny_bind ?_
  simp only [List.zipIdx_cons, List.zipIdx_nil, List.forIn_cons, List.forIn_nil]
  refine wpAny_bind (wpAny_bind (wpAny_onRaise ?_))
  show wpAny _ _ (Builtin.SmallTypes.nextOf (.ref u) >>= _) _ _ _
  cases hp : ps[c1]? with
  | none =>
    refine wpAny_bind (nextOf_tuple_end hh (ku.extBut e1.extBut ap.i1z) (km.extBut e1.extBut ap.l1z) hp fun g2 e e2 he => ?_)
    obtain ⟨oe, ho, hc⟩ := he
    have z2 : IsZip g2 zz pT pO .ellipsis := e2 _ _ ap.i1z.symm z1
    have ne : e ≠ zz := fun k => by subst k; rw [z2] at ho; cases ho; simp at hc
    exact wpAny_setField_rec z2 (by simp) fun g3 _ e3 => out g3 e (fun c o k1 _ k3 _ k => e3.extBut _ _ k1 (e2 _ _ k3 (e1.extBut _ _ k1 k))) ⟨oe, e3.extBut _ _ ne ho, hc⟩
  | some p =>
    have hq : qs[c2]? = none := by rcases over with k | k; rw [hp] at k; cases k; exact k
    refine wpAny_bind (nextOf_tuple_item (ku.extBut e1.extBut ap.i1z) (km.extBut e1.extBut ap.l1z) hp fun g2 u2 e2 => wpAny_pure ?_)
    have O2 : IsPair g2 pO a0 b0 := e2.extBut _ _ ap.TOi1 (e1.extBut _ _ ap.TOz kO)
    refine wpAny_bind (wpAny_seqItems O2 rfl (wpAny_bind (wpAny_updateSeq_pair O2 fun g3 O3 e3 => ?_)))
    refine wpAny_bind (wpAny_letGo (wpAny_pure (wpAny_bind (wpAny_bind (wpAny_onRaise ?_)))))
    show wpAny _ _ (Builtin.SmallTypes.nextOf (.ref v) >>= _) _ _ _
    refine wpAny_bind (wpAny_nextOf_list_end hh (((kv.extBut e1.extBut ap.i2z).extBut e2.extBut ap.i12.symm).extBut e3.extBut ap.TOi2.symm) (((kn.extBut e1.extBut ap.l2z).extBut e2.extBut ap.l2i1).extBut e3.extBut ap.l2TO) hq fun g4 e e4 he => ?_)
    obtain ⟨oe, ho, hc⟩ := he
    have z4 : IsZip g4 zz pT pO .ellipsis := e4 _ _ ap.i2z.symm (e3.extBut _ _ ap.TOz.symm (e2.extBut _ _ ap.i1z.symm z1))
    have ne : e ≠ zz := fun k => by subst k; rw [z4] at ho; cases ho; simp at hc
    exact wpAny_setField_rec z4 (by simp) fun g5 _ e5 => out g5 e (fun c o k1 k2 k3 k4 k => e5.extBut _ _ k1 (e4 _ _ k4 (e3.extBut _ _ k2 (e2.extBut _ _ k3 (e1.extBut _ _ k1 k))))) ⟨oe, e5.extBut _ _ ne ho, hc⟩
theorem mix_next {QQ : Option Value → Shared → Prop} (ap : ZipApart zz pT pO u v m n) (kz : IsZip s.heap zz pT pO .none) (kT : IsPair s.heap pT (.ref u) (.ref v)) (kO : IsPair s.heap pO a0 b0) (ku : s.heap.IsTupleIter u m c1) (kv : s.heap.IsListIter v n c2)
    (km : s.heap.IsTuple m ps) (kn : s.heap.IsList n qs) (hp : ps[c1]? = some p) (hq : qs[c2]? = some q)
    (out : ∀ h', IsZip h' zz pT pO (rawInt s.heap.objs.size) → IsPair h' pO p q → h'.IsTupleIter u m (c1 + 1) → h'.IsListIter v n (c2 + 1) → IsPair h' s.heap.objs.size p q → h'.objs.size = s.heap.objs.size + 1 →
      (∀ c o, c ≠ zz → c ≠ pO → c ≠ u → c ≠ v → s.heap.get? c = some o → h'.get? c = some o) → QQ (some (.ref s.heap.objs.size)) { s with heap := h' }) :
    wpAny (model prog w) A (pyNext (.ref zz)) QQ E s := by
  have ty : s.TypeIs (.ref zz) "zip" := ⟨_, kz, rfl⟩
  unfold pyNext
  exact wpAny_bind (wpAny_attempt (wpAny_callSpecial?_slot (name := Str.ofString "__next__") ty F.slot_zip_next
    (wpAny_call_entry F.slot_zip_next ty F.entry_zip_next (mix_item ap kz kT kO ku kv km kn hp hq fun h' a1 a2 a3 a4 a5 a6 a7 => wpAny_pure (out h' a1 a2 a3 a4 a5 a6 a7)) (F.args_zip_next_1 _))))
theorem mix_stop {QQ : Option Value → Shared → Prop} (hh : A.handled = none) (ap : ZipApart zz pT pO u v m n) (kz : IsZip s.heap zz pT pO .none) (kT : IsPair s.heap pT (.ref u) (.ref v)) (kO : IsPair s.heap pO a0 b0) (ku : s.heap.IsTupleIter u m c1) (kv : s.heap.IsListIter v n c2)
    (km : s.heap.IsTuple m ps) (kn : s.heap.IsList n qs) (over : ps[c1]? = none ∨ qs[c2]? = none)
    (out : ∀ h', (∀ c o, c ≠ zz → c ≠ pO → c ≠ u → c ≠ v → s.heap.get? c = some o → h'.get? c = some o) → QQ none { s with heap := h' }) : wpAny (model prog w) A (pyNext (.ref zz)) QQ E s := by
  have ty : s.TypeIs (.ref zz) "zip" := ⟨_, kz, rfl⟩
  unfold pyNext
  refine wpAny_bind (wpAny_attempt (wpAny_callSpecial?_slot (name := Str.ofString "__next__") ty F.slot_zip_next
    (wpAny_call_entry F.slot_zip_next ty F.entry_zip_next (mix_end hh ap kz kT kO ku kv km kn over fun h' e hk he => ?_) (F.args_zip_next_1 _))))
  obtain ⟨o, ho, hc⟩ := he
  exact wpAny_bind (wpAny_isInstance (T := "StopIteration") (b := true) ⟨o, ho, hc⟩ isSubtype_stop (wpAny_pure (out _ hk)))
end
/-! made -/
abbrev mx1 (h : Heap) (m : Addr) : Heap := h.push { cls := .type "tuple_iterator", data := .fields #[.ref m, .int 0 0] }
abbrev mx2 (h : Heap) (m n : Addr) : Heap := (mx1 h m).push { cls := .type "list_iterator", data := .fields #[.ref n, .int 0 0] }
abbrev mx3 (h : Heap) (m n : Addr) : Heap := (mx2 h m n).push { cls := .type "tuple", data := .seq #[.ref h.objs.size, .ref (mx1 h m).objs.size] }
abbrev mx4 (h : Heap) (m n : Addr) : Heap := (mx3 h m n).push { cls := .type "tuple", data := .seq #[.none, .none] }
abbrev mx5 (h : Heap) (m n : Addr) : Heap := (mx4 h m n).push { cls := .type "zip", data := .fields #[.none, .bool false, .bool false, .ref (mx2 h m n).objs.size, .ref (mx3 h m n).objs.size] }
theorem mix_new (m n : Addr) (ps qs : Array Value) :
    Meets (Builtin.«zip.__new__» ⟨[.type "zip", .ref m, .ref n], []⟩) (fun _ R s => s.heap.IsTuple m ps ∧ s.heap.IsList n qs ∧ R (.ok (.ret (.ref (mx4 s.heap m n).objs.size))) { s with heap := mx5 s.heap m n }) :=
  .of_wp fun prog w A R s h => by
    obtain ⟨hp, g, d, tk, os⟩ := s
    obtain ⟨hm, hn, h⟩ := h
    have hsub := sub_zip
    have M1 : Heap.IsTuple (Shared.heap ⟨hp, g, d, tk, os⟩) m ps := hm
    have N1 : Heap.IsList (Shared.heap ⟨mx1 hp m, g, d, tk, os⟩) n qs := Heap.IsList.push hn _
    wp_walk using wpAny_pyIter_tuple M1, wpAny_pyIter_list N1
    exact ⟨_, rfl, h⟩
section
variable {prog : Program} {w : World} {A : Around} {E : Value → Shared → Prop} {s : Shared}
theorem mix_call {m n : Addr} {ps qs : Array Value} {QQ : Value → Shared → Prop} (hm : s.heap.IsTuple m ps) (hn : s.heap.IsList n qs)
    (out : ∀ h', IsZip h' (s.heap.objs.size + 4) (s.heap.objs.size + 2) (s.heap.objs.size + 3) .none → IsPair h' (s.heap.objs.size + 2) (.ref s.heap.objs.size) (.ref (s.heap.objs.size + 1)) →
      IsPair h' (s.heap.objs.size + 3) .none .none → h'.IsTupleIter s.heap.objs.size m 0 → h'.IsListIter (s.heap.objs.size + 1) n 0 → (∀ c o, s.heap.get? c = some o → h'.get? c = some o) → QQ (.ref (s.heap.objs.size + 4)) { s with heap := h' }) :
    wpAny (model prog w) A (call (.type "zip") [.ref m, .ref n]) QQ E s := by
  refine callType_new F.called_zip (by decide) (F.typeCall_zip_2 _ _) (F.newCall_zip_2 _ _) (fun obj => F.args_object_init_3 obj _ _) F.entry_zip_new (mix_new m n ps qs) ⟨hm, hn, ?_⟩
  have k1 : (mx1 s.heap m).objs.size = s.heap.objs.size + 1 := Heap.size_push ..
  have k2 : (mx2 s.heap m n).objs.size = s.heap.objs.size + 2 := by rw [Heap.size_push, k1]
  have k3 : (mx3 s.heap m n).objs.size = s.heap.objs.size + 3 := by rw [Heap.size_push, k2]
  have k4 : (mx4 s.heap m n).objs.size = s.heap.objs.size + 4 := by rw [Heap.size_push, k3]
  have up : ∀ {h : Heap} {o : Obj} {c : Addr} {x : Obj}, h.get? c = some x → (h.push o).get? c = some x := fun k => Heap.get?_push_of_some _ k
  have j5 : (mx5 s.heap m n).get? (mx4 s.heap m n).objs.size = some _ := Heap.get?_push_size _ rfl
  have j4 : (mx5 s.heap m n).get? (mx3 s.heap m n).objs.size = some _ := up (Heap.get?_push_size _ rfl)
  have j3 : (mx5 s.heap m n).get? (mx2 s.heap m n).objs.size = some _ := up (up (Heap.get?_push_size _ rfl))
  have j2 : (mx5 s.heap m n).get? (mx1 s.heap m).objs.size = some _ := up (up (up (Heap.get?_push_size _ rfl)))
  have j1 : (mx5 s.heap m n).get? s.heap.objs.size = some _ := up (up (up (up (Heap.get?_push_size _ rfl))))
  show _ ∧ _
  rw [k2, k3, k4] at j5
  rw [k1, k2] at j3
  rw [k3] at j4
  rw [k1] at j2
  rw [k4]
  exact ⟨⟨_, j5, rfl⟩, out _ j5 j3 j4 ⟨_, j1, rfl, rfl⟩ ⟨_, j2, rfl, rfl⟩ fun c o x => up (up (up (up (up x))))⟩
end
/-- the tuple at a and the list at b as they stand at each turn -/
def ItzM (K : PySem.W.Frag) (a b : Addr) : It :=
  ⟨fun i H => ∃ (xs ys : List V) (x y : V), SqT K H a xs ∧ SqL K H b ys ∧ xs[i]? = some x ∧ ys[i]? = some y,
    fun i H v H' => ∃ T x y, v = .ref T ∧ H T = none ∧ H' = upd H T (.tup [x, y]) ∧ (∀ xs, SqT K H a xs → xs[i]? = some x) ∧ ∀ ys, SqL K H b ys → ys[i]? = some y,
    fun i H => ∃ xs ys : List V, SqT K H a xs ∧ SqL K H b ys ∧ (xs.length ≤ i ∨ ys.length ≤ i)⟩
theorem turn_mix {P : Program} {w : World} {K : PySem.W.Frag} {elts : List Expr} {kk : Nat} {tpos : Pos} {a b zz pT pO u v : Addr} (ap : ZipApart zz pT pO u v a b) :
    Turn P w K (.Tuple elts kk tpos) (ItzM K a b) [zz, pT, pO, u, v] zz (fun i h => IsZip h zz pT pO .none ∧ IsPair h pT (.ref u) (.ref v) ∧ (∃ x y, IsPair h pO x y) ∧ h.IsTupleIter u a i ∧ h.IsListIter v b i) where
  mem := by simp
  obj := fun i h st c hc => by
    obtain ⟨kz, kT, ⟨x, y, kO⟩, ⟨o1, e1, _, d1⟩, ⟨o2, e2, _, d2⟩⟩ := st
    have at_ : c = zz ∨ c = pT ∨ c = pO ∨ c = u ∨ c = v := by simpa using hc
    rcases at_ with rfl | rfl | rfl | rfl | rfl
    · exact ⟨_, kz, fun v q => nomatch q⟩
    · exact ⟨_, kT, fun v q => nomatch q⟩
    · exact ⟨_, kO, fun v q => nomatch q⟩
    · exact ⟨o1, e1, fun v q => by rw [d1] at q; cases q⟩
    · exact ⟨o2, e2, fun v q => by rw [d2] at q; cases q⟩
  keep := fun i h h' st k => by
    obtain ⟨kz, kT, ⟨x, y, kO⟩, h1, h2⟩ := st
    exact ⟨k zz (by simp) _ kz, k pT (by simp) _ kT, ⟨x, y, k pO (by simp) _ kO⟩, h1.at fun o q => k u (by simp) o q, h2.at fun o q => k v (by simp) o q⟩
  item := by
    intro X hP hw hK hc i pins s σ H E I hf st hg
    subst hP hw hK
    obtain ⟨kz, kT, ⟨x0, y0, kO⟩, h1, h2⟩ := st
    obtain ⟨xs, ys, x, y, sx, sy, hx, hy⟩ := hg
    obtain ⟨its, rv, p, _⟩ := I.tuple sx
    obtain ⟨its2, rv2, p2, _⟩ := I.list sy
    obtain ⟨w1, hu, ru⟩ := rv.get hx
    obtain ⟨w2, hu2, ru2⟩ := rv2.get hy
    have zl : zz < s.heap.objs.size := Heap.lt_size kz
    refine mix_next ap kz kT kO h1 h2 p p2.isList (p := w1) (q := w2) (by simpa using hu) (by simpa using hu2) fun h' z' O' h1' h2' hT hsz old => ?_
    refine ⟨_, rfl, wpAny_letOwnedTupleGo_zip (s := { s with heap := h' }) z' fun h2 z2 sb => ?_⟩
    have T2 : h2.get? s.heap.objs.size = some { cls := .type "tuple", data := .seq #[w1, w2] } := (sb.2 _ (Nat.ne_of_gt zl)).trans hT
    have new : ObjOk X.prog X.w (upd H s.heap.objs.size (.tup [x, y])) h2 s.heap.objs.size (.tup [x, y]) := ⟨by show 2 ≤ sizeLine; decide, [w1, w2], .cons ru (.cons ru2 .nil), ⟨_, T2, rfl, _, rfl⟩⟩
    have I1 : Inv X pins σ (upd H s.heap.objs.size (.tup [x, y])) { s with heap := h2 } := I.turnedNew (t' := s.toks) (ch := [zz, pT, pO, u, v]) (fun c o hb q => by
      have ne : ∀ d, d ∈ [zz, pT, pO, u, v] → c ≠ d := fun d hd e => hb (e ▸ hd)
      exact (sb.2 c (ne _ (by simp))).trans (old c o (ne _ (by simp)) (ne _ (by simp)) (ne _ (by simp)) (ne _ (by simp)) q)) hf (Nat.le_refl _) new
    refine ⟨.ref s.heap.objs.size, _, I1, rfl, ⟨_, x, y, rfl, I.hok.fresh (Nat.le_refl _), rfl, fun l hl => by rw [I.tuple_inj hl sx]; exact hx, fun l hl => by rw [I.list_inj hl sy]; exact hy⟩, ⟨z2, ?_, ⟨w1, w2, ?_⟩, ?_, ?_⟩, fun c hcm => ?_⟩
    · exact (sb.2 _ ap.TIz).trans (old _ _ ap.TIz ap.TITO ap.TIi1 ap.TIi2 kT)
    · exact (sb.2 _ ap.TOz).trans O'
    · exact h1'.at fun o q => (sb.2 _ ap.i1z).trans q
    · exact h2'.at fun o q => (sb.2 _ ap.i2z).trans q
    · have hlt : c < s.heap.objs.size := by
        have at_ : c = zz ∨ c = pT ∨ c = pO ∨ c = u ∨ c = v := by simpa using hcm
        rcases at_ with rfl | rfl | rfl | rfl | rfl
        · exact zl
        · exact Heap.lt_size kT
        · exact Heap.lt_size kO
        · obtain ⟨_, e1, _⟩ := h1; exact Heap.lt_size e1
        · obtain ⟨_, e2, _⟩ := h2; exact Heap.lt_size e2
      rw [upd_ne (Nat.ne_of_lt hlt)]
      exact (hf c hcm).1
  done := by
    intro X hP hw hK hc i pins s σ H E I hf st hg
    subst hP hw hK
    obtain ⟨kz, kT, ⟨x0, y0, kO⟩, h1, h2⟩ := st
    obtain ⟨xs, ys, sx, sy, over⟩ := hg
    obtain ⟨its, rv, p, _⟩ := I.tuple sx
    obtain ⟨its2, rv2, p2, _⟩ := I.list sy
    have l1 := rv.length
    have l2 := rv2.length
    have he : its.toArray[i]? = none ∨ its2.toArray[i]? = none := by
      rcases over with q | q
      · exact .inl (by simp; omega)
      · exact .inr (by simp; omega)
    exact mix_stop (I.ok.hd hc) ap kz kT kO h1 h2 p p2.isList he fun h' old => ⟨rfl, I.turnedL (t' := s.toks) (ch := [zz, pT, pO, u, v]) (fun c o hb q => by
      have ne : ∀ d, d ∈ [zz, pT, pO, u, v] → c ≠ d := fun d hd e => hb (e ▸ hd)
      exact old c o (ne _ (by simp)) (ne _ (by simp)) (ne _ (by simp)) (ne _ (by simp)) q) hf⟩
  self := fun A i s Q E st h => wpAny_pyIter_zip st.1 h
/-- zip of two lists, two tuples, a tuple and a list -/
def iZipX (K : PySem.W.Frag) (ta : TA) : TI := fun σ H R => ta σ H fun vs H1 => ∃ a b xs ys, vs = [.ref a, .ref b] ∧ ((SqL K H1 a xs ∧ SqL K H1 b ys ∧ R (Itz K a b) H1) ∨ (SqT K H1 a xs ∧ SqT K H1 b ys ∧ R (ItzT K a b) H1) ∨ (SqT K H1 a xs ∧ SqL K H1 b ys ∧ R (ItzM K a b) H1))
theorem pi_zipX {X : Cx} {e e2 : Expr} {ta : TA} {p pos tpos : Pos} {elts : List Expr} {kk : Nat} (hg : Gl X "zip") (hm : X.mg "zip" = none) (ha : PA X [e, e2] ta)
    (hs : starEach [e, e2] X.env = (false, eval e X.env) :: starEach [e2] X.env := by rfl) (hpl : (backTo pos (starEach [e2] X.env)).any (·.1) = false := by rfl) :
    PI X (.Tuple elts kk tpos) (.Call (.Name "zip" p) [e, e2] [] pos) (iZipX X.K ta) := by
  refine ⟨fun pins s σ H R I h => ?_⟩
  refine Call_ (ld_blt I hg hm PyProof.Rows.boot_zip (PyProof.Rows.callWith_type1 (thn (ha.run pos pins s σ H _ I h) fun us s1 got => ?_) hs hpl))
  obtain ⟨vs, H1, I1, r1, a, b, xs, ys, rfl, cs⟩ := got
  obtain ⟨u1, u2, rfl, r, r'⟩ := vals2 r1
  obtain rfl : u1 = Value.ref a := r
  obtain rfl : u2 = Value.ref b := r'
  have fresh5 : ∀ c, c ∈ [s1.heap.objs.size + 4, s1.heap.objs.size + 2, s1.heap.objs.size + 3, s1.heap.objs.size, s1.heap.objs.size + 1] → FpOk X pins H1 c := fun c hcm => by
    have hle : s1.heap.objs.size ≤ c := by
      simp only [List.mem_cons, List.not_mem_nil, or_false] at hcm
      rcases hcm with z | z | z | z | z <;> omega
    exact I1.fpOk hle (I1.hok.fresh hle)
  rcases cs with ⟨sx, sy, q⟩ | ⟨sx, sy, q⟩ | ⟨sx, sy, q⟩
  · obtain ⟨its, rv, p1, _⟩ := I1.list sx
    obtain ⟨its2, rv2, p2, _⟩ := I1.list sy
    refine call_zip_2 p1.isList p2.isList fun h' hz hTI hTO h1 h2 hsz hk => wpAny_pyIter_zip hz ?_
    exact ⟨s1.heap.objs.size + 4, [s1.heap.objs.size + 4, s1.heap.objs.size + 2, s1.heap.objs.size + 3, s1.heap.objs.size, s1.heap.objs.size + 1], _, _, H1, rfl, I1.kept (t' := s1.toks) hk, turn_zip (PySem.W.ktu_apart s1.heap.objs.size a b p1.lt p2.lt), ⟨hz, hTI, ⟨_, _, hTO⟩, h1, h2⟩, fresh5, q⟩
  · obtain ⟨its, rv, p1, _⟩ := I1.tuple sx
    obtain ⟨its2, rv2, p2, _⟩ := I1.tuple sy
    obtain ⟨o1, ho1, _⟩ := id p1
    obtain ⟨o2, ho2, _⟩ := id p2
    refine call_zipT (show s1.heap.IsTuple a its.toArray from p1) (show s1.heap.IsTuple b its2.toArray from p2) fun h' hz hTI hTO h1 h2 hsz hk => wpAny_pyIter_zip hz ?_
    exact ⟨s1.heap.objs.size + 4, [s1.heap.objs.size + 4, s1.heap.objs.size + 2, s1.heap.objs.size + 3, s1.heap.objs.size, s1.heap.objs.size + 1], _, _, H1, rfl, I1.kept (t' := s1.toks) hk, turn_zipT (PySem.W.ktu_apart s1.heap.objs.size a b (Heap.lt_size ho1) (Heap.lt_size ho2)), ⟨hz, hTI, ⟨_, _, hTO⟩, h1, h2⟩, fresh5, q⟩
  · obtain ⟨its, rv, p1, _⟩ := I1.tuple sx
    obtain ⟨its2, rv2, p2, _⟩ := I1.list sy
    obtain ⟨o1, ho1, _⟩ := id p1
    refine mix_call (show s1.heap.IsTuple a its.toArray from p1) p2.isList fun h' hz hTI hTO h1 h2 hk => wpAny_pyIter_zip hz ?_
    exact ⟨s1.heap.objs.size + 4, [s1.heap.objs.size + 4, s1.heap.objs.size + 2, s1.heap.objs.size + 3, s1.heap.objs.size, s1.heap.objs.size + 1], _, _, H1, rfl, I1.kept (t' := s1.toks) hk, turn_mix (PySem.W.ktu_apart s1.heap.objs.size a b (Heap.lt_size ho1) p2.lt), ⟨hz, hTI, ⟨_, _, hTO⟩, h1, h2⟩, fresh5, q⟩
theorem itok_zipM {G : Gx} {m : List Addr} {E : Hp} {a b : Addr} {vs us : List V} {ds es : List D} (s : SqT G.K E a vs) (r : Reps G m E ds vs) (s' : SqL G.K E b us) (r' : Reps G m E es us) : ItOk G (ItzM G.K a b) m E (zipD ds es) := by
  have hl : (zipD ds es).length = min ds.length es.length := by simp [zipD]
  refine ⟨fun i H hi hs => ?_, fun H hs => ⟨vs, us, SqT.same hs s, Same.seq hs s', ?_⟩, fun i H x H3 hi hs y => ?_⟩
  · rw [hl] at hi
    obtain ⟨v, e, _⟩ := r.get (List.getElem?_eq_getElem (show i < ds.length by omega))
    obtain ⟨u, e', _⟩ := r'.get (List.getElem?_eq_getElem (show i < es.length by omega))
    exact ⟨vs, us, v, u, SqT.same hs s, Same.seq hs s', e, e'⟩
  · rw [hl, ← r.len, ← r'.len]
    omega
  · obtain ⟨T, v, u, rfl, nT, rfl, f1, f2⟩ := y
    obtain ⟨d, ed, rd⟩ := r.get' (f1 vs (SqT.same hs s))
    obtain ⟨e, ee, re⟩ := r'.get' (f2 us (Same.seq hs s'))
    refine ⟨.tup [d, e], by simp [zipD, List.getElem?_zip_eq_some, ed, ee], .inr ⟨T, _, nT, rfl, fun m' E' hp hE hT => ?_⟩⟩
    rw [Rep]
    exact ⟨T, _, rfl, .inl (.inl hT), Reps.cons (Rep.mono hp hE _ _ rd) (Reps.cons (Rep.mono hp hE _ _ re) Reps.nil)⟩
def zipX2 (ds : List D) (Q : List D → Prop) : Prop := match ds with
  | [a, b] => match a, b with
    | .tup xs, .tup ys => Q (zipD xs ys)
    | .lst xs, .lst ys => Q (zipD xs ys)
    | .frl xs, .lst ys => Q (zipD xs ys)
    | .lst xs, .frl ys => Q (zipD xs ys)
    | .tup xs, .lst ys => Q (zipD xs ys)
    | _, _ => False
  | _ => False
theorem zipX2_of {ds : List D} {Q : List D → Prop} (h : zipX2 ds Q) : ∃ a b xs ys, ds = [a, b] ∧ ((a = .tup xs ∧ b = .tup ys) ∨ ((a = .lst xs ∨ a = .frl xs) ∧ (b = .lst ys ∨ b = .frl ys)) ∨ (a = .tup xs ∧ b = .lst ys)) ∧ Q (zipD xs ys) := by
  unfold zipX2 at h
  split at h
  · split at h
    · exact ⟨_, _, _, _, rfl, .inl ⟨rfl, rfl⟩, h⟩
    · exact ⟨_, _, _, _, rfl, .inr (.inl ⟨.inl rfl, .inl rfl⟩), h⟩
    · exact ⟨_, _, _, _, rfl, .inr (.inl ⟨.inr rfl, .inl rfl⟩), h⟩
    · exact ⟨_, _, _, _, rfl, .inr (.inl ⟨.inl rfl, .inr rfl⟩), h⟩
    · exact ⟨_, _, _, _, rfl, .inr (.inr ⟨rfl, rfl⟩), h⟩
    · exact h.elim
  · exact h.elim
def wiZipX (wa : WA) : WI := fun ρ μ Q Xd => wa ρ μ (fun ds μ1 => zipX2 ds fun es => Q es μ1) Xd
theorem di_zipX {ex : Option (Addr × Addr × Addr)} {W : WX} {X : Cx} {e e2 : Expr} {elts : List Expr} {kk : Nat} {tpos p pos : Pos} {ws : WA} (hg : Gl X "zip") (hm : X.mg "zip" = none) (ha : DA ex W X [e, e2] ws)
    (hs : starEach [e, e2] X.env = (false, eval e X.env) :: starEach [e2] X.env := by rfl) (hpl : (backTo pos (starEach [e2] X.env)).any (·.1) = false := by rfl) :
    DI ex W X (.Tuple elts kk tpos) (.Call (.Name "zip" p) [e, e2] [] pos) (wiZipX ws) := pi_weak (pi_zipX hg hm ha hs hpl) fun σ H R q => by
  obtain ⟨Z, m, ρ, μ, Q, Xd, S, q, k, kx⟩ := q
  refine ⟨Z, m, ρ, μ, _, Xd, S, q, fun vs H1 P => ?_, kx⟩
  obtain ⟨m1, ds, μ1, s1, r1, q1⟩ := P
  obtain ⟨a, b, xs, ys, rfl, h, q2⟩ := zipX2_of q1
  obtain ⟨v, t, rfl, r2, r3⟩ := r1.uncons
  obtain ⟨v', t', rfl, r4, r5⟩ := r3.uncons
  rw [Reps] at r5
  subst r5
  rcases h with ⟨rfl, rfl⟩ | ⟨ha, hb⟩ | ⟨rfl, rfl⟩
  · rw [Rep] at r2
    rw [Rep] at r4
    obtain ⟨pa, va, rfl, sa, ra⟩ := r2
    obtain ⟨pb, vb, rfl, sb, rb⟩ := r4
    exact ⟨pa, pb, va, vb, rfl, .inr (.inl ⟨SqT.same vis_le sa, SqT.same vis_le sb, k _ _ ⟨m1, _, μ1, s1, itok_zipT (G := gx X ex) sa ra sb rb, q2⟩⟩)⟩
  · obtain ⟨pa, va, rfl, sa, ra⟩ := lst_rep' ha r2
    obtain ⟨pb, vb, rfl, sb, rb⟩ := lst_rep' hb r4
    exact ⟨pa, pb, va, vb, rfl, .inl ⟨Same.seq vis_le sa, Same.seq vis_le sb, k _ _ ⟨m1, _, μ1, s1, itok_zipL (G := gx X ex) sa ra sb rb, q2⟩⟩⟩
  · rw [Rep] at r2
    rw [Rep] at r4
    obtain ⟨pa, va, rfl, sa, ra⟩ := r2
    obtain ⟨pb, vb, rfl, sb, rb⟩ := r4
    exact ⟨pa, pb, va, vb, rfl, .inr (.inr ⟨SqT.same vis_le sa, .inl (.inl (vis_le _ _ sb)), k _ _ ⟨m1, _, μ1, s1, itok_zipM (G := gx X ex) sa ra (.inl (.inl sb)) rb, q2⟩⟩)⟩
end DL

set_option Elab.async false
set_option linter.all false
set_option maxRecDepth 100000
set_option maxHeartbeats 4000000
set_option autoImplicit false
namespace DL
open PySem PySem.Spec PyProof.Rows L2 RZ
/-! ### enumerate(a tuple) -/
section
variable {prog : Program} {w : World} {A : Around} {E : Value → Shared → Prop} {s : Shared} {en it m : Addr} {i : Nat} {ps : Array Value} {p old : Value}
theorem ent_item {QQ : Value → Shared → Prop} (ke : IsEnum s.heap en it i old) (ki : s.heap.IsTupleIter it m i) (km : s.heap.IsTuple m ps) (hp : ps[i]? = some p) (ne : en ≠ it)
    (out : ∀ h', IsEnumOut h' en it ((i : Int) + 1) p s.heap.objs.size → h'.IsTupleIter it m (i + 1) → h'.get? s.heap.objs.size = some { cls := .type "tuple", data := .seq #[.int i s.toks, p] } → h'.objs.size = s.heap.objs.size + 1 →
      (∀ b o, b ≠ en → b ≠ it → s.heap.get? b = some o → h'.get? b = some o) → QQ (.ref s.heap.objs.size) { s with heap := h', toks := s.toks + 1 }) :
    wpAny (model prog w) A (Builtin.«enumerate.__next__» ⟨[.ref en], []⟩) (fun fin s' => ∃ v, fin = .done (.ret v) ∧ QQ v s') E s := by
  obtain ⟨hp0, g, d, tk, os⟩ := s
  show wpAny _ _ (field (.ref en) 2 >>= _) _ _ _
  refine wpAny_bind (wpAny_field ke rfl (x := .ref it) rfl (wpAny_bind (nextOf_tuple_item ki km hp fun g1 i1 e1 => ?_)))
  replace e1 : Heap.SameBut it hp0 g1 := e1
  have k1 : IsEnum g1 en it i old := (e1.2 en ne).trans ke
  show wpAny _ _ (field (.ref en) 3 >>= _) _ _ ⟨g1, g, d, tk, os⟩
  refine wpAny_bind (wpAny_field k1 rfl (x := rawInt i) rfl ?_)
  show wpAny _ _ (field (.ref en) 4 >>= _) _ _ ⟨g1, g, d, tk, os⟩
  refine wpAny_bind (wpAny_field k1 rfl (x := .none) rfl ?_)
  show wpAny _ _ (mkInt i >>= _) _ _ ⟨g1, g, d, tk, os⟩
  refine wpAny_bind (wpAny_mkInt ?_)
  show wpAny _ _ (setField (.ref en) 3 (rawInt ((i : Int) + 1)) >>= _) _ _ ⟨g1, g, d, tk + 1, os⟩
  refine wpAny_bind (wpAny_setField_rec k1 (by simp) fun g2 k2 e2 => ?_)
  replace e2 : Heap.SameBut en g1 g2 := e2
  replace k2 : IsEnum g2 en it ((i : Int) + 1) old := k2
  show wpAny _ _ (setField (.ref en) 4 .none >>= _) _ _ ⟨g2, g, d, tk + 1, os⟩
  refine wpAny_bind (wpAny_setField_rec k2 (by simp) fun g3 k3 e3 => ?_)
  replace e3 : Heap.SameBut en g2 g3 := e3
  replace k3 : IsEnum g3 en it ((i : Int) + 1) old := k3
  show wpAny _ _ (newTuple [.int i tk, p] >>= _) _ _ ⟨g3, g, d, tk + 1, os⟩
  refine wpAny_bind (wpAny_newTuple ?_)
  have k4 : IsEnum (g3.push { cls := .type "tuple", data := .seq #[.int i tk, p] }) en it ((i : Int) + 1) old := Heap.get?_push_of_some _ k3
  generalize eq4 : g3.push { cls := .type "tuple", data := .seq #[.int i tk, p] } = g4 at k4
  have sz3 : g3.objs.size = hp0.objs.size := by rw [e3.1, e2.1, e1.1]
  have lt : en < hp0.objs.size := Heap.lt_size ke
  have t4 : g4.get? hp0.objs.size = some { cls := .type "tuple", data := .seq #[.int i tk, p] } := by rw [← eq4, ← sz3]; exact Heap.get?_push_size _ rfl
  have sz4 : g4.objs.size = hp0.objs.size + 1 := by rw [← eq4, Heap.size_push, sz3]
  have old4 : ∀ b o, b ≠ en → b ≠ it → hp0.get? b = some o → g4.get? b = some o := fun b o c1 c2 k => by
    rw [← eq4]; exact Heap.get?_push_of_some _ (e3.extBut b o c1 (e2.extBut b o c1 (e1.extBut b o c2 k)))
  have i4 : g4.IsTupleIter it m (i + 1) := by
    rw [← eq4]; exact ((i1.extBut e2.extBut (Ne.symm ne)).extBut e3.extBut (Ne.symm ne)).at fun o k => Heap.get?_push_of_some _ k
  show wpAny _ _ (Builtin.SmallTypes.ownedTupleIsFree (.ref en) >>= _) _ _ ⟨g4, g, d, tk + 1, os⟩
  rw [sz3]
  clear eq4 k3 e3 k2 e2 k1 e1 i1 sz3 g3 g2 g1
  refine wpAny_bind ?_
  unfold Builtin.SmallTypes.ownedTupleIsFree
  refine wpAny_bind (wpAny_field k4 rfl (x := .none) rfl (wpAny_pure ?_))
  simp only [if_true]
  refine wpAny_bind (wpAny_rule (wpAny_bind (wpAny_field k4 rfl (x := old) rfl (wpAny_bind (wpAny_setField_rec k4 (by simp) fun g5 k5 e5 => ?_)))))
  replace e5 : Heap.SameBut en g4 g5 := e5
  replace k5 : IsEnum g5 en it ((i : Int) + 1) p := k5
  show wpAny _ _ (Builtin.SmallTypes.ownedTupleHandOut (.ref en) (.ref hp0.objs.size) >>= _) _ _ ⟨g5, g, d, tk + 1, os⟩
  refine wpAny_bind ?_
  unfold Builtin.SmallTypes.ownedTupleHandOut
  refine wpAny_bind (wpAny_setField_rec k5 (by simp) fun g6 k6 e6 => ?_)
  replace e6 : Heap.SameBut en g5 g6 := e6
  replace k6 : IsEnumOut g6 en it ((i : Int) + 1) p hp0.objs.size := k6
  refine wpAny_setField_rec k6 (by simp) fun g7 k7 e7 => ?_
  replace e7 : Heap.SameBut en g6 g7 := e7
  replace k7 : IsEnumOut g7 en it ((i : Int) + 1) p hp0.objs.size := k7
  refine wpAny_bind (wpAny_letGo (wpAny_pure ⟨_, rfl, out g7 k7 ?_ ?_ ?_ ?_⟩))
  · exact ((i4.extBut e5.extBut (Ne.symm ne)).extBut e6.extBut (Ne.symm ne)).extBut e7.extBut (Ne.symm ne)
  · exact e7.extBut _ _ (Nat.ne_of_gt lt) (e6.extBut _ _ (Nat.ne_of_gt lt) (e5.extBut _ _ (Nat.ne_of_gt lt) t4))
  · rw [e7.1, e6.1, e5.1, sz4]
  · exact fun b o c1 c2 k => e7.extBut b o c1 (e6.extBut b o c1 (e5.extBut b o c1 (old4 b o c1 c2 k)))
theorem ent_next {QQ : Option Value → Shared → Prop} (ke : IsEnum s.heap en it i old) (ki : s.heap.IsTupleIter it m i) (km : s.heap.IsTuple m ps) (hp : ps[i]? = some p) (ne : en ≠ it)
    (out : ∀ h', IsEnumOut h' en it ((i : Int) + 1) p s.heap.objs.size → h'.IsTupleIter it m (i + 1) → h'.get? s.heap.objs.size = some { cls := .type "tuple", data := .seq #[.int i s.toks, p] } → h'.objs.size = s.heap.objs.size + 1 →
      (∀ b o, b ≠ en → b ≠ it → s.heap.get? b = some o → h'.get? b = some o) → QQ (some (.ref s.heap.objs.size)) { s with heap := h', toks := s.toks + 1 }) : wpAny (model prog w) A (pyNext (.ref en)) QQ E s := by
  have ty : s.TypeIs (.ref en) "enumerate" := ⟨_, ke, rfl⟩
  unfold pyNext
  exact wpAny_bind (wpAny_attempt (wpAny_callSpecial?_slot (name := Str.ofString "__next__") ty F.slot_enumerate_next
    (wpAny_call_entry F.slot_enumerate_next ty F.entry_enumerate_next (ent_item ke ki km hp ne fun h' a b c d k => wpAny_pure (out h' a b c d k)) (F.args_enumerate_next_1 _))))
theorem ent_stop {QQ : Option Value → Shared → Prop} (hh : A.handled = none) (ke : IsEnum s.heap en it i old) (ki : s.heap.IsTupleIter it m i) (km : s.heap.IsTuple m ps) (hp : ps[i]? = none)
    (out : ∀ h', Heap.ExtBut it s.heap h' → QQ none { s with heap := h' }) : wpAny (model prog w) A (pyNext (.ref en)) QQ E s := by
  have ty : s.TypeIs (.ref en) "enumerate" := ⟨_, ke, rfl⟩
  unfold pyNext
  refine wpAny_bind (wpAny_attempt (wpAny_callSpecial?_slot (name := Str.ofString "__next__") ty F.slot_enumerate_next (wpAny_call_entry F.slot_enumerate_next ty F.entry_enumerate_next ?_ (F.args_enumerate_next_1 _))))
  show wpAny _ _ (field (.ref en) 2 >>= _) _ _ _
  refine wpAny_bind (wpAny_field ke rfl (x := .ref it) rfl (wpAny_bind (nextOf_tuple_end hh ki km hp fun h' x e1 he => ?_)))
  obtain ⟨o, ho, hc⟩ := he
  exact wpAny_bind (wpAny_isInstance (T := "StopIteration") (b := true) ⟨o, ho, hc⟩ isSubtype_stop (wpAny_pure (out _ e1)))
abbrev en1 (h : Heap) (m : Addr) : Heap := h.push { cls := .type "tuple_iterator", data := .fields #[.ref m, .int 0 0] }
abbrev en2 (h : Heap) (m : Addr) : Heap := (en1 h m).push { cls := .type "enumerate", data := .fields #[.none, .bool false, .ref h.objs.size, rawInt 0, .none, .none] }
theorem ent_new (m : Addr) (dd : Option Addr) (ps : Array Value) (n : Nat) (sl : Array (Option Value)) :
    Meets (Builtin.«enumerate.__new__» ⟨[.type "enumerate", .ref m], []⟩) (fun _ R s => s.heap.get? m = some ⟨.type "tuple", dd, .seq ps n, sl⟩ ∧ R (.ok (.ret (.ref (en1 s.heap m).objs.size))) { s with heap := en2 s.heap m }) :=
  .of_wp fun prog w A R s h => by
    obtain ⟨hp0, g, d, tk, os⟩ := s
    obtain ⟨hm, h⟩ := h
    have hsub := sub_enumerate
    have M1 : Heap.IsTuple (Shared.heap ⟨hp0, g, d, tk, os⟩) m ps := ⟨_, hm, rfl, n, rfl⟩
    wp_walk using wpAny_loadPart' hm
    refine wpAny_stack_any fun st => wpAny_pure ?_
    split
    · rename_i c _ _ _ _ _
      cases (c == Value.type "enumerate")
      · wp_walk using wpAny_loadPart' hm, wpAny_pyIter_tuple M1
        exact ⟨_, rfl, h⟩
      · wp_walk using wpAny_loadPart' hm, wpAny_pyIter_tuple M1
        exact ⟨_, rfl, h⟩
    · wp_walk using wpAny_loadPart' hm, wpAny_pyIter_tuple M1
      exact ⟨_, rfl, h⟩
theorem ent_call {QQ : Value → Shared → Prop} (km : s.heap.IsTuple m ps)
    (out : ∀ h', IsEnum h' (s.heap.objs.size + 1) s.heap.objs.size 0 .none → h'.IsTupleIter s.heap.objs.size m 0 → (∀ b o, s.heap.get? b = some o → h'.get? b = some o) → QQ (.ref (s.heap.objs.size + 1)) { s with heap := h' }) :
    wpAny (model prog w) A (call (.type "enumerate") [.ref m]) QQ E s := by
  obtain ⟨⟨c, dct, dt, sl⟩, hl, hc, n, hd⟩ := km
  simp only at hc hd
  subst hc hd
  refine callType_new F.called_enumerate (by decide) (F.typeCall_enumerate_1 _) (F.newCall_enumerate_1 _) (fun obj => F.args_object_init_2 obj _) F.entry_enumerate_new (ent_new m dct ps n sl) ⟨hl, ?_⟩
  have k1 : (en1 s.heap m).objs.size = s.heap.objs.size + 1 := Heap.size_push ..
  have j2 : (en2 s.heap m).get? (en1 s.heap m).objs.size = some _ := Heap.get?_push_size _ rfl
  have j1 : (en2 s.heap m).get? s.heap.objs.size = some _ := Heap.get?_push_of_some _ (Heap.get?_push_size _ rfl)
  show _ ∧ _
  rw [k1] at j2 ⊢
  exact ⟨⟨_, j2, rfl⟩, out _ j2 ⟨_, j1, rfl, rfl⟩ fun b o x => Heap.get?_push_of_some _ (Heap.get?_push_of_some _ x)⟩
end
/-- the tuple at a as it stands at each turn, each item in a new pair -/
def IteT (K : PySem.W.Frag) (a : Addr) : It :=
  ⟨fun i H => ∃ (xs : List V) (x : V), SqT K H a xs ∧ xs[i]? = some x, fun i H v H' => ∃ T x, v = .ref T ∧ H T = none ∧ H' = upd H T (.tup [.int (i : Nat), x]) ∧ ∀ xs, SqT K H a xs → xs[i]? = some x, fun i H => ∃ xs : List V, SqT K H a xs ∧ xs.length ≤ i⟩
theorem turn_ent {P : Program} {w : World} {K : PySem.W.Frag} {elts : List Expr} {kk : Nat} {tpos : Pos} (a en it : Addr) :
    Turn P w K (.Tuple elts kk tpos) (IteT K a) [en, it] en (fun i h => (∃ old, IsEnum h en it ((i : Nat) : Int) old) ∧ h.IsTupleIter it a i ∧ en ≠ it) where
  mem := by simp
  obj := fun i h st b hb => by
    obtain ⟨⟨old, he⟩, ⟨o, ho, hc, hd⟩, _⟩ := st
    have at_ : b = en ∨ b = it := by simpa using hb
    rcases at_ with rfl | rfl
    · exact ⟨_, he, fun v q => nomatch q⟩
    · exact ⟨o, ho, fun v q => by rw [hd] at q; cases q⟩
  keep := fun i h h' st k => by
    obtain ⟨⟨old, he⟩, hi, ne⟩ := st
    exact ⟨⟨old, k en (by simp) _ he⟩, hi.at fun o q => k it (by simp) o q, ne⟩
  item := by
    intro X hP hw hK hc i pins s σ H E I hf st hg
    subst hP hw hK
    obtain ⟨⟨old, ke⟩, ki, ne⟩ := st
    obtain ⟨xs, x, sx, hx⟩ := hg
    obtain ⟨its, rv, p, _⟩ := I.tuple sx
    obtain ⟨u, hu, ru⟩ := rv.get hx
    have l1 : en < s.heap.objs.size := Heap.lt_size ke
    have l2 : it < s.heap.objs.size := by obtain ⟨_, q, _⟩ := ki; exact Heap.lt_size q
    refine ent_next ke ki (show s.heap.IsTuple a its.toArray from p) (p := u) (by simpa using hu) ne fun h' ho i' hT hsz old' => ?_
    refine ⟨_, rfl, wpAny_letOwnedTupleGo_enum (s := { s with heap := h', toks := s.toks + 1 }) ho fun h2 he2 sb => ?_⟩
    have T2 : h2.get? s.heap.objs.size = some { cls := .type "tuple", data := .seq #[.int i s.toks, u] } := (sb.2 _ (Nat.ne_of_gt l1)).trans hT
    have new : ObjOk X.prog X.w (upd H s.heap.objs.size (.tup [.int (i : Nat), x])) h2 s.heap.objs.size (.tup [.int (i : Nat), x]) := ⟨by show 2 ≤ sizeLine; decide, [.int i s.toks, u], .cons ⟨_, rfl⟩ (.cons ru .nil), ⟨_, T2, rfl, _, rfl⟩⟩
    have I1 : Inv X pins σ (upd H s.heap.objs.size (.tup [.int (i : Nat), x])) { s with heap := h2, toks := s.toks + 1 } := I.turnedNew (ch := [en, it]) (fun b ob hb q => by
      have nb : ∀ d, d ∈ [en, it] → b ≠ d := fun d hd e => hb (e ▸ hd)
      exact (sb.2 b (nb _ (by simp))).trans (old' b ob (nb _ (by simp)) (nb _ (by simp)) q)) hf (Nat.le_refl _) new
    refine ⟨.ref s.heap.objs.size, _, I1, rfl, ⟨_, x, rfl, I.hok.fresh (Nat.le_refl _), rfl, fun ys hy => by rw [I.tuple_inj hy sx]; exact hx⟩, ⟨⟨u, ?_⟩, i'.at fun o q => (sb.2 it (Ne.symm ne)).trans q, ne⟩, fun b hb => ?_⟩
    · rw [show ((i + 1 : Nat) : Int) = (i : Int) + 1 by omega]
      exact he2
    · have lt : b < s.heap.objs.size := by
        have at_ : b = en ∨ b = it := by simpa using hb
        rcases at_ with rfl | rfl
        · exact l1
        · exact l2
      rw [upd_ne (Nat.ne_of_lt lt)]
      exact (hf b hb).1
  done := by
    intro X hP hw hK hc i pins s σ H E I hf st hg
    subst hP hw hK
    obtain ⟨⟨old, ke⟩, ki, ne⟩ := st
    obtain ⟨xs, sx, hx⟩ := hg
    obtain ⟨its, rv, p, _⟩ := I.tuple sx
    obtain ⟨f0, f1, f2, f3, f4, f5⟩ := hf it (by simp)
    have hl := rv.length
    exact ent_stop (I.ok.hd hc) ke ki (show s.heap.IsTuple a its.toArray from p) (by simp; omega) fun h' eb => ⟨rfl, I.turned (t' := s.toks) (fun b o hb q => eb b o hb q) f0 f1 f3 f4 f5⟩
  self := fun A i s Q E st h => by
    obtain ⟨⟨_, he⟩, _⟩ := st
    exact wpAny_pyIter_enum he h
/-- enumerate of a list or a tuple -/
def iEnumX (K : PySem.W.Frag) (ta : TA) : TI := fun σ H R => ta σ H fun vs H1 => ∃ a xs, vs = [.ref a] ∧ ((SqL K H1 a xs ∧ R (Ite K a) H1) ∨ (SqT K H1 a xs ∧ R (IteT K a) H1))
theorem pi_enumX {X : Cx} {e : Expr} {ta : TA} {p pos tpos : Pos} {elts : List Expr} {kk : Nat} (hg : Gl X "enumerate") (hm : X.mg "enumerate" = none) (ha : PA X [e] ta) (hs : starEach [e] X.env = [(false, eval e X.env)] := by rfl) :
    PI X (.Tuple elts kk tpos) (.Call (.Name "enumerate" p) [e] [] pos) (iEnumX X.K ta) := by
  refine ⟨fun pins s σ H R I h => ?_⟩
  refine Call_ (ld_blt I hg hm boot_enumerate (PyProof.Rows.callWith_type1 (thn (ha.run pos pins s σ H _ I h) fun us s1 got => ?_) hs rfl))
  obtain ⟨vs, H1, I1, r1, a, xs, rfl, cs⟩ := got
  obtain ⟨u, rfl, r⟩ := r1.one
  obtain rfl : u = Value.ref a := r
  have fresh2 : ∀ b, b ∈ [s1.heap.objs.size + 1, s1.heap.objs.size] → FpOk X pins H1 b := fun b hb => by
    have hle : s1.heap.objs.size ≤ b := by
      simp only [List.mem_cons, List.not_mem_nil, or_false] at hb
      rcases hb with z | z <;> omega
    exact I1.fpOk hle (I1.hok.fresh hle)
  rcases cs with ⟨sx, q⟩ | ⟨sx, q⟩
  · obtain ⟨its, rv, p', hz⟩ := I1.list sx
    exact call_enumerate_list p'.isList fun h' he hit hsz hk => wpAny_pyIter_enum he ⟨s1.heap.objs.size + 1, [s1.heap.objs.size + 1, s1.heap.objs.size], _, _, H1, rfl, I1.kept (t' := s1.toks) hk, turn_enum a (s1.heap.objs.size + 1) s1.heap.objs.size, ⟨⟨.none, he⟩, hit, Nat.succ_ne_self _⟩, fresh2, q⟩
  · obtain ⟨its, rv, p', hz⟩ := I1.tuple sx
    exact ent_call (show s1.heap.IsTuple a its.toArray from p') fun h' he hit hk => wpAny_pyIter_enum he ⟨s1.heap.objs.size + 1, [s1.heap.objs.size + 1, s1.heap.objs.size], _, _, H1, rfl, I1.kept (t' := s1.toks) hk, turn_ent a (s1.heap.objs.size + 1) s1.heap.objs.size, ⟨⟨.none, he⟩, hit, Nat.succ_ne_self _⟩, fresh2, q⟩
theorem itok_ent {G : Gx} {m : List Addr} {E : Hp} {a : Addr} {vs : List V} {ds : List D} (s : SqT G.K E a vs) (r : Reps G m E ds vs) : ItOk G (IteT G.K a) m E (enumD ds) := by
  have hl : (enumD ds).length = ds.length := by simp [enumD]
  refine ⟨fun i H hi hs => ?_, fun H hs => ⟨vs, SqT.same hs s, by rw [hl, r.len]; exact Nat.le_refl _⟩, fun i H x H3 hi hs y => ?_⟩
  · rw [hl] at hi
    obtain ⟨v, e, _⟩ := r.get (List.getElem?_eq_getElem hi)
    exact ⟨vs, v, SqT.same hs s, e⟩
  · obtain ⟨T, x', e, nT, eH, y⟩ := y
    obtain ⟨d, ed, rd⟩ := r.get' (y vs (SqT.same hs s))
    refine ⟨.tup [.int (i : Nat), d], by simp only [enumD, List.getElem?_mapIdx, ed, Option.map_some], .inr ⟨T, _, nT, eH, fun m' E' hp hE eT => ?_⟩⟩
    rw [Rep]
    exact ⟨T, _, e, .inl (.inl eT), Reps.cons (by rw [Rep]) (Reps.cons (Rep.mono hp hE _ _ rd) Reps.nil)⟩
def enX (ds : List D) (Q : List D → Prop) : Prop := match ds with
  | [.lst es] => Q (enumD es)
  | [.frl es] => Q (enumD es)
  | [.tup es] => Q (enumD es)
  | _ => False
theorem enX_of {ds : List D} {Q : List D → Prop} (h : enX ds Q) : ∃ d es, ds = [d] ∧ ((d = .lst es ∨ d = .frl es) ∨ d = .tup es) ∧ Q (enumD es) := by
  unfold enX at h
  split at h
  · exact ⟨_, _, rfl, .inl (.inl rfl), h⟩
  · exact ⟨_, _, rfl, .inl (.inr rfl), h⟩
  · exact ⟨_, _, rfl, .inr rfl, h⟩
  · exact h.elim
def wiEnumX (wa : WA) : WI := fun ρ μ Q Xd => wa ρ μ (fun ds μ1 => enX ds fun es => Q es μ1) Xd
theorem di_enumX {ex : Option (Addr × Addr × Addr)} {W : WX} {X : Cx} {e : Expr} {elts : List Expr} {kk : Nat} {tpos p pos : Pos} {ws : WA} (hg : Gl X "enumerate") (hm : X.mg "enumerate" = none) (ha : DA ex W X [e] ws) (hs : starEach [e] X.env = [(false, eval e X.env)] := by rfl) :
    DI ex W X (.Tuple elts kk tpos) (.Call (.Name "enumerate" p) [e] [] pos) (wiEnumX ws) := pi_weak (pi_enumX hg hm ha hs) fun σ H R q => by
  obtain ⟨Z, m, ρ, μ, Q, Xd, S, q, k, kx⟩ := q
  refine ⟨Z, m, ρ, μ, _, Xd, S, q, fun vs H1 P => ?_, kx⟩
  obtain ⟨m1, ds, μ1, s1, r1, q1⟩ := P
  obtain ⟨d, es, rfl, h, q2⟩ := enX_of q1
  obtain ⟨v, t, rfl, r2, r3⟩ := r1.uncons
  rw [Reps] at r3
  subst r3
  rcases h with h | rfl
  · obtain ⟨a, va, rfl, sa, ra⟩ := lst_rep' h r2
    exact ⟨a, va, rfl, .inl ⟨Same.seq vis_le sa, k _ _ ⟨m1, _, μ1, s1, itok_enum (G := gx X ex) sa ra, q2⟩⟩⟩
  · rw [Rep] at r2
    obtain ⟨a, va, rfl, sa, ra⟩ := r2
    exact ⟨a, va, rfl, .inr ⟨SqT.same vis_le sa, k _ _ ⟨m1, _, μ1, s1, itok_ent (G := gx X ex) sa ra, q2⟩⟩⟩
end DL

set_option Elab.async false
set_option linter.all false
set_option maxRecDepth 100000
set_option maxHeartbeats 4000000
set_option autoImplicit false
namespace DL
open PySem PySem.Spec PyProof.Rows L2
/-! ### sum of a list or a tuple of ints -/
section
variable {prog : Program} {w : World} {A : Around} {E : Value → Shared → Prop} {s : Shared} {l : Addr}
theorem sum_tupleG {xs : Array (Int × Tok)} {Q : Value → Shared → Prop} (hh : A.handled = none) (hl : s.heap.IsTuple l (intItems xs))
    (h : ∀ h' tk t', (∀ b o, s.heap.get? b = some o → h'.get? b = some o) → Q (.int (preSum (numAt xs) xs.size) t') { s with heap := h', toks := tk }) :
    wpAny (model prog w) A (call (.builtin "sum") [.ref l]) Q E s := by
  have hlt : l < s.heap.objs.size := by obtain ⟨_, e, _⟩ := hl; exact Heap.lt_size e
  refine call_sum_walkG (wpAny_pyIter_tuple hl ?_)
  refine ⟨_, [s.heap.objs.size, l], [s.heap.objs.size], _, _, _, numAt xs, rfl, Walks.tuple (A := A.in1) hh _ l (Nat.ne_of_lt hlt) (intItems xs), ⟨⟨_, Heap.get?_push_size _ rfl, rfl, rfl⟩, hl.push _⟩, fun b hb => ?_, (fun _ _ => intItems_at), fun h' tk t' hk => ?_⟩
  · show b < (s.heap.push _).objs.size
    rw [Heap.size_push]
    rcases List.mem_cons.mp hb with rfl | hb
    · exact Nat.lt_succ_self _
    · rcases List.mem_cons.mp hb with rfl | hb
      · exact Nat.lt_succ_of_lt hlt
      · cases hb
  · have := h h' tk t' (fun b o e => by
      refine hk b o (fun hm => ?_) (Heap.get?_push_of_some _ e)
      rcases List.mem_cons.mp hm with e1 | hm
      · exact absurd (e1 ▸ Heap.lt_size e) (Nat.lt_irrefl _)
      · cases hm)
    simpa [intItems] using this
theorem sum_rawT {its : List Value} {ns : List Int} {Q : Value → Shared → Prop} (hh : A.handled = none) (hl : s.heap.IsTuple l its.toArray) (hi : IntsAre its ns)
    (h : ∀ h' tk t', (∀ b o, s.heap.get? b = some o → h'.get? b = some o) → Q (.int ns.sum t') { s with heap := h', toks := tk }) : wpAny (model prog w) A (call (.builtin "sum") [.ref l]) Q E s := by
  obtain ⟨xs, e⟩ := hi.allInts.items
  have hn : numsOf (intItems xs).toList = ns := by rw [← e]; exact hi.numsOf
  rw [nums_intItems] at hn
  rw [e] at hl
  refine sum_tupleG hh hl fun h' tk t' hk => ?_
  have := h h' tk t' hk
  rw [preSum_eq, List.take_of_length_le (by simp), hn]; exact this
end
def rSumX (K : PySem.W.Frag) : List V → Hp → VK → Prop := fun vs H Q => ∃ (a : Addr) (ns : List Int), vs = [V.ref a] ∧ (SqL K H a (ns.map V.int) ∨ SqT K H a (ns.map V.int)) ∧ Q (.int ns.sum) H
theorem cr_sumX {X : Cx} (hc : X.calm = true) : CallR X (.builtin "sum") (rSumX X.K) := by
  intro pins s σ H vs us Q I r h
  obtain ⟨a, ns, rfl, hs, q⟩ := h
  rw [Vals.ref1 r]
  rcases hs with hs | hs
  · obtain ⟨its, rv, hl, _⟩ := I.list hs
    exact sum_raw (I.ok.hd hc) hl.isList rv.ints fun h' tk t' hk => ⟨.int _, H, I.kept hk, ⟨_, rfl⟩, q⟩
  · obtain ⟨its, rv, hl, _⟩ := I.tuple hs
    exact sum_rawT (I.ok.hd hc) (show s.heap.IsTuple a its.toArray from hl) rv.ints fun h' tk t' hk => ⟨.int _, H, I.kept hk, ⟨_, rfl⟩, q⟩
def fSumX : FN := fun xs μ Q => match xs with
  | [.tup ds] => ∃ ns, intsD ds = some ns ∧ Q (.int ns.sum) μ
  | [x] => lstInts x fun ns => Q (.int ns.sum) μ
  | _ => False
theorem sn_sumX {G : Gx} : SN G (rSumX G.K) fSumX := by
  intro Z m μ H xs us Q Q' M r h k
  unfold fSumX at h
  split at h
  · obtain ⟨v, t, rfl, r1, r2⟩ := r.uncons
    rw [Reps] at r2
    subst r2
    rw [Rep] at r1
    obtain ⟨a, vs, rfl, s, rs⟩ := r1
    obtain ⟨ns, hn, q⟩ := h
    have := ints_rep rs hn
    subst this
    exact ⟨a, ns, rfl, .inr (SqT.same vis_le s), k _ _ (.now M (by rw [Rep]) q)⟩
  · obtain ⟨v, t, rfl, r1, r2⟩ := r.uncons
    rw [Reps] at r2
    subst r2
    obtain ⟨ns, a, rfl, s, q⟩ := lstInts_rep h r1
    exact ⟨a, ns, rfl, .inl (Same.seq vis_le s), k _ _ (.now M (by rw [Rep]) q)⟩
  · exact h.elim
end DL

set_option Elab.async false
set_option linter.all false
set_option maxRecDepth 100000
set_option maxHeartbeats 4000000
set_option autoImplicit false
namespace DL
open PySem PySem.Spec PyProof.Rows L2
/-! ### f(e) in an except suite: a def that gets the caught exception -/
abbrev XSp := Str → List Str → List D → Mu → (D → Mu → Prop) → Prop
def startX (N : List Str) (c : Str) (ks : List Str) (es : List D) : DS := (List.replicate N.length Sl.no).set 0 (.exn c ks es)
def toSpX (K : PySem.W.Frag) (mg : Str → Option Value) (a : Addr) (cls : Value) (d : Option Addr) (sp : XSp) (H : Hp) (Q : VK) : Prop :=
  ∃ (Z : Addr → Prop) (m : List Addr) (μ : Mu) (c : Str) (ks : List Str) (es : List D) (C dd : Addr) (vs : List V) (Qd : D → Mu → Prop), MuOk ⟨K, mg, none⟩ Z m μ H ∧ exOf a cls d = some (a, C, dd) ∧ mg c = some (.ref C) ∧ vis Z m H dd = some (.xd (ks.zip vs)) ∧ ks.length = es.length ∧
    Reps ⟨K, mg, none⟩ m (vis Z m H) es vs ∧ sp c ks es μ Qd ∧ ∀ v H', VPost ⟨K, mg, none⟩ Z m H Qd v H' → Q v H'
structure FnX (P : Program) (wd : World) (K : PySem.W.Frag) (mg : Str → Option Value) (bs : Heap) (k : Nat) (f : Addr) (fd : FuncData) (ps : List Str) (sp : XSp) : Prop where
  one : ps.length = 1
  run : ∀ (A : Around) (fr : List Env) (s : Shared) (H : Hp) (args : Args) (a : Addr) (oe : Obj) (cls : Value) (d : Option Addr) (Q : VK), L2H.RoomH k A → A.guards = some [] → A.handled = some (.ref a) → L2H.PinOk fr H s (a, oe) → Zc cls d oe → (∃ vs, oe.data = .fields vs) →
    Env0 P wd K mg bs A fr s H → BindsTo s fd args (ps.zip [.ref a]) → toSpX K mg a cls d sp H Q → codeAny (model P wd) A (.call (.ref f) args) (CR (L2.CX P wd) fr P wd H s Q (fun _ _ _ => False)) s
theorem mark_eq {A : Around} {v : Value} (h : A.handled = some v) (env : Env) : (A.deeper env).mark (some v) = A.deeper env := by
  cases A
  cases h
  rfl
theorem repl_own {Z : Addr → Prop} {σ : L2.St} {n : Nat} : ownW Z σ (List.replicate n Sl.no) = Z := by
  funext b
  apply propext
  constructor
  · rintro (h | ⟨i, e, h⟩)
    · exact h
    · rw [List.getElem?_replicate] at h
      split at h <;> cases h
  · exact .inl
theorem SR.blank {G : Gx} {Z : Addr → Prop} {m : List Addr} {H : Hp} {μ : Mu} {σ : L2.St} (M : MuOk G Z m μ H) : SR G Z m σ H (List.replicate σ.length Sl.no) μ := by
  have no : ∀ {i : Nat} {x : Sl}, (List.replicate σ.length Sl.no)[i]? = some x → x = .no := fun {i x} h => by
    rw [List.getElem?_replicate] at h
    split at h
    · exact (Option.some.inj h).symm
    · cases h
  refine ⟨by rw [List.length_replicate], by rw [repl_own]; exact M, fun i d e => ?_, fun i a c e => ?_, fun i j a c c' e _ => ?_, fun i c ks ds e => ?_⟩
  all_goals cases no e
theorem wp_around {α : Type} {M : Model} {A B : Around} {x : Sem α} {Q : α → Shared → Prop} {E : Value → Shared → Prop} {s : Shared} (e : A = B) (h : wpAny M A x Q E s) : wpAny M B x Q E s := e ▸ h
section
variable {P : Program} {w : World} {K : PySem.W.Frag} {mg : Str → Option Value} {base : Heap}
theorem def_okX {x qual : Str} {params : Arguments} {body : List Stmt} {scope : Scope} {dvs : List V} {kws : List (Str × V)} {f : Addr} {fd : FuncData} {N ps : List Str} {k : Nat} {wb : WS} (F : FunD K x qual params body scope dvs kws f fd) (S : FnScope N ps scope) (h1 : ps.length = 1)
    (hbody : ∀ (cdv : Value) (A : Around) (fr : List Env) (s : Shared) (H : Hp) (E : XK) (a : Addr) (oe : Obj) (cls : Value) (d : Option Addr), L2H.RoomH k (A.deeper (envOfC qual scope s.heap.objs.size f cdv)) → (A.deeper (envOfC qual scope s.heap.objs.size f cdv)).guards = some [] → Zc cls d oe → (∃ vs, oe.data = .fields vs) →
      DSs (exOf a cls d) WF ((cxOf (L2.CX P w) P w K mg base N qual scope f cdv A fr s H E).suite a [(a, oe)]) body wb) : FnX P w K mg base (k + 1) f fd ps (fun c ks es μ Q => wb (defE Q fun _ _ _ _ => False) (startX N c ks es) μ) := by
  obtain ⟨oc, od, dV, kV, doc, pm, an, cdv, ct, osl, rfl, lk, hcd, _, _⟩ := F.ex
  refine ⟨h1, fun A fr s H args a oe cls d Q room gd hh pin hz hf env bd hsp => ?_⟩
  have kin : K.In s.heap := env.mod.kin.keeps fun b o e => (env.bs b o e).1
  have nolim : s.heap.NoLimit := env.mod.nolimit.keeps fun b o e => (env.bs b o e).1
  have rv : Vals [V.ref a] [Value.ref a] := .cons rfl .nil
  have kinds : ∀ y ∈ ps.zip [Value.ref a], scope.names.lookup y.1 = some .local ∨ (scope.names.lookup y.1 = some .cell ∧ ((cellsFrom (s.heap.objs.size + 1) scope.names []).lookup y.1).isSome = true) := by
    rintro ⟨n, v⟩ hy
    exact (S.par n (List.of_mem_zip hy).1).elim .inl fun q => .inr ⟨q, PySem.W.cellsFrom_some _ _ _ (.inl q)⟩
  refine codeAny_call_function room.depth (kin _ _ lk) rfl S.co S.gen rfl (PySem.W.codeRec_of kin hcd) (bd _ _ _ _ ?_)
  refine wpAny_newFunctionEnv_cells S.kind kinds fun env1 he1 s1 made => ?_
  subst he1
  refine ⟨nolim.keeps made.toInCall.keep, codeAny_func ?_⟩
  have I0 := L2H.inv_startH (CX := L2.CX P w) (E := fun _ _ _ => False) S pin env (show [V.ref a].length = ps.length by rw [h1]; rfl) rv made
  have B := hbody cdv A fr s H (fun _ _ _ => False) a oe cls d (room.deeper _) gd hz hf
  have eA := mark_eq hh (envOfC qual scope s.heap.objs.size f cdv)
  have I : Inv ((cxOf (L2.CX P w) P w K mg base N qual scope f cdv A fr s H (fun _ _ _ => False)).suite a [(a, oe)]) [] (L2.start N [V.ref a]) H s1 := by
    have ok := I0.ok
    exact ⟨⟨ok.mod, ok.kind, ok.glob, ok.blt, ok.above, ok.inj, ok.has, ok.cab, (fun z => absurd (show false = true from z) Bool.false_ne_true), ok.frames, ok.stk, ok.exf, ok.bs, ok.bsz, ok.noex, ok.exfs, ok.funs, ok.frf⟩,
      I0.os, I0.bare, I0.base, I0.loc, I0.cell, I0.free, I0.freeC, I0.pin, I0.hok, I0.len⟩
  obtain ⟨Z, m, μ, c, ks, es, C, dd, vs, Qd, M, hx, hC, hdd, hl, rs, q, kq⟩ := hsp
  have hlen : (L2.start N [V.ref a]).length = N.length := I.len
  have hN0 : 0 < N.length := by
    have hpl : ps.length ≤ N.length := by have := congrArg List.length S.pre; rw [List.length_take] at this; omega
    omega
  have S0 : SR ⟨K, mg, some (a, C, dd)⟩ Z m (L2.start N [V.ref a]) H (List.replicate (L2.start N [V.ref a]).length Sl.no) μ := SR.blank M.ex
  obtain ⟨S1, s1'⟩ := S0.setX (i := 0) (x := .exn c ks es) (o := some (.ref a)) (fun _ _ z => nomatch z) (fun _ z => nomatch z) (fun c2 ks2 ds2 e => by
    cases e
    rw [repl_own]
    exact ⟨a, C, dd, vs, rfl, hC, rfl, hdd, hl, Reps.ex _ _ rs⟩)
  have eσ : (L2.start N [V.ref a]).set 0 (some (.ref a)) = L2.start N [V.ref a] := by
    unfold L2.start
    rfl
  rw [eσ] at S1 s1'
  rw [hlen] at S1 s1'
  have hq : liftS ⟨K, mg, exOf a cls d⟩ WF wb { nx := fun _ H' => Q .non H', rt := Q } (L2.start N [V.ref a]) H := by
    rw [hx]
    refine ⟨Z, m, startX N c ks es, μ, defE Qd fun _ _ _ _ => False, S1, q, fun σ' H' P => ?_, fun v H' P => ?_, fun σ' H' P => ?_, fun σ' H' P => ?_, fun cls d σ' H' P => ?_⟩
    · obtain ⟨m', ρ', μ', S', s', q'⟩ := P
      have z := s1'.same.trans s'.same
      rw [repl_own] at z
      exact kq _ _ ⟨m', .non, μ', ⟨s'.pre, s'.hid, S'.mu.out_own.ex, z.trans vis_own⟩, by rw [Rep], q'⟩
    · obtain ⟨m', d, μ', h1, h2, h3, h4, h5, h6⟩ := P
      have z := s1'.same.trans h4
      rw [repl_own] at z
      exact kq _ _ ⟨m', d, μ', ⟨h1, h2, h3.ex, z⟩, Rep.ex _ _ h5, h6⟩
    · obtain ⟨m', ρ', μ', S', s', q'⟩ := P
      exact q'.elim
    · obtain ⟨m', ρ', μ', S', s', q'⟩ := P
      exact q'.elim
    · obtain ⟨_, _, _, _, _, _, _, _, _, _, _, _, _, _, _, _, _, z⟩ := P
      exact z.elim
  have R := B.run [] s1 (L2.start N [V.ref a]) H _ I hq
  refine wp_around eA (wpAny_mono R (fun fl s2 hs => ?_) fun er s2 hs => False.elim hs)
  match fl, hs with
  | .ret u, ⟨v, σ2, H2, J, rv2, q⟩ => exact ⟨v, H2, J.os, J.bare, J.base, J.hok, rv2, q⟩
  | .next, ⟨σ2, H2, J, q⟩ => exact ⟨V.non, H2, J.os, J.bare, J.base, J.hok, rfl, q⟩
  | .brk, ⟨_, _, _, q⟩ => exact q.elim
  | .cont, ⟨_, _, _, q⟩ => exact q.elim
structure HotD (P : Program) (w : World) (K : PySem.W.Frag) (mg : Str → Option Value) (base : Heap) (k : Nat) (x : Str) (ps : List Str) (sp : XSp) : Prop where
  ex : ∃ f fd, mg x = some (.ref f) ∧ PySem.W.keepIn K (.ref f) = true ∧ Binds K fd ps [] ∧ FnX P w K mg base k f fd ps sp
end
def wHotX (sp : XSp) (i : Nat) : WE := fun ρ μ Q _ => KExn (ρ[i]?) fun c ks es => sp c ks es μ Q
theorem room64H {k : Nat} {A : Around} (h : L2H.RoomH k A) : A.units + 64 < cLine := by have := h.un; omega
section
variable {X : Cx} {a : Addr} {oe : Obj} {cls : Value} {d : Option Addr} {pn : List (Addr × Obj)} {pos p1 p2 : Pos} {x y : Str} {i j k : Nat} {ps : List Str} {sp : XSp}
theorem de_hotX (C : HotD X.prog X.w X.K X.mg X.base k y ps sp) (hr : Room j X.A) (hkj : k ≤ j) (hgd : X.A.guards = some []) (hz : Zc cls d oe) (hf : ∃ vs, oe.data = .fields vs) (hg : Gl X y) (hN : X.N[i]? = some x)
    (hv : Vis X.env.scope x := by first | exact Or.inl rfl | exact Or.inr (Or.inl rfl) | exact Or.inr (Or.inr rfl)) (hd : (x == ("__debug__" : Str)) = false := by decide) (hcd : (x == ("__classdict__" : Str)) = false := by decide) (hdb : (y == ("__debug__" : Str)) = false := by decide)
    (he : starEach [Expr.Name x p2] X.env = (false, eval (.Name x p2) X.env) :: starEach [] X.env := by rfl) (hpl : (backTo pos (starEach [] X.env)).any (·.1) = false := by rfl) :
    DE (exOf a cls d) WF (X.suite a ((a, oe) :: pn)) (.Call (.Name y p1) [.Name x p2] [] pos) (wHotX sp i) := by
  obtain ⟨f, fd, hm, hk, hb, F⟩ := C.ex
  have A1 : PA (X.suite a ((a, oe) :: pn)) [.Name x p2] (tCons (tVar i) tNil) := pa_cons (pe_var (X := X.suite a ((a, oe) :: pn)) hN hv hd hcd) pa_nil
  refine ⟨fun pins s σ H Q' I q => ?_⟩
  obtain ⟨Z, m, ρ, μ, Q, Xd, S, q, kq, kx⟩ := q
  obtain ⟨c, ks, es, e, q⟩ := KExn_of q
  obtain ⟨a', C, dd, vs, h1, h2, h3, h4, h5, h6⟩ := S.exn i c ks es e
  obtain ⟨rfl, rfl, rfl⟩ := exOf_some h1
  have hsp : toSpX X.K X.mg a' (.ref C) (some dd) sp H Q' := ⟨ownW Z σ ρ, m, μ, c, ks, es, C, dd, vs, Q, S.mu.ex, rfl, h2, h4, h5, Reps.ex _ _ h6, q, fun v H' P => by
    obtain ⟨m', dv, μ', s', r', q'⟩ := P
    exact kq v H' ⟨m', dv, μ', ⟨s'.pre, s'.hid, s'.mu.ex, s'.same⟩, Rep.ex _ _ r', q'⟩⟩
  refine wpAny_Call_Name_kw (ld_glob (X := X.suite a' ((a', oe) :: pn)) I hg hm ?_ hdb)
  refine PySem.W.callWith_K (h₀ := X.base) I.ok.mod.kin hk (thn (A1.run pos pins s σ H (fun us H1 => us = [.ref a'] ∧ H1 = H) I ⟨_, h3, rfl, rfl⟩) fun us s1 ⟨us', H1, I1, rv, e1, e2⟩ => ⟨I1.kIn, ?_⟩) he hpl
  subst e1 e2
  obtain ⟨u, rfl, ru⟩ := rv.one
  cases ru
  have bd := hb s1 [.ref a'] I1.kIn (by rw [F.one]; rfl)
  rw [List.append_nil] at bd
  have P1 := I1.pin (a', oe) (List.mem_append_left _ List.mem_cons_self)
  have hpin : L2H.PinOk X.stack H1 s1 (a', oe) := ⟨P1.1, P1.2.1, fun hm => (List.mem_cons.mp (I1.stkSub a' hm)).elim P1.2.2.1 P1.2.2.2.1, P1.2.2.2.2⟩
  have R := F.run (X.A.mark (some (.ref a'))) X.stack s1 H1 ⟨[.ref a'], []⟩ a' oe (.ref C) (some dd) Q' (⟨by have := (hr.mono hkj).dp; exact this, by have := (hr.mono hkj).un; exact this⟩) hgd rfl hpin hz hf I1.env0 bd hsp
  refine wpAny_call (codeAny_mono R fun r s' hq => ?_)
  match r, hq with
  | .error er, hq =>
    obtain ⟨_, _, _, _, _, _, _, _, _, _, _, _, z⟩ := hq
    exact z.elim
  | .ok (.ret u), hq => exact I1.after hq
end
end DL

set_option Elab.async false
set_option linter.all false
set_option maxRecDepth 100000
set_option maxHeartbeats 4000000
set_option autoImplicit false
namespace DL
open PySem PySem.Spec PyProof.Rows L2
/-! ### xs.index(x), xs.count(x) of data; xs[::-1] -/
def rCountD (K : PySem.W.Frag) : V → List V → Hp → VK → Prop := fun x xs H Q => ∃ (a : Addr) (y : V) (d : PyData) (ds : List PyData), x = V.ref a ∧ xs = [y] ∧ Dp K H (V.ref a) (.list ds) ∧ Dp K H y d ∧
  SeqAt.shaped (.list ds) = true ∧ SeqAt.shaped d = true ∧ Q (.int ((ds.countP fun z => PyData.eqv z d : Nat))) H
theorem mt_countD {X : Cx} (hu : X.A.units + 65 < cLine) : MtR X "list.count" (rCountD X.K) := by
  intro pins s σ H x xs v us Q I rx rxs h
  obtain ⟨a, y, d, ds, rfl, rfl, hl, hy, sl, sd, q⟩ := h
  cases rx
  cases rxs with
  | cons ry rt =>
    rename_i uy ut
    cases rt
    obtain ⟨bs, r1⟩ := Dp.reads I d y uy hy ry
    have hxs : PyData.canLayAll0 ds = true := SeqAt.canLay_of_shaped sl
    have hroom : X.A.units + 1 + min (PyData.depthAll ds) d.depth < cLine := room_in_shaped sd hu
    cases hl with
    | lst hs ha =>
      obtain ⟨its, rv, ⟨⟨cls, dd, data, sls⟩, n, ho, hc, hdn, hdt⟩, hlen⟩ := I.list hs
      simp only at hc hdt
      subst hc hdt
      obtain ⟨as, h4⟩ := Dp.readsAll I ds _ its ha rv
      have hmap : its.map (SeqAt.readOf s.heap) = ds := SeqAt.readsAll_map ds its as hxs h4
      refine call_meets PySem.F.slot_list_count ⟨_, ho, rfl⟩ PySem.F.entry_list_count (PySem.F.args_list_count_2 _ _)
        (SeqAt.list_countAt a its.toArray n dd sls uy (fun u => PyData.eqv (SeqAt.readOf s.heap u) d)) ⟨ho, SeqAt.items_eqAt (vs := its.toArray) (show ReadsAll s.heap its.toArray.toList ds as from h4) r1 hxs (SeqAt.canLay_of_shaped sd) hroom, ?_⟩
      have ec : its.toArray.toList.countP (fun u => PyData.eqv (SeqAt.readOf s.heap u) d) = ds.countP fun z => PyData.eqv z d := by
        rw [← hmap, List.countP_map]
        rfl
      refine ⟨.int (ds.countP fun z => PyData.eqv z d : Nat), H, I.tok _, ⟨s.toks, ?_⟩, q⟩
      rw [ec]
def isL (x : D) (k : Prop) : Prop := match x with
  | .lst _ => k
  | .frl _ => k
  | _ => False
theorem isL_of {x : D} {k : Prop} (h : isL x k) : (∃ ds, x = .lst ds ∨ x = .frl ds) ∧ k := by
  unfold isL at h
  split at h
  · exact ⟨⟨_, .inl rfl⟩, h⟩
  · exact ⟨⟨_, .inr rfl⟩, h⟩
  · exact h.elim
def wMb (f : F2) (wo wa : WE) : WE := fun ρ μ Q Xd => wo ρ μ (fun x μ1 => isL x (wa ρ μ1 (fun y μ2 => f x y μ2 Q) Xd)) Xd
def fIdx : F2 := fun x y μ Q => ∃ p qs, toP y = some p ∧ toP x = some (.list qs) ∧ SeqAt.shaped p = true ∧ SeqAt.shaped (.list qs) = true ∧ ∃ (j : Nat) (z : PyData), qs[j]? = some z ∧ PyData.eqv z p = true ∧ (∀ (m : Nat) (z' : PyData), m < j → qs[m]? = some z' → PyData.eqv z' p = false) ∧ Q (.int (j : Nat)) μ
def fCnt : F2 := fun x y μ Q => ∃ p qs, toP y = some p ∧ toP x = some (.list qs) ∧ SeqAt.shaped p = true ∧ SeqAt.shaped (.list qs) = true ∧ Q (.int ((qs.countP fun z => PyData.eqv z p : Nat))) μ
theorem dp_ref {K : PySem.W.Frag} {H : Hp} {u : V} {qs : List PyData} (h : Dp K H u (.list qs)) : ∃ a, u = .ref a := by
  cases h with
  | lst s1 s2 => exact ⟨_, rfl⟩
theorem s2_idx {G : Gx} : S2 G (fun x y H Q => rIndexD G.K x [y] H Q) fIdx := by
  intro Z m μ H x y u v Q Q' M rx ry h k
  obtain ⟨p, qs, e1, e2, s1, s2, j, z, h1, h2, h3, h⟩ := h
  have d := dp_of vis_le _ _ _ rx e2
  obtain ⟨a, rfl⟩ := dp_ref d
  exact ⟨a, v, p, qs, j, z, rfl, rfl, d, dp_of vis_le _ _ _ ry e1, s2, s1, h1, h2, h3, k _ _ (.now M (by rw [Rep]) h)⟩
theorem s2_cnt {G : Gx} : S2 G (fun x y H Q => rCountD G.K x [y] H Q) fCnt := by
  intro Z m μ H x y u v Q Q' M rx ry h k
  obtain ⟨p, qs, e1, e2, s1, s2, h⟩ := h
  have d := dp_of vis_le _ _ _ rx e2
  obtain ⟨a, rfl⟩ := dp_ref d
  exact ⟨a, v, p, qs, rfl, rfl, d, dp_of vis_le _ _ _ ry e1, s2, s1, k _ _ (.now M (by rw [Rep]) h)⟩
section
variable {ex : Option (Addr × Addr × Addr)} {W : WX} {X : Cx} {e o : Expr} {wa wo : WE} {pos apos : Pos} {id : String} {name : Str} {r : V → List V → Hp → VK → Prop} {f : F2}
theorem de_mb (slot : Slot "list" name id) (hty : typeOf (.builtin id) = pure (.type "method_descriptor")) (hm : MtR X id r) (hf : S2 (gx X ex) (fun x y H Q => r x [y] H Q) f) (ho : DE ex W X o wo) (ha : DE ex W X e wa)
    (hbase : attributeBase o name X.env (eval o X.env) = eval o X.env := by rfl)
    (hfew : ((backTo pos (starEach [e] X.env)).all (fun x => !x.1) && (backToKw pos (keywordEach [] X.env)).all (fun x => x.1.isSome)
      && decide (([e] : List Expr).length + ([] : List Keyword).length + (if ([] : List Keyword).isEmpty then 0 else 1) < 30)) = true := by rfl)
    (hline : (apos.endLine == pos.line) = true := by rfl) (hs : starEach [e] X.env = (false, eval e X.env) :: starEach [] X.env := by rfl) (hplain : (backTo pos (starEach [] X.env)).any (·.1) = false := by rfl) :
    DE ex W X (.Call (.Attribute o name apos) [e] [] pos) (wMb f wo wa) :=
  pe_weak (pe_bm PySem.F.plainAttrs_list slot hty hm ho (pa_cons ha pa_nil hs) hbase hfew hline hs hplain) fun σ H Q' q => by
  refine lift_bind (f := fun x ρ μ1 Q Xd => isL x (wa ρ μ1 (fun y μ2 => f x y μ2 Q) Xd)) q fun Z m ρ μ Q Xd x v H1 S r1 q1 k kx => ?_
  obtain ⟨⟨ds, hd⟩, q2⟩ := isL_of q1
  obtain ⟨a, vs, rfl, sq, rs⟩ := lst_rep' hd r1
  refine ⟨.inl ⟨rfl, vs, SqL.same' vis_le sq⟩, Z, m, ρ, μ, _, Xd, S, q2, fun u H2 P => ?_, kx⟩
  obtain ⟨m2, y, μ2, s2, r2, q3⟩ := P
  exact hf _ m2 μ2 H2 x y (.ref a) u Q Q' s2.mu (Rep.mono s2.pre s2.same _ _ r1) r2 q3 fun z H' P => k z H' (VPost.from s2 P)
theorem de_idx (hu : X.A.units + 65 < cLine) (ho : DE ex W X o wo) (ha : DE ex W X e wa)
    (hbase : attributeBase o "index" X.env (eval o X.env) = eval o X.env := by rfl)
    (hfew : ((backTo pos (starEach [e] X.env)).all (fun x => !x.1) && (backToKw pos (keywordEach [] X.env)).all (fun x => x.1.isSome)
      && decide (([e] : List Expr).length + ([] : List Keyword).length + (if ([] : List Keyword).isEmpty then 0 else 1) < 30)) = true := by rfl)
    (hline : (apos.endLine == pos.line) = true := by rfl) (hs : starEach [e] X.env = (false, eval e X.env) :: starEach [] X.env := by rfl) (hplain : (backTo pos (starEach [] X.env)).any (·.1) = false := by rfl) :
    DE ex W X (.Call (.Attribute o "index" apos) [e] [] pos) (wMb fIdx wo wa) := de_mb PySem.F.slot_list_index PySem.F.type_list_index (mt_indexD hu) s2_idx ho ha hbase hfew hline hs hplain
theorem de_cnt (hu : X.A.units + 65 < cLine) (ho : DE ex W X o wo) (ha : DE ex W X e wa)
    (hbase : attributeBase o "count" X.env (eval o X.env) = eval o X.env := by rfl)
    (hfew : ((backTo pos (starEach [e] X.env)).all (fun x => !x.1) && (backToKw pos (keywordEach [] X.env)).all (fun x => x.1.isSome)
      && decide (([e] : List Expr).length + ([] : List Keyword).length + (if ([] : List Keyword).isEmpty then 0 else 1) < 30)) = true := by rfl)
    (hline : (apos.endLine == pos.line) = true := by rfl) (hs : starEach [e] X.env = (false, eval e X.env) :: starEach [] X.env := by rfl) (hplain : (backTo pos (starEach [] X.env)).any (·.1) = false := by rfl) :
    DE ex W X (.Call (.Attribute o "count" apos) [e] [] pos) (wMb fCnt wo wa) := de_mb PySem.F.slot_list_count PySem.F.type_list_count (mt_countD hu) s2_cnt ho ha hbase hfew hline hs hplain
/-! xs[::-1] -/
def fRev : F1 := fun x μ Q => lstOr x fun ds => Q (.lst ds.reverse) μ
theorem Reps.rev {G : Gx} {m : List Addr} {E : Hp} : ∀ {ds : List D} {vs : List V}, Reps G m E ds vs → Reps G m E ds.reverse vs.reverse
  | [], vs, r => by
    rw [Reps] at r
    subst r
    exact Reps.nil
  | d :: ds, vs, r => by
    obtain ⟨v, t, rfl, r1, r2⟩ := r.uncons
    rw [List.reverse_cons, List.reverse_cons]
    exact Reps.append (Reps.rev r2) (Reps.cons r1 Reps.nil)
theorem de_rev {k : Nat} {p1 p2 p3 : Pos} (ha : DE ex W X e wa) : DE ex W X (.Subscript e (.Slice none none (some (.UnaryOp .USub (.Constant (.int 1) k p1) p2)) p3) pos) (w1 fRev wa) := pe_weak (pe_revL ha) fun σ H Q' q => by
  refine lift_bind (f := fun x ρ μ1 Q Xd => lstOr x fun ds => Q (.lst ds.reverse) μ1) q fun Z m ρ μ Q Xd x v H1 S r1 q1 k kx => ?_
  obtain ⟨ds, p, vs, e, sq, rs, q4⟩ := lstOr_rep q1 r1
  refine ⟨p, vs, e, SqL.same' vis_le sq, fun np hnp => k _ _ ?_⟩
  have s4 := Step.laid (o := .lst vs.reverse) S.mu hnp
  refine ⟨m, _, μ, s4, ?_, q4⟩
  rw [Rep]
  refine ⟨np, _, rfl, ?_, Reps.rev (Reps.mono s4.pre s4.same _ _ rs)⟩
  rw [vis_upd S.mu hnp, upd_same]
end
end DL

set_option Elab.async false
set_option linter.all false
set_option maxRecDepth 100000
set_option maxHeartbeats 4000000
set_option autoImplicit false
namespace DL
open PySem PySem.Spec PyProof.Rows L2
/-! ### ==, != of lists whose items have an own `__eq__`, all alike -/
section
variable {prog : Program} {w : World} {A : Around} {R : Result → Shared → Prop}
/-- at each turn the lists are read anew -/
def LsI (prog : Program) (w : World) (A : Around) (E : Value → Shared → Prop) (l b : Addr) (N : Nat) (I : Nat → Shared → Prop) : Prop :=
  ∀ i s, I i s → ∃ (xs ys : Array Value) (n n2 : Nat) (d1 d2 : Option Addr) (c1 c2 : Array (Option Value)), s.heap.get? l = some { cls := .type "list", dict := d1, data := .seq xs n, slots := c1 } ∧ s.heap.get? b = some { cls := .type "list", dict := d2, data := .seq ys n2, slots := c2 } ∧
    xs.size = N ∧ ys.size = N ∧ ∀ (h1 : i < xs.size) (h2 : i < ys.size), wpAny (model prog w) A.in1 (eqBool xs[i] ys[i]) (fun r s' => r = true ∧ I (i + 1) s') E s
theorem leq_loop (l b : Addr) (N : Nat) (I : Nat → Shared → Prop) (hl : LsI prog w A (fun e s' => R (.error e) s') l b N I) (fin : ∀ s, I N s → R (.ok (.ret (.bool true))) s) (k : Nat) :
    ∀ i : Nat, N - i = k → i ≤ N → ∀ s, I i s → wpAny (model prog w) A.in1 (Builtin.«list.__eq__.loop» ⟨[.ref l, .ref b, rawInt i, rawInt 2], []⟩) (GQ.FinOf prog w A R) (fun e s' => R (.error e) s') s := by
  induction k with
  | zero =>
    intro i hk hi s h
    obtain ⟨xs, ys, n, n2, d1, d2, c1, c2, e1, e2, z1, z2, _⟩ := hl _ _ h
    have hN : i = N := by omega
    subst hN
    have last : R (.ok (.ret (.bool true))) s := fin s h
    obtain ⟨hp, g, d, tk, os⟩ := s
    wp_walk using AutoSeq1.wpAny_loadPart' e1, AutoSeq1.wpAny_loadPart' e2
    have q1 : xs[((i : Nat) : Int).toNat]? = none := by simp; omega
    have q2 : ys[((i : Nat) : Int).toNat]? = none := by simp; omega
    rw [q1, q2]
    wp_walk using AutoSeq1.wpAny_loadPart' e1, AutoSeq1.wpAny_loadPart' e2
    show R (.ok (.ret (.bool (xs.size == ys.size)))) _
    rw [z1, z2]
    simpa using last
  | succ k ih =>
    intro i hk hi s h
    obtain ⟨xs, ys, n, n2, d1, d2, c1, c2, e1, e2, z1, z2, turn⟩ := hl _ _ h
    have l1 : i < xs.size := by omega
    have l2 : i < ys.size := by omega
    have ht := turn l1 l2
    obtain ⟨hp, g, d, tk, os⟩ := s
    wp_walk using AutoSeq1.wpAny_loadPart' e1, AutoSeq1.wpAny_loadPart' e2
    have q1 : xs[((i : Nat) : Int).toNat]? = some xs[i] := by simp [l1]
    have q2 : ys[((i : Nat) : Int).toNat]? = some ys[i] := by simp [l2]
    have up : ((i : Int) + 1) = ((i + 1 : Nat) : Int) := by omega
    rw [q1, q2]
    refine wpAny_bind (wpAny_mono ht (fun r s2 t => ?_) fun _ _ x => x)
    obtain ⟨rfl, t⟩ := t
    have next := ih (i + 1) (by omega) (by omega) s2 t
    obtain ⟨hp2, g2, d2, tk2, os2⟩ := s2
    wp_walk
    rw [up]
    exact ⟨plainId_quiet MeetsSeq3.plain_eq_loop _, codeAny_builtin MeetsSeq3.entry_eq_loop (by
      rw [Around.under_plainId MeetsSeq3.plain_eq_loop _]
      exact next)⟩
theorem leq_rc {A : Around} {E : Value → Shared → Prop} {s : Shared} {l b : Addr} {N : Nat} {Q : Value → Shared → Prop} (hu : A.units < cLine) (I : Nat → Shared → Prop) (hl : LsI prog w A E l b N I) (fin : ∀ s, I N s → Q (.bool true) s) (h : I 0 s) :
    wpAny (model prog w) A (richCompare .Eq (.ref l) (.ref b)) Q E s := by
  obtain ⟨xs, ys, n, n2, d1, d2, c1, c2, e1, e2, z1, z2, _⟩ := hl _ _ h
  refine wpAny_richCompare_same_room (op := .Eq) ⟨_, e1, rfl⟩ ⟨_, e2, rfl⟩ PySem.F.slot_list_eq (GQ.call_here PySem.F.slot_list_eq ⟨_, e1, rfl⟩ PySem.F.entry_list_eq (PySem.F.args_list_eq_2 _ _) ?_) hu
  have next := leq_loop (A := A) (R := wants (fun v s' => v ≠ .notImplemented ∧ Q v s') E) l b N I hl (fun s' q => ⟨(fun x => nomatch x), fin s' q⟩) _ 0 rfl (Nat.zero_le _) s h
  obtain ⟨hp, g, d, tk, os⟩ := s
  have f3 := AutoSeq1.sub_list_list
  have hne : ¬ (xs.size != ys.size) = true := by simp [z1, z2]
  wp_walk using AutoSeq1.wpAny_loadPart' e1, AutoSeq1.wpAny_loadPart' e2
  exact ⟨plainId_quiet MeetsSeq3.plain_eq_loop _, codeAny_builtin MeetsSeq3.entry_eq_loop (by
    rw [Around.under_plainId MeetsSeq3.plain_eq_loop _]
    exact next)⟩
theorem lne_loop (l b : Addr) (N : Nat) (I : Nat → Shared → Prop) (hl : LsI prog w A (fun e s' => R (.error e) s') l b N I) (fin : ∀ s, I N s → R (.ok (.ret (.bool false))) s) (k : Nat) :
    ∀ i : Nat, N - i = k → i ≤ N → ∀ s, I i s → wpAny (model prog w) A.in1 (Builtin.«list.__eq__.loop» ⟨[.ref l, .ref b, rawInt i, rawInt 3], []⟩) (GQ.FinOf prog w A R) (fun e s' => R (.error e) s') s := by
  induction k with
  | zero =>
    intro i hk hi s h
    obtain ⟨xs, ys, n, n2, d1, d2, c1, c2, e1, e2, z1, z2, _⟩ := hl _ _ h
    have hN : i = N := by omega
    subst hN
    have last : R (.ok (.ret (.bool false))) s := fin s h
    obtain ⟨hp, g, d, tk, os⟩ := s
    wp_walk using AutoSeq1.wpAny_loadPart' e1, AutoSeq1.wpAny_loadPart' e2
    have q1 : xs[((i : Nat) : Int).toNat]? = none := by simp; omega
    have q2 : ys[((i : Nat) : Int).toNat]? = none := by simp; omega
    rw [q1, q2]
    wp_walk using AutoSeq1.wpAny_loadPart' e1, AutoSeq1.wpAny_loadPart' e2
    show R (.ok (.ret (.bool (xs.size != ys.size)))) _
    rw [z1, z2]
    simpa using last
  | succ k ih =>
    intro i hk hi s h
    obtain ⟨xs, ys, n, n2, d1, d2, c1, c2, e1, e2, z1, z2, turn⟩ := hl _ _ h
    have l1 : i < xs.size := by omega
    have l2 : i < ys.size := by omega
    have ht := turn l1 l2
    obtain ⟨hp, g, d, tk, os⟩ := s
    wp_walk using AutoSeq1.wpAny_loadPart' e1, AutoSeq1.wpAny_loadPart' e2
    have q1 : xs[((i : Nat) : Int).toNat]? = some xs[i] := by simp [l1]
    have q2 : ys[((i : Nat) : Int).toNat]? = some ys[i] := by simp [l2]
    have up : ((i : Int) + 1) = ((i + 1 : Nat) : Int) := by omega
    rw [q1, q2]
    refine wpAny_bind (wpAny_mono ht (fun r s2 t => ?_) fun _ _ x => x)
    obtain ⟨rfl, t⟩ := t
    have next := ih (i + 1) (by omega) (by omega) s2 t
    obtain ⟨hp2, g2, d2, tk2, os2⟩ := s2
    wp_walk
    rw [up]
    exact ⟨plainId_quiet MeetsSeq3.plain_eq_loop _, codeAny_builtin MeetsSeq3.entry_eq_loop (by
      rw [Around.under_plainId MeetsSeq3.plain_eq_loop _]
      exact next)⟩
theorem lne_rc {A : Around} {E : Value → Shared → Prop} {s : Shared} {l b : Addr} {N : Nat} {Q : Value → Shared → Prop} (hu : A.units < cLine) (I : Nat → Shared → Prop) (hl : LsI prog w A E l b N I) (fin : ∀ s, I N s → Q (.bool false) s) (h : I 0 s) :
    wpAny (model prog w) A (richCompare .NotEq (.ref l) (.ref b)) Q E s := by
  obtain ⟨xs, ys, n, n2, d1, d2, c1, c2, e1, e2, z1, z2, _⟩ := hl _ _ h
  refine wpAny_richCompare_same_room (op := .NotEq) ⟨_, e1, rfl⟩ ⟨_, e2, rfl⟩ PySem.F.slot_list_ne (GQ.call_here PySem.F.slot_list_ne ⟨_, e1, rfl⟩ PySem.F.entry_list_ne (PySem.F.args_list_ne_2 _ _) ?_) hu
  have next := lne_loop (A := A) (R := wants (fun v s' => v ≠ .notImplemented ∧ Q v s') E) l b N I hl (fun s' q => ⟨(fun x => nomatch x), fin s' q⟩) _ 0 rfl (Nat.zero_le _) s h
  obtain ⟨hp, g, d, tk, os⟩ := s
  have f3 := AutoSeq1.sub_list_list
  have hne : ¬ (xs.size != ys.size) = true := by simp [z1, z2]
  wp_walk using AutoSeq1.wpAny_loadPart' e1, AutoSeq1.wpAny_loadPart' e2
  exact ⟨plainId_quiet MeetsSeq3.plain_eq_loop _, codeAny_builtin MeetsSeq3.entry_eq_loop (by
    rw [Around.under_plainId MeetsSeq3.plain_eq_loop _]
    exact next)⟩
end
def prsO (c : Str) (sp : DSp) (μ : Mu) (ds es : List D) : Prop := ds.length = es.length ∧ ∀ (i : Nat) d e, ds[i]? = some d → es[i]? = some e → isCls c d μ (isCls c e μ (sp [d, e] μ (fun r μ' => r = .bl true ∧ μ' = μ) xF))
def fEqO (r : Bool) (c : Str) (sp : DSp) : F2 := fun x y μ Q => lstOr x fun ds => lstOr y fun es => prsO c sp μ ds es ∧ Q (.bl r) μ
def rEqO (r : Bool) (G : Gx) (c : Str) (sp : DSp) : R2 := fun x y H Q => ∃ a b vs us Z m μ ds es, x = .ref a ∧ y = .ref b ∧ MuOk G Z m μ H ∧ SqL G.K (vis Z m H) a vs ∧ SqL G.K (vis Z m H) b us ∧ Reps G m (vis Z m H) ds vs ∧ Reps G m (vis Z m H) es us ∧ prsO c sp μ ds es ∧
  ∀ m' H', Step G Z m H m' μ H' → Q (.bl r) H'
theorem s2_eqO {r : Bool} {G : Gx} {c : Str} {sp : DSp} : S2 G (rEqO r G c sp) (fEqO r c sp) := by
  intro Z m μ H x y u v Q Q' M rx ry h kk
  obtain ⟨ds, a, vs, rfl, s1, r1, h⟩ := lstOr_rep h rx
  obtain ⟨es, b, us, rfl, s2, r2, p, q⟩ := lstOr_rep h ry
  exact ⟨a, b, vs, us, Z, m, μ, ds, es, rfl, rfl, M, s1, s2, r1, r2, p, fun m' H' st => kk _ _ ⟨m', _, μ, st, by rw [Rep], q⟩⟩
section
variable {X : Cx} {k j : Nat} {ps : List Str} {c : Str} {Ts : List String} {Cs : List Str} {sp : DSp} {r : Bool}
theorem lsI_own (DD : CmpD X.prog X.w X.K X.mg X.base k c "__eq__" Ts Cs ps sp) (hr : Room j X.A) (hkj : k + 1 ≤ j) (hgd : X.A.guards = some []) {pins : List (Addr × Obj)} {σ : L2.St} {H : Hp} {a b : Addr} {vs us : List V} {Z : Addr → Prop} {m : List Addr} {μ : Mu} {ds es : List D}
    (s1 : SqL X.K (vis Z m H) a vs) (s2 : SqL X.K (vis Z m H) b us) (r1 : Reps (gx X none) m (vis Z m H) ds vs) (r2 : Reps (gx X none) m (vis Z m H) es us) (p : prsO c sp μ ds es) :
    LsI X.prog X.w X.A X.xe a b ds.length fun _ s' => ∃ m' H', Inv X pins σ H' s' ∧ Step (gx X none) Z m H m' μ H' := by
  intro i s ⟨m', H', I, st⟩
  obtain ⟨C, f, fd, g1, g2, g3, g4, g5, F⟩ := DD.ex
  obtain ⟨its, rv, ⟨⟨cls, dd, data, sls⟩, n, ho, hc, hdn, hdt⟩, hlen⟩ := I.list (SqL.same' vis_le (SqL.same' st.same s1))
  obtain ⟨its2, rv2, ⟨⟨cls2, dd2, data2, sls2⟩, n2, ho2, hc2, hdn2, hdt2⟩, hlen2⟩ := I.list (SqL.same' vis_le (SqL.same' st.same s2))
  simp only at hc hdt hc2 hdt2
  subst hc hdt hc2 hdt2
  refine ⟨its.toArray, its2.toArray, _, _, _, _, _, _, ho, ho2, by rw [List.size_toArray, ← rv.length, r1.len], by rw [List.size_toArray, ← rv2.length, ← r2.len]; exact p.1.symm, fun h1 h2 => ?_⟩
  have h1' : i < its.length := by simpa using h1
  have h2' : i < its2.length := by simpa using h2
  have k1 : i < vs.length := by rw [rv.length]; exact h1'
  have k2 : i < us.length := by rw [rv2.length]; exact h2'
  obtain ⟨x, hx, rx⟩ := rv.get (List.getElem?_eq_getElem k1)
  obtain ⟨y, hy, ry⟩ := rv2.get (List.getElem?_eq_getElem k2)
  have ex : its.toArray[i] = x := by
    rw [List.getElem?_eq_getElem h1'] at hx
    simpa using hx
  have ey : its2.toArray[i] = y := by
    rw [List.getElem?_eq_getElem h2'] at hy
    simpa using hy
  rw [ex, ey]
  obtain ⟨d, hd, rd⟩ := r1.get' (List.getElem?_eq_getElem k1)
  obtain ⟨e, he, re⟩ := r2.get' (List.getElem?_eq_getElem k2)
  obtain ⟨ks, fs, i1, q⟩ := isCls_of (p.2 i d e hd he)
  obtain ⟨ks2, fs2, i2, q⟩ := isCls_of q
  have rd' := Rep.mono st.pre st.same _ _ rd
  have re' := Rep.mono st.pre st.same _ _ re
  obtain ⟨u, C1, dx, ws, e1, gC, hu, l1, _⟩ := ins_rep st.mu rd' i1
  obtain ⟨v, C2, dx2, ws2, e2, gC2, hv, l2, _⟩ := ins_rep st.mu re' i2
  have gC' : X.mg c = some (.ref C1) := gC
  rw [g1] at gC'
  cases gC'
  have gC2' : X.mg c = some (.ref C2) := gC2
  rw [g1] at gC2'
  cases gC2'
  rw [e1] at rx rd'
  rw [e2] at ry re'
  cases rx
  cases ry
  by_cases huv : u = v
  · subst huv
    exact SeqAt.EqAt.same (A := X.A.in1) (s := s) (.ref u) X.prog X.w X.xe _ ⟨rfl, m', H', I, st⟩
  obtain ⟨mA, J, _⟩ := ins_get I.hok hu
  obtain ⟨mB, J', _⟩ := ins_get I.hok hv
  obtain ⟨od, J, _⟩ := J.look
  obtain ⟨od', J', _⟩ := J'.look
  obtain ⟨m0, hF⟩ := I.fr
  have hr2 := hr.mono hkj
  have tsp : ∀ E, toSp (gx X none) sp [.ref u, .ref v] H' (fun z H2 => z = .bl true ∧ ∃ m2, Step (gx X none) Z m H m2 μ H2) E := fun E =>
    ⟨Z, m', μ, [d, e], _, xF, st.mu, Reps.cons rd' (Reps.cons re' Reps.nil), q, fun z H2 P => by
      obtain ⟨m2, dz, μ2, s3, r3, rfl, rfl⟩ := P
      rw [Rep] at r3
      exact ⟨r3, m2, st.trans s3⟩, fun cls d H' P => (xpF P).elim⟩
  have hl : [Value.ref u, Value.ref v].length = ps.length := F.len _ _ _ _ (tsp fun _ _ _ => False)
  have bd := g5 s [.ref u, .ref v] I.kIn (by simpa using hl)
  rw [List.append_nil] at bd
  refine GQ.eqBool_refG huv (wpAny_mono (Q := fun r s' => r = .bool true ∧ ∃ m2 H2, Inv X pins σ H2 s' ∧ Step (gx X none) Z m H m2 μ H2) (PySem.W.cmp_K (op := .Eq) (tb := .ref C) (by have := hr2.in1.un; omega) hF I.ok.mod.kin J J'.type (by simp [PySem.W.notFirst]) g2.at_ g2.fn
    (wpAny_call (codeAny_mono (F.run X.A.in1 X.stack s H' ⟨[.ref u, .ref v], []⟩ [.ref u, .ref v] [.ref u, .ref v] _ (fun _ _ _ => False) hr2.in1 hgd I.env0.in1 bd (.cons rfl (.cons rfl .nil)) (tsp _)) fun res s2 out => ?_))) (fun r s' z => ?_) fun _ _ x => x)
  · match res, out with
    | .error er, out =>
      obtain ⟨_, _, _, _, _, _, _, _, _, _, _, _, z⟩ := out
      exact z.elim
    | .ok (.ret w2), out =>
      obtain ⟨v2, H2, I3, rv3, rfl, m2, s3⟩ := I.after out
      obtain rfl : w2 = Value.bool true := rv3
      exact ⟨rfl, m2, H2, I3, s3⟩
  · obtain ⟨rfl, m2, H2, I3, s3⟩ := z
    exact ⟨true, rfl, rfl, m2, H2, I3, s3⟩
theorem op_leqO (DD : CmpD X.prog X.w X.K X.mg X.base k c "__eq__" Ts Cs ps sp) (hr : Room j X.A) (hkj : k + 1 ≤ j) (hgd : X.A.guards = some []) : OpR X (compareOp .Eq) (rEqO true (gx X none) c sp) := by
  intro pins s σ H x y v u Q I rx ry h
  obtain ⟨a, b, vs, us, Z, m, μ, ds, es, rfl, rfl, M, s1, s2, r1, r2, p, q⟩ := h
  cases rx
  cases ry
  show wpAny (model X.prog X.w) X.A (richCompare .Eq (.ref a) (.ref b)) (EP X pins σ Q) X.xe s
  exact leq_rc (by have := hr.un; omega) _ (lsI_own DD hr hkj hgd (pins := pins) (σ := σ) s1 s2 r1 r2 p) (fun s' z => by
    obtain ⟨m', H', I', st⟩ := z
    exact ⟨.bl true, H', I', rfl, q m' H' st⟩) ⟨m, H, I, .refl M⟩
theorem de_leqO {a b : Expr} {wa wb : WE} {W : WX} {pos : Pos} (DD : CmpD X.prog X.w X.K X.mg X.base k c "__eq__" Ts Cs ps sp) (hr : Room j X.A) (hkj : k + 1 ≤ j) (hgd : X.A.guards = some []) (ha : DE none W X a wa) (hb : DE none W X b wb) :
    DE none W X (.Compare a [.Eq] [b] pos) (w2 (fEqO true c sp) wa wb) := de_cmp (op_leqO DD hr hkj hgd) s2_eqO ha hb (nomark _)
theorem op_lneO (DD : CmpD X.prog X.w X.K X.mg X.base k c "__eq__" Ts Cs ps sp) (hr : Room j X.A) (hkj : k + 1 ≤ j) (hgd : X.A.guards = some []) : OpR X (compareOp .NotEq) (rEqO false (gx X none) c sp) := by
  intro pins s σ H x y v u Q I rx ry h
  obtain ⟨a, b, vs, us, Z, m, μ, ds, es, rfl, rfl, M, s1, s2, r1, r2, p, q⟩ := h
  cases rx
  cases ry
  show wpAny (model X.prog X.w) X.A (richCompare .NotEq (.ref a) (.ref b)) (EP X pins σ Q) X.xe s
  exact lne_rc (by have := hr.un; omega) _ (lsI_own DD hr hkj hgd (pins := pins) (σ := σ) s1 s2 r1 r2 p) (fun s' z => by
    obtain ⟨m', H', I', st⟩ := z
    exact ⟨.bl false, H', I', rfl, q m' H' st⟩) ⟨m, H, I, .refl M⟩
theorem de_lneO {a b : Expr} {wa wb : WE} {W : WX} {pos : Pos} (DD : CmpD X.prog X.w X.K X.mg X.base k c "__eq__" Ts Cs ps sp) (hr : Room j X.A) (hkj : k + 1 ≤ j) (hgd : X.A.guards = some []) (ha : DE none W X a wa) (hb : DE none W X b wb) :
    DE none W X (.Compare a [.NotEq] [b] pos) (w2 (fEqO false c sp) wa wb) := de_cmp (op_lneO DD hr hkj hgd) s2_eqO ha hb (nomark _)
end
end DL

set_option Elab.async false
set_option linter.all false
set_option maxRecDepth 100000
set_option maxHeartbeats 4000000
set_option autoImplicit false
namespace DL
open PySem PySem.Spec PyProof.Rows L2
/-! ### o.m(..) where o is of one of two classes, each with its own m -/
def wMethU (c1 c2 m : Str) (sp1 sp2 : DSp) (wo : WE) (wa : WA) : WE := fun ρ μ Q Xd => wo ρ μ (fun x μ1 => hasCls c1 m x μ1 (wa ρ μ1 (fun ds μ2 => sp1 (x :: ds) μ2 Q Xd) Xd) ∨ hasCls c2 m x μ1 (wa ρ μ1 (fun ds μ2 => sp2 (x :: ds) μ2 Q Xd) Xd)) Xd
section
variable {W : WX} {X : Cx} {e o : Expr} {es : List Expr} {wo : WE} {ws : WA} {pos p apos : Pos} {k1 k2 j : Nat} {ps1 ps2 : List Str} {c1 c2 m : Str} {sp1 sp2 : DSp}
/-- what is left of the call when the object is known -/
def TlM (G : Gx) (W : WX) (C : Addr) (m : Str) (sp : DSp) (ws : WA) (σ : L2.St) (Q : VK) (x : V) (H1 : Hp) : Prop := ∃ a dx fs, x = .ref a ∧ H1 a = some (.ins C dx fs) ∧ fs.lookup m = none ∧ liftA G W ws σ H1 fun vs H2 => toSp G sp (.ref a :: vs) H2 Q (L2.WE W σ)
theorem tlm_of {G : Gx} {C : Addr} {c m : Str} {sp : DSp} (hmC : G.mg c = some (.ref C)) {Z : Addr → Prop} {m0 m1 : List Addr} {ρ : DS} {μ1 : Mu} {Q : D → Mu → Prop} {Xd : XD} {σ : L2.St} {H H1 : Hp} {Q' : VK} {x : D} {v : V} (S1 : SR G Z m1 σ H1 ρ μ1) (s1 : Step G (ownW Z σ ρ) m0 H m1 μ1 H1)
    (r1 : Rep G m1 (vis (ownW Z σ ρ) m1 H1) x v) (k : ∀ v H', VPost G (ownW Z σ ρ) m0 H Q v H' → Q' v H') (kx : ∀ cls d H', XPost G (ownW Z σ ρ) m0 H Xd cls d H' → W cls d σ H')
    (h : hasCls c m x μ1 (ws ρ μ1 (fun ds μ2 => sp (x :: ds) μ2 Q Xd) Xd)) : TlM G W C m sp ws σ Q' v H1 := by
  obtain ⟨ks, ds, hi, hks, q2⟩ := hasCls_of h
  obtain ⟨a, C', dx, vs, rfl, g, ha, l, rs⟩ := ins_rep S1.mu r1 hi
  rw [hmC] at g
  cases g
  refine ⟨a, dx, _, rfl, ha, lookup_zip_none hks, Z, m1, ρ, μ1, _, Xd, S1, q2, fun us H2 P => ?_, fun cls d H' P => kx cls d H' (XPost.from s1 P)⟩
  obtain ⟨m2, es, μ2, s2, r2, q3⟩ := P
  exact ⟨_, m2, μ2, x :: es, Q, Xd, s2.mu, Reps.cons (Rep.mono s2.pre s2.same _ _ r1) r2, q3, fun v H' P => k v H' (VPost.from (s1.trans s2) P), fun cls d H' P => kx cls d H' (XPost.from (s1.trans s2) P)⟩
theorem de_methU {pl : Sem Bool} (D1 : MethD X.prog X.w X.K X.mg X.base k1 c1 m ps1 sp1) (D2 : MethD X.prog X.w X.K X.mg X.base k2 c2 m ps2 sp2) (hr : Room j X.A) (h1 : k1 ≤ j) (h2 : k2 ≤ j) (hgd : X.A.guards = some []) (tk : Takes X W) (he : DE none W X o wo) (ha : DA none W X (e :: es) ws)
    (hst : starEach (e :: es) X.env = (false, eval e X.env) :: starEach es X.env := by rfl) (hpl : (backTo pos (starEach es X.env)).any (·.1) = false := by rfl)
    (ht : eval (.Call (.Attribute o m apos) (e :: es) [] pos) X.env = (do
      let ov ← eval o X.env
      standAt apos.atName
      let (f, first) ← holding [ov] (getMethod ov m pl)
      callWith pos f first (backTo pos (starEach (e :: es) X.env)) (backToKw pos (keywordEach [] X.env))) := by rfl) : DE none W X (.Call (.Attribute o m apos) (e :: es) [] pos) (wMethU c1 c2 m sp1 sp2 wo ws) := by
  obtain ⟨C1, f1, fd1, a1, a2, a3, a4, F1⟩ := D1.ex
  obtain ⟨C2, f2, fd2, b1, b2, b3, b4, F2⟩ := D2.ex
  refine ⟨fun pins s σ H Q' I q => ?_⟩
  have hw : lift (gx X none) W wo σ H fun v H1 => TlM (gx X none) W C1 m sp1 ws σ Q' v H1 ∨ TlM (gx X none) W C2 m sp2 ws σ Q' v H1 := by
    obtain ⟨Z, m0, ρ, μ, Q, Xd, S, q, k, kx⟩ := q
    refine ⟨Z, m0, ρ, μ, _, Xd, S, q, fun v H1 P => ?_, kx⟩
    obtain ⟨m1, x, μ1, s1, r1, q1⟩ := P
    rcases q1 with q1 | q1
    · exact .inl (tlm_of a1 (S.step s1) s1 r1 k kx q1)
    · exact .inr (tlm_of b1 (S.step s1) s1 r1 k kx q1)
  refine PySem.W.methodCall_KW (pl := pl) (thn (he.run pins s σ H _ I hw) fun u s1 hx => ?_) ht
  obtain ⟨x, H1, I1, rx, cs⟩ := hx
  rcases cs with ⟨a, dx, fs, ex, ea, l, q⟩ | ⟨a, dx, fs, ex, ea, l, q⟩
  · subst ex
    obtain rfl : u = Value.ref a := rx
    refine getmeth_ok I1 ea a2 a3 l ?_
    refine PySem.W.callWith_K (first := [.ref a]) (h₀ := X.base) I.ok.mod.kin a3.kp (thn (ha.run pos pins s1 σ H1 _ I1 q) fun us s2 hx => ?_) hst hpl
    obtain ⟨vs, H2, I2, r, q2⟩ := hx
    exact ⟨I2.kIn, run_fnG (us := .ref a :: us) (vs := .ref a :: vs) F1 (hr.mono h1) hgd a4 tk I2 (.cons rfl r) q2⟩
  · subst ex
    obtain rfl : u = Value.ref a := rx
    refine getmeth_ok I1 ea b2 b3 l ?_
    refine PySem.W.callWith_K (first := [.ref a]) (h₀ := X.base) I.ok.mod.kin b3.kp (thn (ha.run pos pins s1 σ H1 _ I1 q) fun us s2 hx => ?_) hst hpl
    obtain ⟨vs, H2, I2, r, q2⟩ := hx
    exact ⟨I2.kIn, run_fnG (us := .ref a :: us) (vs := .ref a :: vs) F2 (hr.mono h2) hgd b4 tk I2 (.cons rfl r) q2⟩
end
end DL

set_option Elab.async false
set_option linter.all false
set_option maxRecDepth 100000
set_option maxHeartbeats 4000000
set_option autoImplicit false
namespace DL
open PySem PySem.Spec PyProof.Rows L2
/-! ### own special methods, of one class or of several with one def: o[i], ~o, o(x), len(o) -/
structure SpcD (P : Program) (w : World) (K : PySem.W.Frag) (mg : Str → Option Value) (base : Heap) (k : Nat) (cs : List Str) (nm : Str) (ps : List Str) (sp : DSp) : Prop where
  ex : ∃ f fd, PySem.W.isFn K (.ref f) = true ∧ PySem.W.fnIn K f = true ∧ (∀ c ∈ cs, ∃ C, mg c = some (.ref C) ∧ PySem.W.findIn K (.ref C) nm = some (some (.ref f)) ∧ PySem.W.noSeq K C = true) ∧ Binds K fd ps [] ∧ FnG P w K mg base k f fd ps (toSp ⟨K, mg, none⟩ sp)
def isClsU (cs : List Str) (d : D) (μ : Mu) (Q : Prop) : Prop := match insD d μ with
  | some (c', _, _) => c' ∈ cs ∧ Q
  | none => False
theorem isClsU_of {cs : List Str} {d : D} {μ : Mu} {Q : Prop} (h : isClsU cs d μ Q) : ∃ c ks ds, insD d μ = some (c, ks, ds) ∧ c ∈ cs ∧ Q := by
  unfold isClsU at h
  split at h
  · rename_i e
    obtain ⟨h1, h2⟩ := h
    exact ⟨_, _, _, e, h1, h2⟩
  · exact h.elim
section
variable {W : WX} {X : Cx} {k : Nat} {f : Addr} {fd : FuncData} {ps : List Str} {sp0 : Sp}
theorem run_fnG1 {pins : List (Addr × Obj)} {σ : L2.St} {H : Hp} {s : Shared} {Q : VK} {us : List Value} {vs : List V} (F : FnG X.prog X.w X.K X.mg X.base k f fd ps sp0) (hr : Room (k + 1) X.A) (hgd : X.A.guards = some []) (hb : Binds X.K fd ps []) (tk : Takes X W)
    (I : Inv X pins σ H s) (rv : Vals vs us) (h : sp0 vs H Q (L2.WE W σ)) : wpAny (model X.prog X.w) X.A.in1 (call (.ref f) us) (EP X pins σ Q) X.xe s := by
  have e0 : us.length = ps.length := rv.length.symm.trans (F.len _ _ _ _ h)
  have bd : BindsTo s fd ⟨us, []⟩ (ps.zip us) := by simpa using hb s us I.kIn (by simpa using e0)
  refine wpAny_call (codeAny_mono (F.run X.A.in1 X.stack s H ⟨us, []⟩ us vs Q _ hr.in1 hgd I.env0.in1 bd rv h) fun res s2 hres => ?_)
  match res, hres with
  | .error er, hres => exact passAt tk σ pins H s er s2 I hres
  | .ok (.ret u), hres => exact I.after hres
end
section
variable {W : WX} {X : Cx} {k : Nat} {f : Addr} {fd : FuncData} {ps : List Str} {sp0 : Sp}
theorem run_fnGc {pins : List (Addr × Obj)} {σ : L2.St} {H : Hp} {s : Shared} {Q : VK} {us : List Value} {vs : List V} (F : FnG X.prog X.w X.K X.mg X.base k f fd ps sp0) (hr : Room k X.A) (hgd : X.A.guards = some []) (hb : Binds X.K fd ps []) (tk : Takes X W)
    (I : Inv X pins σ H s) (rv : Vals vs us) (h : sp0 vs H Q (L2.WE W σ)) : codeAny (model X.prog X.w) X.A (.call (.ref f) ⟨us, []⟩) (fun r s' => match r with
      | .ok (.ret v) => EP X pins σ Q v s'
      | .ok _ => False
      | .error e => X.xe e s') s := by
  have e0 : us.length = ps.length := rv.length.symm.trans (F.len _ _ _ _ h)
  have bd : BindsTo s fd ⟨us, []⟩ (ps.zip us) := by simpa using hb s us I.kIn (by simpa using e0)
  refine codeAny_mono (F.run X.A X.stack s H ⟨us, []⟩ us vs Q _ hr hgd I.env0 bd rv h) fun res s2 hres => ?_
  match res, hres with
  | .error er, hres => exact passAt tk σ pins H s er s2 I hres
  | .ok (.ret u), hres => exact I.after hres
end
section
variable {W : WX} {X : Cx} {a b : Expr} {wa wb : WE} {ws : WA} {pos p apos : Pos} {k j : Nat} {ps cs : List Str} {nm : Str} {sp : DSp}
/-- an instance of one of the classes -/
def InU (K : PySem.W.Frag) (mg : Str → Option Value) (f : Addr) (nm : Str) (H : Hp) (q : Addr) : Prop := ∃ C dx fs, H q = some (.ins C dx fs) ∧ PySem.W.findIn K (.ref C) nm = some (some (.ref f)) ∧ PySem.W.noSeq K C = true
theorem inU_of {K : PySem.W.Frag} {mg : Str → Option Value} {G : Gx} (hG : G.mg = mg) {f : Addr} (hc : ∀ c ∈ cs, ∃ C, mg c = some (.ref C) ∧ PySem.W.findIn K (.ref C) nm = some (some (.ref f)) ∧ PySem.W.noSeq K C = true) {Z : Addr → Prop} {m : List Addr} {μ : Mu} {H : Hp} {x : D} {v : V} {c : Str} {ks : List Str} {ds : List D}
    (M : MuOk G Z m μ H) (r : Rep G m (vis Z m H) x v) (hi : insD x μ = some (c, ks, ds)) (hm : c ∈ cs) : ∃ q, v = .ref q ∧ InU K mg f nm H q := by
  subst hG
  obtain ⟨q, C', dx, vs, rfl, g, hp, l, rs⟩ := ins_rep M r hi
  obtain ⟨C, g2, h1, h2⟩ := hc c hm
  rw [g2] at g
  cases g
  exact ⟨q, rfl, C', dx, _, hp, h1, h2⟩
/-- o[i] -/
def wIxO (cs : List Str) (sp : DSp) (wa wb : WE) : WE := fun ρ μ Q Xd => wa ρ μ (fun x μ1 => wb ρ μ1 (fun i μ2 => isClsU cs x μ2 (sp [x, i] μ2 Q Xd)) Xd) Xd
def tIxO (K : PySem.W.Frag) (mg : Str → Option Value) (f : Addr) (nm : Str) (sp : Sp) (W : WX) (ta tb : TE) : TE := fun σ H Q => ta σ H fun x H1 => tb σ H1 fun y H2 => ∃ q, x = .ref q ∧ InU K mg f nm H2 q ∧ sp [x, y] H2 Q (L2.WE W σ)
theorem lift_ixO {f : Addr} (hc : ∀ c ∈ cs, ∃ C, X.mg c = some (.ref C) ∧ PySem.W.findIn X.K (.ref C) nm = some (some (.ref f)) ∧ PySem.W.noSeq X.K C = true) {σ : L2.St} {H : Hp} {Q' : VK} (q : lift (gx X none) W (wIxO cs sp wa wb) σ H Q') :
    tIxO X.K X.mg f nm (toSp (gx X none) sp) W (lift (gx X none) W wa) (lift (gx X none) W wb) σ H Q' := by
  obtain ⟨Z, m, ρ, μ, Q, Xd, S, q, k, kx⟩ := q
  refine ⟨Z, m, ρ, μ, _, Xd, S, q, fun v H1 P => ?_, kx⟩
  obtain ⟨m1, x, μ1, s1, r1, q1⟩ := P
  refine ⟨Z, m1, ρ, μ1, _, Xd, S.step s1, q1, fun u H2 P => ?_, fun cls d H' P => kx cls d H' (XPost.from s1 P)⟩
  obtain ⟨m2, y, μ2, s2, r2, q2⟩ := P
  obtain ⟨c, ks, ds, hi, hcm, q3⟩ := isClsU_of q2
  have r1' := Rep.mono s2.pre s2.same _ _ r1
  obtain ⟨q, rfl, iu⟩ := inU_of (G := gx X none) rfl hc s2.mu r1' hi hcm
  have s12 := s1.trans s2
  exact ⟨q, rfl, iu, _, m2, μ2, [x, y], Q, Xd, s2.mu, Reps.cons r1' (Reps.cons r2 Reps.nil), q3, fun v H' P => k v H' (VPost.from s12 P), fun cls d H' P => kx cls d H' (XPost.from s12 P)⟩
theorem de_ixO (D : SpcD X.prog X.w X.K X.mg X.base k cs "__getitem__" ps sp) (hr : Room j X.A) (hkj : k + 1 ≤ j) (hgd : X.A.guards = some []) (tk : Takes X W) (h1 : DE none W X a wa) (h2 : DE none W X b wb) (hs : PlainIx b := by exact fun _ _ => rfl)
    (hsl : ∀ v u, subscripted b true v u = runValue (.builtin "lifetime.subscript" ⟨[v, u], []⟩) := by intro _ _; with_unfolding_all rfl) : DE none W X (.Subscript a b pos) (wIxO cs sp wa wb) := by
  obtain ⟨f, fd, g1, g2, g3, g4, F⟩ := D.ex
  refine ⟨fun pins s σ H Q I h => ?_⟩
  refine Subscript_ (binT h1 h2 I (lift_ixO g3 h) fun v u s2 x y H2 I2 rx ry q => ?_)
  obtain ⟨p0, rfl, ⟨C, dx, fs, hp, f1, f2⟩, q⟩ := q
  obtain rfl : v = Value.ref p0 := rx
  obtain ⟨mA, O2, _⟩ := ins_get I2.hok hp
  obtain ⟨od, J, _⟩ := O2.look
  obtain ⟨m0, hF⟩ := I2.fr
  exact PySem.W.sub_K hF I2.ok.mod.kin J f1 g2 g1 (run_fnG1 (us := [.ref p0, u]) (vs := [.ref p0, y]) F (hr.mono hkj) hgd g4 tk I2 (.cons rfl (.cons ry .nil)) q) (hsl _ _)
/-- ~o -/
def wInv (cs : List Str) (sp : DSp) (wa : WE) : WE := fun ρ μ Q Xd => wa ρ μ (fun x μ1 => isClsU cs x μ1 (sp [x] μ1 Q Xd)) Xd
theorem de_inv (D : SpcD X.prog X.w X.K X.mg X.base k cs "__invert__" ps sp) (hr : Room j X.A) (hkj : k ≤ j) (hgd : X.A.guards = some []) (tk : Takes X W) (h1 : DE none W X a wa) : DE none W X (.UnaryOp .Invert a pos) (wInv cs sp wa) := by
  obtain ⟨f, fd, g1, g2, g3, g4, F⟩ := D.ex
  refine ⟨fun pins s σ H Q' I q => ?_⟩
  have hw : lift (gx X none) W wa σ H fun x H1 => ∃ q, x = .ref q ∧ InU X.K X.mg f "__invert__" H1 q ∧ toSp (gx X none) sp [x] H1 Q' (L2.WE W σ) := by
    obtain ⟨Z, m, ρ, μ, Q, Xd, S, q, k, kx⟩ := q
    refine ⟨Z, m, ρ, μ, _, Xd, S, q, fun v H1 P => ?_, kx⟩
    obtain ⟨m1, x, μ1, s1, r1, q1⟩ := P
    obtain ⟨c, ks, ds, hi, hcm, q3⟩ := isClsU_of q1
    obtain ⟨q, rfl, iu⟩ := inU_of (G := gx X none) rfl g3 s1.mu r1 hi hcm
    exact ⟨q, rfl, iu, _, m1, μ1, [x], Q, Xd, s1.mu, Reps.cons r1 Reps.nil, q3, fun v H' P => k v H' (VPost.from s1 P), fun cls d H' P => kx cls d H' (XPost.from s1 P)⟩
  refine UnaryOp_ (thn (h1.run pins s σ H _ I hw) fun v s1 hx => ?_)
  obtain ⟨x, H1, I1, rx, p0, rfl, ⟨C, dx, fs, hp, f1, f2⟩, q⟩ := hx
  obtain rfl : v = Value.ref p0 := rx
  obtain ⟨mA, O2, _⟩ := ins_get I1.hok hp
  obtain ⟨od, J, _⟩ := O2.look
  obtain ⟨m0, hF⟩ := I1.fr
  exact PySem.W.ksp_inv hF I1.ok.mod.kin J f1 g1 (run_fnG (us := [.ref p0]) (vs := [.ref p0]) F (hr.mono hkj) hgd g4 tk I1 (.cons rfl .nil) q)
/-- o(x, ..) -/
def wCallO (cs : List Str) (sp : DSp) (wo : WE) (wa : WA) : WE := fun ρ μ Q Xd => wo ρ μ (fun x μ1 => isClsU cs x μ1 (wa ρ μ1 (fun ds μ2 => isClsU cs x μ2 (sp (x :: ds) μ2 Q Xd)) Xd)) Xd
theorem de_callO {o e : Expr} {es : List Expr} {wo : WE} (D : SpcD X.prog X.w X.K X.mg X.base k cs "__call__" ps sp) (hr : Room j X.A) (hkj : k ≤ j) (hgd : X.A.guards = some []) (tk : Takes X W) (h1 : DE none W X o wo) (ha : DA none W X (e :: es) ws)
    (ht : eval (.Call o (e :: es) [] pos) X.env = (do callWith pos (← eval o X.env) [] (backTo pos (starEach (e :: es) X.env)) (backToKw pos (keywordEach [] X.env))) := by rfl)
    (he : starEach (e :: es) X.env = (false, eval e X.env) :: starEach es X.env := by rfl) (hpl : (backTo pos (starEach es X.env)).any (·.1) = false := by rfl) : DE none W X (.Call o (e :: es) [] pos) (wCallO cs sp wo ws) := by
  obtain ⟨f, fd, g1, g2, g3, g4, F⟩ := D.ex
  refine ⟨fun pins s σ H Q' I q => ?_⟩
  have hw : lift (gx X none) W wo σ H fun x H1 => ∃ q, x = .ref q ∧ liftA (gx X none) W ws σ H1 fun vs H2 => InU X.K X.mg f "__call__" H2 q ∧ toSp (gx X none) sp (.ref q :: vs) H2 Q' (L2.WE W σ) := by
    obtain ⟨Z, m, ρ, μ, Q, Xd, S, q, k, kx⟩ := q
    refine ⟨Z, m, ρ, μ, _, Xd, S, q, fun v H1 P => ?_, kx⟩
    obtain ⟨m1, x, μ1, s1, r1, q1⟩ := P
    obtain ⟨c, ks, ds, hi, hcm, q3⟩ := isClsU_of q1
    obtain ⟨q, rfl, iu⟩ := inU_of (G := gx X none) rfl g3 s1.mu r1 hi hcm
    refine ⟨q, rfl, Z, m1, ρ, μ1, _, Xd, S.step s1, q3, fun us H2 P => ?_, fun cls d H' P => kx cls d H' (XPost.from s1 P)⟩
    obtain ⟨m2, es, μ2, s2, r2, q2⟩ := P
    obtain ⟨c, ks, ds, hi, hcm, q3⟩ := isClsU_of q2
    have r1' := Rep.mono s2.pre s2.same _ _ r1
    obtain ⟨q', e, iu⟩ := inU_of (G := gx X none) rfl g3 s2.mu r1' hi hcm
    cases e
    have s12 := s1.trans s2
    exact ⟨iu, _, m2, μ2, x :: es, Q, Xd, s2.mu, Reps.cons r1' r2, q3, fun v H' P => k v H' (VPost.from s12 P), fun cls d H' P => kx cls d H' (XPost.from s12 P)⟩
  refine Call_ (thn (h1.run pins s σ H _ I hw) fun v s1 hx => ?_) ht
  obtain ⟨x, H1, I1, rx, p0, rfl, q1⟩ := hx
  obtain rfl : v = Value.ref p0 := rx
  refine StX.callO_with (thn (ha.run pos pins s1 σ H1 _ I1 q1) fun us s2 hx => ?_) he hpl
  obtain ⟨vs, H2, I2, rv, ⟨C, dx, fs, hp, f1, f2⟩, q⟩ := hx
  obtain ⟨mA, O2, _⟩ := ins_get I2.hok hp
  obtain ⟨od, J, _⟩ := O2.look
  refine ⟨⟨C, _, _, J, rfl⟩, ?_⟩
  exact wpAny_call (PySem.W.kco_code I2.kIn J rfl f1 g1 g2 (run_fnGc (us := .ref p0 :: us) (vs := .ref p0 :: vs) F (hr.mono hkj) hgd g4 tk I2 (.cons rfl rv) q))
/-- len(o) -/
def fLenO (cs : List Str) (sp : DSp) : FN := fun xs μ Q => match xs with
  | [x] => isClsU cs x μ (sp [x] μ (fun d μ1 => match d with
    | .int n => 0 ≤ n ∧ n < 2 ^ 62 ∧ Q (.int n) μ1
    | _ => False) xF)
  | _ => False
def rLenO (K : PySem.W.Frag) (mg : Str → Option Value) (f : Addr) (sp : Sp) : List V → Hp → VK → Prop := fun xs H Q => ∃ q, xs = [.ref q] ∧ InU K mg f "__len__" H q ∧ ∀ E, sp [.ref q] H (fun v H' => ∃ n : Int, v = .int n ∧ 0 ≤ n ∧ n < 2 ^ 62 ∧ Q (.int n) H') E
theorem sn_lenO {G : Gx} {f : Addr} (hc : ∀ c ∈ cs, ∃ C, G.mg c = some (.ref C) ∧ PySem.W.findIn G.K (.ref C) "__len__" = some (some (.ref f)) ∧ PySem.W.noSeq G.K C = true) : SN G (rLenO G.K G.mg f (toSp G sp)) (fLenO cs sp) := by
  intro Z m μ H xs us Q Q' M rs h kk
  unfold fLenO at h
  split at h
  · rename_i x
    obtain ⟨c, ks, ds, hi, hcm, q3⟩ := isClsU_of h
    obtain ⟨v, r, rfl, rx, rn⟩ := rs.uncons
    rw [Reps] at rn
    subst rn
    obtain ⟨q, rfl, iu⟩ := inU_of (G := G) rfl hc M rx hi hcm
    refine ⟨q, rfl, iu, fun E => ⟨Z, m, μ, [x], _, xF, M, Reps.cons rx Reps.nil, q3, fun v H' P => ?_, fun cls d H' P => (xpF P).elim⟩⟩
    obtain ⟨m', d, μ', s1, r1, q1⟩ := P
    split at q1
    · rename_i n
      rw [Rep] at r1
      exact ⟨n, r1, q1.1, q1.2.1, kk _ _ ⟨m', _, μ', s1, by rw [Rep], q1.2.2⟩⟩
    · exact q1.elim
  · exact h.elim
theorem lenO_K {prog : Program} {w : World} {A : Around} {E : Value → Shared → Prop} {s : Shared} {K : PySem.W.Frag} {x C f : Addr} {ox : Obj} {od : Option Obj} {Q : Value → Shared → Prop} (X : K.In s.heap) (I : PySem.W.InstAt s.heap x ox C od) (hs : PySem.W.findIn K (.ref C) "__len__" = some (some (.ref f))) (hf : PySem.W.isFn K (.ref f) = true)
    (hcall : wpAny (model prog w) A.in1 (call (.ref f) [.ref x]) (fun r s' => ∃ n u, r = .int n u ∧ 0 ≤ n ∧ n < 2 ^ 63 ∧ Q (.int n s'.toks) { s' with toks := s'.toks + 1 }) E s) :
    wpAny (model prog w) A (call (.builtin "len") [.ref x]) Q E s := by
  refine PySem.Calls.call_function_entry kind_len plain_len entry_len (args_len1 _) ?_
  unfold Builtin.«len»
  refine wpAny_bind (m := oneArg "len" _) (wpAny_pure ?_)
  refine wpAny_bind (m := callSpecial? (.ref x) (Str.ofString "__len__")) (PySem.W.special_fn X I hs (beq_iff_eq.mp hf) (wpAny_mono hcall (fun r s' hr => ?_) fun _ _ y => y))
  obtain ⟨n, u, rfl, h0, h1, hq⟩ := hr
  refine wpAny_bind (wpAny_holding (wpAny_pure ?_))
  refine wpAny_bind (wpAny_letGo ?_)
  show wpAny _ _ (if n < 0 then _ else _) _ _ _
  rw [if_neg (by omega)]
  show wpAny _ _ (if n ≥ 2 ^ 63 then _ else _) _ _ _
  rw [if_neg (by omega)]
  exact wpAny_bind (wpAny_mkInt (wpAny_pure ⟨_, rfl, hq⟩))
theorem call_lenO {f : Addr} {fd : FuncData} {sp0 : Sp} (g1 : PySem.W.isFn X.K (.ref f) = true) (F : FnG X.prog X.w X.K X.mg X.base k f fd ps sp0) (hr : Room (k + 1) X.A) (hgd : X.A.guards = some []) (hb : Binds X.K fd ps []) : CallR X (.builtin "len") (rLenO X.K X.mg f sp0) := by
  intro pins s σ H xs us Q I rv h
  obtain ⟨q, rfl, ⟨C, dx, fs, hp, f1, f2⟩, h⟩ := h
  obtain ⟨u, r2, rfl, ru, rn⟩ : ∃ u r2, us = u :: r2 ∧ RelV (.ref q) u ∧ Vals [] r2 := by
    cases rv with
    | cons a b => exact ⟨_, _, rfl, a, b⟩
  cases rn
  obtain rfl : u = Value.ref q := ru
  obtain ⟨mA, O2, _⟩ := ins_get I.hok hp
  obtain ⟨od, J, _⟩ := O2.look
  have bd : BindsTo s fd ⟨[.ref q], []⟩ (ps.zip [.ref q]) := by
    have := hb s [.ref q] I.kIn (by simpa using F.len _ _ _ _ (h fun _ _ _ => False))
    simpa using this
  refine lenO_K I.kIn J f1 g1 (wpAny_call (codeAny_mono (F.run X.A.in1 X.stack s H ⟨[.ref q], []⟩ [.ref q] [.ref q] _ (fun _ _ _ => False) hr.in1 hgd I.env0.in1 bd (.cons rfl .nil) (h _)) fun res s2 out => ?_))
  match res, out with
  | .error er, out =>
    obtain ⟨_, _, _, _, _, _, _, _, _, _, _, _, z⟩ := out
    exact z.elim
  | .ok (.ret w2), out =>
    obtain ⟨v2, H', I3, rv2, n, rfl, h0, h1, q3⟩ := I.after out
    obtain ⟨t, rfl⟩ := rv2
    exact ⟨n, t, rfl, h0, by omega, .int n, H', I3.tok _, ⟨_, rfl⟩, q3⟩
theorem de_lenO {e : Expr} {p : Pos} (D : SpcD X.prog X.w X.K X.mg X.base k cs "__len__" ps sp) (hr : Room j X.A) (hkj : k + 1 ≤ j) (hgd : X.A.guards = some []) (hg : Gl X "len") (hm : X.mg "len" = none) (ha : DA none W X [e] ws)
    (he : starEach [e] X.env = (false, eval e X.env) :: starEach [] X.env := by rfl) (hpl : (backTo pos (starEach [] X.env)).any (·.1) = false := by rfl) :
    DE none W X (.Call (.Name "len" p) [e] [] pos) (wN (fLenO cs sp) ws) := by
  obtain ⟨f, fd, g1, g2, g3, g4, F⟩ := D.ex
  exact de_callB (call_lenO g1 F (hr.mono hkj) hgd g4) (sn_lenO (G := gx X none) g3) hg hm bt_len ha (by decide) (by decide) he hpl
end
/-! from the head's facts -/
def spcB (K : PySem.W.Frag) (cs : List Str) (d nm : Str) : Bool := PySem.W.isFn K (.ref (He.fAd K (d, some nm))) && (PySem.W.fnIn K (He.fAd K (d, some nm)) && cs.all fun c => (He.Fa.glo c).ok K && (He.eqO (PySem.W.findIn K (.ref (He.ga K c)) nm) (some (some (.ref (He.fAd K (d, some nm))))) && PySem.W.noSeq K (He.ga K c)))
theorem spcD_of {P : Program} {w : World} {K : PySem.W.Frag} {h : Heap} {mg : Str → Option Value} {base : Heap} {k : Nat} {cs : List Str} {d nm : Str} {ps : List Str} {sp : DSp} {fd : FuncData} (X : K.In h) (G : h.Ns mainGlobals mg)
    (B : spcB K cs d nm = true) (bi : Binds K fd ps []) (F : FnG P w K mg base k (He.fAd K (d, some nm)) fd ps (toSp ⟨K, mg, none⟩ sp)) : SpcD P w K mg base k cs nm ps sp := by
  obtain ⟨h1, B⟩ := He.ba B
  obtain ⟨h2, h3⟩ := He.ba B
  refine ⟨_, fd, h1, h2, fun c hc => ?_, bi, F⟩
  obtain ⟨q1, q2⟩ := He.ba (List.all_eq_true.mp h3 c hc)
  obtain ⟨q2, q3⟩ := He.ba q2
  exact ⟨_, He.glo_ok X G q1, He.eqO_ok q2, q3⟩
def cmpUB (K : PySem.W.Frag) (c d nm : Str) (Ts : List String) (Cs : List Str) : Bool := cmpB K c nm Ts Cs && He.fAd K (c, some nm) == He.fAd K (d, some nm)
theorem cmpUD_of {P : Program} {w : World} {K : PySem.W.Frag} {h : Heap} {mg : Str → Option Value} {base : Heap} {k : Nat} {c d nm : Str} {Ts : List String} {Cs : List Str} {ps : List Str} {sp : DSp} {fd : FuncData} (X : K.In h) (G : h.Ns mainGlobals mg)
    (B : cmpUB K c d nm Ts Cs = true) (bi : Binds K fd ps []) (F : FnG P w K mg base k (He.fAd K (d, some nm)) fd ps (toSp ⟨K, mg, none⟩ sp)) : CmpD P w K mg base k c nm Ts Cs ps sp := by
  obtain ⟨h1, h2⟩ := He.ba B
  rw [← beq_iff_eq.mp h2] at F
  exact cmpD_of X G h1 bi F
theorem opR_or {X : Cx} {f : Value → Value → Sem Value} {r r' : R2} (h : OpR X f r) (h' : OpR X f r') : OpR X f (fun x y H Q => r x y H Q ∨ r' x y H Q) := by
  intro pins s σ H x y v u Q I rx ry q
  rcases q with q | q
  · exact h pins s σ H x y v u Q I rx ry q
  · exact h' pins s σ H x y v u Q I rx ry q
end DL

set_option Elab.async false
set_option linter.all false
set_option maxRecDepth 100000
set_option maxHeartbeats 4000000
set_option autoImplicit false
namespace DL
open PySem PySem.Spec PyProof.Rows L2
/-! ### a comprehension's list, kept as the def's own -/
noncomputable def without (H : Hp) (D : Addr) : Hp := fun b => open Classical in if b = D then none else H b
theorem without_ne {H : Hp} {D b : Addr} (h : b ≠ D) : without H D b = H b := if_neg h
theorem without_same {H : Hp} {D : Addr} : without H D D = none := if_pos rfl
theorem upd_without {H : Hp} {D : Addr} {o : HO} (h : H D = some o) : upd (without H D) D o = H := by
  funext b
  by_cases e : b = D
  · subst e
    rw [upd_same, h]
  · rw [upd_ne e, without_ne e]
theorem vis_without {W : Addr → Prop} {m : List Addr} {H : Hp} {D : Addr} : vis W m (without H D) = vis (addZ W D) m H := by
  funext b
  by_cases e : b = D
  · subst e
    cases h1 : vis W m (without H b) b with
    | none =>
      cases h2 : vis (addZ W b) m H b with
      | none => rfl
      | some o => exact absurd (.inr rfl) (vis_some.mp h2).1
    | some o =>
      have := (vis_some.mp h1).2.2
      rw [without_same] at this
      cases this
  · unfold vis
    have iff : (addZ W D b ∨ b ∈ m) ↔ (W b ∨ b ∈ m) := ⟨fun h => h.imp_left fun z => z.elim id fun q => absurd q e, fun h => h.imp_left .inl⟩
    by_cases h : W b ∨ b ∈ m
    · rw [if_pos h, if_pos (iff.mpr h)]
    · rw [if_neg h, if_neg fun z => h (iff.mp z), without_ne e]
theorem lift_lcO {G : Gx} {W : WX} {wi : WI} {g : TG} {k : WG} {tt : WT} {te : WE} {vs : List Nat} (hg : LcG G vs g k) {σ : L2.St} {H : Hp} {Q' : VK}
    (q : ∃ Z m ρ μ, ∃ (Q : D → Mu → Prop) (Xd : XD), SR G Z m σ H ρ μ ∧ wLc wi k tt te vs ρ μ Q Xd ∧ (∀ (D : Addr) (H' : Hp) m' acc μ' us, H' D = some (.lst us) → Step G (ownW Z σ ρ) m H m' μ' (without H' D) → Reps G m' (vis (ownW Z σ ρ) m' (without H' D)) acc us → Q (.lst acc) μ' → Q' (.ref D) H') ∧ ∀ cls d H', XPost G (ownW Z σ ρ) m H Xd cls d H' → W cls d σ H') :
    tLc (liftIF G W wi) g (liftT G WF tt) (lift G WF te) vs σ H Q' := by
  obtain ⟨Z, m, ρ, μ, Q, Xd, S, q, kq, kx⟩ := q
  refine ⟨Z, m, ρ, μ, _, Xd, S, q, fun J H1 P => ?_, kx⟩
  obtain ⟨m1, ds, μ1, F, s1, hF, ok, no', q1⟩ := P
  have no : noOwn ρ vs := fun v hv a ds => notOwn_of (no' v hv) a ds
  intro D nD
  have S1 := S.step s1
  have E0 := own_wipe' (Z := Z) (σ := σ) (ρ := ρ) (vs := vs) no
  have Sw := S1.wiped (vs := vs) no
  obtain ⟨Mh, sh⟩ := MuOk.hide (o := .lst []) S1.mu nD
  -- the state of a turn
  have base : SR G (addZ Z D) m1 (wipe σ vs) (upd H1 D (.lst [])) (wipeD ρ vs) μ1 := by
    refine ⟨Sw.len, by rw [own_add, E0]; exact Mh, fun i d e => ?_, fun i a es e => ?_, Sw.dis, fun i c ks es e => ?_⟩
    · obtain ⟨v, h1, h2⟩ := Sw.val i d e
      rw [E0] at h2
      exact ⟨v, h1, by rw [own_add, E0]; exact Rep.mono (List.prefix_refl _) sh _ _ h2⟩
    · obtain ⟨h1, h2, h4⟩ := Sw.own i a es e
      rw [E0] at h4
      have na : a ≠ D := fun z => h4.there (by rw [z, nD])
      exact ⟨h1, fun z => z.elim h2 na, by rw [own_add, E0]; exact h4.keep (List.prefix_refl _) sh (upd_ne na)⟩
    · have z := Sw.exn i c ks es e
      rw [E0] at z
      rw [own_add, E0]
      exact z.mono (List.prefix_refl _) sh
  have nDW : ¬ ownW Z σ ρ D := fun z => S1.mu.hw D z nD
  let In : List DL.D → Hp → Prop := fun rest H' => ∃ m' μ' acc us, m1 <+: m' ∧ (∀ z, ownW Z σ ρ z → H' z = H1 z) ∧ SR G (addZ Z D) m' (wipe σ vs) H' (wipeD ρ vs) μ' ∧ Same (vis (ownW Z σ ρ) m1 H1) (vis (addZ (ownW Z σ ρ) D) m' H') ∧
    H' D = some (.lst us) ∧ Reps G m' (vis (addZ (ownW Z σ ρ) D) m' H') acc us ∧ lcL k tt te (wipeD ρ vs) rest acc μ' Q
  refine ⟨fun i n H' => n = ds.length - i ∧ i ≤ ds.length ∧ In (ds.drop i) H', ⟨_, rfl, Nat.zero_le _, m1, μ1, [], [], List.prefix_refl _, fun z hz => upd_ne fun e => nDW (e ▸ hz), base, sh, upd_same, Reps.nil, q1⟩, ?_⟩
  rintro i n H' ⟨rfl, hle, m', μ', acc, us, pm, hid, S', sm, hD, ra, q'⟩
  have vis' : Same (vis (ownW Z σ ρ) m1 H1) H' := sm.trans vis_le
  by_cases hlt : i < ds.length
  · refine .inr ⟨ok.go i H' hlt vis' (hF H' hid), In (ds.drop (i + 1)), fun H2 h2 => ⟨_, (by omega : ds.length - (i + 1) < ds.length - i), rfl, hlt, h2⟩, fun x H3 y => ?_⟩
    obtain ⟨d, ed, hy⟩ := ok.yld i H' x H3 hlt vis' (hF H' hid) y
    obtain ⟨hi', ee⟩ := List.getElem?_eq_some_iff.mp ed
    rw [List.drop_eq_getElem_cons hi', lcL, ee] at q'
    have ow : ownW (addZ Z D) (wipe σ vs) (wipeD ρ vs) = addZ (ownW Z σ ρ) D := by rw [own_add, E0]
    have : SR G (addZ Z D) m' (wipe σ vs) H3 (wipeD ρ vs) μ' ∧ Same (vis (addZ (ownW Z σ ρ) D) m' H') (vis (addZ (ownW Z σ ρ) D) m' H3) ∧ (∀ z, addZ (ownW Z σ ρ) D z → H3 z = H' z) ∧ Rep G m' (vis (addZ (ownW Z σ ρ) D) m' H3) d x := by
      rcases hy with ⟨rfl, rd⟩ | ⟨T, o, nT, rfl, rd⟩
      · exact ⟨S', Same.refl _, fun _ _ => rfl, Rep.mono pm sm _ _ rd⟩
      · have st := Step.laid (o := o) S'.mu nT
        rw [ow] at st
        exact ⟨S'.step (by rw [ow]; exact st), st.same, st.hid, rd _ _ pm (sm.trans st.same) (by rw [vis_upd (ow ▸ S'.mu) nT, upd_same])⟩
    obtain ⟨S3, sm3, hid3, rd⟩ := this
    refine hg (addZ Z D) m' μ' (wipe σ vs) H3 (wipeD ρ vs) d x _ _ S3 (by rw [ow]; exact rd) q' fun σ4 ρ4 S4 ow4 ew q4 => ⟨?_, ?_⟩
    · exact ew.trans (wipe_wipe σ vs)
    · refine ⟨addZ Z D, m', ρ4, μ', _, _, S4, q4, fun b H5 P => ?_, fun cls dd H5 P => (xpF P).elim⟩
      obtain ⟨m5, μ5, s5, q5⟩ := P
      rw [ow4, ow] at s5
      have back : ∀ {m6 μ6 H6}, Step G (addZ (ownW Z σ ρ) D) m' H3 m6 μ6 H6 → SR G (addZ Z D) m6 (wipe σ vs) H6 (wipeD ρ vs) μ6 := fun {m6 μ6 H6} s6 => S3.step (by rw [ow]; exact s6)
      cases b with
      | false =>
        rw [if_neg Bool.false_ne_true] at q5 ⊢
        exact ⟨m5, μ5, acc, us, pm.trans s5.pre, fun z hz => ((s5.hid z (.inl hz)).trans (hid3 z (.inl hz))).trans (hid z hz), back s5, (sm.trans sm3).trans s5.same, ((s5.hid D (.inr rfl)).trans (hid3 D (.inr rfl))).trans hD, Reps.mono s5.pre (sm3.trans s5.same) _ _ ra, q5⟩
      | true =>
        rw [if_pos rfl] at q5 ⊢
        refine ⟨addZ Z D, m5, ρ4, μ5, _, _, S4.step (by rw [ow4, ow]; exact s5), q5, fun u H6 P => ?_, fun cls dd H6 P => (xpF P).elim⟩
        obtain ⟨m6, yd, μ6, s6, r6, hlen, q6⟩ := P
        rw [ow4, ow] at s6 r6
        have s56 := s5.trans s6
        refine ⟨us, ((s56.hid D (.inr rfl)).trans (hid3 D (.inr rfl))).trans hD, by rw [← ra.len]; exact Nat.lt_of_lt_of_le hlen (by decide), ?_⟩
        refine ⟨m6, μ6, acc ++ [yd], us ++ [u], pm.trans s56.pre, fun z hz => ?_, (back s56).hid, ?_, upd_same, ?_, q6⟩
        · have hb : z ≠ D := fun e => nDW (e ▸ hz)
          rw [upd_ne hb]
          exact ((s56.hid z (.inl hz)).trans (hid3 z (.inl hz))).trans (hid z hz)
        · rw [vis_hidden]
          exact (sm.trans sm3).trans s56.same
        · rw [vis_hidden]
          exact Reps.append (Reps.mono s56.pre (sm3.trans s56.same) _ _ ra) (Reps.cons r6 Reps.nil)
  · have e : i = ds.length := by omega
    subst e
    rw [List.drop_length, lcL] at q'
    have ow : ownW (addZ Z D) (wipe σ vs) (wipeD ρ vs) = addZ (ownW Z σ ρ) D := by rw [own_add, E0]
    have M' := S'.mu
    rw [ow] at M'
    have ev : vis (ownW Z σ ρ) m' (without H' D) = vis (addZ (ownW Z σ ρ) D) m' H' := vis_without
    have st : Step G (ownW Z σ ρ) m1 H1 m' μ' (without H' D) := by
      refine ⟨pm, fun z hz => ?_, ⟨M'.len, M'.nd, fun a ha z => M'.out a ha (.inl z), fun z hz => ?_, fun n c a hc ha => ?_⟩, ?_⟩
      · rw [without_ne fun e : z = D => nDW (e ▸ hz)]
        exact hid z hz
      · rw [without_ne fun e : z = D => nDW (e ▸ hz)]
        exact M'.hw z (.inl hz)
      · have ne : a ≠ D := fun e => M'.out a (List.mem_of_getElem? ha) (.inr e)
        rw [ev]
        exact (M'.cell n c a hc ha).keep (List.prefix_refl _) (Same.refl _) (without_ne ne)
      · rw [ev]
        exact sm
    exact .inl ⟨ok.stop H' vis' (hF H' hid), kq D H' m' acc μ' us hD (s1.trans st) (by rw [ev]; exact ra) q'⟩

def sSetLcO (i : Nat) (w : WE) : WS := fun E ρ μ => w ρ μ (fun d μ1 => ∃ acc, d = .lst acc ∧ i < ρ.length ∧ ∀ p, E.nx (ρ.set i (.own p (.lst acc))) μ1) fun c ks es μ' => E.xc c ks es ρ μ'
section
variable {W : WX} {X : Cx} {elt tg iter : Expr} {ifs : List Expr} {scope : Scope} {own : List (Str × Nat)} {pos : Pos} {wi : WI} {g : TG} {k : WG} {tt : WT} {te : WE}
theorem ds_setLcOF {i : Nat} {y : Str} {py spos : Pos} (hc : X.calm = true) (hN : X.N.Nodup) (hy : X.N[i]? = some y) (hsw : swapsWith (.ListComp elt [⟨tg, iter, ifs, 0⟩] scope pos) (some (.Name y py)) spos.line X.env = pure true)
    (hi : DIF none W X tg iter wi) (ok : BlkOk X.N X.env.scope scope own) (hk : LcG (gx X none) (own.map (·.2)) g k)
    (hg : ∀ (s : Shared) (H : Hp) (C : Addr) (cl : List (Str × Addr)) (fp : List Addr), PG (X.blk s H scope (compEnvC scope cl C X.env) fp) tg g) (ht : ∀ (s : Shared) (H : Hp) (C : Addr) (cl : List (Str × Addr)) (fp : List Addr), DTs (X.blk s H scope (compEnvC scope cl C X.env) fp) ifs tt)
    (he : ∀ (s : Shared) (H : Hp) (C : Addr) (cl : List (Str × Addr)) (fp : List Addr), DE none WF (X.blk s H scope (compEnvC scope cl C X.env) fp) elt te) (hyl : X.env.scope.names.lookup y = some .local := by rfl) (hs : ∀ x, foldedSetIterable iter X.env x = pure x := by intro _; rfl) :
    DSt none W X (.Assign [.Name y py] (.ListComp elt [⟨tg, iter, ifs, 0⟩] scope pos) spos) (sSetLcO i (wLc wi k tt te (own.map (·.2)))) := ps_weak (ps_setLc hc hN hy hyl hsw hi ok hg ht he hs) fun De σ H q => by
  obtain ⟨Z, m, ρ, μ, E, S, q, kn, kr, kb, kc, kx⟩ := q
  refine lift_lcO (W := W) hk ⟨Z, m, ρ, μ, _, _, S, q, fun D H1 m1 acc μ1 us hD st ra q1 => ?_, fun cls d H' P => kx cls d σ H' (XSPost.of S P)⟩
  obtain ⟨acc', e, hil, q1⟩ := q1
  cases e
  obtain ⟨S2, s2⟩ := (S.step st).born (o := .lst us) (c := .lst acc) without_same hil ⟨us, upd_same, ra⟩
  rw [upd_without hD] at S2 s2
  exact kn _ _ ⟨m1, _, μ1, S2, (SStep.of st).trans s2, q1 D⟩
theorem ds_setLcO {i : Nat} {y : Str} {py spos : Pos} (hc : X.calm = true) (hN : X.N.Nodup) (hy : X.N[i]? = some y) (hsw : swapsWith (.ListComp elt [⟨tg, iter, ifs, 0⟩] scope pos) (some (.Name y py)) spos.line X.env = pure true)
    (hi : DI none W X tg iter wi) (ok : BlkOk X.N X.env.scope scope own) (hk : LcG (gx X none) (own.map (·.2)) g k)
    (hg : ∀ (s : Shared) (H : Hp) (C : Addr) (cl : List (Str × Addr)) (fp : List Addr), PG (X.blk s H scope (compEnvC scope cl C X.env) fp) tg g) (ht : ∀ (s : Shared) (H : Hp) (C : Addr) (cl : List (Str × Addr)) (fp : List Addr), DTs (X.blk s H scope (compEnvC scope cl C X.env) fp) ifs tt)
    (he : ∀ (s : Shared) (H : Hp) (C : Addr) (cl : List (Str × Addr)) (fp : List Addr), DE none WF (X.blk s H scope (compEnvC scope cl C X.env) fp) elt te) (hyl : X.env.scope.names.lookup y = some .local := by rfl) (hs : ∀ x, foldedSetIterable iter X.env x = pure x := by intro _; rfl) :
    DSt none W X (.Assign [.Name y py] (.ListComp elt [⟨tg, iter, ifs, 0⟩] scope pos) spos) (sSetLcO i (wLc wi k tt te (own.map (·.2)))) := ds_setLcOF hc hN hy hsw hi.toF ok hk hg ht he hyl hs
end
end DL

set_option Elab.async false
set_option linter.all false
set_option maxRecDepth 100000
set_option maxHeartbeats 2000000
/-! The Hook over a written list of addresses (no search of the heap in the kernel's run). -/
namespace DL
open PySem PySem.Spec PyProof.Rows L2
def obsL (as : List Addr) (fa : List He.Fa) (fn : List He5.DefA) (ex : PySem.W.Frag → Bool) (g : Addr → Option Obj) : AlY := (He5.obsA fa fn (He.frG g as), ex (He.frG g as))
def hookL (as : List Addr) (fa : List He.Fa) (fn : List He5.DefA) (ex : PySem.W.Frag → Bool) : PySem.W.Hook where
  α := AlY
  obs := fun s => obsL as fa fn ex s.heap.get?
  val := fun _ => (He5.valA fn, true)
  says := fun _ h => ∃ K : PySem.W.Frag, K.In h ∧ SaysY fa fn ex K
  of := fun _ _ e => ⟨_, He.frG_in, congrArg (fun z : AlY => z.1) e, congrArg (fun z : AlY => z.2) e⟩
  keeps := fun _ _ _ hx k => let ⟨K, hK, c⟩ := hx; ⟨K, PySem.W.Frag.In.keeps hK k, c⟩
theorem obsL_eq {as : List Addr} {fa : List He.Fa} {fn : List He5.DefA} {ex : PySem.W.Frag → Bool} {g : Addr → Option Obj} {s : Shared} (h : ∀ a, g a = s.heap.get? a) : obsL as fa fn ex g = (hookL as fa fn ex).obs s := by
  have e : g = s.heap.get? := funext h
  rw [e] <;> rfl
end DL

set_option Elab.async false
set_option linter.all false
set_option maxRecDepth 100000
set_option maxHeartbeats 2000000
/-! A comprehension in a suite (an exception is held). -/
namespace DL
open PySem PySem.Spec PyProof.Rows L2
section
variable {ex : Option (Addr × Addr × Addr)} {W : WX} {X : Cx} {elt tg iter : Expr} {ifs : List Expr} {scope : Scope} {own : List (Str × Nat)} {pos : Pos} {wi : WI} {g : TG} {k : WG} {tt : WT} {te : WE}
abbrev DTsX (ex : Option (Addr × Addr × Addr)) (X : Cx) (ifs : List Expr) (w : WT) : Prop := PTs X ifs (liftT (gx X ex) WF w)
theorem dtsX_nil : DTsX ex X [] wYes := pts_weak pts_nil fun σ H Q' q => by
  obtain ⟨Z, m, ρ, μ, Q, Xd, S, q, k, kx⟩ := q
  exact k true H ⟨m, μ, .refl S.mu, q⟩
theorem dtsX_one {c : Expr} {t : WT} (h : DT ex WF X c t) : DTsX ex X [c] t := pts_one h
theorem de_lcX (hc : X.calm = true) (hN : X.N.Nodup) (hi : DI ex W X tg iter wi) (ok : BlkOk X.N X.env.scope scope own) (hk : LcG (gx X ex) (own.map (·.2)) g k)
    (hg : ∀ (s : Shared) (H : Hp) (C : Addr) (cl : List (Str × Addr)) (fp : List Addr), PG (X.blk s H scope (compEnvC scope cl C X.env) fp) tg g) (ht : ∀ (s : Shared) (H : Hp) (C : Addr) (cl : List (Str × Addr)) (fp : List Addr), DTsX ex (X.blk s H scope (compEnvC scope cl C X.env) fp) ifs tt)
    (he : ∀ (s : Shared) (H : Hp) (C : Addr) (cl : List (Str × Addr)) (fp : List Addr), DE ex WF (X.blk s H scope (compEnvC scope cl C X.env) fp) elt te) (hs : ∀ x, foldedSetIterable iter X.env x = pure x := by intro _; rfl) :
    DE ex W X (.ListComp elt [⟨tg, iter, ifs, 0⟩] scope pos) (wLc wi k tt te (own.map (·.2))) := pe_weak (pe_lc hc hN hi.toF ok hg ht he hs) fun _ _ _ q => lift_lc hk q
end
end DL

set_option Elab.async false
set_option linter.all false
set_option maxRecDepth 100000
set_option maxHeartbeats 2000000
/-! A store into a list of the def's own: x[i] = v. -/
namespace DL
open PySem PySem.Spec PyProof.Rows L2
section
variable {X : Cx} {ix : Expr} {wi : WE} {pos p0 : Pos} {i : Nat} {x : Str}
def stO (i : Nat) (p : Addr) (ds : List D) (y d : D) (ρ : DS) (k : DS → Prop) : Prop := match y with
  | .int j => match ixN ds.length j with
    | some z => k (ρ.set i (.own p (.lst (ds.set z d))))
    | none => False
  | _ => False
theorem stO_of {i : Nat} {p : Addr} {ds : List D} {y d : D} {ρ : DS} {k : DS → Prop} (h : stO i p ds y d ρ k) : ∃ j z, y = .int j ∧ ixN ds.length j = some z ∧ k (ρ.set i (.own p (.lst (ds.set z d)))) := by
  unfold stO at h
  split at h
  · split at h
    · exact ⟨_, _, rfl, by assumption, h⟩
    · exact h.elim
  · exact h.elim
def subO (i : Nat) (wi : WE) (d : D) (ρ : DS) (μ : Mu) (Q : DS → Mu → Prop) (o : Option Sl) : Prop := match o with
  | some (.own p (.lst ds)) => wi ρ μ (fun y μ2 => stO i p ds y d ρ fun ρ' => Q ρ' μ2) xF
  | _ => False
theorem subO_of {i : Nat} {wi : WE} {d : D} {ρ : DS} {μ : Mu} {Q : DS → Mu → Prop} {o : Option Sl} (h : subO i wi d ρ μ Q o) : ∃ p ds, o = some (.own p (.lst ds)) ∧ wi ρ μ (fun y μ2 => stO i p ds y d ρ fun ρ' => Q ρ' μ2) xF := by
  unfold subO at h
  split at h
  · exact ⟨_, _, rfl, h⟩
  · exact h.elim
def kSubO (i : Nat) (wi : WE) : WG := fun d ρ μ Q => subO i wi d ρ μ Q (ρ[i]?)
theorem dg_subO (hN : X.N[i]? = some x) (hi : DE none WF X ix wi) (hv : Vis X.env.scope x := by first | exact Or.inl rfl | exact Or.inr (Or.inl rfl) | exact Or.inr (Or.inr rfl)) (hd : (x == ("__debug__" : Str)) = false := by decide) (hcd : (x == ("__classdict__" : Str)) = false := by decide)
    (ha : ∀ v, assign (.Subscript (.Name x p0) ix pos) X.env v = (do
      let ov ← holding [v] (eval (.Name x p0) X.env)
      let iv ← holding [v, ov] (eval ix X.env)
      standAt pos
      holding [v, ov, iv] (setItem ov iv v)
      release [v, ov, iv] []) := by intro _; rfl) : DG none X (.Subscript (.Name x p0) ix pos) (kSubO i wi) := pg_weak (pg_sub (pe_var hN hv hd hcd) hi set_list ha) fun v σ H Q' q => by
  obtain ⟨Z, m, ρ, μ, d, Q, S, r, q, k⟩ := q
  obtain ⟨p, ds, hi, q⟩ := subO_of q
  obtain ⟨hs, nz, vs0, hp0, rs0⟩ := S.own i p _ hi
  refine ⟨_, hs, Z, m, ρ, μ, _, _, S, q, fun y H2 P => ?_, fun cls dd H1 P => (xpF P).elim⟩
  obtain ⟨m2, yd, μ2, s2, r2, q2⟩ := P
  obtain ⟨j, z, rfl, e2, q3⟩ := stO_of q2
  rw [Rep] at r2
  have S2 := S.step s2
  obtain ⟨_, _, vs, hp, rs⟩ := S2.own i p _ hi
  have rd := Rep.mono s2.pre s2.same _ _ r
  refine ⟨p, vs, j, z, rfl, r2, hp, by rw [← rs.len]; exact e2, ?_⟩
  obtain ⟨S3, s3⟩ := S2.putOwn (o := .lst (vs.set z v)) (c' := .lst (ds.set z d)) hi ⟨vs.set z v, upd_same, Reps.set rd z rs⟩
  exact k _ _ ⟨m2, _, μ2, S3, (SStep.of s2).trans s3, q3⟩
end
end DL

set_option Elab.async false
set_option linter.all false
set_option maxRecDepth 100000
set_option maxHeartbeats 4000000
set_option autoImplicit false
set_option exponentiation.threshold 3000
namespace DL
open PySem PySem.Spec PyProof.Rows L2
/-! ### plain data: comparisons, bounds, pools -/
theorem eqD_int {i j : Int} {k : Bool → Prop} : eqD (.int i) (.int j) k = k (decide (i = j)) := by
  apply propext
  constructor
  · rintro ⟨p, q, h1, h2, _, _, h⟩
    rw [toP] at h1 h2
    cases h1
    cases h2
    have e : PyData.eqv (.int i) (.int j) = decide (i = j) := by
      rw [Bool.eq_iff_iff]; simp [PyData.eqv]
    rw [← e]; exact h
  · intro h
    refine ⟨.int i, .int j, by rw [toP], by rw [toP], rfl, rfl, ?_⟩
    have e : PyData.eqv (.int i) (.int j) = decide (i = j) := by
      rw [Bool.eq_iff_iff]; simp [PyData.eqv]
    rw [e]; exact h
theorem ite_ne {a b : Int} {p q : Prop} (e : a = b) (h : q) : if (!decide (a = b)) = true then p else q := by
  subst e
  simpa using h
theorem ite_eq {a b : Int} {p q : Prop} (e : a = b) (h : p) : if decide (a = b) = true then p else q := by
  subst e
  simpa using h
/-- numbers of at most 200 digits -/
def Bd (i : Int) : Prop := -(10 ^ 200) < i ∧ i < 10 ^ 200
theorem log2_bd {i : Int} (h : Bd i) : i.natAbs.log2 < 700 := by
  by_cases z : i.natAbs = 0
  · rw [z]; decide
  · rw [Nat.log2_lt z]
    have h1 : i.natAbs < 10 ^ 200 := by
      obtain ⟨a, b⟩ := h
      have e : (10 : Int) ^ 200 = ((10 ^ 200 : Nat) : Int) := by decide +kernel
      rw [e] at a b
      omega
    exact Nat.lt_of_lt_of_le h1 (by decide +kernel)
theorem cm_bd {i j : Int} (hi : Bd i) (hj : Bd j) : CM i j := by
  have h1 := log2_bd hi
  have h2 := log2_bd hj
  exact .inr (show i.natAbs.log2 + j.natAbs.log2 < 1000000 by omega)
theorem cd_bd {i j : Int} (h : 0 < j) (hj : Bd j) : CDivW i j := ⟨h, Nat.lt_of_lt_of_le (log2_bd hj) (by decide)⟩
/-- the cells with a pool behind them -/
def pl (μ : Mu) (p q : Int) : Mu := μ ++ [.lst [.int p, .int q]]
theorem pl_get {μ : Mu} {p q : Int} : (pl μ p q)[μ.length]? = some (.lst [.int p, .int q]) := List.getElem?_concat_length
theorem pl_set {μ : Mu} {p q : Int} {c : Cell} : (pl μ p q).set μ.length c = μ ++ [c] := by
  unfold pl
  rw [List.set_append_right _ _ (Nat.le_refl _), Nat.sub_self]
  rfl
theorem pl_fold {μ : Mu} {p q : Int} : μ ++ [Cell.lst [.int p, .int q]] = pl μ p q := rfl
theorem pl_items {μ : Mu} {p q : Int} : itemsD (.loc μ.length) (pl μ p q) = some [.int p, .int q] := by
  show (match (pl μ p q)[μ.length]? with
    | some (.lst ds) => some ds
    | _ => none) = _
  rw [pl_get]
theorem pl_st0 {μ : Mu} {p q : Int} {d : D} {k : Mu → Prop} : stL (.loc μ.length) (.int 0) d (pl μ p q) k = k (μ ++ [.lst [d, .int q]]) := by
  unfold stL
  simp only [pl_get, pl_set]
  rfl
theorem pl_st1 {μ : Mu} {p q : Int} {d : D} {k : Mu → Prop} : stL (.loc μ.length) (.int 1) d (pl μ p q) k = k (μ ++ [.lst [.int p, d]]) := by
  unfold stL
  simp only [pl_get, pl_set]
  rfl
theorem atI_nat {α : Type} {xs : List α} {n : Nat} : atI xs (n : Int) = xs[n]? := by
  unfold atI ixN
  rw [if_pos (Int.natCast_nonneg n)]
  by_cases h : (n : Int) < xs.length
  · rw [if_pos h]
    rfl
  · rw [if_neg h]
    have h2 : xs.length ≤ n := by omega
    rw [List.getElem?_eq_none h2]
    rfl
theorem atI_0 {α : Type} {a : α} {r : List α} : atI (a :: r) 0 = some a := atI_nat (n := 0)
theorem atI_1 {α : Type} {a b : α} {r : List α} : atI (a :: b :: r) 1 = some b := atI_nat (n := 1)
theorem atI_2 {α : Type} {a b c : α} {r : List α} : atI (a :: b :: c :: r) 2 = some c := atI_nat (n := 2)
theorem atI_3 {α : Type} {a b c d : α} {r : List α} : atI (a :: b :: c :: d :: r) 3 = some d := atI_nat (n := 3)
theorem items_tup {ds : List D} {μ : Mu} : itemsD (.tup ds) μ = some ds := rfl
theorem items_lst {ds : List D} {μ : Mu} : itemsD (.lst ds) μ = some ds := rfl
theorem items_frl {ds : List D} {μ : Mu} : itemsD (.frl ds) μ = some ds := rfl
/-! ### loops -/
theorem forL_inv {g : WG} {b : WS} {E : DEnds} (I : DS → Mu → Prop) (fin : ∀ ρ μ, I ρ μ → E.nx ρ μ) : ∀ {ds : List D}, (∀ d ∈ ds, ∀ ρ μ (K : DS → Mu → Prop), I ρ μ → (∀ ρ' μ', I ρ' μ' → K ρ' μ') → g d ρ μ fun ρ1 μ1 => b { E with nx := K, ct := K, bk := E.nx } ρ1 μ1) →
    ∀ {ρ μ}, I ρ μ → forL g b E ds ρ μ
  | [], _, ρ, μ, h => by rw [forL]; exact fin ρ μ h
  | d :: ds, step, ρ, μ, h => by
    rw [forL]
    exact step d (by simp) ρ μ _ h fun ρ' μ' h' => forL_inv I fin (fun d hd => step d (by simp [hd])) h'
theorem mem_range {lo : Int} {n : Nat} {d : D} (h : d ∈ rangeD lo n) : ∃ i : Nat, i < n ∧ d = .int (lo + i) := by
  unfold rangeD at h
  obtain ⟨i, hi, rfl⟩ := List.mem_map.mp h
  exact ⟨i, List.mem_range.mp hi, rfl⟩
/-- the script's k-th cell, or 0 -/
theorem cell_of {ns : List Int} {lo hi : Option Int} : ∃ c, atI (cutD (ns.map D.int) lo hi ++ [.int 0]) 0 = some (.int c) := by
  have h : ∀ l : List D, (∀ d ∈ l, ∃ c, d = .int c) → ∃ c, atI (l ++ [.int 0]) 0 = some (.int c) := by
    intro l hl
    cases l with
    | nil => exact ⟨0, atI_0⟩
    | cons d r =>
      obtain ⟨c, rfl⟩ := hl d (by simp)
      exact ⟨c, atI_0⟩
  refine h _ fun d hd => ?_
  unfold cutD at hd
  have h1 := List.mem_of_mem_take hd
  have h2 := List.mem_of_mem_drop h1
  obtain ⟨c, _, rfl⟩ := List.mem_map.mp h2
  exact ⟨c, rfl⟩
theorem cut_few {ns : List Int} {lo hi : Option Int} (h : ns.length ≤ 63) : (cutD (ns.map D.int) lo hi).length + 1 ≤ sizeLine := by
  unfold cutD
  rw [List.length_take, List.length_drop, List.length_map, sizeLine_eq]
  omega
theorem range_zero {lo : Int} : rangeD lo 0 = [] := rfl
theorem range_succ {lo : Int} {n : Nat} : rangeD lo (n + 1) = .int lo :: rangeD (lo + 1) n := by
  unfold rangeD
  rw [List.range_succ_eq_map, List.map_cons, List.map_map]
  congr 1
  · simp
  · refine List.map_congr_left fun i _ => ?_
    show D.int (lo + ((i + 1 : Nat) : Int)) = D.int (lo + 1 + (i : Int))
    congr 1
    omega
/-- how many turns: at least one, at most eight -/
def turns (n m : Nat) : Int := if (if (m : Int) < n then (m : Int) else n) > 1 then (if (m : Int) < n then (m : Int) else n) else 1
theorem turns_ok {n m : Nat} (hm : m ≤ 1000) : -2 ^ 62 ≤ turns n m ∧ turns n m < 2 ^ 62 ∧ (turns n m).toNat ≤ m + 1 := by
  unfold turns
  split <;> split <;> omega
theorem mul_bd {a b A B : Int} (h1 : -A ≤ a) (h2 : a ≤ A) (h3 : 0 ≤ b) (h4 : b ≤ B) : -(A * B) ≤ a * b ∧ a * b ≤ A * B := by
  have hA : 0 ≤ A := by omega
  have k1 : a * b ≤ A * b := Int.mul_le_mul_of_nonneg_right h2 h3
  have k2 : A * b ≤ A * B := Int.mul_le_mul_of_nonneg_left h4 hA
  have k3 : -A * b ≤ a * b := Int.mul_le_mul_of_nonneg_right h1 h3
  have k4 : -A * b = -(A * b) := Int.neg_mul A b
  omega
end DL

set_option Elab.async false
set_option linter.all false
set_option maxRecDepth 100000
set_option maxHeartbeats 4000000
set_option autoImplicit false
set_option exponentiation.threshold 3000
namespace DL
open PySem PySem.Spec PyProof.Rows L2
/-! ### what is read is worked out from the head: frames and their equations -/
def KVar (o : Option Sl) (μ : Mu) (Q : D → Mu → Prop) : Prop := match o with
  | some (.v d) => Q d μ
  | _ => False
theorem r_var {i : Nat} {ρ : DS} {μ : Mu} {Q : D → Mu → Prop} {Xd : XD} : wVar i ρ μ Q Xd = KVar (ρ[i]?) μ Q := propext Iff.rfl
theorem r_var2 {d : D} {μ : Mu} {Q : D → Mu → Prop} : KVar (some (.v d)) μ Q = Q d μ := propext Iff.rfl
theorem r_c {d : D} {ρ : DS} {μ : Mu} {Q : D → Mu → Prop} {Xd : XD} : DL.wC d ρ μ Q Xd = Q d μ := propext Iff.rfl
def K2b (f : F2) (x : D) (Q : D → Mu → Prop) : D → Mu → Prop := fun y μ => f x y μ Q
def K2a (f : F2) (wb : WE) (ρ : DS) (Q : D → Mu → Prop) (Xd : XD) : D → Mu → Prop := fun x μ => wb ρ μ (K2b f x Q) Xd
theorem r_w2 {f : F2} {wa wb : WE} {ρ : DS} {μ : Mu} {Q : D → Mu → Prop} {Xd : XD} : DL.w2 f wa wb ρ μ Q Xd = wa ρ μ (K2a f wb ρ Q Xd) Xd := propext Iff.rfl
theorem r_w2a {f : F2} {wb : WE} {x : D} {ρ : DS} {μ : Mu} {Q : D → Mu → Prop} {Xd : XD} : K2a f wb ρ Q Xd x μ = wb ρ μ (K2b f x Q) Xd := propext Iff.rfl
theorem r_w2b {f : F2} {x y : D} {μ : Mu} {Q : D → Mu → Prop} : K2b f x Q y μ = f x y μ Q := propext Iff.rfl
def K1 (f : F1) (Q : D → Mu → Prop) : D → Mu → Prop := fun x μ => f x μ Q
theorem r_w1 {f : F1} {wa : WE} {ρ : DS} {μ : Mu} {Q : D → Mu → Prop} {Xd : XD} : DL.w1 f wa ρ μ Q Xd = wa ρ μ (K1 f Q) Xd := propext Iff.rfl
theorem r_w1a {f : F1} {x : D} {μ : Mu} {Q : D → Mu → Prop} : K1 f Q x μ = f x μ Q := propext Iff.rfl
def KB (Q : Bool → Mu → Prop) : D → Mu → Prop := fun d μ => fBool d fun b => Q b μ
theorem r_wB {w : WE} {ρ : DS} {μ : Mu} {Q : Bool → Mu → Prop} {Xd : XD} : wB w ρ μ Q Xd = w ρ μ (KB Q) Xd := propext Iff.rfl
theorem r_wBa {b : Bool} {μ : Mu} {Q : Bool → Mu → Prop} : KB Q (.bl b) μ = Q b μ := propext Iff.rfl
def KCh3 (f' : F2) (wc : WE) (y : D) (ρ : DS) (Q : D → Mu → Prop) (Xd : XD) : D → Mu → Prop := fun z μ3 => fBool z fun k => if k = true then wc ρ μ3 (fun w' μ4 => f' y w' μ4 Q) Xd else Q (.bl false) μ3
def KCh2 (f f' : F2) (wc : WE) (x : D) (ρ : DS) (Q : D → Mu → Prop) (Xd : XD) : D → Mu → Prop := fun y μ2 => f x y μ2 (KCh3 f' wc y ρ Q Xd)
def KCh1 (f f' : F2) (wb wc : WE) (ρ : DS) (Q : D → Mu → Prop) (Xd : XD) : D → Mu → Prop := fun x μ1 => wb ρ μ1 (KCh2 f f' wc x ρ Q Xd) Xd
theorem r_ch {f f' : F2} {wa wb wc : WE} {ρ : DS} {μ : Mu} {Q : D → Mu → Prop} {Xd : XD} : wChain f f' wa wb wc ρ μ Q Xd = wa ρ μ (KCh1 f f' wb wc ρ Q Xd) Xd := propext Iff.rfl
theorem r_ch1 {f f' : F2} {wb wc : WE} {x : D} {ρ : DS} {μ : Mu} {Q : D → Mu → Prop} {Xd : XD} : KCh1 f f' wb wc ρ Q Xd x μ = wb ρ μ (KCh2 f f' wc x ρ Q Xd) Xd := propext Iff.rfl
theorem r_ch2 {f f' : F2} {wc : WE} {x y : D} {ρ : DS} {μ : Mu} {Q : D → Mu → Prop} {Xd : XD} : KCh2 f f' wc x ρ Q Xd y μ = f x y μ (KCh3 f' wc y ρ Q Xd) := propext Iff.rfl
theorem r_ch3t {f' : F2} {wc : WE} {y : D} {ρ : DS} {μ : Mu} {Q : D → Mu → Prop} {Xd : XD} : KCh3 f' wc y ρ Q Xd (.bl true) μ = wc ρ μ (K2b f' y Q) Xd := propext Iff.rfl
theorem r_ch3f {f' : F2} {wc : WE} {y : D} {ρ : DS} {μ : Mu} {Q : D → Mu → Prop} {Xd : XD} : KCh3 f' wc y ρ Q Xd (.bl false) μ = Q (.bl false) μ := propext Iff.rfl
def KAnd (u : WT) (ρ : DS) (Q : Bool → Mu → Prop) (Xd : XD) : Bool → Mu → Prop := fun c μ1 => if c = true then u ρ μ1 Q Xd else Q false μ1
def KOr (u : WT) (ρ : DS) (Q : Bool → Mu → Prop) (Xd : XD) : Bool → Mu → Prop := fun c μ1 => if c = true then Q true μ1 else u ρ μ1 Q Xd
def KNot (Q : Bool → Mu → Prop) : Bool → Mu → Prop := fun c μ1 => Q (!c) μ1
theorem r_and {t u : WT} {ρ : DS} {μ : Mu} {Q : Bool → Mu → Prop} {Xd : XD} : wAnd t u ρ μ Q Xd = t ρ μ (KAnd u ρ Q Xd) Xd := propext Iff.rfl
theorem r_andt {u : WT} {ρ : DS} {μ : Mu} {Q : Bool → Mu → Prop} {Xd : XD} : KAnd u ρ Q Xd true μ = u ρ μ Q Xd := propext Iff.rfl
theorem r_andf {u : WT} {ρ : DS} {μ : Mu} {Q : Bool → Mu → Prop} {Xd : XD} : KAnd u ρ Q Xd false μ = Q false μ := propext Iff.rfl
theorem r_or {t u : WT} {ρ : DS} {μ : Mu} {Q : Bool → Mu → Prop} {Xd : XD} : wOr t u ρ μ Q Xd = t ρ μ (KOr u ρ Q Xd) Xd := propext Iff.rfl
theorem r_ort {u : WT} {ρ : DS} {μ : Mu} {Q : Bool → Mu → Prop} {Xd : XD} : KOr u ρ Q Xd true μ = Q true μ := propext Iff.rfl
theorem r_orf {u : WT} {ρ : DS} {μ : Mu} {Q : Bool → Mu → Prop} {Xd : XD} : KOr u ρ Q Xd false μ = u ρ μ Q Xd := propext Iff.rfl
theorem r_not {t : WT} {ρ : DS} {μ : Mu} {Q : Bool → Mu → Prop} {Xd : XD} : DL.wNot t ρ μ Q Xd = t ρ μ (KNot Q) Xd := propext Iff.rfl
theorem r_nota {c : Bool} {μ : Mu} {Q : Bool → Mu → Prop} : KNot Q c μ = Q (!c) μ := propext Iff.rfl
def KIfE (wa wb : WE) (ρ : DS) (Q : D → Mu → Prop) (Xd : XD) : Bool → Mu → Prop := fun k μ1 => if k = true then wa ρ μ1 Q Xd else wb ρ μ1 Q Xd
theorem r_ife {t : WT} {wa wb : WE} {ρ : DS} {μ : Mu} {Q : D → Mu → Prop} {Xd : XD} : wIf t wa wb ρ μ Q Xd = t ρ μ (KIfE wa wb ρ Q Xd) Xd := propext Iff.rfl
theorem r_ifet {wa wb : WE} {ρ : DS} {μ : Mu} {Q : D → Mu → Prop} {Xd : XD} : KIfE wa wb ρ Q Xd true μ = wa ρ μ Q Xd := propext Iff.rfl
theorem r_ifef {wa wb : WE} {ρ : DS} {μ : Mu} {Q : D → Mu → Prop} {Xd : XD} : KIfE wa wb ρ Q Xd false μ = wb ρ μ Q Xd := propext Iff.rfl
def KAndV (wb : WE) (ρ : DS) (Q : D → Mu → Prop) (Xd : XD) : D → Mu → Prop := fun x μ1 => fBool x fun k => if k = true then wb ρ μ1 Q Xd else Q (.bl false) μ1
def KOrV (wb : WE) (ρ : DS) (Q : D → Mu → Prop) (Xd : XD) : D → Mu → Prop := fun x μ1 => fBool x fun k => if k = true then Q (.bl true) μ1 else wb ρ μ1 Q Xd
theorem r_andv {wa wb : WE} {ρ : DS} {μ : Mu} {Q : D → Mu → Prop} {Xd : XD} : wAndV wa wb ρ μ Q Xd = wa ρ μ (KAndV wb ρ Q Xd) Xd := propext Iff.rfl
theorem r_andvt {wb : WE} {ρ : DS} {μ : Mu} {Q : D → Mu → Prop} {Xd : XD} : KAndV wb ρ Q Xd (.bl true) μ = wb ρ μ Q Xd := propext Iff.rfl
theorem r_andvf {wb : WE} {ρ : DS} {μ : Mu} {Q : D → Mu → Prop} {Xd : XD} : KAndV wb ρ Q Xd (.bl false) μ = Q (.bl false) μ := propext Iff.rfl
theorem r_orv {wa wb : WE} {ρ : DS} {μ : Mu} {Q : D → Mu → Prop} {Xd : XD} : wOrV wa wb ρ μ Q Xd = wa ρ μ (KOrV wb ρ Q Xd) Xd := propext Iff.rfl
theorem r_orvt {wb : WE} {ρ : DS} {μ : Mu} {Q : D → Mu → Prop} {Xd : XD} : KOrV wb ρ Q Xd (.bl true) μ = Q (.bl true) μ := propext Iff.rfl
theorem r_orvf {wb : WE} {ρ : DS} {μ : Mu} {Q : D → Mu → Prop} {Xd : XD} : KOrV wb ρ Q Xd (.bl false) μ = wb ρ μ Q Xd := propext Iff.rfl
def KNotV (Q : D → Mu → Prop) : D → Mu → Prop := fun x μ1 => fBool x fun k => Q (.bl (!k)) μ1
theorem r_notv {wa : WE} {ρ : DS} {μ : Mu} {Q : D → Mu → Prop} {Xd : XD} : wNotV wa ρ μ Q Xd = wa ρ μ (KNotV Q) Xd := propext Iff.rfl
theorem r_notva {b : Bool} {μ : Mu} {Q : D → Mu → Prop} : KNotV Q (.bl b) μ = Q (.bl (!b)) μ := propext Iff.rfl
theorem r_nil {ρ : DS} {μ : Mu} {Q : List D → Mu → Prop} {Xd : XD} : DL.wNil ρ μ Q Xd = Q [] μ := propext Iff.rfl
def KA2 (d : D) (Q : List D → Mu → Prop) : List D → Mu → Prop := fun ds μ2 => Q (d :: ds) μ2
def KA1 (wr : WA) (ρ : DS) (Q : List D → Mu → Prop) (Xd : XD) : D → Mu → Prop := fun d μ1 => wr ρ μ1 (KA2 d Q) Xd
theorem r_cons {wa : WE} {wr : WA} {ρ : DS} {μ : Mu} {Q : List D → Mu → Prop} {Xd : XD} : DL.wCons wa wr ρ μ Q Xd = wa ρ μ (KA1 wr ρ Q Xd) Xd := propext Iff.rfl
theorem r_cons1 {wr : WA} {d : D} {ρ : DS} {μ : Mu} {Q : List D → Mu → Prop} {Xd : XD} : KA1 wr ρ Q Xd d μ = wr ρ μ (KA2 d Q) Xd := propext Iff.rfl
theorem r_cons2 {d : D} {ds : List D} {μ : Mu} {Q : List D → Mu → Prop} : KA2 d Q ds μ = Q (d :: ds) μ := propext Iff.rfl
def KTup (Q : D → Mu → Prop) : List D → Mu → Prop := fun ds μ1 => ds.length ≤ 1000 ∧ Q (.tup ds) μ1
theorem r_tup {wa : WA} {ρ : DS} {μ : Mu} {Q : D → Mu → Prop} {Xd : XD} : wTup wa ρ μ Q Xd = wa ρ μ (KTup Q) Xd := propext Iff.rfl
theorem r_tupa {ds : List D} {μ : Mu} {Q : D → Mu → Prop} : KTup Q ds μ = (ds.length ≤ 1000 ∧ Q (.tup ds) μ) := propext Iff.rfl
def KLst (Q : D → Mu → Prop) : List D → Mu → Prop := fun ds μ1 => ds.length ≤ 1000 ∧ Q (.lst ds) μ1
theorem r_lst {wa : WA} {ρ : DS} {μ : Mu} {Q : D → Mu → Prop} {Xd : XD} : wLst wa ρ μ Q Xd = wa ρ μ (KLst Q) Xd := propext Iff.rfl
theorem r_lsta {ds : List D} {μ : Mu} {Q : D → Mu → Prop} : KLst Q ds μ = (ds.length ≤ 1000 ∧ Q (.lst ds) μ) := propext Iff.rfl
def KLstC (Q : D → Mu → Prop) : List D → Mu → Prop := fun ds μ1 => ds.length ≤ 1000 ∧ Q (.loc μ1.length) (μ1 ++ [.lst ds])
theorem r_lstc {wa : WA} {ρ : DS} {μ : Mu} {Q : D → Mu → Prop} {Xd : XD} : wLstC wa ρ μ Q Xd = wa ρ μ (KLstC Q) Xd := propext Iff.rfl
theorem r_lstca {ds : List D} {μ : Mu} {Q : D → Mu → Prop} : KLstC Q ds μ = (ds.length ≤ 1000 ∧ Q (.loc μ.length) (μ ++ [.lst ds])) := propext Iff.rfl
def KN (f : FN) (Q : D → Mu → Prop) : List D → Mu → Prop := fun ds μ1 => f ds μ1 Q
theorem r_wn {f : FN} {wa : WA} {ρ : DS} {μ : Mu} {Q : D → Mu → Prop} {Xd : XD} : DL.wN f wa ρ μ Q Xd = wa ρ μ (KN f Q) Xd := propext Iff.rfl
theorem r_wna {f : FN} {ds : List D} {μ : Mu} {Q : D → Mu → Prop} : KN f Q ds μ = f ds μ Q := propext Iff.rfl
def KCall (sp : DSp) (Q : D → Mu → Prop) (Xd : XD) : List D → Mu → Prop := fun ds μ1 => sp ds μ1 Q Xd
theorem r_call {sp : DSp} {wa : WA} {ρ : DS} {μ : Mu} {Q : D → Mu → Prop} {Xd : XD} : wCall sp wa ρ μ Q Xd = wa ρ μ (KCall sp Q Xd) Xd := propext Iff.rfl
theorem r_calla {sp : DSp} {ds : List D} {μ : Mu} {Q : D → Mu → Prop} {Xd : XD} : KCall sp Q Xd ds μ = sp ds μ Q Xd := propext Iff.rfl
def KMk2 (c : Str) (Q : D → Mu → Prop) : List Str → List D → Mu → Prop := fun ks es μ2 => Q (.obj c ks es) μ2
def KMk1 (c : Str) (sp : ISp) (Q : D → Mu → Prop) (Xd : XD) : List D → Mu → Prop := fun ds μ1 => sp ds μ1 (KMk2 c Q) Xd
theorem r_mk {c : Str} {sp : ISp} {wa : WA} {ρ : DS} {μ : Mu} {Q : D → Mu → Prop} {Xd : XD} : wMake c sp wa ρ μ Q Xd = wa ρ μ (KMk1 c sp Q Xd) Xd := propext Iff.rfl
theorem r_mk1 {c : Str} {sp : ISp} {ds : List D} {μ : Mu} {Q : D → Mu → Prop} {Xd : XD} : KMk1 c sp Q Xd ds μ = sp ds μ (KMk2 c Q) Xd := propext Iff.rfl
theorem r_mk2 {c : Str} {ks : List Str} {es : List D} {μ : Mu} {Q : D → Mu → Prop} : KMk2 c Q ks es μ = Q (.obj c ks es) μ := propext Iff.rfl
def KMkC2 (c : Str) (Q : D → Mu → Prop) : List Str → List D → Mu → Prop := fun ks es μ2 => Q (.loc μ2.length) (μ2 ++ [.ins c ks es])
def KMkC1 (c : Str) (sp : ISp) (Q : D → Mu → Prop) (Xd : XD) : List D → Mu → Prop := fun ds μ1 => sp ds μ1 (KMkC2 c Q) Xd
theorem r_mkc {c : Str} {sp : ISp} {wa : WA} {ρ : DS} {μ : Mu} {Q : D → Mu → Prop} {Xd : XD} : wMakeC c sp wa ρ μ Q Xd = wa ρ μ (KMkC1 c sp Q Xd) Xd := propext Iff.rfl
theorem r_mkc1 {c : Str} {sp : ISp} {ds : List D} {μ : Mu} {Q : D → Mu → Prop} {Xd : XD} : KMkC1 c sp Q Xd ds μ = sp ds μ (KMkC2 c Q) Xd := propext Iff.rfl
theorem r_mkc2 {c : Str} {ks : List Str} {es : List D} {μ : Mu} {Q : D → Mu → Prop} : KMkC2 c Q ks es μ = Q (.loc μ.length) (μ ++ [.ins c ks es]) := propext Iff.rfl
def KMe2 (sp : DSp) (x : D) (Q : D → Mu → Prop) (Xd : XD) : List D → Mu → Prop := fun ds μ2 => sp (x :: ds) μ2 Q Xd
def KMe1 (c m : Str) (sp : DSp) (wa : WA) (ρ : DS) (Q : D → Mu → Prop) (Xd : XD) : D → Mu → Prop := fun x μ1 => hasCls c m x μ1 (wa ρ μ1 (KMe2 sp x Q Xd) Xd)
theorem r_me {c m : Str} {sp : DSp} {wo : WE} {wa : WA} {ρ : DS} {μ : Mu} {Q : D → Mu → Prop} {Xd : XD} : wMeth c m sp wo wa ρ μ Q Xd = wo ρ μ (KMe1 c m sp wa ρ Q Xd) Xd := propext Iff.rfl
theorem r_me1 {c m : Str} {sp : DSp} {wa : WA} {x : D} {ρ : DS} {μ : Mu} {Q : D → Mu → Prop} {Xd : XD} : KMe1 c m sp wa ρ Q Xd x μ = hasCls c m x μ (wa ρ μ (KMe2 sp x Q Xd) Xd) := propext Iff.rfl
theorem r_me2 {sp : DSp} {x : D} {ds : List D} {μ : Mu} {Q : D → Mu → Prop} {Xd : XD} : KMe2 sp x Q Xd ds μ = sp (x :: ds) μ Q Xd := propext Iff.rfl
def KBo2 (c : Str) (Ts : List String) (sp : DSp) (x : D) (Q : D → Mu → Prop) (Xd : XD) : D → Mu → Prop := fun y μ2 => isCls c x μ2 (othTy c Ts y μ2 (sp [x, y] μ2 Q Xd))
def KBo1 (c : Str) (Ts : List String) (sp : DSp) (wb : WE) (ρ : DS) (Q : D → Mu → Prop) (Xd : XD) : D → Mu → Prop := fun x μ1 => wb ρ μ1 (KBo2 c Ts sp x Q Xd) Xd
theorem r_bo {c : Str} {Ts : List String} {sp : DSp} {wa wb : WE} {ρ : DS} {μ : Mu} {Q : D → Mu → Prop} {Xd : XD} : wBinO c Ts sp wa wb ρ μ Q Xd = wa ρ μ (KBo1 c Ts sp wb ρ Q Xd) Xd := propext Iff.rfl
theorem r_bo1 {c : Str} {Ts : List String} {sp : DSp} {wb : WE} {x : D} {ρ : DS} {μ : Mu} {Q : D → Mu → Prop} {Xd : XD} : KBo1 c Ts sp wb ρ Q Xd x μ = wb ρ μ (KBo2 c Ts sp x Q Xd) Xd := propext Iff.rfl
theorem r_bo2 {c : Str} {Ts : List String} {sp : DSp} {x y : D} {μ : Mu} {Q : D → Mu → Prop} {Xd : XD} : KBo2 c Ts sp x Q Xd y μ = isCls c x μ (othTy c Ts y μ (sp [x, y] μ Q Xd)) := propext Iff.rfl
theorem r_onone {ρ : DS} {μ : Mu} {Q : Option Int → Mu → Prop} {Xd : XD} : oNone ρ μ Q Xd = Q none μ := propext Iff.rfl
def KOs (Q : Option Int → Mu → Prop) : D → Mu → Prop := fun d μ1 => intOr d fun i => Q (some i) μ1
theorem r_osome {wa : WE} {ρ : DS} {μ : Mu} {Q : Option Int → Mu → Prop} {Xd : XD} : oSome wa ρ μ Q Xd = wa ρ μ (KOs Q) Xd := propext Iff.rfl
theorem r_osomea {i : Int} {μ : Mu} {Q : Option Int → Mu → Prop} : KOs Q (.int i) μ = Q (some i) μ := propext Iff.rfl
def KSl3 (x : D) (l : Option Int) (Q : D → Mu → Prop) : Option Int → Mu → Prop := fun u μ3 => lstOr x fun ds => Q (.lst (DL.cutD ds l u)) μ3
def KSl2 (hi : WO) (x : D) (ρ : DS) (Q : D → Mu → Prop) (Xd : XD) : Option Int → Mu → Prop := fun l μ2 => hi ρ μ2 (KSl3 x l Q) Xd
def KSl1 (lo hi : WO) (ρ : DS) (Q : D → Mu → Prop) (Xd : XD) : D → Mu → Prop := fun x μ1 => lo ρ μ1 (KSl2 hi x ρ Q Xd) Xd
theorem r_sl {wa : WE} {lo hi : WO} {ρ : DS} {μ : Mu} {Q : D → Mu → Prop} {Xd : XD} : wSl wa lo hi ρ μ Q Xd = wa ρ μ (KSl1 lo hi ρ Q Xd) Xd := propext Iff.rfl
theorem r_sl1 {lo hi : WO} {x : D} {ρ : DS} {μ : Mu} {Q : D → Mu → Prop} {Xd : XD} : KSl1 lo hi ρ Q Xd x μ = lo ρ μ (KSl2 hi x ρ Q Xd) Xd := propext Iff.rfl
theorem r_sl2 {hi : WO} {x : D} {l : Option Int} {ρ : DS} {μ : Mu} {Q : D → Mu → Prop} {Xd : XD} : KSl2 hi x ρ Q Xd l μ = hi ρ μ (KSl3 x l Q) Xd := propext Iff.rfl
theorem r_sl3 {ds : List D} {l u : Option Int} {μ : Mu} {Q : D → Mu → Prop} : KSl3 (.lst ds) l Q u μ = Q (.lst (DL.cutD ds l u)) μ := propext Iff.rfl
theorem r_sl3f {ds : List D} {l u : Option Int} {μ : Mu} {Q : D → Mu → Prop} : KSl3 (.frl ds) l Q u μ = Q (.lst (DL.cutD ds l u)) μ := propext Iff.rfl
theorem r_ii {C : Int → Int → Prop} {g : Int → Int → Int} {i j : Int} {μ : Mu} {Q : D → Mu → Prop} : fII C g (.int i) (.int j) μ Q = (C i j ∧ Q (.int (g i j)) μ) := propext Iff.rfl
theorem r_ii0 {g : Int → Int → Int} {i j : Int} {μ : Mu} {Q : D → Mu → Prop} : fII0 g (.int i) (.int j) μ Q = Q (.int (g i j)) μ := propext Iff.rfl
theorem r_ib {g : Int → Int → Bool} {i j : Int} {μ : Mu} {Q : D → Mu → Prop} : fIB g (.int i) (.int j) μ Q = Q (.bl (g i j)) μ := propext Iff.rfl
theorem r_i1 {g : Int → Int} {i : Int} {μ : Mu} {Q : D → Mu → Prop} : fI g (.int i) μ Q = Q (.int (g i)) μ := propext Iff.rfl
theorem r_plus {i j : Int} {μ : Mu} {Q : D → Mu → Prop} : fPlus (.int i) (.int j) μ Q = Q (.int (i + j)) μ := propext Iff.rfl
theorem r_plusl {a b : List D} {μ : Mu} {Q : D → Mu → Prop} : fPlus (.lst a) (.lst b) μ Q = (a.length + b.length ≤ sizeLine ∧ Q (.lst (a ++ b)) μ) := propext Iff.rfl
theorem r_times {i j : Int} {μ : Mu} {Q : D → Mu → Prop} : fTimes (.int i) (.int j) μ Q = (CM i j ∧ Q (.int (i * j)) μ) := propext Iff.rfl
theorem r_timesl {a : List D} {n : Int} {μ : Mu} {Q : D → Mu → Prop} : fTimes (.lst a) (.int n) μ Q = (-(2 ^ 63) ≤ n ∧ n < 2 ^ 63 ∧ a.length * n.toNat ≤ sizeLine ∧ Q (.lst (List.replicate n.toNat a).flatten) μ) := propext Iff.rfl
theorem r_isn {x : D} {μ : Mu} {Q : D → Mu → Prop} : fIsN x .non μ Q = Q (.bl (DL.isNon x)) μ := propext Iff.rfl
theorem r_notn {x : D} {μ : Mu} {Q : D → Mu → Prop} : fNotN x .non μ Q = Q (.bl (!DL.isNon x)) μ := propext Iff.rfl
theorem r_eqd {x y : D} {μ : Mu} {Q : D → Mu → Prop} : fEqD x y μ Q = eqD x y fun b => Q (.bl b) μ := propext Iff.rfl
theorem r_ned {x y : D} {μ : Mu} {Q : D → Mu → Prop} : fNeD x y μ Q = eqD x y fun b => Q (.bl (!b)) μ := propext Iff.rfl
theorem r_int1 {i : Int} {μ : Mu} {Q : D → Mu → Prop} : fInt1 [.int i] μ Q = Q (.int i) μ := propext Iff.rfl
theorem r_int1b {b : Bool} {μ : Mu} {Q : D → Mu → Prop} : fInt1 [.bl b] μ Q = Q (.int (if b then 1 else 0)) μ := propext Iff.rfl
theorem r_max2 {i j : Int} {μ : Mu} {Q : D → Mu → Prop} : fMax2 [.int i, .int j] μ Q = Q (.int (if j > i then j else i)) μ := propext Iff.rfl
theorem r_min2 {i j : Int} {μ : Mu} {Q : D → Mu → Prop} : fMin2 [.int i, .int j] μ Q = Q (.int (if j < i then j else i)) μ := propext Iff.rfl
theorem r_abs {i : Int} {μ : Mu} {Q : D → Mu → Prop} : fAbs [.int i] μ Q = Q (.int (if i < 0 then -i else i)) μ := propext Iff.rfl
def KIx (o : Option (List D)) (i : Int) (μ : Mu) (Q : D → Mu → Prop) : Prop := match o with
  | some ds => (match atI ds i with
    | some d => Q d μ
    | none => False)
  | none => False
theorem r_ix {x : D} {i : Int} {μ : Mu} {Q : D → Mu → Prop} : fIx x (.int i) μ Q = KIx (itemsD x μ) i μ Q := by
  unfold fIx KIx
  cases itemsD x μ <;> exact propext Iff.rfl
def KIx2 (o : Option D) (μ : Mu) (Q : D → Mu → Prop) : Prop := match o with
  | some d => Q d μ
  | none => False
theorem r_ix2 {ds : List D} {i : Int} {μ : Mu} {Q : D → Mu → Prop} : KIx (some ds) i μ Q = KIx2 (atI ds i) μ Q := propext Iff.rfl
theorem r_ix3 {d : D} {μ : Mu} {Q : D → Mu → Prop} : KIx2 (some d) μ Q = Q d μ := propext Iff.rfl
def KLen (o : Option (List D)) (μ : Mu) (Q : D → Mu → Prop) : Prop := match o with
  | some ds => Q (.int ds.length) μ
  | none => False
theorem r_len {x : D} {μ : Mu} {Q : D → Mu → Prop} : fLen [x] μ Q = KLen (itemsD x μ) μ Q := propext Iff.rfl
theorem r_len2 {ds : List D} {μ : Mu} {Q : D → Mu → Prop} : KLen (some ds) μ Q = Q (.int ds.length) μ := propext Iff.rfl
def KIsi (o : Option Bool) (μ : Mu) (Q : D → Mu → Prop) : Prop := match o with
  | some b => Q (.bl b) μ
  | none => False
theorem r_isi {f : TyN → TyN → Option Bool} {x c : D} {μ : Mu} {Q : D → Mu → Prop} : fIsi f [x, c] μ Q = KIsi (isiD f x c μ) μ Q := propext Iff.rfl
theorem r_isi2 {b : Bool} {μ : Mu} {Q : D → Mu → Prop} : KIsi (some b) μ Q = Q (.bl b) μ := propext Iff.rfl
def KFld2 (o : Option D) (μ : Mu) (Q : D → Mu → Prop) : Prop := match o with
  | some d => Q d μ
  | none => False
def KFld (c f : Str) (o : Option (Str × List Str × List D)) (μ : Mu) (Q : D → Mu → Prop) : Prop := match o with
  | some (c', ks, ds) => c' = c ∧ KFld2 (fldOf f ks ds) μ Q
  | none => False
theorem r_fld {c f : Str} {x : D} {μ : Mu} {Q : D → Mu → Prop} : fFld c f x μ Q = KFld c f (insD x μ) μ Q := by
  unfold fFld KFld KFld2
  exact propext Iff.rfl
theorem r_fld2 {c f c' : Str} {ks : List Str} {ds : List D} {μ : Mu} {Q : D → Mu → Prop} : KFld c f (some (c', ks, ds)) μ Q = (c' = c ∧ KFld2 (fldOf f ks ds) μ Q) := propext Iff.rfl
theorem r_fld3 {d : D} {μ : Mu} {Q : D → Mu → Prop} : KFld2 (some d) μ Q = Q d μ := propext Iff.rfl
theorem r_insobj {c : Str} {ks : List Str} {ds : List D} {μ : Mu} : insD (.obj c ks ds) μ = some (c, ks, ds) := rfl
def KX (E : DEnds) (ρ : DS) : XD := fun c ks es μ => E.xc c ks es ρ μ
theorem r_kx {c : Str} {ks : List Str} {es : List D} {E : DEnds} {ρ : DS} {μ : Mu} : KX E ρ c ks es μ = E.xc c ks es ρ μ := propext Iff.rfl
theorem r_next {E : DEnds} {ρ : DS} {μ : Mu} : sNext E ρ μ = E.nx ρ μ := propext Iff.rfl
theorem r_never {E : DEnds} {ρ : DS} {μ : Mu} : sNever E ρ μ = False := propext Iff.rfl
def KSeq (b : WS) (E : DEnds) : DS → Mu → Prop := fun ρ μ => b E ρ μ
theorem r_seq {a b : WS} {E : DEnds} {ρ : DS} {μ : Mu} : sSeq a b E ρ μ = a { E with nx := KSeq b E } ρ μ := propext Iff.rfl
theorem r_seqa {b : WS} {E : DEnds} {ρ : DS} {μ : Mu} : KSeq b E ρ μ = b E ρ μ := propext Iff.rfl
def KIf (a b : WS) (E : DEnds) (ρ : DS) : Bool → Mu → Prop := fun c μ1 => if c = true then a E ρ μ1 else b E ρ μ1
theorem r_if {t : WT} {a b : WS} {E : DEnds} {ρ : DS} {μ : Mu} : sIf t a b E ρ μ = t ρ μ (KIf a b E ρ) (KX E ρ) := propext Iff.rfl
theorem r_ift {a b : WS} {E : DEnds} {ρ : DS} {μ : Mu} : KIf a b E ρ true μ = a E ρ μ := propext Iff.rfl
theorem r_iff {a b : WS} {E : DEnds} {ρ : DS} {μ : Mu} : KIf a b E ρ false μ = b E ρ μ := propext Iff.rfl
theorem r_ret {wa : WE} {E : DEnds} {ρ : DS} {μ : Mu} : sRet wa E ρ μ = wa ρ μ E.rt (KX E ρ) := propext Iff.rfl
theorem r_retn {E : DEnds} {ρ : DS} {μ : Mu} : sRetN E ρ μ = E.rt .non μ := propext Iff.rfl
theorem r_brk {E : DEnds} {ρ : DS} {μ : Mu} : sBreak E ρ μ = E.bk ρ μ := propext Iff.rfl
theorem r_cnt {E : DEnds} {ρ : DS} {μ : Mu} : sCont E ρ μ = E.ct ρ μ := propext Iff.rfl
def KDrop (E : DEnds) (ρ : DS) : D → Mu → Prop := fun _ μ1 => E.nx ρ μ1
theorem r_drop {wa : WE} {E : DEnds} {ρ : DS} {μ : Mu} : sDrop wa E ρ μ = wa ρ μ (KDrop E ρ) (KX E ρ) := propext Iff.rfl
theorem r_dropa {d : D} {E : DEnds} {ρ : DS} {μ : Mu} : KDrop E ρ d μ = E.nx ρ μ := propext Iff.rfl
def KSet (i : Nat) (E : DEnds) (ρ : DS) : D → Mu → Prop := fun d μ1 => E.nx (ρ.set i (.v d)) μ1
theorem r_set {i : Nat} {wa : WE} {E : DEnds} {ρ : DS} {μ : Mu} : sSet i wa E ρ μ = wa ρ μ (KSet i E ρ) (KX E ρ) := propext Iff.rfl
theorem r_seta {i : Nat} {d : D} {E : DEnds} {ρ : DS} {μ : Mu} : KSet i E ρ d μ = E.nx (ρ.set i (.v d)) μ := propext Iff.rfl
def KAsg (g : WG) (E : DEnds) (ρ : DS) : D → Mu → Prop := fun d μ1 => g d ρ μ1 E.nx
theorem r_asg {g : WG} {wa : WE} {E : DEnds} {ρ : DS} {μ : Mu} : sAsg wa g E ρ μ = wa ρ μ (KAsg g E ρ) (KX E ρ) := propext Iff.rfl
theorem r_asga {g : WG} {d : D} {E : DEnds} {ρ : DS} {μ : Mu} : KAsg g E ρ d μ = g d ρ μ E.nx := propext Iff.rfl
theorem r_name {i : Nat} {d : D} {ρ : DS} {μ : Mu} {Q : DS → Mu → Prop} : kName i d ρ μ Q = Q (ρ.set i (.v d)) μ := propext Iff.rfl
theorem r_namec {i : Nat} {d : D} {ρ : DS} {μ : Mu} {Q : DS → Mu → Prop} : kNameC i d ρ μ Q = (notOwn ρ i ∧ Q (ρ.set i (.v d)) μ) := propext Iff.rfl
theorem r_ktup {n : Nat} {gs : WGs} {ds : List D} {ρ : DS} {μ : Mu} {Q : DS → Mu → Prop} : kTup n gs (.tup ds) ρ μ Q = (ds.length = n ∧ gs ds ρ μ Q) := propext Iff.rfl
theorem r_kunl {n : Nat} {gs : WGs} {ds : List D} {ρ : DS} {μ : Mu} {Q : DS → Mu → Prop} : kUnl n gs (.lst ds) ρ μ Q = (ds.length = n ∧ gs ds ρ μ Q) := propext Iff.rfl
def KCs (gs : WGs) (r : List D) (Q : DS → Mu → Prop) : DS → Mu → Prop := fun ρ1 μ1 => gs r ρ1 μ1 Q
theorem r_kcons {g : WG} {gs : WGs} {d : D} {r : List D} {ρ : DS} {μ : Mu} {Q : DS → Mu → Prop} : kCons g gs (d :: r) ρ μ Q = g d ρ μ (KCs gs r Q) := propext Iff.rfl
theorem r_kcs {gs : WGs} {r : List D} {ρ : DS} {μ : Mu} {Q : DS → Mu → Prop} : KCs gs r Q ρ μ = gs r ρ μ Q := propext Iff.rfl
theorem r_knil {ρ : DS} {μ : Mu} {Q : DS → Mu → Prop} : kNil [] ρ μ Q = Q ρ μ := propext Iff.rfl
theorem r_par2 {i j : Nat} {wa : WA} {E : DEnds} {ρ : DS} {μ : Mu} : sPar2 i j wa E ρ μ = wa ρ μ (kPar2 i j E ρ) (KX E ρ) := propext Iff.rfl
theorem r_par2a {i j : Nat} {a b : D} {E : DEnds} {ρ : DS} {μ : Mu} : kPar2 i j E ρ [a, b] μ = E.nx ((ρ.set i (.v a)).set j (.v b)) μ := propext Iff.rfl
theorem r_par3 {i j l : Nat} {wa : WA} {E : DEnds} {ρ : DS} {μ : Mu} : sPar3 i j l wa E ρ μ = wa ρ μ (kPar3 i j l E ρ) (KX E ρ) := propext Iff.rfl
theorem r_par3a {i j l : Nat} {a b c : D} {E : DEnds} {ρ : DS} {μ : Mu} : kPar3 i j l E ρ [a, b, c] μ = E.nx (((ρ.set i (.v a)).set j (.v b)).set l (.v c)) μ := propext Iff.rfl
def KAug2 (i : Nat) (E : DEnds) (ρ : DS) : D → Mu → Prop := fun z μ2 => E.nx (ρ.set i (.v z)) μ2
def KAug1 (i : Nat) (f : F2) (x : D) (E : DEnds) (ρ : DS) : D → Mu → Prop := fun y μ1 => f x y μ1 (KAug2 i E ρ)
def KAug (o : Option Sl) (i : Nat) (f : F2) (wa : WE) (E : DEnds) (ρ : DS) (μ : Mu) : Prop := match o with
  | some (.v x) => wa ρ μ (KAug1 i f x E ρ) (KX E ρ)
  | _ => False
theorem r_aug {i : Nat} {f : F2} {wa : WE} {E : DEnds} {ρ : DS} {μ : Mu} : sAug i f wa E ρ μ = KAug (ρ[i]?) i f wa E ρ μ := propext Iff.rfl
theorem r_auga {x : D} {i : Nat} {f : F2} {wa : WE} {E : DEnds} {ρ : DS} {μ : Mu} : KAug (some (.v x)) i f wa E ρ μ = wa ρ μ (KAug1 i f x E ρ) (KX E ρ) := propext Iff.rfl
theorem r_augb {x y : D} {i : Nat} {f : F2} {E : DEnds} {ρ : DS} {μ : Mu} : KAug1 i f x E ρ y μ = f x y μ (KAug2 i E ρ) := propext Iff.rfl
theorem r_augc {d : D} {i : Nat} {E : DEnds} {ρ : DS} {μ : Mu} : KAug2 i E ρ d μ = E.nx (ρ.set i (.v d)) μ := propext Iff.rfl
def KFor (g : WG) (b : WS) (E : DEnds) (ρ : DS) : List D → Mu → Prop := fun ds μ1 => forL g b E ds ρ μ1
theorem r_for {wi : WI} {g : WG} {b : WS} {E : DEnds} {ρ : DS} {μ : Mu} : sFor wi g b E ρ μ = wi ρ μ (KFor g b E ρ) (KX E ρ) := propext Iff.rfl
theorem r_fora {g : WG} {b : WS} {ds : List D} {E : DEnds} {ρ : DS} {μ : Mu} : KFor g b E ρ ds μ = forL g b E ds ρ μ := propext Iff.rfl
def KNx (E : DEnds) (μ : Mu) : DS → Prop := fun ρ => E.nx ρ μ
theorem r_knx {E : DEnds} {ρ : DS} {μ : Mu} : KNx E μ ρ = E.nx ρ μ := propext Iff.rfl
def KPut (c : Str) (i : Nat) (f : Str) (d : D) (ρ : DS) (k : DS → Prop) (o : Option Sl) : Prop := match o with
  | some (.own a (.ins c' ks ds)) => c' = c ∧ ks.length < 1000 ∧ k (ρ.set i (.own a (.ins c' (DL.putK f ks) (DL.putD f d ks ds))))
  | _ => False
def KFldO (c : Str) (i : Nat) (f : Str) (E : DEnds) (ρ : DS) : D → Mu → Prop := fun d μ1 => putOwnI c i f d ρ (KNx E μ1)
theorem r_fldo {c : Str} {i : Nat} {f : Str} {wa : WE} {E : DEnds} {ρ : DS} {μ : Mu} : sFldO c i f wa E ρ μ = wa ρ μ (KFldO c i f E ρ) (KX E ρ) := propext Iff.rfl
theorem r_fldoa {c : Str} {i : Nat} {f : Str} {d : D} {E : DEnds} {ρ : DS} {μ : Mu} : KFldO c i f E ρ d μ = KPut c i f d ρ (KNx E μ) (ρ[i]?) := by
  unfold KFldO putOwnI KPut
  exact propext Iff.rfl
theorem r_put {c c' : Str} {i : Nat} {f : Str} {d : D} {a : Addr} {ks : List Str} {ds : List D} {k : DS → Prop} {ρ : DS} : KPut c i f d ρ k (some (.own a (.ins c' ks ds))) = (c' = c ∧ ks.length < 1000 ∧ k (ρ.set i (.own a (.ins c' (DL.putK f ks) (DL.putD f d ks ds))))) := propext Iff.rfl
def KFrz2 (i : Nat) (ρ : DS) (k : DS → Prop) (o : Option D) : Prop := match o with
  | some d => k (ρ.set i (.v d))
  | none => False
def KFrz (i : Nat) (ρ : DS) (k : DS → Prop) (o : Option Sl) : Prop := match o with
  | some (.own _ c) => KFrz2 i ρ k (cellD c)
  | _ => False
def KFz (w : WS) (E : DEnds) (μ : Mu) : DS → Prop := fun ρ => w E ρ μ
theorem r_frz {i : Nat} {w : WS} {E : DEnds} {ρ : DS} {μ : Mu} : sFrz i w E ρ μ = KFrz i ρ (KFz w E μ) (ρ[i]?) := by
  unfold sFrz frz KFrz KFrz2
  exact propext Iff.rfl
theorem r_frz2 {i : Nat} {a : Addr} {c : Cell} {k : DS → Prop} {ρ : DS} : KFrz i ρ k (some (.own a c)) = KFrz2 i ρ k (cellD c) := propext Iff.rfl
theorem r_frz3 {i : Nat} {d : D} {k : DS → Prop} {ρ : DS} : KFrz2 i ρ k (some d) = k (ρ.set i (.v d)) := propext Iff.rfl
theorem r_frz4 {w : WS} {E : DEnds} {ρ : DS} {μ : Mu} : KFz w E μ ρ = w E ρ μ := propext Iff.rfl
theorem r_cl {ds : List D} : cellD (.lst ds) = some (.lst ds) := rfl
def KSetO (i : Nat) (E : DEnds) (ρ : DS) : List D → Mu → Prop := fun ds μ1 => ds.length ≤ 1000 ∧ i < ρ.length ∧ ∀ p, E.nx (ρ.set i (.own p (.lst ds))) μ1
theorem r_seto {i : Nat} {wa : WA} {E : DEnds} {ρ : DS} {μ : Mu} : sSetO i wa E ρ μ = wa ρ μ (KSetO i E ρ) (KX E ρ) := propext Iff.rfl
theorem r_setoa {i : Nat} {ds : List D} {E : DEnds} {ρ : DS} {μ : Mu} : KSetO i E ρ ds μ = (ds.length ≤ 1000 ∧ i < ρ.length ∧ ∀ p, E.nx (ρ.set i (.own p (.lst ds))) μ) := propext Iff.rfl
def KWil (Q : List D → Mu → Prop) : D → Mu → Prop := fun d μ1 => lstOr d fun ds => Q ds μ1
theorem r_wil {wa : WE} {ρ : DS} {μ : Mu} {Q : List D → Mu → Prop} {Xd : XD} : wiL wa ρ μ Q Xd = wa ρ μ (KWil Q) Xd := propext Iff.rfl
theorem r_wila {ds : List D} {μ : Mu} {Q : List D → Mu → Prop} : KWil Q (.lst ds) μ = Q ds μ := propext Iff.rfl
theorem r_wilf {ds : List D} {μ : Mu} {Q : List D → Mu → Prop} : KWil Q (.frl ds) μ = Q ds μ := propext Iff.rfl
def KWit (Q : List D → Mu → Prop) : D → Mu → Prop := fun d μ1 => tupOr d fun ds => Q ds μ1
theorem r_wit {wa : WE} {ρ : DS} {μ : Mu} {Q : List D → Mu → Prop} {Xd : XD} : wiT wa ρ μ Q Xd = wa ρ μ (KWit Q) Xd := propext Iff.rfl
theorem r_wita {ds : List D} {μ : Mu} {Q : List D → Mu → Prop} : KWit Q (.tup ds) μ = Q ds μ := propext Iff.rfl
def KWi1 (Q : List D → Mu → Prop) : List D → Mu → Prop := fun ds μ1 => rg1 ds fun es => Q es μ1
theorem r_wi1 {wa : WA} {ρ : DS} {μ : Mu} {Q : List D → Mu → Prop} {Xd : XD} : wiR1 wa ρ μ Q Xd = wa ρ μ (KWi1 Q) Xd := propext Iff.rfl
theorem r_wi1a {j : Int} {μ : Mu} {Q : List D → Mu → Prop} : KWi1 Q [.int j] μ = rg1 [.int j] fun es => Q es μ := propext Iff.rfl
def KWi2 (Q : List D → Mu → Prop) : List D → Mu → Prop := fun ds μ1 => rg2 ds fun es => Q es μ1
theorem r_wi2 {wa : WA} {ρ : DS} {μ : Mu} {Q : List D → Mu → Prop} {Xd : XD} : wiR2 wa ρ μ Q Xd = wa ρ μ (KWi2 Q) Xd := propext Iff.rfl
theorem r_wi2a {i j : Int} {μ : Mu} {Q : List D → Mu → Prop} : KWi2 Q [.int i, .int j] μ = rg2 [.int i, .int j] fun es => Q es μ := propext Iff.rfl
def KWie (Q : List D → Mu → Prop) : List D → Mu → Prop := fun ds μ1 => lst1 ds fun es => Q (enumD es) μ1
theorem r_wie {wa : WA} {ρ : DS} {μ : Mu} {Q : List D → Mu → Prop} {Xd : XD} : wiEnum wa ρ μ Q Xd = wa ρ μ (KWie Q) Xd := propext Iff.rfl
theorem r_wiea {ds : List D} {μ : Mu} {Q : List D → Mu → Prop} : KWie Q [.lst ds] μ = Q (enumD ds) μ := propext Iff.rfl
def KWiz (Q : List D → Mu → Prop) : List D → Mu → Prop := fun ds μ1 => zip2 ds fun es => Q es μ1
theorem r_wiz {wa : WA} {ρ : DS} {μ : Mu} {Q : List D → Mu → Prop} {Xd : XD} : wiZip wa ρ μ Q Xd = wa ρ μ (KWiz Q) Xd := propext Iff.rfl
theorem r_wiza {a b : List D} {μ : Mu} {Q : List D → Mu → Prop} : KWiz Q [.lst a, .lst b] μ = Q (zipD a b) μ := propext Iff.rfl
theorem r_wizt {a b : List D} {μ : Mu} {Q : List D → Mu → Prop} : KWiz Q [.tup a, .tup b] μ = Q (zipD a b) μ := propext Iff.rfl
def KLc3 (g : WG) (tt : WT) (te : WE) (ρw : DS) (ds acc : List D) (Q : D → Mu → Prop) : D → Mu → Prop := fun y μ4 => acc.length < 1000000 ∧ lcL g tt te ρw ds (acc ++ [y]) μ4 Q
def KLc2 (g : WG) (tt : WT) (te : WE) (ρw : DS) (ρ2 : DS) (ds acc : List D) (Q : D → Mu → Prop) : Bool → Mu → Prop := fun b μ3 => if b = true then te ρ2 μ3 (KLc3 g tt te ρw ds acc Q) xF else lcL g tt te ρw ds acc μ3 Q
def KLc1 (g : WG) (tt : WT) (te : WE) (ρw : DS) (ds acc : List D) (Q : D → Mu → Prop) : DS → Mu → Prop := fun ρ2 μ2 => tt ρ2 μ2 (KLc2 g tt te ρw ρ2 ds acc Q) xF
def KLc0 (g : WG) (tt : WT) (te : WE) (vs : List Nat) (ρ : DS) (Q : D → Mu → Prop) : List D → Mu → Prop := fun ds μ1 => (∀ v ∈ vs, notOwn ρ v) ∧ lcL g tt te (DL.wipeD ρ vs) ds [] μ1 Q
theorem r_lc {wi : WI} {g : WG} {tt : WT} {te : WE} {vs : List Nat} {ρ : DS} {μ : Mu} {Q : D → Mu → Prop} {Xd : XD} : wLc wi g tt te vs ρ μ Q Xd = wi ρ μ (KLc0 g tt te vs ρ Q) Xd := propext Iff.rfl
theorem r_lc0 {g : WG} {tt : WT} {te : WE} {vs : List Nat} {ds : List D} {ρ : DS} {μ : Mu} {Q : D → Mu → Prop} : KLc0 g tt te vs ρ Q ds μ = ((∀ v ∈ vs, notOwn ρ v) ∧ lcL g tt te (DL.wipeD ρ vs) ds [] μ Q) := propext Iff.rfl
theorem r_lcn {g : WG} {tt : WT} {te : WE} {ρw : DS} {acc : List D} {μ : Mu} {Q : D → Mu → Prop} : lcL g tt te ρw [] acc μ Q = Q (.lst acc) μ := propext Iff.rfl
theorem r_lcc {g : WG} {tt : WT} {te : WE} {ρw : DS} {d : D} {ds acc : List D} {μ : Mu} {Q : D → Mu → Prop} : lcL g tt te ρw (d :: ds) acc μ Q = g d ρw μ (KLc1 g tt te ρw ds acc Q) := by
  rw [lcL]
  exact propext Iff.rfl
theorem r_lc1 {g : WG} {tt : WT} {te : WE} {ρw : DS} {ds acc : List D} {ρ : DS} {μ : Mu} {Q : D → Mu → Prop} : KLc1 g tt te ρw ds acc Q ρ μ = tt ρ μ (KLc2 g tt te ρw ρ ds acc Q) xF := propext Iff.rfl
theorem r_lc2t {g : WG} {tt : WT} {te : WE} {ρw : DS} {ds acc : List D} {ρ : DS} {μ : Mu} {Q : D → Mu → Prop} : KLc2 g tt te ρw ρ ds acc Q true μ = te ρ μ (KLc3 g tt te ρw ds acc Q) xF := propext Iff.rfl
theorem r_lc2f {g : WG} {tt : WT} {te : WE} {ρw : DS} {ds acc : List D} {ρ : DS} {μ : Mu} {Q : D → Mu → Prop} : KLc2 g tt te ρw ρ ds acc Q false μ = lcL g tt te ρw ds acc μ Q := propext Iff.rfl
theorem r_lc3 {g : WG} {tt : WT} {te : WE} {ρw : DS} {ds acc : List D} {y : D} {μ : Mu} {Q : D → Mu → Prop} : KLc3 g tt te ρw ds acc Q y μ = (acc.length < 1000000 ∧ lcL g tt te ρw ds (acc ++ [y]) μ Q) := propext Iff.rfl
theorem r_yes {ρ : DS} {μ : Mu} {Q : Bool → Mu → Prop} {Xd : XD} : wYes ρ μ Q Xd = Q true μ := propext Iff.rfl
def KSub3 (ρ : DS) (Q : DS → Mu → Prop) : Mu → Prop := fun μ3 => Q ρ μ3
def KSub2 (x d : D) (ρ : DS) (Q : DS → Mu → Prop) : D → Mu → Prop := fun y μ2 => stL x y d μ2 (KSub3 ρ Q)
def KSub1 (wi : WE) (d : D) (ρ : DS) (Q : DS → Mu → Prop) : D → Mu → Prop := fun x μ1 => wi ρ μ1 (KSub2 x d ρ Q) xF
theorem r_sub {wo wi : WE} {d : D} {ρ : DS} {μ : Mu} {Q : DS → Mu → Prop} : kSub wo wi d ρ μ Q = wo ρ μ (KSub1 wi d ρ Q) xF := propext Iff.rfl
theorem r_sub1 {wi : WE} {x d : D} {ρ : DS} {μ : Mu} {Q : DS → Mu → Prop} : KSub1 wi d ρ Q x μ = wi ρ μ (KSub2 x d ρ Q) xF := propext Iff.rfl
theorem r_sub2 {x y d : D} {ρ : DS} {μ : Mu} {Q : DS → Mu → Prop} : KSub2 x d ρ Q y μ = stL x y d μ (KSub3 ρ Q) := propext Iff.rfl
theorem r_sub3 {ρ : DS} {μ : Mu} {Q : DS → Mu → Prop} : KSub3 ρ Q μ = Q ρ μ := propext Iff.rfl
theorem r_dnx {Q : D → Mu → Prop} {Xd : XD} {ρ : DS} {μ : Mu} : (defE Q Xd).nx ρ μ = Q .non μ := propext Iff.rfl
theorem r_drt {Q : D → Mu → Prop} {Xd : XD} : (defE Q Xd).rt = Q := rfl
theorem r_dxc {c : Str} {ks : List Str} {es : List D} {Q : D → Mu → Prop} {Xd : XD} {ρ : DS} {μ : Mu} : (defE Q Xd).xc c ks es ρ μ = Xd c ks es μ := propext Iff.rfl
def KInit (Q : List Str → List D → Mu → Prop) (μ : Mu) : List Str → List D → Prop := fun ks ds => Q ks ds μ
theorem r_inx {c : Str} {a : Addr} {Q : List Str → List D → Mu → Prop} {Xd : XD} {ρ : DS} {μ : Mu} : (defI c a Q Xd).nx ρ μ = initEnd c a (KInit Q μ) ρ := propext Iff.rfl
theorem r_init {ks : List Str} {ds : List D} {Q : List Str → List D → Mu → Prop} {μ : Mu} : KInit Q μ ks ds = Q ks ds μ := propext Iff.rfl
theorem r_ixc {n c : Str} {a : Addr} {ks : List Str} {es : List D} {Q : List Str → List D → Mu → Prop} {Xd : XD} {ρ : DS} {μ : Mu} : (defI n a Q Xd).xc c ks es ρ μ = Xd c ks es μ := propext Iff.rfl
theorem ne_go {a b : Int} {F : Bool → Mu → Prop} {μ : Mu} (e : a = b) (h : F false μ) : F (!decide (a = b)) μ := by
  subst e
  simpa using h
theorem eq_go {a b : Int} {F : Bool → Mu → Prop} {μ : Mu} (e : a = b) (h : F true μ) : F (decide (a = b)) μ := by
  subst e
  simpa using h
end DL

set_option Elab.async false
set_option linter.all false
set_option maxRecDepth 100000
set_option maxHeartbeats 4000000
set_option autoImplicit false
set_option exponentiation.threshold 3000
namespace DL
open PySem PySem.Spec PyProof.Rows L2
/-! ### frames of exceptions, properties, while -/
section
variable {E : DEnds} {ρ : DS} {μ : Mu} {Q : D → Mu → Prop} {Xd : XD} {c : Str} {ks : List Str} {ds es : List D} {i : Nat}
def KRaise (c : Str) (ks : List Str) (E : DEnds) (ρ : DS) : List D → Mu → Prop := fun ds μ1 => ds.length ≤ 1000 ∧ ds.length = ks.length ∧ E.xc c ks.reverse ds.reverse ρ μ1
theorem t_raise {wa : WA} : sRaise c ks wa E ρ μ = wa ρ μ (KRaise c ks E ρ) (KX E ρ) := propext Iff.rfl
theorem t_raise2 : KRaise c ks E ρ ds μ = (ds.length ≤ 1000 ∧ ds.length = ks.length ∧ E.xc c ks.reverse ds.reverse ρ μ) := propext Iff.rfl
theorem t_try {mt : Str → Option Bool} {wb wsu : WS} : sTry mt i wb wsu E ρ μ = wb { E with xc := caught mt i wsu E } ρ μ := propext Iff.rfl
def KCat (o : Option Bool) (i : Nat) (wsu : WS) (E : DEnds) (c : Str) (ks : List Str) (es : List D) (ρ : DS) (μ : Mu) : Prop := match o with
  | some true => wsu (suiteE i E) (ρ.set i (.exn c ks es)) μ
  | some false => E.xc c ks es ρ μ
  | none => False
theorem t_cat {mt : Str → Option Bool} {wsu : WS} : caught mt i wsu E c ks es ρ μ = KCat (mt c) i wsu E c ks es ρ μ := propext Iff.rfl
theorem t_catt {wsu : WS} : KCat (some true) i wsu E c ks es ρ μ = wsu (suiteE i E) (ρ.set i (.exn c ks es)) μ := propext Iff.rfl
theorem t_catf {wsu : WS} : KCat (some false) i wsu E c ks es ρ μ = E.xc c ks es ρ μ := propext Iff.rfl
theorem t_sunx : (suiteE i E).nx ρ μ = (noExn (ρ.set i .no) = true ∧ E.nx (ρ.set i .no) μ) := propext Iff.rfl
theorem t_surt : (suiteE i E).rt = E.rt := rfl
theorem t_nx0 : noExn [] = true := rfl
theorem t_nx1 : noExn (.no :: ρ) = noExn ρ := rfl
theorem t_nx2 {d : D} : noExn (.v d :: ρ) = noExn ρ := rfl
theorem t_nx3 {a : Addr} {c : Cell} : noExn (.own a c :: ρ) = noExn ρ := rfl
def KProp (c : Str) (sp : DSp) (Q : D → Mu → Prop) : D → Mu → Prop := fun x μ1 => isCls c x μ1 (sp [x] μ1 Q xF)
theorem t_prop {sp : DSp} {wa : WE} : wProp c sp wa ρ μ Q Xd = wa ρ μ (KProp c sp Q) Xd := propext Iff.rfl
theorem t_prop2 {sp : DSp} {x : D} : KProp c sp Q x μ = isCls c x μ (sp [x] μ Q xF) := propext Iff.rfl
def KXf (o : Option Sl) (cs : List Str) (f : Str) (μ : Mu) (Q : D → Mu → Prop) : Prop := match o with
  | some (.exn c ks ds) => c ∈ cs ∧ KFld2 (fldOf f ks ds) μ Q
  | _ => False
theorem t_xf {cs : List Str} {f : Str} : wXf cs i f ρ μ Q Xd = KXf (ρ[i]?) cs f μ Q := by
  unfold wXf KXf KExn getX KFld2
  exact propext Iff.rfl
theorem t_xf2 {cs : List Str} {f : Str} : KXf (some (.exn c ks ds)) cs f μ Q = (c ∈ cs ∧ KFld2 (fldOf f ks ds) μ Q) := propext Iff.rfl
def KIsX (o : Option Sl) (f : TyN → TyN → Option Bool) (cn : Str) (μ : Mu) (Q : D → Mu → Prop) : Prop := match o with
  | some (.exn c _ _) => KIsi (f (.c c) (.c cn)) μ Q
  | _ => False
theorem t_isx {f : TyN → TyN → Option Bool} {cn : Str} : wIsE f i cn ρ μ Q Xd = KIsX (ρ[i]?) f cn μ Q := by
  unfold wIsE KIsX KExn KIsi
  exact propext Iff.rfl
theorem t_isx2 {f : TyN → TyN → Option Bool} {cn : Str} : KIsX (some (.exn c ks ds)) f cn μ Q = KIsi (f (.c c) (.c cn)) μ Q := propext Iff.rfl
/-- repr of a datum of the library -/
theorem t_repr {x : D} : fRepr [x] μ Q = ∃ p, toP x = some p ∧ reprC p ∧ Q (.str p.shown) μ := propext Iff.rfl
theorem t_while {t : WT} {b : WS} {n : Nat} : whileL t b E (n + 1) ρ μ = t ρ μ (fun k μ1 => if k = true then b { E with nx := whileL t b E n, ct := whileL t b E n, bk := E.nx } ρ μ1 else E.nx ρ μ1) (KX E ρ) := propext Iff.rfl
def KWh (b : WS) (K : DS → Mu → Prop) (E : DEnds) (ρ : DS) : Bool → Mu → Prop := fun k μ1 => if k = true then b { E with nx := K, ct := K, bk := E.nx } ρ μ1 else E.nx ρ μ1
theorem t_wht {b : WS} {K : DS → Mu → Prop} : KWh b K E ρ true μ = b { E with nx := K, ct := K, bk := E.nx } ρ μ := propext Iff.rfl
theorem t_whf {b : WS} {K : DS → Mu → Prop} : KWh b K E ρ false μ = E.nx ρ μ := propext Iff.rfl
/-- a while loop: a measure falls -/
theorem while_ind {t : WT} {b : WS} (I : Nat → DS → Mu → Prop) (step : ∀ n ρ μ (K : DS → Mu → Prop), I n ρ μ → (∀ m ρ' μ', m < n → I m ρ' μ' → K ρ' μ') → t ρ μ (KWh b K E ρ) (KX E ρ)) {n : Nat} (h : I n ρ μ) : sWhile t b E ρ μ := by
  have all : ∀ n ρ μ, I n ρ μ → ∀ N, n < N → whileL t b E N ρ μ := by
    intro n
    induction n using Nat.strongRecOn with
    | _ n ih =>
      intro ρ μ h N hN
      cases N with
      | zero => exact absurd hN (Nat.not_lt_zero _)
      | succ N => exact step n ρ μ (whileL t b E N) h fun m ρ' μ' hm hi => ih m hm ρ' μ' hi N (by omega)
  exact ⟨n + 1, all n ρ μ h _ (Nat.lt_succ_self n)⟩
end
theorem t_sum {ds : List D} {μ : Mu} {Q : D → Mu → Prop} : fSum [.lst ds] μ Q = ∃ ns, intsD ds = some ns ∧ Q (.int ns.sum) μ := propext Iff.rfl
theorem t_any {ds : List D} {μ : Mu} {Q : D → Mu → Prop} : fAny [.lst ds] μ Q = ∃ bs, boolsD ds = some bs ∧ Q (.bl (bs.any id)) μ := propext Iff.rfl
theorem t_all {ds : List D} {μ : Mu} {Q : D → Mu → Prop} : fAll [.lst ds] μ Q = ∃ bs, boolsD ds = some bs ∧ Q (.bl (bs.all id)) μ := propext Iff.rfl
theorem t_equ {x y : D} {μ : Mu} {Q : D → Mu → Prop} : fEqU x y μ Q = eqU x y fun b => Q (.bl b) μ := propext Iff.rfl
theorem t_neu {x y : D} {μ : Mu} {Q : D → Mu → Prop} : fNeU x y μ Q = eqU x y fun b => Q (.bl (!b)) μ := propext Iff.rfl
/-! ### comparisons of texts and lists -/
theorem eqD_by {x y : D} {p q : PyData} {b : Bool} {k : Bool → Prop} (h1 : toP x = some p) (h2 : toP y = some q) (s1 : SeqAt.shaped p = true) (s2 : SeqAt.shaped q = true) (e : PyData.eqv p q = b) (h : k b) : eqD x y k := ⟨p, q, h1, h2, s1, s2, e ▸ h⟩
theorem atoms_no {x y : D} {k : Bool → Prop} {u v : V} (h1 : atomV x = some u) (h2 : atomV y = some v) (hs : scal u v = true) (hd : ∀ k', eqD x y k' → k' (decide (u = v))) : eqU x y k = k (decide (u = v)) := by
  apply propext
  constructor
  · rintro (⟨u', v', e1, e2, _, h⟩ | h)
    · rw [h1] at e1
      rw [h2] at e2
      cases e1
      cases e2
      exact h
    · exact hd k h
  · intro h
    exact .inl ⟨u, v, h1, h2, hs, h⟩
theorem eqU_int {i j : Int} {k : Bool → Prop} : eqU (.int i) (.int j) k = k (decide (i = j)) := by
  have e : decide (V.int i = V.int j) = decide (i = j) := by rw [dec_int, Bool.beq_eq_decide_eq]
  rw [atoms_no (x := .int i) (y := .int j) rfl rfl rfl fun k' h => by rw [eqD_int] at h; rw [e]; exact h, e]
theorem eqU_str {a b : Str} {k : Bool → Prop} : eqU (.str a) (.str b) k = k (decide (a = b)) := by
  have e : decide (V.str a = V.str b) = decide (a = b) := by
    rw [Bool.eq_iff_iff]
    simp
  rw [atoms_no (x := .str a) (y := .str b) rfl rfl rfl fun k' h => by
    obtain ⟨p, q, h1, h2, _, _, h⟩ := h
    rw [toP] at h1 h2
    cases h1
    cases h2
    have e' : PyData.eqv (.str a) (.str b) = decide (a = b) := by
      rw [Bool.eq_iff_iff]; simp [PyData.eqv]
    rw [e, ← e']; exact h, e]
theorem eqU_bl {a b : Bool} {k : Bool → Prop} : eqU (.bl a) (.bl b) k = k (a == b) := by
  have e : decide (V.bl a = V.bl b) = (a == b) := by cases a <;> cases b <;> decide
  rw [atoms_no (x := .bl a) (y := .bl b) rfl rfl rfl fun k' h => by
    obtain ⟨p, q, h1, h2, _, _, h⟩ := h
    rw [toP] at h1 h2
    cases h1
    cases h2
    have e' : PyData.eqv (.bool a) (.bool b) = (a == b) := by cases a <;> cases b <;> rfl
    rw [e, ← e']; exact h, e]
theorem eqU_d {x y : D} {k : Bool → Prop} (h : eqD x y k) : eqU x y k := .inr h
theorem eqD_nil {k : Bool → Prop} (h : k true) : eqD (.lst []) (.lst []) k := eqD_by (p := .list []) (q := .list []) (by simp [toP, toPs]) (by simp [toP, toPs]) rfl rfl (by simp [PyData.eqv, PyData.eqvAll]) h
/-! ### a comprehension that tells of each item -/
def KEl (te : WE) (K : D → Mu → Prop) : DS → Mu → Prop := fun ρ2 μ2 => te ρ2 μ2 K xF
theorem t_el {te : WE} {K : D → Mu → Prop} {ρ : DS} {μ : Mu} : KEl te K ρ μ = te ρ μ K xF := propext Iff.rfl
theorem lc_map {g : WG} {te : WE} {ρw : DS} {μ : Mu} {Q : D → Mu → Prop} (f : D → D) : ∀ (ds acc : List D), acc.length + ds.length ≤ 1000000 → (∀ d ∈ ds, ∀ K : D → Mu → Prop, K (f d) μ → g d ρw μ (KEl te K)) → Q (.lst (acc ++ ds.map f)) μ → lcL g wYes te ρw ds acc μ Q
  | [], acc, _, _, q => by
    rw [r_lcn]
    simpa using q
  | d :: ds, acc, hl, step, q => by
    rw [r_lcc]
    have e : KLc1 g wYes te ρw ds acc Q = KEl te (KLc3 g wYes te ρw ds acc Q) := by
      funext ρ2 μ2
      rw [r_lc1, r_yes, r_lc2t, t_el]
    rw [e]
    rw [List.length_cons] at hl
    refine step d (by simp) _ ?_
    rw [r_lc3]
    refine ⟨by omega, lc_map f ds (acc ++ [f d]) (by rw [List.length_append, List.length_singleton]; omega) (fun d' hd => step d' (by simp [hd])) ?_⟩
    rw [List.append_assoc]
    exact q
end DL

set_option Elab.async false
set_option linter.all false
set_option maxRecDepth 100000
set_option maxHeartbeats 4000000
set_option autoImplicit false
set_option exponentiation.threshold 3000
namespace DL
open PySem PySem.Spec PyProof.Rows L2
/-! frames of DX8 to DX11 -/
section
variable {Q : D → Mu → Prop} {Xd : XD} {ρ : DS} {μ : Mu} {E : DEnds}
def KLof (o : Option (List D)) (μ : Mu) (Q : D → Mu → Prop) : Prop := match o with
  | some ds => Q (.lst ds) μ
  | none => False
def KTof (o : Option (List D)) (μ : Mu) (Q : D → Mu → Prop) : Prop := match o with
  | some ds => Q (.tup ds) μ
  | none => False
theorem u_lof {x : D} : fListOf [x] μ Q = KLof (itemsD x μ) μ Q := propext Iff.rfl
theorem u_lof2 {ds : List D} : KLof (some ds) μ Q = Q (.lst ds) μ := propext Iff.rfl
theorem u_tof {x : D} : fTupOf [x] μ Q = KTof (itemsD x μ) μ Q := propext Iff.rfl
theorem u_tof2 {ds : List D} : KTof (some ds) μ Q = Q (.tup ds) μ := propext Iff.rfl
theorem u_isiT {f : TyN → TyN → Option Bool} {x : D} {cs : List D} : fIsiT f [x, .tup cs] μ Q = KIsi (isiDT f x cs μ) μ Q := propext Iff.rfl
theorem u_dict {i j : Int} : wDictII i j ρ μ Q Xd = Q (.opq (.dK [(.inl i, .int j)])) μ := propext Iff.rfl
/-! own comparisons -/
def KBl (neg : Bool) (Q : D → Mu → Prop) : D → Mu → Prop := fun d μ1 => fBool d fun b => Q (.bl (neg ^^ b)) μ1
theorem u_bl {neg b : Bool} : KBl neg Q (.bl b) μ = Q (.bl (neg ^^ b)) μ := propext Iff.rfl
theorem u_own {c : Str} {Ts : List String} {Cs : List Str} {sp : DSp} {x y : D} : fOwn c Ts Cs sp x y μ Q = isCls c x μ (othC Ts Cs y μ (sp [x, y] μ Q xF)) := propext Iff.rfl
theorem u_ownN {c : Str} {Ts : List String} {Cs : List Str} {sp : DSp} {x y : D} : fOwnN c Ts Cs sp x y μ Q = isCls c x μ (othC Ts Cs y μ (sp [x, y] μ (KBl true Q) xF)) := by
  unfold fOwnN KBl
  simp only [Bool.true_xor]
theorem u_has {c : Str} {sp : DSp} {x y : D} : fHas c sp y x μ Q = isCls c x μ (sp [x, y] μ (KBl false Q) xF) := by
  unfold fHas KBl
  simp only [Bool.false_xor]
theorem u_hasN {c : Str} {sp : DSp} {x y : D} : fHasN c sp y x μ Q = isCls c x μ (sp [x, y] μ (KBl true Q) xF) := by
  unfold fHasN KBl
  simp only [Bool.true_xor]
/-! reflected, static -/
def KBk2 (c T : Str) (T' : String) (sp : DSp) (y : D) (Q : D → Mu → Prop) (Xd : XD) : D → Mu → Prop := fun x μ2 => isTy T' y μ2 (isCls c x μ2 (sp [x, y] μ2 Q Xd))
def KBk1 (c : Str) (T : String) (sp : DSp) (wb : WE) (ρ : DS) (Q : D → Mu → Prop) (Xd : XD) : D → Mu → Prop := fun y μ1 => wb ρ μ1 (KBk2 c c T sp y Q Xd) Xd
theorem u_bk {c : Str} {T : String} {sp : DSp} {wa wb : WE} : wBack c T sp wa wb ρ μ Q Xd = wa ρ μ (KBk1 c T sp wb ρ Q Xd) Xd := propext Iff.rfl
theorem u_bk1 {c : Str} {T : String} {sp : DSp} {wb : WE} {y : D} : KBk1 c T sp wb ρ Q Xd y μ = wb ρ μ (KBk2 c c T sp y Q Xd) Xd := propext Iff.rfl
theorem u_bk2 {c c' : Str} {T : String} {sp : DSp} {x y : D} : KBk2 c c' T sp y Q Xd x μ = isTy T y μ (isCls c x μ (sp [x, y] μ Q Xd)) := propext Iff.rfl
theorem u_stat {sp : DSp} : wStat sp ρ μ Q Xd = sp [] μ Q Xd := propext Iff.rfl
/-! own lists -/
def KAp (i : Nat) (p : Addr) (ds : List D) (E : DEnds) (ρ : DS) : List D → Mu → Prop := fun xs μ1 => ds.length < 1000000 ∧ ∃ d, xs = [d] ∧ E.nx (ρ.set i (.own p (.lst (ds ++ [d])))) μ1
theorem u_ap {i : Nat} {wa : WA} : sAppO i wa E ρ μ = appO i wa E ρ μ (ρ[i]?) := propext Iff.rfl
theorem u_ap1 {i : Nat} {wa : WA} {p : Addr} {ds : List D} : appO i wa E ρ μ (some (.own p (.lst ds))) = wa ρ μ (KAp i p ds E ρ) (KX E ρ) := propext Iff.rfl
theorem u_ap2 {i : Nat} {p : Addr} {ds : List D} {d : D} : KAp i p ds E ρ [d] μ = (ds.length < 1000000 ∧ E.nx (ρ.set i (.own p (.lst (ds ++ [d])))) μ) := by
  apply propext
  constructor
  · rintro ⟨h, d', e, q⟩
    cases e
    exact ⟨h, q⟩
  · rintro ⟨h, q⟩
    exact ⟨h, d, rfl, q⟩
def KEx (i : Nat) (p : Addr) (ds : List D) (E : DEnds) (ρ : DS) : List D → Mu → Prop := fun xs μ1 => ∃ zs, xs = [.lst zs] ∧ ds.length + zs.length ≤ 1000000 ∧ E.nx (ρ.set i (.own p (.lst (ds ++ zs)))) μ1
theorem u_ex {i : Nat} {wa : WA} : sExtO i wa E ρ μ = extO i wa E ρ μ (ρ[i]?) := propext Iff.rfl
theorem u_ex1 {i : Nat} {wa : WA} {p : Addr} {ds : List D} : extO i wa E ρ μ (some (.own p (.lst ds))) = wa ρ μ (KEx i p ds E ρ) (KX E ρ) := propext Iff.rfl
theorem u_ex2 {i : Nat} {p : Addr} {ds zs : List D} : KEx i p ds E ρ [.lst zs] μ = (ds.length + zs.length ≤ 1000000 ∧ E.nx (ρ.set i (.own p (.lst (ds ++ zs)))) μ) := by
  apply propext
  constructor
  · rintro ⟨zs', e, h, q⟩
    cases e
    exact ⟨h, q⟩
  · rintro ⟨h, q⟩
    exact ⟨zs, rfl, h, q⟩
theorem room2 {k : Nat} {A : Around} (r : Room k A) : A.units + 1 < cLine := by have := r.un; omega
theorem u_kd {L : List (List Int × Int)} {ds : List D} : fKd L (.tup ds) μ Q = ∃ ks, intsD ds = some ks ∧ ∃ v, kdGet L ks = some v ∧ Q (.int v) μ := propext Iff.rfl
def KWizX (Q : List D → Mu → Prop) : List D → Mu → Prop := fun ds μ1 => zipX2 ds fun es => Q es μ1
theorem u_wzx {wa : WA} {Q : List D → Mu → Prop} : wiZipX wa ρ μ Q Xd = wa ρ μ (KWizX Q) Xd := propext Iff.rfl
theorem u_wzl {a b : List D} {Q : List D → Mu → Prop} : KWizX Q [.lst a, .lst b] μ = Q (zipD a b) μ := propext Iff.rfl
theorem u_wzt {a b : List D} {Q : List D → Mu → Prop} : KWizX Q [.tup a, .tup b] μ = Q (zipD a b) μ := propext Iff.rfl
theorem u_wzm {a b : List D} {Q : List D → Mu → Prop} : KWizX Q [.tup a, .lst b] μ = Q (zipD a b) μ := propext Iff.rfl
theorem u_zd {a b : List D} {x y : D} : zipD (x :: a) (y :: b) = .tup [x, y] :: zipD a b := rfl
theorem u_zd0 {b : List D} : zipD [] b = [] := rfl
def KWeX (Q : List D → Mu → Prop) : List D → Mu → Prop := fun ds μ1 => enX ds fun es => Q es μ1
theorem u_wex {wa : WA} {Q : List D → Mu → Prop} : wiEnumX wa ρ μ Q Xd = wa ρ μ (KWeX Q) Xd := propext Iff.rfl
theorem u_wel {a : List D} {Q : List D → Mu → Prop} : KWeX Q [.lst a] μ = Q (enumD a) μ := propext Iff.rfl
theorem u_wef {a : List D} {Q : List D → Mu → Prop} : KWeX Q [.frl a] μ = Q (enumD a) μ := propext Iff.rfl
theorem u_wet {a : List D} {Q : List D → Mu → Prop} : KWeX Q [.tup a] μ = Q (enumD a) μ := propext Iff.rfl
def enN : Nat → List D → List D
  | _, [] => []
  | n, d :: ds => .tup [.int n, d] :: enN (n + 1) ds
theorem enN_eq : ∀ (ds : List D) (n : Nat), ds.mapIdx (fun i d => D.tup [.int ((n + i : Nat) : Int), d]) = enN n ds
  | [], n => rfl
  | d :: ds, n => by
    rw [List.mapIdx_cons, enN, ← enN_eq ds (n + 1)]
    congr 1
    refine List.ext_getElem? fun i => ?_
    rw [List.getElem?_mapIdx, List.getElem?_mapIdx]
    have e : n + (i + 1) = n + 1 + i := by omega
    rw [e]
theorem u_en {d : D} {ds : List D} : enumD (d :: ds) = enN 0 (d :: ds) := by
  rw [← enN_eq]
  unfold enumD
  refine List.ext_getElem? fun i => ?_
  rw [List.getElem?_mapIdx, List.getElem?_mapIdx, Nat.zero_add]
theorem u_en0 : enumD [] = [] := rfl
theorem u_enc {n : Nat} {d : D} {ds : List D} : enN n (d :: ds) = .tup [.int n, d] :: enN (n + 1) ds := rfl
theorem u_enn {n : Nat} : enN n [] = [] := rfl
theorem u_ownL {p : Addr} {ds : List D} {k : List D → Prop} : ownL (some (.own p (.lst ds))) k = k ds := propext Iff.rfl
theorem u_olen {i : Nat} : wOwnLen i ρ μ Q Xd = ownL (ρ[i]?) fun ds => Q (.int ds.length) μ := propext Iff.rfl
def KOx (ds : List D) (Q : D → Mu → Prop) : D → Mu → Prop := fun y μ1 => intOr y fun j => KIx2 (atI ds j) μ1 Q
theorem u_oix {i : Nat} {wb : WE} : wOwnIx i wb ρ μ Q Xd = ownL (ρ[i]?) fun ds => wb ρ μ (KOx ds Q) Xd := propext Iff.rfl
theorem u_oix1 {ds : List D} {j : Int} : KOx ds Q (.int j) μ = KIx2 (atI ds j) μ Q := propext Iff.rfl
def KOi (neg : Bool) (ds : List D) (Q : D → Mu → Prop) : D → Mu → Prop := fun x μ1 => ownIn neg x ds fun b => Q (.bl b) μ1
theorem u_oin {neg : Bool} {i : Nat} {wa : WE} : wOwnIn neg i wa ρ μ Q Xd = ownL (ρ[i]?) fun ds => wa ρ μ (KOi neg ds Q) Xd := propext Iff.rfl
def KHotX (sp : XSp) (o : Option Sl) (μ : Mu) (Q : D → Mu → Prop) : Prop := KExn o fun c ks es => sp c ks es μ Q
theorem u_hot {sp : XSp} {i : Nat} : wHotX sp i ρ μ Q Xd = KHotX sp (ρ[i]?) μ Q := propext Iff.rfl
theorem u_hot1 {sp : XSp} {c : Str} {ks : List Str} {es : List D} : KHotX sp (some (.exn c ks es)) μ Q = sp c ks es μ Q := propext Iff.rfl
def KMb2 (f : F2) (x : D) (Q : D → Mu → Prop) : D → Mu → Prop := fun y μ2 => f x y μ2 Q
def KMb (f : F2) (wa : WE) (ρ : DS) (Q : D → Mu → Prop) (Xd : XD) : D → Mu → Prop := fun x μ1 => isL x (wa ρ μ1 (KMb2 f x Q) Xd)
theorem u_mb {f : F2} {wo wa : WE} : wMb f wo wa ρ μ Q Xd = wo ρ μ (KMb f wa ρ Q Xd) Xd := propext Iff.rfl
theorem u_mb1 {f : F2} {wa : WE} {ds : List D} : KMb f wa ρ Q Xd (.lst ds) μ = wa ρ μ (KMb2 f (.lst ds) Q) Xd := propext Iff.rfl
theorem u_mb1f {f : F2} {wa : WE} {ds : List D} : KMb f wa ρ Q Xd (.frl ds) μ = wa ρ μ (KMb2 f (.frl ds) Q) Xd := propext Iff.rfl
theorem u_mb2 {f : F2} {x y : D} : KMb2 f x Q y μ = f x y μ Q := propext Iff.rfl
theorem u_rev {ds : List D} : fRev (.lst ds) μ Q = Q (.lst ds.reverse) μ := propext Iff.rfl
theorem u_revf {ds : List D} : fRev (.frl ds) μ Q = Q (.lst ds.reverse) μ := propext Iff.rfl
def KMu (c1 c2 m : Str) (sp1 sp2 : DSp) (wa : WA) (ρ : DS) (Q : D → Mu → Prop) (Xd : XD) : D → Mu → Prop := fun x μ1 => hasCls c1 m x μ1 (wa ρ μ1 (KMe2 sp1 x Q Xd) Xd) ∨ hasCls c2 m x μ1 (wa ρ μ1 (KMe2 sp2 x Q Xd) Xd)
theorem u_mu {c1 c2 m : Str} {sp1 sp2 : DSp} {wo : WE} {wa : WA} : wMethU c1 c2 m sp1 sp2 wo wa ρ μ Q Xd = wo ρ μ (KMu c1 c2 m sp1 sp2 wa ρ Q Xd) Xd := propext Iff.rfl
theorem u_mu1 {c1 c2 m : Str} {sp1 sp2 : DSp} {wa : WA} {x : D} : KMu c1 c2 m sp1 sp2 wa ρ Q Xd x μ = (hasCls c1 m x μ (wa ρ μ (KMe2 sp1 x Q Xd) Xd) ∨ hasCls c2 m x μ (wa ρ μ (KMe2 sp2 x Q Xd) Xd)) := propext Iff.rfl
theorem u_sumT {ds : List D} : fSumX [.tup ds] μ Q = ∃ ns, intsD ds = some ns ∧ Q (.int ns.sum) μ := propext Iff.rfl
theorem u_sumL {ds : List D} : fSumX [.lst ds] μ Q = ∃ ns, intsD ds = some ns ∧ Q (.int ns.sum) μ := propext Iff.rfl
theorem u_wio {i : Nat} {Q : List D → Mu → Prop} : wiOwn i ρ μ Q Xd = ownL (ρ[i]?) fun ds => Q ds μ := propext Iff.rfl
end
end DL

set_option Elab.async false
set_option linter.all false
set_option maxRecDepth 100000
set_option maxHeartbeats 4000000
set_option autoImplicit false
set_option exponentiation.threshold 3000
namespace DL
open PySem PySem.Spec PyProof.Rows L2
/-! ### == of plain data, by recursion -/
def P0 : D → Bool
  | .non => true
  | .bl _ => true
  | .int _ => true
  | .str s => PyData.strOk s
  | _ => false
def Pn (p : D → Bool) : D → Bool
  | .tup ds => ds.all p
  | .lst ds => ds.all p
  | .frl ds => ds.all p
  | d => P0 d
abbrev P5 : D → Bool := Pn (Pn (Pn (Pn (Pn P0))))
mutual
def deq : D → D → Bool
  | .non, .non => true
  | .bl a, .bl b => a == b
  | .bl a, .int j => decide ((if a then 1 else 0) = j)
  | .int i, .bl b => decide (i = (if b then 1 else 0))
  | .int i, .int j => decide (i = j)
  | .str a, .str b => decide (a = b)
  | .tup a, .tup b => deqs a b
  | .lst a, .lst b => deqs a b
  | .lst a, .frl b => deqs a b
  | .frl a, .lst b => deqs a b
  | .frl a, .frl b => deqs a b
  | _, _ => false
def deqs : List D → List D → Bool
  | [], [] => true
  | x :: xs, y :: ys => deq x y && deqs xs ys
  | _, _ => false
end
/-- data of depth n -/
structure Lay (n : Nat) (d : D) (p : PyData) : Prop where
  to : toP d = some p
  lay : p.canLay0 = true
  dep : p.depth ≤ n
theorem P0_lay {d : D} (h : P0 d = true) : ∃ p, Lay 0 d p := by
  cases d <;> first | (cases h; done) | skip
  · exact ⟨.none, ⟨by rw [toP], rfl, Nat.le_refl _⟩⟩
  · exact ⟨.bool _, ⟨by rw [toP], rfl, Nat.le_refl _⟩⟩
  · exact ⟨.int _, ⟨by rw [toP], rfl, Nat.le_refl _⟩⟩
  · exact ⟨.str _, ⟨by rw [toP], h, Nat.le_refl _⟩⟩
theorem lays {p : D → Bool} {n : Nat} (hp : ∀ d, p d = true → ∃ q, Lay n d q) : ∀ ds : List D, ds.all p = true → ∃ qs, toPs ds = some qs ∧ PyData.canLayAll0 qs = true ∧ PyData.depthAll qs ≤ n
  | [], _ => ⟨[], by rw [toPs], rfl, Nat.zero_le _⟩
  | d :: ds, h => by
    rw [List.all_cons, Bool.and_eq_true_iff] at h
    obtain ⟨q, h1⟩ := hp d h.1
    obtain ⟨qs, h2, h3, h4⟩ := lays hp ds h.2
    refine ⟨q :: qs, by rw [toPs, h1.to, h2], ?_, ?_⟩
    · rw [PyData.canLayAll0, h1.lay, h3]
      rfl
    · rw [PyData.depthAll]
      exact Nat.max_le.mpr ⟨h1.dep, h4⟩
theorem Pn_lay {p : D → Bool} {n : Nat} (hp : ∀ d, p d = true → ∃ q, Lay n d q) {d : D} (h : Pn p d = true) : ∃ q, Lay (n + 1) d q := by
  have low : P0 d = true → ∃ q, Lay (n + 1) d q := fun h => by
    obtain ⟨q, h1⟩ := P0_lay h
    exact ⟨q, h1.to, h1.lay, by have := h1.dep; omega⟩
  cases d with
  | tup ds =>
    obtain ⟨qs, h2, h3, h4⟩ := lays hp ds h
    exact ⟨.tuple qs, by rw [toP, h2]; rfl, h3, Nat.succ_le_succ h4⟩
  | lst ds =>
    obtain ⟨qs, h2, h3, h4⟩ := lays hp ds h
    exact ⟨.list qs, by rw [toP, h2]; rfl, h3, Nat.succ_le_succ h4⟩
  | frl ds =>
    obtain ⟨qs, h2, h3, h4⟩ := lays hp ds h
    exact ⟨.list qs, by rw [toP, h2]; rfl, h3, Nat.succ_le_succ h4⟩
  | non => exact low h
  | bl b => exact low h
  | int i => exact low h
  | str z => exact low h
  | obj c ks ds => exact low h
  | loc n => exact low h
  | ty n => exact low h
  | cls c => exact low h
  | opq o => exact low h
theorem P5_lay {d : D} (h : P5 d = true) : ∃ q, Lay 5 d q := Pn_lay (fun _ h => Pn_lay (fun _ h => Pn_lay (fun _ h => Pn_lay (fun _ h => Pn_lay (fun _ h => P0_lay h) h) h) h) h) h
mutual
theorem deq_eqv : ∀ (x y : D) (p q : PyData), toP x = some p → toP y = some q → PyData.eqv p q = deq x y := by
  intro x y p q hx hy
  cases x <;> simp only [toP, Option.map_eq_some_iff, Option.some.injEq, reduceCtorEq] at hx <;> cases y <;> simp only [toP, Option.map_eq_some_iff, Option.some.injEq, reduceCtorEq] at hy
  all_goals first
    | (subst hx hy; simp [PyData.eqv, deq]; done)
    | (subst hx hy; rw [PyData.eqv, deq, Bool.beq_eq_decide_eq]; done)
    | (obtain ⟨ps, hx, rfl⟩ := hx; obtain ⟨qs, hy, rfl⟩ := hy; rw [PyData.eqv, deq]; exact deqs_eqv _ _ _ _ hx hy)
    | (obtain ⟨ps, hx, rfl⟩ := hx; subst hy; simp [PyData.eqv, deq]; done)
    | (obtain ⟨qs, hy, rfl⟩ := hy; subst hx; simp [PyData.eqv, deq]; done)
    | (obtain ⟨ps, hx, rfl⟩ := hx; obtain ⟨qs, hy, rfl⟩ := hy; simp [PyData.eqv, deq]; done)
theorem deqs_eqv : ∀ (xs ys : List D) (ps qs : List PyData), toPs xs = some ps → toPs ys = some qs → PyData.eqvAll ps qs = deqs xs ys := by
  intro xs ys ps qs hx hy
  cases xs with
  | nil =>
    rw [toPs] at hx
    cases hx
    cases ys with
    | nil => rw [toPs] at hy; cases hy; rfl
    | cons y ys =>
      rw [toPs] at hy
      split at hy
      · cases hy; simp [PyData.eqvAll, deqs]
      · cases hy
  | cons x xs =>
    rw [toPs] at hx
    split at hx
    · rename_i p ps' h1 h2
      cases hx
      cases ys with
      | nil => rw [toPs] at hy; cases hy; simp [PyData.eqvAll, deqs]
      | cons y ys =>
        rw [toPs] at hy
        split at hy
        · rename_i q qs' h3 h4
          cases hy
          rw [PyData.eqvAll, deqs, deq_eqv x y _ _ h1 h3, deqs_eqv xs ys _ _ h2 h4]
        · cases hy
    · cases hx
end
theorem eqU_pl {x y : D} (hx : P5 x = true) (hy : P5 y = true) {k : Bool → Prop} : eqU x y k = k (deq x y) := by
  apply propext
  constructor
  · rintro (⟨u, v, h1, h2, hs, h⟩ | ⟨p, q, h1, h2, _, _, h⟩)
    · have e : decide (u = v) = deq x y := by
        cases x <;> cases h1 <;> cases y <;> cases h2 <;> first
          | (cases hs; done)
          | (simp [deq]; done)
          | (simp only [deq]; rw [Bool.eq_iff_iff]; simp)
      rw [← e]
      exact h
    · rw [← deq_eqv x y p q h1 h2]
      exact h
  · intro h
    obtain ⟨p, a1, a2, a3⟩ := P5_lay hx
    obtain ⟨q, b1, b2, b3⟩ := P5_lay hy
    refine .inr ⟨p, q, a1, b1, ?_, ?_, ?_⟩
    · unfold SeqAt.shaped
      rw [a2]
      exact decide_eq_true (by omega)
    · unfold SeqAt.shaped
      rw [b2]
      exact decide_eq_true (by omega)
    · rw [deq_eqv x y p q a1 b1]
      exact h
/-! count, index of plain data -/
theorem P5_shaped {d : D} (h : P5 d = true) : ∃ p, toP d = some p ∧ SeqAt.shaped p = true := by
  obtain ⟨p, a1, a2, a3⟩ := P5_lay h
  refine ⟨p, a1, ?_⟩
  unfold SeqAt.shaped
  rw [a2]
  exact decide_eq_true (by omega)
theorem toPs_get : ∀ {ds : List D} {qs : List PyData}, toPs ds = some qs → ∀ j : Nat, qs[j]? = (ds[j]?).bind toP
  | [], qs, e, j => by
    rw [toPs] at e
    cases e
    simp
  | d :: ds, qs, e, j => by
    rw [toPs] at e
    split at e
    · rename_i p ps h1 h2
      cases e
      cases j with
      | zero => simp [h1]
      | succ j => simpa using toPs_get h2 j
    · cases e
theorem toPs_count {y : D} {p : PyData} (hy : toP y = some p) : ∀ {ds : List D} {qs : List PyData}, toPs ds = some qs → (qs.countP fun z => PyData.eqv z p) = ds.countP fun d => deq d y
  | [], qs, e => by
    rw [toPs] at e
    cases e
    rfl
  | d :: ds, qs, e => by
    rw [toPs] at e
    split at e
    · rename_i z ps h1 h2
      cases e
      rw [List.countP_cons, List.countP_cons, toPs_count hy h2, deq_eqv d y z p h1 hy]
    · cases e
theorem lst_toP {ds : List D} {q : PyData} (h : toP (.lst ds) = some q) : ∃ qs, q = .list qs ∧ toPs ds = some qs := by
  rw [toP, Option.map_eq_some_iff] at h
  obtain ⟨qs, h1, h2⟩ := h
  exact ⟨qs, h2.symm, h1⟩
theorem cnt_pl {ds : List D} {y : D} {μ : Mu} {Q : D → Mu → Prop} (hx : P5 (.lst ds) = true) (hy : P5 y = true) (h : Q (.int ((ds.countP fun d => deq d y : Nat))) μ) : fCnt (.lst ds) y μ Q := by
  obtain ⟨q, a1, a2⟩ := P5_shaped hx
  obtain ⟨p, b1, b2⟩ := P5_shaped hy
  obtain ⟨qs, rfl, h1⟩ := lst_toP a1
  exact ⟨p, qs, b1, a1, b2, a2, by rw [toPs_count b1 h1]; exact h⟩
theorem toPs_len : ∀ {ds : List D} {qs : List PyData}, toPs ds = some qs → ds.length = qs.length
  | [], qs, e => by
    rw [toPs] at e
    cases e
    rfl
  | d :: ds, qs, e => by
    rw [toPs] at e
    split at e
    · rename_i p ps h1 h2
      cases e
      rw [List.length_cons, List.length_cons, toPs_len h2]
    · cases e
theorem idx_pl {ds : List D} {y d : D} {μ : Mu} {Q : D → Mu → Prop} (hx : P5 (.lst ds) = true) (hy : P5 y = true) {j : Nat} (hj : ds[j]? = some d) (hd : deq d y = true) (hlt : ∀ m e, m < j → ds[m]? = some e → deq e y = false) (h : Q (.int j) μ) : fIdx (.lst ds) y μ Q := by
  obtain ⟨q, a1, a2⟩ := P5_shaped hx
  obtain ⟨p, b1, b2⟩ := P5_shaped hy
  obtain ⟨qs, rfl, h1⟩ := lst_toP a1
  have back : ∀ {m : Nat} {z : PyData}, qs[m]? = some z → ∃ e, ds[m]? = some e ∧ toP e = some z := fun {m z} hz => by
    rw [toPs_get h1 m, Option.bind_eq_some_iff] at hz
    exact hz
  have hl : j < qs.length := by
    rw [← toPs_len h1]
    exact (List.getElem?_eq_some_iff.mp hj).1
  obtain ⟨e, he, hz⟩ := back (List.getElem?_eq_getElem hl)
  rw [hj] at he
  cases he
  refine ⟨p, qs, b1, a1, b2, a2, j, _, List.getElem?_eq_getElem hl, by rw [deq_eqv d y _ p hz b1]; exact hd, fun m z' hm hz' => ?_, h⟩
  obtain ⟨e, he, hz⟩ := back hz'
  rw [deq_eqv e y _ p hz b1]
  exact hlt m e hm he
/-! simp lemmas -/
section
variable {p : D → Bool}
theorem p_int {i : Int} : Pn p (.int i) = true := rfl
theorem p_bl {i : Bool} : Pn p (.bl i) = true := rfl
theorem p_non : Pn p .non = true := rfl
theorem p_str {z : Str} : Pn p (.str z) = PyData.strOk z := rfl
theorem p_tup {ds : List D} : Pn p (.tup ds) = ds.all p := rfl
theorem p_lst {ds : List D} : Pn p (.lst ds) = ds.all p := rfl
theorem p_frl {ds : List D} : Pn p (.frl ds) = ds.all p := rfl
theorem p0_int {i : Int} : P0 (.int i) = true := rfl
theorem p0_bl {i : Bool} : P0 (.bl i) = true := rfl
theorem p0_non : P0 .non = true := rfl
theorem p0_str {z : Str} : P0 (.str z) = PyData.strOk z := rfl
theorem all_map {α : Type} {f : α → D} {l : List α} (h : ∀ x, p (f x) = true) : (l.map f).all p = true := by
  rw [List.all_eq_true]
  intro d hd
  obtain ⟨x, _, rfl⟩ := List.mem_map.mp hd
  exact h x
end
/-- lists of data that are told by values -/
theorem deqs_map {α : Type} [DecidableEq α] {f : α → D} (h : ∀ a b, deq (f a) (f b) = decide (a = b)) : ∀ xs ys : List α, deqs (xs.map f) (ys.map f) = decide (xs = ys)
  | [], [] => rfl
  | [], y :: ys => by simp [deqs]
  | x :: xs, [] => by simp [deqs]
  | x :: xs, y :: ys => by
    rw [List.map_cons, List.map_cons, deqs, h, deqs_map h xs ys, Bool.eq_iff_iff]
    simp
theorem deqs_ref : ∀ {xs : List D}, (∀ x ∈ xs, deq x x = true) → deqs xs xs = true
  | [], _ => rfl
  | x :: xs, h => by rw [deqs, h x (by simp), deqs_ref fun y hy => h y (by simp [hy])]; rfl
theorem b_go {b v : Bool} {F : Bool → Mu → Prop} {μ : Mu} (e : b = v) (h : F v μ) : F b μ := e ▸ h
theorem d_go {x y : D} {F : D → Mu → Prop} {μ : Mu} (e : x = y) (h : F y μ) : F x μ := e ▸ h
end DL

set_option Elab.async false
set_option linter.all false
set_option maxRecDepth 100000
set_option maxHeartbeats 4000000
set_option autoImplicit false
set_option exponentiation.threshold 3000
namespace DL
open PySem PySem.Spec PyProof.Rows L2
/-! loops and comprehensions over lists that are told by values -/
section
variable {α : Type} {g : WG} {tt : WT} {te : WE} {ρw : DS} {b : WS} {E : DEnds} {ρ : DS} {μ : Mu} {Q : D → Mu → Prop}
theorem lc_ind {f : α → D} (h : α → Option D) : ∀ {l : List α} {acc : List D}, (∀ a ∈ l, ∀ ds acc, acc.length < 1000000 → lcL g tt te ρw ds (acc ++ (h a).toList) μ Q → g (f a) ρw μ (KLc1 g tt te ρw ds acc Q)) → acc.length + l.length ≤ 1000000 →
    Q (.lst (acc ++ l.filterMap h)) μ → lcL g tt te ρw (l.map f) acc μ Q
  | [], acc, step, hl, fin => by
    rw [List.map_nil, lcL]
    simpa using fin
  | a :: l, acc, step, hl, fin => by
    rw [List.map_cons, r_lcc]
    rw [List.length_cons] at hl
    refine step a List.mem_cons_self (l.map f) acc (by omega) (lc_ind h (fun a' ha => step a' (List.mem_cons_of_mem _ ha)) ?_ ?_)
    · rw [List.length_append]
      cases h a
      · simp; omega
      · simp; omega
    · have e : acc ++ (h a).toList ++ l.filterMap h = acc ++ (a :: l).filterMap h := by
        rw [List.filterMap_cons]
        cases h a <;> simp
      rw [e]
      exact fin
theorem lc_mp {f : α → D} (h : α → D) {l : List α} (step : ∀ a ∈ l, ∀ ds acc, acc.length < 1000000 → lcL g tt te ρw ds (acc ++ [h a]) μ Q → g (f a) ρw μ (KLc1 g tt te ρw ds acc Q)) (hl : l.length ≤ 1000000) (fin : Q (.lst (l.map h)) μ) :
    lcL g tt te ρw (l.map f) [] μ Q := lc_ind (fun a => some (h a)) step (by simpa using hl) (by simpa [List.filterMap_eq_map] using fin)
theorem fm_filter {c : α → Bool} {h : α → D} : ∀ {l : List α}, l.filterMap (fun a => if c a then some (h a) else none) = (l.filter c).map h
  | [] => rfl
  | a :: l => by
    rw [List.filterMap_cons, List.filter_cons, fm_filter]
    cases c a <;> rfl
theorem lc_filter {f : α → D} (c : α → Bool) (h : α → D) {l : List α} (step : ∀ a ∈ l, ∀ ds acc, acc.length < 1000000 → (c a = true → lcL g tt te ρw ds (acc ++ [h a]) μ Q) → (c a = false → lcL g tt te ρw ds acc μ Q) → g (f a) ρw μ (KLc1 g tt te ρw ds acc Q)) (hl : l.length ≤ 1000000)
    (fin : Q (.lst ((l.filter c).map h)) μ) : lcL g tt te ρw (l.map f) [] μ Q := by
  refine lc_ind (fun a => if c a then some (h a) else none) (fun a ha ds acc hacc hK => step a ha ds acc hacc (fun e => ?_) fun e => ?_) (by simpa using hl) ?_
  · rw [e] at hK
    simpa using hK
  · rw [e] at hK
    simpa using hK
  · rw [fm_filter]
    simpa using fin
/-- elements that draw from the pool -/
theorem lc_pool {f : α → D} (P : Nat → α → Prop) {lo : Int} {n : Nat} (hn : n ≤ 1000000)
    (step : ∀ i, i < n → ∀ p q, PoolOk p q → ∀ K : D → Mu → Prop, (∀ a p' q', PoolOk p' q' → P i a → K (f a) (pl μ p' q')) → g (.int (lo + (i : Nat))) ρw (pl μ p q) (KEl te K))
    (fin : ∀ l : List α, l.length = n → (∀ i a, l[i]? = some a → P i a) → ∀ p q, PoolOk p q → Q (.lst (l.map f)) (pl μ p q)) {p q : Int} (ok : PoolOk p q) : lcL g wYes te ρw (rangeD lo n) [] (pl μ p q) Q := by
  have all : ∀ k i, i + k = n → ∀ (l : List α), l.length = i → (∀ j a, l[j]? = some a → P j a) → ∀ p q, PoolOk p q → lcL g wYes te ρw ((List.range' i k).map fun j => D.int (lo + (j : Nat))) (l.map f) (pl μ p q) Q := by
    intro k
    induction k with
    | zero =>
      intro i hi l hl hP p q ok
      rw [List.range'_zero, List.map_nil, r_lcn]
      exact fin l (by omega) hP p q ok
    | succ k ih =>
      intro i hi l hl hP p q ok
      rw [List.range'_succ, List.map_cons, r_lcc]
      have e : KLc1 g wYes te ρw ((List.range' (i + 1) k).map fun j => D.int (lo + (j : Nat))) (l.map f) Q = KEl te (KLc3 g wYes te ρw ((List.range' (i + 1) k).map fun j => D.int (lo + (j : Nat))) (l.map f) Q) := by
        funext ρ2 μ2
        rw [r_lc1, r_yes, r_lc2t, t_el]
      rw [e]
      refine step i (by omega) p q ok _ fun a p' q' ok' ha => ?_
      rw [r_lc3]
      refine ⟨by rw [List.length_map]; omega, ?_⟩
      have e2 : l.map f ++ [f a] = (l ++ [a]).map f := by simp
      rw [e2]
      refine ih (i + 1) (by omega) (l ++ [a]) (by rw [List.length_append, List.length_singleton, hl]) (fun j b hb => ?_) p' q' ok'
      by_cases hj : j < l.length
      · rw [List.getElem?_append_left hj] at hb
        exact hP j b hb
      · rw [List.getElem?_append_right (by omega)] at hb
        have hj0 : j - l.length = 0 := by
          by_cases c : j - l.length = 0
          · exact c
          · rw [List.getElem?_eq_none (by rw [List.length_singleton]; omega)] at hb
            cases hb
        rw [hj0] at hb
        cases hb
        have : j = i := by omega
        subst this
        exact ha
  have e : rangeD lo n = (List.range' 0 n).map fun j => D.int (lo + (j : Nat)) := by
    unfold rangeD
    rw [List.range_eq_range']
  rw [e]
  exact all n 0 (by omega) [] rfl (fun j a h => by simp at h) p q ok
/-- over range(lo, lo + n) -/
theorem forL_rng {lo : Int} {n : Nat} (I : Nat → DS → Mu → Prop) (step : ∀ i, i < n → ∀ ρ μ (K : DS → Mu → Prop), I i ρ μ → (∀ ρ' μ', I (i + 1) ρ' μ' → K ρ' μ') → g (.int (lo + (i : Nat))) ρ μ fun ρ1 μ1 => b { E with nx := K, ct := K, bk := E.nx } ρ1 μ1)
    (fin : ∀ ρ μ, I n ρ μ → E.nx ρ μ) (h : I 0 ρ μ) : forL g b E (rangeD lo n) ρ μ := by
  have all : ∀ k i, i + k = n → ∀ ρ μ, I i ρ μ → forL g b E ((List.range' i k).map fun j => D.int (lo + (j : Nat))) ρ μ := by
    intro k
    induction k with
    | zero =>
      intro i hi ρ μ h
      have e : i = n := by omega
      subst e
      rw [List.range'_zero, List.map_nil, forL]
      exact fin _ _ h
    | succ k ih =>
      intro i hi ρ μ h
      rw [List.range'_succ, List.map_cons, forL]
      exact step i (by omega) ρ μ _ h fun ρ' μ' h' => ih (i + 1) (by omega) ρ' μ' h'
  have e : rangeD lo n = (List.range' 0 n).map fun j => D.int (lo + (j : Nat)) := by
    unfold rangeD
    rw [List.range_eq_range']
  rw [e]
  exact all n 0 (by omega) ρ μ h
/-- over data told by values, with what has been gone through -/
theorem forL_pre {f : α → D} {l : List α} (I : List α → DS → Mu → Prop) (step : ∀ pre a post, l = pre ++ a :: post → ∀ ρ μ (K : DS → Mu → Prop), I pre ρ μ → (∀ ρ' μ', I (pre ++ [a]) ρ' μ' → K ρ' μ') → g (f a) ρ μ fun ρ1 μ1 => b { E with nx := K, ct := K, bk := E.nx } ρ1 μ1)
    (fin : ∀ ρ μ, I l ρ μ → E.nx ρ μ) (h : I [] ρ μ) : forL g b E (l.map f) ρ μ := by
  have all : ∀ post pre, l = pre ++ post → ∀ ρ μ, I pre ρ μ → forL g b E (post.map f) ρ μ := by
    intro post
    induction post with
    | nil =>
      intro pre e ρ μ h
      rw [List.append_nil] at e
      subst e
      rw [List.map_nil, forL]
      exact fin _ _ h
    | cons a post ih =>
      intro pre e ρ μ h
      rw [List.map_cons, forL]
      exact step pre a post e ρ μ _ h fun ρ' μ' h' => ih (pre ++ [a]) (by rw [e]; simp) ρ' μ' h'
  exact all l [] rfl ρ μ h
end
end DL

set_option Elab.async false
set_option linter.all false
set_option maxRecDepth 100000
set_option maxHeartbeats 4000000
set_option autoImplicit false
set_option exponentiation.threshold 3000
namespace DL
open PySem PySem.Spec PyProof.Rows L2
/-! frames of DX20 -/
section
variable {Q : D → Mu → Prop} {Xd : XD} {ρ : DS} {μ : Mu} {E : DEnds} {cs : List Str} {sp : DSp} {wa wb wo : WE} {ws : WA} {x y : D}
def KIxO2 (cs : List Str) (sp : DSp) (x : D) (Q : D → Mu → Prop) (Xd : XD) : D → Mu → Prop := fun i μ2 => isClsU cs x μ2 (sp [x, i] μ2 Q Xd)
def KIxO1 (cs : List Str) (sp : DSp) (wb : WE) (ρ : DS) (Q : D → Mu → Prop) (Xd : XD) : D → Mu → Prop := fun x μ1 => wb ρ μ1 (KIxO2 cs sp x Q Xd) Xd
theorem v_ix : wIxO cs sp wa wb ρ μ Q Xd = wa ρ μ (KIxO1 cs sp wb ρ Q Xd) Xd := propext Iff.rfl
theorem v_ix1 : KIxO1 cs sp wb ρ Q Xd x μ = wb ρ μ (KIxO2 cs sp x Q Xd) Xd := propext Iff.rfl
theorem v_ix2 : KIxO2 cs sp x Q Xd y μ = isClsU cs x μ (sp [x, y] μ Q Xd) := propext Iff.rfl
def KInv (cs : List Str) (sp : DSp) (Q : D → Mu → Prop) (Xd : XD) : D → Mu → Prop := fun x μ1 => isClsU cs x μ1 (sp [x] μ1 Q Xd)
theorem v_inv : wInv cs sp wa ρ μ Q Xd = wa ρ μ (KInv cs sp Q Xd) Xd := propext Iff.rfl
theorem v_inv1 : KInv cs sp Q Xd x μ = isClsU cs x μ (sp [x] μ Q Xd) := propext Iff.rfl
def KCo2 (cs : List Str) (sp : DSp) (x : D) (Q : D → Mu → Prop) (Xd : XD) : List D → Mu → Prop := fun ds μ2 => isClsU cs x μ2 (sp (x :: ds) μ2 Q Xd)
def KCo1 (cs : List Str) (sp : DSp) (ws : WA) (ρ : DS) (Q : D → Mu → Prop) (Xd : XD) : D → Mu → Prop := fun x μ1 => isClsU cs x μ1 (ws ρ μ1 (KCo2 cs sp x Q Xd) Xd)
theorem v_co : wCallO cs sp wo ws ρ μ Q Xd = wo ρ μ (KCo1 cs sp ws ρ Q Xd) Xd := propext Iff.rfl
theorem v_co1 : KCo1 cs sp ws ρ Q Xd x μ = isClsU cs x μ (ws ρ μ (KCo2 cs sp x Q Xd) Xd) := propext Iff.rfl
theorem v_co2 {ds : List D} : KCo2 cs sp x Q Xd ds μ = isClsU cs x μ (sp (x :: ds) μ Q Xd) := propext Iff.rfl
def KLnO (Q : D → Mu → Prop) : D → Mu → Prop := fun d μ1 => match d with
    | .int n => 0 ≤ n ∧ n < 2 ^ 62 ∧ Q (.int n) μ1
    | _ => False
theorem v_len : fLenO cs sp [x] μ Q = isClsU cs x μ (sp [x] μ (KLnO Q) xF) := propext Iff.rfl
theorem v_len1 {n : Int} : KLnO Q (.int n) μ = (0 ≤ n ∧ n < 2 ^ 62 ∧ Q (.int n) μ) := propext Iff.rfl
def KSlo (i : Nat) (E : DEnds) (ρ : DS) : D → Mu → Prop := fun d μ1 => ∃ acc, d = .lst acc ∧ i < ρ.length ∧ ∀ p, E.nx (ρ.set i (.own p (.lst acc))) μ1
theorem v_slo {i : Nat} {w : WE} : sSetLcO i w E ρ μ = w ρ μ (KSlo i E ρ) (KX E ρ) := propext Iff.rfl
theorem v_slo1 {i : Nat} {acc : List D} : KSlo i E ρ (.lst acc) μ = (i < ρ.length ∧ ∀ p, E.nx (ρ.set i (.own p (.lst acc))) μ) := by
  apply propext
  constructor
  · rintro ⟨acc', e, h⟩
    cases e
    exact h
  · intro h
    exact ⟨acc, rfl, h⟩
theorem v_f2or {f g : F2} : F2.or f g x y μ Q = (f x y μ Q ∨ g x y μ Q) := propext Iff.rfl
end
theorem w_ff : (false == false) = true := rfl
theorem w_ft : (false == true) = false := rfl
theorem w_tf : (true == false) = false := rfl
theorem w_tt : (true == true) = true := rfl
/-! in, by data -/
theorem toPs_any {y : D} {p : PyData} (hy : toP y = some p) : ∀ {ds : List D} {qs : List PyData}, toPs ds = some qs → (qs.any fun z => PyData.eqv z p) = ds.any fun d => deq d y
  | [], qs, h => by
    rw [toPs] at h
    cases h
    rfl
  | d :: ds, qs, h => by
    rw [toPs] at h
    cases e1 : toP d with
    | none => rw [e1] at h; cases h
    | some q =>
      cases e2 : toPs ds with
      | none => rw [e1, e2] at h; cases h
      | some r =>
        rw [e1, e2] at h
        cases h
        rw [List.any_cons, List.any_cons, toPs_any hy e2, deq_eqv d y q p e1 hy]
theorem ind_pl {x : D} {ds : List D} {μ : Mu} {Q : D → Mu → Prop} (hx : P5 x = true) (hy : P5 (.lst ds) = true) (h : Q (.bl (ds.any fun d => deq d x)) μ) : fInD x (.lst ds) μ Q := by
  obtain ⟨p, e1, s1⟩ := P5_shaped hx
  obtain ⟨q, e2, s2⟩ := P5_shaped hy
  obtain ⟨qs, rfl, e3⟩ := lst_toP e2
  exact ⟨p, qs, e1, e2, s1, s2, by rw [toPs_any e1 e3]; exact h⟩
theorem oin_pl {neg : Bool} {x : D} {ds : List D} {Q : Bool → Prop} (hx : P5 x = true) (hy : P5 (.lst ds) = true) (h : Q (neg ^^ ds.any fun d => deq d x)) : ownIn neg x ds Q := by
  obtain ⟨p, e1, s1⟩ := P5_shaped hx
  obtain ⟨q, e2, s2⟩ := P5_shaped hy
  obtain ⟨qs, rfl, e3⟩ := lst_toP e2
  exact ⟨p, qs, e1, e3, s1, s2, by rw [toPs_any e1 e3]; exact h⟩
end DL

set_option Elab.async false
set_option linter.all false
set_option maxRecDepth 100000
set_option maxHeartbeats 2000000
/-! Frames: stores into own lists. -/
namespace DL
open PySem PySem.Spec PyProof.Rows L2
section
variable {i : Nat} {wi : WE} {d : D} {ρ : DS} {μ : Mu} {Q : DS → Mu → Prop} {p : Addr} {ds : List D} {j : Int}
def KSubO (i : Nat) (p : Addr) (ds : List D) (d : D) (ρ : DS) (Q : DS → Mu → Prop) : D → Mu → Prop := fun y μ2 => stO i p ds y d ρ fun ρ' => Q ρ' μ2
theorem x_subO : kSubO i wi d ρ μ Q = subO i wi d ρ μ Q (ρ[i]?) := propext Iff.rfl
theorem x_subO1 : subO i wi d ρ μ Q (some (.own p (.lst ds))) = wi ρ μ (KSubO i p ds d ρ Q) xF := propext Iff.rfl
theorem x_subO2 : KSubO i p ds d ρ Q (.int j) μ = (match ixN ds.length j with
    | some z => Q (ρ.set i (.own p (.lst (ds.set z d)))) μ
    | none => False) := propext Iff.rfl
end
end DL

set_option Elab.async false
set_option linter.all false
set_option maxRecDepth 100000
set_option maxHeartbeats 4000000
set_option autoImplicit false
namespace SA
/-! two triangles that a line parts are parted by an edge of one of them -/
abbrev P := Int × Int
def sd (a b p : P) : Int := (b.1 - a.1) * (p.2 - a.2) - (b.2 - a.2) * (p.1 - a.1)
theorem nonneg_of {a b : Int} (hb : 0 < b) (h : 0 ≤ a * b) : 0 ≤ a := by
  apply Int.not_lt.mp
  intro ha
  have := Int.mul_neg_of_neg_of_pos ha hb
  omega
theorem mem {U1 U2 V1 V2 x y z D1 D2 : Int} (hU1 : 0 ≤ U1) (hU2 : 0 ≤ U2) (hV1 : 0 ≤ V1) (hV2 : 0 ≤ V2) (d1 : 0 < D1) (d2 : 0 < D2) (hx : 0 ≤ x) (i1 : y * U1 = U2 * x + D2 * V1) (i2 : D1 * U2 = V2 * y + V1 * z) (hU : U1 = 0 → 0 < U2) : 0 ≤ y := by
  by_cases c : U1 = 0
  · have u2 := hU c
    rw [c, Int.mul_zero] at i1
    have s1 := Int.mul_nonneg hU2 hx
    have s2 := Int.mul_nonneg (Int.le_of_lt d2) hV1
    have v0 : D2 * V1 = 0 := by omega
    have v1 : V1 = 0 := by
      rcases Int.mul_eq_zero.mp v0 with e | e
      · omega
      · exact e
    rw [v1, Int.zero_mul, Int.add_zero] at i2
    have p := Int.mul_pos d1 u2
    apply Int.not_lt.mp
    intro hy
    have := Int.mul_nonpos_of_nonneg_of_nonpos hV2 (Int.le_of_lt hy)
    omega
  · have s1 := Int.mul_nonneg hU2 hx
    have s2 := Int.mul_nonneg (Int.le_of_lt d2) hV1
    exact nonneg_of (show 0 < U1 by omega) (by omega)
theorem comb {G uw p q rw lw : Int} (hG : 0 ≤ G) (hu : 0 ≤ uw) (hp : 0 ≤ p) (hq : 0 ≤ q) (id : G * uw = p * rw + q * lw) (hz : p = 0 → q = 0 → 0 ≤ lw) : 0 ≤ rw ∨ 0 ≤ lw := by
  by_cases c1 : 0 ≤ rw
  · exact .inl c1
  by_cases c2 : 0 ≤ lw
  · exact .inr c2
  have s0 := Int.mul_nonneg hG hu
  have s1 := Int.mul_nonpos_of_nonneg_of_nonpos hp (show rw ≤ 0 by omega)
  have s2 := Int.mul_nonpos_of_nonneg_of_nonpos hq (show lw ≤ 0 by omega)
  have z1 : p * rw = 0 := by omega
  have z2 : q * lw = 0 := by omega
  have p0 : p = 0 := by rcases Int.mul_eq_zero.mp z1 with e | e <;> omega
  have q0 : q = 0 := by rcases Int.mul_eq_zero.mp z2 with e | e <;> omega
  exact absurd (hz p0 q0) c2
theorem pos_fac {a b c d : Int} (ha : 0 < a) (hb : 0 ≤ b) (hc : 0 < c) (h : a * b = c * d) : 0 ≤ d := by
  have := Int.mul_nonneg (Int.le_of_lt ha) hb
  exact nonneg_of hc (by rw [Int.mul_comm]; omega)
/-- e1 x e2 > 0, f1 x f2 > 0; u parts them -/
theorem parts {e1x e1y e2x e2y f1x f1y f2x f2y wx wy ux uy : Int} (d1 : 0 < e1x * e2y - e1y * e2x) (d2 : 0 < f1x * f2y - f1y * f2x) (u0 : ¬ (ux = 0 ∧ uy = 0))
    (h1 : ux * e1x + uy * e1y ≤ 0) (h2 : ux * e2x + uy * e2y ≤ 0) (h3 : 0 ≤ ux * f1x + uy * f1y) (h4 : 0 ≤ ux * f2x + uy * f2y) (h5 : 0 ≤ ux * wx + uy * wy) :
    (0 ≤ e1y * f1x - e1x * f1y ∧ 0 ≤ e1y * f2x - e1x * f2y ∧ 0 ≤ e1y * wx - e1x * wy) ∨ (0 ≤ e2x * f1y - e2y * f1x ∧ 0 ≤ e2x * f2y - e2y * f2x ∧ 0 ≤ e2x * wy - e2y * wx) ∨
    (f1x * e1y - f1y * e1x ≤ 0 ∧ f1x * e2y - f1y * e2x ≤ 0 ∧ 0 ≤ f1x * wy - f1y * wx) ∨ (f2y * e1x - f2x * e1y ≤ 0 ∧ f2y * e2x - f2x * e2y ≤ 0 ∧ 0 ≤ f2y * wx - f2x * wy) := by
  -- n1 = (e1y, -e1x), n2 = (-e2y, e2x), k1 = (-f1y, f1x), k2 = (f2y, -f2x)
  obtain ⟨D1, hD1⟩ : ∃ z, e1x * e2y - e1y * e2x = z := ⟨_, rfl⟩
  obtain ⟨D2, hD2⟩ : ∃ z, f1x * f2y - f1y * f2x = z := ⟨_, rfl⟩
  obtain ⟨V1, hV1⟩ : ∃ z, -(ux * e1x + uy * e1y) = z := ⟨_, rfl⟩
  obtain ⟨V2, hV2⟩ : ∃ z, -(ux * e2x + uy * e2y) = z := ⟨_, rfl⟩
  obtain ⟨U1, hU1⟩ : ∃ z, ux * f1x + uy * f1y = z := ⟨_, rfl⟩
  obtain ⟨U2, hU2⟩ : ∃ z, ux * f2x + uy * f2y = z := ⟨_, rfl⟩
  obtain ⟨uw, huw⟩ : ∃ z, ux * wx + uy * wy = z := ⟨_, rfl⟩
  have q1 : 0 ≤ V1 := by omega
  have q2 : 0 ≤ V2 := by omega
  have q3 : 0 ≤ U1 := by omega
  have q4 : 0 ≤ U2 := by omega
  have q5 : 0 ≤ uw := by omega
  have d1' : 0 < D1 := by omega
  have d2' : 0 < D2 := by omega
  have vz : V1 = 0 → 0 < V2 := fun e => by
    apply Int.not_le.mp
    intro h
    have e2 : V2 = 0 := by omega
    have a1 : D1 * ux = 0 := by
      have : D1 * ux = V2 * e1y - V1 * e2y := by subst hD1 hV1 hV2; grind
      rw [this, e, e2]; simp
    have a2 : D1 * uy = 0 := by
      have : D1 * uy = V1 * e2x - V2 * e1x := by subst hD1 hV1 hV2; grind
      rw [this, e, e2]; simp
    refine u0 ⟨?_, ?_⟩
    · rcases Int.mul_eq_zero.mp a1 with h | h <;> omega
    · rcases Int.mul_eq_zero.mp a2 with h | h <;> omega
  have uz : U1 = 0 → 0 < U2 := fun e => by
    apply Int.not_le.mp
    intro h
    have e2 : U2 = 0 := by omega
    have a1 : D2 * ux = 0 := by
      have : D2 * ux = U1 * f2y - U2 * f1y := by subst hD2 hU1 hU2; grind
      rw [this, e, e2]; simp
    have a2 : D2 * uy = 0 := by
      have : D2 * uy = U2 * f1x - U1 * f2x := by subst hD2 hU1 hU2; grind
      rw [this, e, e2]; simp
    refine u0 ⟨?_, ?_⟩
    · rcases Int.mul_eq_zero.mp a1 with h | h <;> omega
    · rcases Int.mul_eq_zero.mp a2 with h | h <;> omega
  have vz' : V2 = 0 → 0 < V1 := fun e => by
    apply Int.not_le.mp
    intro h
    have := vz (by omega)
    omega
  have uz' : U2 = 0 → 0 < U1 := fun e => by
    apply Int.not_le.mp
    intro h
    have := uz (by omega)
    omega
  -- left bound
  by_cases cl : 0 ≤ e1y * f1x - e1x * f1y
  · -- l = n1
    have ml : 0 ≤ e1y * f2x - e1x * f2y := mem (U1 := U1) (U2 := U2) (V1 := V1) (V2 := V2) (x := e1y * f1x - e1x * f1y) (z := e2x * f2y - e2y * f2x) (D1 := D1) (D2 := D2) q3 q4 q1 q2 d1' d2' cl (by subst hD2 hU1 hU2 hV1; grind) (by subst hD1 hU2 hV1 hV2; grind) uz
    by_cases cr : 0 ≤ e2x * f2y - e2y * f2x
    · -- r = n2
      have mr : 0 ≤ e2x * f1y - e2y * f1x := mem (U1 := U2) (U2 := U1) (V1 := V2) (V2 := V1) (x := e2x * f2y - e2y * f2x) (z := e1y * f1x - e1x * f1y) (D1 := D1) (D2 := D2) q4 q3 q2 q1 d1' d2' cr (by subst hD2 hU1 hU2 hV2; grind) (by subst hD1 hU1 hV1 hV2; grind) uz'
      rcases comb (G := D1) (uw := uw) (p := V1) (q := V2) (rw := e2x * wy - e2y * wx) (lw := e1y * wx - e1x * wy) (by omega) q5 q1 q2 (by subst hD1 huw hV1 hV2; grind) (fun a b => by have := vz a; omega) with h | h
      · exact .inr (.inl ⟨mr, cr, h⟩)
      · exact .inl ⟨cl, ml, h⟩
    · -- r = k2
      have cr' : 0 ≤ f2x * e2y - f2y * e2x := by have : f2x * e2y - f2y * e2x = -(e2x * f2y - e2y * f2x) := by grind
                                                 omega
      have mr : 0 ≤ f2x * e1y - f2y * e1x := by have : f2x * e1y - f2y * e1x = e1y * f2x - e1x * f2y := by grind
                                                omega
      rcases comb (G := e1y * f2x - e1x * f2y) (uw := uw) (p := V1) (q := U2) (rw := f2y * wx - f2x * wy) (lw := e1y * wx - e1x * wy) ml q5 q1 q4 (by subst huw hV1 hU2; grind)
        (fun a b => pos_fac (a := D1) (b := uw) (c := V2) d1' q5 (vz a) (by have : D1 * uw = V2 * (e1y * wx - e1x * wy) + V1 * (e2x * wy - e2y * wx) := by (subst hD1 huw hV1 hV2; grind)
                                                                            grind)) with h | h
      · exact .inr (.inr (.inr ⟨by omega, by omega, h⟩))
      · exact .inl ⟨cl, ml, h⟩
  · -- l = k1
    have cl' : 0 ≤ f1y * e1x - f1x * e1y := by have : f1y * e1x - f1x * e1y = -(e1y * f1x - e1x * f1y) := by grind
                                               omega
    have ml : 0 ≤ f1y * e2x - f1x * e2y := mem (U1 := V1) (U2 := V2) (V1 := U1) (V2 := U2) (x := f1y * e1x - f1x * e1y) (z := f2x * e2y - f2y * e2x) (D1 := D2) (D2 := D1) q1 q2 q3 q4 d2' d1' cl' (by subst hD1 hU1 hV1 hV2; grind) (by subst hD2 hU1 hU2 hV2; grind) vz
    by_cases cr : 0 ≤ e2x * f2y - e2y * f2x
    · -- r = n2
      have mr : 0 ≤ e2x * f1y - e2y * f1x := by have : e2x * f1y - e2y * f1x = f1y * e2x - f1x * e2y := by grind
                                                omega
      rcases comb (G := e2x * f1y - e2y * f1x) (uw := uw) (p := U1) (q := V2) (rw := e2x * wy - e2y * wx) (lw := f1x * wy - f1y * wx) mr q5 q3 q2 (by subst huw hU1 hV2; grind)
        (fun a b => pos_fac (a := D2) (b := uw) (c := U2) d2' q5 (uz a) (by have : D2 * uw = U2 * (f1x * wy - f1y * wx) + U1 * (f2y * wx - f2x * wy) := by (subst hD2 huw hU1 hU2; grind)
                                                                            grind)) with h | h
      · exact .inr (.inl ⟨mr, cr, h⟩)
      · exact .inr (.inr (.inl ⟨by omega, by omega, h⟩))
    · -- r = k2
      have cr' : 0 ≤ f2x * e2y - f2y * e2x := by have : f2x * e2y - f2y * e2x = -(e2x * f2y - e2y * f2x) := by grind
                                                 omega
      have mr : 0 ≤ f2x * e1y - f2y * e1x := mem (U1 := V2) (U2 := V1) (V1 := U2) (V2 := U1) (x := f2x * e2y - f2y * e2x) (z := f1y * e1x - f1x * e1y) (D1 := D2) (D2 := D1) q2 q1 q4 q3 d2' d1' cr' (by subst hD1 hU2 hV1 hV2; grind) (by subst hD2 hU1 hU2 hV1; grind) vz'
      rcases comb (G := D2) (uw := uw) (p := U1) (q := U2) (rw := f2y * wx - f2x * wy) (lw := f1x * wy - f1y * wx) (by omega) q5 q3 q4 (by subst hD2 huw hU1 hU2; grind) (fun a b => by have := uz a; omega) with h | h
      · exact .inr (.inr (.inr ⟨by omega, by omega, h⟩))
      · exact .inr (.inr (.inl ⟨by omega, by omega, h⟩))
/-- z is not left of the way from x to y -/
def Rt (x y : P) (z : P) : Prop := sd x y z ≤ 0
/-- parted by an edge of the first -/
def Ed (a b c p q r : P) : Prop := (Rt a b p ∧ Rt a b q ∧ Rt a b r) ∨ (Rt b c p ∧ Rt b c q ∧ Rt b c r) ∨ (Rt c a p ∧ Rt c a q ∧ Rt c a r)
def lin (u : P) (z : P) : Int := u.1 * z.1 + u.2 * z.2
/-- at the greatest corner of the one, the least of the other -/
theorem at_corner {a b c p q r u : P} (d1 : 0 < sd a b c) (d2 : 0 < sd p q r) (u0 : ¬ (u.1 = 0 ∧ u.2 = 0)) (h1 : lin u b ≤ lin u a) (h2 : lin u c ≤ lin u a) (h3 : lin u p ≤ lin u q) (h4 : lin u p ≤ lin u r) (h5 : lin u a ≤ lin u p) :
    Ed a b c p q r ∨ Ed p q r a b c := by
  obtain ⟨ax, ay⟩ := a
  obtain ⟨bx, by_⟩ := b
  obtain ⟨cx, cy⟩ := c
  obtain ⟨px, py⟩ := p
  obtain ⟨qx, qy⟩ := q
  obtain ⟨rx, ry⟩ := r
  obtain ⟨ux, uy⟩ := u
  unfold lin at h1 h2 h3 h4 h5
  unfold sd at d1 d2
  simp only at *
  have z := parts (e1x := bx - ax) (e1y := by_ - ay) (e2x := cx - ax) (e2y := cy - ay) (f1x := qx - px) (f1y := qy - py) (f2x := rx - px) (f2y := ry - py) (wx := px - ax) (wy := py - ay) (ux := ux) (uy := uy) d1 d2 u0 (by grind) (by grind) (by grind) (by grind) (by grind)
  unfold Ed Rt sd
  simp only
  rcases z with ⟨z1, z2, z3⟩ | ⟨z1, z2, z3⟩ | ⟨z1, z2, z3⟩ | ⟨z1, z2, z3⟩
  · exact .inl (.inl ⟨by grind, by grind, by grind⟩)
  · exact .inl (.inr (.inr ⟨by grind, by grind, by grind⟩))
  · exact .inr (.inl ⟨by grind, by grind, by grind⟩)
  · exact .inr (.inr (.inr ⟨by grind, by grind, by grind⟩))
theorem sd_rot (a b c : P) : sd b c a = sd a b c := by unfold sd; grind
theorem Ed.rot1 {a b c p q r : P} (h : Ed b c a p q r) : Ed a b c p q r := by
  unfold Ed at *
  rcases h with h | h | h
  · exact .inr (.inl h)
  · exact .inr (.inr h)
  · exact .inl h
theorem Ed.rot2 {a b c p q r : P} (h : Ed a b c q r p) : Ed a b c p q r := by
  unfold Ed at *
  rcases h with ⟨x, y, z⟩ | ⟨x, y, z⟩ | ⟨x, y, z⟩
  · exact .inl ⟨z, x, y⟩
  · exact .inr (.inl ⟨z, x, y⟩)
  · exact .inr (.inr ⟨z, x, y⟩)
/-- parted by a line: parted by an edge -/
theorem apart {a b c p q r u : P} {w : Int} (d1 : 0 < sd a b c) (d2 : 0 < sd p q r) (u0 : ¬ (u.1 = 0 ∧ u.2 = 0)) (ha : lin u a ≤ w) (hb : lin u b ≤ w) (hc : lin u c ≤ w) (hp : w ≤ lin u p) (hq : w ≤ lin u q) (hr : w ≤ lin u r) :
    Ed a b c p q r ∨ Ed p q r a b c := by
  have rot : ∀ {x y z : P}, 0 < sd x y z → 0 < sd y z x := fun {x y z} h => by rw [sd_rot]; exact h
  -- the other: its least corner first
  have oth : ∀ {a b c : P}, 0 < sd a b c → lin u b ≤ lin u a → lin u c ≤ lin u a → lin u a ≤ w → Ed a b c p q r ∨ Ed p q r a b c := fun {a b c} d h1 h2 h3 => by
    by_cases c1 : lin u p ≤ lin u q ∧ lin u p ≤ lin u r
    · exact at_corner d d2 u0 h1 h2 c1.1 c1.2 (by omega)
    by_cases c2 : lin u q ≤ lin u r ∧ lin u q ≤ lin u p
    · rcases at_corner d (rot d2) u0 h1 h2 c2.1 c2.2 (by omega) with h | h
      · exact .inl h.rot2
      · exact .inr h.rot1
    · rcases at_corner d (rot (rot d2)) u0 h1 h2 (q := p) (r := q) (p := r) (by omega) (by omega) (by omega) with h | h
      · exact .inl h.rot2.rot2
      · exact .inr h.rot1.rot1
  by_cases c1 : lin u b ≤ lin u a ∧ lin u c ≤ lin u a
  · exact oth d1 c1.1 c1.2 ha
  by_cases c2 : lin u c ≤ lin u b ∧ lin u a ≤ lin u b
  · rcases oth (rot d1) c2.1 c2.2 hb with h | h
    · exact .inl h.rot1
    · exact .inr h.rot2
  · rcases oth (a := c) (b := a) (c := b) (rot (rot d1)) (by omega) (by omega) hc with h | h
    · exact .inl h.rot1.rot1
    · exact .inr h.rot2.rot2
end SA

set_option Elab.async false
set_option linter.all false
set_option maxRecDepth 100000
set_option maxHeartbeats 4000000
set_option autoImplicit false
namespace SA
/-! meshes of split cells -/
structure T3 where
  a : P
  b : P
  c : P
def Good (t : T3) : Prop := 0 < sd t.a t.b t.c
/-- parted by a line, the first below -/
def Sep (s t : T3) : Prop := ∃ (u : P) (w : Int), ¬ (u.1 = 0 ∧ u.2 = 0) ∧ (lin u s.a ≤ w ∧ lin u s.b ≤ w ∧ lin u s.c ≤ w) ∧ w ≤ lin u t.a ∧ w ≤ lin u t.b ∧ w ≤ lin u t.c
def neg (u : P) : P := (-u.1, -u.2)
theorem lin_neg (u z : P) : lin (neg u) z = - lin u z := by unfold lin neg; grind
theorem Sep.symm {s t : T3} (h : Sep s t) : Sep t s := by
  obtain ⟨u, w, u0, ⟨h1, h2, h3⟩, h4, h5, h6⟩ := h
  refine ⟨neg u, -w, fun z => u0 ⟨?_, ?_⟩, ⟨?_, ?_, ?_⟩, ?_, ?_, ?_⟩
  · have := z.1
    unfold neg at this
    simp only at this
    omega
  · have := z.2
    unfold neg at this
    simp only at this
    omega
  all_goals
    rw [lin_neg]
    omega
theorem Sep.ap {s t : T3} (h : Sep s t) (gs : Good s) (gt : Good t) : Ed s.a s.b s.c t.a t.b t.c ∨ Ed t.a t.b t.c s.a s.b s.c := by
  obtain ⟨u, w, u0, ⟨h1, h2, h3⟩, h4, h5, h6⟩ := h
  exact apart gs gt u0 h1 h2 h3 h4 h5 h6
/-- within the hull of four corners -/
structure Q4 where
  a : P
  b : P
  c : P
  d : P
def In4 (q : Q4) (t : T3) : Prop := ∀ (u : P) (w : Int), lin u q.a ≤ w → lin u q.b ≤ w → lin u q.c ≤ w → lin u q.d ≤ w → lin u t.a ≤ w ∧ lin u t.b ≤ w ∧ lin u t.c ≤ w
def SepQ (q r : Q4) : Prop := ∃ (u : P) (w : Int), ¬ (u.1 = 0 ∧ u.2 = 0) ∧ (lin u q.a ≤ w ∧ lin u q.b ≤ w ∧ lin u q.c ≤ w ∧ lin u q.d ≤ w) ∧ w ≤ lin u r.a ∧ w ≤ lin u r.b ∧ w ≤ lin u r.c ∧ w ≤ lin u r.d
theorem SepQ.tri {q r : Q4} {s t : T3} (h : SepQ q r) (hs : In4 q s) (ht : In4 r t) : Sep s t := by
  obtain ⟨u, w, u0, ⟨h1, h2, h3, h4⟩, h5, h6, h7, h8⟩ := h
  have z := ht (neg u) (-w) (by rw [lin_neg]; omega) (by rw [lin_neg]; omega) (by rw [lin_neg]; omega) (by rw [lin_neg]; omega)
  rw [lin_neg, lin_neg, lin_neg] at z
  exact ⟨u, w, u0, hs u w h1 h2 h3 h4, by omega, by omega, by omega⟩
/-- within a triangle -/
def In3 (s t : T3) : Prop := ∀ (u : P) (w : Int), lin u s.a ≤ w → lin u s.b ≤ w → lin u s.c ≤ w → lin u t.a ≤ w ∧ lin u t.b ≤ w ∧ lin u t.c ≤ w
theorem In3.refl (s : T3) : In3 s s := fun _ _ h1 h2 h3 => ⟨h1, h2, h3⟩
theorem In4.sub {q : Q4} {s t : T3} (h : In4 q s) (k : In3 s t) : In4 q t := fun u w h1 h2 h3 h4 => by
  obtain ⟨z1, z2, z3⟩ := h u w h1 h2 h3 h4
  exact k u w z1 z2 z3
theorem Sep.sub {s t s' t' : T3} (h : Sep s t) (hs : In3 s s') (ht : In3 t t') : Sep s' t' := by
  obtain ⟨u, w, u0, ⟨h1, h2, h3⟩, h4, h5, h6⟩ := h
  have z := ht (neg u) (-w) (by rw [lin_neg]; omega) (by rw [lin_neg]; omega) (by rw [lin_neg]; omega)
  rw [lin_neg, lin_neg, lin_neg] at z
  exact ⟨u, w, u0, hs u w h1 h2 h3, by omega, by omega, by omega⟩
theorem In3.rot (a b c : P) : In3 ⟨a, b, c⟩ ⟨b, c, a⟩ := fun u w h1 h2 h3 => ⟨h2, h3, h1⟩
theorem In3.rot' (a b c : P) : In3 ⟨a, b, c⟩ ⟨c, a, b⟩ := fun u w h1 h2 h3 => ⟨h3, h1, h2⟩
theorem In3.trans {s t r : T3} (h : In3 s t) (k : In3 t r) : In3 s r := fun u w h1 h2 h3 => by
  obtain ⟨z1, z2, z3⟩ := h u w h1 h2 h3
  exact k u w z1 z2 z3
/-! a triangle cut in two -/
theorem half {a b c m : P} (g : 0 < sd a b c) (m1 : 2 * m.1 = a.1 + b.1) (m2 : 2 * m.2 = a.2 + b.2) : Good ⟨a, m, c⟩ ∧ Good ⟨m, b, c⟩ ∧ In3 ⟨a, b, c⟩ ⟨a, m, c⟩ ∧ In3 ⟨a, b, c⟩ ⟨m, b, c⟩ ∧ Sep ⟨a, m, c⟩ ⟨m, b, c⟩ := by
  have e1 : 2 * sd a m c = sd a b c := by
    unfold sd
    grind
  have e2 : 2 * sd m b c = sd a b c := by
    unfold sd
    grind
  have lm : ∀ u : P, 2 * lin u m = lin u a + lin u b := fun u => by
    unfold lin
    grind
  refine ⟨?_, ?_, fun u w h1 h2 h3 => ⟨h1, ?_, h3⟩, fun u w h1 h2 h3 => ⟨?_, h2, h3⟩, ?_⟩
  · show 0 < sd a m c
    omega
  · show 0 < sd m b c
    omega
  · have := lm u
    simp only at h1 h2 ⊢
    omega
  · have := lm u
    simp only at h1 h2 ⊢
    omega
  · -- the line from m to c; a left of it, b right
    refine ⟨(c.2 - m.2, -(c.1 - m.1)), lin (c.2 - m.2, -(c.1 - m.1)) m, ?_, ⟨?_, Int.le_refl _, ?_⟩, Int.le_refl _, ?_, ?_⟩
    · intro z
      simp only at z
      have c1 : c.1 = m.1 := by omega
      have c2 : c.2 = m.2 := by omega
      have : sd a m c = 0 := by unfold sd; rw [c1, c2]; grind
      omega
    · have : lin (c.2 - m.2, -(c.1 - m.1)) m - lin (c.2 - m.2, -(c.1 - m.1)) a = sd a m c := by unfold lin sd; grind
      simp only
      omega
    · have : lin (c.2 - m.2, -(c.1 - m.1)) c = lin (c.2 - m.2, -(c.1 - m.1)) m := by unfold lin; grind
      simp only
      omega
    · have : lin (c.2 - m.2, -(c.1 - m.1)) b - lin (c.2 - m.2, -(c.1 - m.1)) m = sd m b c := by unfold lin sd; grind
      simp only
      omega
    · have : lin (c.2 - m.2, -(c.1 - m.1)) c = lin (c.2 - m.2, -(c.1 - m.1)) m := by unfold lin; grind
      simp only
      omega
/-! the corners of the cells -/
def Near (p : P) (k r : Int) : Prop := 8 * k - 1 ≤ p.1 ∧ p.1 ≤ 8 * k + 1 ∧ 8 * r - 1 ≤ p.2 ∧ p.2 ≤ 8 * r + 1
theorem mul_ge {x y : Int} (hx : 6 ≤ x) (hy : 6 ≤ y) : 36 ≤ x * y := by
  have := Int.mul_le_mul hx hy (by decide) (by omega)
  omega
theorem mul_sm {x y : Int} (h1 : -2 ≤ x) (h2 : x ≤ 2) (h3 : -10 ≤ y) (h4 : y ≤ 10) : -20 ≤ x * y ∧ x * y ≤ 20 := by
  have h : x.natAbs * y.natAbs ≤ 2 * 10 := Nat.mul_le_mul (by omega) (by omega)
  rw [← Int.natAbs_mul] at h
  omega
/-- the cell at k, r -/
def Cell (q : Q4) (k r : Int) : Prop := Near q.a k r ∧ Near q.b (k + 1) r ∧ Near q.c (k + 1) (r + 1) ∧ Near q.d k (r + 1)
theorem cell_tri {q : Q4} {k r : Int} (h : Cell q k r) : (Good ⟨q.a, q.b, q.c⟩ ∧ Good ⟨q.a, q.c, q.d⟩ ∧ Sep ⟨q.a, q.b, q.c⟩ ⟨q.a, q.c, q.d⟩) ∧ (Good ⟨q.a, q.b, q.d⟩ ∧ Good ⟨q.b, q.c, q.d⟩ ∧ Sep ⟨q.a, q.b, q.d⟩ ⟨q.b, q.c, q.d⟩) := by
  obtain ⟨⟨ax, ay⟩, ⟨bx, by_⟩, ⟨cx, cy⟩, ⟨dx, dy⟩⟩ := q
  obtain ⟨ha, hb, hc, hd⟩ := h
  unfold Near at ha hb hc hd
  simp only at ha hb hc hd
  have s1 := mul_ge (x := bx - ax) (y := cy - ay) (by omega) (by omega)
  have s2 := mul_sm (x := by_ - ay) (y := cx - ax) (by omega) (by omega) (by omega) (by omega)
  have s3 := mul_ge (x := cx - ax) (y := dy - ay) (by omega) (by omega)
  have s4 := mul_sm (x := dx - ax) (y := cy - ay) (by omega) (by omega) (by omega) (by omega)
  have s5 := mul_ge (x := bx - ax) (y := dy - ay) (by omega) (by omega)
  have s6 := mul_sm (x := by_ - ay) (y := dx - ax) (by omega) (by omega) (by omega) (by omega)
  have s7 := mul_ge (x := cy - by_) (y := bx - dx) (by omega) (by omega)
  have s8 := mul_sm (x := cx - bx) (y := dy - by_) (by omega) (by omega) (by omega) (by omega)
  have g1 : Good ⟨(ax, ay), (bx, by_), (cx, cy)⟩ := by unfold Good sd; simp only; omega
  have g2 : Good ⟨(ax, ay), (cx, cy), (dx, dy)⟩ := by
    unfold Good sd
    simp only
    rw [Int.mul_comm (cy - ay)]
    omega
  have g3 : Good ⟨(ax, ay), (bx, by_), (dx, dy)⟩ := by unfold Good sd; simp only; omega
  have g4 : Good ⟨(bx, by_), (cx, cy), (dx, dy)⟩ := by
    unfold Good sd
    simp only
    have e : (cy - by_) * (dx - bx) = -((cy - by_) * (bx - dx)) := by grind
    omega
  have lz : ∀ (x y z : P), lin (-(y.2 - x.2), y.1 - x.1) z - lin (-(y.2 - x.2), y.1 - x.1) x = sd x y z := fun x y z => by unfold lin sd; grind
  have a1 := lz (ax, ay) (cx, cy) (bx, by_)
  have a2 := lz (ax, ay) (cx, cy) (cx, cy)
  have a3 := lz (ax, ay) (cx, cy) (dx, dy)
  have b1 := lz (dx, dy) (bx, by_) (ax, ay)
  have b2 := lz (dx, dy) (bx, by_) (bx, by_)
  have b3 := lz (dx, dy) (bx, by_) (cx, cy)
  have c1 : sd (ax, ay) (cx, cy) (bx, by_) = - sd (ax, ay) (bx, by_) (cx, cy) := by unfold sd; grind
  have c2 : sd (ax, ay) (cx, cy) (cx, cy) = 0 := by unfold sd; grind
  have c3 : sd (dx, dy) (bx, by_) (ax, ay) = - sd (ax, ay) (bx, by_) (dx, dy) := by unfold sd; grind
  have c4 : sd (dx, dy) (bx, by_) (bx, by_) = 0 := by unfold sd; grind
  have c5 : sd (dx, dy) (bx, by_) (cx, cy) = sd (bx, by_) (cx, cy) (dx, dy) := by unfold sd; grind
  have G1 : 0 < sd (ax, ay) (bx, by_) (cx, cy) := g1
  have G2 : 0 < sd (ax, ay) (cx, cy) (dx, dy) := g2
  have G3 : 0 < sd (ax, ay) (bx, by_) (dx, dy) := g3
  have G4 : 0 < sd (bx, by_) (cx, cy) (dx, dy) := g4
  rw [c1] at a1
  rw [c2] at a2
  rw [c3] at b1
  rw [c4] at b2
  rw [c5] at b3
  simp only at a1 a2 a3 b1 b2 b3
  refine ⟨⟨g1, g2, (-(cy - ay), cx - ax), lin (-(cy - ay), cx - ax) (ax, ay), ?_, ⟨Int.le_refl _, ?_, ?_⟩, Int.le_refl _, ?_, ?_⟩, g3, g4, (-(by_ - dy), bx - dx), lin (-(by_ - dy), bx - dx) (dx, dy), ?_, ⟨?_, ?_, Int.le_refl _⟩, ?_, ?_, Int.le_refl _⟩
  all_goals
    simp only
    try omega
theorem sepLine {a b c d e f g h : P} (x y : P) (hxy : x ≠ y) (a1 : 0 ≤ sd x y a) (a2 : 0 ≤ sd x y b) (a3 : 0 ≤ sd x y c) (a4 : 0 ≤ sd x y d) (b1 : sd x y e ≤ 0) (b2 : sd x y f ≤ 0) (b3 : sd x y g ≤ 0) (b4 : sd x y h ≤ 0) : SepQ ⟨a, b, c, d⟩ ⟨e, f, g, h⟩ := by
  have lz : ∀ z : P, lin (y.2 - x.2, -(y.1 - x.1)) z - lin (y.2 - x.2, -(y.1 - x.1)) x = - sd x y z := fun z => by unfold lin sd; grind
  refine ⟨(y.2 - x.2, -(y.1 - x.1)), lin (y.2 - x.2, -(y.1 - x.1)) x, fun z => hxy ?_, ⟨?_, ?_, ?_, ?_⟩, ?_, ?_, ?_, ?_⟩
  · simp only at z
    exact Prod.ext (by omega) (by omega)
  · have := lz a; simp only; omega
  · have := lz b; simp only; omega
  · have := lz c; simp only; omega
  · have := lz d; simp only; omega
  · have := lz e; simp only; omega
  · have := lz f; simp only; omega
  · have := lz g; simp only; omega
  · have := lz h; simp only; omega
theorem sd_x {x y : P} : 0 ≤ sd x y x := by unfold sd; have : (y.1 - x.1) * (x.2 - x.2) - (y.2 - x.2) * (x.1 - x.1) = 0 := by grind
                                            omega
theorem sd_y {x y : P} : 0 ≤ sd x y y := by unfold sd; have : (y.1 - x.1) * (y.2 - x.2) - (y.2 - x.2) * (y.1 - x.1) = 0 := by grind
                                            omega
theorem sd_x' {x y : P} : sd x y x ≤ 0 := by unfold sd; have : (y.1 - x.1) * (x.2 - x.2) - (y.2 - x.2) * (x.1 - x.1) = 0 := by grind
                                             omega
theorem sd_y' {x y : P} : sd x y y ≤ 0 := by unfold sd; have : (y.1 - x.1) * (y.2 - x.2) - (y.2 - x.2) * (y.1 - x.1) = 0 := by grind
                                             omega
/-- a way up: what is left, right of it -/
theorem up_l {x y z : P} (h1 : -2 ≤ y.1 - x.1 ∧ y.1 - x.1 ≤ 2) (h2 : 6 ≤ y.2 - x.2) (h3 : 6 ≤ x.1 - z.1 ∧ -10 ≤ z.2 - x.2 ∧ z.2 - x.2 ≤ 10) : 0 ≤ sd x y z := by
  have s1 := mul_ge (x := y.2 - x.2) (y := x.1 - z.1) h2 h3.1
  have s2 := mul_sm h1.1 h1.2 h3.2.1 h3.2.2
  have e : sd x y z = (y.1 - x.1) * (z.2 - x.2) + (y.2 - x.2) * (x.1 - z.1) := by unfold sd; grind
  omega
theorem up_r {x y z : P} (h1 : -2 ≤ y.1 - x.1 ∧ y.1 - x.1 ≤ 2) (h2 : 6 ≤ y.2 - x.2) (h3 : 6 ≤ z.1 - x.1 ∧ -10 ≤ z.2 - x.2 ∧ z.2 - x.2 ≤ 10) : sd x y z ≤ 0 := by
  have s1 := mul_ge (x := y.2 - x.2) (y := z.1 - x.1) h2 h3.1
  have s2 := mul_sm h1.1 h1.2 h3.2.1 h3.2.2
  have e : sd x y z = (y.1 - x.1) * (z.2 - x.2) - (y.2 - x.2) * (z.1 - x.1) := rfl
  omega
/-- a way to the left: what is below, above it -/
theorem lf_d {x y z : P} (h1 : -2 ≤ y.2 - x.2 ∧ y.2 - x.2 ≤ 2) (h2 : 6 ≤ x.1 - y.1) (h3 : 6 ≤ x.2 - z.2 ∧ -10 ≤ z.1 - x.1 ∧ z.1 - x.1 ≤ 10) : 0 ≤ sd x y z := by
  have s1 := mul_ge (x := x.1 - y.1) (y := x.2 - z.2) h2 h3.1
  have s2 := mul_sm h1.1 h1.2 h3.2.1 h3.2.2
  have e : sd x y z = (x.1 - y.1) * (x.2 - z.2) - (y.2 - x.2) * (z.1 - x.1) := by unfold sd; grind
  omega
theorem lf_u {x y z : P} (h1 : -2 ≤ y.2 - x.2 ∧ y.2 - x.2 ≤ 2) (h2 : 6 ≤ x.1 - y.1) (h3 : 6 ≤ z.2 - x.2 ∧ -10 ≤ z.1 - x.1 ∧ z.1 - x.1 ≤ 10) : sd x y z ≤ 0 := by
  have s1 := mul_ge (x := x.1 - y.1) (y := z.2 - x.2) h2 h3.1
  have s2 := mul_sm h1.1 h1.2 h3.2.1 h3.2.2
  have e : sd x y z = -((x.1 - y.1) * (z.2 - x.2)) - (y.2 - x.2) * (z.1 - x.1) := by unfold sd; grind
  omega
/-- two cells of four, in their order, are parted -/
theorem cells_part {R : Nat → Nat → P} (hR : ∀ r k, r ≤ 2 → k ≤ 2 → Near (R r k) k r) {r k r' k' : Nat} (h1 : r ≤ 1) (h2 : k ≤ 1) (h3 : r' ≤ 1) (h4 : k' ≤ 1) (hlt : r' < r ∨ (r' = r ∧ k' < k)) :
    SepQ ⟨R r' k', R r' (k' + 1), R (r' + 1) (k' + 1), R (r' + 1) k'⟩ ⟨R r k, R r (k + 1), R (r + 1) (k + 1), R (r + 1) k⟩ := by
  have n00 := hR 0 0 (by omega) (by omega)
  have n01 := hR 0 1 (by omega) (by omega)
  have n02 := hR 0 2 (by omega) (by omega)
  have n10 := hR 1 0 (by omega) (by omega)
  have n11 := hR 1 1 (by omega) (by omega)
  have n12 := hR 1 2 (by omega) (by omega)
  have n20 := hR 2 0 (by omega) (by omega)
  have n21 := hR 2 1 (by omega) (by omega)
  have n22 := hR 2 2 (by omega) (by omega)
  unfold Near at *
  have hr : (r' = 0 ∧ r = 0 ∧ k' = 0 ∧ k = 1) ∨ (r' = 1 ∧ r = 1 ∧ k' = 0 ∧ k = 1) ∨ (r' = 0 ∧ r = 1 ∧ k' = 0 ∧ k = 0) ∨ (r' = 0 ∧ r = 1 ∧ k' = 1 ∧ k = 1) ∨ (r' = 0 ∧ r = 1 ∧ k' = 0 ∧ k = 1) ∨ (r' = 0 ∧ r = 1 ∧ k' = 1 ∧ k = 0) := by omega
  rcases hr with ⟨rfl, rfl, rfl, rfl⟩ | ⟨rfl, rfl, rfl, rfl⟩ | ⟨rfl, rfl, rfl, rfl⟩ | ⟨rfl, rfl, rfl, rfl⟩ | ⟨rfl, rfl, rfl, rfl⟩ | ⟨rfl, rfl, rfl, rfl⟩
  · show SepQ ⟨R 0 0, R 0 1, R 1 1, R 1 0⟩ ⟨R 0 1, R 0 2, R 1 2, R 1 1⟩
    exact sepLine (R 0 1) (R 1 1) (fun e => by rw [e] at n01; omega) (up_l (by omega) (by omega) (by omega)) sd_x (sd_y) (up_l (by omega) (by omega) (by omega)) sd_x' (up_r (by omega) (by omega) (by omega)) (up_r (by omega) (by omega) (by omega)) sd_y'
  · show SepQ ⟨R 1 0, R 1 1, R 2 1, R 2 0⟩ ⟨R 1 1, R 1 2, R 2 2, R 2 1⟩
    exact sepLine (R 1 1) (R 2 1) (fun e => by rw [e] at n11; omega) (up_l (by omega) (by omega) (by omega)) sd_x (sd_y) (up_l (by omega) (by omega) (by omega)) sd_x' (up_r (by omega) (by omega) (by omega)) (up_r (by omega) (by omega) (by omega)) sd_y'
  · show SepQ ⟨R 0 0, R 0 1, R 1 1, R 1 0⟩ ⟨R 1 0, R 1 1, R 2 1, R 2 0⟩
    exact sepLine (R 1 1) (R 1 0) (fun e => by rw [e] at n11; omega) (lf_d (by omega) (by omega) (by omega)) (lf_d (by omega) (by omega) (by omega)) sd_x sd_y sd_y' sd_x' (lf_u (by omega) (by omega) (by omega)) (lf_u (by omega) (by omega) (by omega))
  · show SepQ ⟨R 0 1, R 0 2, R 1 2, R 1 1⟩ ⟨R 1 1, R 1 2, R 2 2, R 2 1⟩
    exact sepLine (R 1 2) (R 1 1) (fun e => by rw [e] at n12; omega) (lf_d (by omega) (by omega) (by omega)) (lf_d (by omega) (by omega) (by omega)) sd_x sd_y sd_y' sd_x' (lf_u (by omega) (by omega) (by omega)) (lf_u (by omega) (by omega) (by omega))
  · refine ⟨(1, 1), (R 1 1).1 + (R 1 1).2, by decide, ⟨?_, ?_, ?_, ?_⟩, ?_, ?_, ?_, ?_⟩
    all_goals
      unfold lin
      simp only [Nat.zero_add, Nat.reduceAdd]
      omega
  · refine ⟨(-1, 1), (R 1 1).2 - (R 1 1).1, by decide, ⟨?_, ?_, ?_, ?_⟩, ?_, ?_, ?_, ?_⟩
    all_goals
      unfold lin
      simp only [Nat.zero_add, Nat.reduceAdd]
      omega
end SA

set_option Elab.async false
set_option linter.all false
set_option maxRecDepth 100000
set_option maxHeartbeats 4000000
set_option autoImplicit false
/-! Meshes: each point inside is owned once by a half circle of directions. -/
namespace SA
def cr (u v : P) : Int := u.1 * v.2 - u.2 * v.1
def sb (a b : P) : P := (a.1 - b.1, a.2 - b.2)
def O : P := (0, 0)
/-- a half circle of directions -/
structure HP (R : P → Bool) : Prop where
  opp : ∀ d : P, d ≠ O → R (neg d) = !R d
  cone : ∀ (u v d : P) (m α β : Int), 0 < m → 0 ≤ α → 0 ≤ β → R u = true → R v = true → d ≠ O → m * d.1 = α * u.1 + β * v.1 → m * d.2 = α * u.2 + β * v.2 → R d = true
theorem HP.par {R : P → Bool} (h : HP R) {u d : P} {m α : Int} (hm : 0 < m) (ha : 0 < α) (hd : d ≠ O) (e1 : m * d.1 = α * u.1) (e2 : m * d.2 = α * u.2) (hu : R u = true) : R d = true :=
  h.cone u u d m α 0 hm (by omega) (by decide) hu hu hd (by omega) (by omega)
theorem P.ext {u v : P} (h1 : u.1 = v.1) (h2 : u.2 = v.2) : u = v := Prod.ext h1 h2
theorem nz {u : P} : u ≠ O ↔ ¬ (u.1 = 0 ∧ u.2 = 0) := by
  constructor
  · intro h z
    exact h (P.ext z.1 z.2)
  · intro h z
    subst z
    exact h ⟨rfl, rfl⟩
theorem neg_nz {u : P} (h : u ≠ O) : neg u ≠ O := by
  rw [nz] at h ⊢
  unfold neg
  simp only
  omega
theorem cr_nz {u v : P} (h : 0 < cr u v) : u ≠ O ∧ v ≠ O := by
  constructor <;> (rw [nz]; rintro ⟨h1, h2⟩; unfold cr at h; rw [h1, h2] at h; simp at h)
theorem neg_neg (u : P) : neg (neg u) = u := by
  unfold neg
  exact P.ext (by simp) (by simp)
theorem HP.opp' {R : P → Bool} (h : HP R) {d : P} (hd : d ≠ O) (h1 : R d = true) (h2 : R (neg d) = true) : False := by
  rw [h.opp d hd, h1] at h2
  cases h2
theorem HP.neg {R : P → Bool} (h : HP R) : HP (fun d => !(R d) && decide (d ≠ O)) := by
  have key : ∀ d : P, d ≠ O → ((!(R d) && decide (d ≠ O)) = true ↔ R (SA.neg d) = true) := fun d hd => by
    rw [h.opp d hd]
    simp [hd]
  refine ⟨fun d hd => ?_, fun u v d m α β hm ha hb hu hv hd e1 e2 => ?_⟩
  · have e := h.opp d hd
    have n := neg_nz hd
    simp [e, hd, n]
  · have hu0 : u ≠ O := by simp at hu; exact hu.2
    have hv0 : v ≠ O := by simp at hv; exact hv.2
    rw [key d hd]
    refine h.cone (SA.neg u) (SA.neg v) (SA.neg d) m α β hm ha hb ((key u hu0).mp hu) ((key v hv0).mp hv) (neg_nz hd) ?_ ?_
    · show m * (-d.1) = α * (-u.1) + β * (-v.1)
      grind
    · show m * (-d.2) = α * (-u.2) + β * (-v.2)
      grind
/-- the half of the program -/
def hf (w : P) (ah : Bool) (d : P) : Bool := if cr w d ≠ 0 then decide (0 < cr w d) else (decide (0 < d.1 * w.1 + d.2 * w.2) == ah)
theorem sq0 {a b : Int} (h : a * a + b * b = 0) : a = 0 ∧ b = 0 := by
  have h1 : 0 ≤ a * a := by rcases Int.le_total 0 a with z | z; exact Int.mul_nonneg z z; have := Int.mul_nonneg (show 0 ≤ -a by omega) (show 0 ≤ -a by omega); grind
  have h2 : 0 ≤ b * b := by rcases Int.le_total 0 b with z | z; exact Int.mul_nonneg z z; have := Int.mul_nonneg (show 0 ≤ -b by omega) (show 0 ≤ -b by omega); grind
  have e1 : a * a = 0 := by omega
  have e2 : b * b = 0 := by omega
  exact ⟨by rcases Int.mul_eq_zero.mp e1 with z | z <;> exact z, by rcases Int.mul_eq_zero.mp e2 with z | z <;> exact z⟩
theorem dot_nz {w d : P} (hw : w ≠ O) (hd : d ≠ O) (h : cr w d = 0) : d.1 * w.1 + d.2 * w.2 ≠ 0 := by
  intro e
  have h1 : (w.1 * w.1 + w.2 * w.2) * (d.1 * d.1 + d.2 * d.2) = cr w d * cr w d + (d.1 * w.1 + d.2 * w.2) * (d.1 * w.1 + d.2 * w.2) := by unfold cr; grind
  rw [h, e] at h1
  rcases Int.mul_eq_zero.mp (h1.trans (by decide)) with z | z
  · exact hw (P.ext (sq0 z).1 (sq0 z).2)
  · exact hd (P.ext (sq0 z).1 (sq0 z).2)
theorem pos_of_mul {m x : Int} (hm : 0 < m) (h : 0 < m * x) : 0 < x := by
  rcases Int.lt_or_le 0 x with z | z
  · exact z
  · have := Int.mul_nonneg (Int.le_of_lt hm) (show 0 ≤ -x by omega)
    have e : m * -x = -(m * x) := by grind
    omega
theorem nonneg_of_mul {m x : Int} (hm : 0 < m) (h : 0 ≤ m * x) : 0 ≤ x := by
  rcases Int.lt_or_le x 0 with z | z
  · have := Int.mul_pos hm (show 0 < -x by omega)
    have e : m * -x = -(m * x) := by grind
    omega
  · exact z
theorem hf_hp {w : P} {ah : Bool} (hw : w ≠ O) : HP (hf w ah) := by
  refine ⟨fun d hd => ?_, fun u v d m α β hm ha hb hu hv hd e1 e2 => ?_⟩
  · have c1 : cr w (neg d) = - cr w d := by unfold cr neg; simp only; grind
    have c2 : (neg d).1 * w.1 + (neg d).2 * w.2 = -(d.1 * w.1 + d.2 * w.2) := by unfold neg; simp only; grind
    unfold hf
    rw [c1, c2]
    by_cases c : cr w d = 0
    · have := dot_nz hw hd c
      rw [if_neg (by omega), if_neg (by omega)]
      by_cases g : 0 < d.1 * w.1 + d.2 * w.2
      · rw [decide_eq_true g, decide_eq_false (by omega)]
        cases ah <;> rfl
      · rw [decide_eq_false g, decide_eq_true (by omega)]
        cases ah <;> rfl
    · rw [if_pos (by omega), if_pos c]
      by_cases g : 0 < cr w d
      · rw [decide_eq_true g, decide_eq_false (by omega)]
        rfl
      · rw [decide_eq_false g, decide_eq_true (by omega)]
        rfl
  · have c1 : m * cr w d = α * cr w u + β * cr w v := by unfold cr; grind
    have c2 : m * (d.1 * w.1 + d.2 * w.2) = α * (u.1 * w.1 + u.2 * w.2) + β * (v.1 * w.1 + v.2 * w.2) := by grind
    have pu : 0 ≤ cr w u := by
      unfold hf at hu
      by_cases c : cr w u = 0
      · omega
      · rw [if_pos c, decide_eq_true_eq] at hu; omega
    have pv : 0 ≤ cr w v := by
      unfold hf at hv
      by_cases c : cr w v = 0
      · omega
      · rw [if_pos c, decide_eq_true_eq] at hv; omega
    have q1 := Int.mul_nonneg ha pu
    have q2 := Int.mul_nonneg hb pv
    have pd : 0 ≤ cr w d := nonneg_of_mul hm (by omega)
    unfold hf
    by_cases c : cr w d = 0
    · rw [if_neg (by omega)]
      have z : α * cr w u = 0 ∧ β * cr w v = 0 := by rw [c] at c1; omega
      have dz := dot_nz hw hd c
      have su : ah = true → 0 ≤ α * (u.1 * w.1 + u.2 * w.2) := fun t => by
        rcases Int.mul_eq_zero.mp z.1 with z1 | z1
        · rw [z1]; omega
        · unfold hf at hu
          rw [if_neg (by omega), t] at hu
          simp only [beq_iff_eq, decide_eq_true_eq] at hu
          exact Int.mul_nonneg ha (by omega)
      have sv : ah = true → 0 ≤ β * (v.1 * w.1 + v.2 * w.2) := fun t => by
        rcases Int.mul_eq_zero.mp z.2 with z1 | z1
        · rw [z1]; omega
        · unfold hf at hv
          rw [if_neg (by omega), t] at hv
          simp only [beq_iff_eq, decide_eq_true_eq] at hv
          exact Int.mul_nonneg hb (by omega)
      have tu : ah = false → 0 ≤ α * -(u.1 * w.1 + u.2 * w.2) := fun t => by
        rcases Int.mul_eq_zero.mp z.1 with z1 | z1
        · rw [z1]; omega
        · unfold hf at hu
          rw [if_neg (by omega), t] at hu
          simp only [beq_iff_eq, decide_eq_false_iff_not] at hu
          exact Int.mul_nonneg ha (by omega)
      have tv : ah = false → 0 ≤ β * -(v.1 * w.1 + v.2 * w.2) := fun t => by
        rcases Int.mul_eq_zero.mp z.2 with z1 | z1
        · rw [z1]; omega
        · unfold hf at hv
          rw [if_neg (by omega), t] at hv
          simp only [beq_iff_eq, decide_eq_false_iff_not] at hv
          exact Int.mul_nonneg hb (by omega)
      cases ah
      · have h1 := tu rfl
        have h2 := tv rfl
        have h3 : 0 ≤ -(d.1 * w.1 + d.2 * w.2) := nonneg_of_mul hm (by grind)
        rw [decide_eq_false (by omega)]
        rfl
      · have h1 := su rfl
        have h2 := sv rfl
        have h3 : 0 ≤ d.1 * w.1 + d.2 * w.2 := nonneg_of_mul hm (by omega)
        rw [decide_eq_true (by omega)]
        rfl
    · rw [if_pos c]
      exact decide_eq_true (by omega)
/-! ### order within a half circle -/
theorem cr_trans {R : P → Bool} (h : HP R) {x y z : P} (hx : R x = true) (hy : R y = true) (hz : R z = true) (z0 : z ≠ O) (h1 : 0 < cr x y) (h2 : 0 < cr y z) : 0 < cr x z := by
  rcases Int.lt_or_le 0 (cr x z) with g | g
  · exact g
  · exfalso
    refine h.opp' z0 hz (h.cone x y (neg z) (cr x y) (cr y z) (-cr x z) h1 (by omega) (by omega) hx hy (neg_nz z0) ?_ ?_)
    · unfold cr neg; grind
    · unfold cr neg; grind
theorem ex_max {R : P → Bool} (h : HP R) {α : Type} {f : α → P} : ∀ {l : List α}, l ≠ [] → (∀ x ∈ l, R (f x) = true ∧ f x ≠ O) → ∃ x ∈ l, ∀ y ∈ l, cr (f x) (f y) ≤ 0
  | [], h0, _ => absurd rfl h0
  | [x], _, _ => ⟨x, by simp, fun y hy => by rw [List.mem_singleton] at hy; subst hy; unfold cr; grind⟩
  | x :: y :: l, _, hl => by
    obtain ⟨m, hm, hmax⟩ := ex_max h (l := y :: l) (by simp) fun z hz => hl z (List.mem_cons_of_mem _ hz)
    rcases Int.lt_or_le 0 (cr (f m) (f x)) with g | g
    · refine ⟨x, by simp, fun z hz => ?_⟩
      rcases List.mem_cons.mp hz with rfl | hz
      · unfold cr; grind
      · have h1 := hmax z hz
        rcases Int.lt_or_le 0 (cr (f x) (f z)) with g2 | g2
        · have hm' := hl m (List.mem_cons_of_mem _ hm)
          have hz' := hl z (List.mem_cons_of_mem _ hz)
          have := cr_trans h hm'.1 (hl x (by simp)).1 hz'.1 hz'.2 g g2
          omega
        · exact g2
    · refine ⟨m, List.mem_cons_of_mem _ hm, fun z hz => ?_⟩
      rcases List.mem_cons.mp hz with rfl | hz
      · exact g
      · exact hmax z hz
/-- a corner's wedge, or an edge's -/
def Wd (w : P × P) : Prop := 0 < cr w.1 w.2 ∨ (w.1 ≠ O ∧ w.2 = neg w.1)
theorem Wd.nz {w : P × P} (h : Wd w) : w.1 ≠ O ∧ w.2 ≠ O := by
  rcases h with h | ⟨h1, h2⟩
  · exact cr_nz h
  · exact ⟨h1, by rw [h2]; exact neg_nz h1⟩
/-- the same way -/
def SW (u v : P) : Prop := ∃ m n : Int, 0 < m ∧ 0 < n ∧ m * u.1 = n * v.1 ∧ m * u.2 = n * v.2
theorem SW.R {R : P → Bool} (h : HP R) {u v : P} (hv : v ≠ O) (s : SW u v) (hu : R u = true) : R v = true := by
  obtain ⟨m, n, hm, hn, e1, e2⟩ := s
  exact h.par hn hm hv e1.symm e2.symm hu
theorem chain0 {R : P → Bool} (h : HP R) {ws : List (P × P)} (hw : ∀ w ∈ ws, Wd w) (hc : ∀ w ∈ ws, ∃ w' ∈ ws, SW w.2 w'.1) (st : ∃ w ∈ ws, R w.1 = true) (go : ∀ w ∈ ws, R w.1 = true → R w.2 = true) : False := by
  obtain ⟨w0, hw0, r0⟩ := st
  have ne : ws.filter (fun w => R w.1) ≠ [] := List.ne_nil_of_mem (List.mem_filter.mpr ⟨hw0, r0⟩)
  obtain ⟨w, hwm, hmax⟩ := ex_max h (f := fun w : P × P => w.1) ne fun x hx => ⟨(List.mem_filter.mp hx).2, (hw x (List.mem_filter.mp hx).1).nz.1⟩
  obtain ⟨hwi, rw_⟩ := List.mem_filter.mp hwm
  have rv := go w hwi rw_
  obtain ⟨w', hw', sw⟩ := hc w hwi
  have n' := (hw w' hw').nz
  have r' := sw.R h n'.1 rv
  have mx := hmax w' (List.mem_filter.mpr ⟨hw', r'⟩)
  rcases hw w hwi with c | ⟨c1, c2⟩
  · obtain ⟨m, n, hm, hn, e1, e2⟩ := sw
    have e : m * cr w.1 w.2 = n * cr w.1 w'.1 := by unfold cr; grind
    have p := Int.mul_pos hm c
    have := pos_of_mul hn (by omega : 0 < n * cr w.1 w'.1)
    omega
  · rw [c2] at rv
    exact h.opp' c1 rw_ rv
theorem chain {R : P → Bool} (h : HP R) {ws : List (P × P)} (ne : ws ≠ []) (hw : ∀ w ∈ ws, Wd w) (hc : ∀ w ∈ ws, ∃ w' ∈ ws, SW w.2 w'.1) : ∃ w ∈ ws, R w.1 = true ∧ R w.2 = false := by
  by_cases g : ∃ w ∈ ws, R w.1 = true ∧ R w.2 = false
  · exact g
  exfalso
  have go : ∀ w ∈ ws, R w.1 = true → R w.2 = true := fun w hw1 r => by
    cases e : R w.2 with
    | true => rfl
    | false => exact absurd ⟨w, hw1, r, e⟩ g
  by_cases st : ∃ w ∈ ws, R w.1 = true
  · exact chain0 h hw hc st go
  · have no : ∀ w ∈ ws, R w.1 = false := fun w hw1 => by
      cases e : R w.1 with
      | false => rfl
      | true => exact absurd ⟨w, hw1, e⟩ st
    obtain ⟨w0, hw0⟩ := List.exists_mem_of_ne_nil ws ne
    refine chain0 (h.neg) hw hc ⟨w0, hw0, ?_⟩ fun w hw1 r => ?_
    · simp [no w0 hw0, (hw w0 hw0).nz.1]
    · obtain ⟨w', hw', sw⟩ := hc w hw1
      refine (show SW w'.1 w.2 from ?_).R (h.neg) (hw w hw1).nz.2 ?_
      · obtain ⟨m, n, hm, hn, e1, e2⟩ := sw
        exact ⟨n, m, hn, hm, e1.symm, e2.symm⟩
      · simp [no w' hw', (hw w' hw').nz.1]
/-! ### owners and wedges -/
def wOwn (R : P → Bool) (a b p : P) : Bool := decide (0 < sd a b p) || (decide (sd a b p = 0) && R (sb b a))
def own (R : P → Bool) (t : T3) (p : P) : Bool := wOwn R t.a t.b p && (wOwn R t.b t.c p && wOwn R t.c t.a p)
def wedge (t : T3) (p : P) : Option (Option (P × P)) :=
  if 0 ≤ sd t.a t.b p ∧ 0 ≤ sd t.b t.c p ∧ 0 ≤ sd t.c t.a p then
    if p = t.a then some (some (sb t.b p, sb t.c p)) else if p = t.b then some (some (sb t.c p, sb t.a p)) else if p = t.c then some (some (sb t.a p, sb t.b p))
    else if sd t.a t.b p = 0 then some (some (sb t.b t.a, sb t.a t.b)) else if sd t.b t.c p = 0 then some (some (sb t.c t.b, sb t.b t.c)) else if sd t.c t.a p = 0 then some (some (sb t.a t.c, sb t.c t.a))
    else some none
  else none
theorem wOwn_le {R : P → Bool} {a b p : P} (h : wOwn R a b p = true) : 0 ≤ sd a b p := by
  unfold wOwn at h
  simp only [Bool.or_eq_true, Bool.and_eq_true, decide_eq_true_eq] at h
  omega
theorem wOwn_pos {R : P → Bool} {a b p : P} (h : 0 < sd a b p) : wOwn R a b p = true := by
  unfold wOwn
  rw [decide_eq_true h]
  rfl
theorem wOwn_zero {R : P → Bool} {a b p : P} (h : sd a b p = 0) : wOwn R a b p = R (sb b a) := by
  unfold wOwn
  rw [h]
  simp
theorem sub_neg (a b : P) : sb a b = neg (sb b a) := by unfold sb neg; exact P.ext (by simp only; omega) (by simp only; omega)
theorem sd_cyc (a b c : P) : sd b c a = sd a b c ∧ sd c a b = sd a b c := by unfold sd; constructor <;> grind
theorem sd_aa (a b : P) : sd a b a = 0 ∧ sd a b b = 0 := by unfold sd; constructor <;> grind
theorem sd_ne {a b c : P} (h : 0 < sd a b c) : sb b a ≠ O ∧ sb c b ≠ O ∧ sb a c ≠ O := by
  refine ⟨?_, ?_, ?_⟩ <;>
  · rw [nz]
    rintro ⟨h1, h2⟩
    unfold sb at h1 h2
    simp only at h1 h2
    have e : sd a b c = 0 := by unfold sd; grind
    omega
theorem corner_own {R : P → Bool} (h : HP R) {a b c : P} (g : 0 < sd a b c) : (wOwn R a b a && (wOwn R b c a && wOwn R c a a)) = (R (sb b a) && !R (sb c a)) ∧ Wd (sb b a, sb c a) := by
  have e1 := (sd_aa a b).1
  have e2 := (sd_aa c a).2
  have e3 : 0 < sd b c a := by rw [(sd_cyc a b c).1]; exact g
  have n := (sd_ne g).2.2
  refine ⟨?_, .inl ?_⟩
  · rw [wOwn_zero e1, wOwn_zero e2, wOwn_pos e3, sub_neg a c, h.opp _ (by rw [sub_neg]; exact neg_nz n)]
    simp
  · unfold cr sb
    unfold sd at g
    exact g
theorem edge_own {R : P → Bool} (h : HP R) {a b c p : P} (g : 0 < sd a b c) (h1 : sd a b p = 0) (h2 : 0 < sd b c p) (h3 : 0 < sd c a p) : (wOwn R a b p && (wOwn R b c p && wOwn R c a p)) = (R (sb b a) && !R (sb a b)) ∧ Wd (sb b a, sb a b) := by
  have n := (sd_ne g).1
  refine ⟨?_, .inr ⟨n, sub_neg _ _⟩⟩
  rw [wOwn_zero h1, wOwn_pos h2, wOwn_pos h3, sub_neg a b, h.opp _ n]
  simp
/-- on a line of two edges: the corner -/
theorem at_two {a b c p : P} (g : 0 < sd a b c) (h1 : sd a b p = 0) (h2 : sd c a p = 0) : p = a := by
  have s : sd a b p + sd b c p + sd c a p = sd a b c := by unfold sd; grind
  have k1 : sd a b c * p.1 = sd b c p * a.1 + sd c a p * b.1 + sd a b p * c.1 := by unfold sd; grind
  have k2 : sd a b c * p.2 = sd b c p * a.2 + sd c a p * b.2 + sd a b p * c.2 := by unfold sd; grind
  rw [h1, h2] at s k1 k2
  have e : sd b c p = sd a b c := by omega
  rw [e] at k1 k2
  exact P.ext (Int.eq_of_mul_eq_mul_left (show sd a b c ≠ 0 by omega) (by omega)) (Int.eq_of_mul_eq_mul_left (show sd a b c ≠ 0 by omega) (by omega))
theorem wedge_own {R : P → Bool} (h : HP R) {t : T3} (g : Good t) {p : P} : match wedge t p with
    | none => own R t p = false
    | some none => own R t p = true ∧ 0 < sd t.a t.b p ∧ 0 < sd t.b t.c p ∧ 0 < sd t.c t.a p
    | some (some w) => own R t p = (R w.1 && !R w.2) ∧ Wd w := by
  obtain ⟨a, b, c⟩ := t
  have g1 : 0 < sd a b c := g
  have g2 : 0 < sd b c a := by rw [(sd_cyc a b c).1]; exact g1
  have g3 : 0 < sd c a b := by rw [(sd_cyc a b c).2]; exact g1
  unfold wedge own
  simp only
  by_cases c0 : 0 ≤ sd a b p ∧ 0 ≤ sd b c p ∧ 0 ≤ sd c a p
  · rw [if_pos c0]
    by_cases ca : p = a
    · subst ca
      rw [if_pos rfl]
      exact corner_own h g1
    rw [if_neg ca]
    by_cases cb : p = b
    · subst cb
      rw [if_pos rfl]
      have := corner_own h g2
      refine ⟨?_, this.2⟩
      rw [← this.1]
      cases wOwn R a p p <;> cases wOwn R p c p <;> cases wOwn R c a p <;> rfl
    rw [if_neg cb]
    by_cases cc : p = c
    · subst cc
      rw [if_pos rfl]
      have := corner_own h g3
      refine ⟨?_, this.2⟩
      rw [← this.1]
      cases wOwn R a b p <;> cases wOwn R b p p <;> cases wOwn R p a p <;> rfl
    rw [if_neg cc]
    have nab : ¬ (sd a b p = 0 ∧ sd c a p = 0) := fun z => ca (at_two g1 z.1 z.2)
    have nbc : ¬ (sd b c p = 0 ∧ sd a b p = 0) := fun z => cb (at_two g2 z.1 z.2)
    have nca : ¬ (sd c a p = 0 ∧ sd b c p = 0) := fun z => cc (at_two g3 z.1 z.2)
    by_cases z1 : sd a b p = 0
    · rw [if_pos z1]
      exact edge_own h g1 z1 (by omega) (by omega)
    rw [if_neg z1]
    by_cases z2 : sd b c p = 0
    · rw [if_pos z2]
      have := edge_own h g2 z2 (by omega) (by omega)
      refine ⟨?_, this.2⟩
      rw [← this.1]
      cases wOwn R a b p <;> cases wOwn R b c p <;> cases wOwn R c a p <;> rfl
    rw [if_neg z2]
    by_cases z3 : sd c a p = 0
    · rw [if_pos z3]
      have := edge_own h g3 z3 (by omega) (by omega)
      refine ⟨?_, this.2⟩
      rw [← this.1]
      cases wOwn R a b p <;> cases wOwn R b c p <;> cases wOwn R c a p <;> rfl
    rw [if_neg z3]
    refine ⟨?_, by omega, by omega, by omega⟩
    rw [wOwn_pos (by omega), wOwn_pos (by omega), wOwn_pos (by omega)]
    rfl
  · rw [if_neg c0]
    show _ = false
    cases h1 : wOwn R a b p with
    | false => rfl
    | true =>
      cases h2 : wOwn R b c p with
      | false => rfl
      | true =>
        cases h3 : wOwn R c a p with
        | false => rfl
        | true => exact absurd ⟨wOwn_le h1, wOwn_le h2, wOwn_le h3⟩ c0
/-- shortest -/
def lw (u : P) : P := (u.1 / (Int.gcd u.1 u.2 : Int), u.2 / (Int.gcd u.1 u.2 : Int))
theorem gcd_pos {u : P} (h : u ≠ O) : 0 < (Int.gcd u.1 u.2 : Int) := by
  rw [nz] at h
  have : Int.gcd u.1 u.2 ≠ 0 := fun e => h (Int.gcd_eq_zero_iff.mp e)
  omega
theorem lw_mul (u : P) : (Int.gcd u.1 u.2 : Int) * (lw u).1 = u.1 ∧ (Int.gcd u.1 u.2 : Int) * (lw u).2 = u.2 := ⟨Int.mul_ediv_cancel' (Int.gcd_dvd_left u.1 u.2), Int.mul_ediv_cancel' (Int.gcd_dvd_right u.1 u.2)⟩
theorem lw_SW {u v : P} (hu : u ≠ O) (hv : v ≠ O) (h : lw u = lw v) : SW u v := by
  obtain ⟨e1, e2⟩ := lw_mul u
  obtain ⟨f1, f2⟩ := lw_mul v
  refine ⟨_, _, gcd_pos hv, gcd_pos hu, ?_, ?_⟩
  · have a1 : (Int.gcd v.1 v.2 : Int) * u.1 = (Int.gcd v.1 v.2 : Int) * ((Int.gcd u.1 u.2 : Int) * (lw u).1) := by rw [e1]
    have b1 : (Int.gcd u.1 u.2 : Int) * v.1 = (Int.gcd u.1 u.2 : Int) * ((Int.gcd v.1 v.2 : Int) * (lw u).1) := by rw [h, f1]
    rw [a1, b1]
    exact Int.mul_left_comm _ _ _
  · have a1 : (Int.gcd v.1 v.2 : Int) * u.2 = (Int.gcd v.1 v.2 : Int) * ((Int.gcd u.1 u.2 : Int) * (lw u).2) := by rw [e2]
    have b1 : (Int.gcd u.1 u.2 : Int) * v.2 = (Int.gcd u.1 u.2 : Int) * ((Int.gcd v.1 v.2 : Int) * (lw u).2) := by rw [h, f2]
    rw [a1, b1]
    exact Int.mul_left_comm _ _ _
/-- inside, as the program tells it -/
def wds (ts : List T3) (p : P) : List (P × P) := ts.filterMap fun t => (wedge t p).bind id
def inside (ts : List T3) (p : P) : Prop := (∃ t ∈ ts, wedge t p = some none) ∨ (wds ts p ≠ [] ∧ ∀ w ∈ wds ts p, ∃ w' ∈ wds ts p, lw w.2 = lw w'.1)
def insB (ts : List T3) (p : P) : Bool := (ts.any fun t => decide (wedge t p = some none)) || (!(wds ts p).isEmpty && (wds ts p).all fun w => (wds ts p).any fun w' => decide (lw w'.1 = lw w.2))
theorem insB_iff {ts : List T3} {p : P} : insB ts p = true ↔ inside ts p := by
  unfold insB inside
  rw [Bool.or_eq_true, Bool.and_eq_true, List.any_eq_true, List.all_eq_true, Bool.not_eq_true', List.isEmpty_eq_false_iff]
  constructor
  · rintro (⟨t, ht, e⟩ | ⟨ne, h⟩)
    · exact .inl ⟨t, ht, of_decide_eq_true e⟩
    · refine .inr ⟨ne, fun w hw => ?_⟩
      obtain ⟨w', hw', e⟩ := List.any_eq_true.mp (h w hw)
      exact ⟨w', hw', (of_decide_eq_true e).symm⟩
  · rintro (⟨t, ht, e⟩ | ⟨ne, h⟩)
    · exact .inl ⟨t, ht, decide_eq_true e⟩
    · refine .inr ⟨ne, fun w hw => ?_⟩
      obtain ⟨w', hw', e⟩ := h w hw
      exact List.any_eq_true.mpr ⟨w', hw', decide_eq_true e.symm⟩
theorem mem_wds {ts : List T3} {p : P} {w : P × P} : w ∈ wds ts p ↔ ∃ t ∈ ts, wedge t p = some (some w) := by
  unfold wds
  rw [List.mem_filterMap]
  constructor
  · rintro ⟨t, ht, e⟩
    refine ⟨t, ht, ?_⟩
    cases z : wedge t p with
    | none => rw [z] at e; cases e
    | some x => rw [z] at e; cases x with
      | none => cases e
      | some y => cases e; rfl
  · rintro ⟨t, ht, e⟩
    exact ⟨t, ht, by rw [e]; rfl⟩
theorem inside_owner {R : P → Bool} (h : HP R) {ts : List T3} (hg : ∀ t ∈ ts, Good t) {p : P} (hin : inside ts p) : ∃ t ∈ ts, own R t p = true := by
  rcases hin with ⟨t, ht, e⟩ | ⟨ne, hc⟩
  · have := wedge_own h (hg t ht) (p := p)
    rw [e] at this
    exact ⟨t, ht, this.1⟩
  · have wd : ∀ w ∈ wds ts p, Wd w := fun w hw => by
      obtain ⟨t, ht, e⟩ := mem_wds.mp hw
      have := wedge_own h (hg t ht) (p := p)
      rw [e] at this
      exact this.2
    obtain ⟨w, hw, r1, r2⟩ := chain h ne wd fun w hw => by
      obtain ⟨w', hw', e⟩ := hc w hw
      exact ⟨w', hw', lw_SW (wd w hw).nz.2 (wd w' hw').nz.1 e⟩
    obtain ⟨t, ht, e⟩ := mem_wds.mp hw
    have := wedge_own h (hg t ht) (p := p)
    rw [e] at this
    refine ⟨t, ht, ?_⟩
    rw [this.1, r1, r2]
    rfl
/-! ### at most one -/
theorem own_le {R : P → Bool} {t : T3} {p : P} (h : own R t p = true) : 0 ≤ sd t.a t.b p ∧ 0 ≤ sd t.b t.c p ∧ 0 ≤ sd t.c t.a p := by
  unfold own at h
  simp only [Bool.and_eq_true] at h
  exact ⟨wOwn_le h.1, wOwn_le h.2.1, wOwn_le h.2.2⟩
/-- the edge a → b with R, a triangle on its other side that owns a point on its line -/
theorem one_corner {R : P → Bool} (h : HP R) {d e1 e2 : P} (d0 : d ≠ O) (hd : R d = true) (h1 : R e1 = true) (h2 : R e2 = true) (g : 0 < cr e1 e2) (s1 : 0 ≤ cr d e1) (s2 : cr d e2 ≤ 0) : False := by
  refine h.opp' d0 hd (h.cone e1 e2 (neg d) (cr e1 e2) (-cr d e2) (cr d e1) g (by omega) s1 h1 h2 (neg_nz d0) ?_ ?_)
  · unfold cr neg; grind
  · unfold cr neg; grind
theorem one_edge {R : P → Bool} (h : HP R) {d e q : P} (d0 : d ≠ O) (hd : R d = true) (h1 : R e = true) (par : cr d e = 0) (g : 0 < cr e q) (s : cr d q < 0) : False := by
  refine h.opp' d0 hd (h.par (m := cr e q) (α := -cr d q) g (by omega) (neg_nz d0) ?_ ?_ h1)
  · have : cr d q * e.1 = cr e q * d.1 + cr d e * q.1 := by unfold cr; grind
    rw [par] at this
    unfold neg
    simp only
    grind
  · have : cr d q * e.2 = cr e q * d.2 + cr d e * q.2 := by unfold cr; grind
    rw [par] at this
    unfold neg
    simp only
    grind
theorem sd_cr (a b p : P) : sd a b p = cr (sb b a) (sb p a) := rfl
theorem not_both {R : P → Bool} (h : HP R) {a b : P} {t : T3} {p : P} (ab : sb b a ≠ O) (g : Good t) (r1 : Rt a b t.a) (r2 : Rt a b t.b) (r3 : Rt a b t.c) (ow : wOwn R a b p = true) (ot : own R t p = true) : False := by
  obtain ⟨q1, q2, q3⟩ := t
  unfold Rt at r1 r2 r3
  simp only at r1 r2 r3
  have g1 : 0 < sd q1 q2 q3 := g
  have le := own_le ot
  simp only at le
  have ow0 := wOwn_le ow
  have id : sd q1 q2 q3 * sd a b p = sd q2 q3 p * sd a b q1 + sd q3 q1 p * sd a b q2 + sd q1 q2 p * sd a b q3 := by unfold sd; grind
  have m1 : 0 ≤ sd q2 q3 p * -sd a b q1 := Int.mul_nonneg le.2.1 (by omega)
  have m2 : 0 ≤ sd q3 q1 p * -sd a b q2 := Int.mul_nonneg le.2.2 (by omega)
  have m3 : 0 ≤ sd q1 q2 p * -sd a b q3 := Int.mul_nonneg le.1 (by omega)
  have m0 := Int.mul_nonneg (Int.le_of_lt g1) ow0
  rw [Int.mul_neg] at m1 m2 m3
  have z1 : sd q2 q3 p * sd a b q1 = 0 := by omega
  have z2 : sd q3 q1 p * sd a b q2 = 0 := by omega
  have z3 : sd q1 q2 p * sd a b q3 = 0 := by omega
  have z0 : sd a b p = 0 := by
    rw [z1, z2, z3] at id
    rcases Int.mul_eq_zero.mp (id.trans (by decide)) with z | z
    · omega
    · exact z
  rw [wOwn_zero z0] at ow
  -- the second triangle is not flat
  have flat : ¬ (sd a b q1 = 0 ∧ sd a b q2 = 0 ∧ sd a b q3 = 0) := by
    rintro ⟨f1, f2, f3⟩
    have k1 : sd q1 q2 q3 * (sb b a).1 = 0 := by
      have : sd q1 q2 q3 * (sb b a).1 = (q3.1 - q1.1) * (sd a b q1 - sd a b q2) - (q2.1 - q1.1) * (sd a b q1 - sd a b q3) := by unfold sd sb; grind
      rw [f1, f2, f3] at this
      omega
    have k2 : sd q1 q2 q3 * (sb b a).2 = 0 := by
      have : sd q1 q2 q3 * (sb b a).2 = (q3.2 - q1.2) * (sd a b q1 - sd a b q2) - (q2.2 - q1.2) * (sd a b q1 - sd a b q3) := by unfold sd sb; grind
      rw [f1, f2, f3] at this
      omega
    refine ab (P.ext ?_ ?_)
    · rcases Int.mul_eq_zero.mp k1 with z | z
      · omega
      · exact z
    · rcases Int.mul_eq_zero.mp k2 with z | z
      · omega
      · exact z
  unfold own at ot
  simp only [Bool.and_eq_true] at ot
  obtain ⟨o1, o2, o3⟩ := ot
  have f1 : sd q2 q3 p ≠ 0 → sd a b q1 = 0 := fun z => by rcases Int.mul_eq_zero.mp z1 with y | y; exact absurd y z; exact y
  have f2 : sd q3 q1 p ≠ 0 → sd a b q2 = 0 := fun z => by rcases Int.mul_eq_zero.mp z2 with y | y; exact absurd y z; exact y
  have f3 : sd q1 q2 p ≠ 0 → sd a b q3 = 0 := fun z => by rcases Int.mul_eq_zero.mp z3 with y | y; exact absurd y z; exact y
  have tot : sd q1 q2 p + sd q2 q3 p + sd q3 q1 p = sd q1 q2 q3 := by unfold sd; grind
  have cd : ∀ x y : P, cr (sb b a) (sb x y) = sd a b x - sd a b y := fun x y => by unfold cr sb sd; grind
  have ce : ∀ x y z : P, cr (sb y x) (sb z y) = sd x y z := fun x y z => by unfold cr sb sd; grind
  have g2 : 0 < sd q2 q3 q1 := by rw [(sd_cyc q1 q2 q3).1]; exact g1
  have g3 : 0 < sd q3 q1 q2 := by rw [(sd_cyc q1 q2 q3).2]; exact g1
  by_cases x1 : sd q2 q3 p = 0
  · have R1 : R (sb q3 q2) = true := by rw [wOwn_zero x1] at o2; exact o2
    by_cases x2 : sd q3 q1 p = 0
    · have R2 : R (sb q1 q3) = true := by rw [wOwn_zero x2] at o3; exact o3
      have s3 := f3 (by omega)
      exact one_corner h ab ow R1 R2 (by rw [ce]; exact g2) (by rw [cd]; omega) (by rw [cd]; omega)
    · have s2 := f2 x2
      by_cases x3 : sd q1 q2 p = 0
      · have R3 : R (sb q2 q1) = true := by rw [wOwn_zero x3] at o1; exact o1
        exact one_corner h ab ow R3 R1 (by rw [ce]; exact g1) (by rw [cd]; omega) (by rw [cd]; omega)
      · have s3 := f3 x3
        exact one_edge h (q := sb q1 q3) ab ow R1 (by rw [cd]; omega) (by rw [ce]; exact g2) (by rw [cd]; omega)
  · have s1 := f1 x1
    by_cases x2 : sd q3 q1 p = 0
    · have R2 : R (sb q1 q3) = true := by rw [wOwn_zero x2] at o3; exact o3
      by_cases x3 : sd q1 q2 p = 0
      · have R3 : R (sb q2 q1) = true := by rw [wOwn_zero x3] at o1; exact o1
        exact one_corner h ab ow R2 R3 (by rw [ce]; exact g3) (by rw [cd]; omega) (by rw [cd]; omega)
      · have s3 := f3 x3
        exact one_edge h (q := sb q2 q1) ab ow R2 (by rw [cd]; omega) (by rw [ce]; exact g3) (by rw [cd]; omega)
    · have s2 := f2 x2
      by_cases x3 : sd q1 q2 p = 0
      · have R3 : R (sb q2 q1) = true := by rw [wOwn_zero x3] at o1; exact o1
        exact one_edge h (q := sb q3 q2) ab ow R3 (by rw [cd]; omega) (by rw [ce]; exact g1) (by rw [cd]; omega)
      · exact flat ⟨s1, s2, f3 x3⟩
theorem one_owner {R : P → Bool} (h : HP R) {s t : T3} (gs : Good s) (gt : Good t) (e : Ed s.a s.b s.c t.a t.b t.c) {p : P} (os : own R s p = true) (ot : own R t p = true) : False := by
  have n := sd_ne gs
  unfold own at os
  simp only [Bool.and_eq_true] at os
  rcases e with ⟨a, b, c⟩ | ⟨a, b, c⟩ | ⟨a, b, c⟩
  · exact not_both h n.1 gt a b c os.1 ot
  · exact not_both h n.2.1 gt a b c os.2.1 ot
  · exact not_both h n.2.2 gt a b c os.2.2 ot
/-- apart, by an edge of either -/
def Ap (s t : T3) : Prop := Ed s.a s.b s.c t.a t.b t.c ∨ Ed t.a t.b t.c s.a s.b s.c
theorem Ap.one {R : P → Bool} (h : HP R) {s t : T3} (gs : Good s) (gt : Good t) (e : Ap s t) {p : P} (os : own R s p = true) (ot : own R t p = true) : False := by
  rcases e with e | e
  · exact one_owner h gs gt e os ot
  · exact one_owner h gt gs e ot os
/-- the indexes of owners -/
def owners (R : P → Bool) (ts : List T3) (p : P) : List Nat := (List.range ts.length).filter fun i => match ts[i]? with | some t => own R t p | none => false
theorem owners_mem {R : P → Bool} {ts : List T3} {p : P} {i : Nat} : i ∈ owners R ts p ↔ ∃ t, ts[i]? = some t ∧ own R t p = true := by
  unfold owners
  rw [List.mem_filter, List.mem_range]
  constructor
  · rintro ⟨h1, h2⟩
    rw [List.getElem?_eq_getElem h1] at h2 ⊢
    exact ⟨_, rfl, h2⟩
  · rintro ⟨t, h1, h2⟩
    refine ⟨(List.getElem?_eq_some_iff.mp h1).1, ?_⟩
    rw [h1]
    exact h2
theorem owners_nodup {R : P → Bool} {ts : List T3} {p : P} : (owners R ts p).Nodup := List.nodup_range.filter _
theorem few {l : List Nat} (nd : l.Nodup) (h : ∀ i ∈ l, ∀ j ∈ l, i = j) : l.length ≤ 1 := by
  match l with
  | [] => simp
  | [a] => simp
  | a :: b :: l =>
    exfalso
    have := h a (by simp) b (by simp)
    subst this
    simp at nd
theorem owners_le {R : P → Bool} (h : HP R) {ts : List T3} (hg : ∀ t ∈ ts, Good t) (hp : ts.Pairwise Ap) {p : P} : (owners R ts p).length ≤ 1 := by
  refine few owners_nodup fun i hi j hj => ?_
  obtain ⟨s, es, os⟩ := owners_mem.mp hi
  obtain ⟨t, et, ot⟩ := owners_mem.mp hj
  obtain ⟨li, ei⟩ := List.getElem?_eq_some_iff.mp es
  obtain ⟨lj, ej⟩ := List.getElem?_eq_some_iff.mp et
  have gs : Good s := hg s (ei ▸ List.getElem_mem li)
  have gt : Good t := hg t (ej ▸ List.getElem_mem lj)
  rcases Nat.lt_trichotomy i j with c | c | c
  · have := List.pairwise_iff_getElem.mp hp i j li lj c
    rw [ei, ej] at this
    exact (this.one h gs gt os ot).elim
  · exact c
  · have := List.pairwise_iff_getElem.mp hp j i lj li c
    rw [ei, ej] at this
    exact (this.one h gt gs ot os).elim
theorem owners_one {R : P → Bool} (h : HP R) {ts : List T3} (hg : ∀ t ∈ ts, Good t) (hp : ts.Pairwise Ap) {p : P} (hin : inside ts p) : (owners R ts p).length = 1 := by
  obtain ⟨t, ht, o⟩ := inside_owner h hg hin
  obtain ⟨i, hi⟩ := List.getElem?_of_mem ht
  have m : i ∈ owners R ts p := owners_mem.mpr ⟨t, hi, o⟩
  have := owners_le h hg hp (p := p)
  have := List.length_pos_of_mem m
  omega
end SA

set_option Elab.async false
set_option linter.all false
set_option maxRecDepth 100000
set_option maxHeartbeats 4000000
set_option autoImplicit false
/-! Rules and opposites: a point at no corner lies in none, strictly within, or on one edge of a triangle. -/
namespace SA
/-- covered, a side zero -/
def onE (t : T3) (p : P) : Bool := decide (0 ≤ sd t.a t.b p ∧ 0 ≤ sd t.b t.c p ∧ 0 ≤ sd t.c t.a p) && decide (sd t.a t.b p = 0 ∨ sd t.b t.c p = 0 ∨ sd t.c t.a p = 0)
def onEs (ts : List T3) (p : P) : List Nat := (List.range ts.length).filter fun i => match ts[i]? with | some t => onE t p | none => false
def offC (t : T3) (p : P) : Prop := p ≠ t.a ∧ p ≠ t.b ∧ p ≠ t.c
theorem tri3 {t : T3} (g : Good t) {p : P} (hp : offC t p) : ((∀ S : P → Bool, own S t p = false) ∧ onE t p = false) ∨ ((∀ S : P → Bool, own S t p = true) ∧ onE t p = false) ∨ (∃ d, d ≠ O ∧ (∀ S : P → Bool, own S t p = S d) ∧ onE t p = true) := by
  obtain ⟨a, b, c⟩ := t
  unfold offC at hp
  unfold Good at g
  simp only at g hp
  obtain ⟨n1, n2, n3⟩ := sd_ne g
  obtain ⟨c1, c2⟩ := sd_cyc a b c
  have z1 : sd a b p = 0 → sd c a p = 0 → False := fun h1 h2 => hp.1 (at_two g h1 h2)
  have z2 : sd b c p = 0 → sd a b p = 0 → False := fun h1 h2 => hp.2.1 (at_two (by rw [c1]; exact g) h1 h2)
  have z3 : sd c a p = 0 → sd b c p = 0 → False := fun h1 h2 => hp.2.2 (at_two (by rw [c2]; exact g) h1 h2)
  unfold own wOwn onE
  simp only
  by_cases h1 : 0 ≤ sd a b p
  · by_cases h2 : 0 ≤ sd b c p
    · by_cases h3 : 0 ≤ sd c a p
      · by_cases e1 : sd a b p = 0
        · have e2 : 0 < sd b c p := by
            rcases Int.lt_or_eq_of_le h2 with h | h
            · exact h
            · exact (z2 h.symm e1).elim
          have e3 : 0 < sd c a p := by
            rcases Int.lt_or_eq_of_le h3 with h | h
            · exact h
            · exact (z1 e1 h.symm).elim
          refine .inr (.inr ⟨sb b a, n1, fun S => ?_, ?_⟩)
          · simp [e1, e2, e3]
          · simp [e1, h2, h3]
        · by_cases e2 : sd b c p = 0
          · have e3 : 0 < sd c a p := by
              rcases Int.lt_or_eq_of_le h3 with h | h
              · exact h
              · exact (z3 h.symm e2).elim
            refine .inr (.inr ⟨sb c b, n2, fun S => ?_, ?_⟩)
            · have p1 : 0 < sd a b p := by omega
              simp [p1, e2, e3]
            · simp [h1, e2, h3]
          · by_cases e3 : sd c a p = 0
            · refine .inr (.inr ⟨sb a c, n3, fun S => ?_, ?_⟩)
              · have p1 : 0 < sd a b p := by omega
                have p2 : 0 < sd b c p := by omega
                simp [p1, p2, e3]
              · simp [h1, h2, e3]
            · refine .inr (.inl ⟨fun S => ?_, ?_⟩)
              · have p1 : 0 < sd a b p := by omega
                have p2 : 0 < sd b c p := by omega
                have p3 : 0 < sd c a p := by omega
                simp [p1, p2, p3]
              · simp [e1, e2, e3]
      · refine .inl ⟨fun S => ?_, ?_⟩
        · have p1 : ¬ 0 < sd c a p := by omega
          have p2 : ¬ sd c a p = 0 := by omega
          simp [p1, p2]
        · simp [h3]
    · refine .inl ⟨fun S => ?_, ?_⟩
      · have p1 : ¬ 0 < sd b c p := by omega
        have p2 : ¬ sd b c p = 0 := by omega
        simp [p1, p2]
      · simp [h2]
  · refine .inl ⟨fun S => ?_, ?_⟩
    · have p1 : ¬ 0 < sd a b p := by omega
      have p2 : ¬ sd a b p = 0 := by omega
      simp [p1, p2]
    · simp [h1]
/-- a covered corner has zero sides -/
theorem corner_on {t : T3} (g : Good t) {p : P} (hp : ¬ offC t p) : onE t p = true := by
  obtain ⟨a, b, c⟩ := t
  unfold offC at hp
  unfold Good at g
  simp only at g hp
  obtain ⟨c1, c2⟩ := sd_cyc a b c
  have q : p = a ∨ p = b ∨ p = c := by
    by_cases h1 : p = a
    · exact .inl h1
    · by_cases h2 : p = b
      · exact .inr (.inl h2)
      · by_cases h3 : p = c
        · exact .inr (.inr h3)
        · exact absurd ⟨h1, h2, h3⟩ hp
  unfold onE
  simp only
  rcases q with rfl | rfl | rfl
  · obtain ⟨x1, x2⟩ := sd_aa p b
    obtain ⟨y1, y2⟩ := sd_aa c p
    rw [x1, y2, c1]
    simp
    omega
  · obtain ⟨x1, x2⟩ := sd_aa a p
    obtain ⟨y1, y2⟩ := sd_aa p c
    rw [x2, y1, c2]
    simp
    omega
  · obtain ⟨x1, x2⟩ := sd_aa b p
    obtain ⟨y1, y2⟩ := sd_aa p a
    rw [x2, y1]
    simp
    omega
/-- counted -/
theorem range_countP (f : T3 → Bool) : ∀ ts : List T3, ((List.range ts.length).filter fun i => match ts[i]? with | some t => f t | none => false).length = ts.countP f := fun ts => by
  rw [← List.countP_eq_length_filter]
  have e : ts = (List.range ts.length).map fun i => ts[i]?.getD ⟨O, O, O⟩ := by
    apply List.ext_getElem?
    intro i
    rw [List.getElem?_map]
    by_cases h : i < ts.length
    · rw [List.getElem?_range h, Option.map_some, List.getElem?_eq_getElem h]
      rfl
    · rw [List.getElem?_eq_none (by omega), List.getElem?_eq_none (by rw [List.length_range]; omega)]
      rfl
  conv => rhs; rw [e]
  rw [List.countP_map]
  refine List.countP_congr fun i hi => ?_
  rw [List.mem_range] at hi
  simp only [Function.comp]
  rw [List.getElem?_eq_getElem hi]
  rfl
theorem cnt2 {ts : List T3} {f g f' g' : T3 → Bool} (h : ∀ t ∈ ts, (f t).toNat + (g t).toNat = (f' t).toNat + (g' t).toNat) : ts.countP f + ts.countP g = ts.countP f' + ts.countP g' := by
  induction ts with
  | nil => rfl
  | cons t r ih =>
    have h1 := h t (by simp)
    have h2 := ih fun x hx => h x (List.mem_cons_of_mem _ hx)
    rw [List.countP_cons, List.countP_cons, List.countP_cons, List.countP_cons]
    cases a : f t <;> cases b : g t <;> cases c : f' t <;> cases d : g' t <;> simp_all <;> omega
/-- opposite half circles -/
structure Opp (R R' : P → Bool) : Prop where
  a : HP R
  b : HP R'
  ne : ∀ d, d ≠ O → R' d = !R d
section
variable {R R' : P → Bool} {ts : List T3} {p : P}
theorem both_two (o : Opp R R') (hg : ∀ t ∈ ts, Good t) (hp : ts.Pairwise Ap) (hin : inside ts p) (off : ∀ t ∈ ts, offC t p) {T : P → Bool} {T' : P → Bool} (hT : ∀ d, d ≠ O → T' d = !T d) :
    (owners T ts p).length + (owners T' ts p).length = 2 := by
  have h1 := owners_one o.a hg hp hin
  have h2 := owners_one o.b hg hp hin
  have ol : ∀ S : P → Bool, (owners S ts p).length = ts.countP (fun t => own S t p) := fun S => range_countP (fun t => own S t p) ts
  rw [ol] at h1 h2 ⊢
  rw [ol]
  have := cnt2 (ts := ts) (f := fun t => own T t p) (g := fun t => own T' t p) (f' := fun t => own R t p) (g' := fun t => own R' t p) fun t ht => by
    rcases tri3 (hg t ht) (off t ht) with ⟨h, _⟩ | ⟨h, _⟩ | ⟨d, d0, h, _⟩
    · simp only [h]
    · simp only [h]
    · simp only [h, hT d d0, o.ne d d0]
      cases T d <;> cases R d <;> rfl
  omega
theorem onEs_mem {i : Nat} : i ∈ onEs ts p ↔ ∃ t, ts[i]? = some t ∧ onE t p = true := by
  unfold onEs
  rw [List.mem_filter, List.mem_range]
  constructor
  · rintro ⟨h, e⟩
    rw [List.getElem?_eq_getElem h] at e
    exact ⟨_, List.getElem?_eq_getElem h, e⟩
  · rintro ⟨t, h, e⟩
    have hi : i < ts.length := by
      apply Decidable.byContradiction
      intro c
      rw [List.getElem?_eq_none (by omega)] at h
      cases h
    refine ⟨hi, ?_⟩
    rw [h]
    exact e
theorem same_iff (o : Opp R R') (hg : ∀ t ∈ ts, Good t) (hp : ts.Pairwise Ap) (hin : inside ts p) (off : ∀ t ∈ ts, offC t p) : owners R ts p = owners R' ts p ↔ onEs ts p = [] := by
  obtain ⟨i, h1⟩ := List.length_eq_one_iff.mp (owners_one o.a hg hp hin)
  obtain ⟨j, h2⟩ := List.length_eq_one_iff.mp (owners_one o.b hg hp hin)
  have m1 : ∀ k, (∃ t, ts[k]? = some t ∧ own R t p = true) → k = i := fun k h => by
    have := owners_mem.mpr h
    rw [h1] at this
    exact List.mem_singleton.mp this
  have m2 : ∀ k, (∃ t, ts[k]? = some t ∧ own R' t p = true) → k = j := fun k h => by
    have := owners_mem.mpr h
    rw [h2] at this
    exact List.mem_singleton.mp this
  obtain ⟨t, e, ot⟩ := owners_mem.mp (show i ∈ owners R ts p by rw [h1]; simp)
  have ht := List.mem_of_getElem? e
  rw [h1, h2]
  constructor
  · intro q
    have ij : i = j := by simpa using q
    subst ij
    obtain ⟨t', e', ot'⟩ := owners_mem.mp (show i ∈ owners R' ts p by rw [h2]; simp)
    rw [e] at e'
    cases e'
    rw [List.eq_nil_iff_forall_not_mem]
    intro k hk
    obtain ⟨u, eu, ou⟩ := onEs_mem.mp hk
    have hu := List.mem_of_getElem? eu
    rcases tri3 (hg u hu) (off u hu) with ⟨_, x⟩ | ⟨_, x⟩ | ⟨d, d0, h, _⟩
    · rw [x] at ou; cases ou
    · rw [x] at ou; cases ou
    · have ki : k = i := by
        cases z : R d with
        | true => exact m1 k ⟨u, eu, by rw [h]; exact z⟩
        | false => exact m2 k ⟨u, eu, by rw [h, o.ne d d0, z]; rfl⟩
      subst ki
      rw [e] at eu
      cases eu
      rw [h] at ot ot'
      rw [o.ne d d0, ot] at ot'
      cases ot'
  · intro q
    have no : onE t p = false := by
      cases z : onE t p with
      | false => rfl
      | true =>
        have := onEs_mem.mpr ⟨t, e, z⟩
        rw [q] at this
        cases this
    rcases tri3 (hg t ht) (off t ht) with ⟨x, _⟩ | ⟨x, _⟩ | ⟨d, d0, h, x⟩
    · rw [x] at ot; cases ot
    · rw [m2 i ⟨t, e, x R'⟩]
    · rw [x] at no; cases no
theorem same_all (hg : ∀ t ∈ ts, Good t) (no : onEs ts p = []) (S T : P → Bool) : owners S ts p = owners T ts p := by
  unfold owners
  refine List.filter_congr fun i hi => ?_
  rw [List.mem_range] at hi
  rw [List.getElem?_eq_getElem hi]
  have hx : onE ts[i] p = false := by
    cases z : onE ts[i] p with
    | false => rfl
    | true =>
      have := onEs_mem.mpr ⟨_, List.getElem?_eq_getElem hi, z⟩
      rw [no] at this
      cases this
  have g := hg _ (List.getElem_mem hi)
  by_cases c : offC ts[i] p
  · rcases tri3 g c with ⟨x, _⟩ | ⟨x, _⟩ | ⟨d, d0, h, x⟩
    · show own S ts[i] p = own T ts[i] p
      rw [x, x]
    · show own S ts[i] p = own T ts[i] p
      rw [x, x]
    · rw [x] at hx; cases hx
  · rw [corner_on g c] at hx
    cases hx
end
theorem cr_lin {g : Int} {u v d : P} (h1 : g * v.1 = u.1) (h2 : g * v.2 = u.2) : cr u d = g * cr v d ∧ d.1 * u.1 + d.2 * u.2 = g * (d.1 * v.1 + d.2 * v.2) := by
  unfold cr
  rw [← h1, ← h2]
  constructor <;> grind
theorem hf_lw {u d : P} {ah : Bool} (hu : u ≠ O) : hf (lw u) ah d = hf u ah d := by
  obtain ⟨e1, e2⟩ := lw_mul u
  have g := gcd_pos hu
  obtain ⟨c1, c2⟩ := cr_lin (d := d) e1 e2
  unfold hf
  rw [c1, c2]
  have k1 : (Int.gcd u.1 u.2 : Int) * cr (lw u) d ≠ 0 ↔ cr (lw u) d ≠ 0 := ⟨fun h e => h (by rw [e, Int.mul_zero]), fun h e => by rcases Int.mul_eq_zero.mp e with x | x; omega; exact h x⟩
  have k2 : ∀ x : Int, 0 < (Int.gcd u.1 u.2 : Int) * x ↔ 0 < x := fun x => ⟨fun h => pos_of_mul g h, fun h => Int.mul_pos g h⟩
  simp only [k1, k2]
theorem hf_neg {v d : P} {ah : Bool} (hv : v ≠ O) (hd : d ≠ O) : hf (neg v) ah d = !hf v ah d := by
  have c1 : cr (neg v) d = - cr v d := by unfold cr neg; simp only; grind
  have c2 : d.1 * (neg v).1 + d.2 * (neg v).2 = -(d.1 * v.1 + d.2 * v.2) := by unfold neg; simp only; grind
  unfold hf
  rw [c1, c2]
  by_cases h : cr v d = 0
  · have := dot_nz hv hd h
    rw [if_neg (by omega), if_neg (by omega)]
    generalize d.1 * v.1 + d.2 * v.2 = x at this
    by_cases x0 : 0 < x
    · rw [decide_eq_true x0, decide_eq_false (by omega)]
      cases ah <;> rfl
    · rw [decide_eq_false x0, decide_eq_true (by omega)]
      cases ah <;> rfl
  · rw [if_pos (by omega), if_pos h]
    by_cases x0 : 0 < cr v d
    · rw [decide_eq_true x0, decide_eq_false (by omega)]
      rfl
    · rw [decide_eq_false x0, decide_eq_true (by omega)]
      rfl
theorem lw_nz {u : P} (h : u ≠ O) : lw u ≠ O := fun e => by
  obtain ⟨e1, e2⟩ := lw_mul u
  rw [e] at e1 e2
  exact nz.mp h ⟨by rw [← e1]; exact Int.mul_zero _, by rw [← e2]; exact Int.mul_zero _⟩
theorem opp_half {w v : P} {ah : Bool} (hw : w ≠ O) (hv : v = neg (lw w)) : Opp (hf (lw w) ah) (hf (lw v) ah) := by
  have n1 := lw_nz hw
  have n2 : v ≠ O := by rw [hv]; exact neg_nz n1
  refine ⟨hf_hp n1, hf_hp (lw_nz n2), fun d hd => ?_⟩
  rw [hf_lw n2, hv]
  exact hf_neg n1 hd
end SA

set_option Elab.async false
set_option linter.all false
set_option maxRecDepth 100000
set_option maxHeartbeats 4000000
set_option autoImplicit false
/-! Closed sets of directions: half circles. -/
namespace SA
def tot (d e : P) : P := (3 * d.1 + 2 * e.1, 3 * d.2 + 2 * e.2)
def c2 (R : P → Bool) (d e : P) : Bool := !(R d && (R e && (decide (tot d e ≠ O) && !R (tot d e))))
def c1 (R : P → Bool) (W : List P) (d : P) : Bool := !(R d == R (neg d)) && W.all (c2 R d)
def closedB (R : P → Bool) (W : List P) : Bool := W.all (c1 R W)
theorem closed_hp {R : P → Bool} (h : HP R) {W : List P} (hW : ∀ d ∈ W, d ≠ O) : closedB R W = true := by
  unfold closedB
  rw [List.all_eq_true]
  intro d hd
  unfold c1
  rw [h.opp d (hW d hd), Bool.and_eq_true, List.all_eq_true]
  refine ⟨by cases R d <;> rfl, fun e he => ?_⟩
  unfold c2
  cases a : R d
  · rfl
  · cases b : R e
    · rfl
    · by_cases c : tot d e = O
      · rw [decide_eq_false (fun x => x c)]
        rfl
      · have := h.cone d e (tot d e) 1 3 2 (by decide) (by decide) (by decide) a b c (by unfold tot; simp only; omega) (by unfold tot; simp only; omega)
        rw [this, decide_eq_true c]
        rfl
theorem hf_par {w d e : P} {ah : Bool} {k : Int} (hk : 0 < k) (e1 : e.1 = k * d.1) (e2 : e.2 = k * d.2) : hf w ah e = hf w ah d := by
  have c1 : cr w e = k * cr w d := by unfold cr; rw [e1, e2]; grind
  have c2 : e.1 * w.1 + e.2 * w.2 = k * (d.1 * w.1 + d.2 * w.2) := by rw [e1, e2]; grind
  unfold hf
  rw [c1, c2]
  have k1 : k * cr w d ≠ 0 ↔ cr w d ≠ 0 := ⟨fun h e => h (by rw [e, Int.mul_zero]), fun h e => by rcases Int.mul_eq_zero.mp e with x | x; omega; exact h x⟩
  have k2 : ∀ x : Int, 0 < k * x ↔ 0 < x := fun x => ⟨fun h => pos_of_mul hk h, fun h => Int.mul_pos hk h⟩
  simp only [k1, k2]
theorem hf_two {w d : P} (hw : w ≠ O) (hd : d ≠ O) : (hf (lw w) true d == hf (lw w) false d) = !decide (d.1 * w.2 = d.2 * w.1) := by
  rw [hf_lw hw, hf_lw hw]
  unfold hf
  have e : cr w d = 0 ↔ d.1 * w.2 = d.2 * w.1 := by unfold cr; constructor <;> intro h <;> grind
  by_cases c : d.1 * w.2 = d.2 * w.1
  · rw [if_neg (fun h => h (e.mpr c)), if_neg (fun h => h (e.mpr c)), decide_eq_true c]
    cases decide (0 < d.1 * w.1 + d.2 * w.2) <;> rfl
  · rw [if_pos (fun h => c (e.mp h)), if_pos (fun h => c (e.mp h)), decide_eq_false c]
    cases decide (0 < cr w d) <;> rfl
theorem dot_self {w : P} (hw : w ≠ O) : 0 < w.1 * w.1 + w.2 * w.2 := by
  have h1 : 0 ≤ w.1 * w.1 := by
    rcases Int.le_total 0 w.1 with h | h
    · exact Int.mul_nonneg h h
    · have := Int.mul_nonneg (a := -w.1) (b := -w.1) (by omega) (by omega)
      rw [Int.neg_mul_neg] at this
      exact this
  have h2 : 0 ≤ w.2 * w.2 := by
    rcases Int.le_total 0 w.2 with h | h
    · exact Int.mul_nonneg h h
    · have := Int.mul_nonneg (a := -w.2) (b := -w.2) (by omega) (by omega)
      rw [Int.neg_mul_neg] at this
      exact this
  apply Decidable.byContradiction
  intro h
  exact nz.mp hw (sq0 (by omega))
theorem hf_self {w : P} {ah : Bool} (hw : w ≠ O) : hf (lw w) ah w = ah := by
  rw [hf_lw hw]
  unfold hf
  rw [if_neg (fun h => h (by unfold cr; grind)), decide_eq_true (dot_self hw)]
  cases ah <;> rfl
/-- the way back, stretched -/
theorem hf_back {w e : P} {ah : Bool} {k : Int} (hw : w ≠ O) (hk : 0 < k) (e1 : e.1 = (lw w).1 * -k) (e2 : e.2 = (lw w).2 * -k) : hf (lw w) ah e = !ah := by
  have hl := lw_nz hw
  have n := neg_nz hl
  rw [hf_par (d := neg (lw w)) hk (by unfold neg; simp only; grind) (by unfold neg; simp only; grind)]
  rw [(hf_hp hl).opp _ hl]
  have := hf_self (w := lw w) (ah := ah) hl
  rw [hf_lw hl] at this
  rw [this]
end SA

set_option Elab.async false
set_option linter.all false
set_option maxRecDepth 100000
set_option maxHeartbeats 4000000
set_option autoImplicit false
namespace SO
/-! directions, their order against the clock: plain lists of pairs -/
abbrev P := Int × Int
def cr (p q : P) : Int := p.1 * q.2 - p.2 * q.1
def sg (x : Int) : Int := if x = 0 then 0 else if 0 < x then 1 else -1
/-- the kind -/
def kd (p : P) : Int := if p.2 = 0 then (if 0 < p.1 then 0 else 4) else if 0 < p.2 then (if 0 < p.1 then 1 else if p.1 = 0 then 2 else 3) else (if p.1 < 0 then 5 else if p.1 = 0 then 6 else 7)
def nz (p : P) : Prop := ¬ (p.1 = 0 ∧ p.2 = 0)
theorem kd_rng (p : P) : 0 ≤ kd p ∧ kd p ≤ 7 := by
  unfold kd
  repeat' split
  all_goals omega
/-- a way that all of a kind go with -/
def up (k : Int) : P := if k = 0 then (1, 0) else if k = 1 then (1, 1) else if k = 2 then (0, 1) else if k = 3 then (-1, 1) else if k = 4 then (-1, 0) else if k = 5 then (-1, -1) else if k = 6 then (0, -1) else (1, -1)
def dt (p q : P) : Int := p.1 * q.1 + p.2 * q.2
theorem dt_up {p : P} (h : nz p) : 0 < dt (up (kd p)) p := by
  obtain ⟨x, y⟩ := p
  unfold nz at h
  simp only at h
  unfold kd
  simp only
  repeat' split
  all_goals simp [up, dt]
  all_goals omega
theorem cr_dt (u p q r : P) : cr p r * dt u q = cr p q * dt u r + cr q r * dt u p := by
  unfold cr dt
  grind
theorem cr_anti (p q : P) : cr q p = - cr p q := by
  unfold cr
  grind
theorem pos_of_mul {a b : Int} (hb : 0 < b) (h : 0 ≤ a * b) : 0 ≤ a := by
  apply Int.not_lt.mp
  intro ha
  have := Int.mul_neg_of_neg_of_pos ha hb
  omega
theorem pos_of_mul' {a b : Int} (hb : 0 < b) (h : 0 < a * b) : 0 < a := by
  apply Int.not_le.mp
  intro ha
  have := Int.mul_nonpos_of_nonpos_of_nonneg ha (Int.le_of_lt hb)
  omega
/-- p is not behind q -/
def Ord (p q : P) : Prop := kd p < kd q ∨ (kd p = kd q ∧ 0 ≤ cr p q)
theorem le_trans' {p q r : P} (hp : nz p) (hq : nz q) (hr : nz r) (h1 : kd p = kd q) (h2 : kd q = kd r) (a : 0 ≤ cr p q) (b : 0 ≤ cr q r) : 0 ≤ cr p r := by
  have u1 := dt_up hp
  have u2 := dt_up hq
  have u3 := dt_up hr
  rw [h1] at u1
  rw [← h2] at u3
  have e := cr_dt (up (kd q)) p q r
  have z1 := Int.mul_nonneg a (Int.le_of_lt u3)
  have z2 := Int.mul_nonneg b (Int.le_of_lt u1)
  exact pos_of_mul u2 (by omega)
theorem Ord.trans {p q r : P} (hp : nz p) (hq : nz q) (hr : nz r) (a : Ord p q) (b : Ord q r) : Ord p r := by
  rcases a with a | ⟨a, a'⟩
  · rcases b with b | ⟨b, b'⟩
    · exact .inl (by omega)
    · exact .inl (by omega)
  · rcases b with b | ⟨b, b'⟩
    · exact .inl (by omega)
    · exact .inr ⟨by omega, le_trans' hp hq hr a b a' b'⟩
/-! put_in -/
def insR (p : P) : List P → List P
  | [] => [p]
  | q :: t => if 0 < cr p q then q :: insR p t else p :: q :: t
def insP (p : P) (l : List P) : List P := (insR p l.reverse).reverse
theorem insR_go {p : P} : ∀ {b t : List P}, (∀ q ∈ b, 0 < cr p q) → insR p (b ++ t) = b ++ insR p t
  | [], t, h => rfl
  | q :: b, t, h => by
    rw [List.cons_append, insR, if_pos (h q List.mem_cons_self), insR_go fun q' hq => h q' (List.mem_cons_of_mem _ hq), List.cons_append]
theorem insP_eq {p : P} {a b : List P} (hb : ∀ q ∈ b, 0 < cr p q) (ha : ∀ q, a.getLast? = some q → ¬ 0 < cr p q) : insP p (a ++ b) = a ++ p :: b := by
  unfold insP
  rw [List.reverse_append, insR_go (fun q hq => hb q (List.mem_reverse.mp hq))]
  have e : insR p a.reverse = p :: a.reverse := by
    cases h : a.reverse with
    | nil => rfl
    | cons q t =>
      have hq : a.getLast? = some q := by rw [← List.head?_reverse, h]; rfl
      rw [insR, if_neg (ha q hq)]
  rw [e]
  simp
/-- how it splits -/
theorem ins_split (p : P) : ∀ l : List P, ∃ a b, l = a ++ b ∧ insP p l = a ++ p :: b ∧ (∀ q ∈ b, 0 < cr p q) ∧ ∀ q, a.getLast? = some q → ¬ 0 < cr p q := by
  intro l
  have h : ∀ r : List P, ∃ b t, r = b ++ t ∧ insR p r = b ++ p :: t ∧ (∀ q ∈ b, 0 < cr p q) ∧ ∀ q, t.head? = some q → ¬ 0 < cr p q := by
    intro r
    induction r with
    | nil => exact ⟨[], [], rfl, rfl, fun _ h => (nomatch h), fun _ h => (nomatch h)⟩
    | cons q r ih =>
      by_cases c : 0 < cr p q
      · obtain ⟨b, t, h1, h2, h3, h4⟩ := ih
        refine ⟨q :: b, t, by rw [h1]; rfl, by rw [insR, if_pos c, h2]; rfl, fun q' hq => ?_, h4⟩
        rcases List.mem_cons.mp hq with rfl | hq
        · exact c
        · exact h3 q' hq
      · refine ⟨[], q :: r, rfl, by rw [insR, if_neg c]; rfl, fun _ h => (nomatch h), fun q' hq => ?_⟩
        cases hq
        exact c
  obtain ⟨b, t, h1, h2, h3, h4⟩ := h l.reverse
  refine ⟨t.reverse, b.reverse, ?_, ?_, fun q hq => h3 q (List.mem_reverse.mp hq), fun q hq => h4 q ?_⟩
  · rw [← List.reverse_append, ← h1, List.reverse_reverse]
  · unfold insP
    rw [h2]
    simp
  · rw [List.getLast?_reverse] at hq
    exact hq
theorem ins_perm (p : P) (l : List P) : (insP p l).Perm (p :: l) := by
  obtain ⟨a, b, h1, h2, _, _⟩ := ins_split p l
  rw [h2, h1]
  exact List.perm_middle
def sortK (l : List P) : List P := l.foldl (fun acc p => insP p acc) []
theorem sortK_snoc (l : List P) (p : P) : sortK (l ++ [p]) = insP p (sortK l) := by
  unfold sortK
  rw [List.foldl_append]
  rfl
theorem snoc_ind {α : Type} {M : List α → Prop} (h0 : M []) (h1 : ∀ l a, M l → M (l ++ [a])) (l : List α) : M l := by
  have h : ∀ r : List α, M r.reverse := by
    intro r
    induction r with
    | nil => exact h0
    | cons a r ih =>
      rw [List.reverse_cons]
      exact h1 _ _ ih
  have := h l.reverse
  rwa [List.reverse_reverse] at this
theorem sortK_perm (l : List P) : (sortK l).Perm l := by
  refine snoc_ind (M := fun l => (sortK l).Perm l) (List.Perm.refl _) (fun l a ih => ?_) l
  rw [sortK_snoc]
  exact (ins_perm a _).trans ((List.Perm.cons a ih).trans (List.perm_append_comm (l₁ := [a])))
/-- sorted within a kind -/
theorem ins_sorted {k : Int} {p : P} {l : List P} (hp : nz p ∧ kd p = k) (hl : ∀ q ∈ l, nz q ∧ kd q = k) (hs : l.Pairwise fun x y => 0 ≤ cr x y) : (insP p l).Pairwise fun x y => 0 ≤ cr x y := by
  obtain ⟨a, b, rfl, h2, h3, h4⟩ := ins_split p l
  rw [h2]
  obtain ⟨sa, sb, sab⟩ := List.pairwise_append.mp hs
  have ap : ∀ x ∈ a, 0 ≤ cr x p := by
    intro x hx
    cases hla : a.getLast? with
    | none =>
      rw [List.getLast?_eq_none_iff] at hla
      subst hla
      cases hx
    | some z =>
      have hz : 0 ≤ cr z p := by
        have := h4 z hla
        rw [cr_anti p z]
        omega
      obtain ⟨a', rfl⟩ := List.getLast?_eq_some_iff.mp hla
      rcases List.mem_append.mp hx with hx' | hx'
      · have xz := (List.pairwise_append.mp sa).2.2 x hx' z (by simp)
        have Hx := hl x (by simp [hx'])
        have Hz := hl z (by simp)
        exact le_trans' Hx.1 Hz.1 hp.1 (Hx.2.trans Hz.2.symm) (Hz.2.trans hp.2.symm) xz hz
      · rw [List.mem_singleton] at hx'
        subst hx'
        exact hz
  refine List.pairwise_append.mpr ⟨sa, List.pairwise_cons.mpr ⟨fun q hq => Int.le_of_lt (h3 q hq), sb⟩, fun x hx y hy => ?_⟩
  rcases List.mem_cons.mp hy with rfl | hy
  · exact ap x hx
  · exact sab x hx y hy
theorem sortK_sorted {k : Int} {l : List P} (hl : ∀ q ∈ l, nz q ∧ kd q = k) : (sortK l).Pairwise fun x y => 0 ≤ cr x y := by
  revert hl
  refine snoc_ind (M := fun l => (∀ q ∈ l, nz q ∧ kd q = k) → (sortK l).Pairwise fun x y => 0 ≤ cr x y) (fun _ => List.Pairwise.nil) (fun l a ih hl => ?_) l
  rw [sortK_snoc]
  refine ins_sorted (k := k) (hl a (by simp)) (fun q hq => hl q ?_) (ih fun q hq => hl q (by simp [hq]))
  have := (sortK_perm l).mem_iff.mp hq
  simp [this]
/-! those that go the same way keep their order -/
def same (p q : P) : Prop := p.1 * q.2 = p.2 * q.1 ∧ 0 < p.1 * q.1 + p.2 * q.2
instance (p q : P) : Decidable (same p q) := by unfold same; infer_instance
theorem same_cr {p q w : P} (h1 : same p w) (h2 : same q w) : cr p q = 0 := by
  have e := cr_dt w p w q
  have c1 : cr p w = 0 := by unfold cr; have := h1.1; omega
  have c2 : cr w q = 0 := by rw [cr_anti q w]; unfold cr; have := h2.1; omega
  have d : dt w w ≠ 0 := by
    intro hz
    have s1 : 0 ≤ w.1 * w.1 := by rcases Int.le_total 0 w.1 with c | c; exact Int.mul_nonneg c c; exact Int.mul_nonneg_of_nonpos_of_nonpos c c
    have s2 : 0 ≤ w.2 * w.2 := by rcases Int.le_total 0 w.2 with c | c; exact Int.mul_nonneg c c; exact Int.mul_nonneg_of_nonpos_of_nonpos c c
    unfold dt at hz
    have z1 : w.1 = 0 := by
      have : w.1 * w.1 = 0 := by omega
      rcases Int.mul_eq_zero.mp this with h | h <;> exact h
    have z2 : w.2 = 0 := by
      have : w.2 * w.2 = 0 := by omega
      rcases Int.mul_eq_zero.mp this with h | h <;> exact h
    have := h1.2
    rw [z1, z2] at this
    simp at this
  rw [c1, c2] at e
  simp only [Int.zero_mul, Int.add_zero] at e
  rcases Int.mul_eq_zero.mp e with h | h
  · exact h
  · exact absurd h d
theorem ins_same {p w : P} {l : List P} : (insP p l).filter (same · w) = (l ++ [p]).filter (same · w) := by
  obtain ⟨a, b, rfl, h2, h3, h4⟩ := ins_split p l
  rw [h2]
  simp only [List.filter_append, List.filter_cons, List.filter_nil]
  by_cases c : same p w
  · have hb : b.filter (same · w) = [] := by
      rw [List.filter_eq_nil_iff]
      intro q hq hs
      have := same_cr c (of_decide_eq_true hs)
      have := h3 q hq
      omega
    simp [c, hb]
  · simp [c]
theorem sortK_same {w : P} (l : List P) : (sortK l).filter (same · w) = l.filter (same · w) := by
  refine snoc_ind (M := fun l => (sortK l).filter (same · w) = l.filter (same · w)) rfl (fun l a ih => ?_) l
  rw [sortK_snoc, ins_same, List.filter_append, List.filter_append, ih]
end SO

set_option Elab.async false
set_option linter.all false
set_option maxRecDepth 100000
set_option maxHeartbeats 4000000
set_option autoImplicit false
namespace SO
theorem mulpp {a b : Int} (ha : 0 < a) (hb : 0 < b) : 0 < a * b := Int.mul_pos ha hb
theorem sign_same {a b c d : Int} (h1 : a * d = b * c) (h2 : 0 < a * c + b * d) : (0 < a → 0 < c) ∧ (a = 0 → c = 0) := by
  constructor
  · intro ha
    apply Int.not_le.mp
    intro hc
    have e1 := Int.mul_nonpos_of_nonneg_of_nonpos (Int.le_of_lt ha) hc
    have e2 : 0 < b * d := by omega
    rcases Int.lt_trichotomy d 0 with hd | hd | hd
    · have hb : b < 0 := by
        apply Int.not_le.mp
        intro hb
        have := Int.mul_nonpos_of_nonneg_of_nonpos hb (Int.le_of_lt hd)
        omega
      have e3 := Int.mul_neg_of_pos_of_neg ha hd
      have e4 := Int.mul_nonneg_of_nonpos_of_nonpos (Int.le_of_lt hb) hc
      omega
    · subst hd
      simp at e2
    · have hb : 0 < b := by
        apply Int.not_le.mp
        intro hb
        have := Int.mul_nonpos_of_nonpos_of_nonneg hb (Int.le_of_lt hd)
        omega
      have e3 := Int.mul_pos ha hd
      have e4 := Int.mul_nonpos_of_nonneg_of_nonpos (Int.le_of_lt hb) hc
      omega
  · intro ha
    subst ha
    rw [Int.zero_mul] at h1 h2
    rcases Int.mul_eq_zero.mp h1.symm with h | h
    · subst h
      rw [Int.zero_mul] at h2
      omega
    · exact h
theorem same_kd {p w : P} (h : same p w) : kd p = kd w := by
  obtain ⟨a, b⟩ := p
  obtain ⟨c, d⟩ := w
  obtain ⟨h1, h2⟩ := h
  simp only at h1 h2
  have s1 := sign_same h1 h2
  have s2 := sign_same (a := -a) (b := -b) (c := -c) (d := -d) (by rw [Int.neg_mul_neg, Int.neg_mul_neg]; exact h1) (by rw [Int.neg_mul_neg, Int.neg_mul_neg]; exact h2)
  have s3 := sign_same (a := b) (b := a) (c := d) (d := c) h1.symm (by omega)
  have s4 := sign_same (a := -b) (b := -a) (c := -d) (d := -c) (by rw [Int.neg_mul_neg, Int.neg_mul_neg]; exact h1.symm) (by rw [Int.neg_mul_neg, Int.neg_mul_neg]; omega)
  unfold kd
  simp only
  repeat' split
  all_goals omega
/-- sorted_around -/
def S (l : List P) : List P := (List.range 8).flatMap fun k => sortK (l.filter fun p => decide (kd p = (k : Nat)))
theorem perm_kinds (l : List P) : ∀ n : Nat, ((List.range n).flatMap fun k => l.filter fun p => decide (kd p = (k : Nat))).Perm (l.filter fun p => decide (kd p < (n : Nat)))
  | 0 => by
    have e : l.filter (fun p => decide (kd p < ((0 : Nat) : Int))) = [] := by
      rw [List.filter_eq_nil_iff]
      intro p _ h
      have := (kd_rng p).1
      have := of_decide_eq_true h
      omega
    rw [e]
    exact List.Perm.refl _
  | n + 1 => by
    rw [List.range_succ, List.flatMap_append]
    refine ((perm_kinds l n).append (List.Perm.refl _)).trans ?_
    clear perm_kinds
    induction l with
    | nil => exact List.Perm.refl _
    | cons p l ih =>
      simp only [List.flatMap_cons, List.flatMap_nil, List.append_nil, List.filter_cons] at ih ⊢
      have cases3 : (decide (kd p < (n : Int)) = true ∧ decide (kd p = (n : Int)) = false ∧ decide (kd p < ((n + 1 : Nat) : Int)) = true) ∨ (decide (kd p < (n : Int)) = false ∧ decide (kd p = (n : Int)) = true ∧ decide (kd p < ((n + 1 : Nat) : Int)) = true) ∨
          (decide (kd p < (n : Int)) = false ∧ decide (kd p = (n : Int)) = false ∧ decide (kd p < ((n + 1 : Nat) : Int)) = false) := by
        simp only [decide_eq_true_eq, decide_eq_false_iff_not]
        omega
      rcases cases3 with ⟨c1, c2, c3⟩ | ⟨c1, c2, c3⟩ | ⟨c1, c2, c3⟩
      · simp only [c1, c2, c3, if_true, if_false, Bool.false_eq_true, List.cons_append]
        exact List.Perm.cons p ih
      · simp only [c1, c2, c3, if_true, if_false, Bool.false_eq_true]
        exact List.perm_middle.trans (List.Perm.cons p ih)
      · simp only [c1, c2, c3, if_false, Bool.false_eq_true]
        exact ih
theorem S_perm (l : List P) : (S l).Perm l := by
  have h1 : (S l).Perm ((List.range 8).flatMap fun k => l.filter fun p => decide (kd p = (k : Nat))) := by
    unfold S
    generalize List.range 8 = r
    induction r with
    | nil => exact List.Perm.refl _
    | cons k r ih =>
      rw [List.flatMap_cons, List.flatMap_cons]
      exact (sortK_perm _).append ih
  refine h1.trans ((perm_kinds l 8).trans ?_)
  have e : l.filter (fun p => decide (kd p < ((8 : Nat) : Int))) = l := by
    rw [List.filter_eq_self]
    intro p _
    have := (kd_rng p).2
    exact decide_eq_true (by omega)
  rw [e]
theorem S_mem {l : List P} {p : P} : p ∈ S l ↔ p ∈ l := (S_perm l).mem_iff
/-- what stands in the part of a kind -/
theorem part_mem {l : List P} {k : Nat} {p : P} (h : p ∈ sortK (l.filter fun p => decide (kd p = (k : Nat)))) : p ∈ l ∧ kd p = k := by
  have := (sortK_perm _).mem_iff.mp h
  rw [List.mem_filter] at this
  exact ⟨this.1, of_decide_eq_true this.2⟩
theorem S_sorted {l : List P} (hl : ∀ q ∈ l, nz q) : (S l).Pairwise Ord := by
  unfold S
  have h : ∀ n m : Nat, ((List.range' m n).flatMap fun k => sortK (l.filter fun p => decide (kd p = (k : Nat)))).Pairwise Ord ∧ ∀ p ∈ ((List.range' m n).flatMap fun k => sortK (l.filter fun p => decide (kd p = (k : Nat)))), (m : Int) ≤ kd p := by
    intro n
    induction n with
    | zero => intro m; exact ⟨List.Pairwise.nil, fun p h => (nomatch h)⟩
    | succ n ih =>
      intro m
      rw [List.range'_succ, List.flatMap_cons]
      obtain ⟨i1, i2⟩ := ih (m + 1)
      refine ⟨List.pairwise_append.mpr ⟨?_, i1, fun x hx y hy => ?_⟩, fun p hp => ?_⟩
      · have := sortK_sorted (k := m) (l := l.filter fun p => decide (kd p = (m : Nat))) fun q hq => by
          rw [List.mem_filter] at hq
          exact ⟨hl q hq.1, of_decide_eq_true hq.2⟩
        exact List.Pairwise.imp_of_mem (fun {x y} hx hy h => .inr ⟨by rw [(part_mem hx).2, (part_mem hy).2], h⟩) this
      · have h1 := (part_mem hx).2
        have h2 := i2 y hy
        exact .inl (by omega)
      · rcases List.mem_append.mp hp with hp | hp
        · have := (part_mem hp).2
          omega
        · have := i2 p hp
          omega
  rw [List.range_eq_range']
  exact (h 8 0).1
theorem S_same (l : List P) (w : P) : (S l).filter (same · w) = l.filter (same · w) := by
  have none : ∀ (k : Nat), (k : Int) ≠ kd w → (sortK (l.filter fun p => decide (kd p = (k : Nat)))).filter (same · w) = [] := fun k hk => by
    rw [List.filter_eq_nil_iff]
    intro p hp hs
    have h1 := (part_mem hp).2
    have h2 := same_kd (of_decide_eq_true hs)
    exact hk (h1.symm.trans h2)
  have one : ∀ (k : Nat), (k : Int) = kd w → (sortK (l.filter fun p => decide (kd p = (k : Nat)))).filter (same · w) = l.filter (same · w) := fun k hk => by
    rw [sortK_same, List.filter_filter]
    refine List.filter_congr fun p hp => ?_
    by_cases c : same p w
    · have := same_kd c
      simp [c, this, hk]
    · simp [c]
  have all : ∀ n m : Nat, ((List.range' m n).flatMap fun k => sortK (l.filter fun p => decide (kd p = (k : Nat)))).filter (same · w) = if (m : Int) ≤ kd w ∧ kd w < ((m + n : Nat) : Int) then l.filter (same · w) else [] := by
    intro n
    induction n with
    | zero =>
      intro m
      rw [if_neg (by omega)]
      rfl
    | succ n ih =>
      intro m
      rw [List.range'_succ, List.flatMap_cons, List.filter_append, ih (m + 1)]
      by_cases c : (m : Int) = kd w
      · rw [one m c, if_neg (by omega), if_pos (by omega), List.append_nil]
      · rw [none m c, List.nil_append]
        by_cases c2 : ((m + 1 : Nat) : Int) ≤ kd w ∧ kd w < ((m + 1 + n : Nat) : Int)
        · rw [if_pos c2, if_pos (by omega)]
        · rw [if_neg c2, if_neg (by omega)]
  unfold S
  rw [List.range_eq_range', all 8 0, if_pos]
  have := kd_rng w
  omega
/-! only one order -/
theorem sorted_uniq {R : P → P → Prop} : ∀ {l m : List P}, l.Perm m → l.Pairwise R → m.Pairwise R → (∀ p ∈ l, ∀ q ∈ l, R p q → R q p → p = q) → l = m
  | [], m, hp, _, _, _ => (List.Perm.nil_eq hp)
  | a :: l, m, hp, hl, hm, anti => by
    cases m with
    | nil => exact absurd hp.symm (by intro h; have := h.length_eq; simp at this)
    | cons b m =>
      have ab : a = b := by
        have ha : a ∈ b :: m := hp.mem_iff.mp List.mem_cons_self
        have hb : b ∈ a :: l := hp.mem_iff.mpr List.mem_cons_self
        rcases List.mem_cons.mp ha with e | ha
        · exact e
        · rcases List.mem_cons.mp hb with e | hb
          · exact e.symm
          · exact anti a List.mem_cons_self b (List.mem_cons_of_mem _ hb) ((List.pairwise_cons.mp hl).1 b hb) ((List.pairwise_cons.mp hm).1 a ha)
      subst ab
      rw [sorted_uniq (List.Perm.cons_inv hp) (List.pairwise_cons.mp hl).2 (List.pairwise_cons.mp hm).2 fun p hp q hq => anti p (List.mem_cons_of_mem _ hp) q (List.mem_cons_of_mem _ hq)]
/-- the same order, the same kind: the same way -/
theorem ord_anti {p q : P} (hp : nz p) (hq : nz q) (h1 : Ord p q) (h2 : Ord q p) : same p q := by
  have hk : kd p = kd q := by
    rcases h1 with h1 | ⟨h1, _⟩
    · rcases h2 with h2 | ⟨h2, _⟩ <;> omega
    · exact h1
  have c0 : cr p q = 0 := by
    rcases h1 with h1 | ⟨_, h1⟩
    · omega
    · rcases h2 with h2 | ⟨_, h2⟩
      · omega
      · have := cr_anti p q
        omega
  refine ⟨by unfold cr at c0; omega, ?_⟩
  have u1 := dt_up hp
  have u2 := dt_up hq
  rw [← hk] at u2
  -- (u.p)(u.q) + (u x p)(u x q) = (u.u)(p.q)
  have e : dt (up (kd p)) p * dt (up (kd p)) q + cr (up (kd p)) p * cr (up (kd p)) q = dt (up (kd p)) (up (kd p)) * dt p q := by
    unfold dt cr
    grind
  have e2 : cr (up (kd p)) p * dt (up (kd p)) q = cr (up (kd p)) q * dt (up (kd p)) p := by
    have : cr (up (kd p)) p * dt (up (kd p)) q - cr (up (kd p)) q * dt (up (kd p)) p = - (dt (up (kd p)) (up (kd p)) * cr p q) := by
      unfold dt cr
      grind
    rw [c0] at this
    simp at this
    omega
  have s0 : 0 ≤ cr (up (kd p)) p * cr (up (kd p)) q := by
    rcases Int.lt_trichotomy (cr (up (kd p)) p) 0 with h | h | h
    · have h3 : cr (up (kd p)) q * dt (up (kd p)) p < 0 := by rw [← e2]; exact Int.mul_neg_of_neg_of_pos h u2
      have h4 : cr (up (kd p)) q < 0 := by
        apply Int.not_le.mp
        intro h5
        have := Int.mul_nonneg h5 (Int.le_of_lt u1)
        omega
      exact Int.mul_nonneg_of_nonpos_of_nonpos (Int.le_of_lt h) (Int.le_of_lt h4)
    · rw [h]; simp
    · have h3 : 0 < cr (up (kd p)) q * dt (up (kd p)) p := by rw [← e2]; exact Int.mul_pos h u2
      have h4 := pos_of_mul' u1 h3
      exact Int.le_of_lt (Int.mul_pos h h4)
  have p1 := Int.mul_pos u1 u2
  have uu : 0 < dt (up (kd p)) (up (kd p)) := by
    have := kd_rng p
    unfold up
    repeat' split
    all_goals decide
  have h9 : 0 < dt p q * dt (up (kd p)) (up (kd p)) := by
    rw [Int.mul_comm]
    omega
  exact pos_of_mul' uu h9
/-- all go different ways -/
def Diff (l : List P) : Prop := ∀ p ∈ l, ∀ q ∈ l, same p q → p = q
theorem S_uniq {l m : List P} (hl : ∀ p ∈ l, nz p) (hd : Diff l) (hm : m.Perm l) (hs : m.Pairwise Ord) : S l = m := by
  refine sorted_uniq ((S_perm l).trans hm.symm) (S_sorted hl) hs fun p hp q hq h1 h2 => ?_
  have hp' := S_mem.mp hp
  have hq' := S_mem.mp hq
  exact hd p hp' q hq' (ord_anti (hl p hp') (hl q hq') h1 h2)
/-! a quarter -/
def qt (p : P) : P := (-p.2, p.1)
theorem qt_cr (p q : P) : cr (qt p) (qt q) = cr p q := by unfold cr qt; grind
theorem qt_nz {p : P} (h : nz p) : nz (qt p) := by unfold nz qt at *; simp only; omega
theorem qt_kd {p : P} (h : nz p) : kd (qt p) = (kd p + 2) % 8 := by
  obtain ⟨x, y⟩ := p
  unfold nz at h
  simp only at h
  unfold kd qt
  simp only
  repeat' split
  all_goals omega
theorem neg_kd {p : P} (h : nz p) : kd (-p.1, -p.2) = (kd p + 4) % 8 := by
  obtain ⟨x, y⟩ := p
  unfold nz at h
  simp only at h
  unfold kd
  simp only
  repeat' split
  all_goals omega
theorem mul_kd {p : P} {m : Int} (hm : 0 < m) : kd (p.1 * m, p.2 * m) = kd p := by
  obtain ⟨x, y⟩ := p
  have s : ∀ z : Int, (0 < z * m ↔ 0 < z) ∧ (z * m = 0 ↔ z = 0) ∧ (z * m < 0 ↔ z < 0) := fun z => by
    rcases Int.lt_trichotomy z 0 with h | h | h
    · have := Int.mul_neg_of_neg_of_pos h hm
      omega
    · subst h
      simp
    · have := Int.mul_pos h hm
      omega
  have sx := s x
  have sy := s y
  unfold kd
  simp only
  repeat' split
  all_goals omega
theorem qt_same {p q : P} (h : same (qt p) (qt q)) : same p q := by
  obtain ⟨h1, h2⟩ := h
  unfold qt at h1 h2
  simp only at h1 h2
  exact ⟨by grind, by grind⟩
theorem qt_diff {l : List P} (h : Diff l) : Diff (l.map qt) := by
  intro p hp q hq hs
  obtain ⟨p', hp', rfl⟩ := List.mem_map.mp hp
  obtain ⟨q', hq', rfl⟩ := List.mem_map.mp hq
  rw [h p' hp' q' hq' (qt_same hs)]
theorem split_kd {l : List P} (h : l.Pairwise Ord) (k : Int) : l = (l.filter fun p => decide (kd p < k)) ++ l.filter fun p => !decide (kd p < k) := by
  induction l with
  | nil => rfl
  | cons p l ih =>
    obtain ⟨h1, h2⟩ := List.pairwise_cons.mp h
    rw [List.filter_cons, List.filter_cons]
    by_cases c : kd p < k
    · simp only [c, decide_true, if_true, Bool.not_true, Bool.false_eq_true, if_false, List.cons_append]
      rw [← ih h2]
    · have e : l.filter (fun p => decide (kd p < k)) = [] := by
        rw [List.filter_eq_nil_iff]
        intro q hq hk
        have := of_decide_eq_true hk
        rcases h1 q hq with o | ⟨o, _⟩ <;> omega
      simp only [c, decide_false, if_false, Bool.not_false, if_true, Bool.false_eq_true]
      rw [e, List.nil_append]
      congr 1
      have := ih h2
      rw [e, List.nil_append] at this
      exact this
/-- turned by a quarter, the order begins elsewhere -/
theorem S_turn {l : List P} (hl : ∀ p ∈ l, nz p) (hd : Diff l) : ∃ a b, S l = a ++ b ∧ S (l.map qt) = b.map qt ++ a.map qt := by
  have so := S_sorted hl
  refine ⟨_, _, split_kd so 6, S_uniq (fun p hp => ?_) (qt_diff hd) ?_ ?_⟩
  · obtain ⟨q, hq, rfl⟩ := List.mem_map.mp hp
    exact qt_nz (hl q hq)
  · rw [← List.map_append]
    refine List.Perm.map _ (List.perm_append_comm.trans ?_)
    rw [← split_kd so 6]
    exact S_perm l
  · have nzS : ∀ p ∈ S l, nz p := fun p hp => hl p (S_mem.mp hp)
    have sub1 : ∀ p ∈ (S l).filter (fun p => decide (kd p < 6)), p ∈ S l ∧ kd p < 6 := fun p hp => ⟨(List.mem_filter.mp hp).1, of_decide_eq_true (List.mem_filter.mp hp).2⟩
    have sub2 : ∀ p ∈ (S l).filter (fun p => !decide (kd p < 6)), p ∈ S l ∧ ¬ kd p < 6 := fun p hp => ⟨(List.mem_filter.mp hp).1, by simpa using (List.mem_filter.mp hp).2⟩
    refine List.pairwise_append.mpr ⟨?_, ?_, fun x hx y hy => ?_⟩
    · rw [List.pairwise_map]
      refine List.Pairwise.imp_of_mem (fun {x y} hx hy h => ?_) (so.filter _)
      have k1 := qt_kd (nzS x (sub2 x hx).1)
      have k2 := qt_kd (nzS y (sub2 y hy).1)
      have r1 := kd_rng x
      have r2 := kd_rng y
      have s1 := (sub2 x hx).2
      have s2 := (sub2 y hy).2
      rcases h with h | ⟨h, h'⟩
      · exact .inl (by omega)
      · exact .inr ⟨by omega, by rw [qt_cr]; exact h'⟩
    · rw [List.pairwise_map]
      refine List.Pairwise.imp_of_mem (fun {x y} hx hy h => ?_) (so.filter _)
      have k1 := qt_kd (nzS x (sub1 x hx).1)
      have k2 := qt_kd (nzS y (sub1 y hy).1)
      have r1 := kd_rng x
      have r2 := kd_rng y
      have s1 := (sub1 x hx).2
      have s2 := (sub1 y hy).2
      rcases h with h | ⟨h, h'⟩
      · exact .inl (by omega)
      · exact .inr ⟨by omega, by rw [qt_cr]; exact h'⟩
    · obtain ⟨x', hx', rfl⟩ := List.mem_map.mp hx
      obtain ⟨y', hy', rfl⟩ := List.mem_map.mp hy
      have k1 := qt_kd (nzS x' (sub2 x' hx').1)
      have k2 := qt_kd (nzS y' (sub1 y' hy').1)
      have r1 := kd_rng x'
      have r2 := kd_rng y'
      have s1 := (sub2 x' hx').2
      have s2 := (sub1 y' hy').2
      exact .inl (by omega)
theorem kd_tab (x y : Int) : (y = 0 ∧ 0 < x ∧ kd (x, y) = 0) ∨ (y = 0 ∧ x ≤ 0 ∧ kd (x, y) = 4) ∨ (0 < y ∧ 0 < x ∧ kd (x, y) = 1) ∨ (0 < y ∧ x = 0 ∧ kd (x, y) = 2) ∨ (0 < y ∧ x < 0 ∧ kd (x, y) = 3) ∨ (y < 0 ∧ x < 0 ∧ kd (x, y) = 5) ∨ (y < 0 ∧ x = 0 ∧ kd (x, y) = 6) ∨ (y < 0 ∧ 0 < x ∧ kd (x, y) = 7) := by
  unfold kd
  simp only
  repeat' split
  all_goals omega
/-- less than half round: not right of it -/
theorem near {p q : P} (hp : nz p) (hq : nz q) (h1 : kd p < kd q) (h2 : kd q - kd p < 4) : 0 < cr p q := by
  obtain ⟨a, b⟩ := p
  obtain ⟨c, d⟩ := q
  unfold nz at hp hq
  simp only at hp hq
  have pp : ∀ {x y : Int}, 0 < x → 0 < y → 0 < x * y := fun h1 h2 => Int.mul_pos h1 h2
  have pn : ∀ {x y : Int}, 0 < x → y < 0 → x * y < 0 := fun h1 h2 => Int.mul_neg_of_pos_of_neg h1 h2
  have np : ∀ {x y : Int}, x < 0 → 0 < y → x * y < 0 := fun h1 h2 => Int.mul_neg_of_neg_of_pos h1 h2
  have nn : ∀ {x y : Int}, x < 0 → y < 0 → 0 < x * y := fun h1 h2 => Int.mul_pos_of_neg_of_neg h1 h2
  have zl : ∀ {x y : Int}, x = 0 → x * y = 0 := fun h => by rw [h, Int.zero_mul]
  have zr : ∀ {x y : Int}, y = 0 → x * y = 0 := fun h => by rw [h, Int.mul_zero]
  have z : (0 < a * d ∧ b * c ≤ 0) ∨ (0 ≤ a * d ∧ b * c < 0) := by
    rcases kd_tab a b with ⟨b0, a0, k0⟩ | ⟨b0, a0, k0⟩ | ⟨b0, a0, k0⟩ | ⟨b0, a0, k0⟩ | ⟨b0, a0, k0⟩ | ⟨b0, a0, k0⟩ | ⟨b0, a0, k0⟩ | ⟨b0, a0, k0⟩ <;> rcases kd_tab c d with ⟨d0, c0, k1⟩ | ⟨d0, c0, k1⟩ | ⟨d0, c0, k1⟩ | ⟨d0, c0, k1⟩ | ⟨d0, c0, k1⟩ | ⟨d0, c0, k1⟩ | ⟨d0, c0, k1⟩ | ⟨d0, c0, k1⟩
    all_goals first
      | (exfalso; omega)
      | skip
    all_goals first
      | exact .inl ⟨by first | exact pp a0 d0 | exact nn a0 d0 | exact nn (by omega) d0 | exact pp (by omega) d0, by first | exact Int.le_of_eq (zl b0) | exact Int.le_of_eq (zr c0) | exact Int.le_of_lt (pn b0 (by omega)) | exact Int.le_of_lt (np b0 (by omega))⟩
      | exact .inr ⟨by first | exact Int.le_of_eq (zl a0).symm | exact Int.le_of_eq (zr d0).symm | exact Int.le_of_lt (pp a0 d0) | exact Int.le_of_lt (nn a0 d0), by first | exact pn b0 (by omega) | exact np b0 (by omega)⟩
  unfold cr
  simp only
  omega
/-- the first n kinds -/
def Sn (l : List P) (n : Nat) : List P := (List.range n).flatMap fun k => sortK (l.filter fun p => decide (kd p = (k : Nat)))
theorem Sn_succ (l : List P) (n : Nat) : Sn l (n + 1) = Sn l n ++ sortK (l.filter fun p => decide (kd p = (n : Nat))) := by
  unfold Sn
  rw [List.range_succ, List.flatMap_append, List.flatMap_cons, List.flatMap_nil, List.append_nil]
theorem Sn_len (l : List P) (n : Nat) : (Sn l n).length ≤ l.length := by
  have h1 : (Sn l n).Perm ((List.range n).flatMap fun k => l.filter fun p => decide (kd p = (k : Nat))) := by
    unfold Sn
    generalize List.range n = r
    induction r with
    | nil => exact List.Perm.refl _
    | cons k r ih =>
      rw [List.flatMap_cons, List.flatMap_cons]
      exact (sortK_perm _).append ih
  rw [(h1.trans (perm_kinds l n)).length_eq]
  exact List.length_filter_le _ _
theorem sortK_len (l : List P) : (sortK l).length = l.length := (sortK_perm l).length_eq
theorem sortK_mem {l : List P} {p : P} : p ∈ sortK l ↔ p ∈ l := (sortK_perm l).mem_iff
end SO

set_option Elab.async false
set_option linter.all false
set_option maxRecDepth 100000
set_option maxHeartbeats 4000000
set_option autoImplicit false
/-! Rules within rules: kinds of a half, some and all of them. -/
namespace SA
theorem q_neg {α β c1 c2 : Int} (ha : 0 < α) (hb : 0 < β) (h : ¬ (0 < c1 ∨ 0 < c2)) (z : ¬ (c1 = 0 ∧ c2 = 0)) : α * c1 + β * c2 < 0 := by
  have h1 : α * c1 ≤ 0 := by
    have := Int.mul_nonneg (a := α) (b := -c1) (by omega) (by omega)
    rw [Int.mul_neg] at this
    omega
  have h2 : β * c2 ≤ 0 := by
    have := Int.mul_nonneg (a := β) (b := -c2) (by omega) (by omega)
    rw [Int.mul_neg] at this
    omega
  by_cases c : c1 = 0
  · have : c2 < 0 := by omega
    have := Int.mul_neg_of_pos_of_neg hb this
    omega
  · have : c1 < 0 := by omega
    have := Int.mul_neg_of_pos_of_neg ha this
    omega
theorem q_pos {α β c1 c2 : Int} (ha : 0 < α) (hb : 0 < β) (h : 0 ≤ c1 ∧ 0 ≤ c2) (z : ¬ (c1 = 0 ∧ c2 = 0)) : 0 < α * c1 + β * c2 := by
  have := q_neg (c1 := -c1) (c2 := -c2) ha hb (by omega) (by omega)
  rw [Int.mul_neg, Int.mul_neg] at this
  omega
theorem q_ex {c1 c2 : Int} (h : 0 < c1 ∨ 0 < c2) : ∃ α β : Int, 0 < α ∧ 0 < β ∧ 0 < α * c1 + β * c2 := by
  rcases h with h | h
  · refine ⟨c2.natAbs + 1, 1, by omega, by decide, ?_⟩
    have : ((c2.natAbs : Int) + 1) * 1 ≤ ((c2.natAbs : Int) + 1) * c1 := Int.mul_le_mul_of_nonneg_left (by omega) (by omega)
    omega
  · refine ⟨1, c1.natAbs + 1, by decide, by omega, ?_⟩
    have : ((c1.natAbs : Int) + 1) * 1 ≤ ((c1.natAbs : Int) + 1) * c2 := Int.mul_le_mul_of_nonneg_left (by omega) (by omega)
    omega
theorem q_ex2 {c1 c2 : Int} (h : ¬ (0 ≤ c1 ∧ 0 ≤ c2)) : ∃ α β : Int, 0 < α ∧ 0 < β ∧ α * c1 + β * c2 < 0 := by
  obtain ⟨α, β, ha, hb, h⟩ := q_ex (c1 := -c1) (c2 := -c2) (by omega)
  rw [Int.mul_neg, Int.mul_neg] at h
  exact ⟨α, β, ha, hb, by omega⟩
def qk (isW : Bool) (c1 c2 : Int) : Bool := if isW then decide (0 ≤ c1) && decide (0 ≤ c2) else decide (0 < c1) || decide (0 < c2)
/-- kinds of a half: some (all) of their directions are in -/
def hK (isW : Bool) (w : P) (ah : Bool) : List Bool := [hf w ah (1, 0), qk isW (cr w (1, 0)) (cr w (0, 1)), hf w ah (0, 1), qk isW (cr w (0, 1)) (cr w (-1, 0)), hf w ah (-1, 0), qk isW (cr w (-1, 0)) (cr w (0, -1)), hf w ah (0, -1), qk isW (cr w (0, -1)) (cr w (1, 0))]
theorem hf_cr {w d : P} {ah : Bool} (h : cr w d ≠ 0) : hf w ah d = decide (0 < cr w d) := by
  unfold hf
  rw [if_pos h]
theorem hf_lt {w d : P} {ah : Bool} (h : cr w d < 0) : hf w ah d = false := by
  rw [hf_cr (by omega), decide_eq_false (by omega)]
theorem hf_gt {w d : P} {ah : Bool} (h : 0 < cr w d) : hf w ah d = true := by
  rw [hf_cr (by omega), decide_eq_true h]
theorem lin2 (w a b : P) (α β : Int) : cr w (α * a.1 + β * b.1, α * a.2 + β * b.2) = α * cr w a + β * cr w b := by
  unfold cr
  simp only
  grind
section
variable {w : P} {ah : Bool}
theorem odd_some {a b d : P} {α β : Int} (ha : 0 < α) (hb : 0 < β) (e1 : d.1 = α * a.1 + β * b.1) (e2 : d.2 = α * a.2 + β * b.2) (z : ¬ (cr w a = 0 ∧ cr w b = 0)) (h : hf w ah d = true) : qk false (cr w a) (cr w b) = true := by
  apply Decidable.byContradiction
  intro c
  have c' : ¬ (0 < cr w a ∨ 0 < cr w b) := fun x => c (by unfold qk; rw [if_neg (by decide), ← Bool.decide_or]; exact decide_eq_true x)
  have l := lin2 w a b α β
  rw [← e1, ← e2] at l
  have := q_neg ha hb c' z
  rw [hf_lt (show cr w d < 0 by rw [show d = (d.1, d.2) from rfl, l]; exact this)] at h
  cases h
theorem odd_all {a b d : P} {α β : Int} (ha : 0 < α) (hb : 0 < β) (e1 : d.1 = α * a.1 + β * b.1) (e2 : d.2 = α * a.2 + β * b.2) (z : ¬ (cr w a = 0 ∧ cr w b = 0)) (h : qk true (cr w a) (cr w b) = true) : hf w ah d = true := by
  unfold qk at h
  rw [if_pos rfl, ← Bool.decide_and] at h
  have l := lin2 w a b α β
  rw [← e1, ← e2] at l
  have := q_pos ha hb (of_decide_eq_true h) z
  exact hf_gt (show 0 < cr w d by rw [show d = (d.1, d.2) from rfl, l]; exact this)
theorem odd_ex {a b : P} (h : qk false (cr w a) (cr w b) = true) : ∃ α β : Int, 0 < α ∧ 0 < β ∧ hf w ah (α * a.1 + β * b.1, α * a.2 + β * b.2) = true := by
  unfold qk at h
  rw [if_neg (by decide), ← Bool.decide_or] at h
  obtain ⟨α, β, ha, hb, q⟩ := q_ex (of_decide_eq_true h)
  exact ⟨α, β, ha, hb, hf_gt (by rw [lin2]; exact q)⟩
theorem odd_ex2 {a b : P} (h : qk true (cr w a) (cr w b) = false) : ∃ α β : Int, 0 < α ∧ 0 < β ∧ hf w ah (α * a.1 + β * b.1, α * a.2 + β * b.2) = false := by
  unfold qk at h
  rw [if_pos rfl, ← Bool.decide_and] at h
  obtain ⟨α, β, ha, hb, q⟩ := q_ex2 (of_decide_eq_false h)
  exact ⟨α, β, ha, hb, hf_lt (by rw [lin2]; exact q)⟩
theorem crz (hw : w ≠ O) : ¬ (cr w (1, 0) = 0 ∧ cr w (0, 1) = 0) ∧ ¬ (cr w (0, 1) = 0 ∧ cr w (-1, 0) = 0) ∧ ¬ (cr w (-1, 0) = 0 ∧ cr w (0, -1) = 0) ∧ ¬ (cr w (0, -1) = 0 ∧ cr w (1, 0) = 0) := by
  rw [nz] at hw
  unfold cr
  simp only
  refine ⟨?_, ?_, ?_, ?_⟩ <;> rintro ⟨h1, h2⟩ <;> exact hw ⟨by omega, by omega⟩
def kdN (d : P) : Nat := (SO.kd d).toNat
/-- a direction of each kind, by its ways -/
theorem kd_ways (d : P) (hd : d ≠ O) :
    (kdN d = 0 ∧ ∃ α : Int, 0 < α ∧ d.1 = α * 1 ∧ d.2 = α * 0) ∨ (kdN d = 2 ∧ ∃ α : Int, 0 < α ∧ d.1 = α * 0 ∧ d.2 = α * 1) ∨ (kdN d = 4 ∧ ∃ α : Int, 0 < α ∧ d.1 = α * -1 ∧ d.2 = α * 0) ∨ (kdN d = 6 ∧ ∃ α : Int, 0 < α ∧ d.1 = α * 0 ∧ d.2 = α * -1) ∨
    (kdN d = 1 ∧ ∃ α β : Int, 0 < α ∧ 0 < β ∧ d.1 = α * 1 + β * 0 ∧ d.2 = α * 0 + β * 1) ∨ (kdN d = 3 ∧ ∃ α β : Int, 0 < α ∧ 0 < β ∧ d.1 = α * 0 + β * -1 ∧ d.2 = α * 1 + β * 0) ∨
    (kdN d = 5 ∧ ∃ α β : Int, 0 < α ∧ 0 < β ∧ d.1 = α * -1 + β * 0 ∧ d.2 = α * 0 + β * -1) ∨ (kdN d = 7 ∧ ∃ α β : Int, 0 < α ∧ 0 < β ∧ d.1 = α * 0 + β * 1 ∧ d.2 = α * -1 + β * 0) := by
  rw [nz] at hd
  unfold kdN
  rcases SO.kd_tab d.1 d.2 with ⟨y0, x0, k⟩ | ⟨y0, x0, k⟩ | ⟨y0, x0, k⟩ | ⟨y0, x0, k⟩ | ⟨y0, x0, k⟩ | ⟨y0, x0, k⟩ | ⟨y0, x0, k⟩ | ⟨y0, x0, k⟩ <;> rw [show SO.kd d = _ from k]
  · exact .inl ⟨rfl, d.1, by omega, by omega, by omega⟩
  · exact .inr (.inr (.inl ⟨rfl, -d.1, by omega, by omega, by omega⟩))
  · exact .inr (.inr (.inr (.inr (.inl ⟨rfl, d.1, d.2, by omega, by omega, by omega, by omega⟩))))
  · exact .inr (.inl ⟨rfl, d.2, by omega, by omega, by omega⟩)
  · exact .inr (.inr (.inr (.inr (.inr (.inl ⟨rfl, d.2, -d.1, by omega, by omega, by omega, by omega⟩)))))
  · exact .inr (.inr (.inr (.inr (.inr (.inr (.inl ⟨rfl, -d.1, -d.2, by omega, by omega, by omega, by omega⟩))))))
  · exact .inr (.inr (.inr (.inl ⟨rfl, -d.2, by omega, by omega, by omega⟩)))
  · exact .inr (.inr (.inr (.inr (.inr (.inr (.inr ⟨rfl, -d.2, d.1, by omega, by omega, by omega, by omega⟩))))))
theorem some_sound (hw : w ≠ O) {d : P} (hd : d ≠ O) (h : hf w ah d = true) : ((hK false w ah)[kdN d]?).getD false = true := by
  obtain ⟨z1, z2, z3, z4⟩ := crz hw
  rcases kd_ways d hd with ⟨k, α, ha, e1, e2⟩ | ⟨k, α, ha, e1, e2⟩ | ⟨k, α, ha, e1, e2⟩ | ⟨k, α, ha, e1, e2⟩ | ⟨k, α, β, ha, hb, e1, e2⟩ | ⟨k, α, β, ha, hb, e1, e2⟩ | ⟨k, α, β, ha, hb, e1, e2⟩ | ⟨k, α, β, ha, hb, e1, e2⟩ <;> rw [k]
  · rw [hf_par (d := (1, 0)) ha e1 e2] at h; exact h
  · rw [hf_par (d := (0, 1)) ha e1 e2] at h; exact h
  · rw [hf_par (d := (-1, 0)) ha e1 e2] at h; exact h
  · rw [hf_par (d := (0, -1)) ha e1 e2] at h; exact h
  · exact odd_some (a := (1, 0)) (b := (0, 1)) ha hb e1 e2 z1 h
  · exact odd_some (a := (0, 1)) (b := (-1, 0)) ha hb e1 e2 z2 h
  · exact odd_some (a := (-1, 0)) (b := (0, -1)) ha hb e1 e2 z3 h
  · exact odd_some (a := (0, -1)) (b := (1, 0)) ha hb e1 e2 z4 h
theorem all_sound (hw : w ≠ O) {d : P} (hd : d ≠ O) (h : ((hK true w ah)[kdN d]?).getD false = true) : hf w ah d = true := by
  obtain ⟨z1, z2, z3, z4⟩ := crz hw
  rcases kd_ways d hd with ⟨k, α, ha, e1, e2⟩ | ⟨k, α, ha, e1, e2⟩ | ⟨k, α, ha, e1, e2⟩ | ⟨k, α, ha, e1, e2⟩ | ⟨k, α, β, ha, hb, e1, e2⟩ | ⟨k, α, β, ha, hb, e1, e2⟩ | ⟨k, α, β, ha, hb, e1, e2⟩ | ⟨k, α, β, ha, hb, e1, e2⟩ <;> rw [k] at h
  · rw [hf_par (d := (1, 0)) ha e1 e2]; exact h
  · rw [hf_par (d := (0, 1)) ha e1 e2]; exact h
  · rw [hf_par (d := (-1, 0)) ha e1 e2]; exact h
  · rw [hf_par (d := (0, -1)) ha e1 e2]; exact h
  · exact odd_all (a := (1, 0)) (b := (0, 1)) ha hb e1 e2 z1 h
  · exact odd_all (a := (0, 1)) (b := (-1, 0)) ha hb e1 e2 z2 h
  · exact odd_all (a := (-1, 0)) (b := (0, -1)) ha hb e1 e2 z3 h
  · exact odd_all (a := (0, -1)) (b := (1, 0)) ha hb e1 e2 z4 h
theorem kdN_odd {α β : Int} (ha : 0 < α) (hb : 0 < β) : (kdN (α * 1 + β * 0, α * 0 + β * 1) = 1 ∧ ((α * 1 + β * 0, α * 0 + β * 1) : P) ≠ O) ∧ (kdN (α * 0 + β * -1, α * 1 + β * 0) = 3 ∧ ((α * 0 + β * -1, α * 1 + β * 0) : P) ≠ O) ∧ (kdN (α * -1 + β * 0, α * 0 + β * -1) = 5 ∧ ((α * -1 + β * 0, α * 0 + β * -1) : P) ≠ O) ∧ (kdN (α * 0 + β * 1, α * -1 + β * 0) = 7 ∧ ((α * 0 + β * 1, α * -1 + β * 0) : P) ≠ O) := by
  simp only [nz]
  unfold kdN SO.kd
  simp only
  refine ⟨⟨?_, by omega⟩, ⟨?_, by omega⟩, ⟨?_, by omega⟩, ⟨?_, by omega⟩⟩ <;> (repeat' split) <;> first | rfl | (exfalso; omega)
theorem some_ex {k : Nat} (hk : k < 8) (h : ((hK false w ah)[k]?).getD false = true) : ∃ d, d ≠ O ∧ kdN d = k ∧ hf w ah d = true := by
  have ki : k = 0 ∨ k = 1 ∨ k = 2 ∨ k = 3 ∨ k = 4 ∨ k = 5 ∨ k = 6 ∨ k = 7 := by omega
  rcases ki with rfl | rfl | rfl | rfl | rfl | rfl | rfl | rfl
  · exact ⟨(1, 0), by decide, by decide, h⟩
  · obtain ⟨α, β, ha, hb, q⟩ := odd_ex (w := w) (ah := ah) (a := (1, 0)) (b := (0, 1)) h
    exact ⟨_, (kdN_odd ha hb).1.2, (kdN_odd ha hb).1.1, q⟩
  · exact ⟨(0, 1), by decide, by decide, h⟩
  · obtain ⟨α, β, ha, hb, q⟩ := odd_ex (w := w) (ah := ah) (a := (0, 1)) (b := (-1, 0)) h
    exact ⟨_, (kdN_odd ha hb).2.1.2, (kdN_odd ha hb).2.1.1, q⟩
  · exact ⟨(-1, 0), by decide, by decide, h⟩
  · obtain ⟨α, β, ha, hb, q⟩ := odd_ex (w := w) (ah := ah) (a := (-1, 0)) (b := (0, -1)) h
    exact ⟨_, (kdN_odd ha hb).2.2.1.2, (kdN_odd ha hb).2.2.1.1, q⟩
  · exact ⟨(0, -1), by decide, by decide, h⟩
  · obtain ⟨α, β, ha, hb, q⟩ := odd_ex (w := w) (ah := ah) (a := (0, -1)) (b := (1, 0)) h
    exact ⟨_, (kdN_odd ha hb).2.2.2.2, (kdN_odd ha hb).2.2.2.1, q⟩
theorem all_ex {k : Nat} (hk : k < 8) (h : ((hK true w ah)[k]?).getD false = false) : ∃ d, d ≠ O ∧ kdN d = k ∧ hf w ah d = false := by
  have ki : k = 0 ∨ k = 1 ∨ k = 2 ∨ k = 3 ∨ k = 4 ∨ k = 5 ∨ k = 6 ∨ k = 7 := by omega
  rcases ki with rfl | rfl | rfl | rfl | rfl | rfl | rfl | rfl
  · exact ⟨(1, 0), by decide, by decide, h⟩
  · obtain ⟨α, β, ha, hb, q⟩ := odd_ex2 (w := w) (ah := ah) (a := (1, 0)) (b := (0, 1)) h
    exact ⟨_, (kdN_odd ha hb).1.2, (kdN_odd ha hb).1.1, q⟩
  · exact ⟨(0, 1), by decide, by decide, h⟩
  · obtain ⟨α, β, ha, hb, q⟩ := odd_ex2 (w := w) (ah := ah) (a := (0, 1)) (b := (-1, 0)) h
    exact ⟨_, (kdN_odd ha hb).2.1.2, (kdN_odd ha hb).2.1.1, q⟩
  · exact ⟨(-1, 0), by decide, by decide, h⟩
  · obtain ⟨α, β, ha, hb, q⟩ := odd_ex2 (w := w) (ah := ah) (a := (-1, 0)) (b := (0, -1)) h
    exact ⟨_, (kdN_odd ha hb).2.2.1.2, (kdN_odd ha hb).2.2.1.1, q⟩
  · exact ⟨(0, -1), by decide, by decide, h⟩
  · obtain ⟨α, β, ha, hb, q⟩ := odd_ex2 (w := w) (ah := ah) (a := (0, -1)) (b := (1, 0)) h
    exact ⟨_, (kdN_odd ha hb).2.2.2.2, (kdN_odd ha hb).2.2.2.1, q⟩
theorem kd_ex {k : Nat} (hk : k < 8) : ∃ d, d ≠ O ∧ kdN d = k := by
  have ki : k = 0 ∨ k = 1 ∨ k = 2 ∨ k = 3 ∨ k = 4 ∨ k = 5 ∨ k = 6 ∨ k = 7 := by omega
  rcases ki with rfl | rfl | rfl | rfl | rfl | rfl | rfl | rfl
  · exact ⟨(1, 0), by decide, by decide⟩
  · exact ⟨(1, 1), by decide, by decide⟩
  · exact ⟨(0, 1), by decide, by decide⟩
  · exact ⟨(-1, 1), by decide, by decide⟩
  · exact ⟨(-1, 0), by decide, by decide⟩
  · exact ⟨(-1, -1), by decide, by decide⟩
  · exact ⟨(0, -1), by decide, by decide⟩
  · exact ⟨(1, -1), by decide, by decide⟩
theorem kdN_8 (d : P) : kdN d < 8 := by
  have := SO.kd_rng d
  unfold kdN
  omega
end
theorem prim_eq {u v : P} {m n : Int} (hm : 0 < m) (hn : 0 < n) (gu : Int.gcd u.1 u.2 = 1) (gv : Int.gcd v.1 v.2 = 1) (e1 : m * u.1 = n * v.1) (e2 : m * u.2 = n * v.2) : u = v := by
  have h1 : Int.gcd (m * u.1) (m * u.2) = m.natAbs := by rw [Int.gcd_mul_left, gu, Nat.mul_one]
  have h2 : Int.gcd (n * v.1) (n * v.2) = n.natAbs := by rw [Int.gcd_mul_left, gv, Nat.mul_one]
  rw [e1, e2, h2] at h1
  have mn : m = n := by omega
  subst mn
  exact P.ext (Int.eq_of_mul_eq_mul_left (by omega) e1) (Int.eq_of_mul_eq_mul_left (by omega) e2)
/-- a half within a half is the same -/
theorem half_eq {w v : P} {a b : Bool} (hw : w ≠ O) (hv : v ≠ O) (gw : Int.gcd w.1 w.2 = 1) (gv : Int.gcd v.1 v.2 = 1) (h : ∀ d, d ≠ O → hf w a d = true → hf v b d = true) : w = v ∧ a = b := by
  have c0 : cr w v = 0 := by
    apply Decidable.byContradiction
    intro c
    have key : ∀ s : Int, s = 1 ∨ s = -1 → 0 < s * cr w v → False := fun s hs q => by
      have e1 : cr w (s * (w.1 + v.1), s * (w.2 + v.2)) = s * cr w v := by unfold cr; simp only; grind
      have e2 : cr v (s * (w.1 + v.1), s * (w.2 + v.2)) = -(s * cr w v) := by unfold cr; simp only; grind
      have nzd : ((s * (w.1 + v.1), s * (w.2 + v.2)) : P) ≠ O := fun e => by
        have x1 : s * (w.1 + v.1) = 0 := congrArg (fun z : P => z.1) e
        have x2 : s * (w.2 + v.2) = 0 := congrArg (fun z : P => z.2) e
        have : cr w (s * (w.1 + v.1), s * (w.2 + v.2)) = 0 := by
          unfold cr
          simp only [x1, x2]
          grind
        omega
      have t := h _ nzd (hf_gt (by rw [e1]; exact q))
      rw [hf_lt (by rw [e2]; omega)] at t
      cases t
    rcases Int.lt_or_gt_of_ne c with c | c
    · exact key (-1) (.inr rfl) (by omega)
    · exact key 1 (.inl rfl) (by omega)
  have hd := dot_nz hw hv c0
  have same : 0 < v.1 * w.1 + v.2 * w.2 := by
    apply Decidable.byContradiction
    intro c
    have lt : v.1 * w.1 + v.2 * w.2 < 0 := by omega
    have e1 : cr w (-w.2, w.1) = w.1 * w.1 + w.2 * w.2 := by unfold cr; simp only; grind
    have e2 : cr v (-w.2, w.1) = v.1 * w.1 + v.2 * w.2 := by unfold cr; simp only; grind
    have n0 : ((-w.2, w.1) : P) ≠ O := by
      rw [nz] at hw ⊢
      simp only
      omega
    have t := h _ n0 (hf_gt (by rw [e1]; exact dot_self hw))
    rw [hf_lt (by rw [e2]; exact lt)] at t
    cases t
  have e : w = v := by
    refine prim_eq (m := v.1 * w.1 + v.2 * w.2) (n := w.1 * w.1 + w.2 * w.2) same (dot_self hw) gw gv ?_ ?_
    · unfold cr at c0
      have : (v.1 * w.1 + v.2 * w.2) * w.1 - (w.1 * w.1 + w.2 * w.2) * v.1 = -(w.2 * (w.1 * v.2 - w.2 * v.1)) + 2 * (w.2 * (w.1 * v.2 - w.2 * v.1)) := by grind
      rw [c0] at this
      omega
    · unfold cr at c0
      have : (v.1 * w.1 + v.2 * w.2) * w.2 - (w.1 * w.1 + w.2 * w.2) * v.2 = -(w.1 * (w.1 * v.2 - w.2 * v.1)) := by grind
      rw [c0] at this
      omega
  refine ⟨e, ?_⟩
  subst e
  have s1 := hf_self (w := w) (ah := a) hw
  have s2 := hf_self (w := w) (ah := b) hw
  rw [hf_lw hw] at s1 s2
  cases a with
  | true =>
    have := h w hw s1
    rw [s2] at this
    exact this.symm
  | false =>
    have n := neg_nz hw
    have o1 := (hf_hp (ah := false) hw).opp w hw
    have o2 := (hf_hp (ah := b) hw).opp w hw
    rw [s1] at o1
    have := h _ n o1
    rw [o2, s2] at this
    cases b
    · rfl
    · cases this
theorem gcd_lw {u : P} (h : u ≠ O) : Int.gcd (lw u).1 (lw u).2 = 1 := by
  have g : 0 < Int.gcd u.1 u.2 := by
    have := gcd_pos h
    omega
  obtain ⟨e1, e2⟩ := lw_mul u
  have q : Int.gcd ((Int.gcd u.1 u.2 : Int) * (lw u).1) ((Int.gcd u.1 u.2 : Int) * (lw u).2) = (Int.gcd u.1 u.2 : Int).natAbs * Int.gcd (lw u).1 (lw u).2 := Int.gcd_mul_left ..
  rw [e1, e2, Int.natAbs_natCast] at q
  exact (Nat.eq_of_mul_eq_mul_left g (by omega)).symm
end SA

set_option Elab.async false
set_option linter.all false
set_option maxRecDepth 100000
set_option maxHeartbeats 4000000
set_option autoImplicit false
/-! Rules within rules told by few directions. -/
namespace SA
def B1 : List P := [(1, 0), (5, 3), (0, 1), (-3, 5), (-1, 0), (-5, -3), (0, -1), (3, -5), (2, 7), (-7, 2), (-2, -7), (7, -2)]
def B2 : List P := [(1, 90), (90, 1), (-1, 90), (-90, 1), (-1, -90), (-90, -1), (1, -90), (90, -1)]
def units : List P := [(1, 0), (-1, 0), (0, 1), (0, -1)]
def lines (n : P) : List P := [n, neg n] ++ units.flatMap fun u => [(n.1 * 40 + u.1, n.2 * 40 + u.2), ((neg n).1 * 40 + u.1, (neg n).2 * 40 + u.2)]
def s4 (w : P) : Prop := -4 ≤ w.1 ∧ w.1 ≤ 4 ∧ -4 ≤ w.2 ∧ w.2 ≤ 4
theorem mem_lines {n u : P} (hu : u ∈ units) : (n.1 * 40 + u.1, n.2 * 40 + u.2) ∈ lines n ∧ ((neg n).1 * 40 + u.1, (neg n).2 * 40 + u.2) ∈ lines n := by
  unfold lines
  constructor
  · exact List.mem_append.mpr (.inr (List.mem_flatMap.mpr ⟨u, hu, by simp⟩))
  · exact List.mem_append.mpr (.inr (List.mem_flatMap.mpr ⟨u, hu, by simp⟩))
theorem lw_pos {u v : P} (hu : u ≠ O) (hv : v ≠ O) {a b : Int} (ha : 0 < a) (hb : 0 < b) (e1 : a * u.1 = b * v.1) (e2 : a * u.2 = b * v.2) : lw u = lw v := by
  obtain ⟨x1, x2⟩ := lw_mul u
  obtain ⟨y1, y2⟩ := lw_mul v
  have gu := gcd_pos hu
  have gv := gcd_pos hv
  refine prim_eq (m := a * (Int.gcd u.1 u.2 : Int)) (n := b * (Int.gcd v.1 v.2 : Int)) (Int.mul_pos ha gu) (Int.mul_pos hb gv) (gcd_lw hu) (gcd_lw hv) ?_ ?_
  · rw [Int.mul_assoc, Int.mul_assoc, x1, y1, e1]
  · rw [Int.mul_assoc, Int.mul_assoc, x2, y2, e2]
theorem hf_ge {w d : P} {ah : Bool} (h : hf w ah d = true) : 0 ≤ cr w d := by
  apply Decidable.byContradiction
  intro c
  rw [hf_lt (by omega)] at h
  cases h
theorem half_fin {n m : P} {a b : Bool} (hn : n ≠ O) (hm : m ≠ O) (sn : s4 n) (sm : s4 m) (h : ∀ d ∈ lines n, hf n a d = true → hf m b d = true) : lw n = lw m ∧ a = b := by
  unfold s4 at sn sm
  obtain ⟨u, hu, pu⟩ : ∃ u, u ∈ units ∧ 0 < cr n u := by
    rw [nz] at hn
    unfold cr
    by_cases c1 : 0 < n.1
    · exact ⟨(0, 1), by simp [units], by simp only; omega⟩
    · by_cases c2 : n.1 < 0
      · exact ⟨(0, -1), by simp [units], by simp only; omega⟩
      · by_cases c3 : 0 < n.2
        · exact ⟨(-1, 0), by simp [units], by simp only; omega⟩
        · exact ⟨(1, 0), by simp [units], by simp only; omega⟩
  have bu : -4 ≤ cr m u ∧ cr m u ≤ 4 := by
    unfold cr
    simp only [units, List.mem_cons, List.not_mem_nil, or_false] at hu
    rcases hu with rfl | rfl | rfl | rfl <;> simp only <;> omega
  obtain ⟨m1, m2⟩ := mem_lines (n := n) hu
  have t1 := hf_ge (h _ m1 (hf_gt (by
    have : cr n (n.1 * 40 + u.1, n.2 * 40 + u.2) = cr n u := by unfold cr; simp only; grind
    rw [this]
    exact pu)))
  have t2 := hf_ge (h _ m2 (hf_gt (by
    have : cr n ((neg n).1 * 40 + u.1, (neg n).2 * 40 + u.2) = cr n u := by unfold cr neg; simp only; grind
    rw [this]
    exact pu)))
  have e1 : cr m (n.1 * 40 + u.1, n.2 * 40 + u.2) = 40 * cr m n + cr m u := by unfold cr; simp only; grind
  have e2 : cr m ((neg n).1 * 40 + u.1, (neg n).2 * 40 + u.2) = -(40 * cr m n) + cr m u := by unfold cr neg; simp only; grind
  rw [e1] at t1
  rw [e2] at t2
  have c0 : cr m n = 0 := by omega
  have i1 : cr m u * n.1 - cr n u * m.1 = cr m n * u.1 := by unfold cr; grind
  have i2 : cr m u * n.2 - cr n u * m.2 = cr m n * u.2 := by unfold cr; grind
  rw [c0, Int.zero_mul] at i1 i2
  have pm : 0 < cr m u := by
    apply Decidable.byContradiction
    intro c
    have z : cr m u = 0 := by omega
    rw [z, Int.zero_mul] at i1 i2
    have z1 : cr n u * m.1 = 0 := by omega
    have z2 : cr n u * m.2 = 0 := by omega
    rw [nz] at hm
    rcases Int.mul_eq_zero.mp z1 with x | x
    · omega
    · rcases Int.mul_eq_zero.mp z2 with y | y
      · omega
      · exact hm ⟨x, y⟩
  have el : lw n = lw m := lw_pos hn hm pm pu (by omega) (by omega)
  refine ⟨el, ?_⟩
  have nn : n ∈ lines n := by unfold lines; simp
  have nm : neg n ∈ lines n := by unfold lines; simp
  have f1 : hf n a n = a := by rw [← hf_lw hn]; exact hf_self hn
  have f2 : hf n a (neg n) = !a := by rw [(hf_hp hn).opp n hn, f1]
  have g1 : hf m b n = b := by rw [← hf_lw hm, ← el]; exact hf_self hn
  have g2 : hf m b (neg n) = !b := by rw [(hf_hp hm).opp n hn, g1]
  have q1 := h n nn
  have q2 := h (neg n) nm
  rw [f1, g1] at q1
  rw [f2, g2] at q2
  cases a <;> cases b <;> simp_all
theorem FWmem : ∀ d ∈ B1 ++ B2, d ≠ O := by unfold B1 B2; decide
theorem odd_fin {w a b : P} (isW v : Bool) (ha : ∀ x : Int, x = cr w a → -4 ≤ x ∧ x ≤ 4) (hb : ∀ x : Int, x = cr w b → -4 ≤ x ∧ x ≤ 4) (h : (isW = false ∧ v = true ∧ qk false (cr w a) (cr w b) = true) ∨ (isW = true ∧ v = false ∧ qk true (cr w a) (cr w b) = false)) {ah : Bool} :
    hf w ah (90 * a.1 + 1 * b.1, 90 * a.2 + 1 * b.2) = v ∨ hf w ah (1 * a.1 + 90 * b.1, 1 * a.2 + 90 * b.2) = v := by
  have l1 := lin2 w a b 90 1
  have l2 := lin2 w a b 1 90
  have b1 := ha _ rfl
  have b2 := hb _ rfl
  rcases h with ⟨_, rfl, h⟩ | ⟨_, rfl, h⟩
  · unfold qk at h
    rw [if_neg (by decide), ← Bool.decide_or] at h
    rcases of_decide_eq_true h with h | h
    · exact .inl (hf_gt (by rw [l1]; omega))
    · exact .inr (hf_gt (by rw [l2]; omega))
  · unfold qk at h
    rw [if_pos rfl, ← Bool.decide_and] at h
    have h := of_decide_eq_false h
    by_cases c : 0 ≤ cr w a
    · exact .inr (hf_lt (by rw [l2]; omega))
    · exact .inl (hf_lt (by rw [l1]; omega))
theorem crs {w : P} (h : s4 w) : (∀ x : Int, x = cr w (1, 0) → -4 ≤ x ∧ x ≤ 4) ∧ (∀ x : Int, x = cr w (0, 1) → -4 ≤ x ∧ x ≤ 4) ∧ (∀ x : Int, x = cr w (-1, 0) → -4 ≤ x ∧ x ≤ 4) ∧ (∀ x : Int, x = cr w (0, -1) → -4 ≤ x ∧ x ≤ 4) := by
  unfold s4 at h
  unfold cr
  simp only
  refine ⟨?_, ?_, ?_, ?_⟩ <;> intro x e <;> omega
theorem kind_fin {w : P} {ah : Bool} (h4 : s4 w) {k : Nat} (hk : k < 8) (isW v : Bool) (hv : (isW = false ∧ v = true) ∨ (isW = true ∧ v = false)) (h : ((hK isW w ah)[k]?).getD false = v) : ∃ d ∈ B1 ++ B2, kdN d = k ∧ hf w ah d = v := by
  obtain ⟨z1, z2, z3, z4⟩ := crs h4
  have key : ∀ {a b : P}, qk isW (cr w a) (cr w b) = v → (isW = false ∧ v = true ∧ qk false (cr w a) (cr w b) = true) ∨ (isW = true ∧ v = false ∧ qk true (cr w a) (cr w b) = false) := fun q => by
    rcases hv with ⟨rfl, rfl⟩ | ⟨rfl, rfl⟩
    · exact .inl ⟨rfl, rfl, q⟩
    · exact .inr ⟨rfl, rfl, q⟩
  have ki : k = 0 ∨ k = 1 ∨ k = 2 ∨ k = 3 ∨ k = 4 ∨ k = 5 ∨ k = 6 ∨ k = 7 := by omega
  rcases ki with rfl | rfl | rfl | rfl | rfl | rfl | rfl | rfl
  · exact ⟨(1, 0), by decide, by decide, h⟩
  · rcases odd_fin (ah := ah) (a := (1, 0)) (b := (0, 1)) isW v z1 z2 (key h) with q | q
    · exact ⟨(90, 1), by decide, by decide, by simpa using q⟩
    · exact ⟨(1, 90), by decide, by decide, by simpa using q⟩
  · exact ⟨(0, 1), by decide, by decide, h⟩
  · rcases odd_fin (ah := ah) (a := (0, 1)) (b := (-1, 0)) isW v z2 z3 (key h) with q | q
    · exact ⟨(-1, 90), by decide, by decide, by simpa using q⟩
    · exact ⟨(-90, 1), by decide, by decide, by simpa using q⟩
  · exact ⟨(-1, 0), by decide, by decide, h⟩
  · rcases odd_fin (ah := ah) (a := (-1, 0)) (b := (0, -1)) isW v z3 z4 (key h) with q | q
    · exact ⟨(-90, -1), by decide, by decide, by simpa using q⟩
    · exact ⟨(-1, -90), by decide, by decide, by simpa using q⟩
  · exact ⟨(0, -1), by decide, by decide, h⟩
  · rcases odd_fin (ah := ah) (a := (0, -1)) (b := (1, 0)) isW v z4 z1 (key h) with q | q
    · exact ⟨(1, -90), by decide, by decide, by simpa using q⟩
    · exact ⟨(90, -1), by decide, by decide, by simpa using q⟩
theorem kd_fin {k : Nat} (hk : k < 8) : ∃ d ∈ B1 ++ B2, kdN d = k := by
  have ki : k = 0 ∨ k = 1 ∨ k = 2 ∨ k = 3 ∨ k = 4 ∨ k = 5 ∨ k = 6 ∨ k = 7 := by omega
  rcases ki with rfl | rfl | rfl | rfl | rfl | rfl | rfl | rfl
  · exact ⟨(1, 0), by decide, by decide⟩
  · exact ⟨(5, 3), by decide, by decide⟩
  · exact ⟨(0, 1), by decide, by decide⟩
  · exact ⟨(-3, 5), by decide, by decide⟩
  · exact ⟨(-1, 0), by decide, by decide⟩
  · exact ⟨(-5, -3), by decide, by decide⟩
  · exact ⟨(0, -1), by decide, by decide⟩
  · exact ⟨(3, -5), by decide, by decide⟩
end SA

set_option Elab.async false
set_option linter.all false
set_option maxRecDepth 100000
set_option maxHeartbeats 4000000
set_option autoImplicit false
/-! Formulas of spans: what they take is what a table owns, but at corners. -/
namespace SA
def rT (l r bo to : Bool) (d : P) : Bool := if 0 < d.2 then r else if d.2 < 0 then l else if 0 < d.1 then bo else to
def eW (l r : Bool) (a b p : P) : Bool := if a.2 = b.2 then true else (decide (0 < sd a b p) || (decide (sd a b p = 0) && (if b.2 < a.2 then l else r)))
def lo3 (x y z : Int) : Int := if x ≤ y then (if x ≤ z then x else z) else (if y ≤ z then y else z)
def hi3 (x y z : Int) : Int := if x ≤ y then (if y ≤ z then z else y) else (if x ≤ z then z else x)
def yOk (bo to : Bool) (lo hi y : Int) : Bool := (decide (lo < y) || (decide (y = lo) && bo)) && (decide (y < hi) || (decide (hi = y) && to))
def tk (l r bo to : Bool) (t : T3) (p : P) : Bool := yOk bo to (lo3 t.a.2 t.b.2 t.c.2) (hi3 t.a.2 t.b.2 t.c.2) p.2 && (eW l r t.a t.b p && (eW l r t.b t.c p && eW l r t.c t.a p))
theorem lo3_rot (x y z : Int) : lo3 y z x = lo3 x y z := by unfold lo3; (repeat' split) <;> omega
theorem hi3_rot (x y z : Int) : hi3 y z x = hi3 x y z := by unfold hi3; (repeat' split) <;> omega
theorem tk_rot {l r bo to : Bool} {a b c p : P} : tk l r bo to ⟨b, c, a⟩ p = tk l r bo to ⟨a, b, c⟩ p := by
  unfold tk
  simp only
  rw [lo3_rot, hi3_rot]
  cases yOk bo to (lo3 a.2 b.2 c.2) (hi3 a.2 b.2 c.2) p.2 <;> cases eW l r a b p <;> cases eW l r b c p <;> cases eW l r c a p <;> rfl
theorem own_rot {R : P → Bool} {a b c p : P} : own R ⟨b, c, a⟩ p = own R ⟨a, b, c⟩ p := by
  unfold own
  simp only
  cases wOwn R a b p <;> cases wOwn R b c p <;> cases wOwn R c a p <;> rfl
theorem eW_eq {l r bo to : Bool} {a b p : P} (h : a.2 ≠ b.2) : eW l r a b p = wOwn (rT l r bo to) a b p := by
  unfold eW wOwn
  rw [if_neg h]
  congr 2
  unfold rT sb
  simp only
  by_cases c : b.2 < a.2
  · rw [if_pos c, if_neg (by omega), if_pos (by omega)]
  · rw [if_neg c, if_pos (by omega)]
theorem eW_le {l r : Bool} {a b p : P} (h : a.2 ≠ b.2) (e : eW l r a b p = true) : 0 ≤ sd a b p := by
  unfold eW at e
  rw [if_neg h] at e
  simp only [Bool.or_eq_true, Bool.and_eq_true, decide_eq_true_eq] at e
  omega
theorem eW_up {l r : Bool} {a b p : P} (h : a.2 < b.2) (z : sd a b p = 0) (e : eW l r a b p = true) : r = true := by
  unfold eW at e
  rw [if_neg (by omega), z, if_neg (by omega)] at e
  simpa using e
theorem eW_dn {l r : Bool} {a b p : P} (h : b.2 < a.2) (z : sd a b p = 0) (e : eW l r a b p = true) : l = true := by
  unfold eW at e
  rw [if_neg (by omega), z, if_pos h] at e
  simpa using e
theorem bary (a b c p : P) : sd a b c * (p.2 - a.2) = sd c a p * (b.2 - a.2) + sd a b p * (c.2 - a.2) := by unfold sd; grind
/-- a the lowest corner, alone: no point of the triangle lies at or below it but itself -/
theorem low_a {l r : Bool} {a b c p : P} (g : 0 < sd a b c) (h1 : a.2 < b.2) (h2 : a.2 < c.2) (e1 : eW l r a b p = true) (e3 : eW l r c a p = true) (hp : p.2 ≤ a.2) : p = a ∧ l = true ∧ r = true := by
  have x1 := eW_le (by omega) e1
  have x3 := eW_le (by omega) e3
  have id := bary a b c p
  have m1 := Int.mul_nonneg x3 (show 0 ≤ b.2 - a.2 by omega)
  have m2 := Int.mul_nonneg x1 (show 0 ≤ c.2 - a.2 by omega)
  have m0 : 0 ≤ sd a b c * (a.2 - p.2) := Int.mul_nonneg (by omega) (by omega)
  have m0' : sd a b c * (p.2 - a.2) = -(sd a b c * (a.2 - p.2)) := by rw [← Int.mul_neg]; congr 1; omega
  have z1 : sd c a p * (b.2 - a.2) = 0 := by omega
  have z2 : sd a b p * (c.2 - a.2) = 0 := by omega
  have y1 : sd c a p = 0 := by rcases Int.mul_eq_zero.mp z1 with z | z <;> omega
  have y2 : sd a b p = 0 := by rcases Int.mul_eq_zero.mp z2 with z | z <;> omega
  exact ⟨at_two g y2 y1, eW_dn h2 y1 e3, eW_up h1 y2 e1⟩
theorem high_a {l r : Bool} {a b c p : P} (g : 0 < sd a b c) (h1 : b.2 < a.2) (h2 : c.2 < a.2) (e1 : eW l r a b p = true) (e3 : eW l r c a p = true) (hp : a.2 ≤ p.2) : p = a ∧ l = true ∧ r = true := by
  have x1 := eW_le (by omega) e1
  have x3 := eW_le (by omega) e3
  have id := bary a b c p
  have m1 := Int.mul_nonneg x3 (show 0 ≤ a.2 - b.2 by omega)
  have m2 := Int.mul_nonneg x1 (show 0 ≤ a.2 - c.2 by omega)
  have m1' : sd c a p * (b.2 - a.2) = -(sd c a p * (a.2 - b.2)) := by rw [← Int.mul_neg]; congr 1; omega
  have m2' : sd a b p * (c.2 - a.2) = -(sd a b p * (a.2 - c.2)) := by rw [← Int.mul_neg]; congr 1; omega
  have m0 : 0 ≤ sd a b c * (p.2 - a.2) := Int.mul_nonneg (by omega) (by omega)
  have z1 : sd c a p * (a.2 - b.2) = 0 := by omega
  have z2 : sd a b p * (a.2 - c.2) = 0 := by omega
  have y1 : sd c a p = 0 := by rcases Int.mul_eq_zero.mp z1 with z | z <;> omega
  have y2 : sd a b p = 0 := by rcases Int.mul_eq_zero.mp z2 with z | z <;> omega
  exact ⟨at_two g y2 y1, eW_dn h1 y2 e1, eW_up h2 y1 e3⟩
theorem yOk_in {bo to : Bool} {lo hi y : Int} (h1 : lo < y) (h2 : y < hi) : yOk bo to lo hi y = true := by
  unfold yOk
  rw [decide_eq_true h1, decide_eq_true h2]
  rfl
/-- no edge is level -/
theorem tk_none {l r bo to : Bool} {a b c p : P} (g : 0 < sd a b c) (h1 : a.2 ≠ b.2) (h2 : b.2 ≠ c.2) (h3 : c.2 ≠ a.2) (hp : (p ≠ a ∧ p ≠ b ∧ p ≠ c) ∨ l ≠ r) : tk l r bo to ⟨a, b, c⟩ p = own (rT l r bo to) ⟨a, b, c⟩ p := by
  unfold tk own
  simp only
  rw [← eW_eq (bo := bo) (to := to) h1, ← eW_eq (bo := bo) (to := to) h2, ← eW_eq (bo := bo) (to := to) h3]
  cases e1 : eW l r a b p with
  | false => simp
  | true =>
    cases e2 : eW l r b c p with
    | false => simp
    | true =>
      cases e3 : eW l r c a p with
      | false => simp
      | true =>
        have g2 : 0 < sd b c a := by rw [(sd_cyc a b c).1]; exact g
        have g3 : 0 < sd c a b := by rw [(sd_cyc a b c).2]; exact g
        have no : ∀ q : P, (q = a ∨ q = b ∨ q = c) → ¬ (p = q ∧ l = true ∧ r = true) := by
          rintro q hq ⟨z1, z2, z3⟩
          subst z1
          rcases hp with hp | hp
          · rcases hq with hq | hq | hq <;> simp_all
          · exact hp (z2.trans z3.symm)
        rw [yOk_in]
        · rfl
        · rcases Int.lt_or_le (lo3 a.2 b.2 c.2) p.2 with z | z
          · exact z
          · exfalso
            unfold lo3 at z
            by_cases c1 : a.2 ≤ b.2
            · rw [if_pos c1] at z
              by_cases c2 : a.2 ≤ c.2
              · rw [if_pos c2] at z
                exact no a (.inl rfl) (low_a g (by omega) (by omega) e1 e3 z)
              · rw [if_neg c2] at z
                exact no c (.inr (.inr rfl)) (low_a g3 (by omega) (by omega) e3 e2 z)
            · rw [if_neg c1] at z
              by_cases c2 : b.2 ≤ c.2
              · rw [if_pos c2] at z
                exact no b (.inr (.inl rfl)) (low_a g2 (by omega) (by omega) e2 e1 z)
              · rw [if_neg c2] at z
                exact no c (.inr (.inr rfl)) (low_a g3 (by omega) (by omega) e3 e2 z)
        · rcases Int.lt_or_le p.2 (hi3 a.2 b.2 c.2) with z | z
          · exact z
          · exfalso
            unfold hi3 at z
            by_cases c1 : a.2 ≤ b.2
            · rw [if_pos c1] at z
              by_cases c2 : b.2 ≤ c.2
              · rw [if_pos c2] at z
                exact no c (.inr (.inr rfl)) (high_a g3 (by omega) (by omega) e3 e2 z)
              · rw [if_neg c2] at z
                exact no b (.inr (.inl rfl)) (high_a g2 (by omega) (by omega) e2 e1 z)
            · rw [if_neg c1] at z
              by_cases c2 : a.2 ≤ c.2
              · rw [if_pos c2] at z
                exact no c (.inr (.inr rfl)) (high_a g3 (by omega) (by omega) e3 e2 z)
              · rw [if_neg c2] at z
                exact no a (.inl rfl) (high_a g (by omega) (by omega) e1 e3 z)
theorem sign_mul {x y z : Int} (hx : 0 < x) (e : x * y = z) : (0 < y ↔ 0 < z) ∧ (y = 0 ↔ z = 0) := by
  refine ⟨⟨fun h => e ▸ Int.mul_pos hx h, fun h => pos_of_mul hx (e ▸ h)⟩, ⟨fun h => by rw [← e, h, Int.mul_zero], fun h => ?_⟩⟩
  rw [h] at e
  rcases Int.mul_eq_zero.mp e with q | q
  · omega
  · exact q
/-- the first edge is level -/
theorem tk_level {l r bo to : Bool} {a b c p : P} (g : 0 < sd a b c) (h1 : a.2 = b.2) (hp : (p ≠ a ∧ p ≠ b ∧ p ≠ c) ∨ l ≠ r) : tk l r bo to ⟨a, b, c⟩ p = own (rT l r bo to) ⟨a, b, c⟩ p := by
  have D : sd a b c = (b.1 - a.1) * (c.2 - a.2) := by unfold sd; rw [h1]; grind
  have hc : c.2 ≠ a.2 := fun z => by rw [z] at D; simp at D; omega
  have h2 : b.2 ≠ c.2 := by omega
  unfold tk own
  simp only
  rw [← eW_eq (bo := bo) (to := to) h2, ← eW_eq (bo := bo) (to := to) hc]
  have ea : eW l r a b p = true := by unfold eW; rw [if_pos h1]
  rw [ea]
  cases e2 : eW l r b c p with
  | false => simp
  | true =>
    cases e3 : eW l r c a p with
    | false => simp
    | true =>
      simp only [Bool.and_true]
      have g3 : 0 < sd c a b := by rw [(sd_cyc a b c).2]; exact g
      have no : ¬ (p = c ∧ l = true ∧ r = true) := by
        rintro ⟨z1, z2, z3⟩
        rcases hp with hp | hp
        · exact hp.2.2 z1
        · exact hp (z2.trans z3.symm)
      have X : sd a b p = (b.1 - a.1) * (p.2 - a.2) := by unfold sd; rw [h1]; grind
      rcases Int.lt_or_le a.2 c.2 with up | dn
      · have pos : 0 < b.1 - a.1 := by
          refine pos_of_mul (m := c.2 - a.2) (by omega) ?_
          rw [Int.mul_comm, ← D]
          exact g
        have hi : p.2 < c.2 := by
          rcases Int.lt_or_le p.2 c.2 with z | z
          · exact z
          · exact (no (high_a g3 (by omega) (by omega) e3 e2 z)).elim
        have lo : lo3 a.2 b.2 c.2 = a.2 := by unfold lo3; (repeat' split) <;> omega
        have hh : hi3 a.2 b.2 c.2 = c.2 := by unfold hi3; (repeat' split) <;> omega
        obtain ⟨s1, s2⟩ := sign_mul pos X.symm
        have rb : rT l r bo to (sb b a) = bo := by
          unfold rT sb
          simp only
          rw [if_neg (by omega), if_neg (by omega), if_pos pos]
        unfold yOk wOwn
        rw [lo, hh, rb, decide_eq_true hi, Bool.true_or, Bool.and_true]
        congr 1
        · exact decide_eq_decide.mpr ⟨fun h => s1.mp (by omega), fun h => by have := s1.mpr h; omega⟩
        · congr 1
          exact decide_eq_decide.mpr ⟨fun h => s2.mp (by omega), fun h => by have := s2.mpr h; omega⟩
      · have pos : 0 < a.1 - b.1 := by
          refine pos_of_mul (m := a.2 - c.2) (by omega) ?_
          have : (a.2 - c.2) * (a.1 - b.1) = sd a b c := by rw [D]; grind
          rw [this]
          exact g
        have low : c.2 < p.2 := by
          rcases Int.lt_or_le c.2 p.2 with z | z
          · exact z
          · exact (no (low_a g3 (by omega) (by omega) e3 e2 z)).elim
        have lo : lo3 a.2 b.2 c.2 = c.2 := by unfold lo3; (repeat' split) <;> omega
        have hh : hi3 a.2 b.2 c.2 = a.2 := by unfold hi3; (repeat' split) <;> omega
        obtain ⟨s1, s2⟩ := sign_mul (x := a.1 - b.1) (y := a.2 - p.2) (z := sd a b p) pos (by rw [X]; grind)
        have rb : rT l r bo to (sb b a) = to := by
          unfold rT sb
          simp only
          rw [if_neg (by omega), if_neg (by omega), if_neg (by omega)]
        unfold yOk wOwn
        rw [lo, hh, rb, decide_eq_true low, Bool.true_or, Bool.true_and]
        congr 1
        · exact decide_eq_decide.mpr ⟨fun h => s1.mp (by omega), fun h => by have := s1.mpr h; omega⟩
        · congr 1
          exact decide_eq_decide.mpr ⟨fun h => s2.mp (by omega), fun h => by have := s2.mpr h; omega⟩
/-- spans as a table -/
theorem tk_own {l r bo to : Bool} {t : T3} {p : P} (g : Good t) (hp : (p ≠ t.a ∧ p ≠ t.b ∧ p ≠ t.c) ∨ l ≠ r) : tk l r bo to t p = own (rT l r bo to) t p := by
  obtain ⟨a, b, c⟩ := t
  have g1 : 0 < sd a b c := g
  have g2 : 0 < sd b c a := by rw [(sd_cyc a b c).1]; exact g1
  have g3 : 0 < sd c a b := by rw [(sd_cyc a b c).2]; exact g1
  simp only at hp
  by_cases h1 : a.2 = b.2
  · exact tk_level g1 h1 hp
  by_cases h2 : b.2 = c.2
  · rw [← tk_rot, ← own_rot]
    exact tk_level g2 h2 (hp.imp_left fun z => ⟨z.2.1, z.2.2, z.1⟩)
  by_cases h3 : c.2 = a.2
  · rw [← tk_rot, ← tk_rot, ← own_rot, ← own_rot]
    exact tk_level g3 h3 (hp.imp_left fun z => ⟨z.2.2, z.1, z.2.1⟩)
  exact tk_none g1 h1 h2 h3 hp
/-- two rules that are alike off (0, 0) own alike -/
theorem own_congr {R S : P → Bool} {t : T3} {p : P} (g : Good t) (h : ∀ d : P, d ≠ O → R d = S d) : own R t p = own S t p := by
  have n := sd_ne g
  unfold own wOwn
  rw [h _ n.1, h _ n.2.1, h _ n.2.2]
theorem half_r {bo : Bool} {d : P} (hd : d ≠ O) : rT false true bo (!bo) d = hf (1, 0) bo d := by
  rw [nz] at hd
  have e : cr (1, 0) d = d.2 := by unfold cr; simp only; omega
  have e2 : d.1 * ((1, 0) : P).1 + d.2 * ((1, 0) : P).2 = d.1 := by simp only; omega
  unfold rT hf
  rw [e, e2]
  by_cases c : d.2 = 0
  · rw [if_neg (show ¬ 0 < d.2 by omega), if_neg (show ¬ d.2 < 0 by omega), if_neg (show ¬ d.2 ≠ 0 by omega)]
    by_cases c2 : 0 < d.1
    · rw [if_pos c2, decide_eq_true c2]
      cases bo <;> rfl
    · rw [if_neg c2, decide_eq_false c2]
      cases bo <;> rfl
  · rw [if_pos (show d.2 ≠ 0 from c)]
    by_cases c2 : 0 < d.2
    · rw [if_pos c2, decide_eq_true c2]
    · rw [if_neg c2, if_pos (show d.2 < 0 by omega), decide_eq_false c2]
theorem half_l {bo : Bool} {d : P} (hd : d ≠ O) : rT true false bo (!bo) d = hf (-1, 0) (!bo) d := by
  rw [nz] at hd
  have e : cr (-1, 0) d = -d.2 := by unfold cr; simp only; omega
  have e2 : d.1 * ((-1, 0) : P).1 + d.2 * ((-1, 0) : P).2 = -d.1 := by simp only; omega
  unfold rT hf
  rw [e, e2]
  by_cases c : d.2 = 0
  · rw [if_neg (show ¬ 0 < d.2 by omega), if_neg (show ¬ d.2 < 0 by omega), if_neg (show ¬ -d.2 ≠ 0 by omega)]
    by_cases c2 : 0 < d.1
    · rw [if_pos c2, decide_eq_false (by omega)]
      cases bo <;> rfl
    · rw [if_neg c2, decide_eq_true (by omega)]
      cases bo <;> rfl
  · rw [if_pos (show -d.2 ≠ 0 by omega)]
    by_cases c2 : 0 < d.2
    · rw [if_pos c2, decide_eq_false (by omega)]
    · rw [if_neg c2, if_pos (show d.2 < 0 by omega), decide_eq_true (by omega)]
end SA

set_option Elab.async false
set_option linter.all false
set_option maxRecDepth 100000
set_option maxHeartbeats 4000000
set_option autoImplicit false
namespace K09
open PySem PySem.Spec PyProof.Rows L2 DL
def top (i : Nat) : Stmt := PySem.Challenge.pw_filledonce_k09_rules_within_rules.main.body.getD i (.Pass ⟨0, 0, 0, 0⟩)
def fn : List He5.DefA := [
  ⟨fun K => He.fAd K ("Half", some "__eq__"), "__eq__", "Half.__eq__", defArgs (inClass (top 32) 7), defBody (inClass (top 32) 7), defScope (inClass (top 32) 7), [], []⟩,
  ⟨fun K => He.fAd K ("cross_of", none), "cross_of", "cross_of", defArgs (top 16), defBody (top 16), defScope (top 16), [], []⟩,
  ⟨fun K => He.fAd K ("Half", some "has"), "has", "Half.has", defArgs (inClass (top 32) 5), defBody (inClass (top 32) 5), defScope (inClass (top 32) 5), [], []⟩,
  ⟨fun K => He.fAd K ("corners_of_kind", none), "corners_of_kind", "corners_of_kind", defArgs (top 33), defBody (top 33), defScope (top 33), [], []⟩,
  ⟨fun K => He.fAd K ("kinds_of_half", none), "kinds_of_half", "kinds_of_half", defArgs (top 34), defBody (top 34), defScope (top 34), [], []⟩,
  ⟨fun K => He.fAd K ("is_within", none), "is_within", "is_within", defArgs (top 35), defBody (top 35), defScope (top 35), [], []⟩,
  ⟨fun K => He.fAd K ("Rule", some "__le__"), "__le__", "Rule.__le__", defArgs (inClass (top 27) 1), defBody (inClass (top 27) 1), defScope (inClass (top 27) 1), [], []⟩,
  ⟨fun K => He.fAd K ("_law_arc", none), "_law_arc", "_law_arc", defArgs (top 51), defBody (top 51), defScope (top 51), [], []⟩,
  ⟨fun K => He.fAd K ("Table", some "__eq__"), "__eq__", "Table.__eq__", defArgs (inClass (top 29) 5), defBody (inClass (top 29) 5), defScope (inClass (top 29) 5), [], []⟩,
  ⟨fun K => He.fAd K ("_law_both", none), "_law_both", "_law_both", defArgs (top 50), defBody (top 50), defScope (top 50), [], []⟩,
  ⟨fun K => He.fAd K ("_law_half_in", none), "_law_half_in", "_law_half_in", defArgs (top 43), defBody (top 43), defScope (top 43), [], []⟩,
  ⟨fun K => He.fAd K ("_law_kind", none), "_law_kind", "_law_kind", defArgs (top 42), defBody (top 42), defScope (top 42), [], []⟩,
  ⟨fun K => He.fAd K ("_law_in", none), "_law_in", "_law_in", defArgs (top 46), defBody (top 46), defScope (top 46), [], []⟩,
  ⟨fun K => He.fAd K ("_law_lines", none), "_law_lines", "_law_lines", defArgs (top 48), defBody (top 48), defScope (top 48), [], []⟩,
  ⟨fun K => He.fAd K ("_law_due", none), "_law_due", "_law_due", defArgs (top 49), defBody (top 49), defScope (top 49), [], []⟩,
  ⟨fun K => He.fAd K ("_law_hand", none), "_law_hand", "_law_hand", defArgs (top 39), defBody (top 39), defScope (top 39), [], []⟩,
  ⟨fun K => He.fAd K ("check_ahead", none), "check_ahead", "check_ahead", defArgs (top 31), defBody (top 31), defScope (top 31), [], []⟩,
  ⟨fun K => He.fAd K ("common_divisor", none), "common_divisor", "common_divisor", defArgs (top 22), defBody (top 22), defScope (top 22), [], []⟩,
  ⟨fun K => He.fAd K ("lowest_pair", none), "lowest_pair", "lowest_pair", defArgs (top 23), defBody (top 23), defScope (top 23), [], []⟩,
  ⟨fun K => He.fAd K ("is_integer", none), "is_integer", "is_integer", defArgs (top 9), defBody (top 9), defScope (top 9), [], []⟩,
  ⟨fun K => He.fAd K ("numbers_of", none), "numbers_of", "numbers_of", defArgs (top 13), defBody (top 13), defScope (top 13), [], []⟩,
  ⟨fun K => He.fAd K ("way_in", none), "way_in", "way_in", defArgs (top 30), defBody (top 30), defScope (top 30), [], []⟩,
  ⟨fun K => He.fAd K ("Half", some "__init__"), "__init__", "Half.__init__", defArgs (inClass (top 32) 0), defBody (inClass (top 32) 0), defScope (inClass (top 32) 0), [], []⟩,
  ⟨fun K => He.fAd K ("check_truths", none), "check_truths", "check_truths", defArgs (top 28), defBody (top 28), defScope (top 28), [], []⟩,
  ⟨fun K => He.fAd K ("Table", some "__init__"), "__init__", "Table.__init__", defArgs (inClass (top 29) 0), defBody (inClass (top 29) 0), defScope (inClass (top 29) 0), [], []⟩,
  ⟨fun K => He.fAd K ("_law_made", none), "_law_made", "_law_made", defArgs (top 45), defBody (top 45), defScope (top 45), [], []⟩,
  ⟨fun K => He.fAd K ("_law_draw", none), "_law_draw", "_law_draw", defArgs (top 40), defBody (top 40), defScope (top 40), [], []⟩,
  ⟨fun K => He.fAd K ("_law_pair", none), "_law_pair", "_law_pair", defArgs (top 41), defBody (top 41), defScope (top 41), [], []⟩,
  ⟨fun K => He.fAd K ("_law_rule", none), "_law_rule", "_law_rule", defArgs (top 44), defBody (top 44), defScope (top 44), [], []⟩,
  ⟨fun K => He.fAd K ("_law_near", none), "_law_near", "_law_near", defArgs (top 47), defBody (top 47), defScope (top 47), [], []⟩,
  ⟨fun K => He.fAd K ("half_of", none), "half_of", "half_of", defArgs (top 37), defBody (top 37), defScope (top 37), [], []⟩,
  ⟨fun K => He.fAd K ("table_of", none), "table_of", "table_of", defArgs (top 36), defBody (top 36), defScope (top 36), [], []⟩,
  ⟨fun K => He.fAd K ("law", none), "law", "law", defArgs (top 52), defBody (top 52), defScope (top 52), [], []⟩,
  ⟨fun K => He.fAd K ("InvalidHalf", some "__init__"), "__init__", "InvalidHalf.__init__", defArgs (inClass (top 7) 0), defBody (inClass (top 7) 0), defScope (inClass (top 7) 0), [], []⟩,
  ⟨fun K => He.fAd K ("InvalidTable", some "__init__"), "__init__", "InvalidTable.__init__", defArgs (inClass (top 6) 0), defBody (inClass (top 6) 0), defScope (inClass (top 6) 0), [], []⟩]
def fa : List He.Fa := [.glo "cross_of", .glo "corners_of_kind", .glo "kinds_of_half", .glo "is_within", .glo "_law_arc", .glo "_law_both", .glo "_law_half_in", .glo "_law_kind", .glo "_law_in", .glo "_law_lines", .glo "_law_due", .glo "_law_hand", .glo "check_ahead", .glo "common_divisor", .glo "lowest_pair", .glo "is_integer", .glo "numbers_of", .glo "way_in", .glo "check_truths", .glo "_law_made", .glo "_law_draw", .glo "_law_pair", .glo "_law_rule", .glo "_law_near", .glo "half_of", .glo "table_of", .glo "law", .glo "AXES", .glo "Half", .glo "Point", .glo "Rule", .glo "Table", .glo "WAYS", .free "abs", .free "all", .free "bool", .free "int", .free "isinstance", .free "len", .free "list", .free "max", .free "min", .free "range", .free "tuple", .cls "Half", .noat "Half" "own_ahead", .noat "Half" "own_way", .cls "Point", .noat "Point" "x", .noat "Point" "y", .cls "Table", .noat "Table" "truths", .mkr "Half", .mkr "Table", .meth "Half" "has"]
def isiL : IsiL := [((.b "int", .c "Half"), false), ((.b "bool", .c "Half"), false), ((.b "str", .c "Half"), false), ((.b "NoneType", .c "Half"), false), ((.b "tuple", .c "Half"), false), ((.b "list", .c "Half"), false), ((.c "Table", .c "Half"), false), ((.c "Half", .c "Half"), true), ((.b "int", .c "Rule"), false), ((.b "bool", .c "Rule"), false), ((.b "str", .c "Rule"), false), ((.b "NoneType", .c "Rule"), false), ((.b "tuple", .c "Rule"), false), ((.b "list", .c "Rule"), false), ((.c "Table", .c "Rule"), true), ((.c "Half", .c "Rule"), true), ((.b "int", .c "Table"), false), ((.b "bool", .c "Table"), false), ((.b "str", .c "Table"), false), ((.b "NoneType", .c "Table"), false), ((.b "tuple", .c "Table"), false), ((.b "list", .c "Table"), false), ((.c "Table", .c "Table"), true), ((.c "Half", .c "Table"), false), ((.b "int", .b "bool"), false), ((.b "bool", .b "bool"), true), ((.b "str", .b "bool"), false), ((.b "NoneType", .b "bool"), false), ((.b "tuple", .b "bool"), false), ((.b "list", .b "bool"), false), ((.c "Table", .b "bool"), false), ((.c "Half", .b "bool"), false), ((.b "int", .b "int"), true), ((.b "bool", .b "int"), true), ((.b "str", .b "int"), false), ((.b "NoneType", .b "int"), false), ((.b "tuple", .b "int"), false), ((.b "list", .b "int"), false), ((.c "Table", .b "int"), false), ((.c "Half", .b "int"), false), ((.b "int", .c "Point"), false), ((.b "bool", .c "Point"), false), ((.b "str", .c "Point"), false), ((.b "NoneType", .c "Point"), false), ((.b "tuple", .c "Point"), false), ((.b "list", .c "Point"), false), ((.c "Table", .c "Point"), false), ((.c "Half", .c "Point"), false), ((.b "int", .b "tuple"), false), ((.b "bool", .b "tuple"), false), ((.b "str", .b "tuple"), false), ((.b "NoneType", .b "tuple"), false), ((.b "tuple", .b "tuple"), true), ((.b "list", .b "tuple"), false), ((.c "Table", .b "tuple"), false), ((.c "Half", .b "tuple"), false), ((.b "int", .b "list"), false), ((.b "bool", .b "list"), false), ((.b "str", .b "list"), false), ((.b "NoneType", .b "list"), false), ((.b "tuple", .b "list"), false), ((.b "list", .b "list"), true), ((.c "Table", .b "list"), false), ((.c "Half", .b "list"), false)]
abbrev isiT : TyN → TyN → Option Bool := isiF isiL
def exB (K : PySem.W.Frag) : Bool := isiB isiL K && (cmpB K "Half" "__eq__" [] ["Half", "Table"] && (cmpB K "Table" "__eq__" [] ["Table", "Half"] && (datB K (.tup [(.tup [(.int (1)), (.int (0))]), (.tup [(.int (0)), (.int (1))]), (.tup [(.int (-1)), (.int (0))]), (.tup [(.int (0)), (.int (-1))])]) (.ref (He.ga K "AXES")) && (datB K (.tup [(.tup [(.int (1)), (.int (0))]), (.tup [(.int (1)), (.int (1))]), (.tup [(.int (0)), (.int (1))]), (.tup [(.int (-1)), (.int (1))]), (.tup [(.int (-1)), (.int (0))]), (.tup [(.int (-1)), (.int (-1))]), (.tup [(.int (0)), (.int (-1))]), (.tup [(.int (1)), (.int (-1))])]) (.ref (He.ga K "WAYS")) && (rxB K "InvalidHalf" ["part"] && (rxB K "InvalidTable" ["thing"] && (cmpUB K "Half" "Rule" "__le__" [] ["Table", "Half"] && (cmpUB K "Table" "Rule" "__le__" [] ["Table", "Half"]))))))))
structure Hd (K : PySem.W.Frag) (mg : Str → Option Value) : Prop where
  c : He5.SaysA fa fn K
  more : exB K = true
  ex : ∃ h : Heap, K.In h ∧ h.Ns mainGlobals mg
section
variable {K : PySem.W.Frag} {mg : Str → Option Value}
theorem Hd.g_cross_of (A : Hd K mg) : mg "cross_of" = some (.ref (He.ga K "cross_of")) := by
  obtain ⟨h, X, G⟩ := A.ex
  exact He.glo_ok X G (A.c.fact 0)
theorem Hd.g_corners_of_kind (A : Hd K mg) : mg "corners_of_kind" = some (.ref (He.ga K "corners_of_kind")) := by
  obtain ⟨h, X, G⟩ := A.ex
  exact He.glo_ok X G (A.c.fact 1)
theorem Hd.g_kinds_of_half (A : Hd K mg) : mg "kinds_of_half" = some (.ref (He.ga K "kinds_of_half")) := by
  obtain ⟨h, X, G⟩ := A.ex
  exact He.glo_ok X G (A.c.fact 2)
theorem Hd.g_is_within (A : Hd K mg) : mg "is_within" = some (.ref (He.ga K "is_within")) := by
  obtain ⟨h, X, G⟩ := A.ex
  exact He.glo_ok X G (A.c.fact 3)
theorem Hd.g__law_arc (A : Hd K mg) : mg "_law_arc" = some (.ref (He.ga K "_law_arc")) := by
  obtain ⟨h, X, G⟩ := A.ex
  exact He.glo_ok X G (A.c.fact 4)
theorem Hd.g__law_both (A : Hd K mg) : mg "_law_both" = some (.ref (He.ga K "_law_both")) := by
  obtain ⟨h, X, G⟩ := A.ex
  exact He.glo_ok X G (A.c.fact 5)
theorem Hd.g__law_half_in (A : Hd K mg) : mg "_law_half_in" = some (.ref (He.ga K "_law_half_in")) := by
  obtain ⟨h, X, G⟩ := A.ex
  exact He.glo_ok X G (A.c.fact 6)
theorem Hd.g__law_kind (A : Hd K mg) : mg "_law_kind" = some (.ref (He.ga K "_law_kind")) := by
  obtain ⟨h, X, G⟩ := A.ex
  exact He.glo_ok X G (A.c.fact 7)
theorem Hd.g__law_in (A : Hd K mg) : mg "_law_in" = some (.ref (He.ga K "_law_in")) := by
  obtain ⟨h, X, G⟩ := A.ex
  exact He.glo_ok X G (A.c.fact 8)
theorem Hd.g__law_lines (A : Hd K mg) : mg "_law_lines" = some (.ref (He.ga K "_law_lines")) := by
  obtain ⟨h, X, G⟩ := A.ex
  exact He.glo_ok X G (A.c.fact 9)
theorem Hd.g__law_due (A : Hd K mg) : mg "_law_due" = some (.ref (He.ga K "_law_due")) := by
  obtain ⟨h, X, G⟩ := A.ex
  exact He.glo_ok X G (A.c.fact 10)
theorem Hd.g__law_hand (A : Hd K mg) : mg "_law_hand" = some (.ref (He.ga K "_law_hand")) := by
  obtain ⟨h, X, G⟩ := A.ex
  exact He.glo_ok X G (A.c.fact 11)
theorem Hd.g_check_ahead (A : Hd K mg) : mg "check_ahead" = some (.ref (He.ga K "check_ahead")) := by
  obtain ⟨h, X, G⟩ := A.ex
  exact He.glo_ok X G (A.c.fact 12)
theorem Hd.g_common_divisor (A : Hd K mg) : mg "common_divisor" = some (.ref (He.ga K "common_divisor")) := by
  obtain ⟨h, X, G⟩ := A.ex
  exact He.glo_ok X G (A.c.fact 13)
theorem Hd.g_lowest_pair (A : Hd K mg) : mg "lowest_pair" = some (.ref (He.ga K "lowest_pair")) := by
  obtain ⟨h, X, G⟩ := A.ex
  exact He.glo_ok X G (A.c.fact 14)
theorem Hd.g_is_integer (A : Hd K mg) : mg "is_integer" = some (.ref (He.ga K "is_integer")) := by
  obtain ⟨h, X, G⟩ := A.ex
  exact He.glo_ok X G (A.c.fact 15)
theorem Hd.g_numbers_of (A : Hd K mg) : mg "numbers_of" = some (.ref (He.ga K "numbers_of")) := by
  obtain ⟨h, X, G⟩ := A.ex
  exact He.glo_ok X G (A.c.fact 16)
theorem Hd.g_way_in (A : Hd K mg) : mg "way_in" = some (.ref (He.ga K "way_in")) := by
  obtain ⟨h, X, G⟩ := A.ex
  exact He.glo_ok X G (A.c.fact 17)
theorem Hd.g_check_truths (A : Hd K mg) : mg "check_truths" = some (.ref (He.ga K "check_truths")) := by
  obtain ⟨h, X, G⟩ := A.ex
  exact He.glo_ok X G (A.c.fact 18)
theorem Hd.g__law_made (A : Hd K mg) : mg "_law_made" = some (.ref (He.ga K "_law_made")) := by
  obtain ⟨h, X, G⟩ := A.ex
  exact He.glo_ok X G (A.c.fact 19)
theorem Hd.g__law_draw (A : Hd K mg) : mg "_law_draw" = some (.ref (He.ga K "_law_draw")) := by
  obtain ⟨h, X, G⟩ := A.ex
  exact He.glo_ok X G (A.c.fact 20)
theorem Hd.g__law_pair (A : Hd K mg) : mg "_law_pair" = some (.ref (He.ga K "_law_pair")) := by
  obtain ⟨h, X, G⟩ := A.ex
  exact He.glo_ok X G (A.c.fact 21)
theorem Hd.g__law_rule (A : Hd K mg) : mg "_law_rule" = some (.ref (He.ga K "_law_rule")) := by
  obtain ⟨h, X, G⟩ := A.ex
  exact He.glo_ok X G (A.c.fact 22)
theorem Hd.g__law_near (A : Hd K mg) : mg "_law_near" = some (.ref (He.ga K "_law_near")) := by
  obtain ⟨h, X, G⟩ := A.ex
  exact He.glo_ok X G (A.c.fact 23)
theorem Hd.g_half_of (A : Hd K mg) : mg "half_of" = some (.ref (He.ga K "half_of")) := by
  obtain ⟨h, X, G⟩ := A.ex
  exact He.glo_ok X G (A.c.fact 24)
theorem Hd.g_table_of (A : Hd K mg) : mg "table_of" = some (.ref (He.ga K "table_of")) := by
  obtain ⟨h, X, G⟩ := A.ex
  exact He.glo_ok X G (A.c.fact 25)
theorem Hd.g_law (A : Hd K mg) : mg "law" = some (.ref (He.ga K "law")) := by
  obtain ⟨h, X, G⟩ := A.ex
  exact He.glo_ok X G (A.c.fact 26)
theorem Hd.g_AXES (A : Hd K mg) : mg "AXES" = some (.ref (He.ga K "AXES")) := by
  obtain ⟨h, X, G⟩ := A.ex
  exact He.glo_ok X G (A.c.fact 27)
theorem Hd.g_Half (A : Hd K mg) : mg "Half" = some (.ref (He.ga K "Half")) := by
  obtain ⟨h, X, G⟩ := A.ex
  exact He.glo_ok X G (A.c.fact 28)
theorem Hd.g_Point (A : Hd K mg) : mg "Point" = some (.ref (He.ga K "Point")) := by
  obtain ⟨h, X, G⟩ := A.ex
  exact He.glo_ok X G (A.c.fact 29)
theorem Hd.g_Rule (A : Hd K mg) : mg "Rule" = some (.ref (He.ga K "Rule")) := by
  obtain ⟨h, X, G⟩ := A.ex
  exact He.glo_ok X G (A.c.fact 30)
theorem Hd.g_Table (A : Hd K mg) : mg "Table" = some (.ref (He.ga K "Table")) := by
  obtain ⟨h, X, G⟩ := A.ex
  exact He.glo_ok X G (A.c.fact 31)
theorem Hd.g_WAYS (A : Hd K mg) : mg "WAYS" = some (.ref (He.ga K "WAYS")) := by
  obtain ⟨h, X, G⟩ := A.ex
  exact He.glo_ok X G (A.c.fact 32)
theorem Hd.f_abs (A : Hd K mg) : mg "abs" = none := by
  obtain ⟨h, X, G⟩ := A.ex
  exact He.free_ok X G (A.c.fact 33)
theorem Hd.f_all (A : Hd K mg) : mg "all" = none := by
  obtain ⟨h, X, G⟩ := A.ex
  exact He.free_ok X G (A.c.fact 34)
theorem Hd.f_bool (A : Hd K mg) : mg "bool" = none := by
  obtain ⟨h, X, G⟩ := A.ex
  exact He.free_ok X G (A.c.fact 35)
theorem Hd.f_int (A : Hd K mg) : mg "int" = none := by
  obtain ⟨h, X, G⟩ := A.ex
  exact He.free_ok X G (A.c.fact 36)
theorem Hd.f_isinstance (A : Hd K mg) : mg "isinstance" = none := by
  obtain ⟨h, X, G⟩ := A.ex
  exact He.free_ok X G (A.c.fact 37)
theorem Hd.f_len (A : Hd K mg) : mg "len" = none := by
  obtain ⟨h, X, G⟩ := A.ex
  exact He.free_ok X G (A.c.fact 38)
theorem Hd.f_list (A : Hd K mg) : mg "list" = none := by
  obtain ⟨h, X, G⟩ := A.ex
  exact He.free_ok X G (A.c.fact 39)
theorem Hd.f_max (A : Hd K mg) : mg "max" = none := by
  obtain ⟨h, X, G⟩ := A.ex
  exact He.free_ok X G (A.c.fact 40)
theorem Hd.f_min (A : Hd K mg) : mg "min" = none := by
  obtain ⟨h, X, G⟩ := A.ex
  exact He.free_ok X G (A.c.fact 41)
theorem Hd.f_range (A : Hd K mg) : mg "range" = none := by
  obtain ⟨h, X, G⟩ := A.ex
  exact He.free_ok X G (A.c.fact 42)
theorem Hd.f_tuple (A : Hd K mg) : mg "tuple" = none := by
  obtain ⟨h, X, G⟩ := A.ex
  exact He.free_ok X G (A.c.fact 43)
theorem Hd.fl_Half_own_ahead (A : Hd K mg) : FldD K mg "Half" "own_ahead" := ⟨_, A.g_Half, He.cls_ok (A.c.fact 44), He.noat_ok (A.c.fact 45)⟩
theorem Hd.fl_Half_own_way (A : Hd K mg) : FldD K mg "Half" "own_way" := ⟨_, A.g_Half, He.cls_ok (A.c.fact 44), He.noat_ok (A.c.fact 46)⟩
theorem Hd.fl_Point_x (A : Hd K mg) : FldD K mg "Point" "x" := ⟨_, A.g_Point, He.cls_ok (A.c.fact 47), He.noat_ok (A.c.fact 48)⟩
theorem Hd.fl_Point_y (A : Hd K mg) : FldD K mg "Point" "y" := ⟨_, A.g_Point, He.cls_ok (A.c.fact 47), He.noat_ok (A.c.fact 49)⟩
theorem Hd.fl_Table_truths (A : Hd K mg) : FldD K mg "Table" "truths" := ⟨_, A.g_Table, He.cls_ok (A.c.fact 50), He.noat_ok (A.c.fact 51)⟩
theorem Hd.isi (A : Hd K mg) : IsiTab ⟨K, mg, none⟩ isiT := by
  obtain ⟨h, X, G⟩ := A.ex
  exact isiTab_of X G (He.ba A.more).1
variable {P : Program} {w : World} {base : Heap}
theorem Hd.k_AXES (A : Hd K mg) : mg "AXES" = some (.ref (He.ga K "AXES")) ∧ datB K (.tup [(.tup [(.int (1)), (.int (0))]), (.tup [(.int (0)), (.int (1))]), (.tup [(.int (-1)), (.int (0))]), (.tup [(.int (0)), (.int (-1))])]) (.ref (He.ga K "AXES")) = true := ⟨A.g_AXES, (He.ba (He.ba (He.ba (He.ba A.more).2).2).2).1⟩
theorem Hd.k_WAYS (A : Hd K mg) : mg "WAYS" = some (.ref (He.ga K "WAYS")) ∧ datB K (.tup [(.tup [(.int (1)), (.int (0))]), (.tup [(.int (1)), (.int (1))]), (.tup [(.int (0)), (.int (1))]), (.tup [(.int (-1)), (.int (1))]), (.tup [(.int (-1)), (.int (0))]), (.tup [(.int (-1)), (.int (-1))]), (.tup [(.int (0)), (.int (-1))]), (.tup [(.int (1)), (.int (-1))])]) (.ref (He.ga K "WAYS")) = true := ⟨A.g_WAYS, (He.ba (He.ba (He.ba (He.ba (He.ba A.more).2).2).2).2).1⟩
theorem scx_InvalidHalf : FnScope ["self", "part"] ["self", "part"] (defScope (inClass (top 7) 0)) := ⟨rfl, rfl, rfl, by decide +kernel, rfl, by decide +kernel, by decide +kernel⟩
theorem Hd.rx_InvalidHalf (A : Hd K mg) : RaiseD P w K mg base 1 "InvalidHalf" ["part"] := by
  obtain ⟨fd, F⟩ := A.c.def_ 33
  obtain ⟨h, X, G⟩ := A.ex
  obtain ⟨h1, h2, h3, h4⟩ := rxB_ok (He.ba (He.ba (He.ba (He.ba (He.ba (He.ba A.more).2).2).2).2).2).1
  exact raise1 (rx_glo X G (He.ba (He.ba (He.ba (He.ba (He.ba (He.ba A.more).2).2).2).2).2).1) h1 (h4 _ (by simp)) h2 h3 F scx_InvalidHalf (F.bindsN fun _ _ _ _ _ _ us hl => match us, hl with | [_, _], _ => rfl) fun _ _ _ _ _ _ => pss_one (ps_ost (pe_var (i := 0) rfl (Or.inl rfl)) (pe_var (i := 1) rfl (Or.inl rfl)))
theorem scx_InvalidTable : FnScope ["self", "thing"] ["self", "thing"] (defScope (inClass (top 6) 0)) := ⟨rfl, rfl, rfl, by decide +kernel, rfl, by decide +kernel, by decide +kernel⟩
theorem Hd.rx_InvalidTable (A : Hd K mg) : RaiseD P w K mg base 1 "InvalidTable" ["thing"] := by
  obtain ⟨fd, F⟩ := A.c.def_ 34
  obtain ⟨h, X, G⟩ := A.ex
  obtain ⟨h1, h2, h3, h4⟩ := rxB_ok (He.ba (He.ba (He.ba (He.ba (He.ba (He.ba (He.ba A.more).2).2).2).2).2).2).1
  exact raise1 (rx_glo X G (He.ba (He.ba (He.ba (He.ba (He.ba (He.ba (He.ba A.more).2).2).2).2).2).2).1) h1 (h4 _ (by simp)) h2 h3 F scx_InvalidTable (F.bindsN fun _ _ _ _ _ _ us hl => match us, hl with | [_, _], _ => rfl) fun _ _ _ _ _ _ => pss_one (ps_ost (pe_var (i := 0) rfl (Or.inl rfl)) (pe_var (i := 1) rfl (Or.inl rfl)))
/-! Half_eq -/
abbrev N_Half_eq : List Str := ["self", "other"]
theorem sc_Half_eq : FnScope N_Half_eq ["self", "other"] (defScope (inClass (top 32) 7)) := ⟨rfl, rfl, rfl, by decide +kernel, rfl, by decide +kernel, by decide +kernel⟩
def w_Half_eq : WS := (sRet (wAndV (wN (fIsi isiT) (wCons (wVar 1) (wCons (wC (.cls "Half")) wNil))) (w2 fEqU (wTup (wCons (w1 (fFld "Half" "own_way") (wVar 0)) (wCons (w1 (fFld "Half" "own_ahead") (wVar 0)) wNil))) (wTup (wCons (w1 (fFld "Half" "own_way") (wVar 1)) (wCons (w1 (fFld "Half" "own_ahead") (wVar 1)) wNil))))))
def sp_Half_eq : DSp := fun ds μ Q Xd => ds.length = 2 ∧ w_Half_eq (defE Q Xd) (startD N_Half_eq ds) μ
theorem d_Half_eq (A : Hd K mg) {cdv : Value} {A2 : Around} {fr : List Env} {s : Shared} {H : Hp} {E : XK} {f : Addr} (hr : Room 0 (A2.deeper (envOfC "Half.__eq__" (defScope (inClass (top 32) 7)) s.heap.objs.size f cdv))) (hgd : (A2.deeper (envOfC "Half.__eq__" (defScope (inClass (top 32) 7)) s.heap.objs.size f cdv)).guards = some []) :
    DSs none (fun cls d _ H2 => E cls d H2) (cxOf (L2.CX P w) P w K mg base N_Half_eq "Half.__eq__" (defScope (inClass (top 32) 7)) f cdv A2 fr s H E) (defBody (inClass (top 32) 7)) w_Half_eq := by
  have hN := (sc_Half_eq).nd
  exact (dss_one (ds_ret (de_and (de_callB call_isi (sn_isi A.isi) rfl A.f_isinstance bt_isinstance (da_cons (dv 1) (da_cons (de_cls rfl A.g_Half) da_nil))) (de_one (de_cmp (op_eqU (have z := room64 hr; z)) s2_eqU (de_tup (da_cons (de_fldD A.fl_Half_own_way (dv 0)) (da_cons (de_fldD A.fl_Half_own_ahead (dv 0)) da_nil))) (de_tup (da_cons (de_fldD A.fl_Half_own_way (dv 1)) (da_cons (de_fldD A.fl_Half_own_ahead (dv 1)) da_nil))) (nomark _))))))
theorem Hd.ok_Half_eq (A : Hd K mg) : CmpD P w K mg base 1 "Half" "__eq__" [] ["Half", "Table"] ["self", "other"] sp_Half_eq := by
  obtain ⟨fd, F⟩ := A.c.def_ 0
  obtain ⟨h, X, G⟩ := A.ex
  exact cmpD_of X G (He.ba (He.ba A.more).2).1 (F.bindsN fun _ _ _ _ _ _ us hl => match us, hl with | [_, _], _ => rfl) (def_ok F sc_Half_eq (fun ds μ Q Xd h => h.1) (fun cdv A2 fr s H E hr hgd => d_Half_eq A hr hgd) fun ds μ Q Xd h => h.2)
/-! cross_of -/
abbrev N_cross_of : List Str := ["one", "other"]
theorem sc_cross_of : FnScope N_cross_of ["one", "other"] (defScope (top 16)) := ⟨rfl, rfl, rfl, by decide +kernel, rfl, by decide +kernel, by decide +kernel⟩
def w_cross_of : WS := (sRet (w2 fSub (w2 fTimes (w2 fIx (wVar 0) (wC (.int (0)))) (w2 fIx (wVar 1) (wC (.int (1))))) (w2 fTimes (w2 fIx (wVar 0) (wC (.int (1)))) (w2 fIx (wVar 1) (wC (.int (0)))))))
def sp_cross_of : DSp := fun ds μ Q Xd => ds.length = 2 ∧ w_cross_of (defE Q Xd) (startD N_cross_of ds) μ
theorem d_cross_of (A : Hd K mg) {cdv : Value} {A2 : Around} {fr : List Env} {s : Shared} {H : Hp} {E : XK} {f : Addr} (hr : Room 0 (A2.deeper (envOfC "cross_of" (defScope (top 16)) s.heap.objs.size f cdv))) (hgd : (A2.deeper (envOfC "cross_of" (defScope (top 16)) s.heap.objs.size f cdv)).guards = some []) :
    DSs none (fun cls d _ H2 => E cls d H2) (cxOf (L2.CX P w) P w K mg base N_cross_of "cross_of" (defScope (top 16)) f cdv A2 fr s H E) (defBody (top 16)) w_cross_of := by
  have hN := (sc_cross_of).nd
  exact (dss_one (ds_ret (de_sub (de_times (de_item (dv 0) de_int) (de_item (dv 1) de_int)) (de_times (de_item (dv 0) de_int) (de_item (dv 1) de_int)))))
theorem Hd.ok_cross_of (A : Hd K mg) : CallD P w K mg base 1 "cross_of" ["one", "other"] sp_cross_of := by
  obtain ⟨fd, F⟩ := A.c.def_ 1
  exact ⟨_, fd, A.g_cross_of, F.kp, F.bindsN fun _ _ _ _ _ _ us hl => match us, hl with | [_, _], _ => rfl, def_ok F sc_cross_of (fun ds μ Q Xd h => h.1) (fun cdv A2 fr s H E hr hgd => d_cross_of A hr hgd) fun ds μ Q Xd h => h.2⟩
/-! Half_has -/
abbrev N_Half_has : List Str := ["self", "pair", "at", "goes_along"]
theorem sc_Half_has : FnScope N_Half_has ["self", "pair"] (defScope (inClass (top 32) 5)) := ⟨rfl, rfl, rfl, by decide +kernel, rfl, by decide +kernel, by decide +kernel⟩
def w_Half_has : WS := (sSeq (sSet 2 (wCall sp_cross_of (wCons (w1 (fFld "Half" "own_way") (wVar 0)) (wCons (wVar 1) wNil))))
 (sSeq (sIf (wB (w2 fNeU (wVar 2) (wC (.int (0)))))
  (sRet (w2 fGt (wVar 2) (wC (.int (0)))))
  sNext)
 (sSeq (sSet 3 (w2 fGt (w2 fPlus (w2 fTimes (w2 fIx (wVar 1) (wC (.int (0)))) (w2 fIx (w1 (fFld "Half" "own_way") (wVar 0)) (wC (.int (0))))) (w2 fTimes (w2 fIx (wVar 1) (wC (.int (1)))) (w2 fIx (w1 (fFld "Half" "own_way") (wVar 0)) (wC (.int (1)))))) (wC (.int (0)))))
 (sRet (w2 fEqU (wVar 3) (w1 (fFld "Half" "own_ahead") (wVar 0)))))))
def sp_Half_has : DSp := fun ds μ Q Xd => ds.length = 2 ∧ w_Half_has (defE Q Xd) (startD N_Half_has ds) μ
theorem d_Half_has (A : Hd K mg) {cdv : Value} {A2 : Around} {fr : List Env} {s : Shared} {H : Hp} {E : XK} {f : Addr} (hr : Room 1 (A2.deeper (envOfC "Half.has" (defScope (inClass (top 32) 5)) s.heap.objs.size f cdv))) (hgd : (A2.deeper (envOfC "Half.has" (defScope (inClass (top 32) 5)) s.heap.objs.size f cdv)).guards = some []) :
    DSs none (fun cls d _ H2 => E cls d H2) (cxOf (L2.CX P w) P w K mg base N_Half_has "Half.has" (defScope (inClass (top 32) 5)) f cdv A2 fr s H E) (defBody (inClass (top 32) 5)) w_Half_has := by
  have hN := (sc_Half_has).nd
  exact (dss_cons (ds_set (i := 2) hN rfl (de_callD A.ok_cross_of hr (by decide) hgd rfl (takes_of rfl rfl rfl rfl) (da_cons (de_fldD A.fl_Half_own_way (dv 0)) (da_cons (dv 1) da_nil))))
 (dss_cons (ds_if (dt_cmp (op_neU (have z := room64 hr; z)) s2_neU (dv 2) de_int (nomark _)) (dss_one (ds_ret (de_cmp op_gt s2_IB (dv 2) de_int (nomark _)))) dss_nil)
 (dss_cons (ds_set (i := 3) hN rfl (de_cmp op_gt s2_IB (de_plus (de_times (de_item (dv 1) de_int) (de_item (de_fldD A.fl_Half_own_way (dv 0)) de_int)) (de_times (de_item (dv 1) de_int) (de_item (de_fldD A.fl_Half_own_way (dv 0)) de_int))) de_int (nomark _)))
 (dss_one (ds_ret (de_cmp (op_eqU (have z := room64 hr; z)) s2_eqU (dv 3) (de_fldD A.fl_Half_own_ahead (dv 0)) (nomark _)))))))
theorem Hd.ok_Half_has (A : Hd K mg) : MethD P w K mg base 2 "Half" "has" ["self", "pair"] sp_Half_has := by
  obtain ⟨fd, F⟩ := A.c.def_ 2
  exact ⟨_, _, fd, A.g_Half, He.cls_ok (A.c.fact 44), He.meth_ok (A.c.fact 54), F.bindsN fun _ _ _ _ _ _ us hl => match us, hl with | [_, _], _ => rfl, def_ok F sc_Half_has (fun ds μ Q Xd h => h.1) (fun cdv A2 fr s H E hr hgd => d_Half_has A hr hgd) fun ds μ Q Xd h => h.2⟩
/-! corners_of_kind -/
abbrev N_corners_of_kind : List Str := ["kind", "at"]
theorem sc_corners_of_kind : FnScope N_corners_of_kind ["kind"] (defScope (top 33)) := ⟨rfl, rfl, rfl, by decide +kernel, rfl, by decide +kernel, by decide +kernel⟩
def w_corners_of_kind : WS := (sSeq (sSet 1 (w2 fDiv (w2 fSub (wVar 0) (wC (.int (1)))) (wC (.int (2)))))
 (sRet (wTup (wCons (w2 fIx (wC (.tup [(.tup [(.int (1)), (.int (0))]), (.tup [(.int (0)), (.int (1))]), (.tup [(.int (-1)), (.int (0))]), (.tup [(.int (0)), (.int (-1))])])) (wVar 1)) (wCons (w2 fIx (wC (.tup [(.tup [(.int (1)), (.int (0))]), (.tup [(.int (0)), (.int (1))]), (.tup [(.int (-1)), (.int (0))]), (.tup [(.int (0)), (.int (-1))])])) (w2 fMod (w2 fPlus (wVar 1) (wC (.int (1)))) (wC (.int (4))))) wNil)))))
def sp_corners_of_kind : DSp := fun ds μ Q Xd => ds.length = 1 ∧ w_corners_of_kind (defE Q Xd) (startD N_corners_of_kind ds) μ
theorem d_corners_of_kind (A : Hd K mg) {cdv : Value} {A2 : Around} {fr : List Env} {s : Shared} {H : Hp} {E : XK} {f : Addr} (hr : Room 0 (A2.deeper (envOfC "corners_of_kind" (defScope (top 33)) s.heap.objs.size f cdv))) (hgd : (A2.deeper (envOfC "corners_of_kind" (defScope (top 33)) s.heap.objs.size f cdv)).guards = some []) :
    DSs none (fun cls d _ H2 => E cls d H2) (cxOf (L2.CX P w) P w K mg base N_corners_of_kind "corners_of_kind" (defScope (top 33)) f cdv A2 fr s H E) (defBody (top 33)) w_corners_of_kind := by
  have hN := (sc_corners_of_kind).nd
  exact (dss_cons (ds_set (i := 1) hN rfl (de_div (de_sub (dv 0) de_int) de_int))
 (dss_one (ds_ret (de_tup (da_cons (de_item (de_gdat (by rfl) A.k_AXES) (dv 1)) (da_cons (de_item (de_gdat (by rfl) A.k_AXES) (de_mod (de_plus (dv 1) de_int) de_int)) da_nil))))))
theorem Hd.ok_corners_of_kind (A : Hd K mg) : CallD P w K mg base 1 "corners_of_kind" ["kind"] sp_corners_of_kind := by
  obtain ⟨fd, F⟩ := A.c.def_ 3
  exact ⟨_, fd, A.g_corners_of_kind, F.kp, F.bindsN fun _ _ _ _ _ _ us hl => match us, hl with | [_], _ => rfl, def_ok F sc_corners_of_kind (fun ds μ Q Xd h => h.1) (fun cdv A2 fr s H E hr hgd => d_corners_of_kind A hr hgd) fun ds μ Q Xd h => h.2⟩
/-! kinds_of_half -/
abbrev N_kinds_of_half : List Str := ["half", "is_whole", "found", "kind", "one", "other", "first", "second"]
theorem sc_kinds_of_half : FnScope N_kinds_of_half ["half", "is_whole"] (defScope (top 34)) := ⟨rfl, rfl, rfl, by decide +kernel, rfl, by decide +kernel, by decide +kernel⟩
def w_kinds_of_half : WS := (sSeq (sSetO 2 wNil)
 (sSeq (sFor (wiR1 (wCons (wC (.int (8))) wNil)) (kName 3)
  (sSeq (sIf (wB (w2 fEqU (w2 fMod (wVar 3) (wC (.int (2)))) (wC (.int (0)))))
  (sSeq (sAppO 2 (wCons (wMeth "Half" "has" sp_Half_has (wVar 0) (wCons (w2 fIx (wC (.tup [(.tup [(.int (1)), (.int (0))]), (.tup [(.int (1)), (.int (1))]), (.tup [(.int (0)), (.int (1))]), (.tup [(.int (-1)), (.int (1))]), (.tup [(.int (-1)), (.int (0))]), (.tup [(.int (-1)), (.int (-1))]), (.tup [(.int (0)), (.int (-1))]), (.tup [(.int (1)), (.int (-1))])])) (wVar 3)) wNil)) wNil))
 sCont)
  sNext)
 (sSeq (sAsg (wCall sp_corners_of_kind (wCons (wVar 3) wNil)) (kTup 2 (kCons (kName 4) (kCons (kName 5) kNil))))
 (sSeq (sPar2 6 7 (wCons (wCall sp_cross_of (wCons (w1 (fFld "Half" "own_way") (wVar 0)) (wCons (wVar 4) wNil))) (wCons (wCall sp_cross_of (wCons (w1 (fFld "Half" "own_way") (wVar 0)) (wCons (wVar 5) wNil))) wNil)))
 (sIf (wB (wVar 1))
  (sAppO 2 (wCons (wAndV (w2 fGe (wVar 6) (wC (.int (0)))) (w2 fGe (wVar 7) (wC (.int (0))))) wNil))
  (sAppO 2 (wCons (wOrV (w2 fGt (wVar 6) (wC (.int (0)))) (w2 fGt (wVar 7) (wC (.int (0))))) wNil)))))))
 (sFrz 2 (sRet (wVar 2)))))
def sp_kinds_of_half : DSp := fun ds μ Q Xd => ds.length = 2 ∧ w_kinds_of_half (defE Q Xd) (startD N_kinds_of_half ds) μ
theorem d_kinds_of_half (A : Hd K mg) {cdv : Value} {A2 : Around} {fr : List Env} {s : Shared} {H : Hp} {E : XK} {f : Addr} (hr : Room 2 (A2.deeper (envOfC "kinds_of_half" (defScope (top 34)) s.heap.objs.size f cdv))) (hgd : (A2.deeper (envOfC "kinds_of_half" (defScope (top 34)) s.heap.objs.size f cdv)).guards = some []) :
    DSs none (fun cls d _ H2 => E cls d H2) (cxOf (L2.CX P w) P w K mg base N_kinds_of_half "kinds_of_half" (defScope (top 34)) f cdv A2 fr s H E) (defBody (top 34)) w_kinds_of_half := by
  have hN := (sc_kinds_of_half).nd
  exact (dss_cons (ds_setO (i := 2) hN rfl da_nil)
 (dss_cons (ds_for (passes_of rfl) rfl (di_range1 (by rfl) A.f_range (da_cons de_int da_nil)) (dg_name hN rfl) (dss_cons (ds_if (dt_cmp (op_eqU (have z := room64 hr; z)) s2_eqU (de_mod (dv 3) de_int) de_int (nomark _)) (dss_cons (ds_appO (i := 2) rfl (da_cons (de_methD A.ok_Half_has hr (by decide) hgd (takes_of rfl rfl rfl rfl) (dv 0) (da_cons (de_item (de_gdat (by rfl) A.k_WAYS) (dv 3)) da_nil)) da_nil))
 (dss_one ds_continue)) dss_nil)
 (dss_cons (ds_asg (de_callD A.ok_corners_of_kind hr (by decide) hgd rfl (takes_of rfl rfl rfl rfl) (da_cons (dv 3) da_nil)) (dg_tup rfl (dgs_cons (dg_name hN rfl) (dgs_cons (dg_name hN rfl) dgs_nil))))
 (dss_cons (ds_par2 (i := 6) (j := 7) rfl hN rfl rfl (by decide) (da_cons (de_callD A.ok_cross_of hr (by decide) hgd rfl (takes_of rfl rfl rfl rfl) (da_cons (de_fldD A.fl_Half_own_way (dv 0)) (da_cons (dv 4) da_nil))) (da_cons (de_callD A.ok_cross_of hr (by decide) hgd rfl (takes_of rfl rfl rfl rfl) (da_cons (de_fldD A.fl_Half_own_way (dv 0)) (da_cons (dv 5) da_nil))) da_nil)))
 (dss_one (ds_if (dt_val (dv 1)) (dss_one (ds_appO (i := 2) rfl (da_cons (de_and (de_cmp op_ge s2_IB (dv 6) de_int (nomark _)) (de_one (de_cmp op_ge s2_IB (dv 7) de_int (nomark _)))) da_nil))) (dss_one (ds_appO (i := 2) rfl (da_cons (de_or (de_cmp op_gt s2_IB (dv 6) de_int (nomark _)) (de_one (de_cmp op_gt s2_IB (dv 7) de_int (nomark _)))) da_nil)))))))))
 (dss_one (ds_frz 2 (ds_ret (dv 2))))))
theorem Hd.ok_kinds_of_half (A : Hd K mg) : CallD P w K mg base 3 "kinds_of_half" ["half", "is_whole"] sp_kinds_of_half := by
  obtain ⟨fd, F⟩ := A.c.def_ 4
  exact ⟨_, fd, A.g_kinds_of_half, F.kp, F.bindsN fun _ _ _ _ _ _ us hl => match us, hl with | [_, _], _ => rfl, def_ok F sc_kinds_of_half (fun ds μ Q Xd h => h.1) (fun cdv A2 fr s H E hr hgd => d_kinds_of_half A hr hgd) fun ds μ Q Xd h => h.2⟩
/-! is_within -/
abbrev N_is_within : List Str := ["one", "other", "ours", "theirs", "kind"]
theorem sc_is_within : FnScope N_is_within ["one", "other"] (defScope (top 35)) := ⟨rfl, rfl, rfl, by decide +kernel, rfl, by decide +kernel, by decide +kernel⟩
def w_is_within : WS := (sSeq (sIf (wAnd (wB (wN (fIsi isiT) (wCons (wVar 0) (wCons (wC (.cls "Half")) wNil)))) (wB (wN (fIsi isiT) (wCons (wVar 1) (wCons (wC (.cls "Half")) wNil)))))
  (sRet (w2 (fOwn "Half" [] ["Half", "Table"] sp_Half_eq) (wVar 0) (wVar 1)))
  sNext)
 (sSeq (sSet 2 (wIf (wB (wN (fIsi isiT) (wCons (wVar 0) (wCons (wC (.cls "Half")) wNil)))) (wCall sp_kinds_of_half (wCons (wVar 0) (wCons (wC (.bl false)) wNil))) (w1 (fFld "Table" "truths") (wVar 0))))
 (sSeq (sSet 3 (wIf (wB (wN (fIsi isiT) (wCons (wVar 1) (wCons (wC (.cls "Half")) wNil)))) (wCall sp_kinds_of_half (wCons (wVar 1) (wCons (wC (.bl true)) wNil))) (w1 (fFld "Table" "truths") (wVar 1))))
 (sRet (wN fAll (wCons (wLc (wiR1 (wCons (wC (.int (8))) wNil)) (kNameC 4) (wB (w2 fIx (wVar 2) (wVar 4))) (w2 fIx (wVar 3) (wVar 4)) [4]) wNil))))))
def sp_is_within : DSp := fun ds μ Q Xd => ds.length = 2 ∧ w_is_within (defE Q Xd) (startD N_is_within ds) μ
theorem d_is_within (A : Hd K mg) {cdv : Value} {A2 : Around} {fr : List Env} {s : Shared} {H : Hp} {E : XK} {f : Addr} (hr : Room 3 (A2.deeper (envOfC "is_within" (defScope (top 35)) s.heap.objs.size f cdv))) (hgd : (A2.deeper (envOfC "is_within" (defScope (top 35)) s.heap.objs.size f cdv)).guards = some []) :
    DSs none (fun cls d _ H2 => E cls d H2) (cxOf (L2.CX P w) P w K mg base N_is_within "is_within" (defScope (top 35)) f cdv A2 fr s H E) (defBody (top 35)) w_is_within := by
  have hN := (sc_is_within).nd
  exact (dss_cons (ds_if (dt_w (dw_and (dt_val (de_callB call_isi (sn_isi A.isi) rfl A.f_isinstance bt_isinstance (da_cons (dv 0) (da_cons (de_cls rfl A.g_Half) da_nil)))) (dw_and1 (dt_val (de_callB call_isi (sn_isi A.isi) rfl A.f_isinstance bt_isinstance (da_cons (dv 1) (da_cons (de_cls rfl A.g_Half) da_nil))))))) (dss_one (ds_ret (de_cmp (op_own A.ok_Half_eq hr (by decide) hgd) (s2_own (base := base) (P := P) (w := w) rfl A.ok_Half_eq) (dv 0) (dv 1) (nomark _)))) dss_nil)
 (dss_cons (ds_set (i := 2) hN rfl (de_if (dt_val (de_callB call_isi (sn_isi A.isi) rfl A.f_isinstance bt_isinstance (da_cons (dv 0) (da_cons (de_cls rfl A.g_Half) da_nil)))) (de_callD A.ok_kinds_of_half hr (by decide) hgd rfl (takes_of rfl rfl rfl rfl) (da_cons (dv 0) (da_cons de_bl da_nil))) (de_fldD A.fl_Table_truths (dv 0))))
 (dss_cons (ds_set (i := 3) hN rfl (de_if (dt_val (de_callB call_isi (sn_isi A.isi) rfl A.f_isinstance bt_isinstance (da_cons (dv 1) (da_cons (de_cls rfl A.g_Half) da_nil)))) (de_callD A.ok_kinds_of_half hr (by decide) hgd rfl (takes_of rfl rfl rfl rfl) (da_cons (dv 1) (da_cons de_bl da_nil))) (de_fldD A.fl_Table_truths (dv 1))))
 (dss_one (ds_ret (de_callB (cr_all rfl) sn_all rfl A.f_all bt_all (da_cons (de_lc rfl hN (di_range1 (by rfl) A.f_range (da_cons de_int da_nil)) (blkOk_by (own := [("kind", 4)]) (by show blkC N_is_within (defScope (top 35)) _ _ = true; decide +kernel)) (lcg_name (by decide)) (fun _ _ _ _ _ => (pg_name hN rfl (by first | exact Or.inl rfl | exact Or.inr rfl) (by first | exact .inl rfl | exact .inr rfl))) (fun _ _ _ _ _ => (dts_one (dt_val (de_item (dv 2) (dv 4))))) (fun _ _ _ _ _ => (de_item (dv 3) (dv 4)))) da_nil)))))))
theorem Hd.ok_is_within (A : Hd K mg) : CallD P w K mg base 4 "is_within" ["one", "other"] sp_is_within := by
  obtain ⟨fd, F⟩ := A.c.def_ 5
  exact ⟨_, fd, A.g_is_within, F.kp, F.bindsN fun _ _ _ _ _ _ us hl => match us, hl with | [_, _], _ => rfl, def_ok F sc_is_within (fun ds μ Q Xd h => h.1) (fun cdv A2 fr s H E hr hgd => d_is_within A hr hgd) fun ds μ Q Xd h => h.2⟩
/-! Rule_le -/
abbrev N_Rule_le : List Str := ["self", "other"]
theorem sc_Rule_le : FnScope N_Rule_le ["self", "other"] (defScope (inClass (top 27) 1)) := ⟨rfl, rfl, rfl, by decide +kernel, rfl, by decide +kernel, by decide +kernel⟩
def w_Rule_le : WS := (sSeq (sIf (wNot (wB (wN (fIsi isiT) (wCons (wVar 1) (wCons (wC (.cls "Rule")) wNil)))))
  sNever
  sNext)
 (sRet (wCall sp_is_within (wCons (wVar 0) (wCons (wVar 1) wNil)))))
def sp_Rule_le : DSp := fun ds μ Q Xd => ds.length = 2 ∧ w_Rule_le (defE Q Xd) (startD N_Rule_le ds) μ
theorem d_Rule_le (A : Hd K mg) {cdv : Value} {A2 : Around} {fr : List Env} {s : Shared} {H : Hp} {E : XK} {f : Addr} (hr : Room 4 (A2.deeper (envOfC "Rule.__le__" (defScope (inClass (top 27) 1)) s.heap.objs.size f cdv))) (hgd : (A2.deeper (envOfC "Rule.__le__" (defScope (inClass (top 27) 1)) s.heap.objs.size f cdv)).guards = some []) :
    DSs none (fun cls d _ H2 => E cls d H2) (cxOf (L2.CX P w) P w K mg base N_Rule_le "Rule.__le__" (defScope (inClass (top 27) 1)) f cdv A2 fr s H E) (defBody (inClass (top 27) 1)) w_Rule_le := by
  have hN := (sc_Rule_le).nd
  exact (dss_cons (ds_if (dt_not (dt_val (de_callB call_isi (sn_isi A.isi) rfl A.f_isinstance bt_isinstance (da_cons (dv 1) (da_cons (de_cls rfl A.g_Rule) da_nil))))) (dss_one ds_never) dss_nil)
 (dss_one (ds_ret (de_callD A.ok_is_within hr (by decide) hgd rfl (takes_of rfl rfl rfl rfl) (da_cons (dv 0) (da_cons (dv 1) da_nil))))))
theorem Hd.cu_Rule_le_Half (A : Hd K mg) : CmpD P w K mg base 5 "Half" "__le__" [] ["Table", "Half"] ["self", "other"] sp_Rule_le := by
  obtain ⟨fd, F⟩ := A.c.def_ 6
  obtain ⟨h, X, G⟩ := A.ex
  exact cmpUD_of X G (He.ba (He.ba (He.ba (He.ba (He.ba (He.ba (He.ba (He.ba A.more).2).2).2).2).2).2).2).1 (F.bindsN fun _ _ _ _ _ _ us hl => match us, hl with | [_, _], _ => rfl) (def_ok F sc_Rule_le (fun ds μ Q Xd h => h.1) (fun cdv A2 fr s H E hr hgd => d_Rule_le A hr hgd) fun ds μ Q Xd h => h.2)
theorem Hd.cu_Rule_le_Table (A : Hd K mg) : CmpD P w K mg base 5 "Table" "__le__" [] ["Table", "Half"] ["self", "other"] sp_Rule_le := by
  obtain ⟨fd, F⟩ := A.c.def_ 6
  obtain ⟨h, X, G⟩ := A.ex
  exact cmpUD_of X G (He.ba (He.ba (He.ba (He.ba (He.ba (He.ba (He.ba (He.ba A.more).2).2).2).2).2).2).2).2 (F.bindsN fun _ _ _ _ _ _ us hl => match us, hl with | [_, _], _ => rfl) (def_ok F sc_Rule_le (fun ds μ Q Xd h => h.1) (fun cdv A2 fr s H E hr hgd => d_Rule_le A hr hgd) fun ds μ Q Xd h => h.2)
/-! _law_arc -/
abbrev N__law_arc : List Str := ["start", "kind"]
theorem sc__law_arc : FnScope N__law_arc ["start"] (defScope (top 51)) := ⟨rfl, rfl, rfl, by decide +kernel, rfl, by decide +kernel, by decide +kernel⟩
def w__law_arc : WS := (sRet (wLc (wiR1 (wCons (wC (.int (8))) wNil)) (kNameC 1) wYes (w2 fLt (w2 fMod (w2 fSub (wVar 1) (wVar 0)) (wC (.int (8)))) (wC (.int (4)))) [1]))
def sp__law_arc : DSp := fun ds μ Q Xd => ds.length = 1 ∧ w__law_arc (defE Q Xd) (startD N__law_arc ds) μ
theorem d__law_arc (A : Hd K mg) {cdv : Value} {A2 : Around} {fr : List Env} {s : Shared} {H : Hp} {E : XK} {f : Addr} (hr : Room 0 (A2.deeper (envOfC "_law_arc" (defScope (top 51)) s.heap.objs.size f cdv))) (hgd : (A2.deeper (envOfC "_law_arc" (defScope (top 51)) s.heap.objs.size f cdv)).guards = some []) :
    DSs none (fun cls d _ H2 => E cls d H2) (cxOf (L2.CX P w) P w K mg base N__law_arc "_law_arc" (defScope (top 51)) f cdv A2 fr s H E) (defBody (top 51)) w__law_arc := by
  have hN := (sc__law_arc).nd
  exact (dss_one (ds_ret (de_lc rfl hN (di_range1 (by rfl) A.f_range (da_cons de_int da_nil)) (blkOk_by (own := [("kind", 1)]) (by show blkC N__law_arc (defScope (top 51)) _ _ = true; decide +kernel)) (lcg_name (by decide)) (fun _ _ _ _ _ => (pg_name hN rfl (by first | exact Or.inl rfl | exact Or.inr rfl) (by first | exact .inl rfl | exact .inr rfl))) (fun _ _ _ _ _ => dts_nil) (fun _ _ _ _ _ => (de_cmp op_lt s2_IB (de_mod (de_sub (dv 1) (dv 0)) de_int) de_int (nomark _))))))
theorem Hd.ok__law_arc (A : Hd K mg) : CallD P w K mg base 1 "_law_arc" ["start"] sp__law_arc := by
  obtain ⟨fd, F⟩ := A.c.def_ 7
  exact ⟨_, fd, A.g__law_arc, F.kp, F.bindsN fun _ _ _ _ _ _ us hl => match us, hl with | [_], _ => rfl, def_ok F sc__law_arc (fun ds μ Q Xd h => h.1) (fun cdv A2 fr s H E hr hgd => d__law_arc A hr hgd) fun ds μ Q Xd h => h.2⟩
/-! Table_eq -/
abbrev N_Table_eq : List Str := ["self", "other"]
theorem sc_Table_eq : FnScope N_Table_eq ["self", "other"] (defScope (inClass (top 29) 5)) := ⟨rfl, rfl, rfl, by decide +kernel, rfl, by decide +kernel, by decide +kernel⟩
def w_Table_eq : WS := (sRet (wAndV (wN (fIsi isiT) (wCons (wVar 1) (wCons (wC (.cls "Table")) wNil))) (w2 fEqU (w1 (fFld "Table" "truths") (wVar 0)) (w1 (fFld "Table" "truths") (wVar 1)))))
def sp_Table_eq : DSp := fun ds μ Q Xd => ds.length = 2 ∧ w_Table_eq (defE Q Xd) (startD N_Table_eq ds) μ
theorem d_Table_eq (A : Hd K mg) {cdv : Value} {A2 : Around} {fr : List Env} {s : Shared} {H : Hp} {E : XK} {f : Addr} (hr : Room 0 (A2.deeper (envOfC "Table.__eq__" (defScope (inClass (top 29) 5)) s.heap.objs.size f cdv))) (hgd : (A2.deeper (envOfC "Table.__eq__" (defScope (inClass (top 29) 5)) s.heap.objs.size f cdv)).guards = some []) :
    DSs none (fun cls d _ H2 => E cls d H2) (cxOf (L2.CX P w) P w K mg base N_Table_eq "Table.__eq__" (defScope (inClass (top 29) 5)) f cdv A2 fr s H E) (defBody (inClass (top 29) 5)) w_Table_eq := by
  have hN := (sc_Table_eq).nd
  exact (dss_one (ds_ret (de_and (de_callB call_isi (sn_isi A.isi) rfl A.f_isinstance bt_isinstance (da_cons (dv 1) (da_cons (de_cls rfl A.g_Table) da_nil))) (de_one (de_cmp (op_eqU (have z := room64 hr; z)) s2_eqU (de_fldD A.fl_Table_truths (dv 0)) (de_fldD A.fl_Table_truths (dv 1)) (nomark _))))))
theorem Hd.ok_Table_eq (A : Hd K mg) : CmpD P w K mg base 1 "Table" "__eq__" [] ["Table", "Half"] ["self", "other"] sp_Table_eq := by
  obtain ⟨fd, F⟩ := A.c.def_ 8
  obtain ⟨h, X, G⟩ := A.ex
  exact cmpD_of X G (He.ba (He.ba (He.ba A.more).2).2).1 (F.bindsN fun _ _ _ _ _ _ us hl => match us, hl with | [_, _], _ => rfl) (def_ok F sc_Table_eq (fun ds μ Q Xd h => h.1) (fun cdv A2 fr s H E hr hgd => d_Table_eq A hr hgd) fun ds μ Q Xd h => h.2)
/-! _law_both -/
abbrev N__law_both : List Str := ["one", "other", "back"]
theorem sc__law_both : FnScope N__law_both ["one", "other", "back"] (defScope (top 50)) := ⟨rfl, rfl, rfl, by decide +kernel, rfl, by decide +kernel, by decide +kernel⟩
def w__law_both : WS := (sRet (wAndV (w2 (F2.or (fOwn "Table" [] ["Table", "Half"] sp_Rule_le) (fOwn "Half" [] ["Table", "Half"] sp_Rule_le)) (wVar 0) (wVar 1)) (wAndV (w2 (F2.or (fOwn "Table" [] ["Table", "Half"] sp_Rule_le) (fOwn "Half" [] ["Table", "Half"] sp_Rule_le)) (wVar 1) (wVar 0)) (w2 (F2.or (fOwn "Table" [] ["Table", "Half"] sp_Table_eq) (fOwn "Half" [] ["Half", "Table"] sp_Half_eq)) (wVar 2) (wVar 1)))))
def sp__law_both : DSp := fun ds μ Q Xd => ds.length = 3 ∧ w__law_both (defE Q Xd) (startD N__law_both ds) μ
theorem d__law_both (A : Hd K mg) {cdv : Value} {A2 : Around} {fr : List Env} {s : Shared} {H : Hp} {E : XK} {f : Addr} (hr : Room 5 (A2.deeper (envOfC "_law_both" (defScope (top 50)) s.heap.objs.size f cdv))) (hgd : (A2.deeper (envOfC "_law_both" (defScope (top 50)) s.heap.objs.size f cdv)).guards = some []) :
    DSs none (fun cls d _ H2 => E cls d H2) (cxOf (L2.CX P w) P w K mg base N__law_both "_law_both" (defScope (top 50)) f cdv A2 fr s H E) (defBody (top 50)) w__law_both := by
  have hN := (sc__law_both).nd
  exact (dss_one (ds_ret (de_and (de_cmp (opR_or (op_own A.cu_Rule_le_Table hr (by decide) hgd) (op_own A.cu_Rule_le_Half hr (by decide) hgd)) (s2_or (s2_own (base := base) (P := P) (w := w) rfl A.cu_Rule_le_Table) (s2_own (base := base) (P := P) (w := w) rfl A.cu_Rule_le_Half)) (dv 0) (dv 1) (nomark _)) (de_and (de_cmp (opR_or (op_own A.cu_Rule_le_Table hr (by decide) hgd) (op_own A.cu_Rule_le_Half hr (by decide) hgd)) (s2_or (s2_own (base := base) (P := P) (w := w) rfl A.cu_Rule_le_Table) (s2_own (base := base) (P := P) (w := w) rfl A.cu_Rule_le_Half)) (dv 1) (dv 0) (nomark _)) (de_one (de_cmp (opR_or (op_own A.ok_Table_eq hr (by decide) hgd) (op_own A.ok_Half_eq hr (by decide) hgd)) (s2_or (s2_own (base := base) (P := P) (w := w) rfl A.ok_Table_eq) (s2_own (base := base) (P := P) (w := w) rfl A.ok_Half_eq)) (dv 2) (dv 1) (nomark _)))))))
theorem Hd.ok__law_both (A : Hd K mg) : CallD P w K mg base 6 "_law_both" ["one", "other", "back"] sp__law_both := by
  obtain ⟨fd, F⟩ := A.c.def_ 9
  exact ⟨_, fd, A.g__law_both, F.kp, F.bindsN fun _ _ _ _ _ _ us hl => match us, hl with | [_, _, _], _ => rfl, def_ok F sc__law_both (fun ds μ Q Xd h => h.1) (fun cdv A2 fr s H E hr hgd => d__law_both A hr hgd) fun ds μ Q Xd h => h.2⟩
/-! _law_half_in -/
abbrev N__law_half_in : List Str := ["n", "tie_in", "d", "at"]
theorem sc__law_half_in : FnScope N__law_half_in ["n", "tie_in", "d"] (defScope (top 43)) := ⟨rfl, rfl, rfl, by decide +kernel, rfl, by decide +kernel, by decide +kernel⟩
def w__law_half_in : WS := (sSeq (sSet 3 (w2 fSub (w2 fTimes (w2 fIx (wVar 0) (wC (.int (0)))) (w2 fIx (wVar 2) (wC (.int (1))))) (w2 fTimes (w2 fIx (wVar 0) (wC (.int (1)))) (w2 fIx (wVar 2) (wC (.int (0)))))))
 (sSeq (sIf (wB (w2 fNeU (wVar 3) (wC (.int (0)))))
  (sRet (w2 fGt (wVar 3) (wC (.int (0)))))
  sNext)
 (sRet (w2 fEqU (w2 fGt (w2 fPlus (w2 fTimes (w2 fIx (wVar 0) (wC (.int (0)))) (w2 fIx (wVar 2) (wC (.int (0))))) (w2 fTimes (w2 fIx (wVar 0) (wC (.int (1)))) (w2 fIx (wVar 2) (wC (.int (1)))))) (wC (.int (0)))) (wVar 1)))))
def sp__law_half_in : DSp := fun ds μ Q Xd => ds.length = 3 ∧ w__law_half_in (defE Q Xd) (startD N__law_half_in ds) μ
theorem d__law_half_in (A : Hd K mg) {cdv : Value} {A2 : Around} {fr : List Env} {s : Shared} {H : Hp} {E : XK} {f : Addr} (hr : Room 0 (A2.deeper (envOfC "_law_half_in" (defScope (top 43)) s.heap.objs.size f cdv))) (hgd : (A2.deeper (envOfC "_law_half_in" (defScope (top 43)) s.heap.objs.size f cdv)).guards = some []) :
    DSs none (fun cls d _ H2 => E cls d H2) (cxOf (L2.CX P w) P w K mg base N__law_half_in "_law_half_in" (defScope (top 43)) f cdv A2 fr s H E) (defBody (top 43)) w__law_half_in := by
  have hN := (sc__law_half_in).nd
  exact (dss_cons (ds_set (i := 3) hN rfl (de_sub (de_times (de_item (dv 0) de_int) (de_item (dv 2) de_int)) (de_times (de_item (dv 0) de_int) (de_item (dv 2) de_int))))
 (dss_cons (ds_if (dt_cmp (op_neU (have z := room64 hr; z)) s2_neU (dv 3) de_int (nomark _)) (dss_one (ds_ret (de_cmp op_gt s2_IB (dv 3) de_int (nomark _)))) dss_nil)
 (dss_one (ds_ret (de_cmp (op_eqU (have z := room64 hr; z)) s2_eqU (de_cmp op_gt s2_IB (de_plus (de_times (de_item (dv 0) de_int) (de_item (dv 2) de_int)) (de_times (de_item (dv 0) de_int) (de_item (dv 2) de_int))) de_int (nomark _)) (dv 1) (nomark _))))))
theorem Hd.ok__law_half_in (A : Hd K mg) : CallD P w K mg base 1 "_law_half_in" ["n", "tie_in", "d"] sp__law_half_in := by
  obtain ⟨fd, F⟩ := A.c.def_ 10
  exact ⟨_, fd, A.g__law_half_in, F.kp, F.bindsN fun _ _ _ _ _ _ us hl => match us, hl with | [_, _, _], _ => rfl, def_ok F sc__law_half_in (fun ds μ Q Xd h => h.1) (fun cdv A2 fr s H E hr hgd => d__law_half_in A hr hgd) fun ds μ Q Xd h => h.2⟩
/-! _law_kind -/
abbrev N__law_kind : List Str := ["d", "signs"]
theorem sc__law_kind : FnScope N__law_kind ["d"] (defScope (top 42)) := ⟨rfl, rfl, rfl, by decide +kernel, rfl, by decide +kernel, by decide +kernel⟩
def w__law_kind : WS := (sSeq (sSet 1 (wLst (wCons (wTup (wCons (wC (.int (1))) (wCons (wC (.int (0))) wNil))) (wCons (wTup (wCons (wC (.int (1))) (wCons (wC (.int (1))) wNil))) (wCons (wTup (wCons (wC (.int (0))) (wCons (wC (.int (1))) wNil))) (wCons (wTup (wCons (w1 fNeg (wC (.int (1)))) (wCons (wC (.int (1))) wNil))) (wCons (wTup (wCons (w1 fNeg (wC (.int (1)))) (wCons (wC (.int (0))) wNil))) (wCons (wTup (wCons (w1 fNeg (wC (.int (1)))) (wCons (w1 fNeg (wC (.int (1)))) wNil))) (wCons (wTup (wCons (wC (.int (0))) (wCons (w1 fNeg (wC (.int (1)))) wNil))) (wCons (wTup (wCons (wC (.int (1))) (wCons (w1 fNeg (wC (.int (1)))) wNil))) wNil))))))))))
 (sRet (wMb fIdx (wVar 1) (wTup (wCons (w2 fSub (wN fInt1 (wCons (w2 fGt (w2 fIx (wVar 0) (wC (.int (0)))) (wC (.int (0)))) wNil)) (wN fInt1 (wCons (w2 fLt (w2 fIx (wVar 0) (wC (.int (0)))) (wC (.int (0)))) wNil))) (wCons (w2 fSub (wN fInt1 (wCons (w2 fGt (w2 fIx (wVar 0) (wC (.int (1)))) (wC (.int (0)))) wNil)) (wN fInt1 (wCons (w2 fLt (w2 fIx (wVar 0) (wC (.int (1)))) (wC (.int (0)))) wNil))) wNil))))))
def sp__law_kind : DSp := fun ds μ Q Xd => ds.length = 1 ∧ w__law_kind (defE Q Xd) (startD N__law_kind ds) μ
theorem d__law_kind (A : Hd K mg) {cdv : Value} {A2 : Around} {fr : List Env} {s : Shared} {H : Hp} {E : XK} {f : Addr} (hr : Room 0 (A2.deeper (envOfC "_law_kind" (defScope (top 42)) s.heap.objs.size f cdv))) (hgd : (A2.deeper (envOfC "_law_kind" (defScope (top 42)) s.heap.objs.size f cdv)).guards = some []) :
    DSs none (fun cls d _ H2 => E cls d H2) (cxOf (L2.CX P w) P w K mg base N__law_kind "_law_kind" (defScope (top 42)) f cdv A2 fr s H E) (defBody (top 42)) w__law_kind := by
  have hN := (sc__law_kind).nd
  exact (dss_cons (ds_set (i := 1) hN rfl (de_lst (da_cons (de_tup (da_cons de_int (da_cons de_int da_nil))) (da_cons (de_tup (da_cons de_int (da_cons de_int da_nil))) (da_cons (de_tup (da_cons de_int (da_cons de_int da_nil))) (da_cons (de_tup (da_cons (de_neg de_int) (da_cons de_int da_nil))) (da_cons (de_tup (da_cons (de_neg de_int) (da_cons de_int da_nil))) (da_cons (de_tup (da_cons (de_neg de_int) (da_cons (de_neg de_int) da_nil))) (da_cons (de_tup (da_cons de_int (da_cons (de_neg de_int) da_nil))) (da_cons (de_tup (da_cons de_int (da_cons (de_neg de_int) da_nil))) da_nil))))))))))
 (dss_one (ds_ret (de_idx (have z := room65 hr; z) (dv 1) (de_tup (da_cons (de_sub (de_callTy call_int1 sn_int1 rfl A.f_int bt_int (da_cons (de_cmp op_gt s2_IB (de_item (dv 0) de_int) de_int (nomark _)) da_nil)) (de_callTy call_int1 sn_int1 rfl A.f_int bt_int (da_cons (de_cmp op_lt s2_IB (de_item (dv 0) de_int) de_int (nomark _)) da_nil))) (da_cons (de_sub (de_callTy call_int1 sn_int1 rfl A.f_int bt_int (da_cons (de_cmp op_gt s2_IB (de_item (dv 0) de_int) de_int (nomark _)) da_nil)) (de_callTy call_int1 sn_int1 rfl A.f_int bt_int (da_cons (de_cmp op_lt s2_IB (de_item (dv 0) de_int) de_int (nomark _)) da_nil))) da_nil)))))))
theorem Hd.ok__law_kind (A : Hd K mg) : CallD P w K mg base 1 "_law_kind" ["d"] sp__law_kind := by
  obtain ⟨fd, F⟩ := A.c.def_ 11
  exact ⟨_, fd, A.g__law_kind, F.kp, F.bindsN fun _ _ _ _ _ _ us hl => match us, hl with | [_], _ => rfl, def_ok F sc__law_kind (fun ds μ Q Xd h => h.1) (fun cdv A2 fr s H E hr hgd => d__law_kind A hr hgd) fun ds μ Q Xd h => h.2⟩
/-! _law_in -/
abbrev N__law_in : List Str := ["told_rule", "d"]
theorem sc__law_in : FnScope N__law_in ["told_rule", "d"] (defScope (top 46)) := ⟨rfl, rfl, rfl, by decide +kernel, rfl, by decide +kernel, by decide +kernel⟩
def w__law_in : WS := (sSeq (sIf (wB (w2 fEqU (w2 fIx (wVar 0) (wC (.int (0)))) (wC (.str "table"))))
  (sRet (w2 fIx (w2 fIx (wVar 0) (wC (.int (1)))) (wCall sp__law_kind (wCons (wVar 1) wNil))))
  sNext)
 (sRet (wCall sp__law_half_in (wCons (w2 fIx (wVar 0) (wC (.int (1)))) (wCons (w2 fIx (wVar 0) (wC (.int (2)))) (wCons (wVar 1) wNil))))))
def sp__law_in : DSp := fun ds μ Q Xd => ds.length = 2 ∧ w__law_in (defE Q Xd) (startD N__law_in ds) μ
theorem d__law_in (A : Hd K mg) {cdv : Value} {A2 : Around} {fr : List Env} {s : Shared} {H : Hp} {E : XK} {f : Addr} (hr : Room 1 (A2.deeper (envOfC "_law_in" (defScope (top 46)) s.heap.objs.size f cdv))) (hgd : (A2.deeper (envOfC "_law_in" (defScope (top 46)) s.heap.objs.size f cdv)).guards = some []) :
    DSs none (fun cls d _ H2 => E cls d H2) (cxOf (L2.CX P w) P w K mg base N__law_in "_law_in" (defScope (top 46)) f cdv A2 fr s H E) (defBody (top 46)) w__law_in := by
  have hN := (sc__law_in).nd
  exact (dss_cons (ds_if (dt_cmp (op_eqU (have z := room64 hr; z)) s2_eqU (de_item (dv 0) de_int) de_str (nomark _)) (dss_one (ds_ret (de_item (de_item (dv 0) de_int) (de_callD A.ok__law_kind hr (by decide) hgd rfl (takes_of rfl rfl rfl rfl) (da_cons (dv 1) da_nil))))) dss_nil)
 (dss_one (ds_ret (de_callD A.ok__law_half_in hr (by decide) hgd rfl (takes_of rfl rfl rfl rfl) (da_cons (de_item (dv 0) de_int) (da_cons (de_item (dv 0) de_int) (da_cons (dv 1) da_nil)))))))
theorem Hd.ok__law_in (A : Hd K mg) : CallD P w K mg base 2 "_law_in" ["told_rule", "d"] sp__law_in := by
  obtain ⟨fd, F⟩ := A.c.def_ 12
  exact ⟨_, fd, A.g__law_in, F.kp, F.bindsN fun _ _ _ _ _ _ us hl => match us, hl with | [_, _], _ => rfl, def_ok F sc__law_in (fun ds μ Q Xd h => h.1) (fun cdv A2 fr s H E hr hgd => d__law_in A hr hgd) fun ds μ Q Xd h => h.2⟩
/-! _law_lines -/
abbrev N__law_lines : List Str := ["told_rule", "n", "near", "found", "x", "y", "one"]
theorem sc__law_lines : FnScope N__law_lines ["told_rule"] (defScope (top 48)) := ⟨rfl, rfl, rfl, by decide +kernel, rfl, by decide +kernel, by decide +kernel⟩
def w__law_lines : WS := (sSeq (sIf (wB (w2 fEqU (w2 fIx (wVar 0) (wC (.int (0)))) (wC (.str "table"))))
  (sRet (wLst wNil))
  sNext)
 (sSeq (sSet 1 (w2 fIx (wVar 0) (wC (.int (1)))))
 (sSeq (sSet 2 (wLst (wCons (wVar 1) (wCons (wTup (wCons (w1 fNeg (w2 fIx (wVar 1) (wC (.int (0))))) (wCons (w1 fNeg (w2 fIx (wVar 1) (wC (.int (1))))) wNil))) wNil))))
 (sSeq (sSet 3 (wN fListOf (wCons (wVar 2) wNil)))
 (sSeq (sFor (wiL (wLst (wCons (wTup (wCons (wC (.int (1))) (wCons (wC (.int (0))) wNil))) (wCons (wTup (wCons (w1 fNeg (wC (.int (1)))) (wCons (wC (.int (0))) wNil))) (wCons (wTup (wCons (wC (.int (0))) (wCons (wC (.int (1))) wNil))) (wCons (wTup (wCons (wC (.int (0))) (wCons (w1 fNeg (wC (.int (1)))) wNil))) wNil)))))) (kTup 2 (kCons (kName 4) (kCons (kName 5) kNil)))
  (sSet 3 (w2 fPlus (wVar 3) (wLc (wiL (wVar 2)) (kNameC 6) wYes (wTup (wCons (w2 fPlus (w2 fTimes (w2 fIx (wVar 6) (wC (.int (0)))) (wC (.int (40)))) (wVar 4)) (wCons (w2 fPlus (w2 fTimes (w2 fIx (wVar 6) (wC (.int (1)))) (wC (.int (40)))) (wVar 5)) wNil))) [6]))))
 (sRet (wVar 3)))))))
def sp__law_lines : DSp := fun ds μ Q Xd => ds.length = 1 ∧ w__law_lines (defE Q Xd) (startD N__law_lines ds) μ
theorem d__law_lines (A : Hd K mg) {cdv : Value} {A2 : Around} {fr : List Env} {s : Shared} {H : Hp} {E : XK} {f : Addr} (hr : Room 0 (A2.deeper (envOfC "_law_lines" (defScope (top 48)) s.heap.objs.size f cdv))) (hgd : (A2.deeper (envOfC "_law_lines" (defScope (top 48)) s.heap.objs.size f cdv)).guards = some []) :
    DSs none (fun cls d _ H2 => E cls d H2) (cxOf (L2.CX P w) P w K mg base N__law_lines "_law_lines" (defScope (top 48)) f cdv A2 fr s H E) (defBody (top 48)) w__law_lines := by
  have hN := (sc__law_lines).nd
  exact (dss_cons (ds_if (dt_cmp (op_eqU (have z := room64 hr; z)) s2_eqU (de_item (dv 0) de_int) de_str (nomark _)) (dss_one (ds_ret (de_lst da_nil))) dss_nil)
 (dss_cons (ds_set (i := 1) hN rfl (de_item (dv 0) de_int))
 (dss_cons (ds_set (i := 2) hN rfl (de_lst (da_cons (dv 1) (da_cons (de_tup (da_cons (de_neg (de_item (dv 1) de_int)) (da_cons (de_neg (de_item (dv 1) de_int)) da_nil))) da_nil))))
 (dss_cons (ds_set (i := 3) hN rfl (de_callTy call_list_of sn_listOf rfl A.f_list bt_list (da_cons (dv 2) da_nil)))
 (dss_cons (ds_for (passes_of rfl) rfl (di_list (de_lst (da_cons (de_tup (da_cons de_int (da_cons de_int da_nil))) (da_cons (de_tup (da_cons (de_neg de_int) (da_cons de_int da_nil))) (da_cons (de_tup (da_cons de_int (da_cons de_int da_nil))) (da_cons (de_tup (da_cons de_int (da_cons (de_neg de_int) da_nil))) da_nil)))))) (dg_tup rfl (dgs_cons (dg_name hN rfl) (dgs_cons (dg_name hN rfl) dgs_nil))) (dss_one (ds_set (i := 3) hN rfl (de_plus (dv 3) (de_lc rfl hN (di_list (dv 2)) (blkOk_by (own := [("one", 6)]) (by show blkC N__law_lines (defScope (top 48)) _ _ = true; decide +kernel)) (lcg_name (by decide)) (fun _ _ _ _ _ => (pg_name hN rfl (by first | exact Or.inl rfl | exact Or.inr rfl) (by first | exact .inl rfl | exact .inr rfl))) (fun _ _ _ _ _ => dts_nil) (fun _ _ _ _ _ => (de_tup (da_cons (de_plus (de_times (de_item (dv 6) de_int) de_int) (dv 4)) (da_cons (de_plus (de_times (de_item (dv 6) de_int) de_int) (dv 5)) da_nil)))))))))
 (dss_one (ds_ret (dv 3))))))))
theorem Hd.ok__law_lines (A : Hd K mg) : CallD P w K mg base 1 "_law_lines" ["told_rule"] sp__law_lines := by
  obtain ⟨fd, F⟩ := A.c.def_ 13
  exact ⟨_, fd, A.g__law_lines, F.kp, F.bindsN fun _ _ _ _ _ _ us hl => match us, hl with | [_], _ => rfl, def_ok F sc__law_lines (fun ds μ Q Xd h => h.1) (fun cdv A2 fr s H E hr hgd => d__law_lines A hr hgd) fun ds μ Q Xd h => h.2⟩
/-! _law_due -/
abbrev N__law_due : List Str := ["one", "other", "ways", "way"]
theorem sc__law_due : FnScope N__law_due ["one", "other"] (defScope (top 49)) := ⟨rfl, rfl, rfl, by decide +kernel, rfl, by decide +kernel, by decide +kernel⟩
def w__law_due : WS := (sSeq (sSet 2 (wLst (wCons (wTup (wCons (wC (.int (1))) (wCons (wC (.int (0))) wNil))) (wCons (wTup (wCons (wC (.int (5))) (wCons (wC (.int (3))) wNil))) (wCons (wTup (wCons (wC (.int (0))) (wCons (wC (.int (1))) wNil))) (wCons (wTup (wCons (w1 fNeg (wC (.int (3)))) (wCons (wC (.int (5))) wNil))) (wCons (wTup (wCons (w1 fNeg (wC (.int (1)))) (wCons (wC (.int (0))) wNil))) (wCons (wTup (wCons (w1 fNeg (wC (.int (5)))) (wCons (w1 fNeg (wC (.int (3)))) wNil))) (wCons (wTup (wCons (wC (.int (0))) (wCons (w1 fNeg (wC (.int (1)))) wNil))) (wCons (wTup (wCons (wC (.int (3))) (wCons (w1 fNeg (wC (.int (5)))) wNil))) (wCons (wTup (wCons (wC (.int (2))) (wCons (wC (.int (7))) wNil))) (wCons (wTup (wCons (w1 fNeg (wC (.int (7)))) (wCons (wC (.int (2))) wNil))) (wCons (wTup (wCons (w1 fNeg (wC (.int (2)))) (wCons (w1 fNeg (wC (.int (7)))) wNil))) (wCons (wTup (wCons (wC (.int (7))) (wCons (w1 fNeg (wC (.int (2)))) wNil))) wNil))))))))))))))
 (sSeq (sSet 2 (w2 fPlus (w2 fPlus (wVar 2) (wCall sp__law_lines (wCons (wVar 0) wNil))) (wCall sp__law_lines (wCons (wVar 1) wNil))))
 (sSeq (sSet 2 (w2 fPlus (wVar 2) (wLst (wCons (wTup (wCons (wC (.int (1))) (wCons (wC (.int (90))) wNil))) (wCons (wTup (wCons (wC (.int (90))) (wCons (wC (.int (1))) wNil))) (wCons (wTup (wCons (w1 fNeg (wC (.int (1)))) (wCons (wC (.int (90))) wNil))) (wCons (wTup (wCons (w1 fNeg (wC (.int (90)))) (wCons (wC (.int (1))) wNil))) (wCons (wTup (wCons (w1 fNeg (wC (.int (1)))) (wCons (w1 fNeg (wC (.int (90)))) wNil))) (wCons (wTup (wCons (w1 fNeg (wC (.int (90)))) (wCons (w1 fNeg (wC (.int (1)))) wNil))) (wCons (wTup (wCons (wC (.int (1))) (wCons (w1 fNeg (wC (.int (90)))) wNil))) (wCons (wTup (wCons (wC (.int (90))) (wCons (w1 fNeg (wC (.int (1)))) wNil))) wNil)))))))))))
 (sRet (w2 fNotInD (wC (.bl false)) (wLc (wiL (wVar 2)) (kNameC 3) (wB (wCall sp__law_in (wCons (wVar 0) (wCons (wVar 3) wNil)))) (wCall sp__law_in (wCons (wVar 1) (wCons (wVar 3) wNil))) [3]))))))
def sp__law_due : DSp := fun ds μ Q Xd => ds.length = 2 ∧ w__law_due (defE Q Xd) (startD N__law_due ds) μ
theorem d__law_due (A : Hd K mg) {cdv : Value} {A2 : Around} {fr : List Env} {s : Shared} {H : Hp} {E : XK} {f : Addr} (hr : Room 2 (A2.deeper (envOfC "_law_due" (defScope (top 49)) s.heap.objs.size f cdv))) (hgd : (A2.deeper (envOfC "_law_due" (defScope (top 49)) s.heap.objs.size f cdv)).guards = some []) :
    DSs none (fun cls d _ H2 => E cls d H2) (cxOf (L2.CX P w) P w K mg base N__law_due "_law_due" (defScope (top 49)) f cdv A2 fr s H E) (defBody (top 49)) w__law_due := by
  have hN := (sc__law_due).nd
  exact (dss_cons (ds_set (i := 2) hN rfl (de_lst (da_cons (de_tup (da_cons de_int (da_cons de_int da_nil))) (da_cons (de_tup (da_cons de_int (da_cons de_int da_nil))) (da_cons (de_tup (da_cons de_int (da_cons de_int da_nil))) (da_cons (de_tup (da_cons (de_neg de_int) (da_cons de_int da_nil))) (da_cons (de_tup (da_cons (de_neg de_int) (da_cons de_int da_nil))) (da_cons (de_tup (da_cons (de_neg de_int) (da_cons (de_neg de_int) da_nil))) (da_cons (de_tup (da_cons de_int (da_cons (de_neg de_int) da_nil))) (da_cons (de_tup (da_cons de_int (da_cons (de_neg de_int) da_nil))) (da_cons (de_tup (da_cons de_int (da_cons de_int da_nil))) (da_cons (de_tup (da_cons (de_neg de_int) (da_cons de_int da_nil))) (da_cons (de_tup (da_cons (de_neg de_int) (da_cons (de_neg de_int) da_nil))) (da_cons (de_tup (da_cons de_int (da_cons (de_neg de_int) da_nil))) da_nil))))))))))))))
 (dss_cons (ds_set (i := 2) hN rfl (de_plus (de_plus (dv 2) (de_callD A.ok__law_lines hr (by decide) hgd rfl (takes_of rfl rfl rfl rfl) (da_cons (dv 0) da_nil))) (de_callD A.ok__law_lines hr (by decide) hgd rfl (takes_of rfl rfl rfl rfl) (da_cons (dv 1) da_nil))))
 (dss_cons (ds_set (i := 2) hN rfl (de_plus (dv 2) (de_lst (da_cons (de_tup (da_cons de_int (da_cons de_int da_nil))) (da_cons (de_tup (da_cons de_int (da_cons de_int da_nil))) (da_cons (de_tup (da_cons (de_neg de_int) (da_cons de_int da_nil))) (da_cons (de_tup (da_cons (de_neg de_int) (da_cons de_int da_nil))) (da_cons (de_tup (da_cons (de_neg de_int) (da_cons (de_neg de_int) da_nil))) (da_cons (de_tup (da_cons (de_neg de_int) (da_cons (de_neg de_int) da_nil))) (da_cons (de_tup (da_cons de_int (da_cons (de_neg de_int) da_nil))) (da_cons (de_tup (da_cons de_int (da_cons (de_neg de_int) da_nil))) da_nil)))))))))))
 (dss_one (ds_ret (de_cmp (op_notInD (have z := room65 hr; z)) s2_notInD de_bl (de_lc rfl hN (di_list (dv 2)) (blkOk_by (own := [("way", 3)]) (by show blkC N__law_due (defScope (top 49)) _ _ = true; decide +kernel)) (lcg_name (by decide)) (fun _ _ _ _ _ => (pg_name hN rfl (by first | exact Or.inl rfl | exact Or.inr rfl) (by first | exact .inl rfl | exact .inr rfl))) (fun _ _ _ _ _ => (dts_one (dt_val (de_callD A.ok__law_in hr (by decide) hgd rfl takes0 (da_cons (dv 0) (da_cons (dv 3) da_nil)))))) (fun _ _ _ _ _ => (de_callD A.ok__law_in hr (by decide) hgd rfl takes0 (da_cons (dv 1) (da_cons (dv 3) da_nil))))) (by with_unfolding_all rfl)))))))
theorem Hd.ok__law_due (A : Hd K mg) : CallD P w K mg base 3 "_law_due" ["one", "other"] sp__law_due := by
  obtain ⟨fd, F⟩ := A.c.def_ 14
  exact ⟨_, fd, A.g__law_due, F.kp, F.bindsN fun _ _ _ _ _ _ us hl => match us, hl with | [_, _], _ => rfl, def_ok F sc__law_due (fun ds μ Q Xd h => h.1) (fun cdv A2 fr s H E hr hgd => d__law_due A hr hgd) fun ds μ Q Xd h => h.2⟩
/-! _law_hand -/
abbrev N__law_hand : List Str := ["script", "k", "cell", "seed"]
theorem sc__law_hand : FnScope N__law_hand ["script", "k"] (defScope (top 39)) := ⟨rfl, rfl, rfl, by decide +kernel, rfl, by decide +kernel, by decide +kernel⟩
def w__law_hand : WS := (sSeq (sSet 2 (w2 fIx (w2 fPlus (wSl (wVar 0) (oSome (wVar 1)) (oSome (w2 fPlus (wVar 1) (wC (.int (1)))))) (wLst (wCons (wC (.int (0))) wNil))) (wC (.int (0)))))
 (sSeq (sSet 3 (w2 fMod (w2 fTimes (w2 fPlus (w2 fPlus (w2 fMod (wN fInt1 (wCons (wVar 2) wNil)) (wC (.int (2147483647)))) (w2 fTimes (wC (.int (7919))) (wVar 1))) (wC (.int (1)))) (wC (.int (48271)))) (wC (.int (2147483629)))))
 (sRet (wLstC (wCons (w2 fTimes (wN fInt1 (wCons (w2 fGe (wVar 2) (w2 fPow (wC (.int (10))) (wC (.int (18))))) wNil)) (wVar 2)) (wCons (wVar 3) wNil))))))
def sp__law_hand : DSp := fun ds μ Q Xd => ds.length = 2 ∧ w__law_hand (defE Q Xd) (startD N__law_hand ds) μ
theorem d__law_hand (A : Hd K mg) {cdv : Value} {A2 : Around} {fr : List Env} {s : Shared} {H : Hp} {E : XK} {f : Addr} (hr : Room 0 (A2.deeper (envOfC "_law_hand" (defScope (top 39)) s.heap.objs.size f cdv))) (hgd : (A2.deeper (envOfC "_law_hand" (defScope (top 39)) s.heap.objs.size f cdv)).guards = some []) :
    DSs none (fun cls d _ H2 => E cls d H2) (cxOf (L2.CX P w) P w K mg base N__law_hand "_law_hand" (defScope (top 39)) f cdv A2 fr s H E) (defBody (top 39)) w__law_hand := by
  have hN := (sc__law_hand).nd
  exact (dss_cons (ds_set (i := 2) hN rfl (de_item (de_plus (de_slice (dv 0) (do_some (dv 1)) (do_some (de_plus (dv 1) de_int))) (de_lst (da_cons de_int da_nil))) de_int))
 (dss_cons (ds_set (i := 3) hN rfl (de_mod (de_times (de_plus (de_plus (de_mod (de_callTy call_int1 sn_int1 rfl A.f_int bt_int (da_cons (dv 2) da_nil)) de_int) (de_times de_int (dv 1))) de_int) de_int) de_int))
 (dss_one (ds_ret (de_lstC (da_cons (de_times (de_callTy call_int1 sn_int1 rfl A.f_int bt_int (da_cons (de_cmp op_ge s2_IB (dv 2) (de_pow de_int de_int) (nomark _)) da_nil)) (dv 2)) (da_cons (dv 3) da_nil)))))))
theorem Hd.ok__law_hand (A : Hd K mg) : CallD P w K mg base 1 "_law_hand" ["script", "k"] sp__law_hand := by
  obtain ⟨fd, F⟩ := A.c.def_ 15
  exact ⟨_, fd, A.g__law_hand, F.kp, F.bindsN fun _ _ _ _ _ _ us hl => match us, hl with | [_, _], _ => rfl, def_ok F sc__law_hand (fun ds μ Q Xd h => h.1) (fun cdv A2 fr s H E hr hgd => d__law_hand A hr hgd) fun ds μ Q Xd h => h.2⟩
/-! check_ahead -/
abbrev N_check_ahead : List Str := ["thing"]
theorem sc_check_ahead : FnScope N_check_ahead ["thing"] (defScope (top 31)) := ⟨rfl, rfl, rfl, by decide +kernel, rfl, by decide +kernel, by decide +kernel⟩
def w_check_ahead : WS := (sIf (wNot (wB (wN (fIsi isiT) (wCons (wVar 0) (wCons (wC (.ty "bool")) wNil)))))
  (sRaise "InvalidHalf" ["part"] (wCons (wC (.str "ahead")) wNil))
  sNext)
def sp_check_ahead : DSp := fun ds μ Q Xd => ds.length = 1 ∧ w_check_ahead (defE Q Xd) (startD N_check_ahead ds) μ
theorem d_check_ahead (A : Hd K mg) {cdv : Value} {A2 : Around} {fr : List Env} {s : Shared} {H : Hp} {E : XK} {f : Addr} (hr : Room 2 (A2.deeper (envOfC "check_ahead" (defScope (top 31)) s.heap.objs.size f cdv))) (hgd : (A2.deeper (envOfC "check_ahead" (defScope (top 31)) s.heap.objs.size f cdv)).guards = some []) :
    DSs none (fun cls d _ H2 => E cls d H2) (cxOf (L2.CX P w) P w K mg base N_check_ahead "check_ahead" (defScope (top 31)) f cdv A2 fr s H E) (defBody (top 31)) w_check_ahead := by
  have hN := (sc_check_ahead).nd
  exact (dss_one (ds_if (dt_not (dt_val (de_callB call_isi (sn_isi A.isi) rfl A.f_isinstance bt_isinstance (da_cons (dv 0) (da_cons (de_ty rfl A.f_bool bt_bool) da_nil))))) (dss_one (ds_raiseD A.rx_InvalidHalf rfl hr (by decide) rfl (takes_of rfl rfl rfl rfl) (da_cons de_str da_nil))) dss_nil))
theorem Hd.ok_check_ahead (A : Hd K mg) : CallD P w K mg base 3 "check_ahead" ["thing"] sp_check_ahead := by
  obtain ⟨fd, F⟩ := A.c.def_ 16
  exact ⟨_, fd, A.g_check_ahead, F.kp, F.bindsN fun _ _ _ _ _ _ us hl => match us, hl with | [_], _ => rfl, def_ok F sc_check_ahead (fun ds μ Q Xd h => h.1) (fun cdv A2 fr s H E hr hgd => d_check_ahead A hr hgd) fun ds μ Q Xd h => h.2⟩
/-! common_divisor -/
abbrev N_common_divisor : List Str := ["one", "other"]
theorem sc_common_divisor : FnScope N_common_divisor ["one", "other"] (defScope (top 22)) := ⟨rfl, rfl, rfl, by decide +kernel, rfl, by decide +kernel, by decide +kernel⟩
def w_common_divisor : WS := (sSeq (sPar2 0 1 (wCons (wN fAbs (wCons (wVar 0) wNil)) (wCons (wN fAbs (wCons (wVar 1) wNil)) wNil)))
 (sSeq (sWhile (wB (w2 fGt (wVar 1) (wC (.int (0)))))
  (sPar2 0 1 (wCons (wVar 1) (wCons (w2 fMod (wVar 0) (wVar 1)) wNil))))
 (sRet (wVar 0))))
def sp_common_divisor : DSp := fun ds μ Q Xd => ds.length = 2 ∧ w_common_divisor (defE Q Xd) (startD N_common_divisor ds) μ
theorem d_common_divisor (A : Hd K mg) {cdv : Value} {A2 : Around} {fr : List Env} {s : Shared} {H : Hp} {E : XK} {f : Addr} (hr : Room 0 (A2.deeper (envOfC "common_divisor" (defScope (top 22)) s.heap.objs.size f cdv))) (hgd : (A2.deeper (envOfC "common_divisor" (defScope (top 22)) s.heap.objs.size f cdv)).guards = some []) :
    DSs none (fun cls d _ H2 => E cls d H2) (cxOf (L2.CX P w) P w K mg base N_common_divisor "common_divisor" (defScope (top 22)) f cdv A2 fr s H E) (defBody (top 22)) w_common_divisor := by
  have hN := (sc_common_divisor).nd
  exact (dss_cons (ds_par2 (i := 0) (j := 1) rfl hN rfl rfl (by decide) (da_cons (de_callB call_abs sn_abs rfl A.f_abs bt_abs (da_cons (dv 0) da_nil)) (da_cons (de_callB call_abs sn_abs rfl A.f_abs bt_abs (da_cons (dv 1) da_nil)) da_nil)))
 (dss_cons (ds_while (passes_of rfl) (dt_cmp op_gt s2_IB (dv 1) de_int (nomark _)) (dss_one (ds_par2 (i := 0) (j := 1) rfl hN rfl rfl (by decide) (da_cons (dv 1) (da_cons (de_mod (dv 0) (dv 1)) da_nil)))))
 (dss_one (ds_ret (dv 0)))))
theorem Hd.ok_common_divisor (A : Hd K mg) : CallD P w K mg base 1 "common_divisor" ["one", "other"] sp_common_divisor := by
  obtain ⟨fd, F⟩ := A.c.def_ 17
  exact ⟨_, fd, A.g_common_divisor, F.kp, F.bindsN fun _ _ _ _ _ _ us hl => match us, hl with | [_, _], _ => rfl, def_ok F sc_common_divisor (fun ds μ Q Xd h => h.1) (fun cdv A2 fr s H E hr hgd => d_common_divisor A hr hgd) fun ds μ Q Xd h => h.2⟩
/-! lowest_pair -/
abbrev N_lowest_pair : List Str := ["pair", "divisor"]
theorem sc_lowest_pair : FnScope N_lowest_pair ["pair"] (defScope (top 23)) := ⟨rfl, rfl, rfl, by decide +kernel, rfl, by decide +kernel, by decide +kernel⟩
def w_lowest_pair : WS := (sSeq (sSet 1 (wCall sp_common_divisor (wCons (w2 fIx (wVar 0) (wC (.int (0)))) (wCons (w2 fIx (wVar 0) (wC (.int (1)))) wNil))))
 (sRet (wTup (wCons (w2 fDiv (w2 fIx (wVar 0) (wC (.int (0)))) (wVar 1)) (wCons (w2 fDiv (w2 fIx (wVar 0) (wC (.int (1)))) (wVar 1)) wNil)))))
def sp_lowest_pair : DSp := fun ds μ Q Xd => ds.length = 1 ∧ w_lowest_pair (defE Q Xd) (startD N_lowest_pair ds) μ
theorem d_lowest_pair (A : Hd K mg) {cdv : Value} {A2 : Around} {fr : List Env} {s : Shared} {H : Hp} {E : XK} {f : Addr} (hr : Room 1 (A2.deeper (envOfC "lowest_pair" (defScope (top 23)) s.heap.objs.size f cdv))) (hgd : (A2.deeper (envOfC "lowest_pair" (defScope (top 23)) s.heap.objs.size f cdv)).guards = some []) :
    DSs none (fun cls d _ H2 => E cls d H2) (cxOf (L2.CX P w) P w K mg base N_lowest_pair "lowest_pair" (defScope (top 23)) f cdv A2 fr s H E) (defBody (top 23)) w_lowest_pair := by
  have hN := (sc_lowest_pair).nd
  exact (dss_cons (ds_set (i := 1) hN rfl (de_callD A.ok_common_divisor hr (by decide) hgd rfl (takes_of rfl rfl rfl rfl) (da_cons (de_item (dv 0) de_int) (da_cons (de_item (dv 0) de_int) da_nil))))
 (dss_one (ds_ret (de_tup (da_cons (de_div (de_item (dv 0) de_int) (dv 1)) (da_cons (de_div (de_item (dv 0) de_int) (dv 1)) da_nil))))))
theorem Hd.ok_lowest_pair (A : Hd K mg) : CallD P w K mg base 2 "lowest_pair" ["pair"] sp_lowest_pair := by
  obtain ⟨fd, F⟩ := A.c.def_ 18
  exact ⟨_, fd, A.g_lowest_pair, F.kp, F.bindsN fun _ _ _ _ _ _ us hl => match us, hl with | [_], _ => rfl, def_ok F sc_lowest_pair (fun ds μ Q Xd h => h.1) (fun cdv A2 fr s H E hr hgd => d_lowest_pair A hr hgd) fun ds μ Q Xd h => h.2⟩
/-! is_integer -/
abbrev N_is_integer : List Str := ["thing"]
theorem sc_is_integer : FnScope N_is_integer ["thing"] (defScope (top 9)) := ⟨rfl, rfl, rfl, by decide +kernel, rfl, by decide +kernel, by decide +kernel⟩
def w_is_integer : WS := (sRet (wAndV (wN (fIsi isiT) (wCons (wVar 0) (wCons (wC (.ty "int")) wNil))) (wNotV (wN (fIsi isiT) (wCons (wVar 0) (wCons (wC (.ty "bool")) wNil))))))
def sp_is_integer : DSp := fun ds μ Q Xd => ds.length = 1 ∧ w_is_integer (defE Q Xd) (startD N_is_integer ds) μ
theorem d_is_integer (A : Hd K mg) {cdv : Value} {A2 : Around} {fr : List Env} {s : Shared} {H : Hp} {E : XK} {f : Addr} (hr : Room 0 (A2.deeper (envOfC "is_integer" (defScope (top 9)) s.heap.objs.size f cdv))) (hgd : (A2.deeper (envOfC "is_integer" (defScope (top 9)) s.heap.objs.size f cdv)).guards = some []) :
    DSs none (fun cls d _ H2 => E cls d H2) (cxOf (L2.CX P w) P w K mg base N_is_integer "is_integer" (defScope (top 9)) f cdv A2 fr s H E) (defBody (top 9)) w_is_integer := by
  have hN := (sc_is_integer).nd
  exact (dss_one (ds_ret (de_and (de_callB call_isi (sn_isi A.isi) rfl A.f_isinstance bt_isinstance (da_cons (dv 0) (da_cons (de_ty rfl A.f_int bt_int) da_nil))) (de_one (de_not (de_callB call_isi (sn_isi A.isi) rfl A.f_isinstance bt_isinstance (da_cons (dv 0) (da_cons (de_ty rfl A.f_bool bt_bool) da_nil))))))))
theorem Hd.ok_is_integer (A : Hd K mg) : CallD P w K mg base 1 "is_integer" ["thing"] sp_is_integer := by
  obtain ⟨fd, F⟩ := A.c.def_ 19
  exact ⟨_, fd, A.g_is_integer, F.kp, F.bindsN fun _ _ _ _ _ _ us hl => match us, hl with | [_], _ => rfl, def_ok F sc_is_integer (fun ds μ Q Xd h => h.1) (fun cdv A2 fr s H E hr hgd => d_is_integer A hr hgd) fun ds μ Q Xd h => h.2⟩
/-! numbers_of -/
abbrev N_numbers_of : List Str := ["thing"]
theorem sc_numbers_of : FnScope N_numbers_of ["thing"] (defScope (top 13)) := ⟨rfl, rfl, rfl, by decide +kernel, rfl, by decide +kernel, by decide +kernel⟩
def w_numbers_of : WS := (sSeq (sIf (wB (wN (fIsi isiT) (wCons (wVar 0) (wCons (wC (.cls "Point")) wNil))))
  (sRet (wTup (wCons (w1 (fFld "Point" "x") (wVar 0)) (wCons (w1 (fFld "Point" "y") (wVar 0)) wNil))))
  sNext)
 (sSeq (sIf (wAnd (wB (wN (fIsi isiT) (wCons (wVar 0) (wCons (wC (.ty "tuple")) wNil)))) (wAnd (wB (w2 fEqU (wN fLen (wCons (wVar 0) wNil)) (wC (.int (2))))) (wAnd (wB (wCall sp_is_integer (wCons (w2 fIx (wVar 0) (wC (.int (0)))) wNil))) (wB (wCall sp_is_integer (wCons (w2 fIx (wVar 0) (wC (.int (1)))) wNil))))))
  (sRet (wTup (wCons (wN fInt1 (wCons (w2 fIx (wVar 0) (wC (.int (0)))) wNil)) (wCons (wN fInt1 (wCons (w2 fIx (wVar 0) (wC (.int (1)))) wNil)) wNil))))
  sNext)
 (sRet (wC .non))))
def sp_numbers_of : DSp := fun ds μ Q Xd => ds.length = 1 ∧ w_numbers_of (defE Q Xd) (startD N_numbers_of ds) μ
theorem d_numbers_of (A : Hd K mg) {cdv : Value} {A2 : Around} {fr : List Env} {s : Shared} {H : Hp} {E : XK} {f : Addr} (hr : Room 1 (A2.deeper (envOfC "numbers_of" (defScope (top 13)) s.heap.objs.size f cdv))) (hgd : (A2.deeper (envOfC "numbers_of" (defScope (top 13)) s.heap.objs.size f cdv)).guards = some []) :
    DSs none (fun cls d _ H2 => E cls d H2) (cxOf (L2.CX P w) P w K mg base N_numbers_of "numbers_of" (defScope (top 13)) f cdv A2 fr s H E) (defBody (top 13)) w_numbers_of := by
  have hN := (sc_numbers_of).nd
  exact (dss_cons (ds_if (dt_val (de_callB call_isi (sn_isi A.isi) rfl A.f_isinstance bt_isinstance (da_cons (dv 0) (da_cons (de_cls rfl A.g_Point) da_nil)))) (dss_one (ds_ret (de_tup (da_cons (de_fldD A.fl_Point_x (dv 0)) (da_cons (de_fldD A.fl_Point_y (dv 0)) da_nil))))) dss_nil)
 (dss_cons (ds_if (dt_w (dw_and (dt_val (de_callB call_isi (sn_isi A.isi) rfl A.f_isinstance bt_isinstance (da_cons (dv 0) (da_cons (de_ty rfl A.f_tuple bt_tuple) da_nil)))) (dw_and (dt_cmp (op_eqU (have z := room64 hr; z)) s2_eqU (de_callB call_len_seq sn_len rfl A.f_len bt_len (da_cons (dv 0) da_nil)) de_int (nomark _)) (dw_and (dt_val (de_callD A.ok_is_integer hr (by decide) hgd rfl (takes_of rfl rfl rfl rfl) (da_cons (de_item (dv 0) de_int) da_nil))) (dw_and1 (dt_val (de_callD A.ok_is_integer hr (by decide) hgd rfl (takes_of rfl rfl rfl rfl) (da_cons (de_item (dv 0) de_int) da_nil)))))))) (dss_one (ds_ret (de_tup (da_cons (de_callTy call_int1 sn_int1 rfl A.f_int bt_int (da_cons (de_item (dv 0) de_int) da_nil)) (da_cons (de_callTy call_int1 sn_int1 rfl A.f_int bt_int (da_cons (de_item (dv 0) de_int) da_nil)) da_nil))))) dss_nil)
 (dss_one (ds_ret de_non))))
theorem Hd.ok_numbers_of (A : Hd K mg) : CallD P w K mg base 2 "numbers_of" ["thing"] sp_numbers_of := by
  obtain ⟨fd, F⟩ := A.c.def_ 20
  exact ⟨_, fd, A.g_numbers_of, F.kp, F.bindsN fun _ _ _ _ _ _ us hl => match us, hl with | [_], _ => rfl, def_ok F sc_numbers_of (fun ds μ Q Xd h => h.1) (fun cdv A2 fr s H E hr hgd => d_numbers_of A hr hgd) fun ds μ Q Xd h => h.2⟩
/-! way_in -/
abbrev N_way_in : List Str := ["thing", "pair"]
theorem sc_way_in : FnScope N_way_in ["thing"] (defScope (top 30)) := ⟨rfl, rfl, rfl, by decide +kernel, rfl, by decide +kernel, by decide +kernel⟩
def w_way_in : WS := (sSeq (sSet 1 (wCall sp_numbers_of (wCons (wVar 0) wNil)))
 (sSeq (sIf (wOr (wB (w2 fIsN (wVar 1) (wC .non))) (wB (w2 fEqU (wVar 1) (wTup (wCons (wC (.int (0))) (wCons (wC (.int (0))) wNil))))))
  (sRaise "InvalidHalf" ["part"] (wCons (wC (.str "way")) wNil))
  sNext)
 (sRet (wCall sp_lowest_pair (wCons (wVar 1) wNil)))))
def sp_way_in : DSp := fun ds μ Q Xd => ds.length = 1 ∧ w_way_in (defE Q Xd) (startD N_way_in ds) μ
theorem d_way_in (A : Hd K mg) {cdv : Value} {A2 : Around} {fr : List Env} {s : Shared} {H : Hp} {E : XK} {f : Addr} (hr : Room 2 (A2.deeper (envOfC "way_in" (defScope (top 30)) s.heap.objs.size f cdv))) (hgd : (A2.deeper (envOfC "way_in" (defScope (top 30)) s.heap.objs.size f cdv)).guards = some []) :
    DSs none (fun cls d _ H2 => E cls d H2) (cxOf (L2.CX P w) P w K mg base N_way_in "way_in" (defScope (top 30)) f cdv A2 fr s H E) (defBody (top 30)) w_way_in := by
  have hN := (sc_way_in).nd
  exact (dss_cons (ds_set (i := 1) hN rfl (de_callD A.ok_numbers_of hr (by decide) hgd rfl (takes_of rfl rfl rfl rfl) (da_cons (dv 0) da_nil)))
 (dss_cons (ds_if (dt_w (dw_or (dt_cmp op_isN s2_isN (dv 1) de_non (nomark _)) (dw_or1 (dt_cmp (op_eqU (have z := room64 hr; z)) s2_eqU (dv 1) (de_tup (da_cons de_int (da_cons de_int da_nil))) (nomark _))))) (dss_one (ds_raiseD A.rx_InvalidHalf rfl hr (by decide) rfl (takes_of rfl rfl rfl rfl) (da_cons de_str da_nil))) dss_nil)
 (dss_one (ds_ret (de_callD A.ok_lowest_pair hr (by decide) hgd rfl (takes_of rfl rfl rfl rfl) (da_cons (dv 1) da_nil))))))
theorem Hd.ok_way_in (A : Hd K mg) : CallD P w K mg base 3 "way_in" ["thing"] sp_way_in := by
  obtain ⟨fd, F⟩ := A.c.def_ 21
  exact ⟨_, fd, A.g_way_in, F.kp, F.bindsN fun _ _ _ _ _ _ us hl => match us, hl with | [_], _ => rfl, def_ok F sc_way_in (fun ds μ Q Xd h => h.1) (fun cdv A2 fr s H E hr hgd => d_way_in A hr hgd) fun ds μ Q Xd h => h.2⟩
/-! Half_init -/
abbrev N_Half_init : List Str := ["self", "way", "ahead", "pair"]
theorem sc_Half_init : FnScope N_Half_init ["self", "way", "ahead"] (defScope (inClass (top 32) 0)) := ⟨rfl, rfl, rfl, by decide +kernel, rfl, by decide +kernel, by decide +kernel⟩
def w_Half_init : WS := (sSeq (sSet 3 (wCall sp_way_in (wCons (wVar 1) wNil)))
 (sSeq (sDrop (wCall sp_check_ahead (wCons (wVar 2) wNil)))
 (sSeq (sFldO "Half" 0 "own_way" (wVar 3))
 (sFldO "Half" 0 "own_ahead" (wVar 2)))))
def sp_Half_init : ISp := fun ds μ Q Xd => ds.length = 2 ∧ ∀ a, w_Half_init (defI "Half" a Q Xd) (startI N_Half_init "Half" a ds) μ
theorem d_Half_init (A : Hd K mg) {cdv : Value} {A2 : Around} {fr : List Env} {s : Shared} {H : Hp} {E : XK} {f : Addr} (hr : Room 3 (A2.deeper (envOfC "Half.__init__" (defScope (inClass (top 32) 0)) s.heap.objs.size f cdv))) (hgd : (A2.deeper (envOfC "Half.__init__" (defScope (inClass (top 32) 0)) s.heap.objs.size f cdv)).guards = some []) :
    DSs none (fun cls d _ H2 => E cls d H2) (cxOf (L2.CX P w) P w K mg base N_Half_init "Half.__init__" (defScope (inClass (top 32) 0)) f cdv A2 fr s H E) (defBody (inClass (top 32) 0)) w_Half_init := by
  have hN := (sc_Half_init).nd
  exact (dss_cons (ds_set (i := 3) hN rfl (de_callD A.ok_way_in hr (by decide) hgd rfl (takes_of rfl rfl rfl rfl) (da_cons (dv 1) da_nil)))
 (dss_cons (ds_expr (de_callD A.ok_check_ahead hr (by decide) hgd rfl (takes_of rfl rfl rfl rfl) (da_cons (dv 2) da_nil)))
 (dss_cons (ds_fldOD A.fl_Half_own_way rfl (dv 3))
 (dss_one (ds_fldOD A.fl_Half_own_ahead rfl (dv 2))))))
theorem Hd.ok_Half_init (A : Hd K mg) : MakeD P w K mg base 4 "Half" ["self", "way", "ahead"] sp_Half_init := by
  obtain ⟨fd, F⟩ := A.c.def_ 22
  refine ⟨_, _, fd, A.g_Half, He.mkr_ok (A.c.fact 52), F.bindsN fun _ _ _ _ _ _ us hl => match us, hl with | [_, _, _], _ => rfl, def_okI F sc_Half_init (fun ds μ Q Xd h => by rw [h.1]; rfl) (fun cdv A2 fr s H E hr hgd => d_Half_init A hr hgd) fun ds μ Q Xd a h => h.2 a⟩
/-! check_truths -/
abbrev N_check_truths : List Str := ["thing", "truth"]
theorem sc_check_truths : FnScope N_check_truths ["thing"] (defScope (top 28)) := ⟨rfl, rfl, rfl, by decide +kernel, rfl, by decide +kernel, by decide +kernel⟩
def w_check_truths : WS := (sSeq (sIf (wOr (wNot (wB (wN (fIsiT isiT) (wCons (wVar 0) (wCons (wTup (wCons (wC (.ty "list")) (wCons (wC (.ty "tuple")) wNil))) wNil))))) (wB (w2 fNeU (wN fLen (wCons (wVar 0) wNil)) (wC (.int (8))))))
  (sRaise "InvalidTable" ["thing"] (wCons (wVar 0) wNil))
  sNext)
 (sIf (wNot (wB (wN fAll (wCons (wLc (wiL (wVar 0)) (kNameC 1) wYes (wN (fIsi isiT) (wCons (wVar 1) (wCons (wC (.ty "bool")) wNil))) [1]) wNil))))
  (sRaise "InvalidTable" ["thing"] (wCons (wVar 0) wNil))
  sNext))
def sp_check_truths : DSp := fun ds μ Q Xd => ds.length = 1 ∧ w_check_truths (defE Q Xd) (startD N_check_truths ds) μ
theorem d_check_truths (A : Hd K mg) {cdv : Value} {A2 : Around} {fr : List Env} {s : Shared} {H : Hp} {E : XK} {f : Addr} (hr : Room 2 (A2.deeper (envOfC "check_truths" (defScope (top 28)) s.heap.objs.size f cdv))) (hgd : (A2.deeper (envOfC "check_truths" (defScope (top 28)) s.heap.objs.size f cdv)).guards = some []) :
    DSs none (fun cls d _ H2 => E cls d H2) (cxOf (L2.CX P w) P w K mg base N_check_truths "check_truths" (defScope (top 28)) f cdv A2 fr s H E) (defBody (top 28)) w_check_truths := by
  have hN := (sc_check_truths).nd
  exact (dss_cons (ds_if (dt_w (dw_or (dt_not (dt_val (de_callB call_isiS (sn_isiT A.isi) rfl A.f_isinstance bt_isinstance (da_cons (dv 0) (da_cons (de_tup (da_cons (de_ty rfl A.f_list bt_list) (da_cons (de_ty rfl A.f_tuple bt_tuple) da_nil))) da_nil))))) (dw_or1 (dt_cmp (op_neU (have z := room64 hr; z)) s2_neU (de_callB call_len_seq sn_len rfl A.f_len bt_len (da_cons (dv 0) da_nil)) de_int (nomark _))))) (dss_one (ds_raiseD A.rx_InvalidTable rfl hr (by decide) rfl (takes_of rfl rfl rfl rfl) (da_cons (dv 0) da_nil))) dss_nil)
 (dss_one (ds_if (dt_not (dt_val (de_callB (cr_all rfl) sn_all rfl A.f_all bt_all (da_cons (de_lc rfl hN (di_list (dv 0)) (blkOk_by (own := [("truth", 1)]) (by show blkC N_check_truths (defScope (top 28)) _ _ = true; decide +kernel)) (lcg_name (by decide)) (fun _ _ _ _ _ => (pg_name hN rfl (by first | exact Or.inl rfl | exact Or.inr rfl) (by first | exact .inl rfl | exact .inr rfl))) (fun _ _ _ _ _ => dts_nil) (fun _ _ _ _ _ => (de_callB call_isi (sn_isi A.isi) rfl A.f_isinstance bt_isinstance (da_cons (dv 1) (da_cons (de_ty rfl A.f_bool bt_bool) da_nil))))) da_nil)))) (dss_one (ds_raiseD A.rx_InvalidTable rfl hr (by decide) rfl (takes_of rfl rfl rfl rfl) (da_cons (dv 0) da_nil))) dss_nil)))
theorem Hd.ok_check_truths (A : Hd K mg) : CallD P w K mg base 3 "check_truths" ["thing"] sp_check_truths := by
  obtain ⟨fd, F⟩ := A.c.def_ 23
  exact ⟨_, fd, A.g_check_truths, F.kp, F.bindsN fun _ _ _ _ _ _ us hl => match us, hl with | [_], _ => rfl, def_ok F sc_check_truths (fun ds μ Q Xd h => h.1) (fun cdv A2 fr s H E hr hgd => d_check_truths A hr hgd) fun ds μ Q Xd h => h.2⟩
/-! Table_init -/
abbrev N_Table_init : List Str := ["self", "kinds"]
theorem sc_Table_init : FnScope N_Table_init ["self", "kinds"] (defScope (inClass (top 29) 0)) := ⟨rfl, rfl, rfl, by decide +kernel, rfl, by decide +kernel, by decide +kernel⟩
def w_Table_init : WS := (sSeq (sDrop (wCall sp_check_truths (wCons (wVar 1) wNil)))
 (sFldO "Table" 0 "truths" (wN fListOf (wCons (wVar 1) wNil))))
def sp_Table_init : ISp := fun ds μ Q Xd => ds.length = 1 ∧ ∀ a, w_Table_init (defI "Table" a Q Xd) (startI N_Table_init "Table" a ds) μ
theorem d_Table_init (A : Hd K mg) {cdv : Value} {A2 : Around} {fr : List Env} {s : Shared} {H : Hp} {E : XK} {f : Addr} (hr : Room 3 (A2.deeper (envOfC "Table.__init__" (defScope (inClass (top 29) 0)) s.heap.objs.size f cdv))) (hgd : (A2.deeper (envOfC "Table.__init__" (defScope (inClass (top 29) 0)) s.heap.objs.size f cdv)).guards = some []) :
    DSs none (fun cls d _ H2 => E cls d H2) (cxOf (L2.CX P w) P w K mg base N_Table_init "Table.__init__" (defScope (inClass (top 29) 0)) f cdv A2 fr s H E) (defBody (inClass (top 29) 0)) w_Table_init := by
  have hN := (sc_Table_init).nd
  exact (dss_cons (ds_expr (de_callD A.ok_check_truths hr (by decide) hgd rfl (takes_of rfl rfl rfl rfl) (da_cons (dv 1) da_nil)))
 (dss_one (ds_fldOD A.fl_Table_truths rfl (de_callTy call_list_of sn_listOf rfl A.f_list bt_list (da_cons (dv 1) da_nil)))))
theorem Hd.ok_Table_init (A : Hd K mg) : MakeD P w K mg base 4 "Table" ["self", "kinds"] sp_Table_init := by
  obtain ⟨fd, F⟩ := A.c.def_ 24
  refine ⟨_, _, fd, A.g_Table, He.mkr_ok (A.c.fact 53), F.bindsN fun _ _ _ _ _ _ us hl => match us, hl with | [_, _], _ => rfl, def_okI F sc_Table_init (fun ds μ Q Xd h => by rw [h.1]; rfl) (fun cdv A2 fr s H E hr hgd => d_Table_init A hr hgd) fun ds μ Q Xd a h => h.2 a⟩
/-! _law_made -/
abbrev N__law_made : List Str := ["told_rule"]
theorem sc__law_made : FnScope N__law_made ["told_rule"] (defScope (top 45)) := ⟨rfl, rfl, rfl, by decide +kernel, rfl, by decide +kernel, by decide +kernel⟩
def w__law_made : WS := (sSeq (sIf (wB (w2 fEqU (w2 fIx (wVar 0) (wC (.int (0)))) (wC (.str "table"))))
  (sRet (wMake "Table" sp_Table_init (wCons (w2 fIx (wVar 0) (wC (.int (1)))) wNil)))
  sNext)
 (sRet (wMake "Half" sp_Half_init (wCons (w2 fIx (wVar 0) (wC (.int (1)))) (wCons (w2 fIx (wVar 0) (wC (.int (2)))) wNil)))))
def sp__law_made : DSp := fun ds μ Q Xd => ds.length = 1 ∧ w__law_made (defE Q Xd) (startD N__law_made ds) μ
theorem d__law_made (A : Hd K mg) {cdv : Value} {A2 : Around} {fr : List Env} {s : Shared} {H : Hp} {E : XK} {f : Addr} (hr : Room 5 (A2.deeper (envOfC "_law_made" (defScope (top 45)) s.heap.objs.size f cdv))) (hgd : (A2.deeper (envOfC "_law_made" (defScope (top 45)) s.heap.objs.size f cdv)).guards = some []) :
    DSs none (fun cls d _ H2 => E cls d H2) (cxOf (L2.CX P w) P w K mg base N__law_made "_law_made" (defScope (top 45)) f cdv A2 fr s H E) (defBody (top 45)) w__law_made := by
  have hN := (sc__law_made).nd
  exact (dss_cons (ds_if (dt_cmp (op_eqU (have z := room64 hr; z)) s2_eqU (de_item (dv 0) de_int) de_str (nomark _)) (dss_one (ds_ret (de_makeD A.ok_Table_init hr (by decide) hgd rfl (takes_of rfl rfl rfl rfl) (da_cons (de_item (dv 0) de_int) da_nil)))) dss_nil)
 (dss_one (ds_ret (de_makeD A.ok_Half_init hr (by decide) hgd rfl (takes_of rfl rfl rfl rfl) (da_cons (de_item (dv 0) de_int) (da_cons (de_item (dv 0) de_int) da_nil))))))
theorem Hd.ok__law_made (A : Hd K mg) : CallD P w K mg base 6 "_law_made" ["told_rule"] sp__law_made := by
  obtain ⟨fd, F⟩ := A.c.def_ 25
  exact ⟨_, fd, A.g__law_made, F.kp, F.bindsN fun _ _ _ _ _ _ us hl => match us, hl with | [_], _ => rfl, def_ok F sc__law_made (fun ds μ Q Xd h => h.1) (fun cdv A2 fr s H E hr hgd => d__law_made A hr hgd) fun ds μ Q Xd h => h.2⟩
/-! _law_draw -/
abbrev N__law_draw : List Str := ["pool", "many", "found"]
theorem sc__law_draw : FnScope N__law_draw ["pool", "many"] (defScope (top 40)) := ⟨rfl, rfl, rfl, by decide +kernel, rfl, by decide +kernel, by decide +kernel⟩
def w__law_draw : WS := (sSeq (sIf (wB (w2 fGt (w2 fIx (wVar 0) (wC (.int (0)))) (wC (.int (0)))))
  (sSeq (sSet 2 (w2 fMod (wN fInt1 (wCons (w2 fIx (wVar 0) (wC (.int (0)))) wNil)) (wVar 1)))
 (sSeq (sAsg (w2 fDiv (w2 fIx (wVar 0) (wC (.int (0)))) (wVar 1)) (kSub (wVar 0) (wC (.int (0)))))
 (sRet (wVar 2))))
  sNext)
 (sSeq (sAsg (w2 fMod (wN fInt1 (wCons (w2 fPlus (w2 fTimes (w2 fIx (wVar 0) (wC (.int (1)))) (wC (.int (48271)))) (wC (.int (11)))) wNil)) (wC (.int (2147483647)))) (kSub (wVar 0) (wC (.int (1)))))
 (sRet (w2 fMod (w2 fDiv (w2 fMod (wN fInt1 (wCons (w2 fTimes (w2 fIx (wVar 0) (wC (.int (1)))) (w2 fIx (wVar 0) (wC (.int (1))))) wNil)) (wC (.int (2147483629)))) (wC (.int (64)))) (wVar 1)))))
def sp__law_draw : DSp := fun ds μ Q Xd => ds.length = 2 ∧ w__law_draw (defE Q Xd) (startD N__law_draw ds) μ
theorem d__law_draw (A : Hd K mg) {cdv : Value} {A2 : Around} {fr : List Env} {s : Shared} {H : Hp} {E : XK} {f : Addr} (hr : Room 0 (A2.deeper (envOfC "_law_draw" (defScope (top 40)) s.heap.objs.size f cdv))) (hgd : (A2.deeper (envOfC "_law_draw" (defScope (top 40)) s.heap.objs.size f cdv)).guards = some []) :
    DSs none (fun cls d _ H2 => E cls d H2) (cxOf (L2.CX P w) P w K mg base N__law_draw "_law_draw" (defScope (top 40)) f cdv A2 fr s H E) (defBody (top 40)) w__law_draw := by
  have hN := (sc__law_draw).nd
  exact (dss_cons (ds_if (dt_cmp op_gt s2_IB (de_item (dv 0) de_int) de_int (nomark _)) (dss_cons (ds_set (i := 2) hN rfl (de_mod (de_callTy call_int1 sn_int1 rfl A.f_int bt_int (da_cons (de_item (dv 0) de_int) da_nil)) (dv 1)))
 (dss_cons (ds_asg (de_div (de_item (dv 0) de_int) (dv 1)) (dg_sub (dv 0) de_int))
 (dss_one (ds_ret (dv 2))))) dss_nil)
 (dss_cons (ds_asg (de_mod (de_callTy call_int1 sn_int1 rfl A.f_int bt_int (da_cons (de_plus (de_times (de_item (dv 0) de_int) de_int) de_int) da_nil)) de_int) (dg_sub (dv 0) de_int))
 (dss_one (ds_ret (de_mod (de_div (de_mod (de_callTy call_int1 sn_int1 rfl A.f_int bt_int (da_cons (de_times (de_item (dv 0) de_int) (de_item (dv 0) de_int)) da_nil)) de_int) de_int) (dv 1))))))
theorem Hd.ok__law_draw (A : Hd K mg) : CallD P w K mg base 1 "_law_draw" ["pool", "many"] sp__law_draw := by
  obtain ⟨fd, F⟩ := A.c.def_ 26
  exact ⟨_, fd, A.g__law_draw, F.kp, F.bindsN fun _ _ _ _ _ _ us hl => match us, hl with | [_, _], _ => rfl, def_ok F sc__law_draw (fun ds μ Q Xd h => h.1) (fun cdv A2 fr s H E hr hgd => d__law_draw A hr hgd) fun ds μ Q Xd h => h.2⟩
/-! _law_pair -/
abbrev N__law_pair : List Str := ["pool", "size_here"]
theorem sc__law_pair : FnScope N__law_pair ["pool", "size_here"] (defScope (top 41)) := ⟨rfl, rfl, rfl, by decide +kernel, rfl, by decide +kernel, by decide +kernel⟩
def w__law_pair : WS := (sRet (wTup (wCons (w2 fSub (wCall sp__law_draw (wCons (wVar 0) (wCons (w2 fPlus (w2 fTimes (wC (.int (2))) (wVar 1)) (wC (.int (1)))) wNil))) (wVar 1)) (wCons (w2 fSub (wCall sp__law_draw (wCons (wVar 0) (wCons (w2 fPlus (w2 fTimes (wC (.int (2))) (wVar 1)) (wC (.int (1)))) wNil))) (wVar 1)) wNil))))
def sp__law_pair : DSp := fun ds μ Q Xd => ds.length = 2 ∧ w__law_pair (defE Q Xd) (startD N__law_pair ds) μ
theorem d__law_pair (A : Hd K mg) {cdv : Value} {A2 : Around} {fr : List Env} {s : Shared} {H : Hp} {E : XK} {f : Addr} (hr : Room 1 (A2.deeper (envOfC "_law_pair" (defScope (top 41)) s.heap.objs.size f cdv))) (hgd : (A2.deeper (envOfC "_law_pair" (defScope (top 41)) s.heap.objs.size f cdv)).guards = some []) :
    DSs none (fun cls d _ H2 => E cls d H2) (cxOf (L2.CX P w) P w K mg base N__law_pair "_law_pair" (defScope (top 41)) f cdv A2 fr s H E) (defBody (top 41)) w__law_pair := by
  have hN := (sc__law_pair).nd
  exact (dss_one (ds_ret (de_tup (da_cons (de_sub (de_callD A.ok__law_draw hr (by decide) hgd rfl (takes_of rfl rfl rfl rfl) (da_cons (dv 0) (da_cons (de_plus (de_times de_int (dv 1)) de_int) da_nil))) (dv 1)) (da_cons (de_sub (de_callD A.ok__law_draw hr (by decide) hgd rfl (takes_of rfl rfl rfl rfl) (da_cons (dv 0) (da_cons (de_plus (de_times de_int (dv 1)) de_int) da_nil))) (dv 1)) da_nil)))))
theorem Hd.ok__law_pair (A : Hd K mg) : CallD P w K mg base 2 "_law_pair" ["pool", "size_here"] sp__law_pair := by
  obtain ⟨fd, F⟩ := A.c.def_ 27
  exact ⟨_, fd, A.g__law_pair, F.kp, F.bindsN fun _ _ _ _ _ _ us hl => match us, hl with | [_, _], _ => rfl, def_ok F sc__law_pair (fun ds μ Q Xd h => h.1) (fun cdv A2 fr s H E hr hgd => d__law_pair A hr hgd) fun ds μ Q Xd h => h.2⟩
/-! _law_rule -/
abbrev N__law_rule : List Str := ["pool", "n", "k"]
theorem sc__law_rule : FnScope N__law_rule ["pool"] (defScope (top 44)) := ⟨rfl, rfl, rfl, by decide +kernel, rfl, by decide +kernel, by decide +kernel⟩
def w__law_rule : WS := (sSeq (sIf (wB (w2 fEqU (wCall sp__law_draw (wCons (wVar 0) (wCons (wC (.int (2))) wNil))) (wC (.int (0)))))
  (sRet (wTup (wCons (wC (.str "table")) (wCons (wLc (wiR1 (wCons (wC (.int (8))) wNil)) (kNameC 2) wYes (w2 fEqU (wCall sp__law_draw (wCons (wVar 0) (wCons (wC (.int (2))) wNil))) (wC (.int (0)))) [2]) wNil))))
  sNext)
 (sSeq (sSet 1 (wCall sp__law_pair (wCons (wVar 0) (wCons (wC (.int (4))) wNil))))
 (sRet (wTup (wCons (wC (.str "half")) (wCons (wIf (wB (w2 fEqU (wVar 1) (wTup (wCons (wC (.int (0))) (wCons (wC (.int (0))) wNil))))) (wTup (wCons (wC (.int (3))) (wCons (w1 fNeg (wC (.int (1)))) wNil))) (wVar 1)) (wCons (w2 fEqU (wCall sp__law_draw (wCons (wVar 0) (wCons (wC (.int (2))) wNil))) (wC (.int (0)))) wNil)))))))
def sp__law_rule : DSp := fun ds μ Q Xd => ds.length = 1 ∧ w__law_rule (defE Q Xd) (startD N__law_rule ds) μ
theorem d__law_rule (A : Hd K mg) {cdv : Value} {A2 : Around} {fr : List Env} {s : Shared} {H : Hp} {E : XK} {f : Addr} (hr : Room 2 (A2.deeper (envOfC "_law_rule" (defScope (top 44)) s.heap.objs.size f cdv))) (hgd : (A2.deeper (envOfC "_law_rule" (defScope (top 44)) s.heap.objs.size f cdv)).guards = some []) :
    DSs none (fun cls d _ H2 => E cls d H2) (cxOf (L2.CX P w) P w K mg base N__law_rule "_law_rule" (defScope (top 44)) f cdv A2 fr s H E) (defBody (top 44)) w__law_rule := by
  have hN := (sc__law_rule).nd
  exact (dss_cons (ds_if (dt_cmp (op_eqU (have z := room64 hr; z)) s2_eqU (de_callD A.ok__law_draw hr (by decide) hgd rfl (takes_of rfl rfl rfl rfl) (da_cons (dv 0) (da_cons de_int da_nil))) de_int (nomark _)) (dss_one (ds_ret (de_tup (da_cons de_str (da_cons (de_lc rfl hN (di_range1 (by rfl) A.f_range (da_cons de_int da_nil)) (blkOk_by (own := [("k", 2)]) (by show blkC N__law_rule (defScope (top 44)) _ _ = true; decide +kernel)) (lcg_name (by decide)) (fun _ _ _ _ _ => (pg_name hN rfl (by first | exact Or.inl rfl | exact Or.inr rfl) (by first | exact .inl rfl | exact .inr rfl))) (fun _ _ _ _ _ => dts_nil) (fun _ _ _ _ _ => (de_cmp (op_eqU (have z := room64 hr; z)) s2_eqU (de_callD A.ok__law_draw hr (by decide) hgd rfl takes0 (da_cons (dv 0) (da_cons de_int da_nil))) de_int (nomark _)))) da_nil))))) dss_nil)
 (dss_cons (ds_set (i := 1) hN rfl (de_callD A.ok__law_pair hr (by decide) hgd rfl (takes_of rfl rfl rfl rfl) (da_cons (dv 0) (da_cons de_int da_nil))))
 (dss_one (ds_ret (de_tup (da_cons de_str (da_cons (de_if (dt_cmp (op_eqU (have z := room64 hr; z)) s2_eqU (dv 1) (de_tup (da_cons de_int (da_cons de_int da_nil))) (nomark _)) (de_tup (da_cons de_int (da_cons (de_neg de_int) da_nil))) (dv 1)) (da_cons (de_cmp (op_eqU (have z := room64 hr; z)) s2_eqU (de_callD A.ok__law_draw hr (by decide) hgd rfl (takes_of rfl rfl rfl rfl) (da_cons (dv 0) (da_cons de_int da_nil))) de_int (nomark _)) da_nil))))))))
theorem Hd.ok__law_rule (A : Hd K mg) : CallD P w K mg base 3 "_law_rule" ["pool"] sp__law_rule := by
  obtain ⟨fd, F⟩ := A.c.def_ 28
  exact ⟨_, fd, A.g__law_rule, F.kp, F.bindsN fun _ _ _ _ _ _ us hl => match us, hl with | [_], _ => rfl, def_ok F sc__law_rule (fun ds μ Q Xd h => h.1) (fun cdv A2 fr s H E hr hgd => d__law_rule A hr hgd) fun ds μ Q Xd h => h.2⟩
/-! _law_near -/
abbrev N__law_near : List Str := ["pool", "way", "start", "truths", "n", "kind"]
theorem sc__law_near : FnScope N__law_near ["pool"] (defScope (top 47)) := ⟨rfl, rfl, rfl, by decide +kernel, rfl, by decide +kernel, by decide +kernel⟩
def w__law_near : WS := (sSeq (sSet 1 (wCall sp__law_draw (wCons (wVar 0) (wCons (wC (.int (3))) wNil))))
 (sSeq (sIf (wB (w2 fEqU (wVar 1) (wC (.int (0)))))
  (sRet (wCall sp__law_rule (wCons (wVar 0) wNil)))
  sNext)
 (sSeq (sIf (wB (w2 fEqU (wVar 1) (wC (.int (1)))))
  (sSeq (sSet 4 (w2 fIx (wLst (wCons (wTup (wCons (wC (.int (1))) (wCons (wC (.int (0))) wNil))) (wCons (wTup (wCons (wC (.int (0))) (wCons (wC (.int (1))) wNil))) (wCons (wTup (wCons (w1 fNeg (wC (.int (1)))) (wCons (wC (.int (0))) wNil))) (wCons (wTup (wCons (wC (.int (0))) (wCons (w1 fNeg (wC (.int (1)))) wNil))) wNil))))) (wCall sp__law_draw (wCons (wVar 0) (wCons (wC (.int (4))) wNil)))))
 (sRet (wTup (wCons (wC (.str "half")) (wCons (wVar 4) (wCons (w2 fEqU (wCall sp__law_draw (wCons (wVar 0) (wCons (wC (.int (2))) wNil))) (wC (.int (0)))) wNil))))))
  sNext)
 (sSeq (sSet 2 (wCall sp__law_draw (wCons (wVar 0) (wCons (wC (.int (8))) wNil))))
 (sSeq (sSetLcO 3 (wLc (wiR1 (wCons (wC (.int (8))) wNil)) (kNameC 5) wYes (w2 fLt (w2 fMod (w2 fSub (wVar 5) (wVar 2)) (wC (.int (8)))) (wC (.int (4)))) [5]))
 (sSeq (sIf (wB (w2 fEqU (wCall sp__law_draw (wCons (wVar 0) (wCons (wC (.int (2))) wNil))) (wC (.int (0)))))
  (sAsg (wC (.bl true)) (kSubO 3 (wCall sp__law_draw (wCons (wVar 0) (wCons (wC (.int (8))) wNil)))))
  sNext)
 (sFrz 3 (sRet (wTup (wCons (wC (.str "table")) (wCons (wVar 3) wNil)))))))))))
def sp__law_near : DSp := fun ds μ Q Xd => ds.length = 1 ∧ w__law_near (defE Q Xd) (startD N__law_near ds) μ
theorem d__law_near (A : Hd K mg) {cdv : Value} {A2 : Around} {fr : List Env} {s : Shared} {H : Hp} {E : XK} {f : Addr} (hr : Room 3 (A2.deeper (envOfC "_law_near" (defScope (top 47)) s.heap.objs.size f cdv))) (hgd : (A2.deeper (envOfC "_law_near" (defScope (top 47)) s.heap.objs.size f cdv)).guards = some []) :
    DSs none (fun cls d _ H2 => E cls d H2) (cxOf (L2.CX P w) P w K mg base N__law_near "_law_near" (defScope (top 47)) f cdv A2 fr s H E) (defBody (top 47)) w__law_near := by
  have hN := (sc__law_near).nd
  exact (dss_cons (ds_set (i := 1) hN rfl (de_callD A.ok__law_draw hr (by decide) hgd rfl (takes_of rfl rfl rfl rfl) (da_cons (dv 0) (da_cons de_int da_nil))))
 (dss_cons (ds_if (dt_cmp (op_eqU (have z := room64 hr; z)) s2_eqU (dv 1) de_int (nomark _)) (dss_one (ds_ret (de_callD A.ok__law_rule hr (by decide) hgd rfl (takes_of rfl rfl rfl rfl) (da_cons (dv 0) da_nil)))) dss_nil)
 (dss_cons (ds_if (dt_cmp (op_eqU (have z := room64 hr; z)) s2_eqU (dv 1) de_int (nomark _)) (dss_cons (ds_set (i := 4) hN rfl (de_item (de_lst (da_cons (de_tup (da_cons de_int (da_cons de_int da_nil))) (da_cons (de_tup (da_cons de_int (da_cons de_int da_nil))) (da_cons (de_tup (da_cons (de_neg de_int) (da_cons de_int da_nil))) (da_cons (de_tup (da_cons de_int (da_cons (de_neg de_int) da_nil))) da_nil))))) (de_callD A.ok__law_draw hr (by decide) hgd rfl (takes_of rfl rfl rfl rfl) (da_cons (dv 0) (da_cons de_int da_nil)))))
 (dss_one (ds_ret (de_tup (da_cons de_str (da_cons (dv 4) (da_cons (de_cmp (op_eqU (have z := room64 hr; z)) s2_eqU (de_callD A.ok__law_draw hr (by decide) hgd rfl (takes_of rfl rfl rfl rfl) (da_cons (dv 0) (da_cons de_int da_nil))) de_int (nomark _)) da_nil))))))) dss_nil)
 (dss_cons (ds_set (i := 2) hN rfl (de_callD A.ok__law_draw hr (by decide) hgd rfl (takes_of rfl rfl rfl rfl) (da_cons (dv 0) (da_cons de_int da_nil))))
 (dss_cons (ds_setLcO (i := 3) rfl hN rfl rfl (di_range1 (by rfl) A.f_range (da_cons de_int da_nil)) (blkOk_by (own := [("kind", 5)]) (by show blkC N__law_near (defScope (top 47)) _ _ = true; decide +kernel)) (lcg_name (by decide)) (fun _ _ _ _ _ => (pg_name hN rfl (by first | exact Or.inl rfl | exact Or.inr rfl) (by first | exact .inl rfl | exact .inr rfl))) (fun _ _ _ _ _ => dts_nil) (fun _ _ _ _ _ => (de_cmp op_lt s2_IB (de_mod (de_sub (dv 5) (dv 2)) de_int) de_int (nomark _))))
 (dss_cons (ds_if (dt_cmp (op_eqU (have z := room64 hr; z)) s2_eqU (de_callD A.ok__law_draw hr (by decide) hgd rfl (takes_of rfl rfl rfl rfl) (da_cons (dv 0) (da_cons de_int da_nil))) de_int (nomark _)) (dss_one (ds_asg de_bl (dg_subO (i := 3) rfl (de_callD A.ok__law_draw hr (by decide) hgd rfl takes0 (da_cons (dv 0) (da_cons de_int da_nil)))))) dss_nil)
 (dss_one (ds_frz 3 (ds_ret (de_tup (da_cons de_str (da_cons (dv 3) da_nil))))))))))))
theorem Hd.ok__law_near (A : Hd K mg) : CallD P w K mg base 4 "_law_near" ["pool"] sp__law_near := by
  obtain ⟨fd, F⟩ := A.c.def_ 29
  exact ⟨_, fd, A.g__law_near, F.kp, F.bindsN fun _ _ _ _ _ _ us hl => match us, hl with | [_], _ => rfl, def_ok F sc__law_near (fun ds μ Q Xd h => h.1) (fun cdv A2 fr s H E hr hgd => d__law_near A hr hgd) fun ds μ Q Xd h => h.2⟩
/-! half_of -/
abbrev N_half_of : List Str := ["table", "kind", "other"]
theorem sc_half_of : FnScope N_half_of ["table"] (defScope (top 37)) := ⟨rfl, rfl, rfl, by decide +kernel, rfl, by decide +kernel, by decide +kernel⟩
def w_half_of : WS := (sSeq (sFor (wiR1 (wCons (wC (.int (8))) wNil)) (kName 1)
  (sIf (wB (w2 fEqU (w1 (fFld "Table" "truths") (wVar 0)) (wLc (wiR1 (wCons (wC (.int (8))) wNil)) (kNameC 2) wYes (w2 fLt (w2 fMod (w2 fSub (wVar 2) (wVar 1)) (wC (.int (8)))) (wC (.int (4)))) [2])))
  (sRet (wMake "Half" sp_Half_init (wCons (w2 fIx (wC (.tup [(.tup [(.int (1)), (.int (0))]), (.tup [(.int (0)), (.int (1))]), (.tup [(.int (-1)), (.int (0))]), (.tup [(.int (0)), (.int (-1))])])) (w2 fDiv (wVar 1) (wC (.int (2))))) (wCons (w2 fEqU (w2 fMod (wVar 1) (wC (.int (2)))) (wC (.int (0)))) wNil))))
  sNext))
 (sRet (wC .non)))
def sp_half_of : DSp := fun ds μ Q Xd => ds.length = 1 ∧ w_half_of (defE Q Xd) (startD N_half_of ds) μ
theorem d_half_of (A : Hd K mg) {cdv : Value} {A2 : Around} {fr : List Env} {s : Shared} {H : Hp} {E : XK} {f : Addr} (hr : Room 5 (A2.deeper (envOfC "half_of" (defScope (top 37)) s.heap.objs.size f cdv))) (hgd : (A2.deeper (envOfC "half_of" (defScope (top 37)) s.heap.objs.size f cdv)).guards = some []) :
    DSs none (fun cls d _ H2 => E cls d H2) (cxOf (L2.CX P w) P w K mg base N_half_of "half_of" (defScope (top 37)) f cdv A2 fr s H E) (defBody (top 37)) w_half_of := by
  have hN := (sc_half_of).nd
  exact (dss_cons (ds_for (passes_of rfl) rfl (di_range1 (by rfl) A.f_range (da_cons de_int da_nil)) (dg_name hN rfl) (dss_one (ds_if (dt_cmp (op_eqU (have z := room64 hr; z)) s2_eqU (de_fldD A.fl_Table_truths (dv 0)) (de_lc rfl hN (di_range1 (by rfl) A.f_range (da_cons de_int da_nil)) (blkOk_by (own := [("other", 2)]) (by show blkC N_half_of (defScope (top 37)) _ _ = true; decide +kernel)) (lcg_name (by decide)) (fun _ _ _ _ _ => (pg_name hN rfl (by first | exact Or.inl rfl | exact Or.inr rfl) (by first | exact .inl rfl | exact .inr rfl))) (fun _ _ _ _ _ => dts_nil) (fun _ _ _ _ _ => (de_cmp op_lt s2_IB (de_mod (de_sub (dv 2) (dv 1)) de_int) de_int (nomark _)))) (nomark _)) (dss_one (ds_ret (de_makeD A.ok_Half_init hr (by decide) hgd rfl (takes_of rfl rfl rfl rfl) (da_cons (de_item (de_gdat (by rfl) A.k_AXES) (de_div (dv 1) de_int)) (da_cons (de_cmp (op_eqU (have z := room64 hr; z)) s2_eqU (de_mod (dv 1) de_int) de_int (nomark _)) da_nil))))) dss_nil)))
 (dss_one (ds_ret de_non)))
theorem Hd.ok_half_of (A : Hd K mg) : CallD P w K mg base 6 "half_of" ["table"] sp_half_of := by
  obtain ⟨fd, F⟩ := A.c.def_ 30
  exact ⟨_, fd, A.g_half_of, F.kp, F.bindsN fun _ _ _ _ _ _ us hl => match us, hl with | [_], _ => rfl, def_ok F sc_half_of (fun ds μ Q Xd h => h.1) (fun cdv A2 fr s H E hr hgd => d_half_of A hr hgd) fun ds μ Q Xd h => h.2⟩
/-! table_of -/
abbrev N_table_of : List Str := ["half", "way"]
theorem sc_table_of : FnScope N_table_of ["half"] (defScope (top 36)) := ⟨rfl, rfl, rfl, by decide +kernel, rfl, by decide +kernel, by decide +kernel⟩
def w_table_of : WS := (sSeq (sIf (wAnd (wB (w2 fNeU (w2 fIx (w1 (fFld "Half" "own_way") (wVar 0)) (wC (.int (0)))) (wC (.int (0))))) (wB (w2 fNeU (w2 fIx (w1 (fFld "Half" "own_way") (wVar 0)) (wC (.int (1)))) (wC (.int (0))))))
  (sRet (wC .non))
  sNext)
 (sRet (wMake "Table" sp_Table_init (wCons (wLc (wiT (wC (.tup [(.tup [(.int (1)), (.int (0))]), (.tup [(.int (1)), (.int (1))]), (.tup [(.int (0)), (.int (1))]), (.tup [(.int (-1)), (.int (1))]), (.tup [(.int (-1)), (.int (0))]), (.tup [(.int (-1)), (.int (-1))]), (.tup [(.int (0)), (.int (-1))]), (.tup [(.int (1)), (.int (-1))])]))) (kNameC 1) wYes (wMeth "Half" "has" sp_Half_has (wVar 0) (wCons (wVar 1) wNil)) [1]) wNil))))
def sp_table_of : DSp := fun ds μ Q Xd => ds.length = 1 ∧ w_table_of (defE Q Xd) (startD N_table_of ds) μ
theorem d_table_of (A : Hd K mg) {cdv : Value} {A2 : Around} {fr : List Env} {s : Shared} {H : Hp} {E : XK} {f : Addr} (hr : Room 5 (A2.deeper (envOfC "table_of" (defScope (top 36)) s.heap.objs.size f cdv))) (hgd : (A2.deeper (envOfC "table_of" (defScope (top 36)) s.heap.objs.size f cdv)).guards = some []) :
    DSs none (fun cls d _ H2 => E cls d H2) (cxOf (L2.CX P w) P w K mg base N_table_of "table_of" (defScope (top 36)) f cdv A2 fr s H E) (defBody (top 36)) w_table_of := by
  have hN := (sc_table_of).nd
  exact (dss_cons (ds_if (dt_w (dw_and (dt_cmp (op_neU (have z := room64 hr; z)) s2_neU (de_item (de_fldD A.fl_Half_own_way (dv 0)) de_int) de_int (nomark _)) (dw_and1 (dt_cmp (op_neU (have z := room64 hr; z)) s2_neU (de_item (de_fldD A.fl_Half_own_way (dv 0)) de_int) de_int (nomark _))))) (dss_one (ds_ret de_non)) dss_nil)
 (dss_one (ds_ret (de_makeD A.ok_Table_init hr (by decide) hgd rfl (takes_of rfl rfl rfl rfl) (da_cons (de_lc rfl hN (di_tup (de_gdat (by rfl) A.k_WAYS)) (blkOk_by (own := [("way", 1)]) (by show blkC N_table_of (defScope (top 36)) _ _ = true; decide +kernel)) (lcg_name (by decide)) (fun _ _ _ _ _ => (pg_name hN rfl (by first | exact Or.inl rfl | exact Or.inr rfl) (by first | exact .inl rfl | exact .inr rfl))) (fun _ _ _ _ _ => dts_nil) (fun _ _ _ _ _ => (de_methD A.ok_Half_has hr (by decide) hgd takes0 (dv 0) (da_cons (dv 1) da_nil)))) da_nil)))))
theorem Hd.ok_table_of (A : Hd K mg) : CallD P w K mg base 6 "table_of" ["half"] sp_table_of := by
  obtain ⟨fd, F⟩ := A.c.def_ 31
  exact ⟨_, fd, A.g_table_of, F.kp, F.bindsN fun _ _ _ _ _ _ us hl => match us, hl with | [_], _ => rfl, def_ok F sc_table_of (fun ds μ Q Xd h => h.1) (fun cdv A2 fr s H E hr hgd => d_table_of A hr hgd) fun ds μ Q Xd h => h.2⟩
/-! law -/
abbrev N_law : List Str := ["script", "k", "pool", "turn", "one", "other", "found", "rule", "half", "table", "start"]
theorem sc_law : FnScope N_law ["script"] (defScope (top 52)) := ⟨rfl, rfl, rfl, by decide +kernel, rfl, by decide +kernel, by decide +kernel⟩
def w_law : WS := (sSeq (sFor (wiR1 (wCons (wN fMax2 (wCons (wC (.int (1))) (wCons (wN fMin2 (wCons (wN fLen (wCons (wVar 0) wNil)) (wCons (wC (.int (8))) wNil))) wNil))) wNil)) (kName 1)
  (sSeq (sSet 2 (wCall sp__law_hand (wCons (wVar 0) (wCons (wVar 1) wNil))))
 (sFor (wiR1 (wCons (wC (.int (5))) wNil)) (kName 3)
  (sSeq (sAsg (wTup (wCons (wCall sp__law_near (wCons (wVar 2) wNil)) (wCons (wCall sp__law_near (wCons (wVar 2) wNil)) wNil))) (kTup 2 (kCons (kName 4) (kCons (kName 5) kNil))))
 (sSeq (sSet 6 (w2 (F2.or (fOwn "Table" [] ["Table", "Half"] sp_Rule_le) (fOwn "Half" [] ["Table", "Half"] sp_Rule_le)) (wCall sp__law_made (wCons (wVar 4) wNil)) (wCall sp__law_made (wCons (wVar 5) wNil))))
 (sSeq (sIf (wOr (wNot (wB (wN (fIsi isiT) (wCons (wVar 6) (wCons (wC (.ty "bool")) wNil))))) (wB (w2 fNeU (wVar 6) (wCall sp__law_due (wCons (wVar 4) (wCons (wVar 5) wNil))))))
  (sRet (wC (.bl false)))
  sNext)
 (sSeq (sSet 7 (wCall sp__law_made (wCons (wVar 4) wNil)))
 (sSeq (sIf (wNot (wB (w2 (F2.or (fOwn "Table" [] ["Table", "Half"] sp_Rule_le) (fOwn "Half" [] ["Table", "Half"] sp_Rule_le)) (wVar 7) (wVar 7))))
  (sRet (wC (.bl false)))
  sNext)
 (sIf (wB (w2 fEqU (w2 fIx (wVar 4) (wC (.int (0)))) (wC (.str "table"))))
  (sSeq (sSet 8 (wCall sp_half_of (wCons (wVar 7) wNil)))
 (sSeq (sIf (wAnd (wB (w2 fNotN (wVar 8) (wC .non))) (wNot (wB (wCall sp__law_both (wCons (wVar 8) (wCons (wVar 7) (wCons (wCall sp_table_of (wCons (wVar 8) wNil)) wNil)))))))
  (sRet (wC (.bl false)))
  sNext)
 (sIf (wAnd (wB (w2 fIsN (wVar 8) (wC .non))) (wB (w2 fNeU (wLc (wiR1 (wCons (wC (.int (8))) wNil)) (kNameC 10) (wB (w2 fEqU (w2 fIx (wVar 4) (wC (.int (1)))) (wCall sp__law_arc (wCons (wVar 10) wNil)))) (wC (.int (1))) [10]) (wLst wNil))))
  (sRet (wC (.bl false)))
  sNext)))
  (sSeq (sSet 9 (wCall sp_table_of (wCons (wVar 7) wNil)))
 (sSeq (sIf (wB (w2 fNeU (w2 fIsN (wVar 9) (wC .non)) (wAndV (w2 fNeU (w2 fIx (w2 fIx (wVar 4) (wC (.int (1)))) (wC (.int (0)))) (wC (.int (0)))) (w2 fNeU (w2 fIx (w2 fIx (wVar 4) (wC (.int (1)))) (wC (.int (1)))) (wC (.int (0)))))))
  (sRet (wC (.bl false)))
  sNext)
 (sIf (wAnd (wB (w2 fNotN (wVar 9) (wC .non))) (wNot (wB (wCall sp__law_both (wCons (wVar 9) (wCons (wVar 7) (wCons (wCall sp_half_of (wCons (wVar 9) wNil)) wNil)))))))
  (sRet (wC (.bl false)))
  sNext))))))))))))
 (sRet (wC (.bl true))))
def sp_law : DSp := fun ds μ Q Xd => ds.length = 1 ∧ w_law (defE Q Xd) (startD N_law ds) μ
theorem d_law (A : Hd K mg) {cdv : Value} {A2 : Around} {fr : List Env} {s : Shared} {H : Hp} {E : XK} {f : Addr} (hr : Room 6 (A2.deeper (envOfC "law" (defScope (top 52)) s.heap.objs.size f cdv))) (hgd : (A2.deeper (envOfC "law" (defScope (top 52)) s.heap.objs.size f cdv)).guards = some []) :
    DSs none (fun cls d _ H2 => E cls d H2) (cxOf (L2.CX P w) P w K mg base N_law "law" (defScope (top 52)) f cdv A2 fr s H E) (defBody (top 52)) w_law := by
  have hN := (sc_law).nd
  exact (dss_cons (ds_for (passes_of rfl) rfl (di_range1 (by rfl) A.f_range (da_cons (de_callB (call_max2 (by rfl)) sn_max2 (by rfl) A.f_max bt_max (da_cons de_int (da_cons (de_callB (call_min2 (by rfl)) sn_min2 (by rfl) A.f_min bt_min (da_cons (de_callB call_len_seq sn_len (by rfl) A.f_len bt_len (da_cons (dv 0) da_nil)) (da_cons de_int da_nil))) da_nil))) da_nil)) (dg_name hN rfl) (dss_cons (ds_set (i := 2) hN rfl (de_callD A.ok__law_hand hr (by decide) hgd rfl (takes_of rfl rfl rfl rfl) (da_cons (dv 0) (da_cons (dv 1) da_nil))))
 (dss_one (ds_for (passes_of rfl) rfl (di_range1 (by rfl) A.f_range (da_cons de_int da_nil)) (dg_name hN rfl) (dss_cons (ds_asg (de_tup (da_cons (de_callD A.ok__law_near hr (by decide) hgd rfl (takes_of rfl rfl rfl rfl) (da_cons (dv 2) da_nil)) (da_cons (de_callD A.ok__law_near hr (by decide) hgd rfl (takes_of rfl rfl rfl rfl) (da_cons (dv 2) da_nil)) da_nil))) (dg_tup rfl (dgs_cons (dg_name hN rfl) (dgs_cons (dg_name hN rfl) dgs_nil))))
 (dss_cons (ds_set (i := 6) hN rfl (de_cmp (opR_or (op_own A.cu_Rule_le_Table hr (by decide) hgd) (op_own A.cu_Rule_le_Half hr (by decide) hgd)) (s2_or (s2_own (base := base) (P := P) (w := w) rfl A.cu_Rule_le_Table) (s2_own (base := base) (P := P) (w := w) rfl A.cu_Rule_le_Half)) (de_callD A.ok__law_made hr (by decide) hgd rfl (takes_of rfl rfl rfl rfl) (da_cons (dv 4) da_nil)) (de_callD A.ok__law_made hr (by decide) hgd rfl (takes_of rfl rfl rfl rfl) (da_cons (dv 5) da_nil)) (nomark _)))
 (dss_cons (ds_if (dt_w (dw_or (dt_not (dt_val (de_callB call_isi (sn_isi A.isi) rfl A.f_isinstance bt_isinstance (da_cons (dv 6) (da_cons (de_ty rfl A.f_bool bt_bool) da_nil))))) (dw_or1 (dt_cmp (op_neU (have z := room64 hr; z)) s2_neU (dv 6) (de_callD A.ok__law_due hr (by decide) hgd rfl (takes_of rfl rfl rfl rfl) (da_cons (dv 4) (da_cons (dv 5) da_nil))) (nomark _))))) (dss_one (ds_ret de_bl)) dss_nil)
 (dss_cons (ds_set (i := 7) hN rfl (de_callD A.ok__law_made hr (by decide) hgd rfl (takes_of rfl rfl rfl rfl) (da_cons (dv 4) da_nil)))
 (dss_cons (ds_if (dt_not (dt_cmp (opR_or (op_own A.cu_Rule_le_Table hr (by decide) hgd) (op_own A.cu_Rule_le_Half hr (by decide) hgd)) (s2_or (s2_own (base := base) (P := P) (w := w) rfl A.cu_Rule_le_Table) (s2_own (base := base) (P := P) (w := w) rfl A.cu_Rule_le_Half)) (dv 7) (dv 7) (nomark _))) (dss_one (ds_ret de_bl)) dss_nil)
 (dss_one (ds_if (dt_cmp (op_eqU (have z := room64 hr; z)) s2_eqU (de_item (dv 4) de_int) de_str (nomark _)) (dss_cons (ds_set (i := 8) hN rfl (de_callD A.ok_half_of hr (by decide) hgd rfl (takes_of rfl rfl rfl rfl) (da_cons (dv 7) da_nil)))
 (dss_cons (ds_if (dt_w (dw_and (dt_cmp op_notN s2_notN (dv 8) de_non (nomark _)) (dw_and1 (dt_not (dt_val (de_callD A.ok__law_both hr (by decide) hgd rfl (takes_of rfl rfl rfl rfl) (da_cons (dv 8) (da_cons (dv 7) (da_cons (de_callD A.ok_table_of hr (by decide) hgd rfl (takes_of rfl rfl rfl rfl) (da_cons (dv 8) da_nil)) da_nil))))))))) (dss_one (ds_ret de_bl)) dss_nil)
 (dss_one (ds_if (dt_w (dw_and (dt_cmp op_isN s2_isN (dv 8) de_non (nomark _)) (dw_and1 (dt_cmp (op_neU (have z := room64 hr; z)) s2_neU (de_lc rfl hN (di_range1 (by rfl) A.f_range (da_cons de_int da_nil)) (blkOk_by (own := [("start", 10)]) (by show blkC N_law (defScope (top 52)) _ _ = true; decide +kernel)) (lcg_name (by decide)) (fun _ _ _ _ _ => (pg_name hN rfl (by first | exact Or.inl rfl | exact Or.inr rfl) (by first | exact .inl rfl | exact .inr rfl))) (fun _ _ _ _ _ => (dts_one (dt_cmp (op_eqU (have z := room64 hr; z)) s2_eqU (de_item (dv 4) de_int) (de_callD A.ok__law_arc hr (by decide) hgd rfl takes0 (da_cons (dv 10) da_nil)) (nomark _)))) (fun _ _ _ _ _ => de_int)) (de_lst da_nil) (nomark _))))) (dss_one (ds_ret de_bl)) dss_nil)))) (dss_cons (ds_set (i := 9) hN rfl (de_callD A.ok_table_of hr (by decide) hgd rfl (takes_of rfl rfl rfl rfl) (da_cons (dv 7) da_nil)))
 (dss_cons (ds_if (dt_cmp (op_neU (have z := room64 hr; z)) s2_neU (de_cmp op_isN s2_isN (dv 9) de_non (nomark _)) (de_and (de_cmp (op_neU (have z := room64 hr; z)) s2_neU (de_item (de_item (dv 4) de_int) de_int) de_int (nomark _)) (de_one (de_cmp (op_neU (have z := room64 hr; z)) s2_neU (de_item (de_item (dv 4) de_int) de_int) de_int (nomark _)))) (nomark _)) (dss_one (ds_ret de_bl)) dss_nil)
 (dss_one (ds_if (dt_w (dw_and (dt_cmp op_notN s2_notN (dv 9) de_non (nomark _)) (dw_and1 (dt_not (dt_val (de_callD A.ok__law_both hr (by decide) hgd rfl (takes_of rfl rfl rfl rfl) (da_cons (dv 9) (da_cons (dv 7) (da_cons (de_callD A.ok_half_of hr (by decide) hgd rfl (takes_of rfl rfl rfl rfl) (da_cons (dv 9) da_nil)) da_nil))))))))) (dss_one (ds_ret de_bl)) dss_nil)))))))))))))))
 (dss_one (ds_ret de_bl)))
theorem Hd.ok_law (A : Hd K mg) : CallD P w K mg base 7 "law" ["script"] sp_law := by
  obtain ⟨fd, F⟩ := A.c.def_ 32
  exact ⟨_, fd, A.g_law, F.kp, F.bindsN fun _ _ _ _ _ _ us hl => match us, hl with | [_], _ => rfl, def_ok F sc_law (fun ds μ Q Xd h => h.1) (fun cdv A2 fr s H E hr hgd => d_law A hr hgd) fun ds μ Q Xd h => h.2⟩
end
theorem isi_0 : isiF isiL (.b "int") (.c "Half") = some false := by decide +kernel
theorem isi_1 : isiF isiL (.b "bool") (.c "Half") = some false := by decide +kernel
theorem isi_2 : isiF isiL (.b "str") (.c "Half") = some false := by decide +kernel
theorem isi_3 : isiF isiL (.b "NoneType") (.c "Half") = some false := by decide +kernel
theorem isi_4 : isiF isiL (.b "tuple") (.c "Half") = some false := by decide +kernel
theorem isi_5 : isiF isiL (.b "list") (.c "Half") = some false := by decide +kernel
theorem isi_6 : isiF isiL (.c "Table") (.c "Half") = some false := by decide +kernel
theorem isi_7 : isiF isiL (.c "Half") (.c "Half") = some true := by decide +kernel
theorem isi_8 : isiF isiL (.b "int") (.c "Rule") = some false := by decide +kernel
theorem isi_9 : isiF isiL (.b "bool") (.c "Rule") = some false := by decide +kernel
theorem isi_10 : isiF isiL (.b "str") (.c "Rule") = some false := by decide +kernel
theorem isi_11 : isiF isiL (.b "NoneType") (.c "Rule") = some false := by decide +kernel
theorem isi_12 : isiF isiL (.b "tuple") (.c "Rule") = some false := by decide +kernel
theorem isi_13 : isiF isiL (.b "list") (.c "Rule") = some false := by decide +kernel
theorem isi_14 : isiF isiL (.c "Table") (.c "Rule") = some true := by decide +kernel
theorem isi_15 : isiF isiL (.c "Half") (.c "Rule") = some true := by decide +kernel
theorem isi_16 : isiF isiL (.b "int") (.c "Table") = some false := by decide +kernel
theorem isi_17 : isiF isiL (.b "bool") (.c "Table") = some false := by decide +kernel
theorem isi_18 : isiF isiL (.b "str") (.c "Table") = some false := by decide +kernel
theorem isi_19 : isiF isiL (.b "NoneType") (.c "Table") = some false := by decide +kernel
theorem isi_20 : isiF isiL (.b "tuple") (.c "Table") = some false := by decide +kernel
theorem isi_21 : isiF isiL (.b "list") (.c "Table") = some false := by decide +kernel
theorem isi_22 : isiF isiL (.c "Table") (.c "Table") = some true := by decide +kernel
theorem isi_23 : isiF isiL (.c "Half") (.c "Table") = some false := by decide +kernel
theorem isi_24 : isiF isiL (.b "int") (.b "bool") = some false := by decide +kernel
theorem isi_25 : isiF isiL (.b "bool") (.b "bool") = some true := by decide +kernel
theorem isi_26 : isiF isiL (.b "str") (.b "bool") = some false := by decide +kernel
theorem isi_27 : isiF isiL (.b "NoneType") (.b "bool") = some false := by decide +kernel
theorem isi_28 : isiF isiL (.b "tuple") (.b "bool") = some false := by decide +kernel
theorem isi_29 : isiF isiL (.b "list") (.b "bool") = some false := by decide +kernel
theorem isi_30 : isiF isiL (.c "Table") (.b "bool") = some false := by decide +kernel
theorem isi_31 : isiF isiL (.c "Half") (.b "bool") = some false := by decide +kernel
theorem isi_32 : isiF isiL (.b "int") (.b "int") = some true := by decide +kernel
theorem isi_33 : isiF isiL (.b "bool") (.b "int") = some true := by decide +kernel
theorem isi_34 : isiF isiL (.b "str") (.b "int") = some false := by decide +kernel
theorem isi_35 : isiF isiL (.b "NoneType") (.b "int") = some false := by decide +kernel
theorem isi_36 : isiF isiL (.b "tuple") (.b "int") = some false := by decide +kernel
theorem isi_37 : isiF isiL (.b "list") (.b "int") = some false := by decide +kernel
theorem isi_38 : isiF isiL (.c "Table") (.b "int") = some false := by decide +kernel
theorem isi_39 : isiF isiL (.c "Half") (.b "int") = some false := by decide +kernel
theorem isi_40 : isiF isiL (.b "int") (.c "Point") = some false := by decide +kernel
theorem isi_41 : isiF isiL (.b "bool") (.c "Point") = some false := by decide +kernel
theorem isi_42 : isiF isiL (.b "str") (.c "Point") = some false := by decide +kernel
theorem isi_43 : isiF isiL (.b "NoneType") (.c "Point") = some false := by decide +kernel
theorem isi_44 : isiF isiL (.b "tuple") (.c "Point") = some false := by decide +kernel
theorem isi_45 : isiF isiL (.b "list") (.c "Point") = some false := by decide +kernel
theorem isi_46 : isiF isiL (.c "Table") (.c "Point") = some false := by decide +kernel
theorem isi_47 : isiF isiL (.c "Half") (.c "Point") = some false := by decide +kernel
theorem isi_48 : isiF isiL (.b "int") (.b "tuple") = some false := by decide +kernel
theorem isi_49 : isiF isiL (.b "bool") (.b "tuple") = some false := by decide +kernel
theorem isi_50 : isiF isiL (.b "str") (.b "tuple") = some false := by decide +kernel
theorem isi_51 : isiF isiL (.b "NoneType") (.b "tuple") = some false := by decide +kernel
theorem isi_52 : isiF isiL (.b "tuple") (.b "tuple") = some true := by decide +kernel
theorem isi_53 : isiF isiL (.b "list") (.b "tuple") = some false := by decide +kernel
theorem isi_54 : isiF isiL (.c "Table") (.b "tuple") = some false := by decide +kernel
theorem isi_55 : isiF isiL (.c "Half") (.b "tuple") = some false := by decide +kernel
theorem isi_56 : isiF isiL (.b "int") (.b "list") = some false := by decide +kernel
theorem isi_57 : isiF isiL (.b "bool") (.b "list") = some false := by decide +kernel
theorem isi_58 : isiF isiL (.b "str") (.b "list") = some false := by decide +kernel
theorem isi_59 : isiF isiL (.b "NoneType") (.b "list") = some false := by decide +kernel
theorem isi_60 : isiF isiL (.b "tuple") (.b "list") = some false := by decide +kernel
theorem isi_61 : isiF isiL (.b "list") (.b "list") = some true := by decide +kernel
theorem isi_62 : isiF isiL (.c "Table") (.b "list") = some false := by decide +kernel
theorem isi_63 : isiF isiL (.c "Half") (.b "list") = some false := by decide +kernel
end K09

set_option Elab.async false
set_option linter.all false
set_option maxRecDepth 100000
set_option maxHeartbeats 4000000
set_option autoImplicit false
set_option exponentiation.threshold 3000
namespace K09
open PySem PySem.Spec PyProof.Rows L2 DL
local macro_rules
  | `(tactic| walk_at "dk") => `(tactic| try simp only [x_subO, x_subO1, x_subO2, v_slo, v_slo1, w_ff, w_ft, w_tf, w_tt, false_and, and_false, v_ix, v_ix1, v_ix2, v_inv, v_inv1, v_co, v_co1, v_co2, v_len, v_len1, isiD, tyD, clD, r_insobj, fldOf, DL.isNon, items_tup, items_lst, items_frl, hasCls, othTy, insD, DL.putK, DL.putD, initEnd, startI, startD, DL.wipeD, List.map_cons, List.map_nil, List.length_cons, List.length_nil, List.getElem?_cons_zero, List.getElem?_cons_succ, List.getElem?_nil, List.set_cons_zero, List.set_cons_succ, List.cons_append, List.nil_append, List.append_nil, List.replicate, Nat.sub_self, Nat.reduceSub, Nat.reduceAdd, Nat.reduceLeDiff, Nat.reduceEqDiff, Nat.reduceLT, Int.reduceLT, Int.reduceLE, if_true, if_false, Bool.not_true, Bool.not_false, reduceIte, reduceCtorEq, true_and, and_true, Nat.zero_add, Bool.true_eq_false, Bool.false_eq_true, eqU_int, eqU_str, eqU_bl, str_eq, str_beq, String.reduceEq, decide_true, decide_false, decide_eq_true_eq, pl_items, pl_st0, pl_st1, pl_fold, notOwn, List.mem_singleton, List.mem_cons, List.not_mem_nil, or_false, false_or, or_true, true_or, forall_eq, forall_eq_or_imp, implies_true, Int.reduceToNat, Int.reduceEq, Int.reduceNe, Int.reduceAdd, Int.reduceSub, Int.reduceMul, Int.reducePow, Int.reduceMod, Int.reduceDiv, atI_0, atI_1, atI_2, atI_3, rg1, rg2, startI, r_var, r_var2, r_c, r_w2, r_w2a, r_w2b, r_w1, r_w1a, r_wB, r_wBa, r_ch, r_ch1, r_ch2, r_ch3t, r_ch3f, r_and, r_andt, r_andf, r_or, r_ort, r_orf, r_not, r_nota, r_ife, r_ifet, r_ifef, r_andv, r_andvt, r_andvf, r_orv, r_orvt, r_orvf, r_notv, r_notva, r_nil, r_cons, r_cons1, r_cons2, r_tup, r_tupa, r_lst, r_lsta, r_lstc, r_lstca, r_wn, r_wna, r_call, r_calla, r_mk, r_mk1, r_mk2, r_mkc, r_mkc1, r_mkc2, r_me, r_me1, r_me2, r_bo, r_bo1, r_bo2, r_onone, r_osome, r_osomea, r_sl, r_sl1, r_sl2, r_sl3, r_sl3f, r_ii, r_ii0, r_ib, r_i1, r_plus, r_plusl, r_times, r_timesl, r_isn, r_notn, r_eqd, r_ned, r_int1, r_int1b, r_max2, r_min2, r_abs, r_ix, r_ix2, r_ix3, r_len, r_len2, r_isi, r_isi2, r_fld, r_fld2, r_fld3, r_insobj, r_kx, r_next, r_never, r_seq, r_seqa, r_if, r_ift, r_iff, r_ret, r_retn, r_brk, r_cnt, r_drop, r_dropa, r_set, r_seta, r_asg, r_asga, r_name, r_namec, r_ktup, r_kunl, r_kcons, r_kcs, r_knil, r_par2, r_par2a, r_par3, r_par3a, r_aug, r_auga, r_augb, r_augc, r_for, r_fora, r_knx, r_fldo, r_fldoa, r_put, r_frz, r_frz2, r_frz3, r_frz4, r_cl, r_seto, r_setoa, r_wil, r_wila, r_wilf, r_wit, r_wita, r_wi1, r_wi1a, r_wi2, r_wi2a, r_wie, r_wiea, r_wiz, r_wiza, r_wizt, r_lc, r_lc0, r_lcn, r_lcc, r_lc1, r_lc2t, r_lc2f, r_lc3, r_yes, r_sub, r_sub1, r_sub2, r_sub3, r_dnx, r_drt, r_dxc, r_inx, r_init, r_ixc, t_raise, t_raise2, t_try, t_cat, t_catt, t_catf, t_sunx, t_surt, t_nx0, t_nx1, t_nx2, t_nx3, t_prop, t_prop2, t_xf, t_xf2, t_isx, t_isx2, t_wht, t_whf, t_equ, t_neu, t_el, List.reverse_cons, List.reverse_nil, isiDT, anyT, List.all_cons, List.all_nil, Option.isSome_some, Bool.and_true, Bool.true_and, u_lof, u_lof2, u_tof, u_tof2, u_isiT, u_dict, u_bl, u_ownN, u_has, u_hasN, u_bk, u_bk1, u_bk2, u_stat, u_ap, u_ap1, u_ap2, u_ex, u_ex1, u_ex2, u_ownL, u_olen, u_oix, u_oix1, u_oin, u_sumT, u_sumL, u_mu, u_mu1, u_hot, u_hot1, startX, u_mb, u_mb1, u_mb1f, u_mb2, u_rev, u_revf, u_wio, u_wex, u_wel, u_wef, u_wet, u_en, u_en0, u_enc, u_enn, Int.cast_ofNat_Int, u_wzx, u_wzl, u_wzt, u_wzm, u_zd, u_zd0, intsD, DL.intD, u_kd, isTy, Bool.true_xor, Bool.false_xor, eqU_pl, p_int, p_bl, p_non, p_tup, p_lst, p_frl, p0_int, p0_bl, p0_non, deq, deqs, Bool.and_true, Bool.and_false, Bool.false_and, List.contains_cons, List.contains_nil, Bool.or_false, Bool.false_or, Bool.or_self, eq_self, beq_self_eq_true, Bool.not_true, Bool.not_false, List.flatten_cons, List.flatten_nil, isi_0, isi_1, isi_2, isi_3, isi_4, isi_5, isi_6, isi_7, isi_8, isi_9, isi_10, isi_11, isi_12, isi_13, isi_14, isi_15, isi_16, isi_17, isi_18, isi_19, isi_20, isi_21, isi_22, isi_23, isi_24, isi_25, isi_26, isi_27, isi_28, isi_29, isi_30, isi_31, isi_32, isi_33, isi_34, isi_35, isi_36, isi_37, isi_38, isi_39, isi_40, isi_41, isi_42, isi_43, isi_44, isi_45, isi_46, isi_47, isi_48, isi_49, isi_50, isi_51, isi_52, isi_53, isi_54, isi_55, isi_56, isi_57, isi_58, isi_59, isi_60, isi_61, isi_62, isi_63])
local macro_rules
  | `(tactic| walk_at "ds") => `(tactic| try simp only [x_subO, x_subO1, x_subO2, v_slo, v_slo1, w_ff, w_ft, w_tf, w_tt, false_and, and_false, isClsU, v_ix, v_ix1, v_ix2, v_inv, v_inv1, v_co, v_co1, v_co2, v_len, v_len1, v_f2or, isiD, tyD, clD, r_insobj, fldOf, DL.isNon, items_tup, items_lst, items_frl, hasCls, isCls, othTy, insD, DL.putK, DL.putD, initEnd, startI, startD, DL.wipeD, List.map_cons, List.map_nil, List.length_cons, List.length_nil, List.getElem?_cons_zero, List.getElem?_cons_succ, List.getElem?_nil, List.set_cons_zero, List.set_cons_succ, List.cons_append, List.nil_append, List.append_nil, List.replicate, Nat.sub_self, Nat.reduceSub, Nat.reduceAdd, Nat.reduceLeDiff, Nat.reduceEqDiff, Nat.reduceLT, Int.reduceLT, Int.reduceLE, if_true, if_false, Bool.not_true, Bool.not_false, reduceIte, reduceCtorEq, true_and, and_true, Nat.zero_add, Bool.true_eq_false, Bool.false_eq_true, eqU_int, eqU_str, eqU_bl, str_eq, str_beq, String.reduceEq, decide_true, decide_false, decide_eq_true_eq, pl_items, pl_st0, pl_st1, pl_fold, notOwn, List.mem_singleton, List.mem_cons, List.not_mem_nil, or_false, false_or, or_true, true_or, forall_eq, forall_eq_or_imp, implies_true, Int.reduceToNat, Int.reduceEq, Int.reduceNe, Int.reduceAdd, Int.reduceSub, Int.reduceMul, Int.reducePow, Int.reduceMod, Int.reduceDiv, atI_0, atI_1, atI_2, atI_3, rg1, rg2, startI, r_var, r_var2, r_c, r_w2, r_w2a, r_w2b, r_w1, r_w1a, r_wB, r_wBa, r_ch, r_ch1, r_ch2, r_ch3t, r_ch3f, r_and, r_andt, r_andf, r_or, r_ort, r_orf, r_not, r_nota, r_ife, r_ifet, r_ifef, r_andv, r_andvt, r_andvf, r_orv, r_orvt, r_orvf, r_notv, r_notva, r_nil, r_cons, r_cons1, r_cons2, r_tup, r_tupa, r_lst, r_lsta, r_lstc, r_lstca, r_wn, r_wna, r_call, r_calla, r_mk, r_mk1, r_mk2, r_mkc, r_mkc1, r_mkc2, r_me, r_me1, r_me2, r_bo, r_bo1, r_bo2, r_onone, r_osome, r_osomea, r_sl, r_sl1, r_sl2, r_sl3, r_sl3f, r_ii, r_ii0, r_ib, r_i1, r_plus, r_plusl, r_times, r_timesl, r_isn, r_notn, r_eqd, r_ned, r_int1, r_int1b, r_max2, r_min2, r_abs, r_ix, r_ix2, r_ix3, r_len, r_len2, r_isi, r_isi2, r_fld, r_fld2, r_fld3, r_insobj, r_kx, r_next, r_never, r_seqa, r_if, r_ift, r_iff, r_ret, r_retn, r_brk, r_cnt, r_drop, r_dropa, r_set, r_seta, r_asg, r_asga, r_name, r_namec, r_ktup, r_kunl, r_kcons, r_kcs, r_knil, r_par2, r_par2a, r_par3, r_par3a, r_aug, r_auga, r_augb, r_augc, r_for, r_fora, r_knx, r_fldo, r_fldoa, r_put, r_frz, r_frz2, r_frz3, r_frz4, r_cl, r_seto, r_setoa, r_wil, r_wila, r_wilf, r_wit, r_wita, r_wi1, r_wi1a, r_wi2, r_wi2a, r_wie, r_wiea, r_wiz, r_wiza, r_wizt, r_lc, r_lc0, r_lcn, r_lcc, r_lc1, r_lc2t, r_lc2f, r_lc3, r_yes, r_sub, r_sub1, r_sub2, r_sub3, r_dnx, r_drt, r_dxc, r_inx, r_init, r_ixc, t_raise, t_raise2, t_try, t_cat, t_catt, t_catf, t_sunx, t_surt, t_nx0, t_nx1, t_nx2, t_nx3, t_prop, t_prop2, t_xf, t_xf2, t_isx, t_isx2, t_wht, t_whf, t_equ, t_neu, t_el, List.reverse_cons, List.reverse_nil, isiDT, anyT, List.all_cons, List.all_nil, Option.isSome_some, Bool.and_true, Bool.true_and, u_lof, u_lof2, u_tof, u_tof2, u_isiT, u_dict, u_bl, u_own, u_ownN, u_has, u_hasN, u_bk, u_bk1, u_bk2, u_stat, u_ap, u_ap1, u_ap2, u_ex, u_ex1, u_ex2, u_ownL, u_olen, u_oix, u_oix1, u_oin, u_sumT, u_sumL, u_mu, u_mu1, u_hot, u_hot1, startX, u_mb, u_mb1, u_mb1f, u_mb2, u_rev, u_revf, u_wio, u_wex, u_wel, u_wef, u_wet, u_en, u_en0, u_enc, u_enn, Int.cast_ofNat_Int, u_wzx, u_wzl, u_wzt, u_wzm, u_zd, u_zd0, intsD, DL.intD, u_kd, othC, isTy, Bool.true_xor, Bool.false_xor, eqU_pl, p_int, p_bl, p_non, p_tup, p_lst, p_frl, p0_int, p0_bl, p0_non, deq, deqs, Bool.and_true, Bool.and_false, Bool.false_and, List.contains_cons, List.contains_nil, Bool.or_false, Bool.false_or, Bool.or_self, eq_self, beq_self_eq_true, Bool.not_true, Bool.not_false, List.flatten_cons, List.flatten_nil, isi_0, isi_1, isi_2, isi_3, isi_4, isi_5, isi_6, isi_7, isi_8, isi_9, isi_10, isi_11, isi_12, isi_13, isi_14, isi_15, isi_16, isi_17, isi_18, isi_19, isi_20, isi_21, isi_22, isi_23, isi_24, isi_25, isi_26, isi_27, isi_28, isi_29, isi_30, isi_31, isi_32, isi_33, isi_34, isi_35, isi_36, isi_37, isi_38, isi_39, isi_40, isi_41, isi_42, isi_43, isi_44, isi_45, isi_46, isi_47, isi_48, isi_49, isi_50, isi_51, isi_52, isi_53, isi_54, isi_55, isi_56, isi_57, isi_58, isi_59, isi_60, isi_61, isi_62, isi_63])
local macro_rules
  | `(tactic| walk_at "dn") => `(tactic| try simp only [x_subO, x_subO1, x_subO2, v_slo, v_slo1, w_ff, w_ft, w_tf, w_tt, false_and, and_false, isClsU, v_ix, v_ix1, v_ix2, v_inv, v_inv1, v_co, v_co1, v_co2, v_len, v_len1, v_f2or, isiD, tyD, clD, r_insobj, fldOf, DL.isNon, items_tup, items_lst, items_frl, hasCls, isCls, othTy, insD, DL.putK, DL.putD, initEnd, startI, startD, DL.wipeD, List.map_cons, List.map_nil, List.length_cons, List.length_nil, List.getElem?_cons_zero, List.getElem?_cons_succ, List.getElem?_nil, List.set_cons_zero, List.set_cons_succ, List.cons_append, List.nil_append, List.append_nil, List.replicate, Nat.sub_self, Nat.reduceSub, Nat.reduceAdd, Nat.reduceLeDiff, Nat.reduceEqDiff, Nat.reduceLT, Int.reduceLT, Int.reduceLE, if_true, if_false, Bool.not_true, Bool.not_false, reduceIte, reduceCtorEq, true_and, and_true, Nat.zero_add, Bool.true_eq_false, Bool.false_eq_true, eqU_int, eqU_str, eqU_bl, str_eq, str_beq, String.reduceEq, decide_true, decide_false, decide_eq_true_eq, pl_items, pl_st0, pl_st1, pl_fold, notOwn, List.mem_singleton, List.mem_cons, List.not_mem_nil, or_false, false_or, or_true, true_or, forall_eq, forall_eq_or_imp, implies_true, Int.reduceToNat, Int.reduceEq, Int.reduceNe, Int.reduceAdd, Int.reduceSub, Int.reduceMul, Int.reducePow, Int.reduceMod, Int.reduceDiv, atI_0, atI_1, atI_2, atI_3, rg1, rg2, startI, r_var, r_var2, r_c, r_w2, r_w2a, r_w2b, r_w1, r_w1a, r_wB, r_wBa, r_ch, r_ch1, r_ch2, r_ch3t, r_ch3f, r_and, r_andt, r_andf, r_or, r_ort, r_orf, r_not, r_nota, r_ife, r_ifet, r_ifef, r_andv, r_andvt, r_andvf, r_orv, r_orvt, r_orvf, r_notv, r_notva, r_nil, r_cons, r_cons1, r_cons2, r_tup, r_tupa, r_lst, r_lsta, r_lstc, r_lstca, r_wn, r_wna, r_call, r_calla, r_mk, r_mk1, r_mk2, r_mkc, r_mkc1, r_mkc2, r_me, r_me1, r_me2, r_bo, r_bo1, r_bo2, r_onone, r_osome, r_osomea, r_sl, r_sl1, r_sl2, r_sl3, r_sl3f, r_ii, r_ii0, r_ib, r_i1, r_plus, r_plusl, r_times, r_timesl, r_isn, r_notn, r_eqd, r_ned, r_int1, r_int1b, r_max2, r_min2, r_abs, r_ix, r_ix2, r_ix3, r_len, r_len2, r_isi, r_isi2, r_fld, r_fld2, r_fld3, r_insobj, r_kx, r_next, r_never, r_seq, r_seqa, r_if, r_ift, r_iff, r_ret, r_retn, r_brk, r_cnt, r_drop, r_dropa, r_set, r_seta, r_asg, r_asga, r_name, r_namec, r_ktup, r_kunl, r_kcons, r_kcs, r_knil, r_par2, r_par2a, r_par3, r_par3a, r_aug, r_auga, r_augb, r_augc, r_for, r_fora, r_knx, r_fldo, r_fldoa, r_put, r_frz, r_frz2, r_frz3, r_frz4, r_cl, r_seto, r_setoa, r_wil, r_wila, r_wilf, r_wit, r_wita, r_wi1, r_wi1a, r_wi2, r_wi2a, r_wie, r_wiea, r_wiz, r_wiza, r_wizt, r_lc, r_lc0, r_lcn, r_lcc, r_lc1, r_lc2t, r_lc2f, r_lc3, r_yes, r_sub, r_sub1, r_sub2, r_sub3, r_dnx, r_drt, r_dxc, r_inx, r_init, r_ixc, t_raise, t_raise2, t_try, t_cat, t_catt, t_catf, t_sunx, t_surt, t_nx0, t_nx1, t_nx2, t_nx3, t_prop, t_prop2, t_xf, t_xf2, t_isx, t_isx2, t_wht, t_whf, t_equ, t_neu, t_el, List.reverse_cons, List.reverse_nil, isiDT, anyT, List.all_cons, List.all_nil, Option.isSome_some, Bool.and_true, Bool.true_and, u_lof, u_lof2, u_tof, u_tof2, u_isiT, u_dict, u_bl, u_own, u_ownN, u_has, u_hasN, u_bk, u_bk1, u_bk2, u_stat, u_ap, u_ap1, u_ap2, u_ex, u_ex1, u_ex2, u_ownL, u_olen, u_oix, u_oix1, u_oin, u_sumT, u_sumL, u_mu, u_mu1, u_hot, u_hot1, startX, u_mb, u_mb1, u_mb1f, u_mb2, u_rev, u_revf, u_wio, u_wex, u_wel, u_wef, u_wet, u_en, u_en0, u_enc, u_enn, Int.cast_ofNat_Int, u_wzx, u_wzl, u_wzt, u_wzm, u_zd, u_zd0, intsD, DL.intD, u_kd, othC, isTy, Bool.true_xor, Bool.false_xor, eqU_pl, p_int, p_bl, p_non, p_tup, p_lst, p_frl, p0_int, p0_bl, p0_non, deq, deqs, Bool.and_true, Bool.and_false, Bool.false_and, List.contains_cons, List.contains_nil, Bool.or_false, Bool.false_or, Bool.or_self, eq_self, beq_self_eq_true, Bool.not_true, Bool.not_false, List.flatten_cons, List.flatten_nil, isi_0, isi_1, isi_2, isi_3, isi_4, isi_5, isi_6, isi_7, isi_8, isi_9, isi_10, isi_11, isi_12, isi_13, isi_14, isi_15, isi_16, isi_17, isi_18, isi_19, isi_20, isi_21, isi_22, isi_23, isi_24, isi_25, isi_26, isi_27, isi_28, isi_29, isi_30, isi_31, isi_32, isi_33, isi_34, isi_35, isi_36, isi_37, isi_38, isi_39, isi_40, isi_41, isi_42, isi_43, isi_44, isi_45, isi_46, isi_47, isi_48, isi_49, isi_50, isi_51, isi_52, isi_53, isi_54, isi_55, isi_56, isi_57, isi_58, isi_59, isi_60, isi_61, isi_62, isi_63])
local macro_rules
  | `(tactic| walk_at "dl1") => `(tactic| simp only [x_subO, x_subO1, x_subO2, v_slo, v_slo1, w_ff, w_ft, w_tf, w_tt, false_and, and_false, isClsU, v_ix, v_ix1, v_ix2, v_inv, v_inv1, v_co, v_co1, v_co2, v_len, v_len1, v_f2or, isiD, tyD, clD, r_insobj, fldOf, DL.isNon, items_tup, items_lst, items_frl, hasCls, isCls, othTy, insD, DL.putK, DL.putD, initEnd, startI, startD, DL.wipeD, List.map_cons, List.map_nil, List.length_cons, List.length_nil, List.getElem?_cons_zero, List.getElem?_cons_succ, List.getElem?_nil, List.set_cons_zero, List.set_cons_succ, List.cons_append, List.nil_append, List.append_nil, List.replicate, Nat.sub_self, Nat.reduceSub, Nat.reduceAdd, Nat.reduceLeDiff, Nat.reduceEqDiff, Nat.reduceLT, Int.reduceLT, Int.reduceLE, if_true, if_false, Bool.not_true, Bool.not_false, reduceIte, reduceCtorEq, true_and, and_true, Nat.zero_add, Bool.true_eq_false, Bool.false_eq_true, eqU_int, eqU_str, eqU_bl, str_eq, str_beq, String.reduceEq, decide_true, decide_false, decide_eq_true_eq, pl_items, pl_st0, pl_st1, pl_fold, notOwn, List.mem_singleton, List.mem_cons, List.not_mem_nil, or_false, false_or, or_true, true_or, forall_eq, forall_eq_or_imp, implies_true, range_succ, range_zero, Int.reduceToNat, Int.reduceEq, Int.reduceNe, Int.reduceAdd, Int.reduceSub, Int.reduceMul, Int.reducePow, Int.reduceMod, Int.reduceDiv, atI_0, atI_1, atI_2, atI_3, rg1, rg2, startI, r_var, r_var2, r_c, r_w2, r_w2a, r_w2b, r_w1, r_w1a, r_wB, r_wBa, r_ch, r_ch1, r_ch2, r_ch3t, r_ch3f, r_and, r_andt, r_andf, r_or, r_ort, r_orf, r_not, r_nota, r_ife, r_ifet, r_ifef, r_andv, r_andvt, r_andvf, r_orv, r_orvt, r_orvf, r_notv, r_notva, r_nil, r_cons, r_cons1, r_cons2, r_tup, r_tupa, r_lst, r_lsta, r_lstc, r_lstca, r_wn, r_wna, r_call, r_calla, r_mk, r_mk1, r_mk2, r_mkc, r_mkc1, r_mkc2, r_me, r_me1, r_me2, r_bo, r_bo1, r_bo2, r_onone, r_osome, r_osomea, r_sl, r_sl1, r_sl2, r_sl3, r_sl3f, r_ii, r_ii0, r_ib, r_i1, r_plus, r_plusl, r_times, r_timesl, r_isn, r_notn, r_eqd, r_ned, r_int1, r_int1b, r_max2, r_min2, r_abs, r_ix, r_ix2, r_ix3, r_len, r_len2, r_isi, r_isi2, r_fld, r_fld2, r_fld3, r_insobj, r_kx, r_next, r_never, r_seq, r_seqa, r_if, r_ift, r_iff, r_ret, r_retn, r_brk, r_cnt, r_drop, r_dropa, r_set, r_seta, r_asg, r_asga, r_name, r_namec, r_ktup, r_kunl, r_kcons, r_kcs, r_knil, r_par2, r_par2a, r_par3, r_par3a, r_aug, r_auga, r_augb, r_augc, r_for, r_fora, r_knx, r_fldo, r_fldoa, r_put, r_frz, r_frz2, r_frz3, r_frz4, r_cl, r_seto, r_setoa, r_wil, r_wila, r_wilf, r_wit, r_wita, r_wi1, r_wi1a, r_wi2, r_wi2a, r_wie, r_wiea, r_wiz, r_wiza, r_wizt, r_lc, r_lc0, r_lcn, r_lcc, r_lc1, r_lc2t, r_lc2f, r_lc3, r_yes, r_sub, r_sub1, r_sub2, r_sub3, r_dnx, r_drt, r_dxc, r_inx, r_init, r_ixc, t_raise, t_raise2, t_try, t_cat, t_catt, t_catf, t_sunx, t_surt, t_nx0, t_nx1, t_nx2, t_nx3, t_prop, t_prop2, t_xf, t_xf2, t_isx, t_isx2, t_wht, t_whf, t_equ, t_neu, t_el, List.reverse_cons, List.reverse_nil, isiDT, anyT, List.all_cons, List.all_nil, Option.isSome_some, Bool.and_true, Bool.true_and, u_lof, u_lof2, u_tof, u_tof2, u_isiT, u_dict, u_bl, u_own, u_ownN, u_has, u_hasN, u_bk, u_bk1, u_bk2, u_stat, u_ap, u_ap1, u_ap2, u_ex, u_ex1, u_ex2, u_ownL, u_olen, u_oix, u_oix1, u_oin, u_sumT, u_sumL, u_mu, u_mu1, u_hot, u_hot1, startX, u_mb, u_mb1, u_mb1f, u_mb2, u_rev, u_revf, u_wio, u_wex, u_wel, u_wef, u_wet, u_en, u_en0, u_enc, u_enn, Int.cast_ofNat_Int, u_wzx, u_wzl, u_wzt, u_wzm, u_zd, u_zd0, intsD, DL.intD, u_kd, othC, isTy, Bool.true_xor, Bool.false_xor, eqU_pl, p_int, p_bl, p_non, p_tup, p_lst, p_frl, p0_int, p0_bl, p0_non, deq, deqs, Bool.and_true, Bool.and_false, Bool.false_and, List.contains_cons, List.contains_nil, Bool.or_false, Bool.false_or, Bool.or_self, eq_self, beq_self_eq_true, Bool.not_true, Bool.not_false, List.flatten_cons, List.flatten_nil, isi_0, isi_1, isi_2, isi_3, isi_4, isi_5, isi_6, isi_7, isi_8, isi_9, isi_10, isi_11, isi_12, isi_13, isi_14, isi_15, isi_16, isi_17, isi_18, isi_19, isi_20, isi_21, isi_22, isi_23, isi_24, isi_25, isi_26, isi_27, isi_28, isi_29, isi_30, isi_31, isi_32, isi_33, isi_34, isi_35, isi_36, isi_37, isi_38, isi_39, isi_40, isi_41, isi_42, isi_43, isi_44, isi_45, isi_46, isi_47, isi_48, isi_49, isi_50, isi_51, isi_52, isi_53, isi_54, isi_55, isi_56, isi_57, isi_58, isi_59, isi_60, isi_61, isi_62, isi_63])
local macro_rules
  | `(tactic| walk_at "dl") => `(tactic| try simp only [x_subO, x_subO1, x_subO2, v_slo, v_slo1, w_ff, w_ft, w_tf, w_tt, false_and, and_false, isClsU, v_ix, v_ix1, v_ix2, v_inv, v_inv1, v_co, v_co1, v_co2, v_len, v_len1, v_f2or, isiD, tyD, clD, r_insobj, fldOf, DL.isNon, items_tup, items_lst, items_frl, hasCls, isCls, othTy, insD, DL.putK, DL.putD, initEnd, startI, startD, DL.wipeD, List.map_cons, List.map_nil, List.length_cons, List.length_nil, List.getElem?_cons_zero, List.getElem?_cons_succ, List.getElem?_nil, List.set_cons_zero, List.set_cons_succ, List.cons_append, List.nil_append, List.append_nil, List.replicate, Nat.sub_self, Nat.reduceSub, Nat.reduceAdd, Nat.reduceLeDiff, Nat.reduceEqDiff, Nat.reduceLT, Int.reduceLT, Int.reduceLE, if_true, if_false, Bool.not_true, Bool.not_false, reduceIte, reduceCtorEq, true_and, and_true, Nat.zero_add, Bool.true_eq_false, Bool.false_eq_true, eqU_int, eqU_str, eqU_bl, str_eq, str_beq, String.reduceEq, decide_true, decide_false, decide_eq_true_eq, pl_items, pl_st0, pl_st1, pl_fold, notOwn, List.mem_singleton, List.mem_cons, List.not_mem_nil, or_false, false_or, or_true, true_or, forall_eq, forall_eq_or_imp, implies_true, range_succ, range_zero, Int.reduceToNat, Int.reduceEq, Int.reduceNe, Int.reduceAdd, Int.reduceSub, Int.reduceMul, Int.reducePow, Int.reduceMod, Int.reduceDiv, atI_0, atI_1, atI_2, atI_3, rg1, rg2, startI, r_var, r_var2, r_c, r_w2, r_w2a, r_w2b, r_w1, r_w1a, r_wB, r_wBa, r_ch, r_ch1, r_ch2, r_ch3t, r_ch3f, r_and, r_andt, r_andf, r_or, r_ort, r_orf, r_not, r_nota, r_ife, r_ifet, r_ifef, r_andv, r_andvt, r_andvf, r_orv, r_orvt, r_orvf, r_notv, r_notva, r_nil, r_cons, r_cons1, r_cons2, r_tup, r_tupa, r_lst, r_lsta, r_lstc, r_lstca, r_wn, r_wna, r_call, r_calla, r_mk, r_mk1, r_mk2, r_mkc, r_mkc1, r_mkc2, r_me, r_me1, r_me2, r_bo, r_bo1, r_bo2, r_onone, r_osome, r_osomea, r_sl, r_sl1, r_sl2, r_sl3, r_sl3f, r_ii, r_ii0, r_ib, r_i1, r_plus, r_plusl, r_times, r_timesl, r_isn, r_notn, r_eqd, r_ned, r_int1, r_int1b, r_max2, r_min2, r_abs, r_ix, r_ix2, r_ix3, r_len, r_len2, r_isi, r_isi2, r_fld, r_fld2, r_fld3, r_insobj, r_kx, r_next, r_never, r_seq, r_seqa, r_if, r_ift, r_iff, r_ret, r_retn, r_brk, r_cnt, r_drop, r_dropa, r_set, r_seta, r_asg, r_asga, r_name, r_namec, r_ktup, r_kunl, r_kcons, r_kcs, r_knil, r_par2, r_par2a, r_par3, r_par3a, r_aug, r_auga, r_augb, r_augc, r_for, r_fora, r_knx, r_fldo, r_fldoa, r_put, r_frz, r_frz2, r_frz3, r_frz4, r_cl, r_seto, r_setoa, r_wil, r_wila, r_wilf, r_wit, r_wita, r_wi1, r_wi1a, r_wi2, r_wi2a, r_wie, r_wiea, r_wiz, r_wiza, r_wizt, r_lc, r_lc0, r_lcn, r_lcc, r_lc1, r_lc2t, r_lc2f, r_lc3, r_yes, r_sub, r_sub1, r_sub2, r_sub3, r_dnx, r_drt, r_dxc, r_inx, r_init, r_ixc, t_raise, t_raise2, t_try, t_cat, t_catt, t_catf, t_sunx, t_surt, t_nx0, t_nx1, t_nx2, t_nx3, t_prop, t_prop2, t_xf, t_xf2, t_isx, t_isx2, t_wht, t_whf, t_equ, t_neu, t_el, List.reverse_cons, List.reverse_nil, isiDT, anyT, List.all_cons, List.all_nil, Option.isSome_some, Bool.and_true, Bool.true_and, u_lof, u_lof2, u_tof, u_tof2, u_isiT, u_dict, u_bl, u_own, u_ownN, u_has, u_hasN, u_bk, u_bk1, u_bk2, u_stat, u_ap, u_ap1, u_ap2, u_ex, u_ex1, u_ex2, u_ownL, u_olen, u_oix, u_oix1, u_oin, u_sumT, u_sumL, u_mu, u_mu1, u_hot, u_hot1, startX, u_mb, u_mb1, u_mb1f, u_mb2, u_rev, u_revf, u_wio, u_wex, u_wel, u_wef, u_wet, u_en, u_en0, u_enc, u_enn, Int.cast_ofNat_Int, u_wzx, u_wzl, u_wzt, u_wzm, u_zd, u_zd0, intsD, DL.intD, u_kd, othC, isTy, Bool.true_xor, Bool.false_xor, eqU_pl, p_int, p_bl, p_non, p_tup, p_lst, p_frl, p0_int, p0_bl, p0_non, deq, deqs, Bool.and_true, Bool.and_false, Bool.false_and, List.contains_cons, List.contains_nil, Bool.or_false, Bool.false_or, Bool.or_self, eq_self, beq_self_eq_true, Bool.not_true, Bool.not_false, List.flatten_cons, List.flatten_nil, isi_0, isi_1, isi_2, isi_3, isi_4, isi_5, isi_6, isi_7, isi_8, isi_9, isi_10, isi_11, isi_12, isi_13, isi_14, isi_15, isi_16, isi_17, isi_18, isi_19, isi_20, isi_21, isi_22, isi_23, isi_24, isi_25, isi_26, isi_27, isi_28, isi_29, isi_30, isi_31, isi_32, isi_33, isi_34, isi_35, isi_36, isi_37, isi_38, isi_39, isi_40, isi_41, isi_42, isi_43, isi_44, isi_45, isi_46, isi_47, isi_48, isi_49, isi_50, isi_51, isi_52, isi_53, isi_54, isi_55, isi_56, isi_57, isi_58, isi_59, isi_60, isi_61, isi_62, isi_63])
local macro_rules
  | `(tactic| walk_at "cm") => `(tactic| first | exact .inl (.inr ⟨by omega, by omega⟩) | exact .inl (.inl ⟨by omega, by omega⟩) | exact cm_bd (by unfold Bd; omega) (by unfold Bd; omega))
local macro_rules
  | `(tactic| walk_at "cs") => `(tactic| repeat ((with_reducible refine And.intro ?_ ?_); (· first | decide | (walk_at "cm") | exact ⟨by decide, by decide, by decide⟩ | omega)))
local macro_rules
  | `(tactic| walk_at "go") => `(tactic| (walk_at "dl"; walk_at "cs"))
local macro_rules
  | `(tactic| walk_at "gn") => `(tactic| (walk_at "dn"; walk_at "cs"))
section
variable {Q : D → Mu → Prop} {Xd : XD} {μ : Mu}
theorem ii_int {i : Int} (h : Q (.bl true) μ) : sp_is_integer [.int i] μ Q Xd := by
  unfold sp_is_integer w_is_integer
  walk_at "dl"
  exact h
abbrev pr (x y : Int) : D := .tup [.int x, .int y]
/-- a pair: no Points are made here -/
def IsP (d : D) (x y : Int) : Prop := d = pr x y
theorem isP_pr {x y : Int} : IsP (pr x y) x y := rfl
theorem nums {d : D} {x y : Int} (hd : IsP d x y) (h : Q (pr x y) μ) : sp_numbers_of [d] μ Q Xd := by
  unfold sp_numbers_of w_numbers_of
  cases hd
  walk_at "dl"
  refine ii_int ?_
  walk_at "dl"
  refine ii_int ?_
  walk_at "dl"
  exact h
theorem cross_ev {x y z w : Int} (h1 : CM x w) (h2 : CM y z) (h : Q (.int (x * w - y * z)) μ) : sp_cross_of [pr x y, pr z w] μ Q Xd := by
  unfold sp_cross_of w_cross_of
  walk_at "dl"
  exact ⟨h1, h2, h⟩
theorem draw_ev {p q many : Int} (ok : PoolOk p q) (h1 : 1 ≤ many) (h2 : Bd many) (h : ∀ r p' q', PoolOk p' q' → 0 ≤ r → r < many → Q (.int r) (pl μ p' q')) : sp__law_draw [.loc μ.length, .int many] (pl μ p q) Q Xd := by
  obtain ⟨p0, q0, q1⟩ := ok
  unfold sp__law_draw w__law_draw
  walk_at "dl"
  by_cases c : 0 < p
  · rw [decide_eq_true c]
    walk_at "dl"
    refine ⟨by omega, cd_bd (by omega) h2, ?_⟩
    exact h _ _ _ ⟨Int.ediv_nonneg p0 (by omega), q0, q1⟩ (Int.emod_nonneg _ (by omega)) (Int.emod_lt_of_pos _ (by omega))
  · rw [decide_eq_false c]
    walk_at "dl"
    have m1 := Int.emod_nonneg (q * 48271 + 11) (show (2147483647 : Int) ≠ 0 by decide)
    have m2 := Int.emod_lt_of_pos (q * 48271 + 11) (show (0 : Int) < 2147483647 by decide)
    refine ⟨cm_bd (by unfold Bd; omega) (by unfold Bd; omega), ?_⟩
    generalize (q * 48271 + 11) % 2147483647 = q' at m1 m2 ⊢
    exact ⟨cm_bd (by unfold Bd; omega) (by unfold Bd; omega), cd_bd (by omega) (by unfold Bd; omega), by omega, h _ _ _ ⟨p0, m1, m2⟩ (Int.emod_nonneg _ (by omega)) (Int.emod_lt_of_pos _ (by omega))⟩
theorem lpair_ev {p q : Int} {n : Nat} (ok : PoolOk p q) (hn : n ≤ 1000) (h : ∀ x y p' q', PoolOk p' q' → -(n : Int) ≤ x → x ≤ n → -(n : Int) ≤ y → y ≤ n → Q (pr x y) (pl μ p' q')) : sp__law_pair [.loc μ.length, .int n] (pl μ p q) Q Xd := by
  unfold sp__law_pair w__law_pair
  walk_at "dl"
  refine ⟨cm_bd (by unfold Bd; omega) (by unfold Bd; omega), draw_ev ok (by omega) (by unfold Bd; omega) fun r p1 q1 ok1 r0 r1 => ?_⟩
  walk_at "dl"
  refine ⟨cm_bd (by unfold Bd; omega) (by unfold Bd; omega), draw_ev ok1 (by omega) (by unfold Bd; omega) fun r2 p2 q2 ok2 r3 r4 => ?_⟩
  walk_at "dl"
  exact h _ _ _ _ ok2 (by omega) (by omega) (by omega) (by omega)
theorem hand_ev {ns : List Int} {k : Int} (hl : ns.length ≤ 63) (k0 : 0 ≤ k) (k1 : k ≤ 63) (h : ∀ p q, PoolOk p q → Q (.loc μ.length) (pl μ p q)) : sp__law_hand [.frl (ns.map D.int), .int k] μ Q Xd := by
  unfold sp__law_hand w__law_hand
  walk_at "dl"
  refine ⟨cut_few hl, ?_⟩
  obtain ⟨c, hc⟩ := cell_of (ns := ns) (lo := some k) (hi := some (k + 1))
  rw [hc]
  walk_at "dl"
  have m1 := Int.emod_nonneg c (show (2147483647 : Int) ≠ 0 by decide)
  have m2 := Int.emod_lt_of_pos c (show (0 : Int) < 2147483647 by decide)
  refine ⟨cm_bd (by unfold Bd; omega) (by unfold Bd; omega), cm_bd (by unfold Bd; omega) (by unfold Bd; omega), ⟨by decide, by decide, by decide⟩, .inl (.inl ?_), h _ _ ⟨?_, Int.emod_nonneg _ (by decide), ?_⟩⟩
  · split <;> decide
  · have e : (10 : Int) ^ Int.toNat 18 = 1000000000000000000 := by decide
    try rw [e]
    split <;> omega
  · have := Int.emod_lt_of_pos ((c % 2147483647 + 7919 * k + 1) * 48271) (show (0 : Int) < 2147483629 by decide)
    omega

abbrev pd (p : SA.P) : D := pr p.1 p.2
instance : Inhabited SA.T3 := ⟨⟨(0, 0), (0, 0), (0, 0)⟩⟩
def rowD (row : List SA.P) : D := .lst (row.map pd)
def td (t : SA.T3) : D := .lst [pd t.a, pd t.b, pd t.c]
/-- numbers of a small triangle -/
def Bt (t : SA.T3) : Prop := ∀ z ∈ [t.a, t.b, t.c], -1 ≤ z.1 ∧ z.1 ≤ 17 ∧ -1 ≤ z.2 ∧ z.2 ≤ 17
def trd (t : SA.T3) : D := .obj "Triangle" ["pairs"] [.lst [pd t.a, pd t.b, pd t.c]]
theorem un {g : WG} {b : WS} {E : DEnds} {d : D} {ds : List D} {ρ : DS} {μ : Mu} (h : g d ρ μ fun ρ1 μ1 => b { E with nx := forL g b E ds, ct := forL g b E ds, bk := E.nx } ρ1 μ1) : forL g b E (d :: ds) ρ μ := by
  rw [forL]
  exact h
theorem un0 {g : WG} {b : WS} {E : DEnds} {ρ : DS} {μ : Mu} (h : E.nx ρ μ) : forL g b E [] ρ μ := by
  rw [forL]
  exact h
theorem all3 {A B C : Prop} [Decidable A] [Decidable B] [Decidable C] (h : ¬ (A ∧ B ∧ C)) : [decide A, decide B, decide C].all id = false := by
  by_cases a : A <;> by_cases b : B <;> by_cases c : C <;> simp_all

def B6 (x : Int) : Prop := -1000000000000000000000000000000000000000000000000000000000000 ≤ x ∧ x ≤ 1000000000000000000000000000000000000000000000000000000000000
def BP (p : SA.P) : Prop := B6 p.1 ∧ B6 p.2
def BT (t : SA.T3) : Prop := BP t.a ∧ BP t.b ∧ BP t.c
theorem cm6 {a b c d : Int} (ha : B6 a) (hb : B6 b) (hc : B6 c) (hd : B6 d) : CM (a - b) (c - d) := by
  unfold B6 at *
  exact cm_bd (by unfold Bd; omega) (by unfold Bd; omega)
theorem deq_pd (u v : SA.P) : deq (pd u) (pd v) = decide (u = v) := by
  have : (u = v) ↔ u.1 = v.1 ∧ u.2 = v.2 := ⟨fun h => by rw [h]; exact ⟨rfl, rfl⟩, fun h => Prod.ext h.1 h.2⟩
  simp [deq, deqs, this]
theorem deq_int (i j : Int) : deq (.int i) (.int j) = decide (i = j) := by simp [deq]
theorem bd6 {a b : Int} (ha : B6 a) (hb : B6 b) : Bd (a - b) := by
  unfold B6 Bd at *
  omega
theorem all_bl {α : Type} {f : α → Bool} : ∀ {l : List α}, boolsD (l.map fun a => D.bl (f a)) = some (l.map f)
  | [] => rfl
  | a :: l => by
    rw [List.map_cons, boolsD, all_bl]
    rfl
theorem P5_pds {α : Type} {f : α → SA.P} {l : List α} : P5 (.lst (l.map fun a => pd (f a))) = true := all_map (p := Pn (Pn (Pn (Pn P0)))) fun p => rfl
theorem b6bd {x : Int} (h : B6 x) : Bd x := by
  unfold B6 Bd at *
  omega
def wyD (w : SA.P × SA.P) : D := .tup [pd w.1, pd w.2]

theorem gstep {x y : Int} (hx : 0 ≤ x) (hy : 0 < y) : Int.gcd y (x % y) = Int.gcd x y := by
  obtain ⟨n, rfl⟩ := Int.eq_ofNat_of_zero_le hx
  obtain ⟨m, rfl⟩ := Int.eq_ofNat_of_zero_le (Int.le_of_lt hy)
  show Nat.gcd m (n % m) = Nat.gcd n m
  rw [Nat.gcd_comm m, ← Nat.gcd_rec, Nat.gcd_comm]
theorem cdiv_ev {x y : Int} (hy : Bd y) (h : Q (.int (Int.gcd x y)) μ) : sp_common_divisor [.int x, .int y] μ Q Xd := by
  unfold sp_common_divisor w_common_divisor
  walk_at "dl"
  refine while_ind (fun n ρ μ' => μ' = μ ∧ ∃ a b : Int, ρ = [.v (.int a), .v (.int b)] ∧ 0 ≤ a ∧ 0 ≤ b ∧ Bd b ∧ Int.gcd a b = Int.gcd x y ∧ n = b.toNat) (fun n ρ μ' K hI hK => ?_) ⟨rfl, _, _, rfl, by split <;> omega, by split <;> omega, by unfold Bd at *; split <;> omega, ?_, rfl⟩
  · obtain ⟨rfl, a, b, rfl, a0, b0, bb, hg, rfl⟩ := hI
    walk_at "dl"
    by_cases c : 0 < b
    · rw [decide_eq_true c]
      walk_at "dl"
      refine ⟨c, ?_⟩
      have m1 := Int.emod_nonneg a (show b ≠ 0 by omega)
      have m2 := Int.emod_lt_of_pos a c
      exact hK _ _ _ (by omega) ⟨rfl, _, _, rfl, b0, m1, by unfold Bd at *; omega, by rw [gstep a0 c]; exact hg, rfl⟩
    · rw [decide_eq_false c]
      walk_at "dl"
      have e : b = 0 := by omega
      subst e
      rw [Int.gcd_zero_right] at hg
      rw [← hg] at h
      have e2 : ((a.natAbs : Nat) : Int) = a := by omega
      rw [e2] at h
      exact h
  · split <;> split <;> simp
theorem lowp_ev {u : SA.P} (hu : u ≠ SA.O) (b1 : Bd u.1) (b2 : Bd u.2) (h : Q (pd (SA.lw u)) μ) : sp_lowest_pair [pd u] μ Q Xd := by
  have g0 := SA.gcd_pos hu
  have gb : Bd (Int.gcd u.1 u.2 : Int) := by
    rw [SA.nz] at hu
    unfold Bd at *
    by_cases c : u.1 = 0
    · have : Int.gcd u.1 u.2 ≤ u.2.natAbs := Nat.le_of_dvd (by omega) (Int.gcd_dvd_natAbs_right u.1 u.2)
      omega
    · have : Int.gcd u.1 u.2 ≤ u.1.natAbs := Nat.le_of_dvd (by omega) (Int.gcd_dvd_natAbs_left u.1 u.2)
      omega
  unfold sp_lowest_pair w_lowest_pair
  walk_at "dl"
  refine cdiv_ev b2 ?_
  walk_at "dl"
  exact ⟨cd_bd g0 gb, cd_bd g0 gb, h⟩

/-! rules -/
inductive Rl where
  | tab (bs : List Bool)
  | half (w : SA.P) (ah : Bool)
def rlD : Rl → D
  | .tab bs => .obj "Table" ["truths"] [.lst (bs.map D.bl)]
  | .half w ah => .obj "Half" ["own_way", "own_ahead"] [pd w, .bl ah]
def tR (bs : List Bool) (d : SA.P) : Bool := (bs[(SO.kd d).toNat]?).getD false
def rlR : Rl → SA.P → Bool
  | .tab bs => tR bs
  | .half w ah => SA.hf w ah
def RlOk : Rl → Prop
  | .tab bs => bs.length = 8
  | .half w _ => w ≠ SA.O ∧ BP w
theorem kd_8 (d : SA.P) : 0 ≤ SO.kd d ∧ SO.kd d < 8 := by
  rcases SO.kd_tab d.1 d.2 with ⟨y0, x0, k⟩ | ⟨y0, x0, k⟩ | ⟨y0, x0, k⟩ | ⟨y0, x0, k⟩ | ⟨y0, x0, k⟩ | ⟨y0, x0, k⟩ | ⟨y0, x0, k⟩ | ⟨y0, x0, k⟩ <;> (have k' : SO.kd d = _ := k; rw [k']; decide)
theorem half_has {w d : SA.P} {ah : Bool} (b1 : Bd w.1) (b2 : Bd w.2) (b3 : Bd d.1) (b4 : Bd d.2) (h : Q (.bl (SA.hf w ah d)) μ) : sp_Half_has [rlD (.half w ah), pd d] μ Q Xd := by
  unfold sp_Half_has w_Half_has rlD
  unfold SA.hf SA.cr at h
  walk_at "dl"
  refine cross_ev (cm_bd b1 b4) (cm_bd b2 b3) ?_
  walk_at "dl"
  by_cases c : w.1 * d.2 - w.2 * d.1 = 0
  · rw [if_neg (by omega)] at h
    rw [decide_eq_true c]
    walk_at "dl"
    refine ⟨cm_bd b3 b1, cm_bd b4 b2, ?_⟩
    walk_at "dl"
    cases ah <;> by_cases g : 0 < d.1 * w.1 + d.2 * w.2 <;> simp only [g, decide_true, decide_false] at h ⊢ <;> exact h
  · rw [if_pos c] at h
    rw [decide_eq_false c]
    walk_at "dl"
    exact h

theorem half_init {Q : List Str → List D → Mu → Prop} {w : SA.P} {ah : Bool} {d : D} (hd : IsP d w.1 w.2) (hw : w ≠ SA.O) (b1 : Bd w.1) (b2 : Bd w.2) (h : Q ["own_way", "own_ahead"] [pd (SA.lw w), .bl ah] μ) : sp_Half_init [d, .bl ah] μ Q Xd := by
  have e0 : (decide (w.1 = 0) && decide (w.2 = 0)) = false := by
    rw [SA.nz] at hw
    rw [Bool.and_eq_false_iff, decide_eq_false_iff_not, decide_eq_false_iff_not]
    omega
  unfold sp_Half_init w_Half_init
  refine ⟨rfl, fun x => ?_⟩
  walk_at "dl"
  unfold sp_way_in w_way_in
  walk_at "dl"
  refine nums hd ?_
  walk_at "dl"
  try simp only [Bool.and_true]
  rw [e0]
  walk_at "dl"
  refine lowp_ev hw b1 b2 ?_
  walk_at "dl"
  unfold sp_check_ahead w_check_ahead
  walk_at "dl"
  exact h
/-- four kinds that follow one another -/

theorem ct_truths {bs : List Bool} (hl : bs.length = 8) (h : Q .non μ) : sp_check_truths [.lst (bs.map D.bl)] μ Q Xd := by
  unfold sp_check_truths w_check_truths
  walk_at "go"
  rw [List.length_map, hl]
  walk_at "go"
  refine lc_mp (α := Bool) (l := bs) (fun b => D.bl true) (fun b hb ds acc hacc hK => ?_) (by omega) ?_
  · walk_at "go"
    exact hK
  · walk_at "go"
    refine ⟨_, all_bl, ?_⟩
    walk_at "dl"
    refine b_go (v := false) (by simp) ?_
    walk_at "go"
    exact h
theorem tab_init {Q : List Str → List D → Mu → Prop} {bs : List Bool} (hl : bs.length = 8) (h : Q ["truths"] [.lst (bs.map D.bl)] μ) : sp_Table_init [.lst (bs.map D.bl)] μ Q Xd := by
  unfold sp_Table_init w_Table_init
  refine ⟨rfl, fun x => ?_⟩
  walk_at "go"
  refine ct_truths hl ?_
  walk_at "go"
  exact h

theorem kife_go {wa wb : WE} {ρ : DS} {b : Bool} (x : D) (h1 : b = true → ∀ K : D → Mu → Prop, K x μ → wa ρ μ K Xd) (h0 : b = false → ∀ K : D → Mu → Prop, K x μ → wb ρ μ K Xd) (h : Q x μ) : KIfE wa wb ρ Q Xd b μ := by
  cases b
  · exact h0 rfl Q h
  · exact h1 rfl Q h

theorem heq_ev {w v : SA.P} {a b : Bool} (h : Q (.bl (decide (w = v) && decide (a = b))) μ) : sp_Half_eq [rlD (.half w a), rlD (.half v b)] μ Q Xd := by
  unfold sp_Half_eq w_Half_eq rlD
  walk_at "go"
  try rw [eqU_pl rfl rfl]
  refine b_go (F := fun b μ => Q (.bl b) μ) ?_ h
  have : (w = v) ↔ w.1 = v.1 ∧ w.2 = v.2 := ⟨fun h => by rw [h]; exact ⟨rfl, rfl⟩, fun h => Prod.ext h.1 h.2⟩
  simp only [this]
  cases a <;> cases b <;> simp [deq, deqs, Bool.decide_and]

def arc (k : Nat) : List Bool := (List.range 8).map fun o => decide ((((0 : Int) + (o : Nat)) - ((0 : Int) + (k : Nat))) % 8 < 4)
def axis (k : Nat) : SA.P := if k / 2 = 0 then (1, 0) else if k / 2 = 1 then (0, 1) else if k / 2 = 2 then (-1, 0) else (0, -1)
theorem lw_axis {k : Nat} : SA.lw (axis k) = axis k := by
  unfold axis
  (repeat' split) <;> decide +kernel
theorem deq_bls {xs ys : List Bool} : deqs (xs.map D.bl) (ys.map D.bl) = decide (xs = ys) := deqs_map (fun a b => by cases a <;> cases b <;> simp [deq]) xs ys
theorem P5_bls {xs : List Bool} : P5 (.lst (xs.map D.bl)) = true := all_map (p := Pn (Pn (Pn (Pn P0)))) fun p => rfl
theorem hof_ev {bs : List Bool} (h1 : ∀ k : Nat, k < 8 → bs = arc k → Q (rlD (.half (axis k) (decide (k % 2 = 0)))) μ) (h0 : (∀ k : Nat, k < 8 → bs ≠ arc k) → Q .non μ) : sp_half_of [rlD (.tab bs)] μ Q Xd := by
  unfold sp_half_of w_half_of rlD
  walk_at "dl"
  change forL _ _ _ (rangeD 0 8) _ _
  refine forL_rng (fun i ρ μ' => μ' = μ ∧ (∀ k : Nat, k < i → bs ≠ arc k) ∧ ∃ s1 : Sl, ρ = [.v (.obj "Table" ["truths"] [.lst (bs.map D.bl)]), s1, .no]) (fun i hi ρ μ' K hI hK => ?_) (fun ρ μ' hI => ?_) ⟨rfl, fun k hk => by omega, _, rfl⟩
  · obtain ⟨rfl, no, s1, rfl⟩ := hI
    walk_at "dl"
    have e1 : ([D.bl (decide ((0 - ((0 : Int) + (i : Nat))) % 8 < 4)), D.bl (decide ((1 - ((0 : Int) + (i : Nat))) % 8 < 4)), D.bl (decide ((2 - ((0 : Int) + (i : Nat))) % 8 < 4)), D.bl (decide ((3 - ((0 : Int) + (i : Nat))) % 8 < 4)), D.bl (decide ((4 - ((0 : Int) + (i : Nat))) % 8 < 4)), D.bl (decide ((5 - ((0 : Int) + (i : Nat))) % 8 < 4)), D.bl (decide ((6 - ((0 : Int) + (i : Nat))) % 8 < 4)), D.bl (decide ((7 - ((0 : Int) + (i : Nat))) % 8 < 4))] : List D) = (arc i).map D.bl := rfl
    rw [e1]
    rw [eqU_pl P5_bls P5_bls]
    show KIf _ _ _ _ (deqs _ _) _
    rw [deq_bls]
    by_cases c : bs = arc i
    · rw [decide_eq_true c]
      have hq := h1 i hi c
      have ki : i = 0 ∨ i = 1 ∨ i = 2 ∨ i = 3 ∨ i = 4 ∨ i = 5 ∨ i = 6 ∨ i = 7 := by omega
      rcases ki with rfl | rfl | rfl | rfl | rfl | rfl | rfl | rfl
      · have hq' : Q (.obj "Half" ["own_way", "own_ahead"] [pr (1) (0), .bl true]) μ' := hq
        walk_at "go"
        refine ⟨cd_bd (by decide) (by unfold Bd; decide), ?_⟩
        refine half_init (w := ((1), (0))) isP_pr (by decide) (by unfold Bd; decide) (by unfold Bd; decide) ?_
        rw [show SA.lw (((1) : Int), ((0) : Int)) = ((1), (0)) from by decide +kernel]
        exact hq'
      · have hq' : Q (.obj "Half" ["own_way", "own_ahead"] [pr (1) (0), .bl false]) μ' := hq
        walk_at "go"
        refine ⟨cd_bd (by decide) (by unfold Bd; decide), ?_⟩
        refine half_init (w := ((1), (0))) isP_pr (by decide) (by unfold Bd; decide) (by unfold Bd; decide) ?_
        rw [show SA.lw (((1) : Int), ((0) : Int)) = ((1), (0)) from by decide +kernel]
        exact hq'
      · have hq' : Q (.obj "Half" ["own_way", "own_ahead"] [pr (0) (1), .bl true]) μ' := hq
        walk_at "go"
        refine ⟨cd_bd (by decide) (by unfold Bd; decide), ?_⟩
        refine half_init (w := ((0), (1))) isP_pr (by decide) (by unfold Bd; decide) (by unfold Bd; decide) ?_
        rw [show SA.lw (((0) : Int), ((1) : Int)) = ((0), (1)) from by decide +kernel]
        exact hq'
      · have hq' : Q (.obj "Half" ["own_way", "own_ahead"] [pr (0) (1), .bl false]) μ' := hq
        walk_at "go"
        refine ⟨cd_bd (by decide) (by unfold Bd; decide), ?_⟩
        refine half_init (w := ((0), (1))) isP_pr (by decide) (by unfold Bd; decide) (by unfold Bd; decide) ?_
        rw [show SA.lw (((0) : Int), ((1) : Int)) = ((0), (1)) from by decide +kernel]
        exact hq'
      · have hq' : Q (.obj "Half" ["own_way", "own_ahead"] [pr (-1) (0), .bl true]) μ' := hq
        walk_at "go"
        refine ⟨cd_bd (by decide) (by unfold Bd; decide), ?_⟩
        refine half_init (w := ((-1), (0))) isP_pr (by decide) (by unfold Bd; decide) (by unfold Bd; decide) ?_
        rw [show SA.lw (((-1) : Int), ((0) : Int)) = ((-1), (0)) from by decide +kernel]
        exact hq'
      · have hq' : Q (.obj "Half" ["own_way", "own_ahead"] [pr (-1) (0), .bl false]) μ' := hq
        walk_at "go"
        refine ⟨cd_bd (by decide) (by unfold Bd; decide), ?_⟩
        refine half_init (w := ((-1), (0))) isP_pr (by decide) (by unfold Bd; decide) (by unfold Bd; decide) ?_
        rw [show SA.lw (((-1) : Int), ((0) : Int)) = ((-1), (0)) from by decide +kernel]
        exact hq'
      · have hq' : Q (.obj "Half" ["own_way", "own_ahead"] [pr (0) (-1), .bl true]) μ' := hq
        walk_at "go"
        refine ⟨cd_bd (by decide) (by unfold Bd; decide), ?_⟩
        refine half_init (w := ((0), (-1))) isP_pr (by decide) (by unfold Bd; decide) (by unfold Bd; decide) ?_
        rw [show SA.lw (((0) : Int), ((-1) : Int)) = ((0), (-1)) from by decide +kernel]
        exact hq'
      · have hq' : Q (.obj "Half" ["own_way", "own_ahead"] [pr (0) (-1), .bl false]) μ' := hq
        walk_at "go"
        refine ⟨cd_bd (by decide) (by unfold Bd; decide), ?_⟩
        refine half_init (w := ((0), (-1))) isP_pr (by decide) (by unfold Bd; decide) (by unfold Bd; decide) ?_
        rw [show SA.lw (((0) : Int), ((-1) : Int)) = ((0), (-1)) from by decide +kernel]
        exact hq'
    · rw [decide_eq_false c]
      walk_at "go"
      refine hK _ _ ⟨rfl, fun k hk => ?_, _, rfl⟩
      by_cases e : k = i
      · rw [e]
        exact c
      · exact no k (by omega)
  · obtain ⟨rfl, no, s1, rfl⟩ := hI
    walk_at "dl"
    exact h0 no

theorem teq_ev {xs ys : List Bool} (h : Q (.bl (decide (xs = ys))) μ) : sp_Table_eq [rlD (.tab xs), rlD (.tab ys)] μ Q Xd := by
  unfold sp_Table_eq w_Table_eq rlD
  walk_at "go"
  rw [eqU_pl P5_bls P5_bls]
  refine b_go (F := fun b μ => Q (.bl b) μ) ?_ h
  exact deq_bls

/-- where ways join -/
theorem jn {a b : WS} {E : DEnds} {ρ : DS} {μ : Mu} (I : DS → Mu → Prop) (h1 : ∀ K : DS → Mu → Prop, (∀ ρ' μ', I ρ' μ' → K ρ' μ') → a { E with nx := K } ρ μ) (h2 : ∀ ρ' μ', I ρ' μ' → b E ρ' μ') : sSeq a b E ρ μ := h1 (fun ρ' μ' => b E ρ' μ') h2
theorem nind_pl {x : D} {ds : List D} {μ : Mu} {Q : D → Mu → Prop} (hx : P5 x = true) (hy : P5 (.lst ds) = true) (h : Q (.bl (!(ds.any fun d => deq d x))) μ) : fNotInD x (.lst ds) μ Q := by
  obtain ⟨p, e1, s1⟩ := P5_shaped hx
  obtain ⟨q, e2, s2⟩ := P5_shaped hy
  obtain ⟨qs, rfl, e3⟩ := lst_toP e2
  exact ⟨p, qs, e1, e2, s1, s2, by rw [toPs_any e1 e3]; exact h⟩

theorem cok1 (h : Q (.tup [pr 1 0, pr 0 1]) μ) : sp_corners_of_kind [.int 1] μ Q Xd := by
  unfold sp_corners_of_kind w_corners_of_kind
  walk_at "go"
  exact ⟨cd_bd (by decide) (by unfold Bd; decide), h⟩
theorem cok3 (h : Q (.tup [pr 0 1, pr (-1) 0]) μ) : sp_corners_of_kind [.int 3] μ Q Xd := by
  unfold sp_corners_of_kind w_corners_of_kind
  walk_at "go"
  exact ⟨cd_bd (by decide) (by unfold Bd; decide), h⟩
theorem cok5 (h : Q (.tup [pr (-1) 0, pr 0 (-1)]) μ) : sp_corners_of_kind [.int 5] μ Q Xd := by
  unfold sp_corners_of_kind w_corners_of_kind
  walk_at "go"
  exact ⟨cd_bd (by decide) (by unfold Bd; decide), h⟩
theorem cok7 (h : Q (.tup [pr 0 (-1), pr 1 0]) μ) : sp_corners_of_kind [.int 7] μ Q Xd := by
  unfold sp_corners_of_kind w_corners_of_kind
  walk_at "go"
  exact ⟨cd_bd (by decide) (by unfold Bd; decide), h⟩
theorem andv_go {wb : WE} {ρ : DS} {b c : Bool} (h1 : ∀ K : D → Mu → Prop, K (.bl c) μ → wb ρ μ K Xd) (h : Q (.bl (b && c)) μ) : KAndV wb ρ Q Xd (.bl b) μ := by
  cases b
  · exact h
  · exact h1 _ h
theorem orv_go {wb : WE} {ρ : DS} {b c : Bool} (h1 : ∀ K : D → Mu → Prop, K (.bl c) μ → wb ρ μ K Xd) (h : Q (.bl (b || c)) μ) : KOrV wb ρ Q Xd (.bl b) μ := by
  cases b
  · exact h1 _ h
  · exact h
theorem kinds_ev {w : SA.P} {ah isW : Bool} (bw : BP w) (h : Q (.lst ((SA.hK isW w ah).map D.bl)) μ) : sp_kinds_of_half [rlD (.half w ah), .bl isW] μ Q Xd := by
  have hh : ∀ (d : SA.P) (μ : Mu) (Q : D → Mu → Prop) (Xd : XD), Bd d.1 → Bd d.2 → Q (.bl (SA.hf w ah d)) μ → sp_Half_has [rlD (.half w ah), pd d] μ Q Xd := fun d μ Q Xd b1 b2 h => half_has (b6bd bw.1) (b6bd bw.2) b1 b2 h
  have cc : ∀ (a b : Int) (μ : Mu) (Q : D → Mu → Prop) (Xd : XD), Bd a → Bd b → Q (.int (SA.cr w (a, b))) μ → sp_cross_of [pd w, pr a b] μ Q Xd := fun a b μ Q Xd h1 h2 h => cross_ev (cm_bd (b6bd bw.1) h2) (cm_bd (b6bd bw.2) h1) h
  unfold sp_kinds_of_half w_kinds_of_half
  unfold rlD at hh ⊢
  walk_at "go"
  intro a1
  walk_at "go"
  unfold SA.hK SA.qk at h
  cases isW
  · simp only [if_true, if_false, Bool.false_eq_true] at h
    refine un ?_
    walk_at "go"
    refine hh (1, 0) _ _ _ (by unfold Bd; decide) (by unfold Bd; decide) ?_
    walk_at "go"
    refine un ?_
    walk_at "go"
    refine cok1 ?_
    walk_at "go"
    refine cc 1 0 _ _ _ (by unfold Bd; decide) (by unfold Bd; decide) ?_
    walk_at "go"
    refine cc 0 1 _ _ _ (by unfold Bd; decide) (by unfold Bd; decide) ?_
    walk_at "go"
    refine orv_go (c := decide (0 < SA.cr w (0, 1))) (fun K hK => ?_) ?_
    · walk_at "go"
      exact hK
    walk_at "go"
    refine un ?_
    walk_at "go"
    refine hh (0, 1) _ _ _ (by unfold Bd; decide) (by unfold Bd; decide) ?_
    walk_at "go"
    refine un ?_
    walk_at "go"
    refine cok3 ?_
    walk_at "go"
    refine cc 0 1 _ _ _ (by unfold Bd; decide) (by unfold Bd; decide) ?_
    walk_at "go"
    refine cc (-1) 0 _ _ _ (by unfold Bd; decide) (by unfold Bd; decide) ?_
    walk_at "go"
    refine orv_go (c := decide (0 < SA.cr w ((-1), 0))) (fun K hK => ?_) ?_
    · walk_at "go"
      exact hK
    walk_at "go"
    refine un ?_
    walk_at "go"
    refine hh (-1, 0) _ _ _ (by unfold Bd; decide) (by unfold Bd; decide) ?_
    walk_at "go"
    refine un ?_
    walk_at "go"
    refine cok5 ?_
    walk_at "go"
    refine cc (-1) 0 _ _ _ (by unfold Bd; decide) (by unfold Bd; decide) ?_
    walk_at "go"
    refine cc 0 (-1) _ _ _ (by unfold Bd; decide) (by unfold Bd; decide) ?_
    walk_at "go"
    refine orv_go (c := decide (0 < SA.cr w (0, (-1)))) (fun K hK => ?_) ?_
    · walk_at "go"
      exact hK
    walk_at "go"
    refine un ?_
    walk_at "go"
    refine hh (0, -1) _ _ _ (by unfold Bd; decide) (by unfold Bd; decide) ?_
    walk_at "go"
    refine un ?_
    walk_at "go"
    refine cok7 ?_
    walk_at "go"
    refine cc 0 (-1) _ _ _ (by unfold Bd; decide) (by unfold Bd; decide) ?_
    walk_at "go"
    refine cc 1 0 _ _ _ (by unfold Bd; decide) (by unfold Bd; decide) ?_
    walk_at "go"
    refine orv_go (c := decide (0 < SA.cr w (1, 0))) (fun K hK => ?_) ?_
    · walk_at "go"
      exact hK
    walk_at "go"
    refine un0 ?_
    walk_at "go"
    exact h
  · simp only [if_true, if_false, Bool.false_eq_true] at h
    refine un ?_
    walk_at "go"
    refine hh (1, 0) _ _ _ (by unfold Bd; decide) (by unfold Bd; decide) ?_
    walk_at "go"
    refine un ?_
    walk_at "go"
    refine cok1 ?_
    walk_at "go"
    refine cc 1 0 _ _ _ (by unfold Bd; decide) (by unfold Bd; decide) ?_
    walk_at "go"
    refine cc 0 1 _ _ _ (by unfold Bd; decide) (by unfold Bd; decide) ?_
    walk_at "go"
    refine andv_go (c := decide (0 ≤ SA.cr w (0, 1))) (fun K hK => ?_) ?_
    · walk_at "go"
      exact hK
    walk_at "go"
    refine un ?_
    walk_at "go"
    refine hh (0, 1) _ _ _ (by unfold Bd; decide) (by unfold Bd; decide) ?_
    walk_at "go"
    refine un ?_
    walk_at "go"
    refine cok3 ?_
    walk_at "go"
    refine cc 0 1 _ _ _ (by unfold Bd; decide) (by unfold Bd; decide) ?_
    walk_at "go"
    refine cc (-1) 0 _ _ _ (by unfold Bd; decide) (by unfold Bd; decide) ?_
    walk_at "go"
    refine andv_go (c := decide (0 ≤ SA.cr w ((-1), 0))) (fun K hK => ?_) ?_
    · walk_at "go"
      exact hK
    walk_at "go"
    refine un ?_
    walk_at "go"
    refine hh (-1, 0) _ _ _ (by unfold Bd; decide) (by unfold Bd; decide) ?_
    walk_at "go"
    refine un ?_
    walk_at "go"
    refine cok5 ?_
    walk_at "go"
    refine cc (-1) 0 _ _ _ (by unfold Bd; decide) (by unfold Bd; decide) ?_
    walk_at "go"
    refine cc 0 (-1) _ _ _ (by unfold Bd; decide) (by unfold Bd; decide) ?_
    walk_at "go"
    refine andv_go (c := decide (0 ≤ SA.cr w (0, (-1)))) (fun K hK => ?_) ?_
    · walk_at "go"
      exact hK
    walk_at "go"
    refine un ?_
    walk_at "go"
    refine hh (0, -1) _ _ _ (by unfold Bd; decide) (by unfold Bd; decide) ?_
    walk_at "go"
    refine un ?_
    walk_at "go"
    refine cok7 ?_
    walk_at "go"
    refine cc 0 (-1) _ _ _ (by unfold Bd; decide) (by unfold Bd; decide) ?_
    walk_at "go"
    refine cc 1 0 _ _ _ (by unfold Bd; decide) (by unfold Bd; decide) ?_
    walk_at "go"
    refine andv_go (c := decide (0 ≤ SA.cr w (1, 0))) (fun K hK => ?_) ?_
    · walk_at "go"
      exact hK
    walk_at "go"
    refine un0 ?_
    walk_at "go"
    exact h
def wkB (xs ys : List Bool) : Bool := ((List.range 8).filter fun k => (xs[k]?).getD false).all fun k => (ys[k]?).getD false
def within : Rl → Rl → Bool
  | .half w a, .half v b => decide (w = v) && decide (a = b)
  | .half w a, .tab ys => wkB (SA.hK false w a) ys
  | .tab xs, .half v b => wkB xs (SA.hK true v b)
  | .tab xs, .tab ys => wkB xs ys
theorem isw_ev {r s : Rl} (hr : RlOk r) (hs : RlOk s) (h : Q (.bl (within r s)) μ) : sp_is_within [rlD r, rlD s] μ Q Xd := by
  unfold sp_is_within w_is_within
  cases r with
  | tab xs =>
    cases s with
    | tab ys =>
      have hx : xs.length = 8 := hr
      have hy : ys.length = 8 := hs
      have h : Q (.bl (wkB xs ys)) μ := h
      unfold rlD
      walk_at "gn"
      show lcL _ _ _ _ ((List.range 8).map fun i => D.int (0 + (i : Nat))) [] _ _
      refine lc_filter (α := Nat) (f := fun i : Nat => D.int (0 + (i : Nat))) (l := List.range 8) (fun k => (xs[k]?).getD false) (fun k => D.bl ((ys[k]?).getD false)) (fun k hk ds acc hacc ht hf => ?_) (by decide) ?_
      · rw [List.mem_range] at hk
        have ek : (0 : Int) + (k : Nat) = (k : Nat) := by omega
        have e1 : atI (xs.map D.bl) ((k : Nat) : Int) = some (.bl ((xs[k]?).getD false)) := by rw [DL.atI_nat, List.getElem?_map, List.getElem?_eq_getElem (show k < xs.length by omega)]; rfl
        have e2 : atI (ys.map D.bl) ((k : Nat) : Int) = some (.bl ((ys[k]?).getD false)) := by rw [DL.atI_nat, List.getElem?_map, List.getElem?_eq_getElem (show k < ys.length by omega)]; rfl
        rw [ek]
        walk_at "gn"
        rw [e1]
        walk_at "gn"
        cases c : (xs[k]?).getD false
        · walk_at "gn"
          exact hf c
        · walk_at "gn"
          rw [e2]
          walk_at "gn"
          exact ht c
      · walk_at "gn"
        refine ⟨_, all_bl, ?_⟩
        refine b_go (F := fun b μ => Q (.bl b) μ) ?_ h
        rw [List.all_map]
        rfl
    | half v b =>
      have hx : xs.length = 8 := hr
      have h : Q (.bl (wkB xs (SA.hK true v b))) μ := h
      have ke := fun (μ : Mu) (Q : D → Mu → Prop) (Xd : XD) h => kinds_ev (w := v) (ah := b) (isW := true) (μ := μ) (Q := Q) (Xd := Xd) hs.2 h
      unfold rlD at ke ⊢
      walk_at "gn"
      refine ke _ _ _ ?_
      obtain ⟨ys, hys⟩ : ∃ ys, ys = SA.hK true v b := ⟨_, rfl⟩
      have hy : ys.length = 8 := by rw [hys]; rfl
      rw [← hys] at h ⊢
      walk_at "gn"
      show lcL _ _ _ _ ((List.range 8).map fun i => D.int (0 + (i : Nat))) [] _ _
      refine lc_filter (α := Nat) (f := fun i : Nat => D.int (0 + (i : Nat))) (l := List.range 8) (fun k => (xs[k]?).getD false) (fun k => D.bl ((ys[k]?).getD false)) (fun k hk ds acc hacc ht hf => ?_) (by decide) ?_
      · rw [List.mem_range] at hk
        have ek : (0 : Int) + (k : Nat) = (k : Nat) := by omega
        have e1 : atI (xs.map D.bl) ((k : Nat) : Int) = some (.bl ((xs[k]?).getD false)) := by rw [DL.atI_nat, List.getElem?_map, List.getElem?_eq_getElem (show k < xs.length by omega)]; rfl
        have e2 : atI (ys.map D.bl) ((k : Nat) : Int) = some (.bl ((ys[k]?).getD false)) := by rw [DL.atI_nat, List.getElem?_map, List.getElem?_eq_getElem (show k < ys.length by omega)]; rfl
        rw [ek]
        walk_at "gn"
        rw [e1]
        walk_at "gn"
        cases c : (xs[k]?).getD false
        · walk_at "gn"
          exact hf c
        · walk_at "gn"
          rw [e2]
          walk_at "gn"
          exact ht c
      · walk_at "gn"
        refine ⟨_, all_bl, ?_⟩
        refine b_go (F := fun b μ => Q (.bl b) μ) ?_ h
        rw [List.all_map]
        rfl
  | half w a =>
    cases s with
    | tab ys =>
      have hy : ys.length = 8 := hs
      have h : Q (.bl (wkB (SA.hK false w a) ys)) μ := h
      have ke := fun (μ : Mu) (Q : D → Mu → Prop) (Xd : XD) h => kinds_ev (w := w) (ah := a) (isW := false) (μ := μ) (Q := Q) (Xd := Xd) hr.2 h
      unfold rlD at ke ⊢
      walk_at "gn"
      refine ke _ _ _ ?_
      obtain ⟨xs, hxs⟩ : ∃ xs, xs = SA.hK false w a := ⟨_, rfl⟩
      have hx : xs.length = 8 := by rw [hxs]; rfl
      rw [← hxs] at h ⊢
      walk_at "gn"
      show lcL _ _ _ _ ((List.range 8).map fun i => D.int (0 + (i : Nat))) [] _ _
      refine lc_filter (α := Nat) (f := fun i : Nat => D.int (0 + (i : Nat))) (l := List.range 8) (fun k => (xs[k]?).getD false) (fun k => D.bl ((ys[k]?).getD false)) (fun k hk ds acc hacc ht hf => ?_) (by decide) ?_
      · rw [List.mem_range] at hk
        have ek : (0 : Int) + (k : Nat) = (k : Nat) := by omega
        have e1 : atI (xs.map D.bl) ((k : Nat) : Int) = some (.bl ((xs[k]?).getD false)) := by rw [DL.atI_nat, List.getElem?_map, List.getElem?_eq_getElem (show k < xs.length by omega)]; rfl
        have e2 : atI (ys.map D.bl) ((k : Nat) : Int) = some (.bl ((ys[k]?).getD false)) := by rw [DL.atI_nat, List.getElem?_map, List.getElem?_eq_getElem (show k < ys.length by omega)]; rfl
        rw [ek]
        walk_at "gn"
        rw [e1]
        walk_at "gn"
        cases c : (xs[k]?).getD false
        · walk_at "gn"
          exact hf c
        · walk_at "gn"
          rw [e2]
          walk_at "gn"
          exact ht c
      · walk_at "gn"
        refine ⟨_, all_bl, ?_⟩
        refine b_go (F := fun b μ => Q (.bl b) μ) ?_ h
        rw [List.all_map]
        rfl
    | half v b =>
      have h : Q (.bl (decide (w = v) && decide (a = b))) μ := h
      have he := fun (μ : Mu) (Q : D → Mu → Prop) (Xd : XD) h => heq_ev (w := w) (v := v) (a := a) (b := b) (μ := μ) (Q := Q) (Xd := Xd) h
      unfold rlD at he ⊢
      walk_at "gn"
      refine he _ _ _ ?_
      walk_at "gn"
      exact h
theorem le_ev {r s : Rl} (hr : RlOk r) (hs : RlOk s) (h : Q (.bl (within r s)) μ) : sp_Rule_le [rlD r, rlD s] μ Q Xd := by
  unfold sp_Rule_le w_Rule_le
  have iw := fun (μ : Mu) (Q : D → Mu → Prop) (Xd : XD) h => isw_ev (r := r) (s := s) (μ := μ) (Q := Q) (Xd := Xd) hr hs h
  cases s with
  | tab ys =>
    unfold rlD at iw ⊢
    walk_at "gn"
    exact iw _ _ _ h
  | half v b =>
    unfold rlD at iw ⊢
    walk_at "gn"
    exact iw _ _ _ h
def LwOk : Rl → Prop
  | .tab bs => bs.length = 8
  | .half w _ => (w ≠ SA.O ∧ BP w) ∧ Int.gcd w.1 w.2 = 1
theorem LwOk.ok {r : Rl} (h : LwOk r) : RlOk r := by
  cases r with
  | tab bs => exact h
  | half w a => exact h.1
theorem wkB_iff {xs ys : List Bool} : wkB xs ys = true ↔ ∀ k, k < 8 → (xs[k]?).getD false = true → (ys[k]?).getD false = true := by
  unfold wkB
  rw [List.all_eq_true]
  constructor
  · intro h k hk hx
    exact h k (List.mem_filter.mpr ⟨List.mem_range.mpr hk, hx⟩)
  · intro h k hk
    obtain ⟨h1, h2⟩ := List.mem_filter.mp hk
    exact h k (List.mem_range.mp h1) h2
theorem within_iff {r s : Rl} (hr : LwOk r) (hs : LwOk s) : within r s = true ↔ ∀ d, d ≠ SA.O → rlR r d = true → rlR s d = true := by
  cases r with
  | tab xs =>
    cases s with
    | tab ys =>
      show wkB xs ys = true ↔ _
      rw [wkB_iff]
      constructor
      · intro h d hd q
        exact h (SA.kdN d) (SA.kdN_8 d) q
      · intro h k hk q
        obtain ⟨d, hd, e⟩ := SA.kd_ex hk
        have := h d hd (show (xs[SA.kdN d]?).getD false = true by rw [e]; exact q)
        have this : (ys[SA.kdN d]?).getD false = true := this
        rw [e] at this
        exact this
    | half v b =>
      show wkB xs (SA.hK true v b) = true ↔ _
      rw [wkB_iff]
      constructor
      · intro h d hd q
        exact SA.all_sound hs.1.1 hd (h (SA.kdN d) (SA.kdN_8 d) q)
      · intro h k hk q
        cases c : ((SA.hK true v b)[k]?).getD false with
        | true => rfl
        | false =>
          obtain ⟨d, hd, e, f⟩ := SA.all_ex hk c
          have this : SA.hf v b d = true := h d hd (show (xs[SA.kdN d]?).getD false = true by rw [e]; exact q)
          rw [f] at this
          cases this
  | half w a =>
    cases s with
    | tab ys =>
      show wkB (SA.hK false w a) ys = true ↔ _
      rw [wkB_iff]
      constructor
      · intro h d hd q
        exact h (SA.kdN d) (SA.kdN_8 d) (SA.some_sound hr.1.1 hd q)
      · intro h k hk q
        obtain ⟨d, hd, e, f⟩ := SA.some_ex hk q
        have this : (ys[SA.kdN d]?).getD false = true := h d hd f
        rw [e] at this
        exact this
    | half v b =>
      show (decide (w = v) && decide (a = b)) = true ↔ _
      rw [Bool.and_eq_true, decide_eq_true_iff, decide_eq_true_iff]
      constructor
      · rintro ⟨rfl, rfl⟩ d hd q
        exact q
      · intro h
        exact SA.half_eq hr.1.1 hs.1.1 hr.2 hs.2 h
theorem within_rf {r : Rl} (hr : LwOk r) : within r r = true := (within_iff hr hr).mpr fun _ _ h => h
theorem within_tr {r s t : Rl} (hr : LwOk r) (hs : LwOk s) (ht : LwOk t) (h1 : within r s = true) (h2 : within s t = true) : within r t = true :=
  (within_iff hr ht).mpr fun d hd q => (within_iff hs ht).mp h2 d hd ((within_iff hr hs).mp h1 d hd q)
theorem within_no {r : Rl} (hr : LwOk r) : within (.tab (List.replicate 8 false)) r = true := (within_iff (show LwOk (.tab (List.replicate 8 false)) from rfl) hr).mpr fun d _ q => by
  have q : ((List.replicate 8 false)[SA.kdN d]?).getD false = true := q
  have h8 := SA.kdN_8 d
  rw [List.getElem?_replicate, if_pos h8] at q
  cases q
theorem within_all {r : Rl} (hr : LwOk r) : within r (.tab (List.replicate 8 true)) = true := (within_iff hr (show LwOk (.tab (List.replicate 8 true)) from rfl)).mpr fun d _ _ => by
  show ((List.replicate 8 true)[SA.kdN d]?).getD false = true
  have h8 := SA.kdN_8 d
  rw [List.getElem?_replicate, if_pos h8]
  rfl

end
end K09

set_option Elab.async false
set_option linter.all false
set_option maxRecDepth 100000
set_option maxHeartbeats 4000000
set_option autoImplicit false
set_option exponentiation.threshold 3000
namespace K09
open PySem PySem.Spec PyProof.Rows L2 DL
local macro_rules
  | `(tactic| walk_at "dk") => `(tactic| try simp only [x_subO, x_subO1, x_subO2, v_slo, v_slo1, w_ff, w_ft, w_tf, w_tt, false_and, and_false, v_ix, v_ix1, v_ix2, v_inv, v_inv1, v_co, v_co1, v_co2, v_len, v_len1, isiD, tyD, clD, r_insobj, fldOf, DL.isNon, items_tup, items_lst, items_frl, hasCls, othTy, insD, DL.putK, DL.putD, initEnd, startI, startD, DL.wipeD, List.map_cons, List.map_nil, List.length_cons, List.length_nil, List.getElem?_cons_zero, List.getElem?_cons_succ, List.getElem?_nil, List.set_cons_zero, List.set_cons_succ, List.cons_append, List.nil_append, List.append_nil, List.replicate, Nat.sub_self, Nat.reduceSub, Nat.reduceAdd, Nat.reduceLeDiff, Nat.reduceEqDiff, Nat.reduceLT, Int.reduceLT, Int.reduceLE, if_true, if_false, Bool.not_true, Bool.not_false, reduceIte, reduceCtorEq, true_and, and_true, Nat.zero_add, Bool.true_eq_false, Bool.false_eq_true, eqU_int, eqU_str, eqU_bl, str_eq, str_beq, String.reduceEq, decide_true, decide_false, decide_eq_true_eq, pl_items, pl_st0, pl_st1, pl_fold, notOwn, List.mem_singleton, List.mem_cons, List.not_mem_nil, or_false, false_or, or_true, true_or, forall_eq, forall_eq_or_imp, implies_true, Int.reduceToNat, Int.reduceEq, Int.reduceNe, Int.reduceAdd, Int.reduceSub, Int.reduceMul, Int.reducePow, Int.reduceMod, Int.reduceDiv, atI_0, atI_1, atI_2, atI_3, rg1, rg2, startI, r_var, r_var2, r_c, r_w2, r_w2a, r_w2b, r_w1, r_w1a, r_wB, r_wBa, r_ch, r_ch1, r_ch2, r_ch3t, r_ch3f, r_and, r_andt, r_andf, r_or, r_ort, r_orf, r_not, r_nota, r_ife, r_ifet, r_ifef, r_andv, r_andvt, r_andvf, r_orv, r_orvt, r_orvf, r_notv, r_notva, r_nil, r_cons, r_cons1, r_cons2, r_tup, r_tupa, r_lst, r_lsta, r_lstc, r_lstca, r_wn, r_wna, r_call, r_calla, r_mk, r_mk1, r_mk2, r_mkc, r_mkc1, r_mkc2, r_me, r_me1, r_me2, r_bo, r_bo1, r_bo2, r_onone, r_osome, r_osomea, r_sl, r_sl1, r_sl2, r_sl3, r_sl3f, r_ii, r_ii0, r_ib, r_i1, r_plus, r_plusl, r_times, r_timesl, r_isn, r_notn, r_eqd, r_ned, r_int1, r_int1b, r_max2, r_min2, r_abs, r_ix, r_ix2, r_ix3, r_len, r_len2, r_isi, r_isi2, r_fld, r_fld2, r_fld3, r_insobj, r_kx, r_next, r_never, r_seq, r_seqa, r_if, r_ift, r_iff, r_ret, r_retn, r_brk, r_cnt, r_drop, r_dropa, r_set, r_seta, r_asg, r_asga, r_name, r_namec, r_ktup, r_kunl, r_kcons, r_kcs, r_knil, r_par2, r_par2a, r_par3, r_par3a, r_aug, r_auga, r_augb, r_augc, r_for, r_fora, r_knx, r_fldo, r_fldoa, r_put, r_frz, r_frz2, r_frz3, r_frz4, r_cl, r_seto, r_setoa, r_wil, r_wila, r_wilf, r_wit, r_wita, r_wi1, r_wi1a, r_wi2, r_wi2a, r_wie, r_wiea, r_wiz, r_wiza, r_wizt, r_lc, r_lc0, r_lcn, r_lcc, r_lc1, r_lc2t, r_lc2f, r_lc3, r_yes, r_sub, r_sub1, r_sub2, r_sub3, r_dnx, r_drt, r_dxc, r_inx, r_init, r_ixc, t_raise, t_raise2, t_try, t_cat, t_catt, t_catf, t_sunx, t_surt, t_nx0, t_nx1, t_nx2, t_nx3, t_prop, t_prop2, t_xf, t_xf2, t_isx, t_isx2, t_wht, t_whf, t_equ, t_neu, t_el, List.reverse_cons, List.reverse_nil, isiDT, anyT, List.all_cons, List.all_nil, Option.isSome_some, Bool.and_true, Bool.true_and, u_lof, u_lof2, u_tof, u_tof2, u_isiT, u_dict, u_bl, u_ownN, u_has, u_hasN, u_bk, u_bk1, u_bk2, u_stat, u_ap, u_ap1, u_ap2, u_ex, u_ex1, u_ex2, u_ownL, u_olen, u_oix, u_oix1, u_oin, u_sumT, u_sumL, u_mu, u_mu1, u_hot, u_hot1, startX, u_mb, u_mb1, u_mb1f, u_mb2, u_rev, u_revf, u_wio, u_wex, u_wel, u_wef, u_wet, u_en, u_en0, u_enc, u_enn, Int.cast_ofNat_Int, u_wzx, u_wzl, u_wzt, u_wzm, u_zd, u_zd0, intsD, DL.intD, u_kd, isTy, Bool.true_xor, Bool.false_xor, eqU_pl, p_int, p_bl, p_non, p_tup, p_lst, p_frl, p0_int, p0_bl, p0_non, deq, deqs, Bool.and_true, Bool.and_false, Bool.false_and, List.contains_cons, List.contains_nil, Bool.or_false, Bool.false_or, Bool.or_self, eq_self, beq_self_eq_true, Bool.not_true, Bool.not_false, List.flatten_cons, List.flatten_nil, isi_0, isi_1, isi_2, isi_3, isi_4, isi_5, isi_6, isi_7, isi_8, isi_9, isi_10, isi_11, isi_12, isi_13, isi_14, isi_15, isi_16, isi_17, isi_18, isi_19, isi_20, isi_21, isi_22, isi_23, isi_24, isi_25, isi_26, isi_27, isi_28, isi_29, isi_30, isi_31, isi_32, isi_33, isi_34, isi_35, isi_36, isi_37, isi_38, isi_39, isi_40, isi_41, isi_42, isi_43, isi_44, isi_45, isi_46, isi_47, isi_48, isi_49, isi_50, isi_51, isi_52, isi_53, isi_54, isi_55, isi_56, isi_57, isi_58, isi_59, isi_60, isi_61, isi_62, isi_63])
local macro_rules
  | `(tactic| walk_at "ds") => `(tactic| try simp only [x_subO, x_subO1, x_subO2, v_slo, v_slo1, w_ff, w_ft, w_tf, w_tt, false_and, and_false, isClsU, v_ix, v_ix1, v_ix2, v_inv, v_inv1, v_co, v_co1, v_co2, v_len, v_len1, v_f2or, isiD, tyD, clD, r_insobj, fldOf, DL.isNon, items_tup, items_lst, items_frl, hasCls, isCls, othTy, insD, DL.putK, DL.putD, initEnd, startI, startD, DL.wipeD, List.map_cons, List.map_nil, List.length_cons, List.length_nil, List.getElem?_cons_zero, List.getElem?_cons_succ, List.getElem?_nil, List.set_cons_zero, List.set_cons_succ, List.cons_append, List.nil_append, List.append_nil, List.replicate, Nat.sub_self, Nat.reduceSub, Nat.reduceAdd, Nat.reduceLeDiff, Nat.reduceEqDiff, Nat.reduceLT, Int.reduceLT, Int.reduceLE, if_true, if_false, Bool.not_true, Bool.not_false, reduceIte, reduceCtorEq, true_and, and_true, Nat.zero_add, Bool.true_eq_false, Bool.false_eq_true, eqU_int, eqU_str, eqU_bl, str_eq, str_beq, String.reduceEq, decide_true, decide_false, decide_eq_true_eq, pl_items, pl_st0, pl_st1, pl_fold, notOwn, List.mem_singleton, List.mem_cons, List.not_mem_nil, or_false, false_or, or_true, true_or, forall_eq, forall_eq_or_imp, implies_true, Int.reduceToNat, Int.reduceEq, Int.reduceNe, Int.reduceAdd, Int.reduceSub, Int.reduceMul, Int.reducePow, Int.reduceMod, Int.reduceDiv, atI_0, atI_1, atI_2, atI_3, rg1, rg2, startI, r_var, r_var2, r_c, r_w2, r_w2a, r_w2b, r_w1, r_w1a, r_wB, r_wBa, r_ch, r_ch1, r_ch2, r_ch3t, r_ch3f, r_and, r_andt, r_andf, r_or, r_ort, r_orf, r_not, r_nota, r_ife, r_ifet, r_ifef, r_andv, r_andvt, r_andvf, r_orv, r_orvt, r_orvf, r_notv, r_notva, r_nil, r_cons, r_cons1, r_cons2, r_tup, r_tupa, r_lst, r_lsta, r_lstc, r_lstca, r_wn, r_wna, r_call, r_calla, r_mk, r_mk1, r_mk2, r_mkc, r_mkc1, r_mkc2, r_me, r_me1, r_me2, r_bo, r_bo1, r_bo2, r_onone, r_osome, r_osomea, r_sl, r_sl1, r_sl2, r_sl3, r_sl3f, r_ii, r_ii0, r_ib, r_i1, r_plus, r_plusl, r_times, r_timesl, r_isn, r_notn, r_eqd, r_ned, r_int1, r_int1b, r_max2, r_min2, r_abs, r_ix, r_ix2, r_ix3, r_len, r_len2, r_isi, r_isi2, r_fld, r_fld2, r_fld3, r_insobj, r_kx, r_next, r_never, r_seqa, r_if, r_ift, r_iff, r_ret, r_retn, r_brk, r_cnt, r_drop, r_dropa, r_set, r_seta, r_asg, r_asga, r_name, r_namec, r_ktup, r_kunl, r_kcons, r_kcs, r_knil, r_par2, r_par2a, r_par3, r_par3a, r_aug, r_auga, r_augb, r_augc, r_for, r_fora, r_knx, r_fldo, r_fldoa, r_put, r_frz, r_frz2, r_frz3, r_frz4, r_cl, r_seto, r_setoa, r_wil, r_wila, r_wilf, r_wit, r_wita, r_wi1, r_wi1a, r_wi2, r_wi2a, r_wie, r_wiea, r_wiz, r_wiza, r_wizt, r_lc, r_lc0, r_lcn, r_lcc, r_lc1, r_lc2t, r_lc2f, r_lc3, r_yes, r_sub, r_sub1, r_sub2, r_sub3, r_dnx, r_drt, r_dxc, r_inx, r_init, r_ixc, t_raise, t_raise2, t_try, t_cat, t_catt, t_catf, t_sunx, t_surt, t_nx0, t_nx1, t_nx2, t_nx3, t_prop, t_prop2, t_xf, t_xf2, t_isx, t_isx2, t_wht, t_whf, t_equ, t_neu, t_el, List.reverse_cons, List.reverse_nil, isiDT, anyT, List.all_cons, List.all_nil, Option.isSome_some, Bool.and_true, Bool.true_and, u_lof, u_lof2, u_tof, u_tof2, u_isiT, u_dict, u_bl, u_own, u_ownN, u_has, u_hasN, u_bk, u_bk1, u_bk2, u_stat, u_ap, u_ap1, u_ap2, u_ex, u_ex1, u_ex2, u_ownL, u_olen, u_oix, u_oix1, u_oin, u_sumT, u_sumL, u_mu, u_mu1, u_hot, u_hot1, startX, u_mb, u_mb1, u_mb1f, u_mb2, u_rev, u_revf, u_wio, u_wex, u_wel, u_wef, u_wet, u_en, u_en0, u_enc, u_enn, Int.cast_ofNat_Int, u_wzx, u_wzl, u_wzt, u_wzm, u_zd, u_zd0, intsD, DL.intD, u_kd, othC, isTy, Bool.true_xor, Bool.false_xor, eqU_pl, p_int, p_bl, p_non, p_tup, p_lst, p_frl, p0_int, p0_bl, p0_non, deq, deqs, Bool.and_true, Bool.and_false, Bool.false_and, List.contains_cons, List.contains_nil, Bool.or_false, Bool.false_or, Bool.or_self, eq_self, beq_self_eq_true, Bool.not_true, Bool.not_false, List.flatten_cons, List.flatten_nil, isi_0, isi_1, isi_2, isi_3, isi_4, isi_5, isi_6, isi_7, isi_8, isi_9, isi_10, isi_11, isi_12, isi_13, isi_14, isi_15, isi_16, isi_17, isi_18, isi_19, isi_20, isi_21, isi_22, isi_23, isi_24, isi_25, isi_26, isi_27, isi_28, isi_29, isi_30, isi_31, isi_32, isi_33, isi_34, isi_35, isi_36, isi_37, isi_38, isi_39, isi_40, isi_41, isi_42, isi_43, isi_44, isi_45, isi_46, isi_47, isi_48, isi_49, isi_50, isi_51, isi_52, isi_53, isi_54, isi_55, isi_56, isi_57, isi_58, isi_59, isi_60, isi_61, isi_62, isi_63])
local macro_rules
  | `(tactic| walk_at "dn") => `(tactic| try simp only [x_subO, x_subO1, x_subO2, v_slo, v_slo1, w_ff, w_ft, w_tf, w_tt, false_and, and_false, isClsU, v_ix, v_ix1, v_ix2, v_inv, v_inv1, v_co, v_co1, v_co2, v_len, v_len1, v_f2or, isiD, tyD, clD, r_insobj, fldOf, DL.isNon, items_tup, items_lst, items_frl, hasCls, isCls, othTy, insD, DL.putK, DL.putD, initEnd, startI, startD, DL.wipeD, List.map_cons, List.map_nil, List.length_cons, List.length_nil, List.getElem?_cons_zero, List.getElem?_cons_succ, List.getElem?_nil, List.set_cons_zero, List.set_cons_succ, List.cons_append, List.nil_append, List.append_nil, List.replicate, Nat.sub_self, Nat.reduceSub, Nat.reduceAdd, Nat.reduceLeDiff, Nat.reduceEqDiff, Nat.reduceLT, Int.reduceLT, Int.reduceLE, if_true, if_false, Bool.not_true, Bool.not_false, reduceIte, reduceCtorEq, true_and, and_true, Nat.zero_add, Bool.true_eq_false, Bool.false_eq_true, eqU_int, eqU_str, eqU_bl, str_eq, str_beq, String.reduceEq, decide_true, decide_false, decide_eq_true_eq, pl_items, pl_st0, pl_st1, pl_fold, notOwn, List.mem_singleton, List.mem_cons, List.not_mem_nil, or_false, false_or, or_true, true_or, forall_eq, forall_eq_or_imp, implies_true, Int.reduceToNat, Int.reduceEq, Int.reduceNe, Int.reduceAdd, Int.reduceSub, Int.reduceMul, Int.reducePow, Int.reduceMod, Int.reduceDiv, atI_0, atI_1, atI_2, atI_3, rg1, rg2, startI, r_var, r_var2, r_c, r_w2, r_w2a, r_w2b, r_w1, r_w1a, r_wB, r_wBa, r_ch, r_ch1, r_ch2, r_ch3t, r_ch3f, r_and, r_andt, r_andf, r_or, r_ort, r_orf, r_not, r_nota, r_ife, r_ifet, r_ifef, r_andv, r_andvt, r_andvf, r_orv, r_orvt, r_orvf, r_notv, r_notva, r_nil, r_cons, r_cons1, r_cons2, r_tup, r_tupa, r_lst, r_lsta, r_lstc, r_lstca, r_wn, r_wna, r_call, r_calla, r_mk, r_mk1, r_mk2, r_mkc, r_mkc1, r_mkc2, r_me, r_me1, r_me2, r_bo, r_bo1, r_bo2, r_onone, r_osome, r_osomea, r_sl, r_sl1, r_sl2, r_sl3, r_sl3f, r_ii, r_ii0, r_ib, r_i1, r_plus, r_plusl, r_times, r_timesl, r_isn, r_notn, r_eqd, r_ned, r_int1, r_int1b, r_max2, r_min2, r_abs, r_ix, r_ix2, r_ix3, r_len, r_len2, r_isi, r_isi2, r_fld, r_fld2, r_fld3, r_insobj, r_kx, r_next, r_never, r_seq, r_seqa, r_if, r_ift, r_iff, r_ret, r_retn, r_brk, r_cnt, r_drop, r_dropa, r_set, r_seta, r_asg, r_asga, r_name, r_namec, r_ktup, r_kunl, r_kcons, r_kcs, r_knil, r_par2, r_par2a, r_par3, r_par3a, r_aug, r_auga, r_augb, r_augc, r_for, r_fora, r_knx, r_fldo, r_fldoa, r_put, r_frz, r_frz2, r_frz3, r_frz4, r_cl, r_seto, r_setoa, r_wil, r_wila, r_wilf, r_wit, r_wita, r_wi1, r_wi1a, r_wi2, r_wi2a, r_wie, r_wiea, r_wiz, r_wiza, r_wizt, r_lc, r_lc0, r_lcn, r_lcc, r_lc1, r_lc2t, r_lc2f, r_lc3, r_yes, r_sub, r_sub1, r_sub2, r_sub3, r_dnx, r_drt, r_dxc, r_inx, r_init, r_ixc, t_raise, t_raise2, t_try, t_cat, t_catt, t_catf, t_sunx, t_surt, t_nx0, t_nx1, t_nx2, t_nx3, t_prop, t_prop2, t_xf, t_xf2, t_isx, t_isx2, t_wht, t_whf, t_equ, t_neu, t_el, List.reverse_cons, List.reverse_nil, isiDT, anyT, List.all_cons, List.all_nil, Option.isSome_some, Bool.and_true, Bool.true_and, u_lof, u_lof2, u_tof, u_tof2, u_isiT, u_dict, u_bl, u_own, u_ownN, u_has, u_hasN, u_bk, u_bk1, u_bk2, u_stat, u_ap, u_ap1, u_ap2, u_ex, u_ex1, u_ex2, u_ownL, u_olen, u_oix, u_oix1, u_oin, u_sumT, u_sumL, u_mu, u_mu1, u_hot, u_hot1, startX, u_mb, u_mb1, u_mb1f, u_mb2, u_rev, u_revf, u_wio, u_wex, u_wel, u_wef, u_wet, u_en, u_en0, u_enc, u_enn, Int.cast_ofNat_Int, u_wzx, u_wzl, u_wzt, u_wzm, u_zd, u_zd0, intsD, DL.intD, u_kd, othC, isTy, Bool.true_xor, Bool.false_xor, eqU_pl, p_int, p_bl, p_non, p_tup, p_lst, p_frl, p0_int, p0_bl, p0_non, deq, deqs, Bool.and_true, Bool.and_false, Bool.false_and, List.contains_cons, List.contains_nil, Bool.or_false, Bool.false_or, Bool.or_self, eq_self, beq_self_eq_true, Bool.not_true, Bool.not_false, List.flatten_cons, List.flatten_nil, isi_0, isi_1, isi_2, isi_3, isi_4, isi_5, isi_6, isi_7, isi_8, isi_9, isi_10, isi_11, isi_12, isi_13, isi_14, isi_15, isi_16, isi_17, isi_18, isi_19, isi_20, isi_21, isi_22, isi_23, isi_24, isi_25, isi_26, isi_27, isi_28, isi_29, isi_30, isi_31, isi_32, isi_33, isi_34, isi_35, isi_36, isi_37, isi_38, isi_39, isi_40, isi_41, isi_42, isi_43, isi_44, isi_45, isi_46, isi_47, isi_48, isi_49, isi_50, isi_51, isi_52, isi_53, isi_54, isi_55, isi_56, isi_57, isi_58, isi_59, isi_60, isi_61, isi_62, isi_63])
local macro_rules
  | `(tactic| walk_at "dl1") => `(tactic| simp only [x_subO, x_subO1, x_subO2, v_slo, v_slo1, w_ff, w_ft, w_tf, w_tt, false_and, and_false, isClsU, v_ix, v_ix1, v_ix2, v_inv, v_inv1, v_co, v_co1, v_co2, v_len, v_len1, v_f2or, isiD, tyD, clD, r_insobj, fldOf, DL.isNon, items_tup, items_lst, items_frl, hasCls, isCls, othTy, insD, DL.putK, DL.putD, initEnd, startI, startD, DL.wipeD, List.map_cons, List.map_nil, List.length_cons, List.length_nil, List.getElem?_cons_zero, List.getElem?_cons_succ, List.getElem?_nil, List.set_cons_zero, List.set_cons_succ, List.cons_append, List.nil_append, List.append_nil, List.replicate, Nat.sub_self, Nat.reduceSub, Nat.reduceAdd, Nat.reduceLeDiff, Nat.reduceEqDiff, Nat.reduceLT, Int.reduceLT, Int.reduceLE, if_true, if_false, Bool.not_true, Bool.not_false, reduceIte, reduceCtorEq, true_and, and_true, Nat.zero_add, Bool.true_eq_false, Bool.false_eq_true, eqU_int, eqU_str, eqU_bl, str_eq, str_beq, String.reduceEq, decide_true, decide_false, decide_eq_true_eq, pl_items, pl_st0, pl_st1, pl_fold, notOwn, List.mem_singleton, List.mem_cons, List.not_mem_nil, or_false, false_or, or_true, true_or, forall_eq, forall_eq_or_imp, implies_true, range_succ, range_zero, Int.reduceToNat, Int.reduceEq, Int.reduceNe, Int.reduceAdd, Int.reduceSub, Int.reduceMul, Int.reducePow, Int.reduceMod, Int.reduceDiv, atI_0, atI_1, atI_2, atI_3, rg1, rg2, startI, r_var, r_var2, r_c, r_w2, r_w2a, r_w2b, r_w1, r_w1a, r_wB, r_wBa, r_ch, r_ch1, r_ch2, r_ch3t, r_ch3f, r_and, r_andt, r_andf, r_or, r_ort, r_orf, r_not, r_nota, r_ife, r_ifet, r_ifef, r_andv, r_andvt, r_andvf, r_orv, r_orvt, r_orvf, r_notv, r_notva, r_nil, r_cons, r_cons1, r_cons2, r_tup, r_tupa, r_lst, r_lsta, r_lstc, r_lstca, r_wn, r_wna, r_call, r_calla, r_mk, r_mk1, r_mk2, r_mkc, r_mkc1, r_mkc2, r_me, r_me1, r_me2, r_bo, r_bo1, r_bo2, r_onone, r_osome, r_osomea, r_sl, r_sl1, r_sl2, r_sl3, r_sl3f, r_ii, r_ii0, r_ib, r_i1, r_plus, r_plusl, r_times, r_timesl, r_isn, r_notn, r_eqd, r_ned, r_int1, r_int1b, r_max2, r_min2, r_abs, r_ix, r_ix2, r_ix3, r_len, r_len2, r_isi, r_isi2, r_fld, r_fld2, r_fld3, r_insobj, r_kx, r_next, r_never, r_seq, r_seqa, r_if, r_ift, r_iff, r_ret, r_retn, r_brk, r_cnt, r_drop, r_dropa, r_set, r_seta, r_asg, r_asga, r_name, r_namec, r_ktup, r_kunl, r_kcons, r_kcs, r_knil, r_par2, r_par2a, r_par3, r_par3a, r_aug, r_auga, r_augb, r_augc, r_for, r_fora, r_knx, r_fldo, r_fldoa, r_put, r_frz, r_frz2, r_frz3, r_frz4, r_cl, r_seto, r_setoa, r_wil, r_wila, r_wilf, r_wit, r_wita, r_wi1, r_wi1a, r_wi2, r_wi2a, r_wie, r_wiea, r_wiz, r_wiza, r_wizt, r_lc, r_lc0, r_lcn, r_lcc, r_lc1, r_lc2t, r_lc2f, r_lc3, r_yes, r_sub, r_sub1, r_sub2, r_sub3, r_dnx, r_drt, r_dxc, r_inx, r_init, r_ixc, t_raise, t_raise2, t_try, t_cat, t_catt, t_catf, t_sunx, t_surt, t_nx0, t_nx1, t_nx2, t_nx3, t_prop, t_prop2, t_xf, t_xf2, t_isx, t_isx2, t_wht, t_whf, t_equ, t_neu, t_el, List.reverse_cons, List.reverse_nil, isiDT, anyT, List.all_cons, List.all_nil, Option.isSome_some, Bool.and_true, Bool.true_and, u_lof, u_lof2, u_tof, u_tof2, u_isiT, u_dict, u_bl, u_own, u_ownN, u_has, u_hasN, u_bk, u_bk1, u_bk2, u_stat, u_ap, u_ap1, u_ap2, u_ex, u_ex1, u_ex2, u_ownL, u_olen, u_oix, u_oix1, u_oin, u_sumT, u_sumL, u_mu, u_mu1, u_hot, u_hot1, startX, u_mb, u_mb1, u_mb1f, u_mb2, u_rev, u_revf, u_wio, u_wex, u_wel, u_wef, u_wet, u_en, u_en0, u_enc, u_enn, Int.cast_ofNat_Int, u_wzx, u_wzl, u_wzt, u_wzm, u_zd, u_zd0, intsD, DL.intD, u_kd, othC, isTy, Bool.true_xor, Bool.false_xor, eqU_pl, p_int, p_bl, p_non, p_tup, p_lst, p_frl, p0_int, p0_bl, p0_non, deq, deqs, Bool.and_true, Bool.and_false, Bool.false_and, List.contains_cons, List.contains_nil, Bool.or_false, Bool.false_or, Bool.or_self, eq_self, beq_self_eq_true, Bool.not_true, Bool.not_false, List.flatten_cons, List.flatten_nil, isi_0, isi_1, isi_2, isi_3, isi_4, isi_5, isi_6, isi_7, isi_8, isi_9, isi_10, isi_11, isi_12, isi_13, isi_14, isi_15, isi_16, isi_17, isi_18, isi_19, isi_20, isi_21, isi_22, isi_23, isi_24, isi_25, isi_26, isi_27, isi_28, isi_29, isi_30, isi_31, isi_32, isi_33, isi_34, isi_35, isi_36, isi_37, isi_38, isi_39, isi_40, isi_41, isi_42, isi_43, isi_44, isi_45, isi_46, isi_47, isi_48, isi_49, isi_50, isi_51, isi_52, isi_53, isi_54, isi_55, isi_56, isi_57, isi_58, isi_59, isi_60, isi_61, isi_62, isi_63])
local macro_rules
  | `(tactic| walk_at "dl") => `(tactic| try simp only [x_subO, x_subO1, x_subO2, v_slo, v_slo1, w_ff, w_ft, w_tf, w_tt, false_and, and_false, isClsU, v_ix, v_ix1, v_ix2, v_inv, v_inv1, v_co, v_co1, v_co2, v_len, v_len1, v_f2or, isiD, tyD, clD, r_insobj, fldOf, DL.isNon, items_tup, items_lst, items_frl, hasCls, isCls, othTy, insD, DL.putK, DL.putD, initEnd, startI, startD, DL.wipeD, List.map_cons, List.map_nil, List.length_cons, List.length_nil, List.getElem?_cons_zero, List.getElem?_cons_succ, List.getElem?_nil, List.set_cons_zero, List.set_cons_succ, List.cons_append, List.nil_append, List.append_nil, List.replicate, Nat.sub_self, Nat.reduceSub, Nat.reduceAdd, Nat.reduceLeDiff, Nat.reduceEqDiff, Nat.reduceLT, Int.reduceLT, Int.reduceLE, if_true, if_false, Bool.not_true, Bool.not_false, reduceIte, reduceCtorEq, true_and, and_true, Nat.zero_add, Bool.true_eq_false, Bool.false_eq_true, eqU_int, eqU_str, eqU_bl, str_eq, str_beq, String.reduceEq, decide_true, decide_false, decide_eq_true_eq, pl_items, pl_st0, pl_st1, pl_fold, notOwn, List.mem_singleton, List.mem_cons, List.not_mem_nil, or_false, false_or, or_true, true_or, forall_eq, forall_eq_or_imp, implies_true, range_succ, range_zero, Int.reduceToNat, Int.reduceEq, Int.reduceNe, Int.reduceAdd, Int.reduceSub, Int.reduceMul, Int.reducePow, Int.reduceMod, Int.reduceDiv, atI_0, atI_1, atI_2, atI_3, rg1, rg2, startI, r_var, r_var2, r_c, r_w2, r_w2a, r_w2b, r_w1, r_w1a, r_wB, r_wBa, r_ch, r_ch1, r_ch2, r_ch3t, r_ch3f, r_and, r_andt, r_andf, r_or, r_ort, r_orf, r_not, r_nota, r_ife, r_ifet, r_ifef, r_andv, r_andvt, r_andvf, r_orv, r_orvt, r_orvf, r_notv, r_notva, r_nil, r_cons, r_cons1, r_cons2, r_tup, r_tupa, r_lst, r_lsta, r_lstc, r_lstca, r_wn, r_wna, r_call, r_calla, r_mk, r_mk1, r_mk2, r_mkc, r_mkc1, r_mkc2, r_me, r_me1, r_me2, r_bo, r_bo1, r_bo2, r_onone, r_osome, r_osomea, r_sl, r_sl1, r_sl2, r_sl3, r_sl3f, r_ii, r_ii0, r_ib, r_i1, r_plus, r_plusl, r_times, r_timesl, r_isn, r_notn, r_eqd, r_ned, r_int1, r_int1b, r_max2, r_min2, r_abs, r_ix, r_ix2, r_ix3, r_len, r_len2, r_isi, r_isi2, r_fld, r_fld2, r_fld3, r_insobj, r_kx, r_next, r_never, r_seq, r_seqa, r_if, r_ift, r_iff, r_ret, r_retn, r_brk, r_cnt, r_drop, r_dropa, r_set, r_seta, r_asg, r_asga, r_name, r_namec, r_ktup, r_kunl, r_kcons, r_kcs, r_knil, r_par2, r_par2a, r_par3, r_par3a, r_aug, r_auga, r_augb, r_augc, r_for, r_fora, r_knx, r_fldo, r_fldoa, r_put, r_frz, r_frz2, r_frz3, r_frz4, r_cl, r_seto, r_setoa, r_wil, r_wila, r_wilf, r_wit, r_wita, r_wi1, r_wi1a, r_wi2, r_wi2a, r_wie, r_wiea, r_wiz, r_wiza, r_wizt, r_lc, r_lc0, r_lcn, r_lcc, r_lc1, r_lc2t, r_lc2f, r_lc3, r_yes, r_sub, r_sub1, r_sub2, r_sub3, r_dnx, r_drt, r_dxc, r_inx, r_init, r_ixc, t_raise, t_raise2, t_try, t_cat, t_catt, t_catf, t_sunx, t_surt, t_nx0, t_nx1, t_nx2, t_nx3, t_prop, t_prop2, t_xf, t_xf2, t_isx, t_isx2, t_wht, t_whf, t_equ, t_neu, t_el, List.reverse_cons, List.reverse_nil, isiDT, anyT, List.all_cons, List.all_nil, Option.isSome_some, Bool.and_true, Bool.true_and, u_lof, u_lof2, u_tof, u_tof2, u_isiT, u_dict, u_bl, u_own, u_ownN, u_has, u_hasN, u_bk, u_bk1, u_bk2, u_stat, u_ap, u_ap1, u_ap2, u_ex, u_ex1, u_ex2, u_ownL, u_olen, u_oix, u_oix1, u_oin, u_sumT, u_sumL, u_mu, u_mu1, u_hot, u_hot1, startX, u_mb, u_mb1, u_mb1f, u_mb2, u_rev, u_revf, u_wio, u_wex, u_wel, u_wef, u_wet, u_en, u_en0, u_enc, u_enn, Int.cast_ofNat_Int, u_wzx, u_wzl, u_wzt, u_wzm, u_zd, u_zd0, intsD, DL.intD, u_kd, othC, isTy, Bool.true_xor, Bool.false_xor, eqU_pl, p_int, p_bl, p_non, p_tup, p_lst, p_frl, p0_int, p0_bl, p0_non, deq, deqs, Bool.and_true, Bool.and_false, Bool.false_and, List.contains_cons, List.contains_nil, Bool.or_false, Bool.false_or, Bool.or_self, eq_self, beq_self_eq_true, Bool.not_true, Bool.not_false, List.flatten_cons, List.flatten_nil, isi_0, isi_1, isi_2, isi_3, isi_4, isi_5, isi_6, isi_7, isi_8, isi_9, isi_10, isi_11, isi_12, isi_13, isi_14, isi_15, isi_16, isi_17, isi_18, isi_19, isi_20, isi_21, isi_22, isi_23, isi_24, isi_25, isi_26, isi_27, isi_28, isi_29, isi_30, isi_31, isi_32, isi_33, isi_34, isi_35, isi_36, isi_37, isi_38, isi_39, isi_40, isi_41, isi_42, isi_43, isi_44, isi_45, isi_46, isi_47, isi_48, isi_49, isi_50, isi_51, isi_52, isi_53, isi_54, isi_55, isi_56, isi_57, isi_58, isi_59, isi_60, isi_61, isi_62, isi_63])
local macro_rules
  | `(tactic| walk_at "cm") => `(tactic| first | exact .inl (.inr ⟨by omega, by omega⟩) | exact .inl (.inl ⟨by omega, by omega⟩) | exact cm_bd (by unfold Bd; omega) (by unfold Bd; omega))
local macro_rules
  | `(tactic| walk_at "cs") => `(tactic| repeat ((with_reducible refine And.intro ?_ ?_); (· first | decide | (walk_at "cm") | exact ⟨by decide, by decide, by decide⟩ | omega)))
local macro_rules
  | `(tactic| walk_at "go") => `(tactic| (walk_at "dl"; walk_at "cs"))
local macro_rules
  | `(tactic| walk_at "gn") => `(tactic| (walk_at "dn"; walk_at "cs"))
section
variable {Q : D → Mu → Prop} {Xd : XD} {μ : Mu}
theorem axis_ok {k : Nat} : axis k ≠ SA.O ∧ BP (axis k) := by
  unfold axis BP B6
  (repeat' split) <;> decide
theorem ways_arc : ∀ k : Nat, k < 8 → [SA.hf (axis k) (decide (k % 2 = 0)) (1, 0), SA.hf (axis k) (decide (k % 2 = 0)) (1, 1), SA.hf (axis k) (decide (k % 2 = 0)) (0, 1), SA.hf (axis k) (decide (k % 2 = 0)) (-1, 1), SA.hf (axis k) (decide (k % 2 = 0)) (-1, 0), SA.hf (axis k) (decide (k % 2 = 0)) (-1, -1), SA.hf (axis k) (decide (k % 2 = 0)) (0, -1), SA.hf (axis k) (decide (k % 2 = 0)) (1, -1)] = arc k := by
  intro k hk
  have ki : k = 0 ∨ k = 1 ∨ k = 2 ∨ k = 3 ∨ k = 4 ∨ k = 5 ∨ k = 6 ∨ k = 7 := by omega
  rcases ki with rfl | rfl | rfl | rfl | rfl | rfl | rfl | rfl <;> decide +kernel
theorem tabof_ev {k : Nat} (hk : k < 8) (h : Q (rlD (.tab (arc k))) μ) : sp_table_of [rlD (.half (axis k) (decide (k % 2 = 0)))] μ Q Xd := by
  have hh : ∀ (d : SA.P) (Q : D → Mu → Prop) (Xd : XD), Bd d.1 → Bd d.2 → Q (.bl (SA.hf (axis k) (decide (k % 2 = 0)) d)) μ → sp_Half_has [rlD (.half (axis k) (decide (k % 2 = 0))), pd d] μ Q Xd := fun d Q Xd b1 b2 h => half_has (b6bd axis_ok.2.1) (b6bd axis_ok.2.2) b1 b2 h
  have wa := ways_arc k hk
  have e0 : (decide ((axis k).1 = 0) = true) ∨ (decide ((axis k).1 = 0) = false ∧ decide ((axis k).2 = 0) = true) := by
    unfold axis
    (repeat' split) <;> decide
  generalize axis k = w at *
  generalize decide (k % 2 = 0) = ah at *
  unfold sp_table_of w_table_of
  unfold rlD at hh ⊢
  rcases e0 with e0 | ⟨e0, e1⟩
  all_goals
    walk_at "go"
    rw [e0]
    walk_at "go"
    try rw [e1]
    walk_at "go"
    refine hh (1, 0) _ _ (by unfold Bd; decide) (by unfold Bd; decide) ?_
    walk_at "go"
    refine hh (1, 1) _ _ (by unfold Bd; decide) (by unfold Bd; decide) ?_
    walk_at "go"
    refine hh (0, 1) _ _ (by unfold Bd; decide) (by unfold Bd; decide) ?_
    walk_at "go"
    refine hh (-1, 1) _ _ (by unfold Bd; decide) (by unfold Bd; decide) ?_
    walk_at "go"
    refine hh (-1, 0) _ _ (by unfold Bd; decide) (by unfold Bd; decide) ?_
    walk_at "go"
    refine hh (-1, -1) _ _ (by unfold Bd; decide) (by unfold Bd; decide) ?_
    walk_at "go"
    refine hh (0, -1) _ _ (by unfold Bd; decide) (by unfold Bd; decide) ?_
    walk_at "go"
    refine hh (1, -1) _ _ (by unfold Bd; decide) (by unfold Bd; decide) ?_
    walk_at "go"
    refine tab_init (bs := [SA.hf w ah (1, 0), SA.hf w ah (1, 1), SA.hf w ah (0, 1), SA.hf w ah (-1, 1), SA.hf w ah (-1, 0), SA.hf w ah (-1, -1), SA.hf w ah (0, -1), SA.hf w ah (1, -1)]) rfl ?_
    walk_at "go"
    rw [← wa] at h
    exact h
theorem lw_s {w : SA.P} (h : -4 ≤ w.1 ∧ w.1 ≤ 4 ∧ -4 ≤ w.2 ∧ w.2 ≤ 4) : -4 ≤ (SA.lw w).1 ∧ (SA.lw w).1 ≤ 4 ∧ -4 ≤ (SA.lw w).2 ∧ (SA.lw w).2 ≤ 4 := by
  have h1 := Int.natAbs_ediv_le_natAbs w.1 (Int.gcd w.1 w.2 : Int)
  have h2 := Int.natAbs_ediv_le_natAbs w.2 (Int.gcd w.1 w.2 : Int)
  unfold SA.lw
  simp only
  omega
local macro_rules
  | `(tactic| walk_at "gk") => `(tactic| (walk_at "dk"; walk_at "cs"))
theorem le1 {bs : List Bool} {s : Rl} (hb : bs.length = 8) (hs : LwOk s) (h : Q (.bl (within (.tab bs) s)) μ) : fOwn "Table" [] ["Table", "Half"] sp_Rule_le (rlD (.tab bs)) (rlD s) μ Q := by
  have le := le_ev (r := .tab bs) (s := s) (μ := μ) (Q := Q) (Xd := xF) hb hs.ok h
  cases s with
  | tab ys =>
    unfold rlD at le ⊢
    walk_at "gn"
    exact le
  | half w a =>
    unfold rlD at le ⊢
    walk_at "gn"
    exact le
theorem le2 {r s : Rl} (hr : LwOk r) (hs : LwOk s) (h : Q (.bl (within r s)) μ) : (F2.or (fOwn "Table" [] ["Table", "Half"] sp_Rule_le) (fOwn "Half" [] ["Table", "Half"] sp_Rule_le)) (rlD r) (rlD s) μ Q := by
  cases r with
  | tab bs =>
    rw [v_f2or]
    exact .inl (le1 hr hs h)
  | half w a =>
    rw [v_f2or]
    refine .inr ?_
    have le := le_ev (r := .half w a) (s := s) (μ := μ) (Q := Q) (Xd := xF) hr.ok hs.ok h
    cases s with
    | tab ys =>
      unfold rlD at le ⊢
      walk_at "gn"
      exact le
    | half w a =>
      unfold rlD at le ⊢
      walk_at "gn"
      exact le
theorem filter_no {α : Type} {l : List α} : l.filter (fun _ => false) = [] := List.filter_eq_nil_iff.mpr fun _ _ => by simp
/-- told rules -/
inductive Tr where
  | tab (bs : List Bool)
  | half (n : SA.P) (ah : Bool)
def trD : Tr → D
  | .tab bs => .tup [.str "table", .lst (bs.map D.bl)]
  | .half n ah => .tup [.str "half", pd n, .bl ah]
def trR : Tr → Rl
  | .tab bs => .tab bs
  | .half n ah => .half (SA.lw n) ah
def TrOk : Tr → Prop
  | .tab bs => bs.length = 8
  | .half n _ => n ≠ SA.O ∧ SA.s4 n
def trIn : Tr → SA.P → Bool
  | .tab bs => tR bs
  | .half n ah => SA.hf n ah
def trL : Tr → List SA.P
  | .tab _ => []
  | .half n _ => SA.lines n
theorem tr_lw {t : Tr} (h : TrOk t) : LwOk (trR t) := by
  cases t with
  | tab bs => exact h
  | half n ah =>
    have s := h.2
    unfold SA.s4 at s
    have lb := lw_s s
    exact ⟨⟨SA.lw_nz h.1, by unfold BP B6; omega⟩, SA.gcd_lw h.1⟩
theorem made_ev {t : Tr} (ht : TrOk t) (h : Q (rlD (trR t)) μ) : sp__law_made [trD t] μ Q Xd := by
  unfold sp__law_made w__law_made
  cases t with
  | tab bs =>
    unfold trD
    walk_at "gn"
    refine tab_init ht ?_
    walk_at "gn"
    exact h
  | half n ah =>
    have s := ht.2
    unfold SA.s4 at s
    unfold trD
    walk_at "gn"
    refine half_init (w := n) isP_pr ht.1 (by unfold Bd; omega) (by unfold Bd; omega) ?_
    walk_at "gn"
    exact h
theorem idx_k {ds : List D} {y d : D} (hx : P5 (.lst ds) = true) (hy : P5 y = true) (j : Nat) (hj : ds[j]? = some d) (hd : deq d y = true) (hlt : ((List.range j).all fun m => !deq ((ds[m]?).getD .non) y) = true) (h : Q (.int j) μ) : fIdx (.lst ds) y μ Q :=
  idx_pl hx hy hj hd (fun m e hm he => by
    have := List.all_eq_true.mp hlt m (List.mem_range.mpr hm)
    rw [he] at this
    simpa using this) h
theorem kind_ev {d : SA.P} (hd : d ≠ SA.O) (h : Q (.int (SO.kd d)) μ) : sp__law_kind [pd d] μ Q Xd := by
  unfold sp__law_kind w__law_kind
  walk_at "gn"
  rw [SA.nz] at hd
  rcases SO.kd_tab d.1 d.2 with ⟨y0, x0, k⟩ | ⟨y0, x0, k⟩ | ⟨y0, x0, k⟩ | ⟨y0, x0, k⟩ | ⟨y0, x0, k⟩ | ⟨y0, x0, k⟩ | ⟨y0, x0, k⟩ | ⟨y0, x0, k⟩ <;> rw [show SO.kd d = _ from k] at h
  · rw [if_pos (by omega), if_neg (by omega), if_neg (by omega), if_neg (by omega)]
    exact idx_k rfl rfl 0 rfl (by decide +kernel) (by decide +kernel) h
  · rw [if_neg (by omega), if_pos (by omega), if_neg (by omega), if_neg (by omega)]
    exact idx_k rfl rfl 4 rfl (by decide +kernel) (by decide +kernel) h
  · rw [if_pos (by omega), if_neg (by omega), if_pos (by omega), if_neg (by omega)]
    exact idx_k rfl rfl 1 rfl (by decide +kernel) (by decide +kernel) h
  · rw [if_neg (by omega), if_neg (by omega), if_pos (by omega), if_neg (by omega)]
    exact idx_k rfl rfl 2 rfl (by decide +kernel) (by decide +kernel) h
  · rw [if_neg (by omega), if_pos (by omega), if_pos (by omega), if_neg (by omega)]
    exact idx_k rfl rfl 3 rfl (by decide +kernel) (by decide +kernel) h
  · rw [if_neg (by omega), if_pos (by omega), if_neg (by omega), if_pos (by omega)]
    exact idx_k rfl rfl 5 rfl (by decide +kernel) (by decide +kernel) h
  · rw [if_neg (by omega), if_neg (by omega), if_neg (by omega), if_pos (by omega)]
    exact idx_k rfl rfl 6 rfl (by decide +kernel) (by decide +kernel) h
  · rw [if_pos (by omega), if_neg (by omega), if_neg (by omega), if_pos (by omega)]
    exact idx_k rfl rfl 7 rfl (by decide +kernel) (by decide +kernel) h
theorem hin_ev {n d : SA.P} {ah : Bool} (b1 : Bd n.1) (b2 : Bd n.2) (b3 : Bd d.1) (b4 : Bd d.2) (h : Q (.bl (SA.hf n ah d)) μ) : sp__law_half_in [pd n, .bl ah, pd d] μ Q Xd := by
  unfold sp__law_half_in w__law_half_in
  unfold SA.hf SA.cr at h
  walk_at "gn"
  refine ⟨cm_bd b1 b4, cm_bd b2 b3, ?_⟩
  walk_at "gn"
  by_cases c : n.1 * d.2 - n.2 * d.1 = 0
  · rw [if_neg (by omega)] at h
    rw [decide_eq_true c]
    walk_at "gn"
    refine ⟨cm_bd b1 b3, cm_bd b2 b4, ?_⟩
    walk_at "gn"
    rw [Int.mul_comm d.1 n.1, Int.mul_comm d.2 n.2] at h
    exact h
  · rw [if_pos c] at h
    rw [decide_eq_false c]
    walk_at "gn"
    exact h
theorem in_ev {t : Tr} {d : SA.P} (ht : TrOk t) (hd : d ≠ SA.O) (bd : BP d) (h : Q (.bl (trIn t d)) μ) : sp__law_in [trD t, pd d] μ Q Xd := by
  unfold sp__law_in w__law_in
  cases t with
  | tab bs =>
    have hl : bs.length = 8 := ht
    unfold trD
    walk_at "gn"
    refine kind_ev hd ?_
    obtain ⟨k1, k2⟩ := kd_8 d
    obtain ⟨n, hn⟩ : ∃ n : Nat, SO.kd d = n := ⟨(SO.kd d).toNat, by omega⟩
    have e : atI (bs.map D.bl) ((n : Nat) : Int) = some (.bl (tR bs d)) := by
      rw [DL.atI_nat, List.getElem?_map]
      unfold tR
      rw [hn, Int.toNat_natCast, List.getElem?_eq_getElem (show n < bs.length by omega)]
      rfl
    rw [hn]
    walk_at "gn"
    rw [e]
    exact h
  | half n ah =>
    have s := ht.2
    unfold SA.s4 at s
    unfold trD
    walk_at "gn"
    refine hin_ev (n := n) (d := d) (by unfold Bd; omega) (by unfold Bd; omega) (b6bd bd.1) (b6bd bd.2) ?_
    walk_at "gn"
    exact h
theorem lines_ev {t : Tr} (ht : TrOk t) (h : Q (.lst ((trL t).map pd)) μ) : sp__law_lines [trD t] μ Q Xd := by
  unfold sp__law_lines w__law_lines
  cases t with
  | tab bs =>
    unfold trD
    walk_at "gn"
    exact h
  | half n ah =>
    have s := ht.2
    unfold SA.s4 at s
    unfold trD
    walk_at "go"
    iterate 4
      refine un ?_
      walk_at "go"
    refine un0 ?_
    walk_at "go"
    exact h
def ways (t u : Tr) : List SA.P := ((SA.B1 ++ trL t) ++ trL u) ++ SA.B2
def dueB (t u : Tr) : Bool := ((ways t u).filter (trIn t)).all (trIn u)
theorem trL_ok {t : Tr} (ht : TrOk t) : (trL t).length ≤ 10 ∧ ∀ d ∈ trL t, d ≠ SA.O ∧ BP d := by
  cases t with
  | tab bs => exact ⟨Nat.zero_le _, fun d hd => nomatch hd⟩
  | half n ah =>
    have s := ht.2
    have nz := ht.1
    unfold SA.s4 at s
    refine ⟨Nat.le_of_eq rfl, ?_⟩
    rw [SA.nz] at nz
    unfold trL SA.lines SA.units BP B6 SA.neg
    intro d hd
    rw [SA.nz]
    simp only [List.flatMap_cons, List.flatMap_nil, List.cons_append, List.nil_append, List.mem_cons, List.not_mem_nil, or_false, List.append_nil] at hd
    rcases hd with rfl | rfl | rfl | rfl | rfl | rfl | rfl | rfl | rfl | rfl <;> first | omega | (simp only; omega)
theorem ways_ok {t u : Tr} (ht : TrOk t) (hu : TrOk u) : (ways t u).length ≤ 100 ∧ ∀ d ∈ ways t u, d ≠ SA.O ∧ BP d := by
  obtain ⟨l1, o1⟩ := trL_ok ht
  obtain ⟨l2, o2⟩ := trL_ok hu
  unfold ways
  constructor
  · rw [List.length_append, List.length_append, List.length_append]
    have : SA.B1.length = 12 := rfl
    have : SA.B2.length = 8 := rfl
    omega
  · intro d hd
    have q : ∀ d ∈ SA.B1 ++ SA.B2, d ≠ SA.O ∧ BP d := by unfold SA.B1 SA.B2 BP B6; decide
    rcases List.mem_append.mp hd with hd | hd
    · rcases List.mem_append.mp hd with hd | hd
      · rcases List.mem_append.mp hd with hd | hd
        · exact q d (List.mem_append.mpr (.inl hd))
        · exact o1 d hd
      · exact o2 d hd
    · exact q d (List.mem_append.mpr (.inr hd))
theorem lcL_eq {g : WG} {tt : WT} {te : WE} {ρ : DS} {ds ds' : List D} (e : ds = ds') (h : lcL g tt te ρ ds' [] μ Q) : lcL g tt te ρ ds [] μ Q := e ▸ h
theorem due_ev {t u : Tr} (ht : TrOk t) (hu : TrOk u) (h : Q (.bl (dueB t u)) μ) : sp__law_due [trD t, trD u] μ Q Xd := by
  obtain ⟨l1, o1⟩ := trL_ok ht
  obtain ⟨l2, o2⟩ := trL_ok hu
  obtain ⟨lw, ow⟩ := ways_ok ht hu
  unfold sp__law_due w__law_due
  walk_at "gn"
  refine lines_ev ht ?_
  change K2b fPlus (D.lst (SA.B1.map pd)) _ _ _
  walk_at "gn"
  refine ⟨by rw [List.length_map, List.length_map]; have : SA.B1.length = 12 := rfl; unfold sizeLine; omega, ?_⟩
  refine lines_ev hu ?_
  walk_at "gn"
  refine ⟨by rw [List.length_append, List.length_map, List.length_map, List.length_map]; have : SA.B1.length = 12 := rfl; unfold sizeLine; omega, ?_⟩
  refine ⟨by rw [List.length_append, List.length_append, List.length_map, List.length_map, List.length_map]; have : SA.B1.length = 12 := rfl; unfold sizeLine; omega, ?_⟩
  refine lcL_eq (ds' := (ways t u).map pd) ?_ ?_
  · unfold ways
    rw [List.map_append, List.map_append, List.map_append]
    rfl
  refine lc_filter (α := SA.P) (f := pd) (l := ways t u) (trIn t) (fun d => D.bl (trIn u d)) (fun d hd ds acc hacc ht1 hf1 => ?_) (by omega) ?_
  · obtain ⟨d0, bd⟩ := ow d hd
    walk_at "gn"
    refine in_ev ht d0 bd ?_
    cases c : trIn t d
    · walk_at "gn"
      exact hf1 c
    · walk_at "gn"
      refine in_ev hu d0 bd ?_
      walk_at "gn"
      exact ht1 c
  · walk_at "gn"
    refine nind_pl rfl (all_map (p := Pn (Pn (Pn (Pn P0)))) fun p => rfl) ?_
    refine b_go (F := fun b μ => Q (.bl b) μ) ?_ h
    unfold dueB
    rw [List.any_map, List.not_any_eq_all_not]
    congr 1
    funext d
    simp only [Function.comp]
    cases trIn u d <;> simp [deq]
theorem due_within {t u : Tr} (ht : TrOk t) (hu : TrOk u) : within (trR t) (trR u) = dueB t u := by
  have fw : ∀ d ∈ SA.B1 ++ SA.B2, d ∈ ways t u := fun d hd => by
    unfold ways
    rcases List.mem_append.mp hd with hd | hd
    · exact List.mem_append.mpr (.inl (List.mem_append.mpr (.inl (List.mem_append.mpr (.inl hd)))))
    · exact List.mem_append.mpr (.inr hd)
  have lt : ∀ d ∈ trL t, d ∈ ways t u := fun d hd => List.mem_append.mpr (.inl (List.mem_append.mpr (.inl (List.mem_append.mpr (.inr hd)))))
  have trI : ∀ {t : Tr}, TrOk t → ∀ d, rlR (trR t) d = trIn t d := fun {t} ht d => by
    cases t with
    | tab bs => rfl
    | half n ah => exact SA.hf_lw ht.1
  obtain ⟨_, ow⟩ := ways_ok ht hu
  have key : within (trR t) (trR u) = true ↔ dueB t u = true := by
    constructor
    · intro h
      have h := (within_iff (tr_lw ht) (tr_lw hu)).mp h
      unfold dueB
      rw [List.all_eq_true]
      intro d hd
      obtain ⟨hd, q⟩ := List.mem_filter.mp hd
      have := h d (ow d hd).1 (by rw [trI ht]; exact q)
      rw [trI hu] at this
      exact this
    · intro h
      unfold dueB at h
      rw [List.all_eq_true] at h
      have h : ∀ d ∈ ways t u, trIn t d = true → trIn u d = true := fun d hd q => h d (List.mem_filter.mpr ⟨hd, q⟩)
      cases t with
      | tab xs =>
        cases u with
        | tab ys =>
          show wkB xs ys = true
          rw [wkB_iff]
          intro k hk q
          obtain ⟨d, hd, e⟩ := SA.kd_fin hk
          have := h d (fw d hd) (show (xs[SA.kdN d]?).getD false = true by rw [e]; exact q)
          have this : (ys[SA.kdN d]?).getD false = true := this
          rw [e] at this
          exact this
        | half v b =>
          show wkB xs (SA.hK true (SA.lw v) b) = true
          rw [wkB_iff]
          intro k hk q
          cases c : ((SA.hK true (SA.lw v) b)[k]?).getD false with
          | true => rfl
          | false =>
            have s4 : SA.s4 (SA.lw v) := lw_s hu.2
            obtain ⟨d, hd, e, f⟩ := SA.kind_fin s4 hk true false (.inr ⟨rfl, rfl⟩) c
            have := h d (fw d hd) (show (xs[SA.kdN d]?).getD false = true by rw [e]; exact q)
            have this : SA.hf v b d = true := this
            rw [SA.hf_lw hu.1, this] at f
            cases f
      | half w a =>
        cases u with
        | tab ys =>
          show wkB (SA.hK false (SA.lw w) a) ys = true
          rw [wkB_iff]
          intro k hk q
          have s4 : SA.s4 (SA.lw w) := lw_s ht.2
          obtain ⟨d, hd, e, f⟩ := SA.kind_fin s4 hk false true (.inl ⟨rfl, rfl⟩) q
          rw [SA.hf_lw ht.1] at f
          have this : (ys[SA.kdN d]?).getD false = true := h d (fw d hd) f
          rw [e] at this
          exact this
        | half v b =>
          obtain ⟨e1, e2⟩ := SA.half_fin ht.1 hu.1 ht.2 hu.2 fun d hd q => h d (lt d hd) q
          show (decide (SA.lw w = SA.lw v) && decide (a = b)) = true
          rw [decide_eq_true e1, decide_eq_true e2]
          rfl
  cases x : within (trR t) (trR u) <;> cases y : dueB t u <;> simp_all
theorem rule2_ev {p q : Int} (ok : PoolOk p q) (h : ∀ (t : Tr) p' q', PoolOk p' q' → TrOk t → Q (trD t) (pl μ p' q')) : sp__law_rule [.loc μ.length] (pl μ p q) Q Xd := by
  unfold sp__law_rule w__law_rule
  walk_at "gn"
  refine draw_ev ok (by decide) (by unfold Bd; omega) fun x p1 q1 ok1 x0 x1 => ?_
  walk_at "gn"
  by_cases c : x = 0
  · rw [decide_eq_true c]
    walk_at "gn"
    change lcL _ _ _ _ (rangeD 0 8) [] _ _
    refine lc_pool (α := Bool) (f := D.bl) (fun _ _ => True) (by decide) (fun k hk p1 q1 ok1 K3 hK3 => ?_) (fun bs hbs _ p2 q2 ok2 => ?_) ok1
    · walk_at "gn"
      refine draw_ev ok1 (by decide) (by unfold Bd; omega) fun x p2 q2 ok2 x0 x1 => ?_
      walk_at "gn"
      exact hK3 _ _ _ ok2 trivial
    walk_at "gn"
    exact h (.tab bs) _ _ ok2 hbs
  · rw [decide_eq_false c]
    walk_at "gn"
    refine lpair_ev (n := 4) ok1 (by decide) fun u v p3 q3 ok3 u0 u1 v0 v1 => ?_
    walk_at "gn"
    obtain ⟨w, hw, hwb, hd⟩ : ∃ w : SA.P, w ≠ SA.O ∧ (-4 ≤ w.1 ∧ w.1 ≤ 4 ∧ -4 ≤ w.2 ∧ w.2 ≤ 4) ∧ ((u = 0 ∧ v = 0) ∧ w = (3, -1) ∨ ¬ (u = 0 ∧ v = 0) ∧ w = (u, v)) := by
      by_cases c : u = 0 ∧ v = 0
      · exact ⟨(3, -1), by decide, by decide, .inl ⟨c, rfl⟩⟩
      · exact ⟨(u, v), by rw [SA.nz]; exact c, ⟨u0, u1, v0, v1⟩, .inr ⟨c, rfl⟩⟩
    refine kife_go (pd w) (fun e K2 h2 => ?_) (fun e K2 h2 => ?_) ?_
    · rcases hd with ⟨c, rfl⟩ | ⟨c, rfl⟩
      · walk_at "gn"
        exact h2
      · simp at e
        exact absurd e c
    · rcases hd with ⟨c, rfl⟩ | ⟨c, rfl⟩
      · simp at e
        exact absurd c.2 (e c.1)
      · walk_at "gn"
        exact h2
    walk_at "gn"
    refine draw_ev ok3 (by decide) (by unfold Bd; omega) fun x p4 q4 ok4 x0 x1 => ?_
    walk_at "gn"
    generalize decide (x = 0) = ah
    exact h (.half w ah) _ _ ok4 ⟨hw, hwb⟩
theorem near_ev {p q : Int} (ok : PoolOk p q) (h : ∀ (t : Tr) p' q', PoolOk p' q' → TrOk t → Q (trD t) (pl μ p' q')) : sp__law_near [.loc μ.length] (pl μ p q) Q Xd := by
  unfold sp__law_near w__law_near
  walk_at "gn"
  refine draw_ev ok (by decide) (by unfold Bd; omega) fun x p1 q1 ok1 x0 x1 => ?_
  walk_at "gn"
  by_cases c0 : x = 0
  · rw [decide_eq_true c0]
    walk_at "gn"
    exact rule2_ev ok1 h
  rw [decide_eq_false c0]
  walk_at "gn"
  by_cases c1 : x = 1
  · rw [decide_eq_true c1]
    walk_at "gn"
    refine draw_ev ok1 (by decide) (by unfold Bd; omega) fun r p2 q2 ok2 r0 r1 => ?_
    obtain ⟨n, hn, e1, hn4⟩ : ∃ n : SA.P, n ≠ SA.O ∧ atI [D.tup [.int 1, .int 0], .tup [.int 0, .int 1], .tup [.int (-1), .int 0], .tup [.int 0, .int (-1)]] r = some (pd n) ∧ SA.s4 n := by
      have : r = 0 ∨ r = 1 ∨ r = 2 ∨ r = 3 := by omega
      unfold SA.s4
      rcases this with rfl | rfl | rfl | rfl
      · exact ⟨(1, 0), by decide, rfl, by decide⟩
      · exact ⟨(0, 1), by decide, rfl, by decide⟩
      · exact ⟨(-1, 0), by decide, rfl, by decide⟩
      · exact ⟨(0, -1), by decide, rfl, by decide⟩
    walk_at "gn"
    rw [e1]
    walk_at "gn"
    refine draw_ev ok2 (by decide) (by unfold Bd; omega) fun y p3 q3 ok3 y0 y1 => ?_
    walk_at "gn"
    exact h (.half n (decide (y = 0))) _ _ ok3 ⟨hn, hn4⟩
  rw [decide_eq_false c1]
  walk_at "gn"
  refine draw_ev ok1 (by decide) (by unfold Bd; omega) fun r p2 q2 ok2 r0 r1 => ?_
  walk_at "go"
  intro a1
  obtain ⟨bs, hbs⟩ : ∃ bs : List Bool, bs = [decide ((0 - r) % 8 < 4), decide ((1 - r) % 8 < 4), decide ((2 - r) % 8 < 4), decide ((3 - r) % 8 < 4), decide ((4 - r) % 8 < 4), decide ((5 - r) % 8 < 4), decide ((6 - r) % 8 < 4), decide ((7 - r) % 8 < 4)] := ⟨_, rfl⟩
  have hb8 : bs.length = 8 := by rw [hbs]; rfl
  have hbm : bs.map D.bl = [D.bl (decide ((0 - r) % 8 < 4)), D.bl (decide ((1 - r) % 8 < 4)), D.bl (decide ((2 - r) % 8 < 4)), D.bl (decide ((3 - r) % 8 < 4)), D.bl (decide ((4 - r) % 8 < 4)), D.bl (decide ((5 - r) % 8 < 4)), D.bl (decide ((6 - r) % 8 < 4)), D.bl (decide ((7 - r) % 8 < 4))] := by rw [hbs]; rfl
  rw [← hbm]
  refine draw_ev ok2 (by decide) (by unfold Bd; omega) fun y p3 q3 ok3 y0 y1 => ?_
  walk_at "gn"
  by_cases c2 : y = 0
  · rw [decide_eq_true c2]
    walk_at "gn"
    refine draw_ev ok3 (by decide) (by unfold Bd; omega) fun z p4 q4 ok4 z0 z1 => ?_
    walk_at "gn"
    have ez : ixN (bs.map D.bl).length z = some z.toNat := by
      rw [List.length_map, hb8]
      unfold ixN
      rw [if_pos z0, if_pos (by omega)]
    rw [ez]
    walk_at "gn"
    have this : Q (.tup [.str "table", .lst ((bs.set z.toNat true).map D.bl)]) (pl μ p4 q4) := h (.tab (bs.set z.toNat true)) _ _ ok4 (show (bs.set z.toNat true).length = 8 by rw [List.length_set, hb8])
    rw [List.map_set] at this
    exact this
  · rw [decide_eq_false c2]
    walk_at "gn"
    exact h (.tab bs) _ _ ok3 hb8
theorem eq2 {b : Rl} (h : Q (.bl true) μ) : (F2.or (fOwn "Table" [] ["Table", "Half"] sp_Table_eq) (fOwn "Half" [] ["Half", "Table"] sp_Half_eq)) (rlD b) (rlD b) μ Q := by
  rw [v_f2or]
  cases b with
  | tab bs =>
    refine .inl ?_
    have te := teq_ev (xs := bs) (ys := bs) (μ := μ) (Q := Q) (Xd := xF) (by rw [decide_eq_true rfl]; exact h)
    unfold rlD at te ⊢
    walk_at "gn"
    exact te
  | half w a =>
    refine .inr ?_
    have te := heq_ev (w := w) (v := w) (a := a) (b := a) (μ := μ) (Q := Q) (Xd := xF) (by rw [decide_eq_true rfl, decide_eq_true rfl]; exact h)
    unfold rlD at te ⊢
    walk_at "gn"
    exact te
theorem both_ev {r s : Rl} (hr : LwOk r) (hs : LwOk s) (h1 : within r s = true) (h2 : within s r = true) (h : Q (.bl true) μ) : sp__law_both [rlD r, rlD s, rlD s] μ Q Xd := by
  unfold sp__law_both w__law_both
  walk_at "gk"
  refine le2 hr hs ?_
  rw [h1]
  walk_at "gk"
  refine le2 hs hr ?_
  rw [h2]
  walk_at "gk"
  refine eq2 ?_
  walk_at "gk"
  exact h
theorem arc_in : ∀ k : Nat, k < 8 → within (.half (axis k) (decide (k % 2 = 0))) (.tab (arc k)) = true ∧ within (.tab (arc k)) (.half (axis k) (decide (k % 2 = 0))) = true := by
  intro k hk
  have ki : k = 0 ∨ k = 1 ∨ k = 2 ∨ k = 3 ∨ k = 4 ∨ k = 5 ∨ k = 6 ∨ k = 7 := by omega
  rcases ki with rfl | rfl | rfl | rfl | rfl | rfl | rfl | rfl <;> decide +kernel
theorem arc_inj : ∀ j k : Nat, j < 8 → k < 8 → arc j = arc k → j = k := by
  intro j k hj hk
  have ji : j = 0 ∨ j = 1 ∨ j = 2 ∨ j = 3 ∨ j = 4 ∨ j = 5 ∨ j = 6 ∨ j = 7 := by omega
  have ki : k = 0 ∨ k = 1 ∨ k = 2 ∨ k = 3 ∨ k = 4 ∨ k = 5 ∨ k = 6 ∨ k = 7 := by omega
  rcases ji with rfl | rfl | rfl | rfl | rfl | rfl | rfl | rfl <;> rcases ki with rfl | rfl | rfl | rfl | rfl | rfl | rfl | rfl <;> first | (intro _; rfl) | (intro h; exact absurd h (by decide))
theorem axis_lw {k : Nat} : LwOk (.half (axis k) (decide (k % 2 = 0))) := by
  refine ⟨axis_ok, ?_⟩
  unfold axis
  (repeat' split) <;> decide
theorem arc_len {k : Nat} : (arc k).length = 8 := rfl
theorem larc_ev {k : Nat} (hk : k < 8) (h : Q (.lst ((arc k).map D.bl)) μ) : sp__law_arc [.int (k : Nat)] μ Q Xd := by
  unfold sp__law_arc w__law_arc
  walk_at "go"
  unfold arc at h
  have e : ((0 : Int) + (k : Nat)) = (k : Nat) := by omega
  rw [e] at h
  exact h
theorem lw_axis_ex {n : SA.P} {a : Bool} (hn : n ≠ SA.O) (z : n.1 = 0 ∨ n.2 = 0) : ∃ k : Nat, k < 8 ∧ axis k = SA.lw n ∧ decide (k % 2 = 0) = a := by
  obtain ⟨e1, e2⟩ := SA.lw_mul n
  have g := SA.gcd_pos hn
  have gl := SA.gcd_lw hn
  have zl : (SA.lw n).1 = 0 ∨ (SA.lw n).2 = 0 := by
    rcases z with z | z
    · rcases Int.mul_eq_zero.mp (e1.trans z) with x | x
      · omega
      · exact .inl x
    · rcases Int.mul_eq_zero.mp (e2.trans z) with x | x
      · omega
      · exact .inr x
  generalize SA.lw n = l at *
  obtain ⟨x, y⟩ := l
  simp only at gl zl
  rcases zl with rfl | rfl
  · rw [Int.gcd_zero_left] at gl
    have : y = 1 ∨ y = -1 := by omega
    rcases this with rfl | rfl <;> cases a
    · exact ⟨3, by decide, by decide, by decide⟩
    · exact ⟨2, by decide, by decide, by decide⟩
    · exact ⟨7, by decide, by decide, by decide⟩
    · exact ⟨6, by decide, by decide, by decide⟩
  · rw [Int.gcd_zero_right] at gl
    have : x = 1 ∨ x = -1 := by omega
    rcases this with rfl | rfl <;> cases a
    · exact ⟨1, by decide, by decide, by decide⟩
    · exact ⟨0, by decide, by decide, by decide⟩
    · exact ⟨5, by decide, by decide, by decide⟩
    · exact ⟨4, by decide, by decide, by decide⟩
theorem tabno_ev {w : SA.P} {ah : Bool} (h1 : w.1 ≠ 0) (h2 : w.2 ≠ 0) (h : Q .non μ) : sp_table_of [rlD (.half w ah)] μ Q Xd := by
  unfold sp_table_of w_table_of rlD
  walk_at "go"
  rw [decide_eq_false h1]
  walk_at "go"
  rw [decide_eq_false h2]
  walk_at "go"
  exact h
theorem lw_zero {n : SA.P} (hn : n ≠ SA.O) : ((SA.lw n).1 = 0 ↔ n.1 = 0) ∧ ((SA.lw n).2 = 0 ↔ n.2 = 0) := by
  obtain ⟨e1, e2⟩ := SA.lw_mul n
  have g := SA.gcd_pos hn
  constructor
  · constructor
    · intro z
      rw [z, Int.mul_zero] at e1
      exact e1.symm
    · intro z
      rcases Int.mul_eq_zero.mp (e1.trans z) with x | x
      · omega
      · exact x
  · constructor
    · intro z
      rw [z, Int.mul_zero] at e2
      exact e2.symm
    · intro z
      rcases Int.mul_eq_zero.mp (e2.trans z) with x | x
      · omega
      · exact x
def Iv (ns : List Int) (ρ : DS) (_ : Mu) : Prop := ∃ s1 s2 s3 s4 s5 s6 s7 s8 s9, ρ = [.v (.frl (ns.map D.int)), s1, s2, s3, s4, s5, s6, s7, s8, s9, .no]
theorem law_ev {ns : List Int} (hl : ns.length ≤ 63) (h : ∀ μ, Q (.bl true) μ) : sp_law [.frl (ns.map D.int)] [] Q Xd := by
  unfold sp_law w_law
  walk_at "dn"
  obtain ⟨t1, t2, t3⟩ := turns_ok (n := (ns.map D.int).length) (m := 8) (by decide)
  refine ⟨t1, t2, ?_⟩
  change forL _ _ _ (rangeD 0 (turns (ns.map D.int).length 8).toNat) _ _
  refine forL_inv (Iv ns) (fun ρ μ hI => ?_) (fun d hd ρ μ K hI hK => ?_) ?_
  · obtain ⟨s1, s2, s3, s4, s5, s6, s7, s8, s9, rfl⟩ := hI
    walk_at "dl"
    exact h _
  · obtain ⟨i, hi, rfl⟩ := mem_range hd
    obtain ⟨s1, s2, s3, s4, s5, s6, s7, s8, s9, rfl⟩ := hI
    walk_at "gk"
    refine hand_ev hl (by omega) (by omega) fun p q ok => ?_
    walk_at "gk"
    change forL _ _ _ (rangeD 0 5) _ _
    refine forL_inv (fun ρ μ' => ∃ (s3 s4 s5 s6 s7 s8 s9 : Sl) (p' q' : Int), PoolOk p' q' ∧ μ' = pl μ p' q' ∧ ρ = [.v (.frl (ns.map D.int)), .v (.int (0 + i)), .v (.loc μ.length), s3, s4, s5, s6, s7, s8, s9, .no])
      (fun ρ μ' hI => ?_) (fun d hd ρ μ' K2 hI hK2 => ?_) ⟨_, _, _, _, _, _, _, _, _, ok, rfl, rfl⟩
    · obtain ⟨s3, s4, s5, s6, s7, s8, s9, p', q', ok', rfl, rfl⟩ := hI
      exact hK _ _ ⟨_, _, _, _, _, _, _, _, _, rfl⟩
    · obtain ⟨s3, s4, s5, s6, s7, s8, s9, p', q', ok', rfl, rfl⟩ := hI
      walk_at "gk"
      refine near_ev ok' fun t p1 q1 ok1 ht => ?_
      walk_at "gk"
      refine near_ev ok1 fun u p2 q2 ok2 hu => ?_
      walk_at "gk"
      refine made_ev ht ?_
      walk_at "gk"
      refine made_ev hu ?_
      walk_at "gk"
      refine le2 (tr_lw ht) (tr_lw hu) ?_
      rw [due_within ht hu]
      walk_at "gk"
      refine due_ev ht hu ?_
      walk_at "gk"
      refine made_ev ht ?_
      walk_at "gk"
      refine le2 (tr_lw ht) (tr_lw ht) ?_
      rw [within_rf (tr_lw ht)]
      cases t with
      | tab bs =>
        have hb : bs.length = 8 := ht
        unfold trD trR
        walk_at "gk"
        refine hof_ev (bs := bs) (fun k hk e => ?_) (fun no => ?_)
        · subst e
          unfold rlD
          walk_at "gk"
          refine tabof_ev (k := k) hk ?_
          walk_at "gk"
          refine both_ev (r := .half (axis k) (decide (k % 2 = 0))) (s := .tab (arc k)) axis_lw arc_len (arc_in k hk).1 (arc_in k hk).2 ?_
          walk_at "gk"
          exact hK2 _ _ ⟨_, _, _, _, _, _, _, _, _, ok2, rfl, rfl⟩
        · unfold rlD
          walk_at "gk"
          show lcL _ _ _ _ ((List.range 8).map fun i => D.int (0 + (i : Nat))) [] _ _
          refine lc_filter (α := Nat) (f := fun i : Nat => D.int (0 + (i : Nat))) (l := List.range 8) (fun _ => false) (fun _ => D.int 1) (fun k hk ds acc hacc ht1 hf1 => ?_) (by decide) ?_
          · rw [List.mem_range] at hk
            have ek : (0 : Int) + (k : Nat) = (k : Nat) := by omega
            rw [ek]
            walk_at "gk"
            refine larc_ev hk ?_
            walk_at "gk"
            rw [eqU_pl P5_bls P5_bls]
            rw [show deq (.lst (bs.map D.bl)) (.lst ((arc k).map D.bl)) = decide (bs = arc k) from deq_bls, decide_eq_false (no k hk)]
            walk_at "gk"
            exact hf1 rfl
          walk_at "gk"
          rw [filter_no, List.map_nil, eqU_pl rfl rfl, show deq (.lst []) (.lst []) = true from rfl]
          walk_at "gk"
          exact hK2 _ _ ⟨_, _, _, _, _, _, _, _, _, ok2, rfl, rfl⟩
      | half n a =>
        obtain ⟨z1, z2⟩ := lw_zero ht.1
        unfold trD trR
        walk_at "gk"
        by_cases z : n.1 = 0 ∨ n.2 = 0
        · obtain ⟨k, hk, ea, eh⟩ := lw_axis_ex (a := a) ht.1 z
          rw [← ea]
          rw [← eh]
          refine tabof_ev (k := k) hk ?_
          unfold rlD
          walk_at "gk"
          refine andv_go (c := !decide (n.2 = 0)) (fun K hK => ?_) ?_
          · walk_at "gk"
            exact hK
          rw [show (!decide (n.1 = 0) && !decide (n.2 = 0)) = false from by rcases z with z | z <;> simp [z]]
          walk_at "gk"
          refine hof_ev (bs := arc k) (fun j hj e => ?_) (fun no => absurd rfl (no k hk))
          have jk := arc_inj k j hk hj e
          subst jk
          unfold rlD
          walk_at "gk"
          refine both_ev (r := .tab (arc k)) (s := .half (axis k) (decide (k % 2 = 0))) arc_len axis_lw (arc_in k hk).2 (arc_in k hk).1 ?_
          walk_at "gk"
          exact hK2 _ _ ⟨_, _, _, _, _, _, _, _, _, ok2, rfl, rfl⟩
        · refine tabno_ev (w := SA.lw n) (ah := a) (fun q => z (.inl (z1.mp q))) (fun q => z (.inr (z2.mp q))) ?_
          unfold rlD
          walk_at "gk"
          refine andv_go (c := !decide (n.2 = 0)) (fun K hK => ?_) ?_
          · walk_at "gk"
            exact hK
          rw [show (!decide (n.1 = 0) && !decide (n.2 = 0)) = true from by
            have y1 : ¬ n.1 = 0 := fun q => z (.inl q)
            have y2 : ¬ n.2 = 0 := fun q => z (.inr q)
            simp [y1, y2]]
          walk_at "gk"
          exact hK2 _ _ ⟨_, _, _, _, _, _, _, _, _, ok2, rfl, rfl⟩
  · exact ⟨_, _, _, _, _, _, _, _, _, rfl⟩
end
end K09

set_option Elab.async false
set_option linter.all false
set_option maxRecDepth 100000
set_option maxHeartbeats 0
namespace K09
open PySem PySem.Spec PyProof.Rows L2 DL
def loose0 : List PySem.Str := ["_wall", "FillError", "InvalidPoint", "InvalidNumber", "NoDirection", "InvalidTable", "InvalidHalf", "is_integer", "is_between", "Point", "numbers_of", "pair_of", "point_of", "cross_of", "KINDS", "sign_of", "direction_of", "kind_of_pair", "common_divisor", "lowest_pair", "AXES", "WAYS", "Rule", "check_truths", "Table", "way_in", "check_ahead", "Half", "corners_of_kind", "kinds_of_half"]
def loose1 : List PySem.Str := ["is_within", "table_of", "half_of", "_law_hand", "_law_draw", "_law_pair", "_law_kind", "_law_half_in", "_law_rule", "_law_made", "_law_in", "_law_near", "_law_lines", "_law_due", "_law_both", "_law_arc"]
def loose : List PySem.Str := loose0 ++ loose1
abbrev R : PySem.W.OpenRow := PySem.W.OpenLaw.row PySem.Challenge.rw_filledonce_k09_rules_within_rules
def asL : List Addr := [3, 31, 108, 127, 136, 233, 244, 265, 302, 309, 314, 323, 347, 356, 435, 444, 451, 523, 532, 539, 544, 549, 554, 561, 568, 575, 582, 589, 594, 601, 608, 613, 618, 623, 630, 635, 640, 30, 107, 126, 135, 232, 243, 264, 301, 308, 310, 311, 312, 313, 315, 316, 317, 318, 319, 320, 321, 322, 346, 355, 434, 443, 450, 522, 531, 538, 543, 548, 553, 560, 567, 574, 581, 588, 593, 600, 607, 612, 617, 622, 629, 634, 639, 105, 124, 344, 370, 406, 465, 506, 520, 104, 123, 343, 369, 405, 464, 505, 519]
abbrev hk : PySem.W.Hook := hookL asL fa fn exB
def ob (s : PySem.W.SharedT) : AlY := obsL asL fa fn exB (HandSHeadRun.getT s)
theorem ob_eq (s : PySem.W.SharedT) : ob s = hk.obs s.abs := obsL_eq (HandSHeadRun.getT_eq s)
abbrev loose_q : Program := PySem.W.view R.prog [52]
theorem run_l_false (w : World) (os : OsState) : (HandSHeadRun.endF (HandSHeadRun.stepQ (HandSHeadRun.denQ HandSHeadRun.tabQ) R.prog (w.withFollow "special-get-raises" false)) 12000 R.prog (w.withFollow "special-get-raises" false) os).map (fun s => HandSHeadRun.looksF R.prog (PySem.W.boot_heap (w.withFollow "special-get-raises" false).params) s.abs) = some (true) := by
  kernel_rfl
theorem run_s_false (w : World) (os : OsState) : (HandSHeadRun.endF (HandSHeadRun.stepQ (HandSHeadRun.denQ HandSHeadRun.tabQ) R.prog (w.withFollow "special-get-raises" false)) 12000 R.prog (w.withFollow "special-get-raises" false) os).map (fun s => HandSHeadRun.seenQ loose_q loose (importedModules R.prog.main.body) (fun s => PySem.W.xlAt loose_q [] s && PySem.W.recOk R.toRowW.records s) s.abs) = some (PySem.W.openGood loose_q loose) := by
  kernel_rfl
theorem run_o_false (w : World) (os : OsState) : (HandSHeadRun.endF (HandSHeadRun.stepQ (HandSHeadRun.denQ HandSHeadRun.tabQ) R.prog (w.withFollow "special-get-raises" false)) 12000 R.prog (w.withFollow "special-get-raises" false) os).map (fun s => ob s) = some (hk.val (w.withFollow "special-get-raises" false)) := by
  kernel_rfl
theorem run_l_true (w : World) (os : OsState) : (HandSHeadRun.endF (HandSHeadRun.stepQ (HandSHeadRun.denQ HandSHeadRun.tabQ) R.prog (w.withFollow "special-get-raises" true)) 12000 R.prog (w.withFollow "special-get-raises" true) os).map (fun s => HandSHeadRun.looksF R.prog (PySem.W.boot_heap (w.withFollow "special-get-raises" true).params) s.abs) = some (true) := by
  kernel_rfl
theorem run_s_true (w : World) (os : OsState) : (HandSHeadRun.endF (HandSHeadRun.stepQ (HandSHeadRun.denQ HandSHeadRun.tabQ) R.prog (w.withFollow "special-get-raises" true)) 12000 R.prog (w.withFollow "special-get-raises" true) os).map (fun s => HandSHeadRun.seenQ loose_q loose (importedModules R.prog.main.body) (fun s => PySem.W.xlAt loose_q [] s && PySem.W.recOk R.toRowW.records s) s.abs) = some (PySem.W.openGood loose_q loose) := by
  kernel_rfl
theorem run_o_true (w : World) (os : OsState) : (HandSHeadRun.endF (HandSHeadRun.stepQ (HandSHeadRun.denQ HandSHeadRun.tabQ) R.prog (w.withFollow "special-get-raises" true)) 12000 R.prog (w.withFollow "special-get-raises" true) os).map (fun s => ob s) = some (hk.val (w.withFollow "special-get-raises" true)) := by
  kernel_rfl
theorem runs_false (w : World) : HandSHeadRun.RunEq R loose_q hk ob 12000 loose (w.withFollow "special-get-raises" false) := DL.runEq3 (run_l_false w) (run_s_false w) (run_o_false w)
theorem runs_true (w : World) : HandSHeadRun.RunEq R loose_q hk ob 12000 loose (w.withFollow "special-get-raises" true) := DL.runEq3 (run_l_true w) (run_s_true w) (run_o_true w)
theorem run (w : World) : HandSHeadRun.RunEq R loose_q hk ob 12000 loose w := PySem.W.byRow2 "special-get-raises" (P := fun w => HandSHeadRun.RunEq R loose_q hk ob 12000 loose w) runs_false runs_true w
theorem law_at {P : Program} {w : World} {K : PySem.W.Frag} {mg : Str → Option Value} {h : Heap} {f : Addr} (X : K.In h) (G : h.Ns mainGlobals mg) (hm : mg ("law" : Str) = some (.ref f)) (c : SaysY fa fn exB K) :
    ∃ fd : FuncData, (∀ (s : Shared) (v : Value), BindsTo s fd ⟨[v], []⟩ [("script", v)]) ∧ ∀ base : Heap, K.In base → base.Ns mainGlobals mg → FnG P w K mg base 7 f fd ["script"] (toSp ⟨K, mg, none⟩ sp_law) := by
  have A : Hd K mg := ⟨c.d, c.more, h, X, G⟩
  obtain ⟨fd, F⟩ := A.c.def_ 32
  have e := hm.symm.trans A.g_law
  cases e
  have b := FunD.bindsA (ps := ["script"]) F fun _ _ _ _ _ _ us hl => match us, hl with | [_], _ => rfl
  exact ⟨fd, fun s v => b s [v] rfl, fun base _ _ => def_ok F sc_law (fun ds μ Q Xd h => h.1) (fun cdv A2 fr s H E hr hgd => d_law A hr hgd) fun ds μ Q Xd h => h.2⟩
end K09
open PySem PySem.W PySem.Calls PyProof.Rows
theorem PySem.Challenge.cw_filledonce_k09_rules_within_rules_holds : PySem.Challenge.rw_filledonce_k09_rules_within_rules.Holds := by
  w_on; o_law
  refine HandSHeadRun.head_any (r := OpenLaw.row PySem.Challenge.rw_filledonce_k09_rules_within_rules) (q := view (OpenLaw.row PySem.Challenge.rw_filledonce_k09_rules_within_rules).prog [52]) (H := K09.hk) (ob := K09.ob) (M := 12000) (loose := K09.loose) (d := HandSHeadRun.topDef (OpenLaw.row PySem.Challenge.rw_filledonce_k09_rules_within_rules).prog 52) (kwd := []) K09.ob_eq
    (by kernel_rfl) (fun s => by kernel_rfl) K09.run (by kernel_rfl) (by kernel_rfl) (by kernel_rfl) (by rfl) (by first | assumption | decide +kernel) (by decide +kernel) ⟨rfl, rfl, rfl, rfl, rfl, by decide +kernel⟩ ?hw ?hc
  case hw => w_witness2
  case hc =>
    refine DL.walk_ofD (l := PySem.Challenge.rw_filledonce_k09_rules_within_rules) (n := 63) (k := 7) (x := "script") (sp := K09.sp_law) rfl (by decide) (by kernel_rfl) ⟨rfl, by decide, by decide⟩ ?F fun ns hl => K09.law_ev hl fun _ => rfl
    intro w mg fa h Y G hmg0
    obtain ⟨K, KX, c⟩ := Y
    have hmg : mg ("law" : PySem.Str) = some (.ref fa) := by
      have e : (HandSHeadRun.topDef (OpenLaw.row PySem.Challenge.rw_filledonce_k09_rules_within_rules).prog 52).name = ("law" : PySem.Str) := by kernel_rfl
      rw [← e]
      exact hmg0
    obtain ⟨fd, hb, hF⟩ := K09.law_at (P := (PySem.Challenge.rw_filledonce_k09_rules_within_rules).prog) (w := w) KX G hmg c
    exact ⟨K, fd, KX, hb, hF⟩

