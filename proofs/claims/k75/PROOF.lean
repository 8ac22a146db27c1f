import PyProof.Rows.All
import Wide.All
import OpenK.AllK
import Wide.FinOn
import HandS.ForMost
import HandS.Exc
import HandS.Flow
import HandS.Wide
import HandS.TupAny
import HandS.Words
import HandS.CallSlots
import HandS.Deep
import HandS.IsInst
import HandS.ExcOwn
import HandS.WordsExc
import HandS.Style
import HandS.Dict
import HandS.More
import HandS.SortInts
import HandS.ExcInit
import HandS.ExcField
import HandS.TryOnly
import KE.KSuper
import KE.KExcSuper
import KE.KExcIs
import HandS.Conv
import KE.DataMinMax
import KE.SortData
import HandS.Codes
import PyProof.StrBlock2
import PyProof.Rows.StrMul
import HandS.TupMul
import HandS.StrMore
import HandS.Replace
import PyProof.StrLawsIn
import KE.KxDecode
import KE.KBytesDec
import HandS.BytesMake
import HandS.SetFor
import HandS.Strs
import PyProof.InstNe
import HandS.OwnEq
import KE.DataCmp
import HandS.Set
import HandS.Iter
import PySem.Challenge.RW_callweir_k75_wrong_parts_and_replies
set_option Elab.async false
set_option linter.all false
set_option maxRecDepth 100000
set_option maxHeartbeats 4000000
/-! Ev: plain data, what it stands for in the abstract heap, and the judgements: a piece of the text does what a plain function of the slots and the shared things says. -/
namespace Ev
open PySem L2

/-- plain data: tuples and lists that change no more, by value; own n: the n-th of the things that may change -/
inductive D where
  | non | bl (b : Bool) | int (i : Int) | str (x : List Nat) | tup (ds : List D) | lst (ds : List D) | rol (ds : List D) | own (n : Nat) | dct (ks : List Key) (ds : List D)
  deriving Inhabited

/-- a thing that may change -/
inductive Cell where
  | lst (ds : List D) | dct (ks : List Key) (ds : List D) | dctT (ks : List (List Key)) (ds : List D) | lck (ks : List Key) (ds : List D) | lckT (ks : List (List Key)) (ds : List D) | obj (c : Str) (ns : List Str) (ds : List D)
  deriving Inhabited

/-- what stands in a slot: nothing that is known, data, a list or dict of the slot's own -/
inductive Slot where
  | no | val (d : D) | loc (c : Cell) | err (c : Str) (p : D)
  deriving Inhabited

def strOk (x : List Nat) : Bool := x.all (· < 0x110000)

mutual
def Rep (K : PySem.W.Frag) (F : Hp) (ρ : Nat → Addr) (m : Nat) : D → V → Prop
  | .non, v => v = .non
  | .bl b, v => v = .bl b
  | .int i, v => v = .int i
  | .str x, v => v = .str ⟨x.toArray⟩ ∧ strOk x = true
  | .tup ds, v => ∃ a vs, v = .ref a ∧ SqT K F a vs ∧ RepL K F ρ m ds vs
  | .lst ds, v => ∃ a vs, v = .ref a ∧ F a = some (.lst vs) ∧ RepL K F ρ m ds vs
  | .rol ds, v => ∃ a vs, v = .ref a ∧ SqL K F a vs ∧ RepL K F ρ m ds vs
  | .own n, v => n < m ∧ v = .ref (ρ n)
  | .dct ks ds, v => ∃ a vs, v = .ref a ∧ Rd F a (.dK (ks.zip vs)) ∧ ks.length = vs.length ∧ RepL K F ρ m ds vs
def RepL (K : PySem.W.Frag) (F : Hp) (ρ : Nat → Addr) (m : Nat) : List D → List V → Prop
  | [], vs => vs = []
  | d :: ds, vs => ∃ v r, vs = v :: r ∧ Rep K F ρ m d v ∧ RepL K F ρ m ds r
end

theorem Same.sqT {K : PySem.W.Frag} {H H' : Hp} {a : Addr} {xs : List V} (e : Same H H') (h : SqT K H a xs) : SqT K H' a xs := by
  rcases h with (h | ⟨o, h⟩) | h
  · exact .inl (.inl (e _ _ h))
  · exact .inl (.inr ⟨o, e _ _ h⟩)
  · exact .inr h
theorem Same.rd {H H' : Hp} {a : Addr} {u : HO} (e : Same H H') (h : Rd H a u) : Rd H' a u := by
  rcases h with h | ⟨o, h⟩
  · exact .inl (e _ _ h)
  · exact .inr ⟨o, e _ _ h⟩

section
variable {K : PySem.W.Frag} {F F' H H' : Hp} {ρ ρ' : Nat → Addr} {m m' : Nat}
mutual
theorem Rep.mono (hs : Same F F') (hr : ∀ n, n < m → ρ' n = ρ n) (hm : m ≤ m') : ∀ (d : D) (v : V), Rep K F ρ m d v → Rep K F' ρ' m' d v
  | .non, v, h => h
  | .bl b, v, h => h
  | .int i, v, h => h
  | .str x, v, h => h
  | .tup ds, v, h => by
    obtain ⟨a, vs, e, s, r⟩ := h
    exact ⟨a, vs, e, Same.sqT hs s, RepL.mono hs hr hm ds vs r⟩
  | .lst ds, v, h => by
    obtain ⟨a, vs, e, s, r⟩ := h
    exact ⟨a, vs, e, hs _ _ s, RepL.mono hs hr hm ds vs r⟩
  | .rol ds, v, h => by
    obtain ⟨a, vs, e, s, r⟩ := h
    exact ⟨a, vs, e, hs.seq s, RepL.mono hs hr hm ds vs r⟩
  | .own n, v, h => by
    obtain ⟨l, e⟩ := h
    exact ⟨Nat.lt_of_lt_of_le l hm, by rw [hr n l]; exact e⟩
  | .dct ks ds, v, h => by
    obtain ⟨a, vs, e, s, l, r⟩ := h
    exact ⟨a, vs, e, Same.rd hs s, l, RepL.mono hs hr hm ds vs r⟩
theorem RepL.mono (hs : Same F F') (hr : ∀ n, n < m → ρ' n = ρ n) (hm : m ≤ m') : ∀ (ds : List D) (vs : List V), RepL K F ρ m ds vs → RepL K F' ρ' m' ds vs
  | [], vs, h => h
  | d :: ds, vs, h => by
    obtain ⟨v, r, e, h1, h2⟩ := h
    exact ⟨v, r, e, Rep.mono hs hr hm d v h1, RepL.mono hs hr hm ds r h2⟩
end

theorem RepL.nil : RepL K F ρ m [] [] := rfl
theorem RepL.cons {d : D} {ds : List D} {v : V} {vs : List V} (h : Rep K F ρ m d v) (r : RepL K F ρ m ds vs) : RepL K F ρ m (d :: ds) (v :: vs) := ⟨v, vs, rfl, h, r⟩
theorem RepL.length : ∀ {ds : List D} {vs : List V}, RepL K F ρ m ds vs → ds.length = vs.length
  | [], _, h => by cases h; rfl
  | _ :: _, _, h => by obtain ⟨v, r, rfl, _, h2⟩ := h; simp [RepL.length h2]
theorem RepL.get : ∀ {ds : List D} {vs : List V} {i : Nat} {d : D}, RepL K F ρ m ds vs → ds[i]? = some d → ∃ v, vs[i]? = some v ∧ Rep K F ρ m d v
  | [], _, _, _, _, e => by simp at e
  | d :: ds, _, 0, _, h, e => by obtain ⟨v, r, rfl, h1, _⟩ := h; simp at e; subst e; exact ⟨v, rfl, h1⟩
  | _ :: ds, _, i + 1, d, h, e => by
    obtain ⟨v, r, rfl, _, h2⟩ := h
    obtain ⟨u, q, z⟩ := RepL.get (i := i) (d := d) h2 (by simpa using e)
    exact ⟨u, by simpa using q, z⟩
theorem RepL.getV : ∀ {ds : List D} {vs : List V} {i : Nat} {v : V}, RepL K F ρ m ds vs → vs[i]? = some v → ∃ d, ds[i]? = some d ∧ Rep K F ρ m d v
  | [], _, _, _, h, e => by cases h; simp at e
  | d :: ds, _, 0, _, h, e => by obtain ⟨v, r, rfl, h1, _⟩ := h; simp at e; subst e; exact ⟨d, rfl, h1⟩
  | _ :: ds, _, i + 1, d, h, e => by
    obtain ⟨v, r, rfl, _, h2⟩ := h
    obtain ⟨u, q, z⟩ := RepL.getV (i := i) (v := d) h2 (by simpa using e)
    exact ⟨u, by simpa using q, z⟩
theorem RepL.append : ∀ {ds es : List D} {vs us : List V}, RepL K F ρ m ds vs → RepL K F ρ m es us → RepL K F ρ m (ds ++ es) (vs ++ us)
  | [], _, _, _, h, r => by cases h; exact r
  | _ :: _, _, _, _, h, r => by obtain ⟨v, q, rfl, h1, h2⟩ := h; exact RepL.cons h1 (RepL.append h2 r)
theorem RepL.take : ∀ (n : Nat) {ds : List D} {vs : List V}, RepL K F ρ m ds vs → RepL K F ρ m (ds.take n) (vs.take n)
  | 0, _, _, _ => rfl
  | _ + 1, [], _, h => by cases h; rfl
  | n + 1, _ :: _, _, h => by obtain ⟨v, q, rfl, h1, h2⟩ := h; exact RepL.cons h1 (RepL.take n h2)
theorem RepL.drop : ∀ (n : Nat) {ds : List D} {vs : List V}, RepL K F ρ m ds vs → RepL K F ρ m (ds.drop n) (vs.drop n)
  | 0, _, _, h => h
  | _ + 1, [], _, h => by cases h; rfl
  | n + 1, _ :: _, _, h => by obtain ⟨v, q, rfl, h1, h2⟩ := h; exact RepL.drop n h2
theorem RepL.set : ∀ (i : Nat) {ds : List D} {vs : List V} {d : D} {v : V}, RepL K F ρ m ds vs → Rep K F ρ m d v → RepL K F ρ m (ds.set i d) (vs.set i v)
  | _, [], _, _, _, h, _ => by cases h; rfl
  | 0, _ :: _, _, _, _, h, r => by obtain ⟨v, q, rfl, h1, h2⟩ := h; exact RepL.cons r h2
  | i + 1, _ :: _, _, _, _, h, r => by obtain ⟨v, q, rfl, h1, h2⟩ := h; exact RepL.cons h1 (RepL.set i h2 r)
theorem RepL.eraseIdx : ∀ (i : Nat) {ds : List D} {vs : List V}, RepL K F ρ m ds vs → RepL K F ρ m (ds.eraseIdx i) (vs.eraseIdx i)
  | _, [], _, h => by cases h; rfl
  | 0, _ :: _, _, h => by obtain ⟨v, q, rfl, h1, h2⟩ := h; exact h2
  | i + 1, _ :: _, _, h => by obtain ⟨v, q, rfl, h1, h2⟩ := h; exact RepL.cons h1 (RepL.eraseIdx i h2)
theorem RepL.reverse {ds : List D} {vs : List V} (h : RepL K F ρ m ds vs) : RepL K F ρ m ds.reverse vs.reverse := by
  induction ds generalizing vs with
  | nil => cases h; rfl
  | cons d ds ih =>
    obtain ⟨v, q, rfl, h1, h2⟩ := h
    rw [List.reverse_cons, List.reverse_cons]
    exact RepL.append (ih h2) (RepL.cons h1 RepL.nil)
theorem RepL.ints {ns : List Int} : RepL K F ρ m (ns.map D.int) (ns.map V.int) := by
  induction ns with
  | nil => rfl
  | cons n ns ih => exact RepL.cons rfl ih
theorem RepL.of_ints : ∀ {ns : List Int} {vs : List V}, RepL K F ρ m (ns.map D.int) vs → vs = ns.map V.int
  | [], _, h => h
  | n :: ns, _, h => by obtain ⟨v, q, rfl, h1, h2⟩ := h; rw [RepL.of_ints h2, show v = V.int n from h1]; rfl

/-- what stands at a thing's address -/
def CellOk (K : PySem.W.Frag) (cl : Str → Option Addr) (F : Hp) (ρ : Nat → Addr) (m : Nat) (H : Hp) (a : Addr) : Cell → Prop
  | .lst ds => ∃ vs, H a = some (.lst vs) ∧ RepL K F ρ m ds vs
  | .dct ks ds => ∃ vs, H a = some (.dK (ks.zip vs)) ∧ ks.length = vs.length ∧ RepL K F ρ m ds vs
  | .dctT ks ds => ∃ vs, H a = some (.dT (ks.zip vs)) ∧ ks.length = vs.length ∧ RepL K F ρ m ds vs
  | .lck ks ds => ∃ od vs, H a = some (.frz od (.dK (ks.zip vs))) ∧ ks.length = vs.length ∧ RepL K F ρ m ds vs
  | .lckT ks ds => ∃ od vs, H a = some (.frz od (.dT (ks.zip vs))) ∧ ks.length = vs.length ∧ RepL K F ρ m ds vs
  | .obj c ns ds => ∃ C dx vs, cl c = some C ∧ H a = some (.ins C dx (ns.zip vs)) ∧ ns.length = vs.length ∧ RepL K F ρ m ds vs

theorem CellOk.some {cl : Str → Option Addr} {a : Addr} {c : Cell} (h : CellOk K cl F ρ m H a c) : ∃ o, H a = some o := by
  cases c with
  | lst ds => obtain ⟨_, e, _⟩ := h; exact ⟨_, e⟩
  | dct ks ds => obtain ⟨_, e, _⟩ := h; exact ⟨_, e⟩
  | dctT ks ds => obtain ⟨_, e, _⟩ := h; exact ⟨_, e⟩
  | lck ks ds => obtain ⟨_, _, e, _⟩ := h; exact ⟨_, e⟩
  | lckT ks ds => obtain ⟨_, _, e, _⟩ := h; exact ⟨_, e⟩
  | obj c ns ds => obtain ⟨_, _, _, _, e, _⟩ := h; exact ⟨_, e⟩
theorem CellOk.mono {cl : Str → Option Addr} {a : Addr} {c : Cell} (hs : Same F F') (hr : ∀ n, n < m → ρ' n = ρ n) (hm : m ≤ m') (e : ∀ o, H a = Option.some o → H' a = Option.some o)
    (h : CellOk K cl F ρ m H a c) : CellOk K cl F' ρ' m' H' a c := by
  cases c with
  | lst ds => obtain ⟨vs, e1, r⟩ := h; exact ⟨vs, e _ e1, RepL.mono hs hr hm _ _ r⟩
  | dct ks ds => obtain ⟨vs, e1, l, r⟩ := h; exact ⟨vs, e _ e1, l, RepL.mono hs hr hm _ _ r⟩
  | dctT ks ds => obtain ⟨vs, e1, l, r⟩ := h; exact ⟨vs, e _ e1, l, RepL.mono hs hr hm _ _ r⟩
  | lck ks ds => obtain ⟨od, vs, e1, l, r⟩ := h; exact ⟨od, vs, e _ e1, l, RepL.mono hs hr hm _ _ r⟩
  | lckT ks ds => obtain ⟨od, vs, e1, l, r⟩ := h; exact ⟨od, vs, e _ e1, l, RepL.mono hs hr hm _ _ r⟩
  | obj c ns ds => obtain ⟨C, dx, vs, e0, e1, l, r⟩ := h; exact ⟨C, dx, vs, e0, e _ e1, l, RepL.mono hs hr hm _ _ r⟩

/-- a cell that may be written -/
def unl : Cell → Bool
  | .lck _ _ => false
  | .lckT _ _ => false
  | _ => true
theorem CellOk.unl {cl : Str → Option Addr} {a : Addr} {c : Cell} (h : CellOk K cl F ρ m H a c) (hu : unl c = true) (od : Obj) (u : HO) : H a ≠ Option.some (.frz od u) := by
  intro z
  cases c with
  | lst ds => obtain ⟨_, e, _⟩ := h; rw [z] at e; cases e
  | dct ks ds => obtain ⟨_, e, _⟩ := h; rw [z] at e; cases e
  | dctT ks ds => obtain ⟨_, e, _⟩ := h; rw [z] at e; cases e
  | lck ks ds => cases hu
  | lckT ks ds => cases hu
  | obj c ns ds => obtain ⟨_, _, _, _, e, _⟩ := h; rw [z] at e; cases e
end

/-- the world: frozen heap, heap, where the shared things and the slots' own lie -/
structure Wd where
  F : Hp
  H : Hp
  ρ : Nat → Addr
  l : Nat → Addr
/-- the entry of a def; x: the exceptions that are at hand, with class and dict -/
structure En where
  F : Hp
  H : Hp
  ρ : Nat → Addr
  m : Nat
  x : Addr → Option (Addr × Addr)

/-- from one state to a later one: what is frozen stays, what is no shared thing stays -/
structure Ext (F : Hp) (ρ : Nat → Addr) (m : Nat) (H F' : Hp) (ρ' : Nat → Addr) (m' : Nat) (H' : Hp) : Prop where
  fs : Same F F'
  fn : ∀ b o, F' b = some o → F b = some o ∨ H b = none
  le : m ≤ m'
  rr : ∀ n, n < m → ρ' n = ρ n
  rn : ∀ n, m ≤ n → n < m' → H (ρ' n) = none
  hd : ∀ b, H' b = none → H b = none
  hs : ∀ b o, H b = some o → (∀ n, n < m → b ≠ ρ n) → H' b = some o
  fz : ∀ b od u, H b = some (.frz od u) → H' b = some (.frz od u)
section
variable {F F1 F2 H H1 H2 : Hp} {ρ ρ1 ρ2 : Nat → Addr} {m m1 m2 : Nat}
theorem Ext.refl : Ext F ρ m H F ρ m H := ⟨Same.refl _, fun _ _ h => .inl h, Nat.le_refl _, fun _ _ => rfl, fun n h1 h2 => absurd h2 (Nat.not_lt.mpr h1), fun _ h => h, fun _ _ h _ => h, fun _ _ _ h => h⟩
theorem Ext.trans (a : Ext F ρ m H F1 ρ1 m1 H1) (b : Ext F1 ρ1 m1 H1 F2 ρ2 m2 H2) : Ext F ρ m H F2 ρ2 m2 H2 where
  fs := a.fs.trans b.fs
  fn := fun c o h => by
    rcases b.fn c o h with h | h
    · exact a.fn c o h
    · exact .inr (a.hd c h)
  le := Nat.le_trans a.le b.le
  rr := fun n h => by rw [b.rr n (Nat.lt_of_lt_of_le h a.le), a.rr n h]
  rn := fun n h1 h2 => by
    by_cases h : n < m1
    · rw [b.rr n h]; exact a.rn n h1 h
    · exact a.hd _ (b.rn n (Nat.not_lt.mp h) h2)
  hd := fun c h => a.hd c (b.hd c h)
  hs := fun c o h hn => by
    refine b.hs c o (a.hs c o h hn) fun n hlt e => ?_
    by_cases hm : n < m
    · exact hn n hm (by rw [e, a.rr n hm])
    · have := a.rn n (Nat.not_lt.mp hm) hlt
      rw [← e, h] at this; cases this
  fz := fun c od u h => b.fz c od u (a.fz c od u h)
end

/-- the slots and the shared things -/
structure ISt where
  env : List Slot
  S : List Cell

/-- the frozen heap and the shared things -/
structure GRel (K : PySem.W.Frag) (cl : Str → Option Addr) (F H : Hp) (ρ : Nat → Addr) (S : List Cell) : Prop where
  sub : Same F H
  glob : ∀ (n : Nat) c, S[n]? = some c → F (ρ n) = none ∧ CellOk K cl F ρ S.length H (ρ n) c
  inj : ∀ i j, i < S.length → j < S.length → ρ i = ρ j → i = j
/-- a name that stands for the exception at hand: of the class named c, its place p -/
def ErrOk (K : PySem.W.Frag) (cl : Str → Option Addr) (x : Addr → Option (Addr × Addr)) (F : Hp) (ρ : Nat → Addr) (m : Nat) (o : Option (Option V)) (c : Str) (p : D) : Prop :=
  ∃ a C dd fs v, o = some (some (.ref a)) ∧ x a = some (C, dd) ∧ cl c = some C ∧ F dd = some (.xd fs) ∧ fs.lookup ("place" : Str) = some v ∧ Rep K F ρ m p v ∧ fs.lookup ("name" : Str) = some (.str c)
theorem ErrOk.mono {K : PySem.W.Frag} {cl : Str → Option Addr} {x : Addr → Option (Addr × Addr)} {F F' : Hp} {ρ ρ' : Nat → Addr} {m m' : Nat} {o : Option (Option V)} {c : Str} {p : D} (h : ErrOk K cl x F ρ m o c p)
    (hs : Same F F') (hr : ∀ n, n < m → ρ' n = ρ n) (hm : m ≤ m') : ErrOk K cl x F' ρ' m' o c p := by
  obtain ⟨a, C, dd, fs, v, h1, h2, h3, h4, h5, h6, h7⟩ := h
  exact ⟨a, C, dd, fs, v, h1, h2, h3, hs _ _ h4, h5, Rep.mono hs hr hm _ _ h6, h7⟩
structure FRel (K : PySem.W.Frag) (cl : Str → Option Addr) (e : En) (W : Wd) (σ : St) (env : List Slot) (S : List Cell) : Prop where
  sub : Same W.F W.H
  glob : ∀ (n : Nat) c, S[n]? = some c → W.F (W.ρ n) = none ∧ CellOk K cl W.F W.ρ S.length W.H (W.ρ n) c
  inj : ∀ i j, i < S.length → j < S.length → W.ρ i = W.ρ j → i = j
  len : σ.length = env.length
  val : ∀ (i : Nat) d, env[i]? = some (Slot.val d) → ∃ v, σ[i]? = some (some v) ∧ Rep K W.F W.ρ S.length d v
  loc : ∀ (i : Nat) c, env[i]? = some (Slot.loc c) → σ[i]? = some (some (.ref (W.l i))) ∧ W.F (W.l i) = none ∧ CellOk K cl W.F W.ρ S.length W.H (W.l i) c ∧ e.H (W.l i) = none ∧ ∀ n, n < S.length → W.ρ n ≠ W.l i
  linj : ∀ (i j : Nat) c c', env[i]? = some (Slot.loc c) → env[j]? = some (Slot.loc c') → W.l i = W.l j → i = j
  ext : Ext e.F e.ρ e.m e.H W.F W.ρ S.length W.H
  err : ∀ (i : Nat) c p, env[i]? = some (Slot.err c p) → ErrOk K cl e.x W.F W.ρ S.length σ[i]? c p

theorem set_err {env : List Slot} {i j : Nat} {s : Slot} {c : Str} {p : D} (hs : ∀ c p, s ≠ .err c p) (h : (env.set i s)[j]? = some (.err c p)) : i ≠ j ∧ env[j]? = some (.err c p) := by
  by_cases hj : i = j
  · subst hj
    by_cases hl : i < env.length
    · rw [List.getElem?_set_self hl] at h
      exact absurd (Option.some.inj h) (hs c p)
    · rw [List.getElem?_eq_none (by simpa using Nat.not_lt.mp hl)] at h; cases h
  · rw [List.getElem?_set_ne hj] at h
    exact ⟨hj, h⟩
theorem FRel.err_set {K : PySem.W.Frag} {cl : Str → Option Addr} {e : En} {W : Wd} {σ : St} {env : List Slot} {S : List Cell} (R : FRel K cl e W σ env S) {i : Nat} {v : Option V} {s : Slot} (hs : ∀ c p, s ≠ .err c p) :
    ∀ (j : Nat) c p, (env.set i s)[j]? = some (Slot.err c p) → ErrOk K cl e.x W.F W.ρ S.length (σ.set i v)[j]? c p := fun j c p h => by
  obtain ⟨hj, h'⟩ := set_err hs h
  rw [List.getElem?_set_ne hj]
  exact R.err j c p h'

/-- what an expression hands back: data, or the i-th slot's own list or dict -/
inductive XD where
  | dat (d : D) | loc (i : Nat)
inductive Out (α : Type) where
  | val (a : α) (S : List Cell) | exc (c : Str) (p : D) (S : List Cell) | bot
def Out.bind {α β : Type} (x : Out α) (f : α → List Cell → Out β) : Out β := match x with
  | .val a S => f a S
  | .exc c p S => .exc c p S
  | .bot => .bot
@[simp] theorem bind_val {α β : Type} (a : α) (S : List Cell) (f : α → List Cell → Out β) : (Out.val a S).bind f = f a S := rfl
@[simp] theorem bind_exc {α β : Type} (c : Str) (p : D) (S : List Cell) (f : α → List Cell → Out β) : (Out.exc c p S : Out α).bind f = .exc c p S := rfl
@[simp] theorem bind_bot {α β : Type} (f : α → List Cell → Out β) : (Out.bot : Out α).bind f = .bot := rfl

def RepX (K : PySem.W.Frag) (W : Wd) (m : Nat) : XD → V → Prop
  | .dat d, v => Rep K W.F W.ρ m d v
  | .loc i, v => v = .ref (W.l i)

def StepW (W : Wd) (m : Nat) (W' : Wd) (m' : Nat) : Prop := Ext W.F W.ρ m W.H W'.F W'.ρ m' W'.H ∧ W'.l = W.l
theorem StepW.refl {W : Wd} {m : Nat} : StepW W m W m := ⟨.refl, rfl⟩
theorem StepW.trans {W W1 W2 : Wd} {m m1 m2 : Nat} (a : StepW W m W1 m1) (b : StepW W1 m1 W2 m2) : StepW W m W2 m2 := ⟨a.1.trans b.1, b.2.trans a.2⟩
theorem Rep.step {K : PySem.W.Frag} {W W' : Wd} {m m' : Nat} {d : D} {v : V} (h : Rep K W.F W.ρ m d v) (s : StepW W m W' m') : Rep K W'.F W'.ρ m' d v := Rep.mono s.1.fs s.1.rr s.1.le d v h
theorem RepL.step {K : PySem.W.Frag} {W W' : Wd} {m m' : Nat} {d : List D} {v : List V} (h : RepL K W.F W.ρ m d v) (s : StepW W m W' m') : RepL K W'.F W'.ρ m' d v := RepL.mono s.1.fs s.1.rr s.1.le d v h
theorem RepX.step {K : PySem.W.Frag} {W W' : Wd} {m m' : Nat} {x : XD} {v : V} (h : RepX K W m x v) (s : StepW W m W' m') : RepX K W' m' x v := by
  cases x with
  | dat d => exact Rep.step h s
  | loc i => show v = .ref (W'.l i); rw [s.2]; exact h

/-- an exception's class and dict: the class named c, its place p -/
def ExcAt (K : PySem.W.Frag) (cl : Str → Option Addr) (H0 : Hp) (W : Wd) (m : Nat) (c : Str) (p : D) (cls : Value) (dx : Option Addr) : Prop :=
  ∃ C dd fs v, cl c = some C ∧ cls = .ref C ∧ dx = some dd ∧ W.H dd = some (.xd fs) ∧ W.F dd = none ∧ H0 dd = none ∧ fs.lookup ("place" : Str) = some v ∧ Rep K W.F W.ρ m p v ∧ fs.lookup ("name" : Str) = some (.str c)

theorem ExcAt.older {K : PySem.W.Frag} {cl : Str → Option Addr} {H0 H1 : Hp} {W W' : Wd} {m : Nat} {c : Str} {p : D} {cls : Value} {dx : Option Addr} (h : ExcAt K cl H1 W m c p cls dx) (k : ∀ b, H1 b = none → H0 b = none)
    (eF : W'.F = W.F := by rfl) (eH : W'.H = W.H := by rfl) (er : W'.ρ = W.ρ := by rfl) : ExcAt K cl H0 W' m c p cls dx := by
  obtain ⟨C, dd, fs, v, h1, h2, h3, h4, h5, h6, h7, h8, h9⟩ := h
  exact ⟨C, dd, fs, v, h1, h2, h3, by rw [eH]; exact h4, by rw [eF]; exact h5, k _ h6, h7, by rw [eF, er]; exact h8, h9⟩

/-- the context of a def, and what its text may lean on -/
structure Gc where
  N : List Str
  sc : Scope
  k : Nat
  calm : Bool
  top : Bool
  fn : Str → Bool
  deriving Inhabited

structure Cxt (P : Program) (w : World) (K : PySem.W.Frag) (mg : Str → Option Value) (base : Heap) (G : Gc) (e : En) (X : Cx) (wx : WX) : Prop where
  prog : X.prog = P
  w : X.w = w
  K : X.K = K
  mg : X.mg = mg
  base : X.base = base
  N : X.N = G.N
  sc : X.env.scope = G.sc
  nd : G.N.Nodup
  un : X.A.units + 200 < cLine
  room : G.calm = true → Room G.k X.A
  calm : G.calm = true → X.calm = true
  takes : Takes X wx
  fn : ∀ x, G.fn x = true → X.fn x = true ∨ G.sc.names.lookup x = some .local
  pass : PassesOwn (model X.prog X.w) X.A X.env X.xe
  top : G.top = true → X.stack = X.env :: X.outer ∧ X.env.frame = some X.env.locals
  xs : G.top = true → ∀ a C dd, e.x a = some (C, dd) → ∃ oe, (a, oe) ∈ X.pn ∧ Zc (.ref C) (some dd) oe ∧ ∃ vs, oe.data = .fields vs

theorem Cxt.units {P : Program} {w : World} {K : PySem.W.Frag} {mg : Str → Option Value} {base : Heap} {G : Gc} {e : En} {X : Cx} {wx : WX} (C : Cxt P w K mg base G e X wx) : X.A.units + 64 < cLine := by have := C.un; omega
theorem room_un {k : Nat} {A : Around} (r : Room k A) : A.units + 200 < cLine := by have := r.un; omega
/-- what is wanted behind a piece that does f -/
def postG {α β : Type} (rel : Wd → Nat → α → β → Prop) (K : PySem.W.Frag) (cl : Str → Option Addr) (e : En) (wx : WX) (W : Wd) (σ : St) (env : List Slot) (S : List Cell) (Q : β → Hp → Prop) : Out α → Prop
  | .val x S' => ∀ v W', FRel K cl e W' σ env S' → StepW W S.length W' S'.length → rel W' S'.length x v → Q v W'.H
  | .exc c p S' => ∀ cls dx W', FRel K cl e W' σ env S' → StepW W S.length W' S'.length → ExcAt K cl e.H W' S'.length c p cls dx → wx cls dx σ W'.H
  | .bot => False
abbrev postE (K : PySem.W.Frag) := postG (RepX K) K
abbrev postT (K : PySem.W.Frag) := postG (fun _ _ (b b' : Bool) => b' = b) K
/-- values and what they stand for, one by one -/
def RepXL (K : PySem.W.Frag) (W : Wd) (m : Nat) : List XD → List V → Prop
  | [], vs => vs = []
  | x :: xs, vs => ∃ v r, vs = v :: r ∧ RepX K W m x v ∧ RepXL K W m xs r
theorem RepXL.step {K : PySem.W.Frag} {W W' : Wd} {m m' : Nat} (s : StepW W m W' m') : ∀ {xs : List XD} {vs : List V}, RepXL K W m xs vs → RepXL K W' m' xs vs
  | [], _, h => h
  | _ :: _, _, h => by obtain ⟨v, r, e, h1, h2⟩ := h; exact ⟨v, r, e, RepX.step h1 s, RepXL.step s h2⟩
/-- all of them data -/
def datL : List XD → Option (List D)
  | [] => some []
  | .dat d :: xs => match datL xs with
    | some ds => some (d :: ds)
    | none => none
  | .loc _ :: _ => none
@[simp] theorem datL_nil : datL [] = some [] := rfl
@[simp] theorem datL_cons (d : D) (xs : List XD) : datL (.dat d :: xs) = (datL xs).map (d :: ·) := by
  show (match datL xs with | some ds => some (d :: ds) | none => none) = _
  cases datL xs <;> rfl
theorem RepXL.dat {K : PySem.W.Frag} {W : Wd} {m : Nat} : ∀ {xs : List XD} {vs : List V} {ds : List D}, RepXL K W m xs vs → datL xs = some ds → RepL K W.F W.ρ m ds vs
  | [], _, _, h, e => by cases e; exact h
  | .loc _ :: _, _, _, _, e => by cases e
  | .dat d :: xs, _, _, h, e => by
    obtain ⟨v, r, rfl, h1, h2⟩ := h
    unfold datL at e
    cases q : datL xs with
    | none => rw [q] at e; cases e
    | some es => rw [q] at e; cases e; exact ⟨v, r, rfl, h1, RepXL.dat h2 q⟩
abbrev postA (K : PySem.W.Frag) := postG (RepXL K) K
section
variable {α β α' β' : Type} {rel : Wd → Nat → α → β → Prop} {rel' : Wd → Nat → α' → β' → Prop} {K : PySem.W.Frag} {cl : Str → Option Addr} {e : En} {wx : WX} {W W1 : Wd} {σ : St} {env : List Slot} {S S1 : List Cell} {Q : β → Hp → Prop} {Q' : β' → Hp → Prop}
theorem postG.shift {o : Out α} (q : postG rel K cl e wx W σ env S Q o) (s : StepW W S.length W1 S1.length) : postG rel K cl e wx W1 σ env S1 Q o := by
  cases o with
  | val x S' => exact fun v W' R' s' r => q v W' R' (s.trans s') r
  | exc c p S' => exact fun cls dx W' R' s' r => q cls dx W' R' (s.trans s') r
  | bot => exact q
theorem postG.seq {o : Out α'} {k : α' → List Cell → Out α} (q : postG rel K cl e wx W σ env S Q (o.bind k))
    (h : ∀ x S1 v W1, FRel K cl e W1 σ env S1 → StepW W S.length W1 S1.length → rel' W1 S1.length x v → postG rel K cl e wx W1 σ env S1 Q (k x S1) → Q' v W1.H) : postG rel' K cl e wx W σ env S Q' o := by
  cases o with
  | val x S' => exact fun v W' R' s' r => h x S' v W' R' s' r (postG.shift q s')
  | exc c p S' => exact q
  | bot => exact q
end

abbrev EF := List Slot → List Cell → Out XD
abbrev TF := List Slot → List Cell → Out Bool
abbrev AF := List Slot → List Cell → Out (List XD)

def tE (K : PySem.W.Frag) (cl : Str → Option Addr) (e : En) (wx : WX) (f : EF) : TE := fun σ H Q => ∃ W env S, W.H = H ∧ FRel K cl e W σ env S ∧ postE K cl e wx W σ env S Q (f env S)
def tT (K : PySem.W.Frag) (cl : Str → Option Addr) (e : En) (wx : WX) (f : TF) : TT := fun σ H Q => ∃ W env S, W.H = H ∧ FRel K cl e W σ env S ∧ postT K cl e wx W σ env S Q (f env S)
def tA (K : PySem.W.Frag) (cl : Str → Option Addr) (e : En) (wx : WX) (f : AF) : TA := fun σ H Q => ∃ W env S, W.H = H ∧ FRel K cl e W σ env S ∧ postA K cl e wx W σ env S Q (f env S)

end Ev

namespace Ev
open PySem L2

structure Plain (ex : Expr) : Prop where
  ns : ∀ es env, starEach (ex :: es) env = (false, eval ex env) :: starEach es env
  ab : ∀ f env, attributeBase ex f env (eval ex env) = eval ex env
  ix : ∀ o i, subscripted ex false o i = operate [o, i] (getItem o i)
  bm : ∀ op, behindInMarks op ex = false
  fs : ∀ env x, foldedSetIterable ex env x = pure x

/-- all that a law's text stands in -/
structure Base where
  P : Program
  w : World
  K : PySem.W.Frag
  mg : Str → Option Value
  base : Heap
  /-- the own classes -/
  cl : Str → Option Addr

structure SE (B : Base) (G : Gc) (e : En) (ex : Expr) (f : EF) : Prop where
  run : ∀ X wx, Cxt B.P B.w B.K B.mg B.base G e X wx → PE X ex (tE B.K B.cl e wx f)
  pl : Plain ex
structure ST (B : Base) (G : Gc) (e : En) (ex : Expr) (f : TF) : Prop where
  run : ∀ X wx, Cxt B.P B.w B.K B.mg B.base G e X wx → PT X ex (tT B.K B.cl e wx f)
structure SA (B : Base) (G : Gc) (e : En) (es : List Expr) (f : AF) : Prop where
  run : ∀ X wx, Cxt B.P B.w B.K B.mg B.base G e X wx → PA X es (tA B.K B.cl e wx f)
  pl : ∀ x ∈ es, Plain x

section
variable {B : Base} {G : Gc} {e : En}

theorem PE.imp {X : Cx} {ex : Expr} {t u : TE} (h : PE X ex t) (i : ∀ σ H Q, u σ H Q → t σ H Q) : PE X ex u := ⟨fun pins s σ H Q I q => h.run pins s σ H Q I (i _ _ _ q)⟩
theorem PT.imp {X : Cx} {ex : Expr} {t u : TT} (h : PT X ex t) (i : ∀ σ H Q, u σ H Q → t σ H Q) : PT X ex u := ⟨fun pins s σ H Q I q => h.run pins s σ H Q I (i _ _ _ q)⟩
theorem PA.imp {X : Cx} {ex : List Expr} {t u : TA} (h : PA X ex t) (i : ∀ σ H Q, u σ H Q → t σ H Q) : PA X ex u := ⟨fun pos pins s σ H Q I q => h.run pos pins s σ H Q I (i _ _ _ q)⟩
theorem PS.imp {X : Cx} {ex : Stmt} {t u : TS} (h : PS X ex t) (i : ∀ D σ H, u D σ H → t D σ H) : PS X ex u := ⟨fun pins s σ H D I q => h.run pins s σ H D I (i _ _ _ q)⟩
theorem PSs.imp {X : Cx} {ex : List Stmt} {t u : TS} (h : PSs X ex t) (i : ∀ D σ H, u D σ H → t D σ H) : PSs X ex u := ⟨fun pins s σ H D I q => h.run pins s σ H D I (i _ _ _ q)⟩

/-! ### names and constants -/
def eVar (i : Nat) : EF := fun env S => match env[i]? with
  | some (.val d) => .val (.dat d) S
  | some (.loc _) => .val (.loc i) S
  | _ => .bot
theorem plName {x : Str} {p : Pos} : Plain (.Name x p) := ⟨fun _ _ => rfl, fun _ _ => rfl, fun _ _ => rfl, fun _ => rfl, fun _ _ => rfl⟩
theorem plConst {c : Const} {k : Nat} {p : Pos} : Plain (.Constant c k p) := ⟨fun _ _ => rfl, fun _ _ => rfl, fun _ _ => rfl, fun _ => rfl, fun _ _ => rfl⟩
theorem se_var (i : Nat) {x : Str} {pos : Pos} (hN : G.N[i]? = some x := by rfl) (hv : Vis G.sc x := by first | exact Or.inl rfl | exact Or.inr (Or.inl rfl) | exact Or.inr (Or.inr rfl))
    (hd : (x == ("__debug__" : Str)) = false := by decide +kernel) (hcd : (x == ("__classdict__" : Str)) = false := by decide +kernel) : SE B G e (.Name x pos) (eVar i) := by
  refine ⟨fun X wx C => ?_, plName⟩
  refine PE.imp (pe_var (i := i) (x := x) (by rw [C.N]; exact hN) (by rw [C.sc]; exact hv) hd hcd) fun σ H Q h => ?_
  obtain ⟨W, env, S, rfl, R, q⟩ := h
  unfold eVar at q
  cases he : env[i]? with
  | none => rw [he] at q; exact q.elim
  | some sl =>
    rw [he] at q
    cases sl with
    | no => exact q.elim
    | err _ _ => exact q.elim
    | val d =>
      obtain ⟨v, h1, h2⟩ := R.val i d he
      exact ⟨v, h1, q v W R .refl h2⟩
    | loc c =>
      obtain ⟨h1, _⟩ := R.loc i c he
      exact ⟨_, h1, q _ W R .refl rfl⟩
def eC (d : D) : EF := fun _ S => .val (.dat d) S
theorem se_int {i j pos} : SE B G e (.Constant (.int i) j pos) (eC (.int i)) := ⟨fun X wx C => PE.imp pe_int fun σ H Q ⟨W, env, S, hH, R, q⟩ => by subst hH; exact q _ W R .refl rfl, plConst⟩
theorem se_bl {b j pos} : SE B G e (.Constant (.bool b) j pos) (eC (.bl b)) := ⟨fun X wx C => PE.imp pe_bl fun σ H Q ⟨W, env, S, hH, R, q⟩ => by subst hH; exact q _ W R .refl rfl, plConst⟩
theorem se_non {j pos} : SE B G e (.Constant .none j pos) (eC .non) := ⟨fun X wx C => PE.imp pe_non fun σ H Q ⟨W, env, S, hH, R, q⟩ => by subst hH; exact q _ W R .refl rfl, plConst⟩
/-- a written text: its signs x -/
theorem se_str (x : List Nat) {y : Str} {j pos} (hy : y = ⟨x.toArray⟩ := by rfl) (ok : strOk x = true := by decide) : SE B G e (.Constant (.str y) j pos) (eC (.str x)) :=
  ⟨fun X wx C => PE.imp pe_str fun σ H Q ⟨W, env, S, hH, R, q⟩ => by subst hH; subst hy; exact q _ W R .refl ⟨rfl, ok⟩, plConst⟩

/-! ### arguments -/
def aNil : AF := fun _ S => .val [] S
def aCons (f : EF) (r : AF) : AF := fun env S => (f env S).bind fun x S1 => (r env S1).bind fun xs S2 => .val (x :: xs) S2
theorem sa_nil : SA B G e [] aNil := ⟨fun X wx C => PA.imp pa_nil fun σ H Q ⟨W, env, S, hH, R, q⟩ => by subst hH; exact q _ W R .refl rfl, fun _ h => by cases h⟩
theorem sa_cons {a : Expr} {es : List Expr} {f : EF} {r : AF} (ha : SE B G e a f) (hr : SA B G e es r) : SA B G e (a :: es) (aCons f r) := by
  refine ⟨fun X wx C => ?_, fun x hx => by rcases List.mem_cons.mp hx with rfl | hx; exact ha.pl; exact hr.pl x hx⟩
  refine PA.imp (pa_cons (ha.run X wx C) (hr.run X wx C) (ha.pl.ns es X.env)) fun σ H Q ⟨W, env, S, hH, R, q⟩ => ⟨W, env, S, hH, R, postG.seq q fun x S1 v W1 R1 s1 r1 q1 => ⟨W1, env, S1, rfl, R1, postG.seq q1 fun xs S2 vs W2 R2 s2 r2 q2 => ?_⟩⟩
  exact q2 (v :: vs) W2 R2 .refl ⟨v, vs, rfl, RepX.step r1 s2, r2⟩

/-! ### two-place operations that make plain values -/
/-- g says what the operation gives of the two values (none: not served) -/
def OpOk (X : Cx) (B : Base) (e : En) (f : Value → Value → Sem Value) (g : List Slot → List Cell → XD → XD → Option D) : Prop :=
  ∀ (pins : List (Addr × Obj)) (s : Shared) (σ τ : St) (x y : V) (v u : Value) (W : Wd) (env : List Slot) (S : List Cell) (dx dy : XD) (d : D) (Q : VK), Inv X pins σ W.H s → RelV x v → RelV y u →
    FRel B.K B.cl e W τ env S → RepX B.K W S.length dx x → RepX B.K W S.length dy y → g env S dx dy = some d →
    (∀ z W', FRel B.K B.cl e W' τ env S → StepW W S.length W' S.length → Rep B.K W'.F W'.ρ S.length d z → Q z W'.H) →
    wpAny (model X.prog X.w) X.A (f v u) (EP X pins σ Q) X.xe s

def rOp (B : Base) (e : En) (g : List Slot → List Cell → XD → XD → Option D) : St → R2 := fun σ x y H Q =>
  ∃ W env S dx dy d, W.H = H ∧ FRel B.K B.cl e W σ env S ∧ RepX B.K W S.length dx x ∧ RepX B.K W S.length dy y ∧ g env S dx dy = some d ∧
    ∀ z W', FRel B.K B.cl e W' σ env S → StepW W S.length W' S.length → Rep B.K W'.F W'.ρ S.length d z → Q z W'.H
def e2 (g : List Slot → List Cell → XD → XD → Option D) (fa fb : EF) : EF := fun env S => (fa env S).bind fun x S1 => (fb env S1).bind fun y S2 => match g env S2 x y with
  | some d => .val (.dat d) S2
  | none => .bot
theorem plBin {a b : Expr} {op : Operator} {p : Pos} : Plain (.BinOp a op b p) := ⟨fun _ _ => rfl, fun _ _ => rfl, fun _ _ => rfl, fun _ => rfl, fun _ _ => rfl⟩
theorem plCmp {a : Expr} {b : List Expr} {op : List CmpOp} {p : Pos} : Plain (.Compare a op b p) := ⟨fun _ _ => rfl, fun _ _ => rfl, fun _ _ => rfl, fun _ => rfl, fun _ _ => rfl⟩

/-- two expressions, then an operation: the common part -/
theorem e2_read {X : Cx} {wx : WX} {a b : Expr} {fa fb : EF} {g : List Slot → List Cell → XD → XD → Option D} {f : Value → Value → Sem Value} (ho : OpOk X B e f g) (ha : PE X a (tE B.K B.cl e wx fa)) (hb : PE X b (tE B.K B.cl e wx fb))
    {pins : List (Addr × Obj)} {s : Shared} {σ : St} {H : Hp} {Q : VK} (I : Inv X pins σ H s) (h : tE B.K B.cl e wx (e2 g fa fb) σ H Q) :
    wpAny (model X.prog X.w) X.A (eval a X.env) (fun v s₁ => wpAny (model X.prog X.w) X.A (eval b X.env) (fun u s₂ => wpAny (model X.prog X.w) X.A (f v u) (EP X pins σ Q) X.xe s₂) X.xe s₁) X.xe s := by
  obtain ⟨W, env, S, rfl, R, q⟩ := h
  unfold e2 at q
  refine thn (ha.run pins s σ W.H (fun x H1 => tE B.K B.cl e wx fb σ H1 fun y H2 => rOp B e g σ x y H2 Q) I ⟨W, env, S, rfl, R, ?_⟩) fun v s1 ⟨x, H1, I1, r1, q1⟩ =>
    thn (hb.run pins s1 σ H1 _ I1 q1) fun u s2 ⟨y, H2, I2, r2, q2⟩ => ?_
  · cases hf : fa env S with
    | bot => rw [hf] at q; exact q.elim
    | exc c p S1 => rw [hf] at q; exact q
    | val x S1 =>
      rw [hf] at q
      intro v W1 R1 s1 r1
      refine ⟨W1, env, S1, rfl, R1, ?_⟩
      have q : postE B.K B.cl e wx W σ env S Q ((fb env S1).bind fun y S2 => match g env S2 x y with | some d => .val (.dat d) S2 | none => .bot) := q
      cases hr2 : fb env S1 with
      | bot => rw [hr2] at q; exact q.elim
      | exc c p S2 => rw [hr2] at q; exact fun cls dx W2 R2 s2 x2 => q cls dx W2 R2 (s1.trans s2) x2
      | val y S2 =>
        rw [hr2] at q
        intro u W2 R2 s2 r2
        have q : postE B.K B.cl e wx W σ env S Q (match g env S2 x y with | some d => .val (.dat d) S2 | none => .bot) := q
        cases hg : g env S2 x y with
        | none => rw [hg] at q; exact q.elim
        | some d =>
          rw [hg] at q
          exact ⟨W2, env, S2, x, y, d, rfl, R2, RepX.step r1 s2, r2, hg, fun z W' R' s' rz => q z W' R' ((s1.trans s2).trans s') rz⟩
  · obtain ⟨W2, env2, S2, dx, dy, d, rfl, R2, x1, x2, hg, k⟩ := q2
    exact ho pins s2 σ σ x y v u W2 env2 S2 dx dy d Q I2 r1 r2 R2 x1 x2 hg k
theorem se_op {op : Operator} {g : List Slot → List Cell → XD → XD → Option D} {a b : Expr} {fa fb : EF} {pos : Pos} (ho : ∀ X wx, Cxt B.P B.w B.K B.mg B.base G e X wx → OpOk X B e (binaryOp op) g) (ha : SE B G e a fa) (hb : SE B G e b fb) :
    SE B G e (.BinOp a op b pos) (e2 g fa fb) :=
  ⟨fun X wx C => ⟨fun pins s σ H Q I h => PySem.wpAny_BinOp (e2_read (ho X wx C) (ha.run X wx C) (hb.run X wx C) I h)⟩, plBin⟩
end
end Ev

namespace Ev
open PySem L2

section
variable {B : Base} {G : Gc} {e : En} {K : PySem.W.Frag} {cl : Str → Option Addr} {W : Wd} {σ : St} {env : List Slot} {S : List Cell}
/-! ### a new thing that will not change -/
def Wd.put (W : Wd) (p : Addr) (o : HO) : Wd := ⟨upd W.F p o, upd W.H p o, W.ρ, W.l⟩
theorem same_upd {H : Hp} {p : Addr} {o : HO} (h : H p = none) : Same H (upd H p o) := fun b u q => by rw [upd_ne (ne_of_none q h)]; exact q
theorem FRel.F_none (R : FRel K cl e W σ env S) {p : Addr} (h : W.H p = none) : W.F p = none := by
  cases q : W.F p with
  | none => rfl
  | some o => rw [R.sub p o q] at h; cases h
theorem FRel.alloc (R : FRel K cl e W σ env S) {p : Addr} (hp : W.H p = none) (o : HO) : FRel K cl e (W.put p o) σ env S ∧ StepW W S.length (W.put p o) S.length := by
  have hF := R.F_none hp
  have sF := same_upd (o := o) hF
  have sH := same_upd (o := o) hp
  have x : Ext W.F W.ρ S.length W.H (W.put p o).F W.ρ S.length (W.put p o).H := ⟨sF, fun b u q => by
      by_cases hb : b = p
      · subst hb; exact .inr hp
      · exact .inl (by rw [show (W.put p o).F b = W.F b from upd_ne hb] at q; exact q), Nat.le_refl _, fun _ _ => rfl, fun n h1 h2 => absurd h2 (Nat.not_lt.mpr h1), fun b h => (by
      cases q : W.H b with
      | none => rfl
      | some u => rw [show (W.put p o).H b = some u from sH b u q] at h; cases h), fun b u q _ => sH b u q, fun b od u q => sH b _ q⟩
  have ne : ∀ {b : Addr} {u : HO}, W.H b = some u → b ≠ p := fun q => ne_of_none q hp
  refine ⟨⟨fun b u q => ?_, fun n c h => ?_, R.inj, R.len, fun i d h => ?_, fun i c h => ?_, R.linj, R.ext.trans x, fun i c q h => (R.err i c q h).mono sF (fun _ _ => rfl) (Nat.le_refl _)⟩, x, rfl⟩
  · by_cases hb : b = p
    · subst hb; rw [show (W.put b o).F b = some o from upd_same] at q; cases q; exact upd_same
    · rw [show (W.put p o).F b = W.F b from upd_ne hb] at q
      exact sH b u (R.sub b u q)
  · obtain ⟨h1, h2⟩ := R.glob n c h
    obtain ⟨u, hu⟩ := CellOk.some h2
    exact ⟨(upd_ne (ne hu)).trans h1, CellOk.mono sF (fun _ _ => rfl) (Nat.le_refl _) (fun u q => sH _ u q) h2⟩
  · obtain ⟨v, h1, h2⟩ := R.val i d h
    exact ⟨v, h1, Rep.mono sF (fun _ _ => rfl) (Nat.le_refl _) _ _ h2⟩
  · obtain ⟨h1, h2, h3, h4, h5⟩ := R.loc i c h
    obtain ⟨u, hu⟩ := CellOk.some h3
    exact ⟨h1, (upd_ne (ne hu)).trans h2, CellOk.mono sF (fun _ _ => rfl) (Nat.le_refl _) (fun u q => sH _ u q) h3, h4, h5⟩
theorem rep_tup {p : Addr} {ds : List D} {vs : List V} (hp : W.H p = none) (R : FRel K cl e W σ env S) (r : RepL K W.F W.ρ S.length ds vs) :
    Rep K (W.put p (.tup vs)).F (W.put p (.tup vs)).ρ S.length (.tup ds) (.ref p) :=
  ⟨p, vs, rfl, .inl (Rd.of upd_same), RepL.mono (same_upd (R.F_none hp)) (fun _ _ => rfl) (Nat.le_refl _) _ _ r⟩
theorem rep_lst {p : Addr} {ds : List D} {vs : List V} (hp : W.H p = none) (R : FRel K cl e W σ env S) (r : RepL K W.F W.ρ S.length ds vs) :
    Rep K (W.put p (.lst vs)).F (W.put p (.lst vs)).ρ S.length (.lst ds) (.ref p) :=
  ⟨p, vs, rfl, upd_same, RepL.mono (same_upd (R.F_none hp)) (fun _ _ => rfl) (Nat.le_refl _) _ _ r⟩

/-! ### what is read as a sequence -/
inductive Sq where
  | l | t
def seqOf (env : List Slot) (S : List Cell) : XD → Option (Sq × List D)
  | .dat (.tup ds) => some (.t, ds)
  | .dat (.lst ds) => some (.l, ds)
  | .dat (.rol ds) => some (.l, ds)
  | .dat (.own n) => match S[n]? with | some (.lst ds) => some (.l, ds) | _ => none
  | .loc i => match env[i]? with | some (.loc (.lst ds)) => some (.l, ds) | _ => none
  | _ => none
def SqAt (K : PySem.W.Frag) (H : Hp) (a : Addr) (vs : List V) : Sq → Prop
  | .l => SqL K H a vs
  | .t => SqT K H a vs
theorem FRel.seq (R : FRel K cl e W σ env S) {x : XD} {v : V} {q : Sq} {ds : List D} (r : RepX K W S.length x v) (h : seqOf env S x = some (q, ds)) :
    ∃ a vs, v = .ref a ∧ SqAt K W.H a vs q ∧ RepL K W.F W.ρ S.length ds vs := by
  cases x with
  | loc i =>
    simp only [seqOf] at h
    cases he : env[i]? with
    | none => rw [he] at h; cases h
    | some sl =>
      rw [he] at h
      cases sl with
      | no => cases h
      | err _ _ => cases h
      | val d => cases h
      | loc c =>
        cases c with
        | lst es =>
          cases h
          obtain ⟨_, _, ⟨vs, e1, r1⟩, _⟩ := R.loc i _ he
          exact ⟨_, vs, r, .inl (Rd.of e1), r1⟩
        | dct _ _ => cases h
        | dctT _ _ => cases h
        | lck _ _ => cases h
        | lckT _ _ => cases h
        | obj _ _ _ => cases h
  | dat d =>
    cases d with
    | tup es =>
      cases h
      obtain ⟨a, vs, e1, s1, r1⟩ := r
      exact ⟨a, vs, e1, Same.sqT R.sub s1, r1⟩
    | lst es =>
      cases h
      obtain ⟨a, vs, e1, s1, r1⟩ := r
      exact ⟨a, vs, e1, .inl (Rd.of (R.sub _ _ s1)), r1⟩
    | rol es =>
      cases h
      obtain ⟨a, vs, e1, s1, r1⟩ := r
      exact ⟨a, vs, e1, R.sub.seq s1, r1⟩
    | own n =>
      simp only [seqOf] at h
      cases he : S[n]? with
      | none => rw [he] at h; cases h
      | some c =>
        rw [he] at h
        cases c with
        | lst es =>
          cases h
          obtain ⟨_, vs, e1, r1⟩ := R.glob n _ he
          obtain ⟨_, e2⟩ := r
          exact ⟨_, vs, e2, .inl (Rd.of e1), r1⟩
        | dct _ _ => cases h
        | dctT _ _ => cases h
        | lck _ _ => cases h
        | lckT _ _ => cases h
        | obj _ _ _ => cases h
    | non => cases h
    | bl _ => cases h
    | int _ => cases h
    | str _ => cases h
    | dct _ _ => cases h

/-! ### operations -/
theorem Inv.sq {X : Cx} {pins : List (Addr × Obj)} {H : Hp} {s : Shared} (I : Inv X pins σ H s) {a : Addr} {vs : List V} {q : Sq} (h : SqAt X.K H a vs q) : vs.length ≤ sizeLine := by
  cases q with
  | l => obtain ⟨its, rv, _, hl⟩ := I.list h; exact hl
  | t => obtain ⟨its, rv, _, hl⟩ := I.tuple h; exact hl

def gInt (C : Int → Int → Bool) (f : Int → Int → D) : List Slot → List Cell → XD → XD → Option D := fun _ _ x y => match x, y with
  | .dat (.int i), .dat (.int j) => if C i j = true then some (f i j) else none
  | _, _ => none
theorem gInt_inv {C : Int → Int → Bool} {f : Int → Int → D} {x y : XD} {d : D} (h : gInt C f env S x y = some d) : ∃ i j, x = .dat (.int i) ∧ y = .dat (.int j) ∧ C i j = true ∧ d = f i j := by
  unfold gInt at h
  split at h
  · split at h
    · cases h; exact ⟨_, _, rfl, rfl, by assumption, rfl⟩
    · cases h
  · cases h
theorem okInt {X : Cx} {f : Value → Value → Sem Value} {C : Int → Int → Bool} {P : Int → Int → Prop} {g : Int → Int → V} {gd : Int → Int → D} (ho : OpR X f (rI P g)) (hP : ∀ i j, C i j = true → P i j)
    (hr : ∀ K F ρ m i j, Rep K F ρ m (gd i j) (g i j)) : OpOk X B e f (gInt C gd) := by
  intro pins s σ τ x y v u W env S dx dy d Q I rx ry R x1 x2 hg k
  obtain ⟨i, j, rfl, rfl, hc, rfl⟩ := gInt_inv hg
  have e1 : x = .int i := x1
  have e2 : y = .int j := x2
  exact ho pins s σ W.H x y v u Q I rx ry ⟨i, j, e1, e2, hP i j hc, k _ W R .refl (hr _ _ _ _ i j)⟩
theorem rI_of {X : Cx} {f : Value → Value → Sem Value} {g : Int → Int → V} (h : OpR X f (rI0 g)) : OpR X f (rI (fun _ _ => True) g) := fun pins s σ H x y v u Q I rx ry ⟨i, j, e1, e2, _, q⟩ => h pins s σ H x y v u Q I rx ry ⟨i, j, e1, e2, q⟩

def small64 (i : Int) : Bool := decide (-18446744073709551616 < i) && decide (i < 18446744073709551616)
def gSub := gInt (fun _ _ => true) fun i j => .int (i - j)
def mulC (i j : Int) : Bool := small64 i || small64 j
def gMulI := gInt mulC fun i j => .int (i * j)
def divC (_ j : Int) : Bool := decide (0 < j) && (decide (j < 18446744073709551616) || decide (j.natAbs.log2 < 9000))
def gDiv := gInt divC fun i j => .int (i / j)
def modC (_ j : Int) : Bool := decide (0 < j)
def gMod := gInt modC fun i j => .int (i % j)
def powC (i j : Int) : Bool := decide (0 ≤ j) && decide (j ≤ 1000000) && decide (i.natAbs < 2 ^ 64)
def gPow := gInt powC fun i j => .int (i ^ j.toNat)
def gShl := gInt powC fun i j => .int (i * 2 ^ j.toNat)
def shrC (_ j : Int) : Bool := decide (0 ≤ j)
def gShr := gInt shrC fun i j => .int (i / 2 ^ j.toNat)
def gXor := gInt (fun _ _ => true) fun i j => .int (Builtin.bitXor i j)
theorem ok_sub {X : Cx} : OpOk X B e (binaryOp .Sub) gSub := okInt (rI_of op_sub) (fun _ _ _ => trivial) fun _ _ _ _ _ _ => rfl
theorem divC_w {i j : Int} (h : divC i j = true) : CDivW i j := by
  simp only [divC, Bool.and_eq_true, Bool.or_eq_true, decide_eq_true_eq] at h
  refine ⟨h.1, ?_⟩
  rcases h.2 with h2 | h2
  case inr => exact h2
  refine (Nat.lt_of_lt_of_le ((Nat.log2_lt (k := 64) (by omega)).mpr ?_) (by decide))
  have : (2 : Nat) ^ 64 = 18446744073709551616 := by decide
  omega
theorem ok_div {X : Cx} : OpOk X B e (binaryOp .FloorDiv) gDiv := okInt op_fdivW (fun _ _ h => divC_w h) fun _ _ _ _ _ _ => rfl
theorem ok_mod {X : Cx} : OpOk X B e (binaryOp .Mod) gMod := okInt op_mod (fun _ _ h => by simpa [modC] using h) fun _ _ _ _ _ _ => rfl
theorem ok_pow {X : Cx} : OpOk X B e (binaryOp .Pow) gPow := okInt op_pow (fun _ _ h => by simp only [powC, Bool.and_eq_true, decide_eq_true_eq] at h; exact ⟨h.1.1, h.1.2, h.2⟩) fun _ _ _ _ _ _ => rfl
theorem ok_shl {X : Cx} : OpOk X B e (binaryOp .LShift) gShl := okInt op_shl (fun _ _ h => by simp only [powC, Bool.and_eq_true, decide_eq_true_eq] at h; exact ⟨h.1.1, h.1.2, h.2⟩) fun _ _ _ _ _ _ => rfl
theorem ok_shr {X : Cx} : OpOk X B e (binaryOp .RShift) gShr := okInt op_shr (fun _ _ h => by simpa [shrC] using h) fun _ _ _ _ _ _ => rfl
theorem ok_xor {X : Cx} : OpOk X B e (binaryOp .BitXor) gXor := okInt (rI_of op_xor) (fun _ _ _ => trivial) fun _ _ _ _ _ _ => rfl

theorem strOk_append {a b : List Nat} (ha : strOk a = true) (hb : strOk b = true) : strOk (a ++ b) = true := by
  unfold strOk at *
  rw [List.all_append, ha, hb]
  all_goals rfl
/-- a list that stands in the heap -/
def lstOf (env : List Slot) (S : List Cell) : XD → Option (List D)
  | .dat (.lst ds) => some ds
  | .dat (.own n) => match S[n]? with | some (.lst ds) => some ds | _ => none
  | .loc i => match env[i]? with | some (.loc (.lst ds)) => some ds | _ => none
  | _ => none
theorem FRel.lst (R : FRel K cl e W σ env S) {x : XD} {v : V} {ds : List D} (r : RepX K W S.length x v) (h : lstOf env S x = some ds) :
    ∃ a vs, v = .ref a ∧ W.H a = some (.lst vs) ∧ RepL K W.F W.ρ S.length ds vs := by
  cases x with
  | loc i =>
    simp only [lstOf] at h
    cases he : env[i]? with
    | none => rw [he] at h; cases h
    | some sl =>
      rw [he] at h
      cases sl with
      | no => cases h
      | err _ _ => cases h
      | val d => cases h
      | loc c =>
        cases c with
        | lst es =>
          cases h
          obtain ⟨_, _, ⟨vs, e1, r1⟩, _⟩ := R.loc i _ he
          exact ⟨_, vs, r, e1, r1⟩
        | dct _ _ => cases h
        | dctT _ _ => cases h
        | lck _ _ => cases h
        | lckT _ _ => cases h
        | obj _ _ _ => cases h
  | dat d =>
    cases d with
    | lst es =>
      cases h
      obtain ⟨a, vs, e1, s1, r1⟩ := r
      exact ⟨a, vs, e1, R.sub _ _ s1, r1⟩
    | own n =>
      simp only [lstOf] at h
      cases he : S[n]? with
      | none => rw [he] at h; cases h
      | some c =>
        rw [he] at h
        cases c with
        | lst es =>
          cases h
          obtain ⟨_, vs, e1, r1⟩ := R.glob n _ he
          obtain ⟨_, e2⟩ := r
          exact ⟨_, vs, e2, e1, r1⟩
        | dct _ _ => cases h
        | dctT _ _ => cases h
        | lck _ _ => cases h
        | lckT _ _ => cases h
        | obj _ _ _ => cases h
    | tup _ => cases h
    | rol _ => cases h
    | non => cases h
    | bl _ => cases h
    | int _ => cases h
    | str _ => cases h
    | dct _ _ => cases h
/-- a + b: ints, texts, tuples, lists -/
def gAdd : List Slot → List Cell → XD → XD → Option D := fun env S x y => match x, y with
  | .dat (.int i), .dat (.int j) => some (.int (i + j))
  | .dat (.str a), .dat (.str b) => if a.length + b.length ≤ sizeLine then some (.str (a ++ b)) else none
  | .dat (.tup a), .dat (.tup b) => if a.length + b.length ≤ sizeLine then some (.tup (a ++ b)) else none
  | x, y => match lstOf env S x, lstOf env S y with
    | some a, some b => if a.length + b.length ≤ sizeLine then some (.lst (a ++ b)) else none
    | _, _ => none
theorem ok_add {X : Cx} (hK : X.K = B.K) : OpOk X B e (binaryOp .Add) gAdd := by
  intro pins s σ τ x y v u W env S dx dy d Q I rx ry R x1 x2 hg k
  unfold gAdd at hg
  split at hg
  · cases hg
    have e1 : x = .int _ := x1
    have e2 : y = .int _ := x2
    exact op_add pins s σ W.H x y v u Q I rx ry ⟨_, _, e1, e2, k _ W R .refl rfl⟩
  · rename_i a b
    split at hg
    · rename_i hl
      cases hg
      obtain ⟨e1, o1⟩ := x1
      obtain ⟨e2, o2⟩ := x2
      refine op_add_str pins s σ W.H x y v u Q I rx ry ⟨_, _, e1, e2, by simpa [Str.length] using hl, ?_⟩
      have := k (.str ⟨(a ++ b).toArray⟩) W R .refl ⟨rfl, strOk_append o1 o2⟩
      have q : (⟨a.toArray⟩ ++ ⟨b.toArray⟩ : Str) = ⟨(a ++ b).toArray⟩ := by
        show (Str.mk (a.toArray ++ b.toArray)) = _
        rw [List.append_toArray]
      rw [q]; exact this
    · cases hg
  · rename_i a b
    split at hg
    · rename_i hl
      cases hg
      obtain ⟨p1, v1, rfl, s1, r1⟩ := x1
      obtain ⟨p2, v2, rfl, s2, r2⟩ := x2
      refine op_catA pins s σ W.H _ _ v u Q I rx ry ⟨p1, p2, v1, v2, rfl, rfl, by rw [hK]; exact Same.sqT R.sub s1, by rw [hK]; exact Same.sqT R.sub s2, by rw [← r1.length, ← r2.length]; exact hl, fun z => ?_, fun _ z => ?_, fun _ _ p hp => ?_⟩
      · subst z
        have : a = [] := List.eq_nil_of_length_eq_zero (by rw [r1.length]; rfl)
        subst this
        exact k _ W R .refl ⟨p2, v2, rfl, s2, r2⟩
      · subst z
        have : b = [] := List.eq_nil_of_length_eq_zero (by rw [r2.length]; rfl)
        subst this
        exact k _ W R .refl ⟨p1, v1, rfl, s1, by rw [List.append_nil]; exact r1⟩
      · obtain ⟨R', st⟩ := R.alloc hp (.tup (v1 ++ v2))
        exact k _ _ R' st (rep_tup hp R (RepL.append r1 r2))
    · cases hg
  · split at hg
    · rename_i a b ha hb
      split at hg
      · rename_i hl
        cases hg
        obtain ⟨p1, v1, rfl, s1, r1⟩ := R.lst x1 ha
        obtain ⟨p2, v2, rfl, s2, r2⟩ := R.lst x2 hb
        refine op_cat pins s σ W.H _ _ v u Q I rx ry ⟨p1, p2, v1, v2, rfl, rfl, s1, s2, by rw [← r1.length, ← r2.length]; exact hl, fun p hp => ?_⟩
        obtain ⟨R', st⟩ := R.alloc hp (.lst (v1 ++ v2))
        exact k _ _ R' st (rep_lst hp R (RepL.append r1 r2))
      · cases hg
    · cases hg
/-- a * b: ints; a list times an int -/
def gMul : List Slot → List Cell → XD → XD → Option D := fun env S x y => match x, y with
  | .dat (.int i), .dat (.int j) => if mulC i j = true then some (.int (i * j)) else none
  | x, .dat (.int k) => match lstOf env S x with
    | some a => if -(2 ^ 63) ≤ k ∧ k < 2 ^ 63 ∧ a.length * k.toNat ≤ sizeLine then some (.lst (List.replicate k.toNat a).flatten) else none
    | none => none
  | _, _ => none
theorem RepL.replicate {F : Hp} {ρ : Nat → Addr} {m : Nat} {ds : List D} {vs : List V} (h : RepL K F ρ m ds vs) : ∀ n : Nat, RepL K F ρ m (List.replicate n ds).flatten (List.replicate n vs).flatten
  | 0 => rfl
  | n + 1 => by
    rw [List.replicate_succ, List.replicate_succ, List.flatten_cons, List.flatten_cons]
    exact RepL.append h (RepL.replicate h n)
theorem ok_mul {X : Cx} : OpOk X B e (binaryOp .Mult) gMul := by
  intro pins s σ τ x y v u W env S dx dy d Q I rx ry R x1 x2 hg k
  unfold gMul at hg
  split at hg
  · split at hg
    · rename_i i j hc
      cases hg
      have e1 : x = .int _ := x1
      have e2 : y = .int _ := x2
      refine op_mul pins s σ W.H x y v u Q I rx ry ⟨_, _, e1, e2, ?_, k _ W R .refl rfl⟩
      simpa [mulC, small64, CMul, Bool.or_eq_true, Bool.and_eq_true] using hc
    · cases hg
  · split at hg
    · rename_i a ha
      split at hg
      · rename_i hl
        cases hg
        obtain ⟨p1, v1, rfl, s1, r1⟩ := R.lst x1 ha
        have e2 : y = .int _ := x2
        refine op_rep pins s σ W.H _ _ v u Q I rx ry ⟨p1, _, v1, rfl, e2, s1, hl.1, hl.2.1, by rw [← r1.length]; exact hl.2.2, fun p hp => ?_⟩
        obtain ⟨R', st⟩ := R.alloc hp (.lst (List.replicate _ v1).flatten)
        exact k _ _ R' st (rep_lst hp R (RepL.replicate r1 _))
      · cases hg
    · cases hg
  · cases hg
end
end Ev

namespace Ev
open PySem L2
/-! ### == of data -/
mutual
def eqD : D → D → Bool
  | .non, .non => true
  | .bl a, .bl b => a == b
  | .bl a, .int j => (if a then 1 else 0) == j
  | .int i, .bl b => i == (if b then 1 else 0)
  | .int i, .int j => decide (i = j)
  | .str x, .str y => decide (x = y)
  | .lst xs, .lst ys => eqL xs ys
  | .lst xs, .rol ys => eqL xs ys
  | .rol xs, .lst ys => eqL xs ys
  | .rol xs, .rol ys => eqL xs ys
  | .tup xs, .tup ys => eqL xs ys
  | _, _ => false
def eqL : List D → List D → Bool
  | [], [] => true
  | x :: xs, y :: ys => eqD x y && eqL xs ys
  | [], _ :: _ => false
  | _ :: _, [] => false
end
mutual
def toPy : D → PyData
  | .non => .none
  | .bl b => .bool b
  | .int i => .int i
  | .str x => .str ⟨x.toArray⟩
  | .tup ds => .tuple (toPyL ds)
  | .lst ds => .list (toPyL ds)
  | .rol ds => .list (toPyL ds)
  | .own _ => .none
  | .dct _ _ => .none
def toPyL : List D → List PyData
  | [] => []
  | d :: ds => toPy d :: toPyL ds
end
/-- no deeper than n, and only data -/
def dep : Nat → D → Bool
  | _, .non => true
  | _, .bl _ => true
  | _, .int _ => true
  | _, .str _ => true
  | n + 1, .tup ds => ds.all (dep n)
  | n + 1, .lst ds => ds.all (dep n)
  | n + 1, .rol ds => ds.all (dep n)
  | _, _ => false
theorem toPyL_eq : ∀ ds : List D, toPyL ds = ds.map toPy
  | [] => rfl
  | d :: ds => by unfold toPyL; rw [toPyL_eq ds]; rfl
theorem eqS (x y : List Nat) : ((⟨x.toArray⟩ : Str) == ⟨y.toArray⟩) = decide (x = y) := by
  by_cases h : x = y
  · subst h; simp
  · rw [decide_eq_false h]
    refine beq_eq_false_iff_ne.mpr fun z => h ?_
    injection z with z
    exact List.toArray_inj z
theorem dep_eq : ∀ (n : Nat) (a b : D), dep n a = true → dep n b = true → PyData.eqv (toPy a) (toPy b) = eqD a b := by
  intro n
  induction n with
  | zero =>
    intro a b ha hb
    cases a <;> cases b <;> first | (simp [dep] at ha; done) | (simp [dep] at hb; done) | skip
    all_goals first | (simp only [toPy, PyData.eqv, eqD]; done) | (simp only [toPy, PyData.eqv, eqD]; simp [eqS]; done) | skip
    all_goals simp [toPy, PyData.eqv, eqD, eqS]
    all_goals (rw [Bool.eq_iff_iff]; simp)
  | succ n ih =>
    have key : ∀ xs ys : List D, xs.all (dep n) = true → ys.all (dep n) = true → PyData.eqvAll (toPyL xs) (toPyL ys) = eqL xs ys := by
      intro xs
      induction xs with
      | nil => intro ys _ _; cases ys <;> simp [toPyL, PyData.eqvAll, eqL]
      | cons x xs ih2 =>
        intro ys h1 h2
        cases ys with
        | nil => simp [toPyL, PyData.eqvAll, eqL]
        | cons y ys =>
          simp only [List.all_cons, Bool.and_eq_true] at h1 h2
          simp only [toPyL, PyData.eqvAll, eqL]
          rw [ih x y h1.1 h2.1, ih2 ys h1.2 h2.2]
    intro a b ha hb
    cases a <;> cases b <;> first | (simp [dep] at ha; done) | (simp [dep] at hb; done) | skip
    all_goals first | (simp only [toPy, PyData.eqv, eqD]; done) | (simp only [toPy, PyData.eqv, eqD]; simp [eqS]; done) | (simp only [toPy, PyData.eqv, eqD]; exact key _ _ (by simpa [dep] using ha) (by simpa [dep] using hb)) | skip
    all_goals simp [toPy, PyData.eqv, eqD, eqS]
    all_goals (rw [Bool.eq_iff_iff]; simp)

theorem dep_depth : ∀ (n : Nat) (a : D), dep n a = true → (toPy a).depth ≤ n := by
  intro n
  induction n with
  | zero => intro a ha; cases a <;> first | (simp [dep] at ha; done) | (simp [toPy, PyData.depth]; done)
  | succ n ih =>
    have key : ∀ xs : List D, xs.all (dep n) = true → PyData.depthAll (toPyL xs) ≤ n := by
      intro xs
      induction xs with
      | nil => intro _; exact Nat.zero_le _
      | cons x xs ih2 =>
        intro h
        simp only [List.all_cons, Bool.and_eq_true] at h
        simp only [toPyL, PyData.depthAll]
        have := ih x h.1
        have := ih2 h.2
        omega
    intro a ha
    cases a <;> first | (simp [dep] at ha; done) | (simp [toPy, PyData.depth]; done) | skip
    all_goals
      simp only [toPy, PyData.depth]
      have := key _ (by simpa [dep] using ha)
      omega
theorem strOk_py {x : List Nat} (h : strOk x = true) : PyData.strOk ⟨x.toArray⟩ = true := by
  unfold PyData.strOk
  unfold strOk at h
  simpa using h
section
variable {K : PySem.W.Frag} {F H : Hp} {ρ : Nat → Addr} {m : Nat}
theorem Rep.dp (hs : Same F H) : ∀ (n : Nat) (d : D) (v : V), dep n d = true → Rep K F ρ m d v → Dp K H v (toPy d) ∧ (toPy d).canLay0 = true := by
  intro n
  induction n with
  | zero =>
    intro d v hd h
    cases d with
    | non => cases h; exact ⟨.non, by simp [toPy, PyData.canLay0]⟩
    | bl b => cases h; exact ⟨.bl b, by simp [toPy, PyData.canLay0]⟩
    | int i => cases h; exact ⟨.int i, by simp [toPy, PyData.canLay0]⟩
    | str x => obtain ⟨rfl, o⟩ := h; exact ⟨.str _, by simp only [toPy, PyData.canLay0]; exact strOk_py o⟩
    | tup _ => simp [dep] at hd
    | lst _ => simp [dep] at hd
    | rol _ => simp [dep] at hd
    | own _ => simp [dep] at hd
    | dct _ _ => simp [dep] at hd
  | succ n ih =>
    have key : ∀ (ds : List D) (vs : List V), ds.all (dep n) = true → RepL K F ρ m ds vs → DpAll K H vs (toPyL ds) ∧ PyData.canLayAll0 (toPyL ds) = true := by
      intro ds
      induction ds with
      | nil => intro vs _ r; cases r; exact ⟨.nil, rfl⟩
      | cons d ds ih2 =>
        intro vs h r
        simp only [List.all_cons, Bool.and_eq_true] at h
        obtain ⟨v, q, rfl, h1, h2⟩ := r
        obtain ⟨a1, a2⟩ := ih d v h.1 h1
        obtain ⟨b1, b2⟩ := ih2 q h.2 h2
        refine ⟨.cons a1 b1, ?_⟩
        simp only [toPyL, PyData.canLayAll0, a2, b2, Bool.and_self]
    intro d v hd h
    cases d with
    | non => cases h; exact ⟨.non, by simp [toPy, PyData.canLay0]⟩
    | bl b => cases h; exact ⟨.bl b, by simp [toPy, PyData.canLay0]⟩
    | int i => cases h; exact ⟨.int i, by simp [toPy, PyData.canLay0]⟩
    | str x => obtain ⟨rfl, o⟩ := h; exact ⟨.str _, by simp only [toPy, PyData.canLay0]; exact strOk_py o⟩
    | tup ds =>
      obtain ⟨a, vs, rfl, s1, r1⟩ := h
      obtain ⟨k1, k2⟩ := key ds vs (by simpa [dep] using hd) r1
      exact ⟨.tup (Same.sqT hs s1) k1, by simpa only [toPy, PyData.canLay0] using k2⟩
    | lst ds =>
      obtain ⟨a, vs, rfl, s1, r1⟩ := h
      obtain ⟨k1, k2⟩ := key ds vs (by simpa [dep] using hd) r1
      exact ⟨.lst (.inl (Rd.of (hs _ _ s1))) k1, by simpa only [toPy, PyData.canLay0] using k2⟩
    | rol ds =>
      obtain ⟨a, vs, rfl, s1, r1⟩ := h
      obtain ⟨k1, k2⟩ := key ds vs (by simpa [dep] using hd) r1
      exact ⟨.lst (hs.seq s1) k1, by simpa only [toPy, PyData.canLay0] using k2⟩
    | own _ => simp [dep] at hd
    | dct _ _ => simp [dep] at hd
theorem Rep.dpL (hs : Same F H) {n : Nat} {ds : List D} {vs : List V} (hd : ds.all (dep n) = true) (r : RepL K F ρ m ds vs) : DpAll K H vs (toPyL ds) ∧ PyData.canLayAll0 (toPyL ds) = true := by
  induction ds generalizing vs with
  | nil => cases r; exact ⟨.nil, rfl⟩
  | cons d ds ih2 =>
    simp only [List.all_cons, Bool.and_eq_true] at hd
    obtain ⟨v, q, rfl, h1, h2⟩ := r
    obtain ⟨a1, a2⟩ := Rep.dp hs n d v hd.1 h1
    obtain ⟨b1, b2⟩ := ih2 hd.2 h2
    refine ⟨.cons a1 b1, ?_⟩
    simp only [toPyL, PyData.canLayAll0, a2, b2, Bool.and_self]
end

section
variable {B : Base} {G : Gc} {e : En} {K : PySem.W.Frag} {cl : Str → Option Addr} {W : Wd} {σ : St} {env : List Slot} {S : List Cell}
/-- a value as data, a slot's own list by what it holds -/
def datOf (env : List Slot) (S : List Cell) : XD → Option D
  | .dat (.own n) => match S[n]? with | some (.lst ds) => some (.lst ds) | _ => none
  | .dat d => some d
  | .loc i => match env[i]? with | some (.loc (.lst ds)) => some (.lst ds) | _ => none
theorem FRel.dp (R : FRel K cl e W σ env S) {x : XD} {v : V} {d : D} {n : Nat} (r : RepX K W S.length x v) (h : datOf env S x = some d) (hd : dep n d = true) :
    Dp K W.H v (toPy d) ∧ (toPy d).canLay0 = true := by
  cases n with
  | zero =>
    cases x with
    | loc i =>
      simp only [datOf] at h
      split at h
      · cases h; simp [dep] at hd
      · cases h
    | dat d' =>
      cases d' with
      | own n =>
        simp only [datOf] at h
        split at h
        · cases h; simp [dep] at hd
        · cases h
      | non => cases h; exact Rep.dp (ρ := W.ρ) (m := S.length) R.sub 0 _ v hd r
      | bl _ => cases h; exact Rep.dp (ρ := W.ρ) (m := S.length) R.sub 0 _ v hd r
      | int _ => cases h; exact Rep.dp (ρ := W.ρ) (m := S.length) R.sub 0 _ v hd r
      | str _ => cases h; exact Rep.dp (ρ := W.ρ) (m := S.length) R.sub 0 _ v hd r
      | tup _ => cases h; exact Rep.dp (ρ := W.ρ) (m := S.length) R.sub 0 _ v hd r
      | lst _ => cases h; exact Rep.dp (ρ := W.ρ) (m := S.length) R.sub 0 _ v hd r
      | rol _ => cases h; exact Rep.dp (ρ := W.ρ) (m := S.length) R.sub 0 _ v hd r
      | dct _ _ => cases h; exact Rep.dp (ρ := W.ρ) (m := S.length) R.sub 0 _ v hd r
  | succ n =>
    have lst : ∀ {ds : List D}, lstOf env S x = some ds → d = .lst ds → Dp K W.H v (toPy d) ∧ (toPy d).canLay0 = true := fun {ds} h1 h2 => by
      subst h2
      obtain ⟨a, vs, rfl, s1, r1⟩ := R.lst r h1
      obtain ⟨k1, k2⟩ := Rep.dpL R.sub (n := n) (by simpa [dep] using hd) r1
      exact ⟨.lst (.inl (Rd.of s1)) k1, by simpa only [toPy, PyData.canLay0] using k2⟩
    cases x with
    | loc i =>
      simp only [datOf] at h
      split at h
      · rename_i ds he
        cases h
        exact lst (ds := ds) (by simp only [lstOf, he]) rfl
      · cases h
    | dat d' =>
      cases d' with
      | own n =>
        simp only [datOf] at h
        split at h
        · rename_i ds he
          cases h
          exact lst (ds := ds) (by simp only [lstOf, he]) rfl
        · cases h
      | non => cases h; exact Rep.dp (ρ := W.ρ) (m := S.length) R.sub _ _ v hd r
      | bl _ => cases h; exact Rep.dp (ρ := W.ρ) (m := S.length) R.sub _ _ v hd r
      | int _ => cases h; exact Rep.dp (ρ := W.ρ) (m := S.length) R.sub _ _ v hd r
      | str _ => cases h; exact Rep.dp (ρ := W.ρ) (m := S.length) R.sub _ _ v hd r
      | tup _ => cases h; exact Rep.dp (ρ := W.ρ) (m := S.length) R.sub _ _ v hd r
      | lst _ => cases h; exact Rep.dp (ρ := W.ρ) (m := S.length) R.sub _ _ v hd r
      | rol _ => cases h; exact Rep.dp (ρ := W.ρ) (m := S.length) R.sub _ _ v hd r
      | dct _ _ => cases h; exact Rep.dp (ρ := W.ρ) (m := S.length) R.sub _ _ v hd r
theorem shaped_of {d : D} {n : Nat} (h : (toPy d).canLay0 = true) (hd : dep n d = true) (hn : n ≤ 64) : SeqAt.shaped (toPy d) = true := by
  unfold SeqAt.shaped
  rw [h, Bool.true_and]
  exact decide_eq_true (Nat.le_trans (dep_depth n d hd) hn)

/-- comparisons: g is none, or a truth value -/
def gB (g : List Slot → List Cell → XD → XD → Option Bool) : List Slot → List Cell → XD → XD → Option D := fun env S x y => (g env S x y).map .bl
def cEq : List Slot → List Cell → XD → XD → Option Bool := fun env S x y => match datOf env S x, datOf env S y with
  | some a, some b => if dep 32 a && dep 32 b then some (eqD a b) else none
  | _, _ => none
def cNe : List Slot → List Cell → XD → XD → Option Bool := fun env S x y => (cEq env S x y).map (!·)
theorem cEq_inv {x y : XD} {k : Bool} (h : cEq env S x y = some k) : ∃ a b, datOf env S x = some a ∧ datOf env S y = some b ∧ dep 32 a = true ∧ dep 32 b = true ∧ k = eqD a b := by
  unfold cEq at h
  split at h
  · rename_i a b ha hb
    split at h
    · rename_i hc
      rw [Bool.and_eq_true] at hc
      cases h
      exact ⟨a, b, ha, hb, hc.1, hc.2, rfl⟩
    · cases h
  · cases h
theorem ok_eq {X : Cx} (hK : X.K = B.K) (hu : X.A.units + 64 < cLine) : OpOk X B e (compareOp .Eq) (gB cEq) := by
  intro pins s σ τ x y v u W env S dx dy d Q I rx ry R x1 x2 hg k
  unfold gB at hg
  cases hc : cEq env S dx dy with
  | none => rw [hc] at hg; cases hg
  | some b =>
    rw [hc] at hg
    cases hg
    obtain ⟨a, b, ha, hb, da, db, rfl⟩ := cEq_inv hc
    obtain ⟨p1, c1⟩ := R.dp x1 ha da
    obtain ⟨p2, c2⟩ := R.dp x2 hb db
    refine op_eqD hu pins s σ W.H x y v u Q I rx ry ⟨_, _, by rw [hK]; exact p1, by rw [hK]; exact p2, shaped_of c1 da (by decide), shaped_of c2 db (by decide), ?_⟩
    rw [dep_eq 32 a b da db]
    exact k _ W R .refl rfl
theorem ok_ne {X : Cx} (hK : X.K = B.K) (hu : X.A.units + 64 < cLine) : OpOk X B e (compareOp .NotEq) (gB cNe) := by
  intro pins s σ τ x y v u W env S dx dy d Q I rx ry R x1 x2 hg k
  unfold gB cNe at hg
  cases hc : cEq env S dx dy with
  | none => rw [hc] at hg; cases hg
  | some b =>
    rw [hc] at hg
    cases hg
    obtain ⟨a, b, ha, hb, da, db, rfl⟩ := cEq_inv hc
    obtain ⟨p1, c1⟩ := R.dp x1 ha da
    obtain ⟨p2, c2⟩ := R.dp x2 hb db
    refine op_neD hu pins s σ W.H x y v u Q I rx ry ⟨_, _, by rw [hK]; exact p1, by rw [hK]; exact p2, shaped_of c1 da (by decide), shaped_of c2 db (by decide), ?_⟩
    rw [dep_eq 32 a b da db]
    exact k _ W R .refl rfl

/-- < and its like, of ints and of texts -/
def cOrd (fi : Int → Int → Bool) (fs : List Nat → List Nat → Bool) : List Slot → List Cell → XD → XD → Option Bool := fun _ _ x y => match x, y with
  | .dat (.int i), .dat (.int j) => some (fi i j)
  | .dat (.str a), .dat (.str b) => some (fs a b)
  | _, _ => none
def cLt := cOrd (fun i j => decide (i < j)) fun a b => decide (a < b)
def cLe := cOrd (fun i j => decide (i ≤ j)) fun a b => !decide (b < a)
def cGt := cOrd (fun i j => decide (j < i)) fun a b => decide (b < a)
def cGe := cOrd (fun i j => decide (j ≤ i)) fun a b => !decide (a < b)
theorem okOrd {X : Cx} {op : CmpOp} {fi : Int → Int → Bool} {fs : List Nat → List Nat → Bool} (hi : OpR X (compareOp op) (rI0 fun i j => .bl (fi i j)))
    (hs : OpR X (compareOp op) (fun x y H Q => ∃ i j : Str, x = .str i ∧ y = .str j ∧ Q (.bl (fs i.cps.toList j.cps.toList)) H)) : OpOk X B e (compareOp op) (gB (cOrd fi fs)) := by
  intro pins s σ τ x y v u W env S dx dy d Q I rx ry R x1 x2 hg k
  unfold gB cOrd at hg
  split at hg
  · cases hg
    exact hi pins s σ W.H x y v u Q I rx ry ⟨_, _, x1, x2, k _ W R .refl rfl⟩
  · cases hg
    exact hs pins s σ W.H x y v u Q I rx ry ⟨_, _, x1.1, x2.1, k _ W R .refl rfl⟩
  · cases hg
theorem ok_lt {X : Cx} : OpOk X B e (compareOp .Lt) (gB cLt) := okOrd op_lt op_lt_str
theorem ok_le {X : Cx} : OpOk X B e (compareOp .LtE) (gB cLe) := okOrd op_le op_le_str
theorem ok_gt {X : Cx} : OpOk X B e (compareOp .Gt) (gB cGt) := okOrd op_gt op_gt_str
theorem ok_ge {X : Cx} : OpOk X B e (compareOp .GtE) (gB cGe) := okOrd op_ge op_ge_str
end
end Ev

namespace Ev
open PySem L2 PyProof.Rows
section
variable {B : Base} {G : Gc} {e : En} {K : PySem.W.Frag} {cl : Str → Option Addr} {W : Wd} {σ : L2.St} {env : List Slot} {S : List Cell}
/-! ### comparisons -/
theorem se_cmp {op : CmpOp} {g : List Slot → List Cell → XD → XD → Option D} {a b : Expr} {fa fb : EF} {pos : Pos} (ho : ∀ X wx, Cxt B.P B.w B.K B.mg B.base G e X wx → OpOk X B e (compareOp op) g) (ha : SE B G e a fa) (hb : SE B G e b fb) :
    SE B G e (.Compare a [op] [b] pos) (e2 g fa fb) :=
  ⟨fun X wx C => ⟨fun pins s σ H Q I h => PySem.wpAny_Compare1 (e2_read (ho X wx C) (ha.run X wx C) (hb.run X wx C) I h) (hb.pl.bm op)⟩, plCmp⟩
/-- what is a truth value, as a test -/
def bT (f : EF) : TF := fun env S => (f env S).bind fun x S' => match x with
  | .dat (.bl b) => .val b S'
  | _ => .bot
theorem bT_read {wx : WX} {σ : L2.St} {f : EF} {H : Hp} {Q : Bool → Hp → Prop} (h : tT B.K B.cl e wx (bT f) σ H Q) : tE B.K B.cl e wx f σ H fun x H' => ∃ k, x = .bl k ∧ Q k H' := by
  obtain ⟨W, env, S, rfl, R, q⟩ := h
  refine ⟨W, env, S, rfl, R, postG.seq q fun x S1 v W1 R1 s1 r1 q1 => ?_⟩
  cases x with
  | loc i => exact q1.elim
  | dat d =>
    cases d with
    | bl b => exact ⟨b, r1, q1 b W1 R1 .refl rfl⟩
    | _ => exact q1.elim
theorem st_cmp {op : CmpOp} {g : List Slot → List Cell → XD → XD → Option D} {a b : Expr} {fa fb : EF} {pos : Pos} (ho : ∀ X wx, Cxt B.P B.w B.K B.mg B.base G e X wx → OpOk X B e (compareOp op) g) (ha : SE B G e a fa) (hb : SE B G e b fb) :
    ST B G e (.Compare a [op] [b] pos) (bT (e2 g fa fb)) := by
  refine ⟨fun X wx C => ⟨fun pins s σ H Q I h => ?_⟩⟩
  refine PySem.wpAny_isTrue_Compare1 ?_ (hb.pl.bm op)
  refine thn (e2_read (ho X wx C) (ha.run X wx C) (hb.run X wx C) I (bT_read h)) fun v s1 h1 => thn h1 fun u s2 h2 => thn h2 fun c s3 (h3 : EP X pins σ _ c s3) => ?_
  obtain ⟨z, H3, I3, r3, k, e, q3⟩ := h3
  subst e
  cases r3
  exact wpAny_truthy_bool ⟨H3, I3, q3⟩

def cIsN : List Slot → List Cell → XD → XD → Option Bool := fun _ _ x y => match x, y with
  | .dat .non, .dat .non => some true
  | _, .dat .non => some false
  | _, _ => none
def cNotN : List Slot → List Cell → XD → XD → Option Bool := fun env S x y => (cIsN env S x y).map (!·)
theorem RepX.non {m : Nat} {x : XD} {v : V} (r : RepX K W m x v) (h : v = .non) : x = .dat .non := by
  subst h
  cases x with
  | loc i => cases r
  | dat d =>
    cases d with
    | non => rfl
    | bl _ => cases r
    | int _ => cases r
    | str _ => cases r.1
    | tup _ => obtain ⟨_, _, z, _⟩ := r; cases z
    | lst _ => obtain ⟨_, _, z, _⟩ := r; cases z
    | rol _ => obtain ⟨_, _, z, _⟩ := r; cases z
    | own _ => cases r.2
    | dct _ _ => obtain ⟨_, _, z, _⟩ := r; cases z
theorem cIsN_inv {x y : XD} {k : Bool} {u v : V} {m : Nat} (h : cIsN env S x y = some k) (r1 : RepX K W m x u) (r2 : RepX K W m y v) : v = .non ∧ k = decide (u = .non) := by
  unfold cIsN at h
  split at h
  · cases h; exact ⟨r2, by rw [show u = .non from r1]; rfl⟩
  · rename_i n
    cases h
    refine ⟨r2, ?_⟩
    symm
    refine decide_eq_false fun z => ?_
    exact n (RepX.non r1 z)
  · cases h
theorem ok_is {X : Cx} : OpOk X B e (compareOp .Is) (gB cIsN) := by
  intro pins s σ τ x y v u W env S dx dy d Q I rx ry R x1 x2 hg k
  unfold gB at hg
  cases hc : cIsN env S dx dy with
  | none => rw [hc] at hg; cases hg
  | some b =>
    rw [hc] at hg; cases hg
    obtain ⟨e1, rfl⟩ := cIsN_inv hc x1 x2
    exact op_isN pins s σ W.H x y v u Q I rx ry ⟨e1, k _ W R .refl rfl⟩
theorem ok_isnot {X : Cx} : OpOk X B e (compareOp .IsNot) (gB cNotN) := by
  intro pins s σ τ x y v u W env S dx dy d Q I rx ry R x1 x2 hg k
  unfold gB cNotN at hg
  cases hc : cIsN env S dx dy with
  | none => rw [hc] at hg; cases hg
  | some b =>
    rw [hc] at hg; cases hg
    obtain ⟨e1, rfl⟩ := cIsN_inv hc x1 x2
    exact op_notN pins s σ W.H x y v u Q I rx ry ⟨e1, k _ W R .refl rfl⟩

/-! ### in -/
/-- is a at the beginning of b -/
def occursIn (a b : List Nat) : Bool := !(Builtin.Str.occurrences ⟨b.toArray⟩ ⟨a.toArray⟩ 0 (Str.length ⟨b.toArray⟩) 1).isEmpty
def cIn : List Slot → List Cell → XD → XD → Option Bool := fun env S x y => match x, y with
  | .dat (.str [c]), .dat (.str z) => some (decide (c ∈ z))
  | .dat (.str a), .dat (.str z) => some (occursIn a z)
  | x, y => match datOf env S x, datOf env S y with
    | some a, some (.lst ds) => if dep 32 a && dep 32 (.lst ds) then some (ds.any fun z => eqD z a) else none
    | some a, some (.rol ds) => if dep 32 a && dep 32 (.lst ds) then some (ds.any fun z => eqD z a) else none
    | some a, some (.tup ds) => if dep 32 a && dep 32 (.tup ds) then some (ds.any fun z => eqD z a) else none
    | _, _ => none
def cNotIn : List Slot → List Cell → XD → XD → Option Bool := fun env S x y => (cIn env S x y).map (!·)
theorem dep_mono : ∀ (n : Nat) (d : D), dep n d = true → dep (n + 1) d = true := by
  intro n
  induction n with
  | zero => intro d h; cases d <;> first | (simp [dep] at h; done) | (simp [dep]; done)
  | succ n ih =>
    intro d h
    cases d <;> first | (simp [dep] at h; done) | (simp [dep]; done) | skip
    all_goals
      rw [dep, List.all_eq_true] at h ⊢
      exact fun x hx => ih x (h x hx)
theorem any_eq {ds : List D} {a : D} {n : Nat} (h1 : ds.all (dep n) = true) (h2 : dep (n + 1) a = true) : ((toPyL ds).any fun z => PyData.eqv z (toPy a)) = ds.any fun z => eqD z a := by
  induction ds with
  | nil => rfl
  | cons d ds ih =>
    simp only [List.all_cons, Bool.and_eq_true] at h1
    simp only [toPyL, List.any_cons]
    rw [ih h1.2, dep_eq (n + 1) d a (dep_mono n d h1.1) h2]
theorem in_core {X : Cx} (hK : X.K = B.K) (hu : X.A.units + 65 < cLine) (neg : Bool) : OpOk X B e (compareOp (if neg then .NotIn else .In)) (gB (if neg then cNotIn else cIn)) := by
  intro pins s σ τ x y v u W env S dx dy d Q I rx ry R x1 x2 hg k
  have hg : (cIn env S dx dy).map (fun b => D.bl (if neg then !b else b)) = some d := by
    cases neg <;> simpa [gB, cNotIn, Function.comp] using hg
  cases hc : cIn env S dx dy with
  | none => rw [hc] at hg; cases hg
  | some b =>
    rw [hc] at hg; cases hg
    unfold cIn at hc
    split at hc
    · cases hc
      cases neg with
      | true => exact op_notIn_sign pins s σ W.H x y v u Q I rx ry ⟨_, _, x1.1, x2.1, k _ W R .refl rfl⟩
      | false => exact op_in_sign pins s σ W.H x y v u Q I rx ry ⟨_, _, x1.1, x2.1, k _ W R .refl rfl⟩
    · cases hc
      cases neg with
      | true => exact op_notIn_str pins s σ W.H x y v u Q I rx ry ⟨_, _, x1.1, x2.1, k _ W R .refl rfl⟩
      | false => exact op_in_str pins s σ W.H x y v u Q I rx ry ⟨_, _, x1.1, x2.1, k _ W R .refl rfl⟩
    · have fin : ∀ (a c : D) (ds : List D), datOf env S dx = some a → datOf env S dy = some c → (c = .lst ds ∨ c = .rol ds ∨ c = .tup ds) → (dep 32 a && dep 32 (.lst ds)) = true → (ds.any fun z => eqD z a) = b →
          wpAny (model X.prog X.w) X.A (compareOp (if neg then .NotIn else .In) v u) (EP X pins σ Q) X.xe s := by
        intro a c ds ha hb hform hd hbv
        rw [Bool.and_eq_true] at hd
        have hds : ds.all (dep 31) = true := by simpa [dep] using hd.2
        have dc : dep 32 c = true := by rcases hform with rfl | rfl | rfl <;> simpa [dep] using hds
        obtain ⟨p1, c1⟩ := R.dp x1 ha hd.1
        obtain ⟨p2, c2⟩ := R.dp x2 hb dc
        obtain ⟨as, r1⟩ := Dp.reads I _ _ _ (by rw [hK]; exact p1) rx
        obtain ⟨bs, r2⟩ := Dp.reads I _ _ _ (by rw [hK]; exact p2) ry
        have hk := k (.bl (if neg then !b else b)) W R .refl rfl
        have sa := shaped_of c1 hd.1 (by decide)
        subst hbv
        have ea := any_eq (n := 31) hds hd.1
        rcases hform with rfl | rfl | rfl
        · cases neg with
          | true => exact SeqAt.notIn_list_reads (xs := toPyL ds) (by simpa only [toPy] using r2) r1 (by simpa only [toPy, PyData.canLay0] using c2) c1 (room_in_shaped sa hu) (by rw [ea]; exact ⟨.bl _, W.H, I, rfl, hk⟩)
          | false => exact SeqAt.in_list_reads (xs := toPyL ds) (by simpa only [toPy] using r2) r1 (by simpa only [toPy, PyData.canLay0] using c2) c1 (room_in_shaped sa hu) (by rw [ea]; exact ⟨.bl _, W.H, I, rfl, hk⟩)
        · cases neg with
          | true => exact SeqAt.notIn_list_reads (xs := toPyL ds) (by simpa only [toPy] using r2) r1 (by simpa only [toPy, PyData.canLay0] using c2) c1 (room_in_shaped sa hu) (by rw [ea]; exact ⟨.bl _, W.H, I, rfl, hk⟩)
          | false => exact SeqAt.in_list_reads (xs := toPyL ds) (by simpa only [toPy] using r2) r1 (by simpa only [toPy, PyData.canLay0] using c2) c1 (room_in_shaped sa hu) (by rw [ea]; exact ⟨.bl _, W.H, I, rfl, hk⟩)
        · cases neg with
          | true => exact SeqAt.notIn_tuple_reads (xs := toPyL ds) (by simpa only [toPy] using r2) r1 (by simpa only [toPy, PyData.canLay0] using c2) c1 (room_in_shaped sa hu) (by rw [ea]; exact ⟨.bl _, W.H, I, rfl, hk⟩)
          | false => exact SeqAt.in_tuple_reads (xs := toPyL ds) (by simpa only [toPy] using r2) r1 (by simpa only [toPy, PyData.canLay0] using c2) c1 (room_in_shaped sa hu) (by rw [ea]; exact ⟨.bl _, W.H, I, rfl, hk⟩)
      split at hc
      · rename_i a ds ha hb
        split at hc
        · rename_i hd; cases hc; exact fin a _ ds ha hb (.inl rfl) hd rfl
        · cases hc
      · rename_i a ds ha hb
        split at hc
        · rename_i hd; cases hc; exact fin a _ ds ha hb (.inr (.inl rfl)) hd rfl
        · cases hc
      · rename_i a ds ha hb
        split at hc
        · rename_i hd; cases hc; exact fin a _ ds ha hb (.inr (.inr rfl)) (by simpa [dep] using hd) rfl
        · cases hc
      · cases hc
theorem ok_in {X : Cx} (hK : X.K = B.K) (hu : X.A.units + 65 < cLine) : OpOk X B e (compareOp .In) (gB cIn) := in_core hK hu false
theorem ok_notIn {X : Cx} (hK : X.K = B.K) (hu : X.A.units + 65 < cLine) : OpOk X B e (compareOp .NotIn) (gB cNotIn) := in_core hK hu true
end
end Ev

namespace Ev
open PySem L2 PyProof.Rows
structure SW (B : Base) (G : Gc) (e : En) (ex : Expr) (f : TF) : Prop where
  run : ∀ X wx, Cxt B.P B.w B.K B.mg B.base G e X wx → PW X ex (tT B.K B.cl e wx f)
section
variable {B : Base} {G : Gc} {e : En} {K : PySem.W.Frag} {cl : Str → Option Addr} {W : Wd} {σ : L2.St} {env : List Slot} {S : List Cell}
/-! ### truth -/
def truX (env : List Slot) (S : List Cell) : XD → Option Bool
  | .dat .non => some false
  | .dat (.bl b) => some b
  | .dat (.int i) => some (i != 0)
  | .dat (.str x) => if x.length ≤ sizeLine then some (decide (x ≠ [])) else none
  | x => match seqOf env S x with
    | some (_, ds) => some (!ds.isEmpty)
    | none => none
theorem isEmpty_rep {F : Hp} {ρ : Nat → Addr} {m : Nat} {ds : List D} {vs : List V} (r : RepL K F ρ m ds vs) : ds.isEmpty = vs.isEmpty := by
  have := r.length
  cases ds <;> cases vs <;> simp_all
theorem FRel.tru (R : FRel K cl e W σ env S) {x : XD} {v : V} {k : Bool} (r : RepX K W S.length x v) (h : truX env S x = some k) : TruV K v W.H k := by
  have sq : ∀ {q : Sq} {ds : List D}, seqOf env S x = some (q, ds) → k = !ds.isEmpty → TruV K v W.H k := fun {q ds} h1 h2 => by
    obtain ⟨a, vs, rfl, s1, r1⟩ := R.seq r h1
    rw [h2, isEmpty_rep r1]
    cases q with
    | l => exact .inl ⟨vs, s1, rfl⟩
    | t => exact .inr (.inl ⟨vs, s1, rfl⟩)
  unfold truX at h
  split at h
  · cases h; cases (show v = .non from r); rfl
  · cases h; cases (show v = .bl _ from r); rfl
  · cases h; cases (show v = .int _ from r); rfl
  · rename_i x
    split at h
    · rename_i hl
      cases h
      obtain ⟨rfl, _⟩ := r
      refine ⟨by simpa [Str.length] using hl, ?_⟩
      cases x with
      | nil => rfl
      | cons a t =>
        rw [decide_eq_true (by simp)]
        symm
        rw [bne_iff_ne]
        simp [Str.length]
        omega
    · cases h
  · split at h
    · rename_i q ds hq
      cases h
      exact sq hq rfl
    · cases h
/-- the test of a value by its truth -/
def tT1 (f : EF) : TF := fun env S => (f env S).bind fun x S1 => match truX env S1 x with
  | some k => .val k S1
  | none => .bot
theorem tT1_read {wx : WX} {f : EF} {H : Hp} {Q : Bool → Hp → Prop} (h : tT B.K B.cl e wx (tT1 f) σ H Q) : tE B.K B.cl e wx f σ H fun x H' => ∃ k, TruV B.K x H' k ∧ Q k H' := by
  obtain ⟨W, env, S, rfl, R, q⟩ := h
  refine ⟨W, env, S, rfl, R, postG.seq q fun x S1 v W1 R1 s1 r1 q1 => ?_⟩
  cases hk : truX env S1 x with
  | none => rw [hk] at q1; exact q1.elim
  | some k => rw [hk] at q1; exact ⟨k, R1.tru r1 hk, q1 k W1 R1 .refl rfl⟩
theorem st_truth {a : Expr} {f : EF} (ha : SE B G e a f) (he : ∀ env whole, isTrue a env whole = (do let v ← whole; standAt a.pos; holding [v] (truthy v)) := by intro _ _; rfl) : ST B G e a (tT1 f) :=
  ⟨fun X wx C => PT.imp (pt_truth (ha.run X wx C) (he X.env)) fun σ H Q h => by rw [C.K]; exact tT1_read h⟩
/-! ### and, or, not -/
def tAnd' (f g : TF) : TF := fun env S => (f env S).bind fun b S1 => if b = true then g env S1 else .val false S1
def tOr' (f g : TF) : TF := fun env S => (f env S).bind fun b S1 => if b = true then .val true S1 else g env S1
def tNot' (f : TF) : TF := fun env S => (f env S).bind fun b S1 => .val (!b) S1
theorem SW.st {a : Expr} {f : TF} (h : SW B G e a f) : ST B G e a f := ⟨fun X wx C => (h.run X wx C).pt⟩
theorem sw_and1 {a : Expr} {f : TF} {pos : Pos} (ha : ST B G e a f) : SW B G e (.BoolOp .And [a] pos) f := ⟨fun X wx C => pw_and1 (ha.run X wx C)⟩
theorem sw_or1 {a : Expr} {f : TF} {pos : Pos} (ha : ST B G e a f) : SW B G e (.BoolOp .Or [a] pos) f := ⟨fun X wx C => pw_or1 (ha.run X wx C)⟩
theorem PW.imp {X : Cx} {ex : Expr} {t u : TT} (h : PW X ex t) (i : ∀ σ H Q, u σ H Q → t σ H Q) : PW X ex u := ⟨fun wh pins s σ H Q I q => h.run wh pins s σ H Q I (i _ _ _ q)⟩
theorem sw_and {a b : Expr} {rest : List Expr} {f g : TF} {pos : Pos} (ha : ST B G e a f) (hb : SW B G e (.BoolOp .And (b :: rest) pos) g) : SW B G e (.BoolOp .And (a :: b :: rest) pos) (tAnd' f g) := by
  refine ⟨fun X wx C => PW.imp (pw_and (ha.run X wx C) (hb.run X wx C)) fun σ H Q ⟨W, env, S, hH, R, q⟩ => ⟨W, env, S, hH, R, postG.seq q fun k S1 k' W1 R1 s1 r1 q1 => ?_⟩⟩
  subst r1
  cases k' with
  | true => exact ⟨W1, env, S1, rfl, R1, q1⟩
  | false => exact q1 false W1 R1 .refl rfl
theorem sw_or {a b : Expr} {rest : List Expr} {f g : TF} {pos : Pos} (ha : ST B G e a f) (hb : SW B G e (.BoolOp .Or (b :: rest) pos) g) : SW B G e (.BoolOp .Or (a :: b :: rest) pos) (tOr' f g) := by
  refine ⟨fun X wx C => PW.imp (pw_or (ha.run X wx C) (hb.run X wx C)) fun σ H Q ⟨W, env, S, hH, R, q⟩ => ⟨W, env, S, hH, R, postG.seq q fun k S1 k' W1 R1 s1 r1 q1 => ?_⟩⟩
  subst r1
  cases k' with
  | true => exact q1 true W1 R1 .refl rfl
  | false => exact ⟨W1, env, S1, rfl, R1, q1⟩
theorem st_not {a : Expr} {f : TF} {pos : Pos} (ha : ST B G e a f) : ST B G e (.UnaryOp .Not a pos) (tNot' f) := by
  refine ⟨fun X wx C => PT.imp (pt_not (ha.run X wx C)) fun σ H Q ⟨W, env, S, hH, R, q⟩ => ⟨W, env, S, hH, R, postG.seq q fun k S1 k' W1 R1 s1 r1 q1 => ?_⟩⟩
  subst r1
  exact q1 _ W1 R1 .refl rfl
theorem plBool {op : BoolOp} {l : List Expr} {p : Pos} : Plain (.BoolOp op l p) := ⟨fun _ _ => rfl, fun _ _ => rfl, fun _ _ => rfl, fun _ => rfl, fun _ _ => rfl⟩
theorem plUn {op : UnaryOp} {a : Expr} {p : Pos} : Plain (.UnaryOp op a p) := ⟨fun _ _ => rfl, fun _ _ => rfl, fun _ _ => rfl, fun _ => rfl, fun _ _ => rfl⟩
theorem plIf {a b c : Expr} {p : Pos} : Plain (.IfExp a b c p) := ⟨fun _ _ => rfl, fun _ _ => rfl, fun _ _ => rfl, fun _ => rfl, fun _ _ => rfl⟩
/-- and, or as values -/
def eAnd (f g : EF) : EF := fun env S => (f env S).bind fun x S1 => match truX env S1 x with
  | some true => g env S1
  | some false => .val x S1
  | none => .bot
def eOr (f g : EF) : EF := fun env S => (f env S).bind fun x S1 => match truX env S1 x with
  | some true => .val x S1
  | some false => g env S1
  | none => .bot
theorem se_bool1 {op : BoolOp} {a : Expr} {f : EF} {pos : Pos} (ha : SE B G e a f) : SE B G e (.BoolOp op [a] pos) f := ⟨fun X wx C => pe_one (ha.run X wx C), plBool⟩
theorem se_and {a b : Expr} {rest : List Expr} {f g : EF} {pos : Pos} (ha : SE B G e a f) (hb : SE B G e (.BoolOp .And (b :: rest) pos) g) : SE B G e (.BoolOp .And (a :: b :: rest) pos) (eAnd f g) := by
  refine ⟨fun X wx C => PE.imp (pe_andT (ha.run X wx C) (hb.run X wx C)) fun σ H Q ⟨W, env, S, hH, R, q⟩ => ⟨W, env, S, hH, R, postG.seq q fun x S1 v W1 R1 s1 r1 q1 => ?_⟩, plBool⟩
  cases hk : truX env S1 x with
  | none => rw [hk] at q1; exact q1.elim
  | some k =>
    rw [hk] at q1
    refine ⟨k, by rw [C.K]; exact R1.tru r1 hk, ?_⟩
    cases k with
    | true => exact ⟨W1, env, S1, rfl, R1, q1⟩
    | false => exact q1 v W1 R1 .refl r1
theorem se_or {a b : Expr} {rest : List Expr} {f g : EF} {pos : Pos} (ha : SE B G e a f) (hb : SE B G e (.BoolOp .Or (b :: rest) pos) g) : SE B G e (.BoolOp .Or (a :: b :: rest) pos) (eOr f g) := by
  refine ⟨fun X wx C => PE.imp (pe_orT (ha.run X wx C) (hb.run X wx C)) fun σ H Q ⟨W, env, S, hH, R, q⟩ => ⟨W, env, S, hH, R, postG.seq q fun x S1 v W1 R1 s1 r1 q1 => ?_⟩, plBool⟩
  cases hk : truX env S1 x with
  | none => rw [hk] at q1; exact q1.elim
  | some k =>
    rw [hk] at q1
    refine ⟨k, by rw [C.K]; exact R1.tru r1 hk, ?_⟩
    cases k with
    | true => exact q1 v W1 R1 .refl r1
    | false => exact ⟨W1, env, S1, rfl, R1, q1⟩
def eNot (f : EF) : EF := fun env S => (f env S).bind fun x S1 => match truX env S1 x with
  | some k => .val (.dat (.bl (!k))) S1
  | none => .bot
theorem se_not {a : Expr} {f : EF} {pos : Pos} (ha : SE B G e a f) : SE B G e (.UnaryOp .Not a pos) (eNot f) := by
  refine ⟨fun X wx C => PE.imp (pe_notT (ha.run X wx C)) fun σ H Q ⟨W, env, S, hH, R, q⟩ => ⟨W, env, S, hH, R, postG.seq q fun x S1 v W1 R1 s1 r1 q1 => ?_⟩, plUn⟩
  cases hk : truX env S1 x with
  | none => rw [hk] at q1; exact q1.elim
  | some k =>
    rw [hk] at q1
    exact ⟨k, by rw [C.K]; exact R1.tru r1 hk, q1 _ W1 R1 .refl rfl⟩
def eIf (c : TF) (f g : EF) : EF := fun env S => (c env S).bind fun b S1 => if b = true then f env S1 else g env S1
theorem se_if {c a b : Expr} {tc : TF} {f g : EF} {pos : Pos} (hc : ST B G e c tc) (ha : SE B G e a f) (hb : SE B G e b g) : SE B G e (.IfExp c a b pos) (eIf tc f g) := by
  refine ⟨fun X wx C => PE.imp (pe_ifExp (hc.run X wx C) (ha.run X wx C) (hb.run X wx C)) fun σ H Q ⟨W, env, S, hH, R, q⟩ => ⟨W, env, S, hH, R, postG.seq q fun k S1 k' W1 R1 s1 r1 q1 => ?_⟩, plIf⟩
  subst r1
  cases k' with
  | true => exact ⟨W1, env, S1, rfl, R1, q1⟩
  | false => exact ⟨W1, env, S1, rfl, R1, q1⟩
/-! ### a op b op' c -/
def eCh (g g' : List Slot → List Cell → XD → XD → Option Bool) (fa fb fc : EF) : EF := fun env S => (fa env S).bind fun x S1 => (fb env S1).bind fun y S2 => match g env S2 x y with
  | some true => (fc env S2).bind fun z S3 => match g' env S3 y z with
    | some k => .val (.dat (.bl k)) S3
    | none => .bot
  | some false => .val (.dat (.bl false)) S2
  | none => .bot
theorem OpOk.opr {X : Cx} {f : Value → Value → Sem Value} {g : List Slot → List Cell → XD → XD → Option Bool} (h : OpOk X B e f (gB g)) (τ : L2.St) : OpR X f (fun x y H Q => ∃ W env S dx dy k, W.H = H ∧ FRel B.K B.cl e W τ env S ∧ RepX B.K W S.length dx x ∧ RepX B.K W S.length dy y ∧ g env S dx dy = some k ∧
    ∀ W', FRel B.K B.cl e W' τ env S → StepW W S.length W' S.length → Q (.bl k) W'.H) := by
  intro pins s σ H x y v u Q I rx ry ⟨W, env, S, dx, dy, k, hH, R, x1, x2, hg, q⟩
  subst hH
  exact h pins s σ τ x y v u W env S dx dy (.bl k) Q I rx ry R x1 x2 (by unfold gB; rw [hg]; rfl) fun z W' R' s' r => by cases (show z = .bl k from r); exact q W' R' s'
theorem lastM {op op' : CmpOp} {b c : Expr} (h : Plain c) : lastMarks [op, op'] [b, c] = false := h.bm op'
theorem eCh_read {wx : WX} {g g' : List Slot → List Cell → XD → XD → Option Bool} {fa fb fc : EF} {σ : L2.St} {H : Hp} {Q : VK} (h : tE B.K B.cl e wx (eCh g g' fa fb fc) σ H Q) :
    tE B.K B.cl e wx fa σ H fun x H1 => tE B.K B.cl e wx fb σ H1 fun y H2 => (∃ W env S dx dy k, W.H = H2 ∧ FRel B.K B.cl e W σ env S ∧ RepX B.K W S.length dx x ∧ RepX B.K W S.length dy y ∧ g env S dx dy = some k ∧
      ∀ W', FRel B.K B.cl e W' σ env S → StepW W S.length W' S.length → ∃ k', V.bl k = .bl k' ∧ (if k' = true then tE B.K B.cl e wx fc σ W'.H fun z H3 => (∃ W env S dx dy k, W.H = H3 ∧ FRel B.K B.cl e W σ env S ∧ RepX B.K W S.length dx y ∧ RepX B.K W S.length dy z ∧ g' env S dx dy = some k ∧
        ∀ W', FRel B.K B.cl e W' σ env S → StepW W S.length W' S.length → Q (.bl k) W'.H) else Q (.bl false) W'.H)) := by
  obtain ⟨W, env, S, rfl, R, q⟩ := h
  refine ⟨W, env, S, rfl, R, postG.seq q fun x S1 v W1 R1 s1 r1 q1 => ⟨W1, env, S1, rfl, R1, postG.seq q1 fun y S2 u W2 R2 s2 r2 q2 => ?_⟩⟩
  cases hk : g env S2 x y with
  | none => rw [hk] at q2; exact q2.elim
  | some k =>
    rw [hk] at q2
    refine ⟨W2, env, S2, x, y, k, rfl, R2, RepX.step r1 s2, r2, hk, fun W' R' s' => ⟨k, rfl, ?_⟩⟩
    have q2' := postG.shift q2 s'
    cases k with
    | false => exact q2' _ W' R' .refl rfl
    | true =>
      refine ⟨W', env, S2, rfl, R', postG.seq q2' fun z S3 w W3 R3 s3 r3 q3 => ?_⟩
      cases hk' : g' env S3 y z with
      | none => rw [hk'] at q3; exact q3.elim
      | some k' =>
        rw [hk'] at q3
        exact ⟨W3, env, S3, y, z, k', rfl, R3, RepX.step (RepX.step r2 s') s3, r3, hk', fun W4 R4 s4 => q3 _ W4 R4 s4 rfl⟩
theorem se_ch {op op' : CmpOp} {g g' : List Slot → List Cell → XD → XD → Option Bool} {a b c : Expr} {fa fb fc : EF} {pos : Pos} (ho : ∀ X wx, Cxt B.P B.w B.K B.mg B.base G e X wx → OpOk X B e (compareOp op) (gB g)) (ho' : ∀ X wx, Cxt B.P B.w B.K B.mg B.base G e X wx → OpOk X B e (compareOp op') (gB g'))
    (ha : SE B G e a fa) (hb : SE B G e b fb) (hc : SE B G e c fc) : SE B G e (.Compare a [op, op'] [b, c] pos) (eCh g g' fa fb fc) := by
  refine ⟨fun X wx C => ⟨fun pins s σ H Q I h => ?_⟩, plCmp⟩
  exact (pe_chain (OpOk.opr (ho X wx C) σ) (OpOk.opr (ho' X wx C) σ) (ha.run X wx C) (hb.run X wx C) (hc.run X wx C) (lastM hc.pl)).run pins s σ H Q I (eCh_read h)
theorem st_ch {op op' : CmpOp} {g g' : List Slot → List Cell → XD → XD → Option Bool} {a b c : Expr} {fa fb fc : EF} {pos : Pos} (ho : ∀ X wx, Cxt B.P B.w B.K B.mg B.base G e X wx → OpOk X B e (compareOp op) (gB g)) (ho' : ∀ X wx, Cxt B.P B.w B.K B.mg B.base G e X wx → OpOk X B e (compareOp op') (gB g'))
    (ha : SE B G e a fa) (hb : SE B G e b fb) (hc : SE B G e c fc) : ST B G e (.Compare a [op, op'] [b, c] pos) (bT (eCh g g' fa fb fc)) := by
  refine ⟨fun X wx C => ⟨fun pins s σ H Q I h => ?_⟩⟩
  refine (pt_chain (OpOk.opr (ho X wx C) σ) (OpOk.opr (ho' X wx C) σ) (ha.run X wx C) (hb.run X wx C) (hc.run X wx C) (lastM hc.pl)).run pins s σ H Q I ?_
  exact eCh_read (bT_read h)
end
end Ev

namespace Ev
open PySem L2 PyProof.Rows
section
variable {B : Base} {G : Gc} {e : En} {K : PySem.W.Frag} {cl : Str → Option Addr} {W : Wd} {σ : L2.St} {env : List Slot} {S : List Cell}
/-! ### displays -/
def eTup (f : AF) : EF := fun env S => (f env S).bind fun xs S1 => match datL xs with
  | some ds => if ds.length ≤ sizeLine then .val (.dat (.tup ds)) S1 else .bot
  | none => .bot
def eLst (f : AF) : EF := fun env S => (f env S).bind fun xs S1 => match datL xs with
  | some ds => if ds.length ≤ sizeLine then .val (.dat (.lst ds)) S1 else .bot
  | none => .bot
theorem plTup {l : List Expr} {k : Nat} {p : Pos} : Plain (.Tuple l k p) := ⟨fun _ _ => rfl, fun _ _ => rfl, fun _ _ => rfl, fun _ => rfl, fun _ _ => rfl⟩
theorem plLst {l : List Expr} {p : Pos} : Plain (.List l p) := ⟨fun _ _ => rfl, fun _ _ => rfl, fun _ _ => rfl, fun _ => rfl, fun _ _ => rfl⟩
theorem se_tup {es : List Expr} {k : Nat} {pos : Pos} {f : AF} (h : SA B G e es f) : SE B G e (.Tuple es k pos) (eTup f) := by
  refine ⟨fun X wx C => PE.imp (pe_tup (h.run X wx C)) fun σ H Q ⟨W, env, S, hH, R, q⟩ => ⟨W, env, S, hH, R, postG.seq q fun xs S1 vs W1 R1 s1 r1 q1 => ?_⟩, plTup⟩
  cases hd : datL xs with
  | none => rw [hd] at q1; exact q1.elim
  | some ds =>
    rw [hd] at q1
    have r2 := RepXL.dat r1 hd
    by_cases hl : ds.length ≤ sizeLine
    · dsimp only at q1
      rw [if_pos hl] at q1
      refine ⟨by rw [← r2.length]; exact hl, fun p hp => ?_⟩
      obtain ⟨R', st⟩ := R1.alloc hp (.tup vs)
      exact q1 _ _ R' st (rep_tup hp R1 r2)
    · dsimp only at q1
      rw [if_neg hl] at q1; exact q1.elim
theorem se_lst {es : List Expr} {pos : Pos} {f : AF} (h : SA B G e es f) : SE B G e (.List es pos) (eLst f) := by
  refine ⟨fun X wx C => PE.imp (pe_lst (h.run X wx C)) fun σ H Q ⟨W, env, S, hH, R, q⟩ => ⟨W, env, S, hH, R, postG.seq q fun xs S1 vs W1 R1 s1 r1 q1 => ?_⟩, plLst⟩
  cases hd : datL xs with
  | none => rw [hd] at q1; exact q1.elim
  | some ds =>
    rw [hd] at q1
    have r2 := RepXL.dat r1 hd
    by_cases hl : ds.length ≤ sizeLine
    · dsimp only at q1
      rw [if_pos hl] at q1
      refine ⟨by rw [← r2.length]; exact hl, fun p hp => ?_⟩
      obtain ⟨R', st⟩ := R1.alloc hp (.lst vs)
      exact q1 _ _ R' st (rep_lst hp R1 r2)
    · dsimp only at q1
      rw [if_neg hl] at q1; exact q1.elim

/-! ### items -/
def gIx : List Slot → List Cell → XD → XD → Option D := fun env S x y => match y with
  | .dat (.int i) => match x with
    | .dat (.str z) => if z.length ≤ sizeLine then (atI z i).map fun c => .str [c] else none
    | x => match seqOf env S x with
      | some (_, ds) => atI ds i
      | none => none
  | _ => none
theorem atI_rep {F : Hp} {ρ : Nat → Addr} {m : Nat} {ds : List D} {vs : List V} {i : Int} {d : D} (r : RepL K F ρ m ds vs) (h : atI ds i = some d) : ∃ v, atI vs i = some v ∧ Rep K F ρ m d v := by
  unfold atI at *
  rw [r.length] at h
  cases e : ixN vs.length i with
  | none => rw [e] at h; cases h
  | some j => rw [e] at h; exact r.get h
theorem atI_ok {z : List Nat} {i : Int} {c : Nat} (h : atI z i = some c) (o : strOk z = true) : strOk [c] = true := by
  obtain ⟨j, _, hj, _⟩ := atI_get h
  unfold strOk at *
  rw [List.all_eq_true] at o
  have := o c (List.mem_of_getElem? hj)
  simp [this]
theorem plSub {a b : Expr} {p : Pos} : Plain (.Subscript a b p) := ⟨fun _ _ => rfl, fun _ _ => rfl, fun _ _ => rfl, fun _ => rfl, fun _ _ => rfl⟩
theorem se_ix {a b : Expr} {fa fb : EF} {pos : Pos} (ha : SE B G e a fa) (hb : SE B G e b fb) : SE B G e (.Subscript a b pos) (e2 gIx fa fb) := by
  refine ⟨fun X wx C => ⟨fun pins s σ H Q I h => ?_⟩, plSub⟩
  have hs : ∀ v u, subscripted b false v u = operate [v, u] (getItem v u) := hb.pl.ix
  refine Subscript_ (e2_read (f := fun v u => subscriptTail a b v u) (g := gIx) ?_ (ha.run X wx C) (hb.run X wx C) I h)
  intro pins s σ τ x y v u W env S dx dy d Q I rx ry R x1 x2 hg k
  unfold gIx at hg
  split at hg
  · rename_i i
    split at hg
    · rename_i z
      split at hg
      · rename_i hl
        cases hc : atI z i with
        | none => rw [hc] at hg; cases hg
        | some c =>
          rw [hc] at hg; cases hg
          refine ix_str a b pins s σ W.H x y v u Q I rx ry ⟨_, i, c, x1.1, x2, by simpa [Str.length] using hl, hc, ?_⟩ (hs _ _)
          exact k _ W R .refl ⟨rfl, atI_ok hc x1.2⟩
      · cases hg
    · split at hg
      · rename_i q ds hq
        obtain ⟨p, vs, rfl, s1, r1⟩ := R.seq x1 hq
        obtain ⟨v', h1, h2⟩ := atI_rep r1 hg
        cases q with
        | l => exact ix_list a b pins s σ W.H _ y v u Q I rx ry ⟨p, vs, i, v', rfl, x2, by rw [C.K]; exact s1, h1, k _ W R .refl h2⟩ (hs _ _)
        | t => exact ix_tup a b pins s σ W.H _ y v u Q I rx ry ⟨p, vs, i, v', rfl, x2, by rw [C.K]; exact s1, h1, k _ W R .refl h2⟩ (hs _ _)
      · cases hg
  · cases hg

/-! ### slices -/
abbrev OF := List Slot → List Cell → Out (Option Int)
abbrev postO (K : PySem.W.Frag) := postG (fun _ _ (b b' : Option Int) => b' = b) K
def tO (K : PySem.W.Frag) (cl : Str → Option Addr) (e : En) (wx : WX) (f : OF) : TO := fun σ H Q => ∃ W env S, W.H = H ∧ FRel K cl e W σ env S ∧ postO K cl e wx W σ env S Q (f env S)
structure SO (B : Base) (G : Gc) (e : En) (ex : Option Expr) (f : OF) : Prop where
  run : ∀ X wx, Cxt B.P B.w B.K B.mg B.base G e X wx → PO X ex (tO B.K B.cl e wx f)
theorem PO.imp {X : Cx} {ex : Option Expr} {t u : TO} (h : PO X ex t) (i : ∀ σ H Q, u σ H Q → t σ H Q) : PO X ex u := ⟨fun pins s σ H Q I q => h.run pins s σ H Q I (i _ _ _ q)⟩
def oNone : OF := fun _ S => .val none S
def oSome (f : EF) : OF := fun env S => (f env S).bind fun x S1 => match x with
  | .dat (.int i) => .val (some i) S1
  | _ => .bot
theorem so_none : SO B G e none oNone := ⟨fun X wx C => PO.imp po_none fun σ H Q ⟨W, env, S, hH, R, q⟩ => by subst hH; exact q none W R .refl rfl⟩
theorem so_some {a : Expr} {f : EF} (ha : SE B G e a f) : SO B G e (some a) (oSome f) := by
  refine ⟨fun X wx C => PO.imp (po_some (ha.run X wx C)) fun σ H Q ⟨W, env, S, hH, R, q⟩ => ⟨W, env, S, hH, R, postG.seq q fun x S1 v W1 R1 s1 r1 q1 => ?_⟩⟩
  cases x with
  | loc i => exact q1.elim
  | dat d =>
    cases d with
    | int i => exact ⟨i, r1, q1 _ W1 R1 .refl rfl⟩
    | _ => exact q1.elim
def cut {α : Type} (xs : List α) (lo hi : Option Int) : List α := (xs.drop (HT.sIx xs.length 0 lo)).take (HT.sIx xs.length xs.length hi - HT.sIx xs.length 0 lo)
def slX (env : List Slot) (S : List Cell) (x : XD) (lo hi : Option Int) : Option D := match x with
  | .dat (.str z) => if z.length ≤ sizeLine then some (.str (cut z lo hi)) else none
  | x => match seqOf env S x with
    | some (.l, ds) => some (.lst (cut ds lo hi))
    | some (.t, ds) => some (.tup (cut ds lo hi))
    | none => none
def eSl (f : EF) (l h : OF) : EF := fun env S => (f env S).bind fun x S1 => (l env S1).bind fun lo S2 => (h env S2).bind fun hi S3 => match slX env S3 x lo hi with
  | some d => .val (.dat d) S3
  | none => .bot
theorem cut_rep {F : Hp} {ρ : Nat → Addr} {m : Nat} {ds : List D} {vs : List V} {lo hi : Option Int} (r : RepL K F ρ m ds vs) : RepL K F ρ m (cut ds lo hi) (cutV vs lo hi) := by
  unfold cut cutV
  rw [r.length]
  exact RepL.take _ (RepL.drop _ r)
theorem cut_ok {z : List Nat} {lo hi : Option Int} (o : strOk z = true) : strOk (cut z lo hi) = true := by
  unfold strOk cut at *
  rw [List.all_eq_true] at *
  exact fun c hc => o c (List.mem_of_mem_drop (List.mem_of_mem_take hc))
theorem se_sl {a : Expr} {lo hi : Option Expr} {f : EF} {l h : OF} {p2 pos : Pos} (ha : SE B G e a f) (hl : SO B G e lo l) (hh : SO B G e hi h) : SE B G e (.Subscript a (.Slice lo hi none p2) pos) (eSl f l h) := by
  refine ⟨fun X wx C => PE.imp (pe_slice (SlR.or sl_str (SlR.or sl_list sl_tupA)) (ha.run X wx C) (hl.run X wx C) (hh.run X wx C)) fun σ H Q ⟨W, env, S, hH, R, q⟩ =>
    ⟨W, env, S, hH, R, postG.seq q fun x S1 v W1 R1 s1 r1 q1 => ⟨W1, env, S1, rfl, R1, postG.seq q1 fun lo S2 lo' W2 R2 s2 r2 q2 => ⟨W2, env, S2, rfl, R2, postG.seq q2 fun hi S3 hi' W3 R3 s3 r3 q3 => ?_⟩⟩⟩, plSub⟩
  subst r2
  subst r3
  have rx := RepX.step (RepX.step r1 s2) s3
  cases hs : slX env S3 x lo' hi' with
  | none => rw [hs] at q3; exact q3.elim
  | some d =>
    rw [hs] at q3
    unfold slX at hs
    split at hs
    · rename_i z
      split at hs
      · rename_i hl
        cases hs
        refine .inl ⟨_, rx.1, by simpa [Str.length] using hl, q3 _ W3 R3 .refl ⟨?_, cut_ok rx.2⟩⟩
        unfold cutS cut
        simp [Str.length]
      · cases hs
    · split at hs
      · rename_i ds hq
        cases hs
        obtain ⟨p, vs, rfl, s1, r1⟩ := R3.seq rx hq
        refine .inr (.inl ⟨p, vs, rfl, by rw [C.K]; exact s1, fun p' hp => ?_⟩)
        obtain ⟨R', st⟩ := R3.alloc hp (.lst (cutV vs lo' hi'))
        exact q3 _ _ R' st (rep_lst hp R3 (cut_rep r1))
      · rename_i ds hq
        cases hs
        obtain ⟨p, vs, rfl, s1, r1⟩ := R3.seq rx hq
        refine .inr (.inr ⟨p, vs, rfl, by rw [C.K]; exact s1, fun hw => ?_, fun _ p' hp => ?_⟩)
        · have e1 : cut ds lo' hi' = ds := by
            unfold cut
            rw [r1.length, hw.1, hw.2, List.drop_zero, Nat.sub_zero, ← r1.length, List.take_length]
          cases x with
          | loc i =>
            simp only [seqOf] at hq
            split at hq <;> cases hq
          | dat dd =>
            cases dd with
            | tup es => cases hq; rw [e1] at q3; exact q3 _ W3 R3 .refl rx
            | own n =>
              simp only [seqOf] at hq
              split at hq <;> cases hq
            | _ => cases hq
        · obtain ⟨R', st⟩ := R3.alloc hp (.tup (cutV vs lo' hi'))
          exact q3 _ _ R' st (rep_tup hp R3 (cut_rep r1))
      · cases hs
end
end Ev

namespace Ev
open PySem L2 PyProof.Rows
section
variable {B : Base} {G : Gc} {e : En} {K : PySem.W.Frag} {cl : Str → Option Addr} {W : Wd} {σ : L2.St} {env : List Slot} {S : List Cell}
/-! ### calls of what is built in -/
/-- a call of a known value: g says what comes of the arguments -/
def CallOk (X : Cx) (B : Base) (e : En) (f : Value) (g : List Slot → List Cell → List XD → Option D) : Prop :=
  ∀ (pins : List (Addr × Obj)) (s : Shared) (σ τ : L2.St) (xs : List V) (us : List Value) (W : Wd) (env : List Slot) (S : List Cell) (ds : List XD) (d : D) (Q : VK), L2.Inv X pins σ W.H s → Vals xs us →
    FRel B.K B.cl e W τ env S → RepXL B.K W S.length ds xs → g env S ds = some d →
    (∀ z W', FRel B.K B.cl e W' τ env S → StepW W S.length W' S.length → Rep B.K W'.F W'.ρ S.length d z → Q z W'.H) →
    wpAny (model X.prog X.w) X.A (call f us) (EP X pins σ Q) X.xe s
def eCall (g : List Slot → List Cell → List XD → Option D) (f : AF) : EF := fun env S => (f env S).bind fun xs S1 => match g env S1 xs with
  | some d => .val (.dat d) S1
  | none => .bot
theorem CallOk.callR {X : Cx} {f : Value} {g : List Slot → List Cell → List XD → Option D} (h : CallOk X B e f g) (τ : L2.St) : CallR X f (fun xs H Q => ∃ W env S ds d, W.H = H ∧ FRel B.K B.cl e W τ env S ∧ RepXL B.K W S.length ds xs ∧ g env S ds = some d ∧
    ∀ z W', FRel B.K B.cl e W' τ env S → StepW W S.length W' S.length → Rep B.K W'.F W'.ρ S.length d z → Q z W'.H) := by
  intro pins s σ H xs us Q I rx ⟨W, env, S, ds, d, hH, R, x1, hg, q⟩
  subst hH
  exact h pins s σ τ xs us W env S ds d Q I rx R x1 hg q
theorem eCall_read {wx : WX} {g : List Slot → List Cell → List XD → Option D} {f : AF} {σ : L2.St} {H : Hp} {Q : VK} (h : tE B.K B.cl e wx (eCall g f) σ H Q) :
    tA B.K B.cl e wx f σ H fun xs H1 => ∃ W env S ds d, W.H = H1 ∧ FRel B.K B.cl e W σ env S ∧ RepXL B.K W S.length ds xs ∧ g env S ds = some d ∧
      ∀ z W', FRel B.K B.cl e W' σ env S → StepW W S.length W' S.length → Rep B.K W'.F W'.ρ S.length d z → Q z W'.H := by
  obtain ⟨W, env, S, rfl, R, q⟩ := h
  refine ⟨W, env, S, rfl, R, postG.seq q fun xs S1 vs W1 R1 s1 r1 q1 => ?_⟩
  cases hg : g env S1 xs with
  | none => rw [hg] at q1; exact q1.elim
  | some d => rw [hg] at q1; exact ⟨W1, env, S1, xs, d, rfl, R1, r1, hg, fun z W' R' s' rz => q1 z W' R' s' rz⟩
theorem plCall {x : Str} {p pos : Pos} {a : Expr} {es : List Expr} {kw : List Keyword} : Plain (.Call (.Name x p) (a :: es) kw pos) := ⟨fun _ _ => rfl, fun _ _ => rfl, fun _ _ => rfl, fun _ => rfl, fun _ _ => rfl⟩
theorem sa_star {a : Expr} {es : List Expr} {f : AF} (ha : SA B G e (a :: es) f) (env : Env) : starEach (a :: es) env = (false, eval a env) :: starEach es env := (ha.pl a List.mem_cons_self).ns es env
theorem sa_nostar : ∀ {es : List Expr}, (∀ x ∈ es, Plain x) → ∀ (env : Env) (pos : Pos), (backTo pos (starEach es env)).any (·.1) = false
  | [], _, _, _ => rfl
  | a :: es, h, env, pos => by
    rw [(h a List.mem_cons_self).ns es env]
    have := sa_nostar (fun x hx => h x (List.mem_cons_of_mem _ hx)) env pos
    simpa [backTo] using this
theorem Cxt.gl {X : Cx} {wx : WX} {x : Str} (C : Cxt B.P B.w B.K B.mg B.base G e X wx) (h : G.sc.names.lookup x = some .globalImplicit) : Gl X x := by
  show X.env.scope.names.lookup x = _
  rw [C.sc]; exact h
theorem se_callB {id : String} {x : Str} {a : Expr} {es : List Expr} {p pos : Pos} {g : List Slot → List Cell → List XD → Option D} {f : AF} (ho : ∀ X wx, Cxt B.P B.w B.K B.mg B.base G e X wx → CallOk X B e (.builtin id) g)
    (hm : B.mg x = none) (hv : bootBuiltins x = some (.builtin id)) (ha : SA B G e (a :: es) f) (hg : G.sc.names.lookup x = some .globalImplicit := by rfl) (hn : x ≠ "__name__" := by decide +kernel) (hdb : (x == ("__debug__" : Str)) = false := by decide +kernel) :
    SE B G e (.Call (.Name x p) (a :: es) [] pos) (eCall g f) := by
  refine ⟨fun X wx C => ⟨fun pins s σ H Q I h => ?_⟩, plCall⟩
  exact (pe_callB (CallOk.callR (ho X wx C) σ) (C.gl hg) (by rw [C.mg]; exact hm) hv (ha.run X wx C) hn hdb (sa_star ha X.env) (sa_nostar (fun y hy => ha.pl y (List.mem_cons_of_mem _ hy)) X.env pos)).run pins s σ H Q I (eCall_read h)
theorem se_callTy {T : String} {x : Str} {a : Expr} {es : List Expr} {p pos : Pos} {g : List Slot → List Cell → List XD → Option D} {f : AF} (ho : ∀ X wx, Cxt B.P B.w B.K B.mg B.base G e X wx → CallOk X B e (.type T) g)
    (hm : B.mg x = none) (hv : bootBuiltins x = some (.type T)) (ha : SA B G e (a :: es) f) (hg : G.sc.names.lookup x = some .globalImplicit := by rfl) (hn : x ≠ "__name__" := by decide +kernel) (hdb : (x == ("__debug__" : Str)) = false := by decide +kernel) :
    SE B G e (.Call (.Name x p) (a :: es) [] pos) (eCall g f) := by
  refine ⟨fun X wx C => ⟨fun pins s σ H Q I h => ?_⟩, plCall⟩
  exact (pe_callTy (CallOk.callR (ho X wx C) σ) (C.gl hg) (by rw [C.mg]; exact hm) hv (ha.run X wx C) hn hdb (sa_star ha X.env) (sa_nostar (fun y hy => ha.pl y (List.mem_cons_of_mem _ hy)) X.env pos)).run pins s σ H Q I (eCall_read h)

theorem repXL1 {m : Nat} {x : XD} {vs : List V} (h : RepXL K W m [x] vs) : ∃ v, vs = [v] ∧ RepX K W m x v := by
  obtain ⟨v, r, rfl, h1, rfl⟩ := h
  exact ⟨v, rfl, h1⟩
theorem repXL2 {m : Nat} {x y : XD} {vs : List V} (h : RepXL K W m [x, y] vs) : ∃ v u, vs = [v, u] ∧ RepX K W m x v ∧ RepX K W m y u := by
  obtain ⟨v, r, rfl, h1, u, q, rfl, h2, rfl⟩ := h
  exact ⟨v, u, rfl, h1, h2⟩

/-- len -/
def fLen : List Slot → List Cell → List XD → Option D := fun env S xs => match xs with
  | [.dat (.str z)] => if z.length ≤ sizeLine then some (.int z.length) else none
  | [x] => match seqOf env S x with
    | some (_, ds) => some (.int ds.length)
    | none => none
  | _ => none
theorem ok_len {X : Cx} (hK : X.K = B.K) : CallOk X B e (.builtin "len") fLen := by
  intro pins s σ τ xs us W env S ds d Q I rx R x1 hg k
  unfold fLen at hg
  split at hg
  · split at hg
    · rename_i z hl
      cases hg
      obtain ⟨v, rfl, h1⟩ := repXL1 x1
      refine call_len pins s σ W.H _ us Q I rx ⟨v, z.length, rfl, ?_, k _ W R .refl rfl⟩
      rw [h1.1]
      exact ⟨by simpa [Str.length] using hl, by simp [Str.length]⟩
    · cases hg
  · split at hg
    · rename_i q es hq
      cases hg
      obtain ⟨v, rfl, h1⟩ := repXL1 x1
      obtain ⟨a, vs, rfl, s1, r1⟩ := R.seq h1 hq
      refine call_len pins s σ W.H _ us Q I rx ⟨_, es.length, rfl, ?_, k _ W R .refl rfl⟩
      cases q with
      | l => exact .inl ⟨vs, by rw [hK]; exact s1, r1.length⟩
      | t => exact .inr ⟨vs, by rw [hK]; exact s1, r1.length⟩
    · cases hg
  · cases hg
/-- abs, int, ord, chr, str -/
def fAbs : List Slot → List Cell → List XD → Option D := fun _ _ xs => match xs with
  | [.dat (.int i)] => some (.int (if i < 0 then -i else i))
  | _ => none
theorem ok_abs {X : Cx} : CallOk X B e (.builtin "abs") fAbs := by
  intro pins s σ τ xs us W env S ds d Q I rx R x1 hg k
  unfold fAbs at hg
  split at hg
  · cases hg
    obtain ⟨v, rfl, h1⟩ := repXL1 x1
    exact call_abs pins s σ W.H _ us Q I rx ⟨_, by rw [show v = .int _ from h1], k _ W R .refl rfl⟩
  · cases hg
def fInt : List Slot → List Cell → List XD → Option D := fun _ _ xs => match xs with
  | [.dat (.int i)] => some (.int i)
  | [.dat (.bl b)] => some (.int (if b then 1 else 0))
  | [.dat (.str a)] => if a.length ≤ 640 then (PySem.intText? ⟨a.toArray⟩).map .int else none
  | _ => none
theorem CallR.or {X : Cx} {f : Value} {r r' : List V → Hp → VK → Prop} (h : CallR X f r) (h' : CallR X f r') : CallR X f (fun xs H Q => r xs H Q ∨ r' xs H Q) := fun pins s σ H xs us Q I rx q => q.elim (h pins s σ H xs us Q I rx) (h' pins s σ H xs us Q I rx)
theorem ok_int {X : Cx} : CallOk X B e (.type "int") fInt := by
  intro pins s σ τ xs us W env S ds d Q I rx R x1 hg k
  unfold fInt at hg
  split at hg
  · cases hg
    obtain ⟨v, rfl, h1⟩ := repXL1 x1
    exact call_int1 pins s σ W.H _ us Q I rx (.inl ⟨_, by rw [show v = .int _ from h1], k _ W R .refl rfl⟩)
  · cases hg
    obtain ⟨v, rfl, h1⟩ := repXL1 x1
    exact call_int1 pins s σ W.H _ us Q I rx (.inr ⟨_, by rw [show v = .bl _ from h1], k _ W R .refl rfl⟩)
  · rename_i a
    split at hg
    · rename_i hl
      cases hn : PySem.intText? ⟨a.toArray⟩ with
      | none => rw [hn] at hg; cases hg
      | some n =>
        rw [hn] at hg; cases hg
        obtain ⟨v, rfl, h1⟩ := repXL1 x1
        exact call_int_str pins s σ W.H _ us Q I rx ⟨_, n, by rw [h1.1], hn, by simpa [Str.length] using hl, k _ W R .refl rfl⟩
    · cases hg
  · cases hg
def fOrd : List Slot → List Cell → List XD → Option D := fun _ _ xs => match xs with
  | [.dat (.str [c])] => some (.int (c : Nat))
  | _ => none
theorem ok_ord {X : Cx} : CallOk X B e (.builtin "ord") fOrd := by
  intro pins s σ τ xs us W env S ds d Q I rx R x1 hg k
  unfold fOrd at hg
  split at hg
  · cases hg
    obtain ⟨v, rfl, h1⟩ := repXL1 x1
    rename_i c
    exact call_ord pins s σ W.H _ us Q I rx ⟨⟨#[c]⟩, by rw [h1.1], rfl, k _ W R .refl rfl⟩
  · cases hg
def fChr : List Slot → List Cell → List XD → Option D := fun _ _ xs => match xs with
  | [.dat (.int i)] => if 0 ≤ i ∧ i < 0x110000 then some (.str [i.toNat]) else none
  | _ => none
theorem ok_chr {X : Cx} : CallOk X B e (.builtin "chr") fChr := by
  intro pins s σ τ xs us W env S ds d Q I rx R x1 hg k
  unfold fChr at hg
  split at hg
  · split at hg
    · rename_i i hi
      cases hg
      obtain ⟨v, rfl, h1⟩ := repXL1 x1
      exact call_chr pins s σ W.H _ us Q I rx ⟨_, by rw [show v = .int _ from h1], hi.1, by omega, k _ W R .refl ⟨rfl, by unfold strOk; simp; omega⟩⟩
    · cases hg
  · cases hg
/-- min, max of two ints, or of a list of ints -/
def intsOf : List D → Option (List Int)
  | [] => some []
  | .int i :: ds => (intsOf ds).map (i :: ·)
  | _ :: _ => none
theorem intsOf_eq : ∀ {ds : List D} {ns : List Int}, intsOf ds = some ns → ds = ns.map D.int
  | [], _, h => by cases h; rfl
  | d :: ds, ns, h => by
    cases d with
    | int i =>
      unfold intsOf at h
      cases q : intsOf ds with
      | none => rw [q] at h; cases h
      | some ms => rw [q] at h; cases h; rw [intsOf_eq q]; rfl
    | _ => cases h
@[simp] theorem intsOf_map (ns : List Int) : intsOf (ns.map D.int) = some ns := by
  induction ns with
  | nil => rfl
  | cons n ns ih => unfold intsOf; simp [ih]
def maxI : List Int → Int
  | [] => 0
  | [x] => x
  | x :: xs => max x (maxI xs)
def minI : List Int → Int
  | [] => 0
  | [x] => x
  | x :: xs => min x (minI xs)
theorem maxI_mem : ∀ {xs : List Int}, xs ≠ [] → maxI xs ∈ xs ∧ ∀ y ∈ xs, y ≤ maxI xs
  | [x], _ => by simp [maxI]
  | x :: y :: t, _ => by
    obtain ⟨h1, h2⟩ := maxI_mem (xs := y :: t) (by simp)
    have e : maxI (x :: y :: t) = max x (maxI (y :: t)) := rfl
    rw [e]
    refine ⟨?_, fun z hz => ?_⟩
    · rcases Int.le_total x (maxI (y :: t)) with q | q
      · rw [Int.max_eq_right q]; exact List.mem_cons_of_mem _ h1
      · rw [Int.max_eq_left q]; exact List.mem_cons_self
    · rcases List.mem_cons.mp hz with rfl | hz
      · omega
      · have := h2 z hz; omega
theorem minI_mem : ∀ {xs : List Int}, xs ≠ [] → minI xs ∈ xs ∧ ∀ y ∈ xs, minI xs ≤ y
  | [x], _ => by simp [minI]
  | x :: y :: t, _ => by
    obtain ⟨h1, h2⟩ := minI_mem (xs := y :: t) (by simp)
    have e : minI (x :: y :: t) = min x (minI (y :: t)) := rfl
    rw [e]
    refine ⟨?_, fun z hz => ?_⟩
    · rcases Int.le_total x (minI (y :: t)) with q | q
      · rw [Int.min_eq_left q]; exact List.mem_cons_self
      · rw [Int.min_eq_right q]; exact List.mem_cons_of_mem _ h1
    · rcases List.mem_cons.mp hz with rfl | hz
      · omega
      · have := h2 z hz; omega
def fMax : List Slot → List Cell → List XD → Option D := fun env S xs => match xs with
  | [.dat (.int i), .dat (.int j)] => some (.int (max i j))
  | [x] => match seqOf env S x with
    | some (.l, ds) => match intsOf ds with
      | some (n :: ns) => some (.int (maxI (n :: ns)))
      | _ => none
    | _ => none
  | _ => none
def fMin : List Slot → List Cell → List XD → Option D := fun env S xs => match xs with
  | [.dat (.int i), .dat (.int j)] => some (.int (min i j))
  | [x] => match seqOf env S x with
    | some (.l, ds) => match intsOf ds with
      | some (n :: ns) => some (.int (minI (n :: ns)))
      | _ => none
    | _ => none
  | _ => none
theorem ok_max {X : Cx} (hK : X.K = B.K) (hc : X.calm = true) : CallOk X B e (.builtin "max") fMax := by
  intro pins s σ τ xs us W env S ds d Q I rx R x1 hg k
  unfold fMax at hg
  split at hg
  · rename_i i j
    cases hg
    obtain ⟨v, u, rfl, h1, h2⟩ := repXL2 x1
    refine call_max2 hc pins s σ W.H _ us Q I rx ⟨i, j, by rw [show v = .int _ from h1, show u = .int _ from h2], ?_⟩
    have e : (if j > i then j else i) = max i j := by split <;> omega
    rw [e]
    exact k _ W R .refl rfl
  · split at hg
    · rename_i ds' hq
      split at hg
      · rename_i n ns hn
        cases hg
        obtain ⟨v, rfl, h1⟩ := repXL1 x1
        obtain ⟨a, vs, rfl, s1, r1⟩ := R.seq h1 hq
        rw [intsOf_eq hn] at r1
        have ev := RepL.of_ints r1
        obtain ⟨m1, m2⟩ := maxI_mem (xs := n :: ns) (by simp)
        refine cr_max hc pins s σ W.H _ us Q I rx ⟨a, n :: ns, rfl, by rw [hK, ← ev]; exact s1, by simp, fun m hm hle => ?_⟩
        have e : m = maxI (n :: ns) := Int.le_antisymm (m2 m hm) (hle _ m1)
        rw [e]
        exact k _ W R .refl rfl
      · cases hg
    · cases hg
  · cases hg
theorem ok_min {X : Cx} (hK : X.K = B.K) (hc : X.calm = true) : CallOk X B e (.builtin "min") fMin := by
  intro pins s σ τ xs us W env S ds d Q I rx R x1 hg k
  unfold fMin at hg
  split at hg
  · rename_i i j
    cases hg
    obtain ⟨v, u, rfl, h1, h2⟩ := repXL2 x1
    refine call_min2 hc pins s σ W.H _ us Q I rx ⟨i, j, by rw [show v = .int _ from h1, show u = .int _ from h2], ?_⟩
    have e : (if j < i then j else i) = min i j := by split <;> omega
    rw [e]
    exact k _ W R .refl rfl
  · split at hg
    · rename_i ds' hq
      split at hg
      · rename_i n ns hn
        cases hg
        obtain ⟨v, rfl, h1⟩ := repXL1 x1
        obtain ⟨a, vs, rfl, s1, r1⟩ := R.seq h1 hq
        rw [intsOf_eq hn] at r1
        have ev := RepL.of_ints r1
        obtain ⟨m1, m2⟩ := minI_mem (xs := n :: ns) (by simp)
        refine cr_min hc pins s σ W.H _ us Q I rx ⟨a, n :: ns, rfl, by rw [hK, ← ev]; exact s1, by simp, fun m hm hle => ?_⟩
        have e : m = minI (n :: ns) := Int.le_antisymm (hle _ m1) (m2 m hm)
        rw [e]
        exact k _ W R .refl rfl
      · cases hg
    · cases hg
  · cases hg
/-- sum of a list of ints -/
def fSum : List Slot → List Cell → List XD → Option D := fun env S xs => match xs with
  | [x] => match seqOf env S x with
    | some (.l, ds) => (intsOf ds).map fun ns => .int ns.sum
    | _ => none
  | _ => none
theorem ok_sum {X : Cx} (hK : X.K = B.K) (hc : X.calm = true) : CallOk X B e (.builtin "sum") fSum := by
  intro pins s σ τ xs us W env S ds d Q I rx R x1 hg k
  unfold fSum at hg
  split at hg
  · split at hg
    · rename_i ds' hq
      cases hn : intsOf ds' with
      | none => rw [hn] at hg; cases hg
      | some ns =>
        rw [hn] at hg; cases hg
        obtain ⟨v, rfl, h1⟩ := repXL1 x1
        obtain ⟨a, vs, rfl, s1, r1⟩ := R.seq h1 hq
        rw [intsOf_eq hn] at r1
        have ev := RepL.of_ints r1
        exact cr_sum hc pins s σ W.H _ us Q I rx ⟨a, ns, rfl, by rw [hK, ← ev]; exact s1, k _ W R .refl rfl⟩
    · cases hg
  · cases hg
/-- all, any of a list of truth values -/
def blsOf : List D → Option (List Bool)
  | [] => some []
  | .bl i :: ds => (blsOf ds).map (i :: ·)
  | _ :: _ => none
theorem blsOf_eq {F : Hp} {ρ : Nat → Addr} {m : Nat} : ∀ {ds : List D} {ns : List Bool} {vs : List V}, blsOf ds = some ns → RepL K F ρ m ds vs → vs = ns.map V.bl
  | [], _, _, h, r => by cases h; exact r
  | d :: ds, ns, vs, h, r => by
    cases d with
    | bl i =>
      unfold blsOf at h
      cases q : blsOf ds with
      | none => rw [q] at h; cases h
      | some ms =>
        rw [q] at h; cases h
        obtain ⟨v, t, rfl, h1, h2⟩ := r
        rw [blsOf_eq q h2, show v = .bl i from h1]; rfl
    | _ => cases h
@[simp] theorem blsOf_map (ns : List Bool) : blsOf (ns.map D.bl) = some ns := by
  induction ns with
  | nil => rfl
  | cons n ns ih => unfold blsOf; simp [ih]
def fAll : List Slot → List Cell → List XD → Option D := fun env S xs => match xs with
  | [x] => match seqOf env S x with
    | some (.l, ds) => (blsOf ds).map fun ns => .bl (ns.all id)
    | _ => none
  | _ => none
def fAny : List Slot → List Cell → List XD → Option D := fun env S xs => match xs with
  | [x] => match seqOf env S x with
    | some (.l, ds) => (blsOf ds).map fun ns => .bl (ns.any id)
    | _ => none
  | _ => none
theorem ok_all {X : Cx} (hK : X.K = B.K) (hc : X.calm = true) : CallOk X B e (.builtin "all") fAll := by
  intro pins s σ τ xs us W env S ds d Q I rx R x1 hg k
  unfold fAll at hg
  split at hg
  · split at hg
    · rename_i ds' hq
      cases hn : blsOf ds' with
      | none => rw [hn] at hg; cases hg
      | some ns =>
        rw [hn] at hg; cases hg
        obtain ⟨v, rfl, h1⟩ := repXL1 x1
        obtain ⟨a, vs, rfl, s1, r1⟩ := R.seq h1 hq
        have ev := blsOf_eq hn r1
        exact cr_all hc pins s σ W.H _ us Q I rx ⟨a, ns, rfl, by rw [hK, ← ev]; exact s1, k _ W R .refl rfl⟩
    · cases hg
  · cases hg
theorem ok_any {X : Cx} (hK : X.K = B.K) (hc : X.calm = true) : CallOk X B e (.builtin "any") fAny := by
  intro pins s σ τ xs us W env S ds d Q I rx R x1 hg k
  unfold fAny at hg
  split at hg
  · split at hg
    · rename_i ds' hq
      cases hn : blsOf ds' with
      | none => rw [hn] at hg; cases hg
      | some ns =>
        rw [hn] at hg; cases hg
        obtain ⟨v, rfl, h1⟩ := repXL1 x1
        obtain ⟨a, vs, rfl, s1, r1⟩ := R.seq h1 hq
        have ev := blsOf_eq hn r1
        exact cr_any hc pins s σ W.H _ us Q I rx ⟨a, ns, rfl, by rw [hK, ← ev]; exact s1, k _ W R .refl rfl⟩
    · cases hg
  · cases hg
/-- list(x), tuple(x) of a list or tuple -/
def fList : List Slot → List Cell → List XD → Option D := fun env S xs => match xs with
  | [x] => match seqOf env S x with
    | some (_, ds) => some (.lst ds)
    | none => none
  | _ => none
theorem ok_list {X : Cx} (hK : X.K = B.K) : CallOk X B e (.type "list") fList := by
  intro pins s σ τ xs us W env S ds d Q I rx R x1 hg k
  unfold fList at hg
  split at hg
  · split at hg
    · rename_i q es hq
      cases hg
      obtain ⟨v, rfl, h1⟩ := repXL1 x1
      obtain ⟨a, vs, rfl, s1, r1⟩ := R.seq h1 hq
      refine call_list_of pins s σ W.H _ us Q I rx ⟨_, vs, rfl, ?_, fun p hp => ?_⟩
      · cases q with
        | l => exact .inl (by rw [hK]; exact s1)
        | t => exact .inr (by rw [hK]; exact s1)
      · obtain ⟨R', st⟩ := R.alloc hp (.lst vs)
        exact k _ _ R' st (rep_lst hp R r1)
    · cases hg
  · cases hg
def fTuple : List Slot → List Cell → List XD → Option D := fun env S xs => match xs with
  | [x] => match seqOf env S x with
    | some (_, ds) => some (.tup ds)
    | none => none
  | _ => none
theorem seqOf_tup {x : XD} {ds : List D} (h : seqOf env S x = some (.t, ds)) : x = .dat (.tup ds) := by
  cases x with
  | loc i => simp only [seqOf] at h; split at h <;> cases h
  | dat d =>
    cases d with
    | tup es => cases h; rfl
    | own n => simp only [seqOf] at h; split at h <;> cases h
    | _ => cases h
theorem ok_tuple {X : Cx} (hK : X.K = B.K) : CallOk X B e (.type "tuple") fTuple := by
  intro pins s σ τ xs us W env S ds d Q I rx R x1 hg k
  unfold fTuple at hg
  split at hg
  · split at hg
    · rename_i q es hq
      cases hg
      obtain ⟨v, rfl, h1⟩ := repXL1 x1
      obtain ⟨a, vs, rfl, s1, r1⟩ := R.seq h1 hq
      cases q with
      | l =>
        refine call_tuple_of pins s σ W.H _ us Q I rx ⟨_, vs, rfl, .inl ⟨by rw [hK]; exact s1, fun p hp => ?_⟩⟩
        obtain ⟨R', st⟩ := R.alloc hp (.tup vs)
        exact k _ _ R' st (rep_tup hp R r1)
      | t =>
        refine call_tuple_of pins s σ W.H _ us Q I rx ⟨_, vs, rfl, .inr ⟨by rw [hK]; exact s1, ?_⟩⟩
        have := seqOf_tup hq
        subst this
        exact k _ W R .refl h1
    · cases hg
  · cases hg
end
end Ev

namespace Ev
open PySem L2 PyProof.Rows
/-! ### statements -/
inductive SOut where
  | nx (env : List Slot) (S : List Cell) | rt (d : D) (S : List Cell) | bk (env : List Slot) (S : List Cell) | ct (env : List Slot) (S : List Cell)
  | exc (c : Str) (p : D) (env : List Slot) (S : List Cell) | bot
abbrev SF := List Slot → List Cell → SOut
structure StepF (W : Wd) (m : Nat) (W' : Wd) (m' : Nat) : Prop where
  fs : Same W.F W'.F
  rr : ∀ n, n < m → W'.ρ n = W.ρ n
  le : m ≤ m'
  fz : ∀ b od u, W.H b = some (.frz od u) → W'.H b = some (.frz od u)
theorem StepF.refl {W : Wd} {m : Nat} : StepF W m W m := ⟨Same.refl _, fun _ _ => rfl, Nat.le_refl _, fun _ _ _ h => h⟩
theorem StepF.trans {W W1 W2 : Wd} {m m1 m2 : Nat} (a : StepF W m W1 m1) (b : StepF W1 m1 W2 m2) : StepF W m W2 m2 :=
  ⟨a.fs.trans b.fs, fun n h => by rw [b.rr n (Nat.lt_of_lt_of_le h a.le), a.rr n h], Nat.le_trans a.le b.le, fun c od u h => b.fz c od u (a.fz c od u h)⟩
theorem StepW.f {W W' : Wd} {m m' : Nat} (s : StepW W m W' m') : StepF W m W' m' := ⟨s.1.fs, s.1.rr, s.1.le, s.1.fz⟩
theorem Rep.stepF {K : PySem.W.Frag} {W W' : Wd} {m m' : Nat} {d : D} {v : V} (h : Rep K W.F W.ρ m d v) (s : StepF W m W' m') : Rep K W'.F W'.ρ m' d v := Rep.mono s.fs s.rr s.le d v h
def postS (K : PySem.W.Frag) (cl : Str → Option Addr) (e : En) (wx : WX) (W : Wd) (S : List Cell) (D : Ends) : SOut → Prop
  | .nx env' S' => ∀ σ' W', FRel K cl e W' σ' env' S' → StepF W S.length W' S'.length → D.nx σ' W'.H
  | .rt d S' => ∀ v σ' W' env', FRel K cl e W' σ' env' S' → StepF W S.length W' S'.length → Rep K W'.F W'.ρ S'.length d v → D.rt v W'.H
  | .bk env' S' => ∀ σ' W', FRel K cl e W' σ' env' S' → StepF W S.length W' S'.length → D.bk σ' W'.H
  | .ct env' S' => ∀ σ' W', FRel K cl e W' σ' env' S' → StepF W S.length W' S'.length → D.ct σ' W'.H
  | .exc c p env' S' => ∀ cls dx σ' W', FRel K cl e W' σ' env' S' → StepF W S.length W' S'.length → ExcAt K cl e.H W' S'.length c p cls dx → wx cls dx σ' W'.H
  | .bot => False
section
variable {K : PySem.W.Frag} {cl : Str → Option Addr} {e : En} {wx : WX} {W W1 : Wd} {σ : L2.St} {env : List Slot} {S S1 : List Cell} {D : Ends}
theorem postS.shift {o : SOut} (q : postS K cl e wx W S D o) (s : StepF W S.length W1 S1.length) : postS K cl e wx W1 S1 D o := by
  cases o with
  | nx env' S' => exact fun σ' W' R' s' => q σ' W' R' (s.trans s')
  | rt d S' => exact fun v σ' W' env' R' s' r => q v σ' W' env' R' (s.trans s') r
  | bk env' S' => exact fun σ' W' R' s' => q σ' W' R' (s.trans s')
  | ct env' S' => exact fun σ' W' R' s' => q σ' W' R' (s.trans s')
  | exc c p env' S' => exact fun cls dx σ' W' R' s' r => q cls dx σ' W' R' (s.trans s') r
  | bot => exact q
/-- an expression's outcome, then a statement's end -/
def Out.then {α : Type} (env : List Slot) (x : Out α) (f : α → List Cell → SOut) : SOut := match x with
  | .val a S => f a S
  | .exc c p S => .exc c p env S
  | .bot => .bot
@[simp] theorem then_val {α : Type} (env : List Slot) (a : α) (S : List Cell) (f : α → List Cell → SOut) : (Out.val a S).then env f = f a S := rfl
@[simp] theorem then_exc {α : Type} (env : List Slot) (c : Str) (p : Ev.D) (S : List Cell) (f : α → List Cell → SOut) : (Out.exc c p S : Out α).then env f = .exc c p env S := rfl
@[simp] theorem then_bot {α : Type} (env : List Slot) (f : α → List Cell → SOut) : (Out.bot : Out α).then env f = .bot := rfl
theorem postS.then {α β : Type} {rel : Wd → Nat → α → β → Prop} {Q' : β → Hp → Prop} {o : Out α} {k : α → List Cell → SOut} (q : postS K cl e wx W S D (o.then env k))
    (h : ∀ x S1 v W1, FRel K cl e W1 σ env S1 → StepW W S.length W1 S1.length → rel W1 S1.length x v → postS K cl e wx W1 S1 D (k x S1) → Q' v W1.H) : postG rel K cl e wx W σ env S Q' o := by
  cases o with
  | val x S' => exact fun v W' R' s' r => h x S' v W' R' s' r (postS.shift q s'.f)
  | exc c p S' => exact fun cls dx W' R' s' r => q cls dx σ W' R' s'.f r
  | bot => exact q
end
def tS (K : PySem.W.Frag) (cl : Str → Option Addr) (e : En) (wx : WX) (f : SF) : TS := fun D σ H => ∃ W env S, W.H = H ∧ FRel K cl e W σ env S ∧ postS K cl e wx W S D (f env S)
structure SS (B : Base) (G : Gc) (e : En) (st : Stmt) (f : SF) : Prop where
  run : ∀ X wx, Cxt B.P B.w B.K B.mg B.base G e X wx → PS X st (tS B.K B.cl e wx f)
structure SB (B : Base) (G : Gc) (e : En) (st : List Stmt) (f : SF) : Prop where
  run : ∀ X wx, Cxt B.P B.w B.K B.mg B.base G e X wx → PSs X st (tS B.K B.cl e wx f)
section
variable {B : Base} {G : Gc} {e : En} {K : PySem.W.Frag} {cl : Str → Option Addr} {W : Wd} {σ : L2.St} {env : List Slot} {S : List Cell}
def sNx : SF := fun env S => .nx env S
def sSeq (f g : SF) : SF := fun env S => match f env S with
  | .nx env' S' => g env' S'
  | o => o
theorem sb_nil : SB B G e [] sNx := ⟨fun X wx C => PSs.imp pss_nil fun D σ H ⟨W, env, S, hH, R, q⟩ => by subst hH; exact q σ W R .refl⟩
theorem seq_read {wx : WX} {f g : SF} {D : Ends} {σ : L2.St} {H : Hp} (h : tS B.K B.cl e wx (sSeq f g) D σ H) : tS B.K B.cl e wx f { D with nx := tS B.K B.cl e wx g D } σ H := by
  obtain ⟨W, env, S, rfl, R, q⟩ := h
  refine ⟨W, env, S, rfl, R, ?_⟩
  unfold sSeq at q
  cases hf : f env S with
  | nx env' S' =>
    rw [hf] at q
    exact fun σ' W' R' s' => ⟨W', env', S', rfl, R', postS.shift q s'⟩
  | rt d S' => rw [hf] at q; exact q
  | bk env' S' => rw [hf] at q; exact q
  | ct env' S' => rw [hf] at q; exact q
  | exc c p env' S' => rw [hf] at q; exact q
  | bot => rw [hf] at q; exact q
theorem sb_cons {st : Stmt} {r : List Stmt} {f g : SF} (h : SS B G e st f) (hr : SB B G e r g) : SB B G e (st :: r) (sSeq f g) :=
  ⟨fun X wx C => PSs.imp (pss_cons (h.run X wx C) (hr.run X wx C)) fun D σ H h => seq_read h⟩
theorem sb_one {st : Stmt} {f : SF} (h : SS B G e st f) : SB B G e [st] f := ⟨fun X wx C => pss_one (h.run X wx C)⟩
theorem ss_pass {pos : Pos} : SS B G e (.Pass pos) sNx := ⟨fun X wx C => PS.imp ps_pass fun D σ H ⟨W, env, S, hH, R, q⟩ => by subst hH; exact q σ W R .refl⟩
theorem ss_break {pos : Pos} : SS B G e (.Break pos) (fun env S => .bk env S) := ⟨fun X wx C => PS.imp ps_break fun D σ H ⟨W, env, S, hH, R, q⟩ => by subst hH; exact q σ W R .refl⟩
theorem ss_continue {pos : Pos} : SS B G e (.Continue pos) (fun env S => .ct env S) := ⟨fun X wx C => PS.imp ps_continue fun D σ H ⟨W, env, S, hH, R, q⟩ => by subst hH; exact q σ W R .refl⟩
/-- code that is never come to -/
theorem ss_never {st : Stmt} : SS B G e st (fun _ _ => .bot) := ⟨fun X wx C => PS.imp ps_never fun D σ H ⟨W, env, S, hH, R, q⟩ => q⟩
theorem sb_never {st : List Stmt} : SB B G e st (fun _ _ => .bot) := ⟨fun X wx C => PSs.imp pss_never fun D σ H ⟨W, env, S, hH, R, q⟩ => q⟩
def sRet (f : EF) : SF := fun env S => (f env S).then env fun x S1 => match x with
  | .dat d => .rt d S1
  | .loc _ => .bot
theorem ss_ret {a : Expr} {f : EF} {pos : Pos} (ha : SE B G e a f) : SS B G e (.Return (some a) pos) (sRet f) := by
  refine ⟨fun X wx C => PS.imp (ps_ret (ha.run X wx C)) fun D σ H ⟨W, env, S, hH, R, q⟩ => ⟨W, env, S, hH, R, postS.then q fun x S1 v W1 R1 s1 r1 q1 => ?_⟩⟩
  cases x with
  | loc i => exact q1.elim
  | dat d => exact q1 v σ W1 env R1 .refl r1
theorem ss_retN {pos : Pos} : SS B G e (.Return none pos) (fun _ S => .rt .non S) := ⟨fun X wx C => PS.imp ps_retN fun D σ H ⟨W, env, S, hH, R, q⟩ => by subst hH; exact q _ σ W env R .refl rfl⟩
def sEx (f : EF) : SF := fun env S => (f env S).then env fun _ S1 => .nx env S1
theorem ss_ex {a : Expr} {f : EF} {pos : Pos} (ha : SE B G e a f) (hs : ∀ l env, swapsWith a none l env = pure false := by intro _ _; rfl) : SS B G e (.Expr a pos) (sEx f) :=
  ⟨fun X wx C => PS.imp (ps_expr (ha.run X wx C) (hs _ _)) fun D σ H ⟨W, env, S, hH, R, q⟩ => ⟨W, env, S, hH, R, postS.then q fun x S1 v W1 R1 s1 r1 q1 => q1 σ W1 R1 .refl⟩⟩
theorem ss_doc {x j pos pos'} : SS B G e (.Expr (.Constant (.str x) j pos) pos') sNx := ⟨fun X wx C => PS.imp ps_doc fun D σ H ⟨W, env, S, hH, R, q⟩ => by subst hH; exact q σ W R .refl⟩
def sIf (c : TF) (f g : SF) : SF := fun env S => (c env S).then env fun b S1 => if b = true then f env S1 else g env S1
theorem ss_if {c : Expr} {a b : List Stmt} {tc : TF} {f g : SF} {pos : Pos} (hc : ST B G e c tc) (ha : SB B G e a f) (hb : SB B G e b g) : SS B G e (.If c a b pos) (sIf tc f g) := by
  refine ⟨fun X wx C => PS.imp (ps_if (hc.run X wx C) (ha.run X wx C) (hb.run X wx C)) fun D σ H ⟨W, env, S, hH, R, q⟩ => ⟨W, env, S, hH, R, postS.then q fun k S1 k' W1 R1 s1 r1 q1 => ?_⟩⟩
  subst r1
  cases k' with
  | true => exact ⟨W1, env, S1, rfl, R1, q1⟩
  | false => exact ⟨W1, env, S1, rfl, R1, q1⟩

/-! ### storing a slot -/
theorem FRel.set (R : FRel K cl e W σ env S) {i : Nat} {v : V} {d : D} (r : Rep K W.F W.ρ S.length d v) : FRel K cl e W (σ.set i (some v)) (env.set i (.val d)) S := by
  refine ⟨R.sub, R.glob, R.inj, by rw [List.length_set, List.length_set]; exact R.len, fun j d' h => ?_, fun j c h => ?_, fun j k c c' h1 h2 => ?_, R.ext, R.err_set (fun _ _ z => nomatch z)⟩
  · by_cases hj : i = j
    · subst hj
      by_cases hl : i < env.length
      · rw [List.getElem?_set_self hl] at h
        cases h
        exact ⟨v, by rw [List.getElem?_set_self (by rw [R.len]; exact hl)], r⟩
      · rw [List.getElem?_eq_none (by simpa using Nat.not_lt.mp hl)] at h; cases h
    · rw [List.getElem?_set_ne hj] at h
      rw [List.getElem?_set_ne hj]
      exact R.val j d' h
  · by_cases hj : i = j
    · subst hj
      by_cases hl : i < env.length
      · rw [List.getElem?_set_self hl] at h; cases h
      · rw [List.getElem?_eq_none (by simpa using Nat.not_lt.mp hl)] at h; cases h
    · rw [List.getElem?_set_ne hj] at h
      rw [List.getElem?_set_ne hj]
      exact R.loc j c h
  · have old : ∀ {j : Nat} {c : Cell}, (env.set i (.val d))[j]? = some (.loc c) → env[j]? = some (.loc c) := fun {j c} h => by
      by_cases hj : i = j
      · subst hj
        by_cases hl : i < env.length
        · rw [List.getElem?_set_self hl] at h; cases h
        · rw [List.getElem?_eq_none (by simpa using Nat.not_lt.mp hl)] at h; cases h
      · rwa [List.getElem?_set_ne hj] at h
    exact R.linj j k c c' (old h1) (old h2)
theorem plus_f {m : Nat} : StepF W m W m := .refl
/-- x = e: data -/
def sSet (i : Nat) (f : EF) : SF := fun env S => (f env S).then env fun x S1 => match x with
  | .dat d => .nx (env.set i (.val d)) S1
  | .loc _ => .bot
theorem ss_set (i : Nat) {x : Str} {a : Expr} {f : EF} {pos pos' : Pos} (ha : SE B G e a f) (hN : G.N[i]? = some x := by rfl) (hv : Loc G.sc x := by first | exact Or.inl rfl | exact Or.inr rfl)
    (hs : ∀ t l env, swapsWith a t l env = pure false := by intro _ _ _; rfl) (hf : G.fn x = true := by rfl) : SS B G e (.Assign [.Name x pos'] a pos) (sSet i f) := by
  refine ⟨fun X wx C => PS.imp (ps_set (by rw [C.N]; exact C.nd) (by rw [C.N]; exact hN) (by rw [C.sc]; exact hv) (ha.run X wx C) (hs _ _ _) (by rw [C.sc]; exact C.fn x hf)) fun D σ H ⟨W, env, S, hH, R, q⟩ =>
    ⟨W, env, S, hH, R, postS.then q fun x S1 v W1 R1 s1 r1 q1 => ?_⟩⟩
  cases x with
  | loc i => exact q1.elim
  | dat d => exact q1 _ W1 (R1.set r1) .refl
/-! ### targets -/
abbrev GF := D → List Slot → List Cell → Option (List Slot)
abbrev GFs := List D → List Slot → List Cell → Option (List Slot)
/-- but at the places of ix all slots stand -/
def Off (ix : List Nat) (σ σ' : L2.St) : Prop := σ'.length = σ.length ∧ ∀ j : Nat, j ∉ ix → σ'[j]? = σ[j]?
theorem Off.refl {ix : List Nat} {σ : L2.St} : Off ix σ σ := ⟨rfl, fun _ _ => rfl⟩
theorem Off.trans {ix iy : List Nat} {σ σ1 σ2 : L2.St} (a : Off ix σ σ1) (b : Off iy σ1 σ2) : Off (ix ++ iy) σ σ2 :=
  ⟨b.1.trans a.1, fun j h => (b.2 j fun z => h (List.mem_append_right _ z)).trans (a.2 j fun z => h (List.mem_append_left _ z))⟩
def tG (K : PySem.W.Frag) (cl : Str → Option Addr) (e : En) (g : GF) (ix : List Nat) : TG := fun v σ H Q => ∃ W env S d env', W.H = H ∧ FRel K cl e W σ env S ∧ Rep K W.F W.ρ S.length d v ∧ g d env S = some env' ∧ ∀ σ', Off ix σ σ' → FRel K cl e W σ' env' S → Q σ' W.H
def tGs (K : PySem.W.Frag) (cl : Str → Option Addr) (e : En) (g : GFs) (ix : List Nat) : TGs := fun vs σ H Q => ∃ W env S ds env', W.H = H ∧ FRel K cl e W σ env S ∧ RepL K W.F W.ρ S.length ds vs ∧ g ds env S = some env' ∧ ∀ σ', Off ix σ σ' → FRel K cl e W σ' env' S → Q σ' W.H
structure SG (B : Base) (G : Gc) (e : En) (tg : Expr) (g : GF) (ix : List Nat) : Prop where
  run : ∀ X wx, Cxt B.P B.w B.K B.mg B.base G e X wx → PG X tg (tG B.K B.cl e g ix)
  ae : ∀ es env, (assignEach (tg :: es) env) = (false, assign tg env) :: assignEach es env
structure SGs (B : Base) (G : Gc) (e : En) (tgs : List Expr) (g : GFs) (ix : List Nat) : Prop where
  run : ∀ X wx, Cxt B.P B.w B.K B.mg B.base G e X wx → PGs X tgs (tGs B.K B.cl e g ix)
  ae : ∀ env, (assignEach tgs env) = tgs.map fun t => (false, assign t env)
theorem PG.imp {X : Cx} {t : Expr} {g g' : TG} (h : PG X t g) (i : ∀ v σ H Q, g' v σ H Q → g v σ H Q) : PG X t g' := ⟨fun pins s σ H v u Q I r q => h.run pins s σ H v u Q I r (i _ _ _ _ q)⟩
theorem PGs.imp {X : Cx} {t : List Expr} {g g' : TGs} (h : PGs X t g) (i : ∀ v σ H Q, g' v σ H Q → g v σ H Q) : PGs X t g' := ⟨fun pins s σ H v u Q I r q => h.run pins s σ H v u Q I r (i _ _ _ _ q)⟩
def gN (i : Nat) : GF := fun d env _ => some (env.set i (.val d))
theorem sg_name (i : Nat) {x : Str} {pos : Pos} (hN : G.N[i]? = some x := by rfl) (hv : Loc G.sc x := by first | exact Or.inl rfl | exact Or.inr rfl) (hf : G.fn x = true := by rfl) : SG B G e (.Name x pos) (gN i) [i] := by
  refine ⟨fun X wx C => PG.imp (pg_name (by rw [C.N]; exact C.nd) (by rw [C.N]; exact hN) (by rw [C.sc]; exact hv) (by rw [C.sc]; exact C.fn x hf)) fun v σ H Q ⟨W, env, S, d, env', hH, R, r, hg, q⟩ => ?_, fun _ _ => rfl⟩
  subst hH
  cases hg
  exact q _ ⟨List.length_set, fun j hj => List.getElem?_set_ne fun z => hj (by rw [z]; exact List.mem_cons_self)⟩ (R.set r)
def gNl : GFs := fun ds env _ => match ds with
  | [] => some env
  | _ => none
def gCs (g : GF) (r : GFs) : GFs := fun ds env S => match ds with
  | d :: ds => match g d env S with
    | some env' => r ds env' S
    | none => none
  | [] => none
theorem sgs_nil : SGs B G e [] gNl [] := by
  refine ⟨fun X wx C => PGs.imp pgs_nil fun v σ H Q ⟨W, env, S, ds, env', hH, R, r, hg, q⟩ => ?_, fun _ => rfl⟩
  subst hH
  cases ds with
  | nil => cases hg; cases r; exact ⟨rfl, q _ .refl R⟩
  | cons d ds => cases hg
theorem sgs_cons {t : Expr} {ts : List Expr} {g : GF} {r : GFs} {ix iy : List Nat} (h : SG B G e t g ix) (hr : SGs B G e ts r iy) : SGs B G e (t :: ts) (gCs g r) (ix ++ iy) := by
  refine ⟨fun X wx C => PGs.imp (pgs_cons (h.run X wx C) (hr.run X wx C) (by rw [h.ae]; rfl)) fun vs σ H Q ⟨W, env, S, ds, env', hH, R, rr, hg, q⟩ => ?_, fun env => by rw [h.ae, hr.ae]; rfl⟩
  subst hH
  cases ds with
  | nil => cases hg
  | cons d ds =>
    obtain ⟨v, vr, rfl, r1, r2⟩ := rr
    unfold gCs at hg
    dsimp only at hg
    cases h1 : g d env S with
    | none => rw [h1] at hg; cases hg
    | some env1 =>
      rw [h1] at hg
      exact ⟨v, vr, rfl, W, env, S, d, env1, rfl, R, r1, h1, fun σ' o R' => ⟨W, env1, S, ds, env', rfl, R', r2, hg, fun σ2 o2 R2 => q σ2 (o.trans o2) R2⟩⟩
def gT (n : Nat) (g : GFs) : GF := fun d env S => match d with
  | .tup ds => if ds.length = n then g ds env S else none
  | _ => none
theorem sg_tup {ts : List Expr} {k : Nat} {g : GFs} {ix : List Nat} {pos : Pos} (h : SGs B G e ts g ix) (hc : G.calm = true := by rfl) : SG B G e (.Tuple ts k pos) (gT ts.length g) ix := by
  refine ⟨fun X wx C => ?_, fun _ _ => rfl⟩
  have e1 : (assignEach ts X.env).length = ts.length := by rw [h.ae, List.length_map]
  have e2 : (assignEach ts X.env).findIdx? (·.1) = none := by
    rw [h.ae, List.findIdx?_eq_none_iff]
    intro x hx
    obtain ⟨t, _, rfl⟩ := List.mem_map.mp hx
    rfl
  refine PG.imp (pg_tup (C.calm hc) (h.run X wx C) e1 e2) fun v σ H Q ⟨W, env, S, d, env', hH, R, r, hg, q⟩ => ?_
  subst hH
  unfold gT at hg
  split at hg
  · split at hg
    · rename_i ds hl
      obtain ⟨a, vs, rfl, s1, r1⟩ := r
      exact ⟨a, vs, rfl, by rw [C.K]; exact Same.sqT R.sub s1, by rw [← r1.length]; exact hl, W, env, S, ds, env', rfl, R, r1, hg, q⟩
    · cases hg
  · cases hg
/-- target = e -/
def sAsg (f : EF) (g : GF) : SF := fun env S => (f env S).then env fun x S1 => match x with
  | .dat d => match g d env S1 with
    | some env' => .nx env' S1
    | none => .bot
  | .loc _ => .bot
theorem ss_asg {a t : Expr} {f : EF} {g : GF} {ix : List Nat} {pos : Pos} (ha : SE B G e a f) (hg : SG B G e t g ix) (hs : ∀ l env, swapsWithSole [t] a l env = pure false := by intro _ _; rfl) (hw : ∀ env : PySem.Env, env.scope = G.sc → swappedStores [t] a env = pure none := by intro env h; first | rfl | (cases env; cases h; rfl)) :
    SS B G e (.Assign [t] a pos) (sAsg f g) := by
  refine ⟨fun X wx C => PS.imp (ps_asg (ha.run X wx C) (hg.run X wx C) (hs _ _) (hw _ C.sc) (by rw [hg.ae]; rfl)) fun D σ H ⟨W, env, S, hH, R, q⟩ => ⟨W, env, S, hH, R, postS.then q fun x S1 v W1 R1 s1 r1 q1 => ?_⟩⟩
  cases x with
  | loc i => exact q1.elim
  | dat d =>
    have q1 : postS B.K B.cl e wx W1 S1 D (match g d env S1 with | some env' => .nx env' S1 | none => .bot) := q1
    cases h1 : g d env S1 with
    | none => rw [h1] at q1; exact q1.elim
    | some env' =>
      rw [h1] at q1
      exact ⟨W1, env, S1, d, env', rfl, R1, r1, h1, fun σ' _ R' => q1 σ' W1 R' .refl⟩
end
end Ev

namespace Ev
open PySem L2 PyProof.Rows
section
variable {B : Base} {G : Gc} {e : En} {K : PySem.W.Frag} {cl : Str → Option Addr} {W : Wd} {σ : L2.St} {env : List Slot} {S : List Cell}
/-! ### while -/
def whileF (c : TF) (b : SF) : Nat → SF
  | 0, _, _ => .bot
  | n + 1, env, S => (c env S).then env fun k S1 => if k = true then (match b env S1 with
      | .nx env' S' => whileF c b n env' S'
      | .ct env' S' => whileF c b n env' S'
      | .bk env' S' => .nx env' S'
      | o => o) else .nx env S1
theorem ss_while (n : Nat) {c : Expr} {b : List Stmt} {tc : TF} {f : SF} {pos : Pos} (hc : ST B G e c tc) (hb : SB B G e b f) : SS B G e (.While c b [] pos) (whileF tc f n) := by
  refine ⟨fun X wx C => PS.imp (ps_while C.pass (hc.run X wx C) (hb.run X wx C)) fun D σ H ⟨W, env, S, hH, R, q⟩ => ?_⟩
  refine ⟨fun m σ H => ∃ W env S, W.H = H ∧ FRel B.K B.cl e W σ env S ∧ postS B.K B.cl e wx W S D (whileF tc f m env S), ⟨n, W, env, S, hH, R, q⟩, fun m σ H ⟨W, env, S, hH, R, q⟩ => ?_⟩
  cases m with
  | zero => exact q.elim
  | succ m =>
    refine ⟨W, env, S, hH, R, postS.then q fun k S1 k' W1 R1 s1 r1 q1 => ?_⟩
    subst r1
    cases k' with
    | false => exact q1 σ W1 R1 .refl
    | true =>
      refine ⟨fun σ' H' => ∃ W env S, W.H = H' ∧ FRel B.K B.cl e W σ' env S ∧ postS B.K B.cl e wx W S D (whileF tc f m env S), fun σ' H' h => ⟨m, Nat.lt_succ_self m, h⟩, W1, env, S1, rfl, R1, ?_⟩
      have q1 : postS B.K B.cl e wx W1 S1 D (match f env S1 with | .nx env' S' => whileF tc f m env' S' | .ct env' S' => whileF tc f m env' S' | .bk env' S' => .nx env' S' | o => o) := q1
      cases hf : f env S1 with
      | nx env' S' => rw [hf] at q1; exact fun σ' W' R' s' => ⟨W', env', S', rfl, R', postS.shift q1 s'⟩
      | ct env' S' => rw [hf] at q1; exact fun σ' W' R' s' => ⟨W', env', S', rfl, R', postS.shift q1 s'⟩
      | bk env' S' => rw [hf] at q1; exact q1
      | rt d S' => rw [hf] at q1; exact q1
      | exc c p env' S' => rw [hf] at q1; exact q1
      | bot => rw [hf] at q1; exact q1

/-! ### what is walked -/
inductive Wk where
  | sq (d : D) | rng (lo : Int) (n : Nat) | txt (z : List Nat)
abbrev WF := List Slot → List Cell → Out Wk
def IsWk (K : PySem.W.Frag) (W : Wd) (m : Nat) (J : It) : Wk → Prop
  | .sq d => ∃ a, Rep K W.F W.ρ m d (.ref a) ∧ (match d with
    | .tup _ => J = Itt K a
    | _ => J = Itl K a)
  | .rng lo n => J = Itr lo n
  | .txt z => J = Its ⟨z.toArray⟩ ∧ strOk z = true
theorem IsWk.stepF {W W' : Wd} {m m' : Nat} {J : It} {w : Wk} (h : IsWk K W m J w) (s : StepF W m W' m') : IsWk K W' m' J w := by
  cases w with
  | sq d => obtain ⟨a, r, q⟩ := h; exact ⟨a, Rep.stepF r s, q⟩
  | rng lo n => exact h
  | txt z => exact h
/-- how many there are (as it begins), and the i-th (some none: it is over) -/
def wkLen (S : List Cell) : Wk → Nat
  | .sq d => match seqOf [] S (.dat d) with | some (_, ds) => ds.length | none => 0
  | .rng _ n => n
  | .txt z => z.length
def wkAt (S : List Cell) (i : Nat) : Wk → Option (Option D)
  | .sq d => match seqOf [] S (.dat d) with
    | some (_, ds) => some ds[i]?
    | none => none
  | .rng lo n => if i < n then some (some (.int (lo + i))) else some none
  | .txt z => some (z[i]?.map fun c => .str [c])
theorem wk_stop {m : Nat} {J : It} {w : Wk} {i : Nat} (R : FRel K cl e W σ env S) (h : IsWk K W S.length J w) (hw : wkAt S i w = some none) : J.stop i W.H := by
  cases w with
  | sq d =>
    obtain ⟨a, r, q⟩ := h
    simp only [wkAt] at hw
    cases hs : seqOf [] S (.dat d) with
    | none => rw [hs] at hw; cases hw
    | some p =>
      obtain ⟨k, ds⟩ := p
      rw [hs] at hw
      have hn : ds[i]? = none := by simpa using hw
      have hs' : seqOf env S (.dat d) = some (k, ds) := by cases d <;> exact hs
      obtain ⟨a', vs, e1, s1, r1⟩ := R.seq (x := .dat d) r hs'
      cases e1
      have hl : vs.length ≤ i := by rw [← r1.length]; exact List.getElem?_eq_none_iff.mp hn
      cases k with
      | l =>
        have : J = Itl K a := by cases d <;> first | exact q | (simp only [seqOf] at hs; cases hs)
        subst this
        exact ⟨vs, s1, hl⟩
      | t =>
        have := seqOf_tup hs'
        cases this
        subst q
        exact ⟨vs, s1, hl⟩
  | rng lo n =>
    have : J = Itr lo n := h
    subst this
    simp only [wkAt] at hw
    split at hw
    · cases hw
    · exact Nat.not_lt.mp (by assumption)
  | txt z =>
    obtain ⟨rfl, _⟩ := h
    simp only [wkAt] at hw
    cases hz : z[i]? with
    | none => show z.toArray.size ≤ i; rw [List.size_toArray]; exact List.getElem?_eq_none_iff.mp hz
    | some c => rw [hz] at hw; cases hw
theorem wk_go {J : It} {w : Wk} {i : Nat} {d : D} (R : FRel K cl e W σ env S) (h : IsWk K W S.length J w) (hw : wkAt S i w = some (some d)) :
    J.go i W.H ∧ ∀ x H', J.yld i W.H x H' → H' = W.H ∧ Rep K W.F W.ρ S.length d x := by
  cases w with
  | sq dd =>
    obtain ⟨a, r, q⟩ := h
    simp only [wkAt] at hw
    cases hs : seqOf [] S (.dat dd) with
    | none => rw [hs] at hw; cases hw
    | some p =>
      obtain ⟨k, ds⟩ := p
      rw [hs] at hw
      have hn : ds[i]? = some d := by simpa using hw
      have hs' : seqOf env S (.dat dd) = some (k, ds) := by cases dd <;> exact hs
      obtain ⟨a', vs, e1, s1, r1⟩ := R.seq (x := .dat dd) r hs'
      cases e1
      obtain ⟨v, hv, rv⟩ := r1.get hn
      cases k with
      | l =>
        have : J = Itl K a := by cases dd <;> first | exact q | (simp only [seqOf] at hs; cases hs)
        subst this
        refine ⟨⟨vs, v, s1, hv⟩, fun x H' ⟨e1, hx⟩ => ⟨e1, ?_⟩⟩
        have := hx vs s1
        rw [hv] at this; cases this; exact rv
      | t =>
        have := seqOf_tup hs'
        cases this
        subst q
        refine ⟨⟨vs, v, s1, hv⟩, fun x H' ⟨e1, hx⟩ => ⟨e1, ?_⟩⟩
        have := hx vs s1
        rw [hv] at this; cases this; exact rv
  | rng lo n =>
    have : J = Itr lo n := h
    subst this
    simp only [wkAt] at hw
    split at hw
    · rename_i hi
      cases hw
      exact ⟨hi, fun x H' ⟨e1, e2⟩ => ⟨e1, e2⟩⟩
    · cases hw
  | txt z =>
    obtain ⟨rfl, ok⟩ := h
    simp only [wkAt] at hw
    cases hz : z[i]? with
    | none => rw [hz] at hw; cases hw
    | some c =>
      rw [hz] at hw
      cases hw
      have hl : i < z.length := (List.getElem?_eq_some_iff.mp hz).1
      refine ⟨by show i < z.toArray.size; simpa using hl, fun x H' hy => ?_⟩
      obtain ⟨e1, c', hc, e2⟩ := hy
      have : z.toArray[i]? = some c := by simpa using hz
      rw [this] at hc; cases hc
      refine ⟨e1, e2, ?_⟩
      unfold strOk at *
      rw [List.all_eq_true] at ok
      simpa using ok c (List.mem_of_getElem? hz)

def tI (K : PySem.W.Frag) (cl : Str → Option Addr) (e : En) (wx : WX) (f : WF) : TI := fun σ H R => ∃ W env S, W.H = H ∧ FRel K cl e W σ env S ∧ postG (fun W m w J => IsWk K W m J w) K cl e wx W σ env S R (f env S)
structure SI (B : Base) (G : Gc) (e : En) (tg iter : Expr) (f : WF) : Prop where
  run : ∀ X wx, Cxt B.P B.w B.K B.mg B.base G e X wx → PI X tg iter (tI B.K B.cl e wx f)
  fs : ∀ env x, foldedSetIterable iter env x = pure x
theorem PI.imp {X : Cx} {tg it : Expr} {w w' : TI} (h : PI X tg it w) (i : ∀ σ H R, w' σ H R → w σ H R) : PI X tg it w' := ⟨fun pins s σ H R I q => h.run pins s σ H R I (i _ _ _ q)⟩
/-- a list or a tuple, walked; a text -/
def wOf (x : XD) (S1 : List Cell) : Out Wk := match x with
  | .dat (.str z) => .val (.txt z) S1
  | .dat d => (match seqOf [] S1 (.dat d) with
    | some _ => .val (.sq d) S1
    | none => .bot)
  | .loc _ => .bot
def wSeq (f : EF) : WF := fun env S => (f env S).bind wOf
theorem pi_any {X : Cx} {tg it : Expr} {te : TE} (h : PE X it te) : PI X tg it (fun σ H R => te σ H fun x H1 => (∃ a, x = .ref a ∧ (∃ xs, SqL X.K H1 a xs) ∧ R (Itl X.K a) H1) ∨ (∃ a, x = .ref a ∧ (∃ xs, SqT X.K H1 a xs) ∧ R (Itt X.K a) H1) ∨ (∃ z, x = .str z ∧ R (Its z) H1)) := by
  refine ⟨fun pins s σ H R I h' => ?_⟩
  refine thn (h.run pins s σ H _ I h') fun v s1 ⟨x, H1, I1, r1, q1⟩ => ?_
  rcases q1 with ⟨a, e, ⟨xs, hq⟩, q⟩ | ⟨a, e, ⟨xs, hq⟩, q⟩ | ⟨z, e, q⟩
  · subst e
    cases r1
    obtain ⟨its, rv, p, hz⟩ := I1.list hq
    refine wpAny_pyIter_list p.isList ?_
    refine ⟨s1.heap.objs.size, [s1.heap.objs.size], _, _, H1, rfl, I1.kept (t' := s1.toks) fun b o e => Heap.get?_push_of_some _ e, turn_list a _, ⟨_, Heap.get?_push_size _ rfl, rfl, rfl⟩, fun b hb => ?_, q⟩
    have e : b = s1.heap.objs.size := by simpa using hb
    subst e
    exact I1.fpOk (Nat.le_refl _) (I1.hok.fresh (Nat.le_refl _))
  · subst e
    cases r1
    obtain ⟨its, rv, p, hz⟩ := I1.tuple hq
    refine wpAny_pyIter_tuple (show s1.heap.IsTuple a its.toArray from p) ?_
    refine ⟨s1.heap.objs.size, [s1.heap.objs.size], _, _, H1, rfl, I1.kept (t' := s1.toks) fun b o e => Heap.get?_push_of_some _ e, turn_tuple a _, ⟨_, Heap.get?_push_size _ rfl, rfl, rfl⟩, fun b hb => ?_, q⟩
    have e : b = s1.heap.objs.size := by simpa using hb
    subst e
    exact I1.fpOk (Nat.le_refl _) (I1.hok.fresh (Nat.le_refl _))
  · subst e
    obtain ⟨t, rfl⟩ := r1
    cases ha : z.cps.all (· < 128)
    · exact wpAny_pyIter_wide ha (pi_one (tk := s1.toks) I1 _ (turn_str _ z t "str_iterator" (.inr rfl)) ⟨_, Heap.get?_push_size _ rfl, rfl, rfl⟩ q)
    · exact wpAny_pyIter_ascii ha (pi_one (tk := s1.toks) I1 _ (turn_str _ z t "str_ascii_iterator" (.inl rfl)) ⟨_, Heap.get?_push_size _ rfl, rfl, rfl⟩ q)
theorem si_seq {tg a : Expr} {f : EF} (ha : SE B G e a f) : SI B G e tg a (wSeq f) := by
  refine ⟨fun X wx C => PI.imp (pi_any (ha.run X wx C)) fun σ H Rr ⟨W, env, S, hH, R, q⟩ => ⟨W, env, S, hH, R, postG.seq q fun x S1 v W1 R1 s1 r1 q1 => ?_⟩, ha.pl.fs⟩
  have sq : ∀ d : D, x = .dat d → (∀ z, d ≠ .str z) → (∀ {q : Sq} {ds : List D}, seqOf [] S1 (.dat d) = some (q, ds) → ∃ a, v = .ref a ∧ ((q = .t ∧ (∃ xs, SqT X.K W1.H a xs) ∧ Rr (Itt X.K a) W1.H) ∨ (q = .l ∧ (∃ xs, SqL X.K W1.H a xs) ∧ Rr (Itl X.K a) W1.H))) := by
    intro d hx hz q ds hs
    subst hx
    have hs' : seqOf env S1 (.dat d) = some (q, ds) := by cases d <;> exact hs
    obtain ⟨a, vs, e1, s2, r2⟩ := R1.seq r1 hs'
    have q1 : postG (fun W m w J => IsWk B.K W m J w) B.K B.cl e wx W1 σ env S1 Rr (wOf (.dat d) S1) := q1
    have q2 : postG (fun W m w J => IsWk B.K W m J w) B.K B.cl e wx W1 σ env S1 Rr (Out.val (.sq d) S1) := by
      cases d with
      | str z => exact absurd rfl (hz z)
      | _ => simp only [wOf, hs] at q1; exact q1
    refine ⟨a, e1, ?_⟩
    cases q with
    | t =>
      have := seqOf_tup hs'
      cases this
      exact .inl ⟨rfl, ⟨vs, by rw [C.K]; exact s2⟩, q2 _ W1 R1 .refl ⟨a, by rw [← e1]; exact r1, by rw [C.K]⟩⟩
    | l =>
      refine .inr ⟨rfl, ⟨vs, by rw [C.K]; exact s2⟩, q2 _ W1 R1 .refl ⟨a, by rw [← e1]; exact r1, ?_⟩⟩
      cases d <;> first | (simp only [seqOf] at hs; cases hs; done) | exact (by rw [C.K])
  cases x with
  | loc i => exact q1.elim
  | dat d =>
    by_cases hz : ∃ z, d = .str z
    · obtain ⟨z, rfl⟩ := hz
      exact .inr (.inr ⟨_, r1.1, q1 _ W1 R1 .refl ⟨rfl, r1.2⟩⟩)
    · cases hs : seqOf [] S1 (.dat d) with
      | none =>
        have q1 : postG (fun W m w J => IsWk B.K W m J w) B.K B.cl e wx W1 σ env S1 Rr (wOf (.dat d) S1) := q1
        cases d with
        | str z => exact absurd ⟨z, rfl⟩ hz
        | _ => simp only [wOf, hs] at q1; exact q1.elim
      | some p =>
        obtain ⟨q, ds⟩ := p
        obtain ⟨a, e1, h⟩ := sq d rfl (fun z hd => hz ⟨z, hd⟩) hs
        rcases h with ⟨_, h1, h2⟩ | ⟨_, h1, h2⟩
        · exact .inr (.inl ⟨a, e1, h1, h2⟩)
        · exact .inl ⟨a, e1, h1, h2⟩
/-- range -/
def rOk (i : Int) : Bool := decide (-(2 ^ 62) ≤ i) && decide (i < 2 ^ 62)
def wRng1 (f : EF) : WF := fun env S => (f env S).bind fun x S1 => match x with
  | .dat (.int j) => if rOk j = true then .val (.rng 0 j.toNat) S1 else .bot
  | _ => .bot
def wRng2 (f g : EF) : WF := fun env S => (f env S).bind fun x S1 => (g env S1).bind fun y S2 => match x, y with
  | .dat (.int i), .dat (.int j) => if rOk i = true ∧ rOk j = true then .val (.rng i (j - i).toNat) S2 else .bot
  | _, _ => .bot
theorem rOk_inv {i : Int} (h : rOk i = true) : -(2 ^ 62) ≤ i ∧ i < 2 ^ 62 := by simpa [rOk] using h
theorem si_rng1 {tg a : Expr} {f : EF} {p pos : Pos} (ha : SE B G e a f) (hm : B.mg "range" = none) (hg : G.sc.names.lookup ("range" : Str) = some NameKind.globalImplicit := by rfl) : SI B G e tg (.Call (.Name "range" p) [a] [] pos) (wRng1 f) := by
  refine ⟨fun X wx C => PI.imp (pi_range1 (C.gl hg) (by rw [C.mg]; exact hm) (pa_cons (ha.run X wx C) pa_nil (ha.pl.ns [] _)) (ha.pl.ns [] _)) fun σ H Rr ⟨W, env, S, hH, R, q⟩ => ⟨W, env, S, hH, R, postG.seq q fun x S1 v W1 R1 s1 r1 q1 => ?_⟩, fun _ _ => rfl⟩
  cases x with
  | loc i => exact q1.elim
  | dat d =>
    cases d with
    | int j =>
      by_cases hr : rOk j = true
      · dsimp only at q1
        rw [if_pos hr] at q1
        obtain ⟨h1, h2⟩ := rOk_inv hr
        cases (show v = .int j from r1)
        exact ⟨j, rfl, h1, h2, q1 _ W1 R1 .refl rfl⟩
      · dsimp only at q1
        rw [if_neg hr] at q1; exact q1.elim
    | _ => exact q1.elim
theorem si_rng2 {tg a b : Expr} {f g : EF} {p pos : Pos} (ha : SE B G e a f) (hb : SE B G e b g) (hm : B.mg "range" = none) (hg : G.sc.names.lookup ("range" : Str) = some NameKind.globalImplicit := by rfl) : SI B G e tg (.Call (.Name "range" p) [a, b] [] pos) (wRng2 f g) := by
  refine ⟨fun X wx C => PI.imp (pi_range2 (C.gl hg) (by rw [C.mg]; exact hm) (pa_cons (ha.run X wx C) (pa_cons (hb.run X wx C) pa_nil (hb.pl.ns [] _)) (ha.pl.ns _ _)) (by rw [ha.pl.ns, hb.pl.ns]; rfl) (hb.pl.ns [] _)) fun σ H Rr ⟨W, env, S, hH, R, q⟩ =>
    ⟨W, env, S, hH, R, postG.seq q fun x S1 v W1 R1 s1 r1 q1 => ⟨W1, env, S1, rfl, R1, postG.seq q1 fun y S2 u W2 R2 s2 r2 q2 => ?_⟩⟩, fun _ _ => rfl⟩
  cases x with
  | loc i => exact q2.elim
  | dat d =>
    cases d with
    | int i =>
      cases y with
      | loc i => exact q2.elim
      | dat d =>
        cases d with
        | int j =>
          by_cases hr : rOk i = true ∧ rOk j = true
          · dsimp only at q2
            rw [if_pos hr] at q2
            cases (show v = .int i from r1)
            cases (show u = .int j from r2)
            exact ⟨i, j, rfl, ⟨(rOk_inv hr.1).1, (rOk_inv hr.1).2, (rOk_inv hr.2).1, (rOk_inv hr.2).2⟩, q2 _ W2 R2 .refl rfl⟩
          · dsimp only at q2
            rw [if_neg hr] at q2; exact q2.elim
        | _ => exact q2.elim
    | _ => exact q2.elim

/-! ### for -/
def forF (w : Wk) (g : GF) (b : SF) : Nat → Nat → SF
  | 0, i, env, S => match wkAt S i w with
    | some none => .nx env S
    | _ => .bot
  | n + 1, i, env, S => match wkAt S i w with
    | some (some d) => match g d env S with
      | some env1 => match b env1 S with
        | .nx env' S' => forF w g b n (i + 1) env' S'
        | .ct env' S' => forF w g b n (i + 1) env' S'
        | .bk env' S' => .nx env' S'
        | o => o
      | none => .bot
    | _ => .bot
def sFor (wf : WF) (g : GF) (b : SF) : SF := fun env S => (wf env S).then env fun w S1 => forF w g b (wkLen S1 w) 0 env S1
theorem ss_for {tg it : Expr} {b : List Stmt} {wf : WF} {g : GF} {ix : List Nat} {f : SF} {pos : Pos} (hi : SI B G e tg it wf) (hg : SG B G e tg g ix) (hb : SB B G e b f) (hc : G.calm = true := by rfl) : SS B G e (.For tg it b [] pos) (sFor wf g f) := by
  refine ⟨fun X wx C => PS.imp (ps_for C.pass (C.calm hc) (hi.run X wx C) (hg.run X wx C) (hb.run X wx C) (hi.fs X.env)) fun D σ H ⟨W, env, S, hH, R, q⟩ => ⟨W, env, S, hH, R, postS.then q fun w S1 J W1 R1 s1 r1 q1 => ?_⟩⟩
  refine ⟨fun i m σ H => ∃ W env S, W.H = H ∧ FRel B.K B.cl e W σ env S ∧ IsWk B.K W S.length J w ∧ postS B.K B.cl e wx W S D (forF w g f m i env S), ⟨_, W1, env, S1, rfl, R1, r1, q1⟩, fun i m σ H ⟨W, env, S, hH, R, hw, q⟩ => ?_⟩
  subst hH
  cases m with
  | zero =>
    unfold forF at q
    cases h1 : wkAt S i w with
    | none => rw [h1] at q; exact q.elim
    | some o =>
      cases o with
      | none => rw [h1] at q; exact .inl ⟨wk_stop (m := 0) R hw h1, q σ W R .refl⟩
      | some d => rw [h1] at q; exact q.elim
  | succ m =>
    unfold forF at q
    cases h1 : wkAt S i w with
    | none => rw [h1] at q; exact q.elim
    | some o =>
      cases o with
      | none => rw [h1] at q; exact q.elim
      | some d =>
        rw [h1] at q
        dsimp only at q
        cases h2 : g d env S with
        | none => rw [h2] at q; exact q.elim
        | some env1 =>
          rw [h2] at q
          dsimp only at q
          obtain ⟨go, yl⟩ := wk_go R hw h1
          refine .inr ⟨go, fun σ' H' => ∃ W env S, W.H = H' ∧ FRel B.K B.cl e W σ' env S ∧ IsWk B.K W S.length J w ∧ postS B.K B.cl e wx W S D (forF w g f m (i + 1) env S), fun σ' H' h => ⟨m, Nat.lt_succ_self m, h⟩, fun x H' hy => ?_⟩
          obtain ⟨rfl, rx⟩ := yl x H' hy
          refine ⟨W, env, S, d, env1, rfl, R, rx, h2, fun σ' _ R' => ⟨W, env1, S, rfl, R', ?_⟩⟩
          cases hf : f env1 S with
          | nx env' S' => rw [hf] at q; exact fun σ' W' R' s' => ⟨W', env', S', rfl, R', hw.stepF s', postS.shift q s'⟩
          | ct env' S' => rw [hf] at q; exact fun σ' W' R' s' => ⟨W', env', S', rfl, R', hw.stepF s', postS.shift q s'⟩
          | bk env' S' => rw [hf] at q; exact q
          | rt d S' => rw [hf] at q; exact q
          | exc c p env' S' => rw [hf] at q; exact q
          | bot => rw [hf] at q; exact q
end
end Ev

namespace Ev
open PySem L2 PyProof.Rows
abbrev CF := List D → List Cell → Out D
/-- a def keeps to the function C of its arguments and the shared things -/
def spD (K : PySem.W.Frag) (cl : Str → Option Addr) (n : Nat) (C : CF) : Sp := fun vs H Q E => ∃ F ρ S ds, ds.length = n ∧ GRel K cl F H ρ S ∧ RepL K F ρ S.length ds vs ∧ (match C ds S with
  | .val d S' => ∀ v F' ρ' H', GRel K cl F' H' ρ' S' → Ext F ρ S.length H F' ρ' S'.length H' → Rep K F' ρ' S'.length d v → Q v H'
  | .exc c p S' => ∀ cls dx F' ρ' H', GRel K cl F' H' ρ' S' → Ext F ρ S.length H F' ρ' S'.length H' → ExcAt K cl H ⟨F', H', ρ', fun _ => 0⟩ S'.length c p cls dx → E cls dx H'
  | .bot => False)
/-- the name x holds a def of n parameters that keeps to C, k calls deep at most -/
structure FnD (B : Base) (x : Str) (n k : Nat) (C : CF) : Prop where
  ex : ∃ f fd ps, B.mg x = some (.ref f) ∧ PySem.W.keepIn B.K (.ref f) = true ∧ Binds B.K fd ps [] ∧ ps.length = n ∧ FnOk B.P B.w B.K B.mg B.base (L2.CX B.P B.w) k f fd ps (spD B.K B.cl n C)
theorem FnD.mono {B : Base} {x : Str} {n j k : Nat} {C : CF} (h : FnD B x n j C) (hk : j ≤ k) : FnD B x n k C := by
  obtain ⟨f, fd, ps, h1, h2, h3, h4, h5⟩ := h.ex
  exact ⟨f, fd, ps, h1, h2, h3, h4, h5.mono hk⟩
section
variable {B : Base} {G : Gc} {e : En} {K : PySem.W.Frag} {cl : Str → Option Addr} {W : Wd} {σ : L2.St} {env : List Slot} {S S' : List Cell}
theorem FRel.grel (R : FRel K cl e W σ env S) : GRel K cl W.F W.H W.ρ S := ⟨R.sub, R.glob, R.inj⟩
/-- behind a call -/
theorem FRel.call (R : FRel K cl e W σ env S) {F' H' : Hp} {ρ' : Nat → Addr} (g : GRel K cl F' H' ρ' S') (x : Ext W.F W.ρ S.length W.H F' ρ' S'.length H') :
    FRel K cl e ⟨F', H', ρ', W.l⟩ σ env S' ∧ StepW W S.length ⟨F', H', ρ', W.l⟩ S'.length := by
  refine ⟨⟨g.sub, g.glob, g.inj, R.len, fun i d h => ?_, fun i c h => ?_, R.linj, R.ext.trans x, fun i c q h => (R.err i c q h).mono x.fs x.rr x.le⟩, x, rfl⟩
  · obtain ⟨v, h1, h2⟩ := R.val i d h
    exact ⟨v, h1, Rep.mono x.fs x.rr x.le _ _ h2⟩
  · obtain ⟨h1, h2, h3, h4, h5⟩ := R.loc i c h
    obtain ⟨o, ho⟩ := CellOk.some h3
    have stay : ∀ u, W.H (W.l i) = some u → H' (W.l i) = some u := fun u hu => x.hs _ _ hu fun n hn z => h5 n hn z.symm
    refine ⟨h1, ?_, CellOk.mono x.fs x.rr x.le stay h3, h4, fun n hn z => ?_⟩
    · show F' (W.l i) = none
      cases q : F' (W.l i) with
      | none => rfl
      | some u =>
        rcases x.fn _ _ q with z | z
        · rw [h2] at z; cases z
        · rw [ho] at z; cases z
    · have z : ρ' n = W.l i := z
      by_cases hm : n < S.length
      · exact h5 n hm (by rw [← x.rr n hm]; exact z)
      · have := x.rn n (Nat.not_lt.mp hm) hn
        rw [z, ho] at this; cases this
def eFn (n : Nat) (C : CF) (f : AF) : EF := fun env S => (f env S).bind fun xs S1 => match datL xs with
  | some ds => if ds.length = n then (C ds S1).bind (fun d S2 => .val (.dat d) S2) else .bot
  | none => .bot
theorem eFn_read {wx : WX} {n : Nat} {C : CF} {f : AF} {σ : L2.St} {H : Hp} {Q : VK} (h : tE B.K B.cl e wx (eFn n C f) σ H Q) :
    tA B.K B.cl e wx f σ H fun vs H1 => spD B.K B.cl n C vs H1 Q (fun cls d H => wx cls d σ H) := by
  obtain ⟨W, env, S, rfl, R, q⟩ := h
  refine ⟨W, env, S, rfl, R, postG.seq q fun xs S1 vs W1 R1 s1 r1 q1 => ?_⟩
  cases hd : datL xs with
  | none => rw [hd] at q1; exact q1.elim
  | some ds =>
    rw [hd] at q1
    have r2 := RepXL.dat r1 hd
    by_cases hl : ds.length = n
    · dsimp only at q1
      rw [if_pos hl] at q1
      refine ⟨W1.F, W1.ρ, S1, ds, hl, R1.grel, r2, ?_⟩
      cases hc : C ds S1 with
      | val d S' =>
        rw [hc] at q1
        intro v F' ρ' H' g x r
        obtain ⟨R', st⟩ := R1.call g x
        exact q1 v _ R' st r
      | exc c p S' =>
        rw [hc] at q1
        intro cls dx F' ρ' H' g x r
        obtain ⟨R', st⟩ := R1.call g x
        exact q1 cls dx _ R' st (r.older R1.ext.hd)
      | bot => rw [hc] at q1; exact q1
    · dsimp only at q1
      rw [if_neg hl] at q1; exact q1.elim
theorem se_fn {x : Str} {n k : Nat} {C : CF} {a : Expr} {es : List Expr} {f : AF} {p pos : Pos} (F : FnD B x n k C) (ha : SA B G e (a :: es) f) (hk : k ≤ G.k := by decide) (hcm : G.calm = true := by rfl) (hg : G.sc.names.lookup x = some .globalImplicit := by rfl)
    (hdb : (x == ("__debug__" : Str)) = false := by decide +kernel) : SE B G e (.Call (.Name x p) (a :: es) [] pos) (eFn n C f) := by
  refine ⟨fun X wx C' => ⟨fun pins s σ H Q I h => ?_⟩, plCall⟩
  obtain ⟨fa, fd, ps, h1, h2, h3, h4, h5⟩ := F.ex
  have e1 := C'.prog; have e2 := C'.w; have e3 := C'.K; have e4 := C'.mg; have e5 := C'.base
  rw [← e1, ← e2, ← e3, ← e4, ← e5] at h5
  rw [← e4] at h1
  rw [← e3] at h2 h3
  refine (pe_callSD (E := WE wx) h5 ((C'.room hcm).mono hk) (C'.gl hg) h1 h2 h3 .nil (fun σ => passAt C'.takes σ) (ha.run X wx C') hdb (sa_star ha X.env) (sa_nostar (fun y hy => ha.pl y (List.mem_cons_of_mem _ hy)) X.env pos)).run pins s σ H Q I ?_
  have := eFn_read h
  rw [e3]
  show tA B.K B.cl e wx f σ H fun vs H1 => spD B.K B.cl n C (vs ++ []) H1 Q (fun cls d H => wx cls d σ H)
  simpa only [List.append_nil] using this
theorem pe_callSD0 {X : Cx} {CX : CXT} {k : Nat} {f : Addr} {fd : FuncData} {ps : List Str} {sp : Sp} {E : L2.St → XK} {x : Str} {p pos : Pos} (F : FnOk X.prog X.w X.K X.mg X.base CX k f fd ps sp) (hr : Room k X.A) (hg : Gl X x) (hm : X.mg x = some (.ref f)) (hk : PySem.W.keepIn X.K (.ref f) = true) (hb : Binds X.K fd ps []) (hx : ∀ σ, PassesAt CX X σ (E σ))
    (hdb : (x == ("__debug__" : Str)) = false := by decide) : PE X (.Call (.Name x p) [] [] pos) (tCallSD sp [] E tNil) := by
  refine ⟨fun pins s σ H Q I h => ?_⟩
  refine wpAny_Call_Name_kw (ld_glob I hg hm ?_ hdb)
  exact PySem.W.callWith_K0 I.kIn hk (run_fnSD (us := []) F hr hb .nil (hx σ) I .nil h)
theorem se_fn0 {x : Str} {k : Nat} {C : CF} {p pos : Pos} (F : FnD B x 0 k C) (hk : k ≤ G.k := by decide) (hcm : G.calm = true := by rfl) (hg : G.sc.names.lookup x = some .globalImplicit := by rfl)
    (hsu : (x != ("super" : Str)) = true := by decide +kernel) (hdb : (x == ("__debug__" : Str)) = false := by decide +kernel) : SE B G e (.Call (.Name x p) [] [] pos) (eFn 0 C aNil) := by
  refine ⟨fun X wx C' => ⟨fun pins s σ H Q I h => ?_⟩, ⟨fun _ _ => rfl, fun f env => ?_, fun _ _ => rfl, fun _ => rfl, fun _ _ => rfl⟩⟩
  · obtain ⟨fa, fd, ps, h1, h2, h3, h4, h5⟩ := F.ex
    have e1 := C'.prog; have e2 := C'.w; have e3 := C'.K; have e4 := C'.mg; have e5 := C'.base
    rw [← e1, ← e2, ← e3, ← e4, ← e5] at h5
    rw [← e4] at h1
    rw [← e3] at h2 h3
    refine (pe_callSD0 (E := WE wx) h5 ((C'.room hcm).mono hk) (C'.gl hg) h1 h2 h3 (fun σ => passAt C'.takes σ) hdb).run pins s σ H Q I ?_
    rw [e3]
    obtain ⟨W, env, S, rfl, R, q⟩ := eFn_read h
    exact q [] W R .refl rfl
  · unfold attributeBase
    simp only [hsu, Bool.true_or, if_true]

/-! ### a def by its body -/
def fnEnv (n : Nat) (ds : List D) : List Slot := ds.map Slot.val ++ List.replicate (n - ds.length) Slot.no
def outF : SOut → Out D
  | .rt d S => .val d S
  | .nx _ S => .val .non S
  | .exc c p _ S => .exc c p S
  | _ => .bot
def fnF (n : Nat) (f : SF) : CF := fun ds S => outF (f (fnEnv n ds) S)
theorem FRel.entry {F H : Hp} {ρ : Nat → Addr} {ds : List D} {vs : List V} {N : List Str} (g : GRel K cl F H ρ S) (r : RepL K F ρ S.length ds vs) :
    FRel K cl ⟨F, H, ρ, S.length, fun _ => none⟩ ⟨F, H, ρ, fun _ => 0⟩ (L2.start N vs) (fnEnv N.length ds) S := by
  have nol : ∀ {i : Nat} {c : Cell}, (fnEnv N.length ds)[i]? ≠ some (.loc c) := fun {i c} h => by
    unfold fnEnv at h
    by_cases hi : i < ds.length
    · rw [List.getElem?_append_left (by simpa using hi), List.getElem?_map] at h
      cases q : ds[i]? with
      | none => rw [q] at h; cases h
      | some d => rw [q] at h; cases h
    · rw [List.getElem?_append_right (by simpa using Nat.not_lt.mp hi), List.getElem?_replicate] at h
      split at h <;> cases h
  have noe : ∀ {i : Nat} {c : Str} {q : D}, (fnEnv N.length ds)[i]? ≠ some (.err c q) := fun {i c q} h => by
    unfold fnEnv at h
    by_cases hi : i < ds.length
    · rw [List.getElem?_append_left (by simpa using hi), List.getElem?_map] at h
      cases q : ds[i]? with
      | none => rw [q] at h; cases h
      | some d => rw [q] at h; cases h
    · rw [List.getElem?_append_right (by simpa using Nat.not_lt.mp hi), List.getElem?_replicate] at h
      split at h <;> cases h
  refine ⟨g.sub, g.glob, g.inj, ?_, fun i d h => ?_, fun i c h => absurd h nol, fun i j c c' h _ => absurd h nol, .refl, fun i c q h => absurd h noe⟩
  · unfold L2.start fnEnv
    simp only [List.length_append, List.length_map, List.length_replicate, r.length]
  · unfold fnEnv at h
    by_cases hi : i < ds.length
    · rw [List.getElem?_append_left (by simpa using hi), List.getElem?_map] at h
      cases q : ds[i]? with
      | none => rw [q] at h; cases h
      | some d' =>
        rw [q] at h
        cases h
        obtain ⟨v, h1, h2⟩ := r.get q
        refine ⟨v, ?_, h2⟩
        unfold L2.start
        rw [List.getElem?_append_left (by rw [List.length_map, ← r.length]; exact hi), List.getElem?_map, h1]
        rfl
    · rw [List.getElem?_append_right (by simpa using Nat.not_lt.mp hi), List.getElem?_replicate] at h
      split at h <;> cases h
theorem fn_okF {x qual : Str} {st : Stmt} {f : Addr} {fd : FuncData} {N ps : List Str} {k : Nat} {fb : SF} (F : Fun B.K x qual st f fd) (Sc : FnScope N ps (defScope st))
    (h : ∀ e, (∀ a, e.x a = none) → SB B ⟨N, defScope st, k, true, true, fun _ => true⟩ e (defBody st) fb) : FnOk B.P B.w B.K B.mg B.base (L2.CX B.P B.w) (k + 1) f fd ps (spD B.K B.cl ps.length (fnF N.length fb)) := by
  refine Fun.okX F Sc (fun vs H Q E q => ?_) fun cdv A outer s H vs Q E hr q => ?_
  · obtain ⟨Fz, ρ, S, ds, hl, g, r, _⟩ := q
    rw [← r.length, hl]
  · obtain ⟨Fz, ρ, S, ds, hl, g, r, q⟩ := q
    let en : En := ⟨Fz, H, ρ, S.length, fun _ => none⟩
    let wx : WX := fun cls d _ H => E cls d H
    have C : Cxt B.P B.w B.K B.mg B.base ⟨N, defScope st, k, true, true, fun _ => true⟩ en (cxOf (L2.CX B.P B.w) B.P B.w B.K B.mg B.base N qual (defScope st) f cdv A outer s H E) wx :=
      ⟨rfl, rfl, rfl, rfl, rfl, rfl, rfl, Sc.nd, room_un hr, fun _ => hr, fun _ => rfl, takes_of rfl rfl rfl rfl, fun _ _ => .inl rfl, passes_of rfl, fun _ => ⟨rfl, rfl⟩, fun _ a C dd h => nomatch h⟩
    refine ⟨_, (h en fun _ => rfl).run _ wx C, ⟨Fz, H, ρ, fun _ => 0⟩, fnEnv N.length ds, S, rfl, FRel.entry g r, ?_⟩
    have q : (match outF (fb (fnEnv N.length ds) S) with
      | .val d S' => ∀ v F' ρ' H', GRel B.K B.cl F' H' ρ' S' → Ext Fz ρ S.length H F' ρ' S'.length H' → Rep B.K F' ρ' S'.length d v → Q v H'
      | .exc c p S' => ∀ cls dx F' ρ' H', GRel B.K B.cl F' H' ρ' S' → Ext Fz ρ S.length H F' ρ' S'.length H' → ExcAt B.K B.cl H ⟨F', H', ρ', fun _ => 0⟩ S'.length c p cls dx → E cls dx H'
      | .bot => False) := q
    cases hf : fb (fnEnv N.length ds) S with
    | nx env' S' =>
      rw [hf] at q
      exact fun σ' W' R' _ => q .non W'.F W'.ρ W'.H R'.grel R'.ext rfl
    | rt d S' =>
      rw [hf] at q
      exact fun v σ' W' env' R' _ rv => q v W'.F W'.ρ W'.H R'.grel R'.ext rv
    | exc c p env' S' =>
      rw [hf] at q
      exact fun cls dx σ' W' R' _ rv => q cls dx W'.F W'.ρ W'.H R'.grel R'.ext rv
    | bk env' S' => rw [hf] at q; exact q.elim
    | ct env' S' => rw [hf] at q; exact q.elim
    | bot => rw [hf] at q; exact q
theorem fn_ok {x y qual : Str} {st : Stmt} {f : Addr} {fd : FuncData} {N ps : List Str} {k : Nat} {fb : SF} (F : Fun B.K x qual st f fd) (hm : B.mg y = some (.ref f)) (Sc : FnScope N ps (defScope st)) (hb : Binds B.K fd ps [])
    (h : ∀ e, (∀ a, e.x a = none) → SB B ⟨N, defScope st, k, true, true, fun _ => true⟩ e (defBody st) fb) : FnD B y ps.length (k + 1) (fnF N.length fb) :=
  ⟨f, fd, ps, hm, F.kp, hb, rfl, fn_okF F Sc h⟩
/-- the same def by an equal (or less defined) function -/
theorem FnD.imp {x : Str} {n k : Nat} {C C' : CF} (h : FnD B x n k C) (hc : ∀ ds S, C' ds S ≠ .bot → ds.length = n → C ds S = C' ds S) : FnD B x n k C' := by
  obtain ⟨f, fd, ps, h1, h2, h3, h4, h5⟩ := h.ex
  refine ⟨f, fd, ps, h1, h2, h3, h4, h5.imp fun vs H Q E q => ?_⟩
  obtain ⟨Fz, ρ, S, ds, hl, g, r, q⟩ := q
  refine ⟨Fz, ρ, S, ds, hl, g, r, ?_⟩
  by_cases hb : C' ds S = .bot
  · rw [hb] at q; exact q.elim
  · rw [hc ds S hb hl]; exact q
end
end Ev

namespace Ev
open PySem L2 PyProof.Rows
/-! ### what is made new and is not shared yet -/
structure NewAt (K : PySem.W.Frag) (cl : Str → Option Addr) (e : En) (W : Wd) (env : List Slot) (S : List Cell) (p : Addr) (c : Cell) : Prop where
  F : W.F p = none
  ok : CellOk K cl W.F W.ρ S.length W.H p c
  gl : ∀ n, n < S.length → W.ρ n ≠ p
  lo : ∀ (i : Nat) c', env[i]? = some (Slot.loc c') → W.l i ≠ p
  en : e.H p = none
abbrev NF := List Slot → List Cell → Out Cell
def postN (K : PySem.W.Frag) (cl : Str → Option Addr) (e : En) (wx : WX) (W : Wd) (σ : L2.St) (env : List Slot) (S : List Cell) (Q : VK) : Out Cell → Prop
  | .val c S' => ∀ p W', FRel K cl e W' σ env S' → StepW W S.length W' S'.length → W.H p = none → NewAt K cl e W' env S' p c → Q (.ref p) W'.H
  | .exc c p S' => ∀ cls dx W', FRel K cl e W' σ env S' → StepW W S.length W' S'.length → ExcAt K cl e.H W' S'.length c p cls dx → wx cls dx σ W'.H
  | .bot => False
def tN (K : PySem.W.Frag) (cl : Str → Option Addr) (e : En) (wx : WX) (f : NF) : TE := fun σ H Q => ∃ W env S, W.H = H ∧ FRel K cl e W σ env S ∧ postN K cl e wx W σ env S Q (f env S)
structure SN (B : Base) (G : Gc) (e : En) (ex : Expr) (f : NF) : Prop where
  run : ∀ X wx, Cxt B.P B.w B.K B.mg B.base G e X wx → PE X ex (tN B.K B.cl e wx f)
  pl : Plain ex
section
variable {B : Base} {G : Gc} {e : En} {K : PySem.W.Frag} {cl : Str → Option Addr} {wx : WX} {W W1 : Wd} {σ : L2.St} {env : List Slot} {S S1 : List Cell} {Q : VK}
theorem postN.shift {o : Out Cell} (q : postN K cl e wx W σ env S Q o) (s : StepW W S.length W1 S1.length) : postN K cl e wx W1 σ env S1 Q o := by
  cases o with
  | val x S' => exact fun p W' R' s' h n => q p W' R' (s.trans s') (s.1.hd p h) n
  | exc c p S' => exact fun cls dx W' R' s' r => q cls dx W' R' (s.trans s') r
  | bot => exact q
theorem postN.seq {α β : Type} {rel : Wd → Nat → α → β → Prop} {Q' : β → Hp → Prop} {o : Out α} {k : α → List Cell → Out Cell} (q : postN K cl e wx W σ env S Q (o.bind k))
    (h : ∀ x S1 v W1, FRel K cl e W1 σ env S1 → StepW W S.length W1 S1.length → rel W1 S1.length x v → postN K cl e wx W1 σ env S1 Q (k x S1) → Q' v W1.H) : postG rel K cl e wx W σ env S Q' o := by
  cases o with
  | val x S' => exact fun v W' R' s' r => h x S' v W' R' s' r (postN.shift q s')
  | exc c p S' => exact q
  | bot => exact q
/-- a new object laid, not frozen -/
def Wd.lay (W : Wd) (p : Addr) (o : HO) : Wd := ⟨W.F, upd W.H p o, W.ρ, W.l⟩
theorem FRel.lay (R : FRel K cl e W σ env S) {p : Addr} (hp : W.H p = none) (o : HO) : FRel K cl e (W.lay p o) σ env S ∧ StepW W S.length (W.lay p o) S.length := by
  have sH := same_upd (o := o) hp
  have x : Ext W.F W.ρ S.length W.H W.F W.ρ S.length (upd W.H p o) := ⟨Same.refl _, fun b u q => .inl q, Nat.le_refl _, fun _ _ => rfl, fun n h1 h2 => absurd h2 (Nat.not_lt.mpr h1), fun b h => (by
      cases q : W.H b with
      | none => rfl
      | some u => rw [sH b u q] at h; cases h), fun b u q _ => sH b u q, fun b od u q => sH b _ q⟩
  refine ⟨⟨fun b u q => sH b u (R.sub b u q), fun n c h => ?_, R.inj, R.len, R.val, fun i c h => ?_, R.linj, R.ext.trans x, R.err⟩, x, rfl⟩
  · obtain ⟨h1, h2⟩ := R.glob n c h
    exact ⟨h1, CellOk.mono (Same.refl _) (fun _ _ => rfl) (Nat.le_refl _) (fun u q => sH _ u q) h2⟩
  · obtain ⟨h1, h2, h3, h4, h5⟩ := R.loc i c h
    exact ⟨h1, h2, CellOk.mono (Same.refl _) (fun _ _ => rfl) (Nat.le_refl _) (fun u q => sH _ u q) h3, h4, h5⟩
theorem FRel.newAt (R : FRel K cl e W σ env S) {p : Addr} (hp : W.H p = none) {o : HO} {c : Cell} (h : CellOk K cl W.F W.ρ S.length (upd W.H p o) p c) : NewAt K cl e (W.lay p o) env S p c :=
  ⟨R.F_none hp, h, fun n hn z => (by
    have z : W.ρ n = p := z
    obtain ⟨c', hc⟩ : ∃ c', S[n]? = some c' := ⟨_, List.getElem?_eq_getElem hn⟩
    obtain ⟨_, h2⟩ := R.glob n c' hc
    obtain ⟨u, hu⟩ := CellOk.some h2
    rw [z, hp] at hu
    cases hu), fun i c' hc z => (by
    have z : W.l i = p := z
    obtain ⟨_, _, h3, _⟩ := R.loc i c' hc
    obtain ⟨u, hu⟩ := CellOk.some h3
    rw [z, hp] at hu
    cases hu), R.ext.hd p hp⟩
/-- a new list that changes no more -/
theorem FRel.freeze (R : FRel K cl e W1 σ env S1) (s : StepW W S.length W1 S1.length) {p : Addr} (h0 : W.H p = none) {ds : List D} (n : NewAt K cl e W1 env S1 p (.lst ds)) :
    ∃ W2, W2.H = W1.H ∧ FRel K cl e W2 σ env S1 ∧ StepW W S.length W2 S1.length ∧ StepF W1 S1.length W2 S1.length ∧ Rep K W2.F W2.ρ S1.length (.lst ds) (.ref p) := by
  obtain ⟨vs, hp, r⟩ := n.ok
  have sF : Same W1.F (upd W1.F p (.lst vs)) := same_upd n.F
  refine ⟨⟨upd W1.F p (.lst vs), W1.H, W1.ρ, W1.l⟩, rfl, ⟨fun b u q => ?_, fun m c h => ?_, R.inj, R.len, fun i d h => ?_, fun i c h => ?_, R.linj, ?_, fun i c q h => (R.err i c q h).mono sF (fun _ _ => rfl) (Nat.le_refl _)⟩, ⟨?_, s.2⟩, ⟨sF, fun _ _ => rfl, Nat.le_refl _, fun _ _ _ h => h⟩, p, vs, rfl, upd_same, RepL.mono sF (fun _ _ => rfl) (Nat.le_refl _) _ _ r⟩
  · have q : upd W1.F p (.lst vs) b = some u := q
    by_cases hb : b = p
    · subst hb; rw [upd_same] at q; cases q; exact hp
    · rw [upd_ne hb] at q; exact R.sub b u q
  · obtain ⟨h1, h2⟩ := R.glob m c h
    have hm : m < S1.length := (List.getElem?_eq_some_iff.mp h).1
    exact ⟨(upd_ne (n.gl m hm)).trans h1, CellOk.mono sF (fun _ _ => rfl) (Nat.le_refl _) (fun _ q => q) h2⟩
  · obtain ⟨v, h1, h2⟩ := R.val i d h
    exact ⟨v, h1, Rep.mono sF (fun _ _ => rfl) (Nat.le_refl _) _ _ h2⟩
  · obtain ⟨h1, h2, h3, h4, h5⟩ := R.loc i c h
    exact ⟨h1, (upd_ne (n.lo i c h)).trans h2, CellOk.mono sF (fun _ _ => rfl) (Nat.le_refl _) (fun _ q => q) h3, h4, h5⟩
  · refine ⟨R.ext.fs.trans sF, fun b o q => ?_, R.ext.le, R.ext.rr, R.ext.rn, R.ext.hd, R.ext.hs, R.ext.fz⟩
    have q : upd W1.F p (.lst vs) b = some o := q
    by_cases hb : b = p
    · subst hb; exact .inr n.en
    · rw [upd_ne hb] at q; exact R.ext.fn b o q
  · refine ⟨s.1.fs.trans sF, fun b o q => ?_, s.1.le, s.1.rr, s.1.rn, s.1.hd, s.1.hs, s.1.fz⟩
    have q : upd W1.F p (.lst vs) b = some o := q
    by_cases hb : b = p
    · subst hb; exact .inr h0
    · rw [upd_ne hb] at q; exact s.1.fn b o q
def eFrz (f : NF) : EF := fun env S => (f env S).bind fun c S1 => match c with
  | .lst ds => .val (.dat (.lst ds)) S1
  | _ => .bot
theorem se_new {a : Expr} {f : NF} (h : SN B G e a f) : SE B G e a (eFrz f) := by
  refine ⟨fun X wx C => PE.imp (h.run X wx C) fun σ H Q ⟨W, env, S, hH, R, q⟩ => ⟨W, env, S, hH, R, ?_⟩, h.pl⟩
  unfold eFrz at q
  cases hf : f env S with
  | bot => rw [hf] at q; exact q
  | exc c p S1 => rw [hf] at q; exact q
  | val c S1 =>
    rw [hf] at q
    intro p W1 R1 s1 h0 n
    cases c with
    | lst ds =>
      obtain ⟨W2, e1, R2, s2, _, r2⟩ := R1.freeze s1 h0 n
      rw [← e1]
      exact q _ W2 R2 s2 r2
    | _ => exact q.elim
/-- [a, b, ..] -/
def nLst (f : AF) : NF := fun env S => (f env S).bind fun xs S1 => match datL xs with
  | some ds => if ds.length ≤ sizeLine then .val (.lst ds) S1 else .bot
  | none => .bot
theorem sn_lst {es : List Expr} {pos : Pos} {f : AF} (h : SA B G e es f) : SN B G e (.List es pos) (nLst f) := by
  refine ⟨fun X wx C => PE.imp (pe_lst (h.run X wx C)) fun σ H Q ⟨W, env, S, hH, R, q⟩ => ⟨W, env, S, hH, R, postN.seq q fun xs S1 vs W1 R1 s1 r1 q1 => ?_⟩, plLst⟩
  cases hd : datL xs with
  | none => rw [hd] at q1; exact q1.elim
  | some ds =>
    rw [hd] at q1
    have r2 := RepXL.dat r1 hd
    by_cases hl : ds.length ≤ sizeLine
    · dsimp only at q1
      rw [if_pos hl] at q1
      refine ⟨by rw [← r2.length]; exact hl, fun p hp => ?_⟩
      obtain ⟨R', st⟩ := R1.lay hp (.lst vs)
      exact q1 p _ R' st hp (R1.newAt hp ⟨vs, upd_same, r2⟩)
    · dsimp only at q1
      rw [if_neg hl] at q1; exact q1.elim

/-! ### comprehensions -/
def wipeE (env : List Slot) : List Nat → List Slot
  | [] => env
  | v :: vs => (wipeE env vs).set v .no
theorem FRel.setNo (R : FRel K cl e W σ env S) (i : Nat) : FRel K cl e W (σ.set i none) (env.set i .no) S := by
  have old : ∀ {j : Nat} {s : Slot}, (env.set i .no)[j]? = some s → s ≠ .no → i ≠ j ∧ env[j]? = some s := fun {j s} h hs => by
    by_cases hj : i = j
    · subst hj
      by_cases hl : i < env.length
      · rw [List.getElem?_set_self hl] at h; cases h; exact absurd rfl hs
      · rw [List.getElem?_eq_none (by simpa using Nat.not_lt.mp hl)] at h; cases h
    · rw [List.getElem?_set_ne hj] at h; exact ⟨hj, h⟩
  refine ⟨R.sub, R.glob, R.inj, by rw [List.length_set, List.length_set]; exact R.len, fun j d h => ?_, fun j c h => ?_, fun j k c c' h1 h2 => ?_, R.ext, R.err_set (fun _ _ z => nomatch z)⟩
  · obtain ⟨hj, h⟩ := old h (by intro z; cases z)
    rw [List.getElem?_set_ne hj]; exact R.val j d h
  · obtain ⟨hj, h⟩ := old h (by intro z; cases z)
    rw [List.getElem?_set_ne hj]; exact R.loc j c h
  · exact R.linj j k c c' (old h1 (by intro z; cases z)).2 (old h2 (by intro z; cases z)).2
theorem FRel.wipe (R : FRel K cl e W σ env S) : ∀ vs : List Nat, FRel K cl e W (L2.wipe σ vs) (wipeE env vs) S
  | [] => R
  | v :: vs => (FRel.wipe R vs).setNo v
theorem wipe_get : ∀ (vs : List Nat) (σ : L2.St) (j : Nat), (L2.wipe σ vs)[j]? = if j ∈ vs ∧ j < σ.length then some none else σ[j]?
  | [], σ, j => by simp [L2.wipe]
  | v :: vs, σ, j => by
    show ((L2.wipe σ vs).set v none)[j]? = _
    by_cases hj : v = j
    · subst hj
      by_cases hl : v < σ.length
      · rw [List.getElem?_set_self (by rw [wipe_length]; exact hl), if_pos ⟨List.mem_cons_self, hl⟩]
      · rw [List.getElem?_eq_none (by rw [List.length_set, wipe_length]; exact Nat.not_lt.mp hl), if_neg (fun z => hl z.2), List.getElem?_eq_none (Nat.not_lt.mp hl)]
    · rw [List.getElem?_set_ne hj, wipe_get vs σ j]
      by_cases h : j ∈ vs ∧ j < σ.length
      · rw [if_pos h, if_pos ⟨List.mem_cons_of_mem _ h.1, h.2⟩]
      · rw [if_neg h, if_neg (fun z => h ⟨(List.mem_cons.mp z.1).resolve_left (Ne.symm hj), z.2⟩)]
theorem wipe_off {vs ix : List Nat} {σ σ2 : L2.St} (h : Off ix (L2.wipe σ vs) σ2) (hx : ∀ i ∈ ix, i ∈ vs) : L2.wipe σ2 vs = L2.wipe σ vs := by
  apply List.ext_getElem?
  intro j
  have hl : σ2.length = σ.length := by rw [h.1, wipe_length]
  rw [wipe_get, wipe_get, hl]
  by_cases hc : j ∈ vs ∧ j < σ.length
  · rw [if_pos hc, if_pos hc]
  · rw [if_neg hc, if_neg hc]
    by_cases hj : j ∈ vs
    · have : ¬ j < σ.length := fun z => hc ⟨hj, z⟩
      rw [List.getElem?_eq_none (by rw [hl]; exact Nat.not_lt.mp this), List.getElem?_eq_none (Nat.not_lt.mp this)]
    · rw [h.2 j fun z => hj (hx j z), wipe_get, if_neg hc]
/-- an outcome that raises nothing -/
def noX {α : Type} : Out α → Out α
  | .exc _ _ _ => .bot
  | o => o
def lcF (w : Wk) (g : GF) (t : TF) (f : EF) (env0 : List Slot) : Nat → Nat → List Cell → List D → Out (List D)
  | 0, i, S, acc => match wkAt S i w with
    | some none => .val acc S
    | _ => .bot
  | n + 1, i, S, acc => match wkAt S i w with
    | some (some d) => match g d env0 S with
      | some env1 => (noX (t env1 S)).bind fun k S1 => if k = true then (noX (f env1 S1)).bind fun x S2 => match x with
          | .dat y => if acc.length < sizeLine then lcF w g t f env0 n (i + 1) S2 (acc ++ [y]) else .bot
          | .loc _ => .bot
        else lcF w g t f env0 n (i + 1) S1 acc
      | none => .bot
    | _ => .bot
def nLc (wf : WF) (g : GF) (t : TF) (f : EF) (vs : List Nat) : NF := fun env S => (wf env S).bind fun w S1 => (lcF w g t f (wipeE env vs) (wkLen S1 w) 0 S1 []).bind fun acc S2 => .val (.lst acc) S2
structure STs (B : Base) (G : Gc) (e : En) (ifs : List Expr) (f : TF) : Prop where
  run : ∀ X wx, Cxt B.P B.w B.K B.mg B.base G e X wx → PTs X ifs (tT B.K B.cl e wx f)
def tAll : TF := fun _ S => .val true S
theorem sts_nil : STs B G e [] tAll := ⟨fun X wx C => ⟨fun pins s σ H Q I ⟨W, env, S, hH, R, q⟩ => by subst hH; exact pts_nil.run pins s σ W.H Q I (q true W R .refl rfl)⟩⟩
theorem sts_one {c : Expr} {f : TF} (h : ST B G e c f) : STs B G e [c] f := ⟨fun X wx C => pts_one (h.run X wx C)⟩
theorem plLc {elt : Expr} {gens : List Comprehension} {sc : Scope} {p : Pos} : Plain (.ListComp elt gens sc p) := ⟨fun _ _ => rfl, fun _ _ => rfl, fun _ _ => rfl, fun _ => rfl, fun _ _ => rfl⟩
/-- the context of a comprehension's block -/
def Gc.blk (G : Gc) (scope : Scope) : Gc := ⟨G.N, L2.relS scope G.sc, G.k, G.calm, false, fun x => scope.names.lookup x == some .cell || (L2.relS scope G.sc).names.lookup x == some .local⟩
theorem Cxt.blk {X : Cx} (C : Cxt B.P B.w B.K B.mg B.base G e X wx) {scope : Scope} {s : Shared} {H : Hp} {a : Addr} {l : List (Str × Addr)} {fp : List Addr} :
    Cxt B.P B.w B.K B.mg B.base (Gc.blk G scope) e (X.blk s H scope (compEnvC scope l a X.env) fp) (fun _ _ _ _ => False) := by
  refine ⟨C.prog, C.w, C.K, C.mg, C.base, C.N, ?_, C.nd, C.un, C.room, C.calm, takes0, fun x hx => ?_, PassesOwn.never, fun h => absurd h (by simp [Gc.blk]), fun h => absurd h (by simp [Gc.blk])⟩
  · show (compEnvC scope l a X.env).scope = L2.relS scope G.sc
    rw [← C.sc]; rfl
  · have hx : (scope.names.lookup x == some .cell || (L2.relS scope G.sc).names.lookup x == some .local) = true := hx
    rw [Bool.or_eq_true] at hx
    rcases hx with h | h
    · exact .inl h
    · exact .inr (by simpa [Gc.blk] using h)
/-- an outcome without exceptions, in a block -/
theorem post_noX {α β : Type} {rel : Wd → Nat → α → β → Prop} {Q' : β → Hp → Prop} {o : Out α} (q : postG rel K cl e (fun _ _ _ _ => False) W σ env S Q' (noX o)) {wx' : WX} : postG rel K cl e wx' W σ env S Q' o := by
  cases o with
  | val x S' => exact q
  | exc c p S' => exact q.elim
  | bot => exact q
structure LcInv (K : PySem.W.Frag) (cl : Str → Option Addr) (e : En) (W0 : Wd) (m0 : Nat) (W : Wd) (σ : L2.St) (env : List Slot) (S : List Cell) (p : Addr) (acc : List D) : Prop where
  R : FRel K cl e W σ env S
  st : StepW W0 m0 W S.length
  n : NewAt K cl e W env S p (.lst acc)
theorem NewAt.step {c : Cell} {p : Addr} (n : NewAt K cl e W env S p c) (s : StepW W S.length W1 S1.length) : NewAt K cl e W1 env S1 p c := by
  obtain ⟨u, hu⟩ := CellOk.some n.ok
  refine ⟨?_, CellOk.mono s.1.fs s.1.rr s.1.le (fun o q => s.1.hs p o q fun k hk z => n.gl k hk z.symm) n.ok, fun k hk z => ?_, fun i c' h z => n.lo i c' h (by rw [← s.2]; exact z), n.en⟩
  · cases q : W1.F p with
    | none => rfl
    | some o =>
      rcases s.1.fn p o q with z | z
      · rw [n.F] at z; cases z
      · rw [hu] at z; cases z
  · by_cases hm : k < S.length
    · exact n.gl k hm (by rw [← s.1.rr k hm]; exact z)
    · have := s.1.rn k (Nat.not_lt.mp hm) hk
      rw [z, hu] at this; cases this
/-- the new list grows -/
theorem LcInv.push {W0 : Wd} {m0 : Nat} {p : Addr} {acc : List D} {d : D} {v : V} {vs : List V} (I : LcInv K cl e W0 m0 W σ env S p acc) (h0 : W0.H p = none) (hv : W.H p = some (.lst vs)) (r : RepL K W.F W.ρ S.length acc vs) (rd : Rep K W.F W.ρ S.length d v) :
    LcInv K cl e W0 m0 ⟨W.F, upd W.H p (.lst (vs ++ [v])), W.ρ, W.l⟩ σ env S p (acc ++ [d]) := by
  have ne : ∀ {b : Addr}, b ≠ p → (upd W.H p (.lst (vs ++ [v]))) b = W.H b := fun h => upd_ne h
  have nF : ∀ b u, W.F b = some u → b ≠ p := fun b u q z => by subst z; rw [I.n.F] at q; cases q
  have sH : ∀ b u, b ≠ p → W.H b = some u → (upd W.H p (.lst (vs ++ [v]))) b = some u := fun b u h q => by rw [ne h]; exact q
  refine ⟨⟨fun b u q => sH b u (nF b u q) (I.R.sub b u q), fun n c h => ?_, I.R.inj, I.R.len, I.R.val, fun i c h => ?_, I.R.linj, ?_, I.R.err⟩, ⟨?_, I.st.2⟩, I.n.F, ⟨vs ++ [v], upd_same, RepL.append r (RepL.cons rd RepL.nil)⟩, I.n.gl, I.n.lo, I.n.en⟩
  · obtain ⟨h1, h2⟩ := I.R.glob n c h
    exact ⟨h1, CellOk.mono (Same.refl _) (fun _ _ => rfl) (Nat.le_refl _) (fun u q => sH _ u (I.n.gl n (List.getElem?_eq_some_iff.mp h).1) q) h2⟩
  · obtain ⟨h1, h2, h3, h4, h5⟩ := I.R.loc i c h
    exact ⟨h1, h2, CellOk.mono (Same.refl _) (fun _ _ => rfl) (Nat.le_refl _) (fun u q => sH _ u (I.n.lo i c h) q) h3, h4, h5⟩
  · have x := I.R.ext
    refine ⟨x.fs, x.fn, x.le, x.rr, x.rn, fun b h => ?_, fun b o h hn => ?_, fun b od u h => sH b _ (fun z => by subst z; have := x.fz _ _ _ h; rw [hv] at this; cases this) (x.fz b od u h)⟩
    · by_cases hb : b = p
      · subst hb; exact I.n.en
      · exact x.hd b (by rw [← ne hb]; exact h)
    · have : b ≠ p := fun z => by subst z; rw [I.n.en] at h; cases h
      exact sH b o this (x.hs b o h hn)
  · have x := I.st.1
    refine ⟨x.fs, x.fn, x.le, x.rr, x.rn, fun b h => ?_, fun b o h hn => ?_, fun b od u h => sH b _ (fun z => by subst z; have := x.fz _ _ _ h; rw [hv] at this; cases this) (x.fz b od u h)⟩
    · by_cases hb : b = p
      · subst hb; exact h0
      · exact x.hd b (by rw [← ne hb]; exact h)
    · have : b ≠ p := fun z => by subst z; rw [h0] at h; cases h
      exact sH b o this (x.hs b o h hn)
theorem lc_read {wi : WF} {g : GF} {ix vs : List Nat} {tt : TF} {f : EF} {σ : L2.St} {H : Hp} {Q : VK} (hx : ∀ i ∈ ix, i ∈ vs) (h : tN K cl e wx (nLc wi g tt f vs) σ H Q) :
    tLc (tI K cl e wx wi) (tG K cl e g ix) (tT K cl e (fun _ _ _ _ => False) tt) (tE K cl e (fun _ _ _ _ => False) f) vs σ H Q := by
  obtain ⟨W, env, S, rfl, R, q⟩ := h
  refine ⟨W, env, S, rfl, R, postN.seq q fun w S1 J W1 R1 s1 hw q1 => fun p hp => ?_⟩
  refine ⟨fun i m H => ∃ W2 S2 acc, W2.H = H ∧ LcInv K cl e W1 S1.length W2 σ env S2 p acc ∧ IsWk K W2 S2.length J w ∧
    postN K cl e wx W1 σ env S1 Q ((lcF w g tt f (wipeE env vs) m i S2 acc).bind fun acc S2 => .val (.lst acc) S2), ⟨wkLen S1 w, W1.lay p (.lst []), S1, [], rfl, ?_, hw.stepF (R1.lay hp (.lst [])).2.f, q1⟩, fun i m H ⟨W2, S2, acc, hH, I, hw2, q2⟩ => ?_⟩
  · obtain ⟨R', st⟩ := R1.lay hp (.lst [])
    exact ⟨R', st, R1.newAt hp ⟨[], upd_same, rfl⟩⟩
  subst hH
  cases m with
  | zero =>
    unfold lcF at q2
    cases h1 : wkAt S2 i w with
    | none => rw [h1] at q2; exact q2.elim
    | some o =>
      cases o with
      | none => rw [h1] at q2; exact .inl ⟨wk_stop (m := 0) I.R hw2 h1, q2 p W2 I.R I.st hp I.n⟩
      | some d => rw [h1] at q2; exact q2.elim
  | succ m =>
    unfold lcF at q2
    cases h1 : wkAt S2 i w with
    | none => rw [h1] at q2; exact q2.elim
    | some o =>
      cases o with
      | none => rw [h1] at q2; exact q2.elim
      | some d =>
        rw [h1] at q2
        dsimp only at q2
        cases h2 : g d (wipeE env vs) S2 with
        | none => rw [h2] at q2; exact q2.elim
        | some env1 =>
          rw [h2] at q2
          dsimp only at q2
          obtain ⟨go, yl⟩ := wk_go I.R hw2 h1
          refine .inr ⟨go, fun H' => ∃ W2 S2 acc, W2.H = H' ∧ LcInv K cl e W1 S1.length W2 σ env S2 p acc ∧ IsWk K W2 S2.length J w ∧
            postN K cl e wx W1 σ env S1 Q ((lcF w g tt f (wipeE env vs) m (i + 1) S2 acc).bind fun acc S2 => .val (.lst acc) S2), fun H' h => ⟨m, Nat.lt_succ_self m, h⟩, fun x H' hy => ?_⟩
          obtain ⟨rfl, rx⟩ := yl x H' hy
          refine ⟨W2, wipeE env vs, S2, d, env1, rfl, I.R.wipe vs, rx, h2, fun σ2 o2 R2 => ⟨wipe_off o2 hx, W2, env1, S2, rfl, R2, ?_⟩⟩
          cases hk : tt env1 S2 with
          | bot => rw [hk] at q2; exact q2.elim
          | exc c pl S3 => rw [hk] at q2; exact q2.elim
          | val k S3 =>
            rw [hk] at q2
            intro k' W3 R3 s3 rk
            subst rk
            cases k' with
            | false =>
              obtain ⟨R3', st3⟩ := I.R.call R3.grel s3.1
              have e3 : (⟨W3.F, W3.H, W3.ρ, W2.l⟩ : Wd) = W3 := by rw [← s3.2]
              rw [e3] at R3' st3
              exact ⟨W3, S3, acc, rfl, ⟨R3', I.st.trans s3, I.n.step s3⟩, hw2.stepF s3.f, q2⟩
            | true =>
              refine ⟨W3, env1, S3, rfl, R3, ?_⟩
              have q2 : postN K cl e wx W1 σ env S1 Q (((noX (f env1 S3)).bind fun x S2 => match x with
                | .dat y => if acc.length < sizeLine then lcF w g tt f (wipeE env vs) m (i + 1) S2 (acc ++ [y]) else .bot
                | .loc _ => .bot).bind fun acc S2 => .val (.lst acc) S2) := q2
              cases hf : f env1 S3 with
              | bot => rw [hf] at q2; exact q2.elim
              | exc c pl S4 => rw [hf] at q2; exact q2.elim
              | val y S4 =>
                rw [hf] at q2
                intro v W4 R4 s4 ry
                cases y with
                | loc i => exact q2.elim
                | dat y =>
                  have s24 := s3.trans s4
                  obtain ⟨R4', st4⟩ := I.R.call R4.grel s24.1
                  have e4 : (⟨W4.F, W4.H, W4.ρ, W2.l⟩ : Wd) = W4 := by rw [← s24.2]
                  rw [e4] at R4' st4
                  have I4 : LcInv K cl e W1 S1.length W4 σ env S4 p acc := ⟨R4', I.st.trans s24, I.n.step s24⟩
                  obtain ⟨us, hu, ru⟩ := I4.n.ok
                  by_cases hl : acc.length < sizeLine
                  · have q2 : postN K cl e wx W1 σ env S1 Q ((if acc.length < sizeLine then lcF w g tt f (wipeE env vs) m (i + 1) S4 (acc ++ [y]) else .bot).bind fun acc S2 => .val (.lst acc) S2) := q2
                    rw [if_pos hl] at q2
                    refine ⟨us, hu, by rw [← ru.length]; exact hl, ⟨W4.F, upd W4.H p (.lst (us ++ [v])), W4.ρ, W4.l⟩, S4, acc ++ [y], rfl, I4.push hp hu ru ry, ?_, q2⟩
                    have := hw2.stepF s24.f
                    cases w with
                    | sq d => exact this
                    | rng lo n => exact this
                    | txt z => exact this
                  · have q2 : postN K cl e wx W1 σ env S1 Q ((if acc.length < sizeLine then lcF w g tt f (wipeE env vs) m (i + 1) S4 (acc ++ [y]) else .bot).bind fun acc S2 => .val (.lst acc) S2) := q2
                    rw [if_neg hl] at q2
                    exact q2.elim
theorem sn_lc {elt tg iter : Expr} {ifs : List Expr} {scope : Scope} (own : List (Str × Nat)) {pos : Pos} {wi : WF} {g : GF} {ix : List Nat} {tt : TF} {f : EF} (hi : SI B G e tg iter wi) (hg : SG B (Gc.blk G scope) e tg g ix) (ht : STs B (Gc.blk G scope) e ifs tt) (he : SE B (Gc.blk G scope) e elt f)
    (ok : BlkOk G.N G.sc scope own) (hx : ∀ i ∈ ix, i ∈ own.map (·.2) := by decide) (hc : G.calm = true := by rfl) : SN B G e (.ListComp elt [⟨tg, iter, ifs, 0⟩] scope pos) (nLc wi g tt f (own.map (·.2))) := by
  refine ⟨fun X wx C => ⟨fun pins s σ H Q I h => ?_⟩, plLc⟩
  have ok' : BlkOk X.N X.env.scope scope own := by rw [C.N, C.sc]; exact ok
  refine (pe_lc (own := own) (wi := tI B.K B.cl e wx wi) (g := tG B.K B.cl e g ix) (tt := tT B.K B.cl e (fun _ _ _ _ => False) tt) (te := tE B.K B.cl e (fun _ _ _ _ => False) f) (C.calm hc) (by rw [C.N]; exact C.nd) (hi.run X wx C) ok' ?_ ?_ ?_ (hi.fs X.env)).run pins s σ H Q I (lc_read hx h)
  · exact fun s H a l fp => hg.run _ _ C.blk
  · exact fun s H a l fp => ht.run _ _ C.blk
  · exact fun s H a l fp => he.run _ _ C.blk
end
end Ev

namespace Ev
open PySem L2 PyProof.Rows
section
variable {B : Base} {G : Gc} {e : En} {K : PySem.W.Frag} {cl : Str → Option Addr} {wx : WX} {W W1 : Wd} {σ : L2.St} {env : List Slot} {S S1 : List Cell} {Q : VK}
/-! ### a slot's own, a shared thing -/
theorem set_old {i j : Nat} {s s' : Slot} (h : (env.set i s)[j]? = some s') : (i = j ∧ s' = s) ∨ (i ≠ j ∧ env[j]? = some s') := by
  by_cases hj : i = j
  · subst hj
    by_cases hl : i < env.length
    · rw [List.getElem?_set_self hl] at h; cases h; exact .inl ⟨rfl, rfl⟩
    · rw [List.getElem?_eq_none (by simpa using Nat.not_lt.mp hl)] at h; cases h
  · rw [List.getElem?_set_ne hj] at h; exact .inr ⟨hj, h⟩
theorem set_here {i : Nat} {v : Option V} {s s' : Slot} (hl : σ.length = env.length) (h : (env.set i s)[i]? = some s') : (σ.set i v)[i]? = some v := by
  by_cases hi : i < env.length
  · exact List.getElem?_set_self (by rw [hl]; exact hi)
  · rw [List.getElem?_eq_none (by simpa using Nat.not_lt.mp hi)] at h; cases h
theorem FRel.setL (R : FRel K cl e W σ env S) {i : Nat} {p : Addr} {c : Cell} (n : NewAt K cl e W env S p c) :
    FRel K cl e ⟨W.F, W.H, W.ρ, fun j => if j = i then p else W.l j⟩ (σ.set i (some (.ref p))) (env.set i (.loc c)) S := by
  refine ⟨R.sub, R.glob, R.inj, by rw [List.length_set, List.length_set]; exact R.len, fun j d h => ?_, fun j c' h => ?_, fun j k c1 c2 h1 h2 q => ?_, R.ext, R.err_set (fun _ _ z => nomatch z)⟩
  · rcases set_old h with ⟨_, z⟩ | ⟨hj, h⟩
    · cases z
    · rw [List.getElem?_set_ne hj]; exact R.val j d h
  · rcases set_old h with ⟨rfl, z⟩ | ⟨hj, h'⟩
    · cases z
      have e0 : (if i = i then p else W.l i) = p := if_pos rfl
      dsimp only
      rw [e0]
      exact ⟨set_here R.len h, n.F, n.ok, n.en, fun k hk => n.gl k hk⟩
    · have e0 : (if j = i then p else W.l j) = W.l j := if_neg (Ne.symm hj)
      dsimp only
      rw [e0, List.getElem?_set_ne hj]
      exact R.loc j c' h'
  · dsimp only at q
    rcases set_old h1 with ⟨rfl, _⟩ | ⟨hj, h1⟩
    · rcases set_old h2 with ⟨rfl, _⟩ | ⟨hk, h2⟩
      · rfl
      · rw [if_pos rfl, if_neg (Ne.symm hk)] at q
        exact absurd q.symm (n.lo k c2 h2)
    · rcases set_old h2 with ⟨rfl, _⟩ | ⟨hk, h2⟩
      · rw [if_pos rfl, if_neg (Ne.symm hj)] at q
        exact absurd q (n.lo j c1 h1)
      · rw [if_neg (Ne.symm hj), if_neg (Ne.symm hk)] at q
        exact R.linj j k c1 c2 h1 h2 q
/-- a new thing becomes a shared one, the last -/
theorem FRel.share (R : FRel K cl e W σ env S) {p : Addr} {c : Cell} (n : NewAt K cl e W env S p c) :
    FRel K cl e ⟨W.F, W.H, fun j => if j = S.length then p else W.ρ j, W.l⟩ σ env (S ++ [c]) ∧ StepF W S.length ⟨W.F, W.H, fun j => if j = S.length then p else W.ρ j, W.l⟩ (S ++ [c]).length := by
  have rr : ∀ j, j < S.length → (if j = S.length then p else W.ρ j) = W.ρ j := fun j h => if_neg (Nat.ne_of_lt h)
  have le : S.length ≤ (S ++ [c]).length := by simp
  have ob : ∀ {j : Nat}, j < (S ++ [c]).length → j < S.length ∨ j = S.length := fun {j} h => by
    rw [List.length_append, List.length_singleton] at h; omega
  refine ⟨⟨R.sub, fun j c' h => ?_, fun i j hi hj q => ?_, R.len, fun i d h => ?_, fun i c' h => ?_, R.linj, ?_, fun i c q h => (R.err i c q h).mono (Same.refl _) rr le⟩, Same.refl _, rr, le, fun _ _ _ h => h⟩
  · rcases ob (List.getElem?_eq_some_iff.mp h).1 with hj | hj
    · rw [List.getElem?_append_left hj] at h
      obtain ⟨h1, h2⟩ := R.glob j c' h
      dsimp only
      rw [rr j hj]
      exact ⟨h1, CellOk.mono (Same.refl _) rr le (fun _ q => q) h2⟩
    · subst hj
      rw [List.getElem?_append_right (Nat.le_refl _), Nat.sub_self] at h
      cases h
      dsimp only
      rw [if_pos rfl]
      exact ⟨n.F, CellOk.mono (Same.refl _) rr le (fun _ q => q) n.ok⟩
  · dsimp only at q
    rcases ob hi with hi | hi
    · rcases ob hj with hj | hj
      · rw [rr i hi, rr j hj] at q; exact R.inj i j hi hj q
      · subst hj
        rw [rr i hi, if_pos rfl] at q
        exact absurd q (n.gl i hi)
    · subst hi
      rcases ob hj with hj | hj
      · rw [rr j hj, if_pos rfl] at q
        exact absurd q.symm (n.gl j hj)
      · exact hj.symm
  · obtain ⟨v, h1, h2⟩ := R.val i d h
    exact ⟨v, h1, Rep.mono (Same.refl _) rr le _ _ h2⟩
  · obtain ⟨h1, h2, h3, h4, h5⟩ := R.loc i c' h
    refine ⟨h1, h2, CellOk.mono (Same.refl _) rr le (fun _ q => q) h3, h4, fun j hj => ?_⟩
    dsimp only
    rcases ob hj with hj | hj
    · rw [rr j hj]; exact h5 j hj
    · subst hj
      rw [if_pos rfl]
      exact fun z => n.lo i c' h z.symm
  · have x := R.ext
    refine ⟨x.fs, x.fn, Nat.le_trans x.le le, fun j hj => ?_, fun j h1 h2 => ?_, x.hd, x.hs, x.fz⟩
    · dsimp only; rw [rr j (Nat.lt_of_lt_of_le hj x.le)]; exact x.rr j hj
    · rcases ob h2 with h2 | h2
      · dsimp only; rw [rr j h2]; exact x.rn j h1 h2
      · subst h2
        dsimp only; rw [if_pos rfl]; exact n.en

/-! ### places -/
inductive Pl where
  | l (i : Nat) | g (n : Nat)
def plOf : XD → Option Pl
  | .loc i => some (.l i)
  | .dat (.own n) => some (.g n)
  | _ => none
def cellOf (env : List Slot) (S : List Cell) : Pl → Option Cell
  | .l i => match env[i]? with | some (.loc c) => some c | _ => none
  | .g n => S[n]?
def putE (env : List Slot) (c : Cell) : Pl → List Slot
  | .l i => env.set i (.loc c)
  | .g _ => env
def putS (S : List Cell) (c : Cell) : Pl → List Cell
  | .g n => S.set n c
  | .l _ => S
def plAddr (W : Wd) : Pl → Addr
  | .l i => W.l i
  | .g n => W.ρ n
theorem plOf_ref {m : Nat} {x : XD} {v : V} {p : Pl} (r : RepX K W m x v) (h : plOf x = some p) : v = .ref (plAddr W p) := by
  cases x with
  | loc i => cases h; exact r
  | dat d =>
    cases d with
    | own n => cases h; exact r.2
    | _ => cases h
theorem FRel.cell (R : FRel K cl e W σ env S) {p : Pl} {c : Cell} (h : cellOf env S p = some c) : CellOk K cl W.F W.ρ S.length W.H (plAddr W p) c := by
  cases p with
  | l i =>
    simp only [cellOf] at h
    split at h
    · rename_i c' he
      cases h
      exact (R.loc i c he).2.2.1
    · cases h
  | g n => exact (R.glob n c h).2
-- what is locked stays at a write
theorem FRel.wfz (R : FRel K cl e W σ env S) {p : Pl} {c : Cell} {o : HO} (h : cellOf env S p = some c) (hul : unl c = true := by rfl) : ∀ b od u, W.H b = some (.frz od u) → (upd W.H (plAddr W p) o) b = some (.frz od u) := fun b od u q => by
  rw [upd_ne fun z => ?_]; exact q
  subst z
  exact CellOk.unl (R.cell h) hul od u q
/-- a thing at its place is changed -/
theorem FRel.write (R : FRel K cl e W σ env S) {p : Pl} {c c' : Cell} {o : HO} (h : cellOf env S p = some c) (ok : CellOk K cl W.F W.ρ S.length (upd W.H (plAddr W p) o) (plAddr W p) c') (hul : unl c = true := by rfl) :
    FRel K cl e ⟨W.F, upd W.H (plAddr W p) o, W.ρ, W.l⟩ σ (putE env c' p) (putS S c' p) ∧ (putS S c' p).length = S.length := by
  have len : (putS S c' p).length = S.length := by cases p <;> simp [putS]
  have oc := R.cell h
  obtain ⟨u0, hu0⟩ := CellOk.some oc
  have nF : ∀ b u, W.F b = some u → b ≠ plAddr W p := fun b u q z => by
    subst z
    cases p with
    | l i =>
      simp only [cellOf] at h
      split at h
      · rename_i c'' he
        have := (R.loc i _ he).2.1
        rw [show plAddr W (.l i) = W.l i from rfl, this] at q; cases q
      · cases h
    | g n =>
      have := (R.glob n c h).1
      rw [show plAddr W (.g n) = W.ρ n from rfl, this] at q; cases q
  have sH : ∀ {b u}, b ≠ plAddr W p → W.H b = some u → (upd W.H (plAddr W p) o) b = some u := fun {b u} hb q => by rw [upd_ne hb]; exact q
  have nZ : ∀ b od u, W.H b = some (.frz od u) → b ≠ plAddr W p := fun b od u q z => by
    subst z
    exact CellOk.unl oc hul od u q
  have neE : ∀ b u, e.H b = some u → (∀ n, n < e.m → b ≠ e.ρ n) → b ≠ plAddr W p := fun b u q hn z => by
    subst z
    cases p with
    | l i =>
      simp only [cellOf] at h
      split at h
      · rename_i c'' he
        have := (R.loc i _ he).2.2.2.1
        rw [show plAddr W (.l i) = W.l i from rfl, this] at q; cases q
      · cases h
    | g n =>
      have hl : n < S.length := (List.getElem?_eq_some_iff.mp h).1
      by_cases hm : n < e.m
      · exact hn n hm (R.ext.rr n hm)
      · have := R.ext.rn n (Nat.not_lt.mp hm) hl
        rw [show plAddr W (.g n) = W.ρ n from rfl, this] at q; cases q
  refine ⟨⟨fun b u q => sH (nF b u q) (R.sub b u q), fun n c2 h2 => ?_, fun i j hi hj => R.inj i j (by rw [← len]; exact hi) (by rw [← len]; exact hj), ?_, fun i d h2 => ?_, fun i c2 h2 => ?_, fun i j c1 c2 h1 h2 => ?_, ?_, fun i c q h2 => ?err⟩, len⟩
  case err =>
    rw [len]
    cases p with
    | g n => exact R.err i c q h2
    | l j => exact R.err i c q (set_err (by intro _ _ z; cases z) h2).2
  · rw [len]
    cases p with
    | l i =>
      obtain ⟨h3, h4⟩ := R.glob n c2 h2
      simp only [cellOf] at h
      split at h
      · rename_i c'' he
        have := (R.loc i _ he).2.2.2.2 n (List.getElem?_eq_some_iff.mp h2).1
        exact ⟨h3, CellOk.mono (Same.refl _) (fun _ _ => rfl) (Nat.le_refl _) (fun u q => sH this q) h4⟩
      · cases h
    | g k =>
      have hk : k < S.length := (List.getElem?_eq_some_iff.mp h).1
      by_cases hn : k = n
      · subst hn
        have h2 : (S.set k c')[k]? = some c2 := h2
        rw [List.getElem?_set_self hk] at h2
        cases h2
        exact ⟨(R.glob k c h).1, ok⟩
      · have h2 : (S.set k c')[n]? = some c2 := h2
        rw [List.getElem?_set_ne hn] at h2
        obtain ⟨h3, h4⟩ := R.glob n c2 h2
        have : W.ρ n ≠ W.ρ k := fun z => hn (R.inj n k (List.getElem?_eq_some_iff.mp h2).1 hk z).symm
        exact ⟨h3, CellOk.mono (Same.refl _) (fun _ _ => rfl) (Nat.le_refl _) (fun u q => sH this q) h4⟩
  · cases p with
    | l i => show _ = (env.set i _).length; rw [List.length_set]; exact R.len
    | g n => exact R.len
  · rw [len]
    have h2 : env[i]? = some (.val d) := by
      cases p with
      | l j =>
        rcases set_old h2 with ⟨_, z⟩ | ⟨_, z⟩
        · cases z
        · exact z
      | g n => exact h2
    exact R.val i d h2
  · rw [len]
    cases p with
    | l j =>
      rcases set_old h2 with ⟨rfl, z⟩ | ⟨hj, h3⟩
      · cases z
        simp only [cellOf] at h
        split at h
        · rename_i c'' he
          obtain ⟨a1, a2, a3, a4, a5⟩ := R.loc j _ he
          exact ⟨a1, a2, ok, a4, a5⟩
        · cases h
      · obtain ⟨a1, a2, a3, a4, a5⟩ := R.loc i _ h3
        simp only [cellOf] at h
        split at h
        · rename_i c'' he
          have : W.l i ≠ W.l j := fun z => hj (R.linj i j _ _ h3 he z).symm
          exact ⟨a1, a2, CellOk.mono (Same.refl _) (fun _ _ => rfl) (Nat.le_refl _) (fun u q => sH this q) a3, a4, a5⟩
        · cases h
    | g n =>
      obtain ⟨a1, a2, a3, a4, a5⟩ := R.loc i _ h2
      have : W.l i ≠ W.ρ n := fun z => a5 n (List.getElem?_eq_some_iff.mp h).1 z.symm
      exact ⟨a1, a2, CellOk.mono (Same.refl _) (fun _ _ => rfl) (Nat.le_refl _) (fun u q => sH this q) a3, a4, a5⟩
  · have old : ∀ {k : Nat} {c0 : Cell}, (putE env c' p)[k]? = some (.loc c0) → ∃ c3, env[k]? = some (.loc c3) := fun {k c0} hk => by
      cases p with
      | l j =>
        rcases set_old hk with ⟨rfl, _⟩ | ⟨_, z⟩
        · simp only [cellOf] at h
          split at h
          · rename_i c'' he; exact ⟨_, he⟩
          · cases h
        · exact ⟨_, z⟩
      | g n => exact ⟨_, hk⟩
    obtain ⟨_, g1⟩ := old h1
    obtain ⟨_, g2⟩ := old h2
    exact R.linj i j _ _ g1 g2
  · have x := R.ext
    rw [len]
    refine ⟨x.fs, x.fn, x.le, x.rr, x.rn, fun b hb => ?_, fun b u hb hn => sH (neE b u hb hn) (x.hs b u hb hn), fun b od u hb => sH (nZ b od u (x.fz b od u hb)) (x.fz b od u hb)⟩
    have hb : (upd W.H (plAddr W p) o) b = none := hb
    by_cases hp : b = plAddr W p
    · subst hp; rw [show (upd W.H (plAddr W p) o) (plAddr W p) = some o from upd_same] at hb; cases hb
    · exact x.hd b (by rw [show (upd W.H (plAddr W p) o) b = W.H b from upd_ne hp] at hb; exact hb)

/-! ### statements that make or change things -/
/-- x = something new: into the slot as its own -/
def sSetL (i : Nat) (f : NF) : SF := fun env S => (f env S).then env fun c S1 => .nx (env.set i (.loc c)) S1
/-- .. as a shared thing -/
def sSetG (i : Nat) (f : NF) : SF := fun env S => (f env S).then env fun c S1 => .nx (env.set i (.val (.own S1.length))) (S1 ++ [c])
/-- .. as data -/
def sSetN (i : Nat) (f : NF) : SF := fun env S => (f env S).then env fun c S1 => match c with
  | .lst ds => .nx (env.set i (.val (.lst ds))) S1
  | _ => .bot
def sRetG (f : NF) : SF := fun env S => (f env S).then env fun c S1 => .rt (.own S1.length) (S1 ++ [c])
theorem postS.thenN {D : Ends} {f : NF} {k : Cell → List Cell → SOut} (q : postS K cl e wx W S D ((f env S).then env k))
    (h : ∀ c S1 p W1, FRel K cl e W1 σ env S1 → StepW W S.length W1 S1.length → W.H p = none → NewAt K cl e W1 env S1 p c → postS K cl e wx W1 S1 D (k c S1) → Q (.ref p) W1.H) : postN K cl e wx W σ env S Q (f env S) := by
  cases hf : f env S with
  | val c S' => rw [hf] at q; exact fun p W' R' s' h0 n => h c S' p W' R' s' h0 n (postS.shift q s'.f)
  | exc c p S' => rw [hf] at q; exact fun cls dx W' R' s' r => q cls dx σ W' R' s'.f r
  | bot => rw [hf] at q; exact q
theorem setL_read {i : Nat} {f : NF} {D : Ends} {H : Hp} (h : tS K cl e wx (sSetL i f) D σ H) : tN K cl e wx f σ H fun v H1 => D.nx (σ.set i (some v)) H1 := by
  obtain ⟨W, env, S, rfl, R, q⟩ := h
  exact ⟨W, env, S, rfl, R, postS.thenN q fun c S1 p W1 R1 s1 h0 n q1 => q1 _ ⟨W1.F, W1.H, W1.ρ, fun j => if j = i then p else W1.l j⟩ (R1.setL n) ⟨Same.refl _, fun _ _ => rfl, Nat.le_refl _, fun _ _ _ h => h⟩⟩
theorem setG_read {i : Nat} {f : NF} {D : Ends} {H : Hp} (h : tS K cl e wx (sSetG i f) D σ H) : tN K cl e wx f σ H fun v H1 => D.nx (σ.set i (some v)) H1 := by
  obtain ⟨W, env, S, rfl, R, q⟩ := h
  refine ⟨W, env, S, rfl, R, postS.thenN q fun c S1 p W1 R1 s1 h0 n q1 => ?_⟩
  obtain ⟨R2, s2⟩ := R1.share n
  exact q1 _ ⟨W1.F, W1.H, fun j => if j = S1.length then p else W1.ρ j, W1.l⟩ (R2.set (v := .ref p) (d := .own S1.length) ⟨by simp, by dsimp only; rw [if_pos rfl]⟩) s2
theorem setN_read {i : Nat} {f : NF} {D : Ends} {H : Hp} (h : tS K cl e wx (sSetN i f) D σ H) : tN K cl e wx f σ H fun v H1 => D.nx (σ.set i (some v)) H1 := by
  obtain ⟨W, env, S, rfl, R, q⟩ := h
  refine ⟨W, env, S, rfl, R, postS.thenN q fun c S1 p W1 R1 s1 h0 n q1 => ?_⟩
  cases c with
  | lst ds =>
    obtain ⟨W2, e1, R2, s2, f2, r2⟩ := R1.freeze s1 h0 n
    rw [← e1]
    exact q1 _ W2 (R2.set r2) f2
  | _ => exact q1.elim

theorem retG_read {f : NF} {D : Ends} {H : Hp} (h : tS K cl e wx (sRetG f) D σ H) : tN K cl e wx f σ H D.rt := by
  obtain ⟨W, env, S, rfl, R, q⟩ := h
  refine ⟨W, env, S, rfl, R, postS.thenN q fun c S1 p W1 R1 s1 h0 n q1 => ?_⟩
  obtain ⟨R2, s2⟩ := R1.share n
  exact q1 (.ref p) σ ⟨W1.F, W1.H, fun j => if j = S1.length then p else W1.ρ j, W1.l⟩ env R2 s2 ⟨by simp, by dsimp only; rw [if_pos rfl]⟩
theorem ss_retG {a : Expr} {f : NF} {pos : Pos} (ha : SN B G e a f) : SS B G e (.Return (some a) pos) (sRetG f) := ⟨fun X wx C => PS.imp (ps_ret (ha.run X wx C)) fun D σ H h => retG_read h⟩
section
variable {i : Nat} {x : Str} {a : Expr} {f : NF} {pos pos' : Pos}
theorem ss_setL (i : Nat) (ha : SN B G e a f) (hN : G.N[i]? = some x := by rfl) (hv : Loc G.sc x := by first | exact Or.inl rfl | exact Or.inr rfl) (hs : ∀ t l env, swapsWith a t l env = pure false := by intro _ _ _; rfl) (hf : G.fn x = true := by rfl) :
    SS B G e (.Assign [.Name x pos'] a pos) (sSetL i f) :=
  ⟨fun X wx C => PS.imp (ps_set (by rw [C.N]; exact C.nd) (by rw [C.N]; exact hN) (by rw [C.sc]; exact hv) (ha.run X wx C) (hs _ _ _) (by rw [C.sc]; exact C.fn x hf)) fun D σ H h => setL_read h⟩
theorem ss_setG (i : Nat) (ha : SN B G e a f) (hN : G.N[i]? = some x := by rfl) (hv : Loc G.sc x := by first | exact Or.inl rfl | exact Or.inr rfl) (hs : ∀ t l env, swapsWith a t l env = pure false := by intro _ _ _; rfl) (hf : G.fn x = true := by rfl) :
    SS B G e (.Assign [.Name x pos'] a pos) (sSetG i f) :=
  ⟨fun X wx C => PS.imp (ps_set (by rw [C.N]; exact C.nd) (by rw [C.N]; exact hN) (by rw [C.sc]; exact hv) (ha.run X wx C) (hs _ _ _) (by rw [C.sc]; exact C.fn x hf)) fun D σ H h => setG_read h⟩
end
/-! x = [.. for ..]: the stores are exchanged where x is a local; it is as any other where x is a cell -/
structure LcParts (B : Base) (G : Gc) (e : En) (elt tg iter : Expr) (ifs : List Expr) (scope : Scope) (own : List (Str × Nat)) (wi : WF) (g : GF) (ix : List Nat) (tt : TF) (f : EF) : Prop where
  hi : SI B G e tg iter wi
  hg : SG B (Gc.blk G scope) e tg g ix
  ht : STs B (Gc.blk G scope) e ifs tt
  he : SE B (Gc.blk G scope) e elt f
  ok : BlkOk G.N G.sc scope own
  hx : ∀ i ∈ ix, i ∈ own.map (·.2)
  hc : G.calm = true
section
variable {elt tg iter : Expr} {ifs : List Expr} {scope : Scope} {own : List (Str × Nat)} {wi : WF} {g : GF} {ix : List Nat} {tt : TF} {f : EF} {pos spos py : Pos} {i : Nat} {y : Str}
theorem LcParts.sn (h : LcParts B G e elt tg iter ifs scope own wi g ix tt f) : SN B G e (.ListComp elt [⟨tg, iter, ifs, 0⟩] scope pos) (nLc wi g tt f (own.map (·.2))) := sn_lc own h.hi h.hg h.ht h.he h.ok h.hx h.hc
theorem lc_ps (h : LcParts B G e elt tg iter ifs scope own wi g ix tt f) {X : Cx} {wx : WX} (C : Cxt B.P B.w B.K B.mg B.base G e X wx) (hN : G.N[i]? = some y) (hy : G.sc.names.lookup y = some .local) (hk : G.sc.kind = .function) (hl : (py.line == pos.line) = true)
    (ha : (scope.names.any fun (n, k) => n == y && (k == .local || k == .cell)) = false) :
    PS X (.Assign [.Name y py] (.ListComp elt [⟨tg, iter, ifs, 0⟩] scope pos) spos) (fun D σ H => tN B.K B.cl e wx (nLc wi g tt f (own.map (·.2))) σ H fun v H1 => D.nx (σ.set i (some v)) H1) := by
  have ok' : BlkOk X.N X.env.scope scope own := by rw [C.N, C.sc]; exact h.ok
  refine PS.imp (ps_setLc (i := i) (own := own) (wi := tI B.K B.cl e wx wi) (g := tG B.K B.cl e g ix) (tt := tT B.K B.cl e (fun _ _ _ _ => False) tt) (te := tE B.K B.cl e (fun _ _ _ _ => False) f) (C.calm h.hc) (by rw [C.N]; exact C.nd) (by rw [C.N]; exact hN) (by rw [C.sc]; exact hy)
    (sw_true (by rw [C.sc]; exact hk) (by rw [C.sc]; exact hy) hl ha) (h.hi.run X wx C) ok' ?_ ?_ ?_ (h.hi.fs X.env)) fun D σ H hq => lc_read h.hx hq
  · exact fun s H a l fp => h.hg.run _ _ C.blk
  · exact fun s H a l fp => h.ht.run _ _ C.blk
  · exact fun s H a l fp => h.he.run _ _ C.blk
theorem ss_lcL (i : Nat) (h : LcParts B G e elt tg iter ifs scope own wi g ix tt f) (hN : G.N[i]? = some y := by rfl) (hy : G.sc.names.lookup y = some .local := by rfl) (hk : G.sc.kind = .function := by rfl) (hl : (py.line == pos.line) = true := by rfl)
    (ha : (scope.names.any fun (n, k) => n == y && (k == .local || k == .cell)) = false := by decide +kernel) : SS B G e (.Assign [.Name y py] (.ListComp elt [⟨tg, iter, ifs, 0⟩] scope pos) spos) (sSetL i (nLc wi g tt f (own.map (·.2)))) :=
  ⟨fun X wx C => PS.imp (lc_ps h C hN hy hk hl ha) fun D σ H q => setL_read q⟩
theorem ss_lcN (i : Nat) (h : LcParts B G e elt tg iter ifs scope own wi g ix tt f) (hN : G.N[i]? = some y := by rfl) (hy : G.sc.names.lookup y = some .local := by rfl) (hk : G.sc.kind = .function := by rfl) (hl : (py.line == pos.line) = true := by rfl)
    (ha : (scope.names.any fun (n, k) => n == y && (k == .local || k == .cell)) = false := by decide +kernel) : SS B G e (.Assign [.Name y py] (.ListComp elt [⟨tg, iter, ifs, 0⟩] scope pos) spos) (sSetN i (nLc wi g tt f (own.map (·.2)))) :=
  ⟨fun X wx C => PS.imp (lc_ps h C hN hy hk hl ha) fun D σ H q => setN_read q⟩
theorem sw_cell {t : Str} {q : Pos} {l : Nat} {env : PySem.Env} (hy : env.scope.names.lookup t ≠ some .local) : swapsWith (.ListComp elt [⟨tg, iter, ifs, 0⟩] scope pos) (some (.Name t q)) l env = pure false := by
  have hk : (env.kindOf t == some NameKind.local) = false := by
    unfold Env.kindOf
    exact beq_eq_false_iff_ne.mpr hy
  unfold swapsWith
  simp only [hk, Bool.and_false, Bool.false_and]
theorem ss_lcC (i : Nat) (h : LcParts B G e elt tg iter ifs scope own wi g ix tt f) (hN : G.N[i]? = some y := by rfl) (hy : G.sc.names.lookup y = some .cell := by rfl) (hf : G.fn y = true := by rfl) :
    SS B G e (.Assign [.Name y py] (.ListComp elt [⟨tg, iter, ifs, 0⟩] scope pos) spos) (sSetN i (nLc wi g tt f (own.map (·.2)))) :=
  ⟨fun X wx C => PS.imp (ps_set (by rw [C.N]; exact C.nd) (by rw [C.N]; exact hN) (by rw [C.sc]; exact .inr hy) (h.sn.run X wx C) (sw_cell (by rw [C.sc, hy]; intro z; cases z)) (by rw [C.sc]; exact C.fn y hf)) fun D σ H q => setN_read q⟩
theorem ss_lcCL (i : Nat) (h : LcParts B G e elt tg iter ifs scope own wi g ix tt f) (hN : G.N[i]? = some y := by rfl) (hy : G.sc.names.lookup y = some .cell := by rfl) (hf : G.fn y = true := by rfl) :
    SS B G e (.Assign [.Name y py] (.ListComp elt [⟨tg, iter, ifs, 0⟩] scope pos) spos) (sSetL i (nLc wi g tt f (own.map (·.2)))) :=
  ⟨fun X wx C => PS.imp (ps_set (by rw [C.N]; exact C.nd) (by rw [C.N]; exact hN) (by rw [C.sc]; exact .inr hy) (h.sn.run X wx C) (sw_cell (by rw [C.sc, hy]; intro z; cases z)) (by rw [C.sc]; exact C.fn y hf)) fun D σ H q => setL_read q⟩
end
/-! ### a slot's own becomes data -/
def frzE (i : Nat) (env : List Slot) : List Slot := match env[i]? with
  | some (.loc (.lst ds)) => env.set i (.val (.lst ds))
  | _ => env
theorem FRel.frz (R : FRel K cl e W σ env S) (i : Nat) : ∃ W', W'.H = W.H ∧ FRel K cl e W' σ (frzE i env) S ∧ StepF W S.length W' S.length := by
  unfold frzE
  split
  · rename_i ds he
    obtain ⟨h1, h2, ⟨vs, hp, r⟩, h4, h5⟩ := R.loc i _ he
    have sF : Same W.F (upd W.F (W.l i) (.lst vs)) := same_upd h2
    refine ⟨⟨upd W.F (W.l i) (.lst vs), W.H, W.ρ, W.l⟩, rfl, ⟨fun b u q => ?_, fun m c h => ?_, R.inj, by rw [List.length_set]; exact R.len, fun j d h => ?_, fun j c h => ?_, fun j k c c' g1 g2 => ?_, ?_, fun j c q h => (R.err j c q (set_err (by intro _ _ z; cases z) h).2).mono sF (fun _ _ => rfl) (Nat.le_refl _)⟩, sF, fun _ _ => rfl, Nat.le_refl _, fun _ _ _ h => h⟩
    · have q : upd W.F (W.l i) (.lst vs) b = some u := q
      by_cases hb : b = W.l i
      · subst hb; rw [upd_same] at q; cases q; exact hp
      · rw [upd_ne hb] at q; exact R.sub b u q
    · obtain ⟨g1, g2⟩ := R.glob m c h
      exact ⟨(upd_ne (h5 m (List.getElem?_eq_some_iff.mp h).1)).trans g1, CellOk.mono sF (fun _ _ => rfl) (Nat.le_refl _) (fun _ q => q) g2⟩
    · rcases set_old h with ⟨rfl, z⟩ | ⟨hj, h⟩
      · cases z
        exact ⟨_, h1, W.l i, vs, rfl, upd_same, RepL.mono sF (fun _ _ => rfl) (Nat.le_refl _) _ _ r⟩
      · obtain ⟨v, g1, g2⟩ := R.val j d h
        exact ⟨v, g1, Rep.mono sF (fun _ _ => rfl) (Nat.le_refl _) _ _ g2⟩
    · rcases set_old h with ⟨rfl, z⟩ | ⟨hj, h⟩
      · cases z
      · obtain ⟨a1, a2, a3, a4, a5⟩ := R.loc j c h
        exact ⟨a1, (upd_ne fun z => hj (R.linj j i _ _ h he z).symm).trans a2, CellOk.mono sF (fun _ _ => rfl) (Nat.le_refl _) (fun _ q => q) a3, a4, a5⟩
    · rcases set_old g1 with ⟨rfl, z⟩ | ⟨_, g1⟩
      · cases z
      · rcases set_old g2 with ⟨rfl, z⟩ | ⟨_, g2⟩
        · cases z
        · exact R.linj j k c c' g1 g2
    · have x := R.ext
      refine ⟨x.fs.trans sF, fun b o q => ?_, x.le, x.rr, x.rn, x.hd, x.hs, x.fz⟩
      have q : upd W.F (W.l i) (.lst vs) b = some o := q
      by_cases hb : b = W.l i
      · subst hb; exact .inr h4
      · rw [upd_ne hb] at q; exact x.fn b o q
  · exact ⟨W, rfl, R, .refl⟩
/-- ahead of the statement the i-th slot's own list becomes data -/
theorem ss_frz (i : Nat) {st : Stmt} {f : SF} (h : SS B G e st f) : SS B G e st (fun env S => f (frzE i env) S) := by
  refine ⟨fun X wx C => PS.imp (h.run X wx C) fun D σ H ⟨W, env, S, hH, R, q⟩ => ?_⟩
  obtain ⟨W', e1, R', s'⟩ := R.frz i
  exact ⟨W', frzE i env, S, e1.trans hH, R', postS.shift q s'⟩
end
end Ev

namespace Ev
open PySem L2 PyProof.Rows
section
variable {B : Base} {G : Gc} {e : En} {K : PySem.W.Frag} {cl : Str → Option Addr} {wx : WX} {W W1 : Wd} {σ : L2.St} {env : List Slot} {S S1 : List Cell} {Q : VK}
/-! ### lists that change -/
/-- the list at a place -/
def lstAt (env : List Slot) (S : List Cell) (p : Pl) : Option (List D) := match cellOf env S p with
  | some (.lst ds) => some ds
  | _ => none
theorem lstAt_cell {p : Pl} {ds : List D} (h : lstAt env S p = some ds) : cellOf env S p = some (.lst ds) := by
  unfold lstAt at h
  split at h
  · rename_i es he; cases h; exact he
  · cases h
/-- a list is changed at its place, to ds -/
def putL (env : List Slot) (S : List Cell) (p : Pl) (ds : List D) : SOut := .nx (putE env (.lst ds) p) (putS S (.lst ds) p)
theorem putL_post {D : Ends} {p : Pl} {ds es : List Ev.D} {vs : List V} (R : FRel K cl e W σ env S) (h : lstAt env S p = some ds) (r : RepL K W.F W.ρ S.length es vs) (q : postS K cl e wx W S D (putL env S p es)) : D.nx σ (upd W.H (plAddr W p) (.lst vs)) := by
  obtain ⟨R', l⟩ := R.write (o := .lst vs) (c' := .lst es) (lstAt_cell h) ⟨vs, upd_same, r⟩
  exact q σ ⟨W.F, upd W.H (plAddr W p) (.lst vs), W.ρ, W.l⟩ R' ⟨Same.refl _, fun _ _ => rfl, Nat.le_of_eq l.symm, R.wfz (lstAt_cell h)⟩
theorem plMeth {o : Expr} {m : Str} {ap p : Pos} {es : List Expr} {kw : List Keyword} : Plain (.Call (.Attribute o m ap) es kw p) := ⟨fun _ _ => rfl, fun _ _ => rfl, fun _ _ => rfl, fun _ => rfl, fun _ _ => rfl⟩
/-- a method of a list at a place with one argument: k says what becomes of it -/
def sLm (k : List D → D → Option (List D)) (fo fa : EF) : SF := fun env S => (fo env S).then env fun x S1 => match plOf x with
  | some p => match lstAt env S1 p with
    | some _ => (fa env S1).then env fun y S2 => match y with
      | .dat d => match lstAt env S2 p with
        | some ds => match k ds d with
          | some es => putL env S2 p es
          | none => .bot
        | none => .bot
      | .loc _ => .bot
    | none => .bot
  | none => .bot
theorem tyV_list {x : V} {H : Hp} {a : Addr} {vs : List V} (h : H a = some (.lst vs)) : tyV K "list" (.ref a) H := Or.inl ⟨rfl, vs, SqL.of h⟩
theorem lstAt_H {p : Pl} {ds : List D} (R : FRel K cl e W σ env S) (h : lstAt env S p = some ds) : ∃ vs, W.H (plAddr W p) = some (.lst vs) ∧ RepL K W.F W.ρ S.length ds vs := R.cell (lstAt_cell h)
theorem plOf_lt {m : Nat} {x : XD} {v : V} {n : Nat} (r : RepX K W m x v) (h : plOf x = some (.g n)) : n < m := by
  cases x with
  | loc i => cases h
  | dat d =>
    cases d with
    | own n => cases h; exact r.1
    | _ => cases h
theorem plAddr_step {m m' : Nat} {x : XD} {v : V} {p : Pl} (r : RepX K W m x v) (h : plOf x = some p) (s : StepW W m W1 m') : plAddr W1 p = plAddr W p := by
  cases p with
  | l i => show W1.l i = W.l i; rw [s.2]
  | g n => exact s.1.rr n (plOf_lt r h)
theorem lm_read {k : List D → D → Option (List D)} {fo fa : EF} {D : Ends} {H : Hp} {rm : V → List V → Hp → VK → Prop}
    (hr : ∀ (a : Addr) (vs us : List V) (v : V) (ds es : List Ev.D) (d : Ev.D) (F : Hp) (ρ : Nat → Addr) (m : Nat) (H : Hp) (Q : VK), H a = some (.lst vs) → RepL K F ρ m ds vs → Rep K F ρ m d v → k ds d = some es → (∀ vs', RepL K F ρ m es vs' → Q .non (upd H a (.lst vs'))) → rm (.ref a) [v] H Q)
    (h : tS K cl e wx (sLm k fo fa) D σ H) : tE K cl e wx fo σ H fun x H1 => tyV K "list" x H1 ∧ tCons (tE K cl e wx fa) tNil σ H1 fun xs H2 => rm x xs H2 fun _ H3 => D.nx σ H3 := by
  obtain ⟨W, env, S, rfl, R, q⟩ := h
  refine ⟨W, env, S, rfl, R, postS.then q fun x S1 v W1 R1 s1 r1 q1 => ?_⟩
  cases hp : plOf x with
  | none => rw [hp] at q1; exact q1.elim
  | some p =>
    rw [hp] at q1
    dsimp only at q1
    cases hl : lstAt env S1 p with
    | none => rw [hl] at q1; exact q1.elim
    | some ds0 =>
      rw [hl] at q1
      dsimp only at q1
      have ev := plOf_ref r1 hp
      subst ev
      obtain ⟨vs0, h0, _⟩ := lstAt_H R1 hl
      refine ⟨tyV_list (x := .ref (plAddr W1 p)) h0, W1, env, S1, rfl, R1, postS.then q1 fun y S2 u W2 R2 s2 r2 q2 => ?_⟩
      cases y with
      | loc i => exact q2.elim
      | dat d =>
        dsimp only at q2
        cases hl2 : lstAt env S2 p with
        | none => rw [hl2] at q2; exact q2.elim
        | some ds =>
          rw [hl2] at q2
          dsimp only at q2
          cases hk : k ds d with
          | none => rw [hk] at q2; exact q2.elim
          | some es =>
            rw [hk] at q2
            obtain ⟨vs, h3, r3⟩ := lstAt_H R2 hl2
            have ea := plAddr_step r1 hp s2
            rw [← ea]
            exact hr _ vs [] u ds es d W2.F W2.ρ S2.length W2.H _ h3 r3 r2 hk fun vs' r4 => putL_post R2 hl2 r4 q2
def kApp (ds : List D) (d : D) : Option (List D) := if ds.length < sizeLine then some (ds ++ [d]) else none
def sApp (fo fa : EF) : SF := sLm kApp fo fa
theorem ss_app {o a : Expr} {fo fa : EF} {ap cp pos : Pos} (ho : SE B G e o fo) (ha : SE B G e a fa) (hl : (ap.endLine == cp.line) = true := by rfl) : SS B G e (.Expr (.Call (.Attribute o "append" ap) [a] [] cp) pos) (sApp fo fa) := by
  refine ⟨fun X wx C => PS.imp (ps_expr (pe_bm PySem.F.plainAttrs_list PySem.F.slot_list_append PySem.F.type_list_append mt_append (ho.run X wx C) (pa_cons (ha.run X wx C) pa_nil (ha.pl.ns [] _)) (ho.pl.ab _ _) (by rw [ha.pl.ns]; rfl) hl (ha.pl.ns [] _) rfl) rfl) fun D σ H h => ?_⟩
  rw [C.K]
  refine lm_read (rm := rAppend) (fun a vs us v ds es d F ρ m H Q h1 h2 h3 h4 h5 => ?_) h
  unfold kApp at h4
  split at h4
  · rename_i hlt
    cases h4
    exact ⟨a, vs, v, rfl, rfl, h1, by rw [← h2.length]; exact hlt, h5 _ (RepL.append h2 (RepL.cons h3 RepL.nil))⟩
  · cases h4
/-- o[i] = e of a list -/
def sStL (fv fo fi : EF) : SF := fun env S => (fv env S).then env fun y S1 => (fo env S1).then env fun x S2 => (fi env S2).then env fun z S3 => match y, plOf x, z with
  | .dat d, some p, .dat (.int k) => match lstAt env S3 p with
    | some ds => match ixN ds.length k with
      | some j => putL env S3 p (ds.set j d)
      | none => .bot
    | none => .bot
  | _, _, _ => .bot
theorem ss_stL {o i v : Expr} {fo fi fv : EF} {pos tp : Pos} (hv : SE B G e v fv) (ho : SE B G e o fo) (hi : SE B G e i fi) (hs : ∀ l env, swapsWithSole [.Subscript o i tp] v l env = pure false := by intro _ _; rfl) (hw : ∀ env, swappedStores [.Subscript o i tp] v env = pure none := by intro _; rfl)
    (ha : ∀ env u, assign (.Subscript o i tp) env u = (do
      let ov ← holding [u] (eval o env)
      let iv ← holding [u, ov] (eval i env)
      standAt tp
      holding [u, ov, iv] (setItem ov iv u)
      release [u, ov, iv] []) := by intro _ _; rfl) : SS B G e (.Assign [.Subscript o i tp] v pos) (sStL fv fo fi) := by
  refine ⟨fun X wx C => PS.imp (ps_asg (hv.run X wx C) (pg_sub (ho.run X wx C) (hi.run X wx C) set_list (ha X.env)) (hs _ _) (hw _) rfl) fun D σ H ⟨W, env, S, hH, R, q⟩ =>
    ⟨W, env, S, hH, R, postS.then q fun y S1 v W1 R1 s1 r1 q1 => ⟨W1, env, S1, rfl, R1, postS.then q1 fun x S2 u W2 R2 s2 r2 q2 => ⟨W2, env, S2, rfl, R2, postS.then q2 fun z S3 t W3 R3 s3 r3 q3 => ?_⟩⟩⟩⟩
  cases y with
  | loc i => exact q3.elim
  | dat d =>
    cases hp : plOf x with
    | none => rw [hp] at q3; exact q3.elim
    | some p =>
      rw [hp] at q3
      cases z with
      | loc i => exact q3.elim
      | dat dz =>
        cases dz with
        | int k =>
          dsimp only at q3
          cases hl : lstAt env S3 p with
          | none => rw [hl] at q3; exact q3.elim
          | some ds =>
            rw [hl] at q3
            dsimp only at q3
            cases hj : ixN ds.length k with
            | none => rw [hj] at q3; exact q3.elim
            | some j =>
              rw [hj] at q3
              obtain ⟨vs, h3, r4⟩ := lstAt_H R3 hl
              have ev := plOf_ref r2 hp
              have ea := plAddr_step r2 hp s3
              have rv := Rep.step (RepX.step r1 s2 : Rep _ _ _ _ d v) s3
              exact ⟨_, vs, k, j, ev, r3, by rw [← ea]; exact h3, by rw [← r4.length]; exact hj, by rw [← ea]; exact putL_post R3 hl (RepL.set j r4 rv) q3⟩
        | _ => exact q3.elim
/-! ### op= -/
def IpOk (X : Cx) (op : Operator) (g : D → D → Option D) : Prop :=
  ∀ (pins : List (Addr × Obj)) (s : Shared) (σ : L2.St) (H : Hp) (x y : V) (v u : Value) (Q : VK) (K : PySem.W.Frag) (F : Hp) (ρ : Nat → Addr) (m : Nat) (dx dy d : D), L2.Inv X pins σ H s → L2.RelV x v → L2.RelV y u → Rep K F ρ m dx x → Rep K F ρ m dy y → g dx dy = some d →
    (∀ z, Rep K F ρ m d z → Q z H) → wpAny (model X.prog X.w) X.A (inplaceOp op v u) (EP X pins σ Q) X.xe s
def rIp (K : PySem.W.Frag) (g : D → D → Option D) : TIp := fun x y H Q => ∃ F ρ m dx dy d, Rep K F ρ m dx x ∧ Rep K F ρ m dy y ∧ g dx dy = some d ∧ ∀ z, Rep K F ρ m d z → Q z H
theorem IpOk.pip {X : Cx} {op : Operator} {g : D → D → Option D} (h : IpOk X op g) (K : PySem.W.Frag) : PIp X op (rIp K g) := fun pins s σ H x y v u Q I rx ry ⟨F, ρ, m, dx, dy, d, r1, r2, hg, q⟩ => h pins s σ H x y v u Q K F ρ m dx dy d I rx ry r1 r2 hg q
def iAdd : D → D → Option D
  | .int i, .int j => some (.int (i + j))
  | .str a, .str b => if a.length + b.length ≤ sizeLine then some (.str (a ++ b)) else none
  | _, _ => none
def iSub : D → D → Option D
  | .int i, .int j => some (.int (i - j))
  | _, _ => none
theorem ip_addD {X : Cx} : IpOk X .Add iAdd := by
  intro pins s σ H x y v u Q K F ρ m dx dy d I rx ry r1 r2 hg q
  unfold iAdd at hg
  split at hg
  · cases hg
    exact ip_add pins s σ H x y v u Q I rx ry ⟨_, _, r1, r2, q _ rfl⟩
  · split at hg
    · rename_i a b hl
      cases hg
      refine iop_add_str pins s σ H x y v u Q I rx ry ⟨_, _, r1.1, r2.1, by simpa [Str.length] using hl, ?_⟩
      have e1 : (⟨a.toArray⟩ ++ ⟨b.toArray⟩ : Str) = ⟨(a ++ b).toArray⟩ := by
        show (Str.mk (a.toArray ++ b.toArray)) = _
        rw [List.append_toArray]
      rw [e1]
      exact q _ ⟨rfl, strOk_append r1.2 r2.2⟩
    · cases hg
  · cases hg
theorem ip_subD {X : Cx} : IpOk X .Sub iSub := by
  intro pins s σ H x y v u Q K F ρ m dx dy d I rx ry r1 r2 hg q
  unfold iSub at hg
  split at hg
  · cases hg
    exact ip_sub pins s σ H x y v u Q I rx ry ⟨_, _, r1, r2, q _ rfl⟩
  · cases hg
def sAug (i : Nat) (g : D → D → Option D) (f : EF) : SF := fun env S => match env[i]? with
  | some (.val dx) => (f env S).then env fun y S1 => match y with
    | .dat dy => match g dx dy with
      | some d => .nx (env.set i (.val d)) S1
      | none => .bot
    | .loc _ => .bot
  | _ => .bot
theorem ss_aug (i : Nat) {x : Str} {op : Operator} {g : D → D → Option D} {a : Expr} {f : EF} {pos pos' : Pos} (hop : ∀ X, IpOk X op g) (ha : SE B G e a f) (hN : G.N[i]? = some x := by rfl) (hv : Loc G.sc x := by first | exact Or.inl rfl | exact Or.inr rfl) (hf : G.fn x = true := by rfl) :
    SS B G e (.AugAssign (.Name x pos') op a pos) (sAug i g f) := by
  refine ⟨fun X wx C => PS.imp (ps_aug (by rw [C.N]; exact C.nd) (by rw [C.N]; exact hN) (by rw [C.sc]; exact hv) (ha.run X wx C) ((hop X).pip B.K) (by rw [C.sc]; exact C.fn x hf)) fun D σ H ⟨W, env, S, hH, R, q⟩ => ?_⟩
  unfold sAug at q
  cases he : env[i]? with
  | none => rw [he] at q; exact q.elim
  | some sl =>
    rw [he] at q
    cases sl with
    | no => exact q.elim
    | err _ _ => exact q.elim
    | loc c => exact q.elim
    | val dx =>
      dsimp only at q
      obtain ⟨v, h1, h2⟩ := R.val i dx he
      refine ⟨v, h1, W, env, S, hH, R, postS.then q fun y S1 u W1 R1 s1 r1 q1 => ?_⟩
      cases y with
      | loc i => exact q1.elim
      | dat dy =>
        dsimp only at q1
        cases hg : g dx dy with
        | none => rw [hg] at q1; exact q1.elim
        | some d =>
          rw [hg] at q1
          exact ⟨W1.F, W1.ρ, S1.length, dx, dy, d, Rep.step h2 s1, r1, hg, fun z rz => q1 _ W1 (R1.set rz) .refl⟩
theorem get_listP {X : Cx} : PGet X (fun o i H Q => ∃ a vs k v, o = .ref a ∧ i = .int k ∧ H a = some (.lst vs) ∧ 0 ≤ k ∧ vs[k.toNat]? = some v ∧ Q v H) := by
  intro pins s σ H o i ov iv Q I ro ri ⟨a, vs, k, v, e1, e2, hH, h0, hv, q⟩
  subst e1; subst e2
  cases ro
  obtain ⟨t, rfl⟩ := ri
  obtain ⟨its, r, pl, hz⟩ := I.list (SqL.of hH)
  obtain ⟨w, ew, rw'⟩ := r.get hv
  have hn := line63
  have : k.toNat < vs.length := (List.getElem?_eq_some_iff.mp hv).1
  exact PySem.wpAny_getItem_list pl.isList h0 (by omega) (by simpa using ew) ⟨v, H, I, rw', q⟩
/-- o[i] op= e of a list -/
def sAugL (g : D → D → Option D) (fo fi fv : EF) : SF := fun env S => (fo env S).then env fun x S1 => (fi env S1).then env fun z S2 => match plOf x, z with
  | some p, .dat (.int k) => match lstAt env S2 p with
    | some ds => if 0 ≤ k then match ds[k.toNat]? with
      | some old => (fv env S2).then env fun y S3 => match y, lstAt env S3 p with
        | .dat dy, some es => match g old dy with
          | some d => if k.toNat < es.length then putL env S3 p (es.set k.toNat d) else .bot
          | none => .bot
        | _, _ => .bot
      | none => .bot
      else .bot
    | none => .bot
  | _, _ => .bot
theorem ss_augL {o i v : Expr} {op : Operator} {g : D → D → Option D} {fo fi fv : EF} {pos tp : Pos} (hop : ∀ X, IpOk X op g) (ho : SE B G e o fo) (hi : SE B G e i fi) (hv : SE B G e v fv)
    (ha : ∀ ov iv new, augStore i ov iv new = (do holding [new, ov, iv] (setItem ov iv new); release [new, ov, iv] []; pure .next) := by intros; rfl) : SS B G e (.AugAssign (.Subscript o i tp) op v pos) (sAugL g fo fi fv) := by
  refine ⟨fun X wx C => PS.imp (ps_augS (ho.run X wx C) (hi.run X wx C) get_listP (hv.run X wx C) ((hop X).pip B.K) set_list ha) fun D σ H ⟨W, env, S, hH, R, q⟩ =>
    ⟨W, env, S, hH, R, postS.then q fun x S1 v W1 R1 s1 r1 q1 => ⟨W1, env, S1, rfl, R1, postS.then q1 fun z S2 u W2 R2 s2 r2 q2 => ?_⟩⟩⟩
  cases hp : plOf x with
  | none => rw [hp] at q2; exact q2.elim
  | some p =>
    rw [hp] at q2
    cases z with
    | loc i => exact q2.elim
    | dat dz =>
      cases dz with
      | int k =>
        dsimp only at q2
        cases hl : lstAt env S2 p with
        | none => rw [hl] at q2; exact q2.elim
        | some ds =>
          rw [hl] at q2
          dsimp only at q2
          by_cases h0 : 0 ≤ k
          · rw [if_pos h0] at q2
            cases hk : ds[k.toNat]? with
            | none => rw [hk] at q2; exact q2.elim
            | some old =>
              rw [hk] at q2
              dsimp only at q2
              obtain ⟨vs, h3, r4⟩ := lstAt_H R2 hl
              have ev := plOf_ref r1 hp
              have ea := plAddr_step r1 hp s2
              obtain ⟨w, hw, rw'⟩ := r4.get hk
              refine ⟨_, vs, k, w, ev, r2, by rw [← ea]; exact h3, h0, hw, W2, env, S2, rfl, R2, postS.then q2 fun y S3 t W3 R3 s3 r5 q3 => ?_⟩
              cases y with
              | loc i => exact q3.elim
              | dat dy =>
                cases hl3 : lstAt env S3 p with
                | none => rw [hl3] at q3; exact q3.elim
                | some es =>
                  rw [hl3] at q3
                  dsimp only at q3
                  cases hg : g old dy with
                  | none => rw [hg] at q3; exact q3.elim
                  | some d =>
                    rw [hg] at q3
                    dsimp only at q3
                    by_cases hlt : k.toNat < es.length
                    · rw [if_pos hlt] at q3
                      obtain ⟨vs3, h6, r6⟩ := lstAt_H R3 hl3
                      have ea3 := plAddr_step r1 hp (s2.trans s3)
                      refine ⟨W3.F, W3.ρ, S3.length, old, dy, d, Rep.step rw' s3, r5, hg, fun z rz => ⟨_, vs3, k, k.toNat, ev, r2, by rw [← ea3]; exact h6, ?_, by rw [← ea3]; exact putL_post R3 hl3 (RepL.set _ r6 rz) q3⟩⟩
                      unfold ixN
                      rw [if_pos h0, if_pos (by rw [← r6.length]; omega)]
                    · rw [if_neg hlt] at q3; exact q3.elim
          · rw [if_neg h0] at q2; exact q2.elim
      | _ => exact q2.elim
/-! ### a, b = x, y with locals -/
def sPar (is : List Nat) (f : AF) : SF := fun env S => (f env S).then env fun xs S1 => match datL xs with
  | some ds => if ds.length = is.length then .nx ((is.zip ds).foldl (fun env p => env.set p.1 (.val p.2)) env) S1 else .bot
  | none => .bot
theorem blockKind_fn {env : PySem.Env} (h : env.scope.kind = .function) : env.blockKind = .function := by
  unfold Env.blockKind
  rw [h]; rfl
theorem ss_par2 (i j : Nat) {x y : Str} {a b : Expr} {f : AF} {pos px py pt : Pos} {kt k2 : Nat} {pt2 : Pos} (ha : SA B G e [a, b] f) (hi : G.N[i]? = some x := by rfl) (hj : G.N[j]? = some y := by rfl) (hij : i ≠ j := by decide)
    (hx : G.sc.names.lookup x = some .local := by rfl) (hy : G.sc.names.lookup y = some .local := by rfl) (hc : G.calm = true := by rfl)
    (hw : ∀ env : PySem.Env, env.blockKind = .function → env.kindOf x = some .local → env.kindOf y = some .local → swappedStores [.Tuple [.Name x px, .Name y py] kt pt] (.Tuple [a, b] k2 pt2) env = pure (some [x, y])) (hk : G.sc.kind = .function := by rfl) :
    SS B G e (.Assign [.Tuple [.Name x px, .Name y py] kt pt] (.Tuple [a, b] k2 pt2) pos) (sPar [i, j] f) := by
  refine ⟨fun X wx C => PS.imp (ps_par (C.calm hc) (by rw [C.N]; exact C.nd) (by rw [C.N]; exact hi) (by rw [C.N]; exact hj) hij (by rw [C.sc]; exact hx) (by rw [C.sc]; exact hy) (ha.run X wx C)
    (hw _ (blockKind_fn (by rw [C.sc]; exact hk)) (by unfold Env.kindOf; rw [C.sc]; exact hx) (by unfold Env.kindOf; rw [C.sc]; exact hy))) fun D σ H ⟨W, env, S, hH, R, q⟩ => ⟨W, env, S, hH, R, postS.then q fun xs S1 vs W1 R1 s1 r1 q1 => ?_⟩⟩
  cases hd : datL xs with
  | none => rw [hd] at q1; exact q1.elim
  | some ds =>
    rw [hd] at q1
    dsimp only at q1
    have r2 := RepXL.dat r1 hd
    by_cases hl : ds.length = 2
    · rw [if_pos (show ds.length = [i, j].length from hl)] at q1
      match ds, hl, r2, q1 with
      | [d1, d2], _, r2, q1 =>
        obtain ⟨v1, t1, rfl, g1, v2, t2, rfl, g2, rfl⟩ := r2
        exact ⟨v1, v2, rfl, q1 _ W1 ((R1.set g1).set g2) .refl⟩
    · rw [if_neg (show ¬ ds.length = [i, j].length from hl)] at q1; exact q1.elim
theorem ss_par3 (i j l : Nat) {x y z : Str} {a b c : Expr} {f : AF} {pos px py pz pt : Pos} {kt k2 : Nat} {pt2 : Pos} (ha : SA B G e [a, b, c] f) (hi : G.N[i]? = some x := by rfl) (hj : G.N[j]? = some y := by rfl) (hl : G.N[l]? = some z := by rfl) (hij : i ≠ j := by decide) (hil : i ≠ l := by decide) (hjl : j ≠ l := by decide)
    (hx : G.sc.names.lookup x = some .local := by rfl) (hy : G.sc.names.lookup y = some .local := by rfl) (hz : G.sc.names.lookup z = some .local := by rfl) (hc : G.calm = true := by rfl)
    (hw : ∀ env : PySem.Env, env.blockKind = .function → env.kindOf x = some .local → env.kindOf y = some .local → env.kindOf z = some .local → swappedStores [.Tuple [.Name x px, .Name y py, .Name z pz] kt pt] (.Tuple [a, b, c] k2 pt2) env = pure (some [x, y, z])) (hk : G.sc.kind = .function := by rfl) :
    SS B G e (.Assign [.Tuple [.Name x px, .Name y py, .Name z pz] kt pt] (.Tuple [a, b, c] k2 pt2) pos) (sPar [i, j, l] f) := by
  refine ⟨fun X wx C => PS.imp (ps_par3 (C.calm hc) (by rw [C.N]; exact C.nd) (by rw [C.N]; exact hi) (by rw [C.N]; exact hj) (by rw [C.N]; exact hl) hij hil hjl (by rw [C.sc]; exact hx) (by rw [C.sc]; exact hy) (by rw [C.sc]; exact hz) (ha.run X wx C)
    (hw _ (blockKind_fn (by rw [C.sc]; exact hk)) (by unfold Env.kindOf; rw [C.sc]; exact hx) (by unfold Env.kindOf; rw [C.sc]; exact hy) (by unfold Env.kindOf; rw [C.sc]; exact hz))) fun D σ H ⟨W, env, S, hH, R, q⟩ => ⟨W, env, S, hH, R, postS.then q fun xs S1 vs W1 R1 s1 r1 q1 => ?_⟩⟩
  cases hd : datL xs with
  | none => rw [hd] at q1; exact q1.elim
  | some ds =>
    rw [hd] at q1
    dsimp only at q1
    have r2 := RepXL.dat r1 hd
    by_cases hl : ds.length = 3
    · rw [if_pos (show ds.length = [i, j, l].length from hl)] at q1
      match ds, hl, r2, q1 with
      | [d1, d2, d3], _, r2, q1 =>
        obtain ⟨v1, t1, rfl, g1, v2, t2, rfl, g2, v3, t3, rfl, g3, rfl⟩ := r2
        exact ⟨v1, v2, v3, rfl, q1 _ W1 (((R1.set g1).set g2).set g3) .refl⟩
    · rw [if_neg (show ¬ ds.length = [i, j, l].length from hl)] at q1; exact q1.elim
end
end Ev

namespace Ev
open PySem L2 PyProof.Rows
/-! ### short words -/
section
variable {B : Base} {G : Gc} {e : En} {a b c : Expr} {fa fb fc : EF} {pos p : Pos}
theorem se_add (ha : SE B G e a fa) (hb : SE B G e b fb) : SE B G e (.BinOp a .Add b pos) (e2 gAdd fa fb) := se_op (fun X wx C => ok_add C.K) ha hb
theorem se_sub (ha : SE B G e a fa) (hb : SE B G e b fb) : SE B G e (.BinOp a .Sub b pos) (e2 gSub fa fb) := se_op (fun X wx C => ok_sub) ha hb
theorem se_mul (ha : SE B G e a fa) (hb : SE B G e b fb) : SE B G e (.BinOp a .Mult b pos) (e2 gMul fa fb) := se_op (fun X wx C => ok_mul) ha hb
theorem se_div (ha : SE B G e a fa) (hb : SE B G e b fb) : SE B G e (.BinOp a .FloorDiv b pos) (e2 gDiv fa fb) := se_op (fun X wx C => ok_div) ha hb
theorem se_mod (ha : SE B G e a fa) (hb : SE B G e b fb) : SE B G e (.BinOp a .Mod b pos) (e2 gMod fa fb) := se_op (fun X wx C => ok_mod) ha hb
theorem se_pow (ha : SE B G e a fa) (hb : SE B G e b fb) : SE B G e (.BinOp a .Pow b pos) (e2 gPow fa fb) := se_op (fun X wx C => ok_pow) ha hb
theorem se_shl (ha : SE B G e a fa) (hb : SE B G e b fb) : SE B G e (.BinOp a .LShift b pos) (e2 gShl fa fb) := se_op (fun X wx C => ok_shl) ha hb
theorem se_shr (ha : SE B G e a fa) (hb : SE B G e b fb) : SE B G e (.BinOp a .RShift b pos) (e2 gShr fa fb) := se_op (fun X wx C => ok_shr) ha hb
theorem se_xor (ha : SE B G e a fa) (hb : SE B G e b fb) : SE B G e (.BinOp a .BitXor b pos) (e2 gXor fa fb) := se_op (fun X wx C => ok_xor) ha hb
section
variable (ha : SE B G e a fa) (hb : SE B G e b fb)
include ha hb
theorem se_eq : SE B G e (.Compare a [.Eq] [b] pos) (e2 (gB cEq) fa fb) := se_cmp (fun X wx C => ok_eq C.K C.units) ha hb
theorem se_ne : SE B G e (.Compare a [.NotEq] [b] pos) (e2 (gB cNe) fa fb) := se_cmp (fun X wx C => ok_ne C.K C.units) ha hb
theorem se_lt : SE B G e (.Compare a [.Lt] [b] pos) (e2 (gB cLt) fa fb) := se_cmp (fun X wx C => ok_lt) ha hb
theorem se_le : SE B G e (.Compare a [.LtE] [b] pos) (e2 (gB cLe) fa fb) := se_cmp (fun X wx C => ok_le) ha hb
theorem se_gt : SE B G e (.Compare a [.Gt] [b] pos) (e2 (gB cGt) fa fb) := se_cmp (fun X wx C => ok_gt) ha hb
theorem se_ge : SE B G e (.Compare a [.GtE] [b] pos) (e2 (gB cGe) fa fb) := se_cmp (fun X wx C => ok_ge) ha hb
theorem se_is : SE B G e (.Compare a [.Is] [b] pos) (e2 (gB cIsN) fa fb) := se_cmp (fun X wx C => ok_is) ha hb
theorem se_isnot : SE B G e (.Compare a [.IsNot] [b] pos) (e2 (gB cNotN) fa fb) := se_cmp (fun X wx C => ok_isnot) ha hb
theorem se_in : SE B G e (.Compare a [.In] [b] pos) (e2 (gB cIn) fa fb) := se_cmp (fun X wx C => ok_in C.K (by have := C.un; omega)) ha hb
theorem se_notin : SE B G e (.Compare a [.NotIn] [b] pos) (e2 (gB cNotIn) fa fb) := se_cmp (fun X wx C => ok_notIn C.K (by have := C.un; omega)) ha hb
theorem st_eq : ST B G e (.Compare a [.Eq] [b] pos) (bT (e2 (gB cEq) fa fb)) := st_cmp (fun X wx C => ok_eq C.K C.units) ha hb
theorem st_ne : ST B G e (.Compare a [.NotEq] [b] pos) (bT (e2 (gB cNe) fa fb)) := st_cmp (fun X wx C => ok_ne C.K C.units) ha hb
theorem st_lt : ST B G e (.Compare a [.Lt] [b] pos) (bT (e2 (gB cLt) fa fb)) := st_cmp (fun X wx C => ok_lt) ha hb
theorem st_le : ST B G e (.Compare a [.LtE] [b] pos) (bT (e2 (gB cLe) fa fb)) := st_cmp (fun X wx C => ok_le) ha hb
theorem st_gt : ST B G e (.Compare a [.Gt] [b] pos) (bT (e2 (gB cGt) fa fb)) := st_cmp (fun X wx C => ok_gt) ha hb
theorem st_ge : ST B G e (.Compare a [.GtE] [b] pos) (bT (e2 (gB cGe) fa fb)) := st_cmp (fun X wx C => ok_ge) ha hb
theorem st_is : ST B G e (.Compare a [.Is] [b] pos) (bT (e2 (gB cIsN) fa fb)) := st_cmp (fun X wx C => ok_is) ha hb
theorem st_isnot : ST B G e (.Compare a [.IsNot] [b] pos) (bT (e2 (gB cNotN) fa fb)) := st_cmp (fun X wx C => ok_isnot) ha hb
theorem st_in : ST B G e (.Compare a [.In] [b] pos) (bT (e2 (gB cIn) fa fb)) := st_cmp (fun X wx C => ok_in C.K (by have := C.un; omega)) ha hb
theorem st_notin : ST B G e (.Compare a [.NotIn] [b] pos) (bT (e2 (gB cNotIn) fa fb)) := st_cmp (fun X wx C => ok_notIn C.K (by have := C.un; omega)) ha hb
end
/-- the orders of a chain -/
structure OrdOk (op : CmpOp) (g : List Slot → List Cell → XD → XD → Option Bool) : Prop where
  ok : ∀ (X : Cx) (B : Base) (e : En), OpOk X B e (compareOp op) (gB g)
theorem o_lt : OrdOk .Lt cLt := ⟨fun _ _ _ => ok_lt⟩
theorem o_le : OrdOk .LtE cLe := ⟨fun _ _ _ => ok_le⟩
theorem o_gt : OrdOk .Gt cGt := ⟨fun _ _ _ => ok_gt⟩
theorem o_ge : OrdOk .GtE cGe := ⟨fun _ _ _ => ok_ge⟩
theorem se_chain {op op' : CmpOp} {g g' : List Slot → List Cell → XD → XD → Option Bool} (h : OrdOk op g) (h' : OrdOk op' g') (ha : SE B G e a fa) (hb : SE B G e b fb) (hc : SE B G e c fc) : SE B G e (.Compare a [op, op'] [b, c] pos) (eCh g g' fa fb fc) := se_ch (fun X wx C => h.ok X B e) (fun X wx C => h'.ok X B e) ha hb hc
theorem st_chain {op op' : CmpOp} {g g' : List Slot → List Cell → XD → XD → Option Bool} (h : OrdOk op g) (h' : OrdOk op' g') (ha : SE B G e a fa) (hb : SE B G e b fb) (hc : SE B G e c fc) : ST B G e (.Compare a [op, op'] [b, c] pos) (bT (eCh g g' fa fb fc)) := st_ch (fun X wx C => h.ok X B e) (fun X wx C => h'.ok X B e) ha hb hc
section
variable {es : List Expr} {f : AF}
theorem gi {x : Str} (h : G.sc.names.lookup x = some .globalImplicit) : G.sc.names.lookup x = some .globalImplicit := h
theorem se_len (hm : B.mg "len" = none) (ha : SA B G e (a :: es) f) (hg : G.sc.names.lookup ("len" : Str) = some NameKind.globalImplicit := by rfl) : SE B G e (.Call (.Name "len" p) (a :: es) [] pos) (eCall fLen f) := se_callB (fun X wx C => ok_len C.K) hm PySem.boot_len ha hg
theorem se_abs (hm : B.mg "abs" = none) (ha : SA B G e (a :: es) f) (hg : G.sc.names.lookup ("abs" : Str) = some NameKind.globalImplicit := by rfl) : SE B G e (.Call (.Name "abs" p) (a :: es) [] pos) (eCall fAbs f) := se_callB (fun X wx C => ok_abs) hm (by decide +kernel) ha hg
theorem se_intc (hm : B.mg "int" = none) (ha : SA B G e (a :: es) f) (hg : G.sc.names.lookup ("int" : Str) = some NameKind.globalImplicit := by rfl) : SE B G e (.Call (.Name "int" p) (a :: es) [] pos) (eCall fInt f) := se_callTy (fun X wx C => ok_int) hm (by decide +kernel) ha hg
theorem se_ord (hm : B.mg "ord" = none) (ha : SA B G e (a :: es) f) (hg : G.sc.names.lookup ("ord" : Str) = some NameKind.globalImplicit := by rfl) : SE B G e (.Call (.Name "ord" p) (a :: es) [] pos) (eCall fOrd f) := se_callB (fun X wx C => ok_ord) hm (by decide +kernel) ha hg
theorem se_chr (hm : B.mg "chr" = none) (ha : SA B G e (a :: es) f) (hg : G.sc.names.lookup ("chr" : Str) = some NameKind.globalImplicit := by rfl) : SE B G e (.Call (.Name "chr" p) (a :: es) [] pos) (eCall fChr f) := se_callB (fun X wx C => ok_chr) hm (by decide +kernel) ha hg
theorem se_max (hm : B.mg "max" = none) (ha : SA B G e (a :: es) f) (hg : G.sc.names.lookup ("max" : Str) = some NameKind.globalImplicit := by rfl) (hc : G.calm = true := by rfl) : SE B G e (.Call (.Name "max" p) (a :: es) [] pos) (eCall fMax f) := se_callB (fun X wx C => ok_max C.K (C.calm hc)) hm (by decide +kernel) ha hg
theorem se_min (hm : B.mg "min" = none) (ha : SA B G e (a :: es) f) (hg : G.sc.names.lookup ("min" : Str) = some NameKind.globalImplicit := by rfl) (hc : G.calm = true := by rfl) : SE B G e (.Call (.Name "min" p) (a :: es) [] pos) (eCall fMin f) := se_callB (fun X wx C => ok_min C.K (C.calm hc)) hm (by decide +kernel) ha hg
theorem se_sum (hm : B.mg "sum" = none) (ha : SA B G e (a :: es) f) (hg : G.sc.names.lookup ("sum" : Str) = some NameKind.globalImplicit := by rfl) (hc : G.calm = true := by rfl) : SE B G e (.Call (.Name "sum" p) (a :: es) [] pos) (eCall fSum f) := se_callB (fun X wx C => ok_sum C.K (C.calm hc)) hm (by decide +kernel) ha hg
theorem se_all (hm : B.mg "all" = none) (ha : SA B G e (a :: es) f) (hg : G.sc.names.lookup ("all" : Str) = some NameKind.globalImplicit := by rfl) (hc : G.calm = true := by rfl) : SE B G e (.Call (.Name "all" p) (a :: es) [] pos) (eCall fAll f) := se_callB (fun X wx C => ok_all C.K (C.calm hc)) hm (by decide +kernel) ha hg
theorem se_any (hm : B.mg "any" = none) (ha : SA B G e (a :: es) f) (hg : G.sc.names.lookup ("any" : Str) = some NameKind.globalImplicit := by rfl) (hc : G.calm = true := by rfl) : SE B G e (.Call (.Name "any" p) (a :: es) [] pos) (eCall fAny f) := se_callB (fun X wx C => ok_any C.K (C.calm hc)) hm (by decide +kernel) ha hg
theorem se_list (hm : B.mg "list" = none) (ha : SA B G e (a :: es) f) (hg : G.sc.names.lookup ("list" : Str) = some NameKind.globalImplicit := by rfl) : SE B G e (.Call (.Name "list" p) (a :: es) [] pos) (eCall fList f) := se_callTy (fun X wx C => ok_list C.K) hm (by decide +kernel) ha hg
theorem se_tuple (hm : B.mg "tuple" = none) (ha : SA B G e (a :: es) f) (hg : G.sc.names.lookup ("tuple" : Str) = some NameKind.globalImplicit := by rfl) : SE B G e (.Call (.Name "tuple" p) (a :: es) [] pos) (eCall fTuple f) := se_callTy (fun X wx C => ok_tuple C.K) hm (by decide +kernel) ha hg
end
/-! ### isinstance of the built-in types -/
/-- a value's type, by name -/
def tyName (env : List Slot) (S : List Cell) : XD → Option String
  | .dat .non => some "NoneType"
  | .dat (.bl _) => some "bool"
  | .dat (.int _) => some "int"
  | .dat (.str _) => some "str"
  | .dat (.lst _) => some "list"
  | .dat (.tup _) => some "tuple"
  | x => match lstOf env S x with | some _ => some "list" | none => none
def isT (a T : String) : Option Bool := if T = "int" ∨ T = "bool" ∨ T = "str" ∨ T = "list" ∨ T = "tuple" then some (a == T || (a == "bool" && T == "int")) else none
def eIs (T : String) (f : EF) : EF := fun env S => (f env S).bind fun x S1 => match tyName env S1 x with
  | some a => match isT a T with
    | some k => .val (.dat (.bl k)) S1
    | none => .bot
  | none => .bot
theorem isT_kit {a T : String} {k : Bool} (ha : a = "NoneType" ∨ a = "bool" ∨ a = "int" ∨ a = "str" ∨ a = "list" ∨ a = "tuple") (h : isT a T = some k) : kitB a T = some k := by
  unfold isT at h
  split at h
  · rename_i hT
    rcases ha with rfl | rfl | rfl | rfl | rfl | rfl <;> rcases hT with rfl | rfl | rfl | rfl | rfl <;> (cases h; decide +kernel)
  · cases h
theorem SqT.tyx {K : PySem.W.Frag} {H : Hp} {q : Addr} {xs : List V} (h : SqT K H q xs) : TyX K H (.ref q) (.type "tuple") := by
  rcases h with (h | ⟨o, h⟩) | ⟨o, its, n, h1, h2, _⟩
  · exact .base (.tup h)
  · exact .fTuple h
  · exact .kTuple h1 h2
theorem FRel.ty {K : PySem.W.Frag} {cl : Str → Option Addr} {W : Wd} {σ : L2.St} {env : List Slot} {S : List Cell} (R : FRel K cl e W σ env S) {x : XD} {v : V} {t : String} (r : RepX K W S.length x v) (h : tyName env S x = some t) :
    TyX K W.H v (.type t) ∧ (t = "NoneType" ∨ t = "bool" ∨ t = "int" ∨ t = "str" ∨ t = "list" ∨ t = "tuple") := by
  have lst : ∀ ds, lstOf env S x = some ds → TyX K W.H v (.type "list") := fun ds hd => by
    obtain ⟨q, vs, rfl, s1, _⟩ := R.lst r hd
    exact .base (.lst s1)
  unfold tyName at h
  split at h
  · cases h; cases (show v = .non from r); exact ⟨.base .non, .inl rfl⟩
  · cases h; cases (show v = .bl _ from r); exact ⟨.base (.bl _), .inr (.inl rfl)⟩
  · cases h; cases (show v = .int _ from r); exact ⟨.base (.int _), .inr (.inr (.inl rfl))⟩
  · cases h; obtain ⟨rfl, _⟩ := r; exact ⟨.base (.str _), .inr (.inr (.inr (.inl rfl)))⟩
  · cases h; exact ⟨lst _ rfl, .inr (.inr (.inr (.inr (.inl rfl))))⟩
  · cases h
    obtain ⟨q, vs, rfl, s1, _⟩ := r
    exact ⟨SqT.tyx (Same.sqT R.sub s1), .inr (.inr (.inr (.inr (.inr rfl))))⟩
  · split at h
    · rename_i ds hd
      cases h; exact ⟨lst _ hd, .inr (.inr (.inr (.inr (.inl rfl))))⟩
    · cases h
theorem se_isi {T : String} {x : Str} {f : EF} {q : Pos} (hm : B.mg "isinstance" = none) (hmT : B.mg x = none) (hT : bootBuiltins x = some (.type T)) (ha : SE B G e a f)
    (hg : G.sc.names.lookup ("isinstance" : Str) = some NameKind.globalImplicit := by rfl) (hgT : G.sc.names.lookup x = some NameKind.globalImplicit := by rfl) (hn : x ≠ "__name__" := by decide +kernel) (hdb : (x == ("__debug__" : Str)) = false := by decide +kernel) :
    SE B G e (.Call (.Name "isinstance" p) [a, .Name x q] [] pos) (eIs T f) := by
  refine ⟨fun X wx C => PE.imp (pe_callB call_isi (C.gl hg) (by rw [C.mg]; exact hm) (by decide +kernel) (pa_cons (ha.run X wx C) (pa_cons (pe_bltn (v := .ty T) (C.gl hgT) (by rw [C.mg]; exact hmT) hT rfl hn hdb) pa_nil (plName.ns [] _)) (ha.pl.ns _ _)) (by decide +kernel) (by decide +kernel) (ha.pl.ns _ _) rfl) fun σ H Q ⟨W, env, S, hH, R, qq⟩ => ⟨W, env, S, hH, R, postG.seq qq fun y S1 v W1 R1 s1 r1 q1 => ?_⟩, plCall⟩
  cases ht : tyName env S1 y with
  | none => rw [ht] at q1; exact q1.elim
  | some t =>
    rw [ht] at q1
    dsimp only at q1
    cases hk : isT t T with
    | none => rw [hk] at q1; exact q1.elim
    | some k =>
      rw [hk] at q1
      obtain ⟨h1, h2⟩ := R1.ty r1 ht
      exact ⟨v, .ty T, .type t, .type T, k, rfl, .ty T, by rw [C.K]; exact h1, kit_ty (isT_kit h2 hk), q1 _ W1 R1 .refl rfl⟩
/-! ### the module's constants -/
theorem se_cint {x : Str} {i : Int} {t : Tok} (hm : B.mg x = some (.int i t)) (hg : G.sc.names.lookup x = some NameKind.globalImplicit := by rfl) (hdb : (x == ("__debug__" : Str)) = false := by decide +kernel) : SE B G e (.Name x pos) (eC (.int i)) :=
  ⟨fun X wx C => PE.imp (pe_glob (v := .int i) (C.gl hg) (by rw [C.mg]; exact hm) ⟨_, rfl⟩ hdb) fun σ H Q ⟨W, env, S, hH, R, q⟩ => by subst hH; exact q _ W R .refl rfl, plName⟩
theorem se_cstr {x : Str} {z : List Nat} {y : Str} {t : Tok} (hm : B.mg x = some (.str y t)) (hy : y = ⟨z.toArray⟩ := by rfl) (ok : strOk z = true := by decide) (hg : G.sc.names.lookup x = some NameKind.globalImplicit := by rfl) (hdb : (x == ("__debug__" : Str)) = false := by decide +kernel) : SE B G e (.Name x pos) (eC (.str z)) :=
  ⟨fun X wx C => PE.imp (pe_glob (v := .str y) (C.gl hg) (by rw [C.mg]; exact hm) ⟨_, rfl⟩ hdb) fun σ H Q ⟨W, env, S, hH, R, q⟩ => by subst hH; subst hy; exact q _ W R .refl ⟨rfl, ok⟩, plName⟩
end
/-! ### the law -/
/-- what the law's own function is to give at every script -/
def LawOk (n : Nat) (C : CF) : Prop := ∀ ns : List Int, ns.length ≤ n → ∃ S, C [.rol (ns.map .int)] [] = .val (.bl true) S
theorem law_sp {K : PySem.W.Frag} {cl : Str → Option Addr} {C : CF} {n : Nat} (h : LawOk n C) {H : Hp} {a : Addr} {ns : List Int} (hl : ns.length ≤ n) (hS : SqL K H a (ns.map V.int)) : spD K cl 1 C [.ref a] H (fun v _ => v = .bl true) fun _ _ _ => False := by
  obtain ⟨S, e⟩ := h ns hl
  refine ⟨H, fun _ => 0, [], [.rol (ns.map .int)], rfl, ⟨Same.refl _, fun n c h => by simp at h, fun i j h => by simp at h⟩, ⟨.ref a, [], rfl, ⟨a, _, rfl, hS, RepL.ints⟩, rfl⟩, ?_⟩
  rw [e]
  exact fun v F' ρ' H' _ _ r => r
theorem CX_false {P : Program} {w : World} {H : Hp} {s : Shared} {e : Value} {s' : Shared} (h : L2.CX P w [] H s (fun _ _ _ => False) e s') : False := by
  obtain ⟨_, _, _, _, _, _, _, _, _, _, _, _, z⟩ := h
  exact z
/-- the end of a law: F gives the law's def over every base -/
theorem law_walk {l : PySem.W.OpenLaw} {k n : Nat} {q : Program} {loose : List Str} {XP : (Str → Option Value) → Heap → Prop} {YP : World → Heap → Prop} {d : DefRec} {K : Params → PySem.W.Frag} {C : CF} {x : Str} (hn : l.most = some n) (hn2 : n ≤ sizeLine) (hdf : d.params.defaults = []) (hr : Room k callerA)
    (hY : ∀ (w : World) (h : Heap), YP w h → (K w.params).In h) (hC : LawOk n C)
    (F : ∀ (w : World) (mg : Str → Option Value) (fa : Addr) (h : Heap), (K w.params).In h → h.Ns mainGlobals mg → mg d.name = some (.ref fa) →
      ∃ (fd : FuncData) (cl : Str → Option Addr), (∀ (s : Shared) (u : Value), BindsTo s fd ⟨[u], []⟩ [(x, u)]) ∧ ∀ base : Heap, (K w.params).In base → base.Ns mainGlobals mg → FnOk l.prog w (K w.params) mg base (L2.CX l.prog w) k fa fd [x] (spD (K w.params) cl 1 C)) :
    PySem.W.WalkO q loose XP YP l.row.toRowW d [] (fun f vs => PySem.call f vs) :=
  L2.walk_of (n := n) (k := k) (x := x) (CX := fun w => L2.CX l.prog w) (sp := fun w vs H Q E => ∀ cl, spD (K w.params) cl 1 C vs H Q E) hn hn2 hdf hr hY (fun w mg fa h h1 h2 h3 => by
    obtain ⟨fd, cl, hb, hF⟩ := F w mg fa h h1 h2 h3
    exact ⟨fd, hb, fun base b1 b2 => (hF base b1 b2).imp fun vs H Q E q => q cl⟩) (fun w H a ns hl _ hS cl => law_sp hC hl hS) fun w H s e s' h => CX_false h
end Ev

/-! Ev16: reckoning with the functions. -/
namespace Ev
open PySem L2
def seqO (o : SOut) (g : SF) : SOut := match o with
  | .nx env S => g env S
  | o => o
def loopO (o : SOut) (k : SF) : SOut := match o with
  | .nx env S => k env S
  | .ct env S => k env S
  | .bk env S => .nx env S
  | o => o
section
variable {c : Prop} [Decidable c]
theorem sSeq_eq (f g : SF) (env : List Slot) (S : List Cell) : sSeq f g env S = seqO (f env S) g := rfl
@[simp] theorem seqO_nx (env : List Slot) (S : List Cell) (g : SF) : seqO (.nx env S) g = g env S := rfl
@[simp] theorem seqO_rt (d : D) (S : List Cell) (g : SF) : seqO (.rt d S) g = .rt d S := rfl
@[simp] theorem seqO_bk (env : List Slot) (S : List Cell) (g : SF) : seqO (.bk env S) g = .bk env S := rfl
@[simp] theorem seqO_ct (env : List Slot) (S : List Cell) (g : SF) : seqO (.ct env S) g = .ct env S := rfl
@[simp] theorem seqO_exc (x : Str) (p : D) (env : List Slot) (S : List Cell) (g : SF) : seqO (.exc x p env S) g = .exc x p env S := rfl
@[simp] theorem seqO_bot (g : SF) : seqO .bot g = .bot := rfl
@[simp] theorem seqO_ite (a b : SOut) (g : SF) : seqO (if c then a else b) g = if c then seqO a g else seqO b g := by split <;> rfl
@[simp] theorem loopO_nx (env : List Slot) (S : List Cell) (g : SF) : loopO (.nx env S) g = g env S := rfl
@[simp] theorem loopO_rt (d : D) (S : List Cell) (g : SF) : loopO (.rt d S) g = .rt d S := rfl
@[simp] theorem loopO_bk (env : List Slot) (S : List Cell) (g : SF) : loopO (.bk env S) g = .nx env S := rfl
@[simp] theorem loopO_ct (env : List Slot) (S : List Cell) (g : SF) : loopO (.ct env S) g = g env S := rfl
@[simp] theorem loopO_exc (x : Str) (p : D) (env : List Slot) (S : List Cell) (g : SF) : loopO (.exc x p env S) g = .exc x p env S := rfl
@[simp] theorem loopO_bot (g : SF) : loopO .bot g = .bot := rfl
@[simp] theorem loopO_ite (a b : SOut) (g : SF) : loopO (if c then a else b) g = if c then loopO a g else loopO b g := by split <;> rfl
@[simp] theorem outF_nx (env : List Slot) (S : List Cell) : outF (.nx env S) = .val .non S := rfl
@[simp] theorem outF_rt (d : D) (S : List Cell) : outF (.rt d S) = .val d S := rfl
@[simp] theorem outF_exc (x : Str) (p : D) (env : List Slot) (S : List Cell) : outF (.exc x p env S) = .exc x p S := rfl
@[simp] theorem outF_bot : outF .bot = .bot := rfl
@[simp] theorem outF_bk (env : List Slot) (S : List Cell) : outF (.bk env S) = .bot := rfl
@[simp] theorem outF_ct (env : List Slot) (S : List Cell) : outF (.ct env S) = .bot := rfl
@[simp] theorem outF_ite (a b : SOut) : outF (if c then a else b) = if c then outF a else outF b := by split <;> rfl
@[simp] theorem bind_ite {α β : Type} (a b : Out α) (f : α → List Cell → Out β) : (if c then a else b).bind f = if c then a.bind f else b.bind f := by split <;> rfl
@[simp] theorem then_ite {α : Type} (a b : Out α) (env : List Slot) (f : α → List Cell → SOut) : (if c then a else b).then env f = if c then a.then env f else b.then env f := by split <;> rfl
@[simp] theorem noX_ite {α : Type} (a b : Out α) : noX (if c then a else b) = if c then noX a else noX b := by split <;> rfl
@[simp] theorem noX_val {α : Type} (a : α) (S : List Cell) : noX (.val a S) = .val a S := rfl
@[simp] theorem noX_bot {α : Type} : noX (.bot : Out α) = .bot := rfl
theorem whileF_succ (t : TF) (b : SF) (n : Nat) (env : List Slot) (S : List Cell) : whileF t b (n + 1) env S = (t env S).then env fun k S1 => if k = true then loopO (b env S1) (whileF t b n) else .nx env S1 := by
  show ((t env S).then env fun k S1 => if k = true then (match b env S1 with | .nx env' S' => whileF t b n env' S' | .ct env' S' => whileF t b n env' S' | .bk env' S' => .nx env' S' | o => o) else .nx env S1) = _
  congr
end
/-- what a loop goes through, where it is known at its start -/
def wkItems : Wk → Option (List D)
  | .sq (.tup ds) => some ds
  | .sq (.lst ds) => some ds
  | .sq (.rol ds) => some ds
  | .sq _ => none
  | .rng lo n => some ((List.range n).map fun i : Nat => .int (lo + (i : Int)))
  | .txt z => some (z.map fun c => .str [c])
theorem wkItems_spec {w : Wk} {ds : List D} (h : wkItems w = some ds) (S : List Cell) : wkLen S w = ds.length ∧ ∀ i, wkAt S i w = some ds[i]? := by
  cases w with
  | sq d =>
    cases d with
    | tup es => cases h; exact ⟨rfl, fun _ => rfl⟩
    | lst es => cases h; exact ⟨rfl, fun _ => rfl⟩
    | rol es => cases h; exact ⟨rfl, fun _ => rfl⟩
    | _ => cases h
  | rng lo n =>
    cases h
    refine ⟨by simp [wkLen], fun i => ?_⟩
    show (if i < n then some (some (D.int (lo + (i : Int)))) else some none) = _
    by_cases hi : i < n
    · rw [if_pos hi]; simp [hi]
    · rw [if_neg hi]; simp [Nat.not_lt.mp hi]
  | txt z =>
    cases h
    exact ⟨by simp [wkLen], fun i => by simp [wkAt]⟩
def forL (g : GF) (b : SF) : List D → SF
  | [], env, S => .nx env S
  | d :: ds, env, S => match g d env S with
    | some env1 => loopO (b env1 S) (forL g b ds)
    | none => .bot
theorem forF_items {w : Wk} {ds : List D} (h : wkItems w = some ds) (g : GF) (b : SF) : ∀ (n i : Nat) (env : List Slot) (S : List Cell), i + n = ds.length → forF w g b n i env S = forL g b (ds.drop i) env S := by
  intro n
  induction n with
  | zero =>
    intro i env S hi
    unfold forF
    rw [(wkItems_spec h S).2 i, List.getElem?_eq_none (by omega), List.drop_of_length_le (by omega)]
    rfl
  | succ n ih =>
    intro i env S hi
    have hlt : i < ds.length := by omega
    rw [List.drop_eq_getElem_cons hlt]
    unfold forF forL
    rw [(wkItems_spec h S).2 i, List.getElem?_eq_getElem hlt]
    dsimp only
    cases g ds[i] env S with
    | none => rfl
    | some env1 =>
      dsimp only
      have ih' : ∀ env' S', forF w g b n (i + 1) env' S' = forL g b (ds.drop (i + 1)) env' S' := fun env' S' => ih (i + 1) env' S' (by omega)
      cases b env1 S with
      | nx e s => exact ih' e s
      | ct e s => exact ih' e s
      | bk e s => rfl
      | rt d s => rfl
      | exc x p e s => rfl
      | bot => rfl
theorem sFor_eq {wf : WF} {g : GF} {b : SF} {env : List Slot} {S S1 : List Cell} {w : Wk} {ds : List D} (hw : wf env S = .val w S1) (h : wkItems w = some ds) : sFor wf g b env S = forL g b ds env S1 := by
  unfold sFor
  rw [hw]
  show forF w g b (wkLen S1 w) 0 env S1 = _
  rw [(wkItems_spec h S1).1, forF_items h g b _ 0 env S1 (by omega)]
  rfl
def lcL (g : GF) (t : TF) (f : EF) (env0 : List Slot) : List D → List Cell → List D → Out (List D)
  | [], S, acc => .val acc S
  | d :: ds, S, acc => match g d env0 S with
    | some env1 => (noX (t env1 S)).bind fun k S1 => if k = true then (noX (f env1 S1)).bind fun x S2 => match x with
        | .dat y => if acc.length < sizeLine then lcL g t f env0 ds S2 (acc ++ [y]) else .bot
        | .loc _ => .bot
      else lcL g t f env0 ds S1 acc
    | none => .bot
theorem bind_congr {α β : Type} {x : Out α} {f g : α → List Cell → Out β} (h : ∀ a S, f a S = g a S) : x.bind f = x.bind g := by
  cases x with
  | val a S => exact h a S
  | exc c p S => rfl
  | bot => rfl
theorem lcF_items {w : Wk} {ds : List D} (h : wkItems w = some ds) (g : GF) (t : TF) (f : EF) (env0 : List Slot) : ∀ (n i : Nat) (S : List Cell) (acc : List D), i + n = ds.length → lcF w g t f env0 n i S acc = lcL g t f env0 (ds.drop i) S acc := by
  intro n
  induction n with
  | zero =>
    intro i S acc hi
    unfold lcF
    rw [(wkItems_spec h S).2 i, List.getElem?_eq_none (by omega), List.drop_of_length_le (by omega)]
    rfl
  | succ n ih =>
    intro i S acc hi
    have hlt : i < ds.length := by omega
    rw [List.drop_eq_getElem_cons hlt]
    unfold lcF lcL
    rw [(wkItems_spec h S).2 i, List.getElem?_eq_getElem hlt]
    dsimp only
    cases g ds[i] env0 S with
    | none => rfl
    | some env1 =>
      dsimp only
      refine bind_congr fun k S1 => ?_
      cases k with
      | true =>
        rw [if_pos rfl, if_pos rfl]
        refine bind_congr fun x S2 => ?_
        cases x with
        | loc i => rfl
        | dat y =>
          dsimp only
          split
          · exact ih (i + 1) S2 _ (by omega)
          · rfl
      | false =>
        rw [if_neg (by decide), if_neg (by decide)]
        exact ih (i + 1) S1 acc (by omega)
theorem nLc_eq {wf : WF} {g : GF} {t : TF} {f : EF} {vs : List Nat} {env : List Slot} {S S1 : List Cell} {w : Wk} {ds : List D} (hw : wf env S = .val w S1) (h : wkItems w = some ds) :
    nLc wf g t f vs env S = (lcL g t f (wipeE env vs) ds S1 []).bind fun acc S2 => .val (Cell.lst acc) S2 := by
  unfold nLc
  rw [hw]
  show ((lcF w g t f (wipeE env vs) (wkLen S1 w) 0 S1 []).bind fun acc S2 => .val (Cell.lst acc) S2) = _
  rw [(wkItems_spec h S1).1, lcF_items h g t f _ _ 0 S1 [] (by omega)]
  rfl
/-- a comprehension whose test and element only reckon -/
theorem lcL_pure {g : GF} {t : TF} {f : EF} {env0 : List Slot} {S : List Cell} (e1 : D → List Slot) (p : D → Bool) (F : D → D) : ∀ (ds acc : List D), (∀ d ∈ ds, g d env0 S = some (e1 d) ∧ t (e1 d) S = .val (p d) S ∧ (p d = true → f (e1 d) S = .val (.dat (F d)) S)) → acc.length + ds.length ≤ sizeLine →
    lcL g t f env0 ds S acc = .val (acc ++ (ds.filter p).map F) S := by
  intro ds
  induction ds with
  | nil => intro acc _ _; simp [lcL]
  | cons d ds ih =>
    intro acc h hl
    obtain ⟨h1, h2, h3⟩ := h d List.mem_cons_self
    have ih' := fun acc' hl' => ih acc' (fun d' hd' => h d' (List.mem_cons_of_mem _ hd')) hl'
    unfold lcL
    rw [h1]
    dsimp only
    rw [h2]
    simp only [noX_val, bind_val]
    simp only [List.length_cons] at hl
    cases hp : p d with
    | true =>
      rw [if_pos rfl, h3 hp]
      simp only [noX_val, bind_val]
      rw [if_pos (by omega), ih' _ (by simp; omega), List.filter_cons_of_pos hp]
      simp
    | false =>
      rw [if_neg (by decide), ih' _ (by omega), List.filter_cons_of_neg (by simp [hp])]
theorem atI_eq {α : Type} (xs : List α) (i : Int) : atI xs i = if 0 ≤ i then xs[i.toNat]? else if -(xs.length : Int) ≤ i then xs[(i + xs.length).toNat]? else none := by
  unfold atI ixN
  by_cases h0 : 0 ≤ i
  · rw [if_pos h0, if_pos h0]
    by_cases h1 : i < xs.length
    · rw [if_pos h1]; rfl
    · rw [if_neg h1, List.getElem?_eq_none (by omega)]; rfl
  · rw [if_neg h0, if_neg h0]
    by_cases h1 : -(xs.length : Int) ≤ i
    · rw [if_pos h1, if_pos h1]; rfl
    · rw [if_neg h1, if_neg h1]; rfl
/-- the i-th of a list, by an int that is no less than 0 -/
theorem atI_pos {α : Type} (xs : List α) (i : Int) (h : 0 ≤ i) : atI xs i = xs[i.toNat]? := by rw [atI_eq, if_pos h]
end Ev

/-! Tape: the draws of the laws. -/
namespace Ev
open PySem L2
def bPick : SF := (sSeq (sIf (tAnd' (bT (e2 (gB cEq) (e2 gIx (eVar 0) (eC (.int 2))) (eC (.int 0)))) (bT (e2 (gB cLt) (e2 gIx (eVar 0) (eC (.int 1))) (eCall fLen (aCons (e2 gIx (eVar 0) (eC (.int 0))) aNil)))))
  (sSeq (sSet 2 (eCall fAbs (aCons (e2 gIx (e2 gIx (eVar 0) (eC (.int 0))) (e2 gIx (eVar 0) (eC (.int 1)))) aNil)))
  (sSeq (sStL (e2 gAdd (e2 gIx (eVar 0) (eC (.int 1))) (eC (.int 1))) (eVar 0) (eC (.int 1)))
  (sIf (bT (e2 (gB cGe) (eVar 2) (e2 gPow (eC (.int 10)) (eC (.int 18)))))
  (sStL (eVar 2) (eVar 0) (eC (.int 2)))
  (sStL (e2 gAdd (e2 gMod (eCall fInt (aCons (e2 gAdd (e2 gMul (e2 gIx (eVar 0) (eC (.int 3))) (eC (.int 48271))) (eVar 2)) aNil)) (eC (.int 2147483646))) (eC (.int 1))) (eVar 0) (eC (.int 3))))))
  sNx)
  (sSeq (sIf (bT (e2 (gB cGt) (e2 gIx (eVar 0) (eC (.int 2))) (eC (.int 0))))
  (sSeq (sSet 3 (e2 gMod (eCall fInt (aCons (e2 gIx (eVar 0) (eC (.int 2))) aNil)) (eVar 1)))
  (sSeq (sStL (e2 gDiv (e2 gIx (eVar 0) (eC (.int 2))) (eVar 1)) (eVar 0) (eC (.int 2)))
  (sRet (eVar 3))))
  sNx)
  (sSeq (sStL (e2 gMod (eCall fInt (aCons (e2 gMul (e2 gIx (eVar 0) (eC (.int 3))) (eC (.int 48271))) aNil)) (eC (.int 2147483647))) (eVar 0) (eC (.int 3)))
  (sRet (e2 gMod (eCall fInt (aCons (e2 gAdd (e2 gDiv (e2 gIx (eVar 0) (eC (.int 3))) (eC (.int 5))) (e2 gMod (eCall fInt (aCons (e2 gMul (e2 gIx (eVar 0) (eC (.int 3))) (e2 gIx (eVar 0) (eC (.int 3)))) aNil)) (eC (.int 2147483629)))) aNil)) (eVar 1))))))
local macro_rules | `(tactic| walk_at "ev") => `(tactic| simp [fnF, fnEnv, sSeq_eq, sNx, sRet, sEx, sIf, sSet, sAsg, sSetL, sSetN, sSetG, sRetG, sApp, sLm, kApp, sStL, putL, putE, putS, lstAt, Ev.cellOf, plOf, sAug, iAdd, iSub, sAugL, sPar, frzE,
  eVar, eC, eTup, eLst, nLst, e2, gAdd, Ev.gSub, gMul, gDiv, gMod, gPow, gShl, gShr, gXor, gInt, gB, cEq, cNe, cLt, cLe, cGt, cGe, cOrd, cIsN, cNotN, datOf, dep, eqD, eqL, eCh, eAnd, eOr, eNot, eIf, bT, tT1, tAnd', tOr', tNot', truX, seqOf, lstOf, gIx, eSl, slX, oNone, oSome,
  eCall, fLen, fAbs, fInt, fOrd, fChr, fMax, fMin, eFn, aCons, aNil, gN, gNl, gCs, gT, powC, modC, divC, mulC, small64, shrC, atI_eq, ixN, List.set_set, *])
/-- the list of a tape: the script, or a list of it -/
def IsScr (d : D) (ns : List Int) : Prop := d = .rol (ns.map .int) ∨ d = .lst (ns.map .int)
/-- a tape that is drawn from -/
structure IsTape (c : Cell) : Prop where
  ex : ∃ (d : D) (ns : List Int) (i r s : Int), c = .lst [d, .int i, .int r, .int s] ∧ IsScr d ns ∧ 0 ≤ i ∧ 0 ≤ r ∧ 0 ≤ s ∧ s < 2147483648
theorem gss {S : List Cell} {n : Nat} {c : Cell} (h : S[n]? = some c) (c' : Cell) : (S.set n c')[n]? = some c' := List.getElem?_set_self (List.getElem?_eq_some_iff.mp h).1
/-- what is drawn of a tape, and the tape behind it -/
def lastF (i r s lim : Int) : Int × Int × Int × Int :=
  ((s * 48271 % 2147483647 / 5 + s * 48271 % 2147483647 * (s * 48271 % 2147483647) % 2147483629) % lim, i, r, s * 48271 % 2147483647)
def absAt (ns : List Int) (i : Int) : Int := match ns[i.toNat]? with
  | some x => if x < 0 then -x else x
  | none => 0
def bigF (i s lim y : Int) : Int × Int × Int × Int :=
  if 1000000000000000000 ≤ y then (if 0 < y then (y % lim, i + 1, y / lim, s) else lastF (i + 1) y s lim) else lastF (i + 1) 0 ((s * 48271 + y) % 2147483646 + 1) lim
def pickF (ns : List Int) (i r s lim : Int) : Int × Int × Int × Int :=
  if r = 0 then (if i < ns.length then bigF i s lim (absAt ns i) else lastF i 0 s lim) else (r % lim, i, r / lim, s)
theorem lastF_ok {i r s lim : Int} (h0 : 0 < lim) (hi : 0 ≤ i) (hr : 0 ≤ r) : 0 ≤ (lastF i r s lim).1 ∧ (lastF i r s lim).1 < lim ∧ 0 ≤ (lastF i r s lim).2.1 ∧ 0 ≤ (lastF i r s lim).2.2.1 ∧ 0 ≤ (lastF i r s lim).2.2.2 ∧ (lastF i r s lim).2.2.2 < 2147483648 := by
  refine ⟨Int.emod_nonneg _ (by omega), Int.emod_lt_of_pos _ h0, hi, hr, Int.emod_nonneg _ (by decide), ?_⟩
  have := Int.emod_lt_of_pos (s * 48271) (show (0 : Int) < 2147483647 by decide)
  show s * 48271 % 2147483647 < 2147483648
  omega
theorem pickF_ok {ns : List Int} {i r s lim : Int} (h0 : 0 < lim) (hi : 0 ≤ i) (hr : 0 ≤ r) (hs : 0 ≤ s) (hs2 : s < 2147483648) :
    0 ≤ (pickF ns i r s lim).1 ∧ (pickF ns i r s lim).1 < lim ∧ 0 ≤ (pickF ns i r s lim).2.1 ∧ 0 ≤ (pickF ns i r s lim).2.2.1 ∧ 0 ≤ (pickF ns i r s lim).2.2.2 ∧ (pickF ns i r s lim).2.2.2 < 2147483648 := by
  have ed : ∀ y : Int, 0 ≤ y → 0 ≤ y % lim ∧ y % lim < lim ∧ 0 ≤ y / lim := fun y hy => ⟨Int.emod_nonneg _ (by omega), Int.emod_lt_of_pos _ h0, Int.ediv_nonneg hy (by omega)⟩
  have big : ∀ y : Int, 0 ≤ (bigF i s lim y).1 ∧ (bigF i s lim y).1 < lim ∧ 0 ≤ (bigF i s lim y).2.1 ∧ 0 ≤ (bigF i s lim y).2.2.1 ∧ 0 ≤ (bigF i s lim y).2.2.2 ∧ (bigF i s lim y).2.2.2 < 2147483648 := by
    intro y
    unfold bigF
    split
    · split
      · rename_i h _
        obtain ⟨a, b, c⟩ := ed y (by omega)
        exact ⟨a, b, by show 0 ≤ i + 1; omega, c, hs, hs2⟩
      · exact lastF_ok h0 (by omega) (by omega)
    · exact lastF_ok h0 (by omega) (by omega)
  unfold pickF
  split
  · split
    · exact big _
    · exact lastF_ok h0 hi (by omega)
  · obtain ⟨a, b, c⟩ := ed r hr
    exact ⟨a, b, hi, c, hs, hs2⟩
theorem pick_eq {S : List Cell} {n : Nat} {d : D} {ns : List Int} {i r s lim : Int} (hd : IsScr d ns) (hS : S[n]? = some (.lst [d, .int i, .int r, .int s])) (hi : 0 ≤ i) (hr : 0 ≤ r) (hs : 0 ≤ s) (hs2 : s < 2147483648) (h0 : 0 < lim) (h1 : lim < 18446744073709551616) :
    fnF 4 bPick [.own n, .int lim] S = .val (.int (pickF ns i r s lim).1) (S.set n (.lst [d, .int (pickF ns i r s lim).2.1, .int (pickF ns i r s lim).2.2.1, .int (pickF ns i r s lim).2.2.2])) := by
  have gs := gss hS
  have n2 : ∀ x : Int, 0 ≤ x % 2147483647 ∧ x % 2147483647 < 2147483648 := fun x => ⟨Int.emod_nonneg _ (by decide), by have := Int.emod_lt_of_pos x (show (0 : Int) < 2147483647 by decide); omega⟩
  have e1 : ∀ x : Int, -18446744073709551616 < x % 2147483647 := fun x => by have := n2 x; omega
  have e2 : ∀ x : Int, x % 2147483647 < 18446744073709551616 := fun x => by have := n2 x; omega
  clear n2
  rcases hd with rfl | rfl
  · by_cases h2 : r = 0
    · subst h2
      by_cases h3 : i < ns.length
      · unfold bPick
        have e3 : pickF ns i 0 s lim = bigF i s lim (absAt ns i) := by unfold pickF; rw [if_pos rfl, if_pos h3]
        have e4 : absAt ns i = if (ns[i.toNat]'(by omega)) < 0 then -(ns[i.toNat]'(by omega)) else (ns[i.toNat]'(by omega)) := by unfold absAt; rw [List.getElem?_eq_getElem (by omega)]
        rw [e3, e4]
        clear e3 e4
        walk_at "ev"
        generalize (if (ns[i.toNat]'(by omega)) < 0 then -(ns[i.toNat]'(by omega)) else (ns[i.toNat]'(by omega))) = y
        by_cases h4 : 1000000000000000000 ≤ y
        · have h5 : 0 < y := by omega
          simp [bigF, h4, h5]
        · simp [bigF, h4, lastF]
      · unfold bPick
        walk_at "ev"
        simp [pickF, h3, lastF]
    · have h3 : 0 < r := by omega
      unfold bPick
      walk_at "ev"
      simp [pickF, h2]
  · by_cases h2 : r = 0
    · subst h2
      by_cases h3 : i < ns.length
      · unfold bPick
        have e3 : pickF ns i 0 s lim = bigF i s lim (absAt ns i) := by unfold pickF; rw [if_pos rfl, if_pos h3]
        have e4 : absAt ns i = if (ns[i.toNat]'(by omega)) < 0 then -(ns[i.toNat]'(by omega)) else (ns[i.toNat]'(by omega)) := by unfold absAt; rw [List.getElem?_eq_getElem (by omega)]
        rw [e3, e4]
        clear e3 e4
        walk_at "ev"
        generalize (if (ns[i.toNat]'(by omega)) < 0 then -(ns[i.toNat]'(by omega)) else (ns[i.toNat]'(by omega))) = y
        by_cases h4 : 1000000000000000000 ≤ y
        · have h5 : 0 < y := by omega
          simp [bigF, h4, h5]
        · simp [bigF, h4, lastF]
      · unfold bPick
        walk_at "ev"
        simp [pickF, h3, lastF]
    · have h3 : 0 < r := by omega
      unfold bPick
      walk_at "ev"
      simp [pickF, h2]
end Ev

namespace Ev
open PySem L2
/-- a tape, as a thing -/
structure Tp where
  d : D
  ns : List Int
  i : Int
  r : Int
  s : Int
  hd : IsScr d ns
  hi : 0 ≤ i
  hr : 0 ≤ r
  hs : 0 ≤ s
  hs2 : s < 2147483648
def Tp.c (t : Tp) : Cell := .lst [t.d, .int t.i, .int t.r, .int t.s]
/-- what is drawn below lim -/
def Tp.k (t : Tp) (lim : Int) : Int := (pickF t.ns t.i t.r t.s lim).1
/-- the tape behind it -/
def Tp.n (t : Tp) (lim : Int) : Tp :=
  if h : 0 < lim then
    have q := pickF_ok (ns := t.ns) (i := t.i) (r := t.r) (s := t.s) h t.hi t.hr t.hs t.hs2
    ⟨t.d, t.ns, (pickF t.ns t.i t.r t.s lim).2.1, (pickF t.ns t.i t.r t.s lim).2.2.1, (pickF t.ns t.i t.r t.s lim).2.2.2, t.hd, q.2.2.1, q.2.2.2.1, q.2.2.2.2.1, q.2.2.2.2.2⟩
  else t
theorem Tp.lo (t : Tp) {lim : Int} (h : 0 < lim) : 0 ≤ t.k lim := (pickF_ok h t.hi t.hr t.hs t.hs2).1
theorem Tp.hi' (t : Tp) {lim : Int} (h : 0 < lim) : t.k lim < lim := (pickF_ok h t.hi t.hr t.hs t.hs2).2.1
/-- what the law's draw does -/
def Draws (C : CF) : Prop := ∀ (S : List Cell) (n : Nat) (t : Tp) (lim : Int), S[n]? = some t.c → 0 < lim → lim < 18446744073709551616 → C [.own n, .int lim] S = .val (.int (t.k lim)) (S.set n (t.n lim).c)
theorem pick_draws : Draws (fnF 4 bPick) := by
  intro S n t lim hS h0 h1
  rw [pick_eq t.hd hS t.hi t.hr t.hs t.hs2 h0 h1]
  unfold Tp.k Tp.n Tp.c
  rw [dif_pos h0]
def t0 (ns : List Int) (s : Int) (hs : 0 ≤ s ∧ s < 2147483648) : Tp := ⟨.rol (ns.map .int), ns, 0, 0, s, .inl rfl, by decide, by decide, hs.1, hs.2⟩
def t1 (ns : List Int) (s : Int) (hs : 0 ≤ s ∧ s < 2147483648) : Tp := ⟨.lst (ns.map .int), ns, 0, 0, s, .inr rfl, by decide, by decide, hs.1, hs.2⟩
theorem Draws.one {C : CF} (h : Draws C) (t : Tp) (lim : Int) (h0 : 0 < lim) (h1 : lim < 18446744073709551616) : C [.own 0, .int lim] [t.c] = .val (.int (t.k lim)) [(t.n lim).c] := h [t.c] 0 t lim rfl h0 h1
end Ev

namespace Ev
open PySem L2
local macro_rules | `(tactic| walk_at "ev") => `(tactic| simp [fnF, fnEnv, sSeq_eq, sNx, sRet, sEx, sIf, sSet, sAsg, sSetL, sSetN, sSetG, sRetG, sApp, sLm, kApp, sStL, putL, putE, putS, lstAt, Ev.cellOf, plOf, sAug, iAdd, iSub, sAugL, sPar, frzE,
  eVar, eC, eTup, eLst, nLst, e2, gAdd, Ev.gSub, gMul, gDiv, gMod, gPow, gShl, gShr, gXor, gInt, gB, cEq, cNe, cLt, cLe, cGt, cGe, cOrd, cIsN, cNotN, datOf, dep, eqD, eqL, eCh, eAnd, eOr, eNot, eIf, bT, tT1, tAnd', tOr', tNot', truX, seqOf, lstOf, gIx, eSl, slX, oNone, oSome,
  eCall, fLen, fAbs, fInt, fOrd, fChr, fMax, fMin, eFn, aCons, aNil, gN, gNl, gCs, gT, powC, modC, divC, mulC, small64, shrC, atI_eq, ixN, List.set_set, *])
theorem pick_eqW {S : List Cell} {n : Nat} {d : D} {ns : List Int} {i r s lim : Int} (hd : IsScr d ns) (hS : S[n]? = some (.lst [d, .int i, .int r, .int s])) (hi : 0 ≤ i) (hr : 0 ≤ r) (hs : 0 ≤ s) (hs2 : s < 2147483648) (h0 : 0 < lim) (h1 : lim < 18446744073709551616 ∨ lim.natAbs.log2 < 9000) :
    fnF 4 bPick [.own n, .int lim] S = .val (.int (pickF ns i r s lim).1) (S.set n (.lst [d, .int (pickF ns i r s lim).2.1, .int (pickF ns i r s lim).2.2.1, .int (pickF ns i r s lim).2.2.2])) := by
  have gs := gss hS
  have n2 : ∀ x : Int, 0 ≤ x % 2147483647 ∧ x % 2147483647 < 2147483648 := fun x => ⟨Int.emod_nonneg _ (by decide), by have := Int.emod_lt_of_pos x (show (0 : Int) < 2147483647 by decide); omega⟩
  have e1 : ∀ x : Int, -18446744073709551616 < x % 2147483647 := fun x => by have := n2 x; omega
  have e2 : ∀ x : Int, x % 2147483647 < 18446744073709551616 := fun x => by have := n2 x; omega
  clear n2
  rcases hd with rfl | rfl
  · by_cases h2 : r = 0
    · subst h2
      by_cases h3 : i < ns.length
      · unfold bPick
        have e3 : pickF ns i 0 s lim = bigF i s lim (absAt ns i) := by unfold pickF; rw [if_pos rfl, if_pos h3]
        have e4 : absAt ns i = if (ns[i.toNat]'(by omega)) < 0 then -(ns[i.toNat]'(by omega)) else (ns[i.toNat]'(by omega)) := by unfold absAt; rw [List.getElem?_eq_getElem (by omega)]
        rw [e3, e4]
        clear e3 e4
        walk_at "ev"
        generalize (if (ns[i.toNat]'(by omega)) < 0 then -(ns[i.toNat]'(by omega)) else (ns[i.toNat]'(by omega))) = y
        by_cases h4 : 1000000000000000000 ≤ y
        · have h5 : 0 < y := by omega
          simp [bigF, h4, h5]
        · simp [bigF, h4, lastF]
      · unfold bPick
        walk_at "ev"
        simp [pickF, h3, lastF]
    · have h3 : 0 < r := by omega
      unfold bPick
      walk_at "ev"
      simp [pickF, h2]
  · by_cases h2 : r = 0
    · subst h2
      by_cases h3 : i < ns.length
      · unfold bPick
        have e3 : pickF ns i 0 s lim = bigF i s lim (absAt ns i) := by unfold pickF; rw [if_pos rfl, if_pos h3]
        have e4 : absAt ns i = if (ns[i.toNat]'(by omega)) < 0 then -(ns[i.toNat]'(by omega)) else (ns[i.toNat]'(by omega)) := by unfold absAt; rw [List.getElem?_eq_getElem (by omega)]
        rw [e3, e4]
        clear e3 e4
        walk_at "ev"
        generalize (if (ns[i.toNat]'(by omega)) < 0 then -(ns[i.toNat]'(by omega)) else (ns[i.toNat]'(by omega))) = y
        by_cases h4 : 1000000000000000000 ≤ y
        · have h5 : 0 < y := by omega
          simp [bigF, h4, h5]
        · simp [bigF, h4, lastF]
      · unfold bPick
        walk_at "ev"
        simp [pickF, h3, lastF]
    · have h3 : 0 < r := by omega
      unfold bPick
      walk_at "ev"
      simp [pickF, h2]
/-- .. below any limit -/
def DrawsW (C : CF) : Prop := ∀ (S : List Cell) (n : Nat) (t : Tp) (lim : Int), S[n]? = some t.c → 0 < lim → lim < 18446744073709551616 ∨ lim.natAbs.log2 < 9000 → C [.own n, .int lim] S = .val (.int (t.k lim)) (S.set n (t.n lim).c)
theorem pick_drawsW : DrawsW (fnF 4 bPick) := by
  intro S n t lim hS h0 h1
  rw [pick_eqW t.hd hS t.hi t.hr t.hs t.hs2 h0 h1]
  unfold Tp.k Tp.n Tp.c
  rw [dif_pos h0]
end Ev

/-! Calc: going on statement by statement. -/
namespace Ev
open PySem L2
section
variable {env : List Slot} {S S' : List Cell} {i : Nat} {d : D} {f : EF} {g h : SF} {c : TF} {b : Bool}
theorem go_set (e : f env S = .val (.dat d) S') : sSeq (sSet i f) g env S = g (env.set i (.val d)) S' := by
  rw [sSeq_eq]; unfold sSet; rw [e]; rfl
theorem go_if (e : c env S = .val b S') : sIf c g h env S = if b = true then g env S' else h env S' := by
  unfold sIf; rw [e]; rfl
theorem go_ifS {r : SF} (e : c env S = .val b S') : sSeq (sIf c g h) r env S = seqO (if b = true then g env S' else h env S') r := by
  rw [sSeq_eq]; unfold sIf; rw [e]; rfl
/-- an item of a list by a number within it -/
theorem gIx_mem {ds : List D} {k : Int} (h0 : 0 ≤ k) (h1 : k < ds.length) : ∃ d ∈ ds, ∀ env S, gIx env S (.dat (.lst ds)) (.dat (.int k)) = some d := by
  have hl : k.toNat < ds.length := by omega
  refine ⟨ds[k.toNat], List.getElem_mem hl, fun env S => ?_⟩
  show atI ds k = _
  rw [atI_pos _ _ h0, List.getElem?_eq_getElem hl]
theorem e2_eq {op : List Slot → List Cell → XD → XD → Option D} {fa fb : EF} {x y : XD} {S1 S2 : List Cell} (h1 : fa env S = .val x S1) (h2 : fb env S1 = .val y S2) (h3 : op env S2 x y = some d) : e2 op fa fb env S = .val (.dat d) S2 := by
  unfold e2; rw [h1]; show (fb env S1).bind _ = _; rw [h2]; show (match op env S2 x y with | some d => _ | none => _) = _; rw [h3]
/-- [a, b, ..][draw] -/
theorem menu {fa fb : EF} {ds : List D} {t : Tp} {k : Int} {S1 S2 : List Cell} (h1 : fa env S = .val (.dat (.lst ds)) S1) (h2 : fb env S1 = .val (.dat (.int k)) S2) (h3 : 0 ≤ k) (h4 : k < ds.length) : ∃ d ∈ ds, e2 gIx fa fb env S = .val (.dat d) S2 := by
  obtain ⟨d, hd, he⟩ := gIx_mem h3 h4
  exact ⟨d, hd, e2_eq h1 h2 (he _ _)⟩
end
end Ev

/-! Wp: going through a body backwards. -/
namespace Ev
open PySem L2
/-- how a reckoning ends -/
def wV {α : Type} (o : Out α) (X : Str → D → List Cell → Prop) (Q : α → List Cell → Prop) : Prop := match o with
  | .val a S => Q a S
  | .exc c p S => X c p S
  | .bot => False
structure Po where
  nx : List Slot → List Cell → Prop
  rt : D → List Cell → Prop
  bk : List Slot → List Cell → Prop
  ct : List Slot → List Cell → Prop
  ex : Str → D → List Slot → List Cell → Prop
def wS (o : SOut) (P : Po) : Prop := match o with
  | .nx env S => P.nx env S
  | .rt d S => P.rt d S
  | .bk env S => P.bk env S
  | .ct env S => P.ct env S
  | .exc c p env S => P.ex c p env S
  | .bot => False
/-- an operation's answer -/
def wO {α : Type} (o : Option α) (Q : α → Prop) : Prop := match o with
  | some a => Q a
  | none => False
section
variable {α β : Type} {X : Str → D → List Cell → Prop} {env : List Slot} {S S' : List Cell} {P : Po}
theorem wV_bind {o : Out α} {f : α → List Cell → Out β} {Q : β → List Cell → Prop} (h : wV o X fun a S => wV (f a S) X Q) : wV (o.bind f) X Q := by
  cases o <;> exact h
theorem wS_then {o : Out α} {f : α → List Cell → SOut} (h : wV o (fun c p S => P.ex c p env S) fun a S => wS (f a S) P) : wS (o.then env f) P := by
  cases o <;> exact h
theorem wV_imp {o : Out α} {Q Q' : α → List Cell → Prop} (h : wV o X Q) (i : ∀ a S, Q a S → Q' a S) : wV o X Q' := by
  cases o with
  | val a S => exact i _ _ h
  | exc c p S => exact h
  | bot => exact h
theorem wO_imp {o : Option α} {Q Q' : α → Prop} (h : wO o Q) (i : ∀ a, Q a → Q' a) : wO o Q' := by
  cases o with
  | some a => exact i _ h
  | none => exact h
/-! statements -/
theorem wS_nx (h : P.nx env S) : wS (sNx env S) P := h
theorem wS_seq {f g : SF} (h : wS (f env S) ⟨fun env S => wS (g env S) P, P.rt, P.bk, P.ct, P.ex⟩) : wS (sSeq f g env S) P := by
  unfold sSeq
  cases h' : f env S <;> (rw [h'] at h; exact h)
/-- both ways meet again -/
theorem wS_cut {f g : SF} (M : List Slot → List Cell → Prop) (h : wS (f env S) ⟨M, P.rt, P.bk, P.ct, P.ex⟩) (k : ∀ env S, M env S → wS (g env S) P) : wS (sSeq f g env S) P := by
  unfold sSeq
  cases h' : f env S <;> rw [h'] at h
  case nx e s => exact k _ _ h
  all_goals exact h
theorem wS_as {f g h : SF} (k : wS (sSeq (sSeq f g) h env S) P) : wS (sSeq f (sSeq g h) env S) P := by
  unfold sSeq at k ⊢
  cases h' : f env S <;> (rw [h'] at k; exact k)
theorem wS_ret {f : EF} (h : wV (f env S) (fun c p S => P.ex c p env S) fun x S1 => match x with | .dat d => P.rt d S1 | .loc _ => False) : wS (sRet f env S) P :=
  wS_then (wV_imp h fun x S1 q => by cases x <;> exact q)
theorem wS_ex {f : EF} (h : wV (f env S) (fun c p S => P.ex c p env S) fun _ S1 => P.nx env S1) : wS (sEx f env S) P := wS_then h
theorem wS_if {c : TF} {f g : SF} (h : wV (c env S) (fun c p S => P.ex c p env S) fun b S1 => if b = true then wS (f env S1) P else wS (g env S1) P) : wS (sIf c f g env S) P :=
  wS_then (wV_imp h fun b S1 q => by cases b <;> exact q)
theorem wS_set {i : Nat} {f : EF} (h : wV (f env S) (fun c p S => P.ex c p env S) fun x S1 => match x with | .dat d => P.nx (env.set i (.val d)) S1 | .loc _ => False) : wS (sSet i f env S) P :=
  wS_then (wV_imp h fun x S1 q => by cases x <;> exact q)
theorem wS_asg {g : GF} {f : EF} (h : wV (f env S) (fun c p S => P.ex c p env S) fun x S1 => match x with | .dat d => wO (g d env S1) fun env' => P.nx env' S1 | .loc _ => False) : wS (sAsg f g env S) P :=
  wS_then (wV_imp h fun x S1 q => by
    cases x with
    | loc i => exact q.elim
    | dat d => show wS (match g d env S1 with | some env' => .nx env' S1 | none => .bot) P; cases hg : g d env S1 <;> (simp only [hg] at q; exact q))
theorem if_t {p q : Prop} (h : p) : if true = true then p else q := by rw [if_pos rfl]; exact h
theorem if_f {p q : Prop} (h : q) : if false = true then p else q := by rw [if_neg (by decide)]; exact h
theorem if_nt {p q : Prop} (h : q) : if (!true) = true then p else q := by rw [if_neg (by decide)]; exact h
theorem if_nf {p q : Prop} (h : p) : if (!false) = true then p else q := by rw [if_pos (by decide)]; exact h
/-! targets -/
theorem wG_n {i : Nat} {d : D} {Q : List Slot → Prop} (h : Q (env.set i (.val d))) : wO (gN i d env S) Q := h
theorem wG_t {n : Nat} {g : GFs} {ds : List D} {Q : List Slot → Prop} (hn : ds.length = n) (h : wO (g ds env S) Q) : wO (gT n g (.tup ds) env S) Q := by
  show wO (if ds.length = n then g ds env S else none) Q
  rw [if_pos hn]; exact h
theorem wG_cs {g : GF} {r : GFs} {d : D} {ds : List D} {Q : List Slot → Prop} (h : wO (g d env S) fun env' => wO (r ds env' S) Q) : wO (gCs g r (d :: ds) env S) Q := by
  show wO (match g d env S with | some env' => r ds env' S | none => none) Q
  cases hg : g d env S <;> (rw [hg] at h; exact h)
theorem wG_nl {Q : List Slot → Prop} (h : Q env) : wO (gNl [] env S) Q := h
/-! values -/
theorem wE_v {i : Nat} {d : D} {Q : XD → List Cell → Prop} (hi : env[i]? = some (.val d)) (h : Q (.dat d) S) : wV (eVar i env S) X Q := by
  unfold eVar; rw [hi]; exact h
theorem wE_l {i : Nat} {c : Cell} {Q : XD → List Cell → Prop} (hi : env[i]? = some (.loc c)) (h : Q (.loc i) S) : wV (eVar i env S) X Q := by
  unfold eVar; rw [hi]; exact h
theorem wE_c {d : D} {Q : XD → List Cell → Prop} (h : Q (.dat d) S) : wV (eC d env S) X Q := h
theorem wE_2 {op : List Slot → List Cell → XD → XD → Option D} {fa fb : EF} {Q : XD → List Cell → Prop}
    (h : wV (fa env S) X fun x S1 => wV (fb env S1) X fun y S2 => wO (op env S2 x y) fun d => Q (.dat d) S2) : wV (e2 op fa fb env S) X Q :=
  wV_bind (wV_imp h fun x S1 q => wV_bind (wV_imp q fun y S2 q => by
    show wV (match op env S2 x y with | some d => .val (.dat d) S2 | none => .bot) X Q
    cases ho : op env S2 x y <;> (rw [ho] at q; exact q)))
theorem wA_nil {Q : List XD → List Cell → Prop} (h : Q [] S) : wV (aNil env S) X Q := h
theorem wA_cons {f : EF} {r : AF} {Q : List XD → List Cell → Prop} (h : wV (f env S) X fun x S1 => wV (r env S1) X fun xs S2 => Q (x :: xs) S2) : wV (aCons f r env S) X Q :=
  wV_bind (wV_imp h fun x S1 q => wV_bind q)
theorem wE_tup {f : AF} {Q : XD → List Cell → Prop} (h : wV (f env S) X fun xs S1 => wO (datL xs) fun ds => ds.length ≤ sizeLine ∧ Q (.dat (.tup ds)) S1) : wV (eTup f env S) X Q :=
  wV_bind (wV_imp h fun xs S1 q => by
    cases hd : datL xs with
    | none => rw [hd] at q; exact q.elim
    | some ds => rw [hd] at q; show wV (if ds.length ≤ sizeLine then _ else _) X Q; rw [if_pos q.1]; exact q.2)
theorem wE_lst {f : AF} {Q : XD → List Cell → Prop} (h : wV (f env S) X fun xs S1 => wO (datL xs) fun ds => ds.length ≤ sizeLine ∧ Q (.dat (.lst ds)) S1) : wV (eLst f env S) X Q :=
  wV_bind (wV_imp h fun xs S1 q => by
    cases hd : datL xs with
    | none => rw [hd] at q; exact q.elim
    | some ds => rw [hd] at q; show wV (if ds.length ≤ sizeLine then _ else _) X Q; rw [if_pos q.1]; exact q.2)
theorem wE_fn {n : Nat} {C : CF} {f : AF} {Q : XD → List Cell → Prop} (h : wV (f env S) X fun xs S1 => wO (datL xs) fun ds => ds.length = n ∧ wV (C ds S1) X fun d S2 => Q (.dat d) S2) : wV (eFn n C f env S) X Q :=
  wV_bind (wV_imp h fun xs S1 q => by
    cases hd : datL xs with
    | none => rw [hd] at q; exact q.elim
    | some ds => rw [hd] at q; show wV (if ds.length = n then _ else _) X Q; rw [if_pos q.1]; exact wV_bind q.2)
theorem wE_call {g : List Slot → List Cell → List XD → Option D} {f : AF} {Q : XD → List Cell → Prop} (h : wV (f env S) X fun xs S1 => wO (g env S1 xs) fun d => Q (.dat d) S1) : wV (eCall g f env S) X Q :=
  wV_bind (wV_imp h fun xs S1 q => by
    cases hd : g env S1 xs with
    | none => rw [hd] at q; exact q.elim
    | some d => rw [hd] at q; exact q)
theorem wE_if {c : TF} {f g : EF} {Q : XD → List Cell → Prop} (h : wV (c env S) X fun b S1 => if b = true then wV (f env S1) X Q else wV (g env S1) X Q) : wV (eIf c f g env S) X Q :=
  wV_bind (wV_imp h fun b S1 q => by cases b <;> exact q)
theorem wE_ch {g g' : List Slot → List Cell → XD → XD → Option Bool} {fa fb fc : EF} {Q : XD → List Cell → Prop}
    (h : wV (fa env S) X fun x S1 => wV (fb env S1) X fun y S2 => wO (g env S2 x y) fun k => if k = true then wV (fc env S2) X (fun z S3 => wO (g' env S3 y z) fun k => Q (.dat (.bl k)) S3) else Q (.dat (.bl false)) S2) : wV (eCh g g' fa fb fc env S) X Q :=
  wV_bind (wV_imp h fun x S1 q => wV_bind (wV_imp q fun y S2 q => by
    cases ho : g env S2 x y with
    | none => rw [ho] at q; exact q.elim
    | some k =>
      rw [ho] at q
      cases k with
      | false => exact q
      | true =>
        simp only [ho]
        refine wV_bind (wV_imp (show wV (fc env S2) X _ from q) fun z S3 q => ?_)
        cases ho' : g' env S3 y z <;> (simp only [ho'] at q ⊢; exact q)))
theorem wC_eq {C : CF} {ds : List D} {d : D} {Q : D → List Cell → Prop} (h : C ds S = .val d S') (q : Q d S') : wV (C ds S) X Q := by rw [h]; exact q
theorem wE_and {f g : EF} {Q : XD → List Cell → Prop} (h : wV (f env S) X fun x S1 => wO (truX env S1 x) fun b => if b = true then wV (g env S1) X Q else Q x S1) : wV (eAnd f g env S) X Q :=
  wV_bind (wV_imp h fun x S1 q => by
    cases ht : truX env S1 x with
    | none => rw [ht] at q; exact q.elim
    | some b => rw [ht] at q; cases b <;> exact q)
theorem wE_or {f g : EF} {Q : XD → List Cell → Prop} (h : wV (f env S) X fun x S1 => wO (truX env S1 x) fun b => if b = true then Q x S1 else wV (g env S1) X Q) : wV (eOr f g env S) X Q :=
  wV_bind (wV_imp h fun x S1 q => by
    cases ht : truX env S1 x with
    | none => rw [ht] at q; exact q.elim
    | some b => rw [ht] at q; cases b <;> exact q)
theorem wE_not {f : EF} {Q : XD → List Cell → Prop} (h : wV (f env S) X fun x S1 => wO (truX env S1 x) fun b => Q (.dat (.bl (!b))) S1) : wV (eNot f env S) X Q :=
  wV_bind (wV_imp h fun x S1 q => by
    cases ht : truX env S1 x with
    | none => rw [ht] at q; exact q.elim
    | some b => rw [ht] at q; exact q)
theorem wE_sl {f : EF} {l h : OF} {Q : XD → List Cell → Prop} (hh : wV (f env S) X fun x S1 => wV (l env S1) X fun lo S2 => wV (h env S2) X fun hi S3 => wO (slX env S3 x lo hi) fun d => Q (.dat d) S3) : wV (eSl f l h env S) X Q :=
  wV_bind (wV_imp hh fun x S1 q => wV_bind (wV_imp q fun lo S2 q => wV_bind (wV_imp q fun hi S3 q => by
    cases ho : slX env S3 x lo hi with
    | none => rw [ho] at q; exact q.elim
    | some d => rw [ho] at q; exact q)))
theorem wO_none {Q : Option Int → List Cell → Prop} (h : Q none S) : wV (oNone env S) X Q := h
theorem wO_some {f : EF} {Q : Option Int → List Cell → Prop} (h : wV (f env S) X fun x S1 => match x with | .dat (.int i) => Q (some i) S1 | _ => False) : wV (oSome f env S) X Q :=
  wV_bind (wV_imp h fun x S1 q => by
    cases x with
    | loc i => exact q
    | dat d => cases d <;> exact q)
/-! tests -/
theorem wT_b {f : EF} {Q : Bool → List Cell → Prop} (h : wV (f env S) X fun x S1 => match x with | .dat (.bl b) => Q b S1 | _ => False) : wV (bT f env S) X Q :=
  wV_bind (wV_imp h fun x S1 q => by
    cases x with
    | loc i => exact q
    | dat d => cases d <;> exact q)
theorem wT_2 {op : List Slot → List Cell → XD → XD → Option Bool} {fa fb : EF} {Q : Bool → List Cell → Prop}
    (h : wV (fa env S) X fun x S1 => wV (fb env S1) X fun y S2 => wO (op env S2 x y) fun b => Q b S2) : wV (bT (e2 (gB op) fa fb) env S) X Q :=
  wT_b (wE_2 (wV_imp h fun x S1 q => wV_imp q fun y S2 q => by
    unfold gB
    cases ho : op env S2 x y <;> (rw [ho] at q; exact q)))
theorem wT_1 {f : EF} {Q : Bool → List Cell → Prop} (h : wV (f env S) X fun x S1 => wO (truX env S1 x) fun b => Q b S1) : wV (tT1 f env S) X Q :=
  wV_bind (wV_imp h fun x S1 q => by
    cases ho : truX env S1 x <;> (rw [ho] at q; exact q))
theorem wT_and {f g : TF} {Q : Bool → List Cell → Prop} (h : wV (f env S) X fun b S1 => if b = true then wV (g env S1) X Q else Q false S1) : wV (tAnd' f g env S) X Q :=
  wV_bind (wV_imp h fun b S1 q => by cases b <;> exact q)
theorem wT_or {f g : TF} {Q : Bool → List Cell → Prop} (h : wV (f env S) X fun b S1 => if b = true then Q true S1 else wV (g env S1) X Q) : wV (tOr' f g env S) X Q :=
  wV_bind (wV_imp h fun b S1 q => by cases b <;> exact q)
theorem wT_not {f : TF} {Q : Bool → List Cell → Prop} (h : wV (f env S) X fun b S1 => Q (!b) S1) : wV (tNot' f env S) X Q := wV_bind h
/-! operations -/
theorem dl_nil {Q : List D → Prop} (h : Q []) : wO (datL []) Q := h
theorem dl_cons {d : D} {xs : List XD} {Q : List D → Prop} (h : wO (datL xs) fun ds => Q (d :: ds)) : wO (datL (.dat d :: xs)) Q := by
  unfold datL
  cases hd : datL xs <;> (rw [hd] at h; exact h)
theorem wB {g : List Slot → List Cell → XD → XD → Option Bool} {x y : XD} {Q : D → Prop} (h : wO (g env S x y) fun b => Q (.bl b)) : wO (gB g env S x y) Q := by
  unfold gB
  cases ho : g env S x y <;> (rw [ho] at h; exact h)
section
variable {i j : Int} {QD : D → Prop} {QB : Bool → Prop}
theorem o_addI (h : QD (.int (i + j))) : wO (gAdd env S (.dat (.int i)) (.dat (.int j))) QD := h
theorem o_addS {a b : List Nat} (hl : a.length + b.length ≤ sizeLine) (h : QD (.str (a ++ b))) : wO (gAdd env S (.dat (.str a)) (.dat (.str b))) QD := by
  show wO (if a.length + b.length ≤ sizeLine then some (D.str (a ++ b)) else none) QD; rw [if_pos hl]; exact h
theorem o_addT {a b : List D} (hl : a.length + b.length ≤ sizeLine) (h : QD (.tup (a ++ b))) : wO (gAdd env S (.dat (.tup a)) (.dat (.tup b))) QD := by
  show wO (if a.length + b.length ≤ sizeLine then some (D.tup (a ++ b)) else none) QD; rw [if_pos hl]; exact h
theorem o_addL {a b : List D} (hl : a.length + b.length ≤ sizeLine) (h : QD (.lst (a ++ b))) : wO (gAdd env S (.dat (.lst a)) (.dat (.lst b))) QD := by
  show wO (if a.length + b.length ≤ sizeLine then some (D.lst (a ++ b)) else none) QD; rw [if_pos hl]; exact h
theorem o_sub (h : QD (.int (i - j))) : wO (Ev.gSub env S (.dat (.int i)) (.dat (.int j))) QD := h
theorem o_mul (hc : mulC i j = true) (h : QD (.int (i * j))) : wO (gMul env S (.dat (.int i)) (.dat (.int j))) QD := by
  show wO (if mulC i j = true then some (D.int (i * j)) else none) QD; rw [if_pos hc]; exact h
theorem o_int {C : Int → Int → Bool} {f : Int → Int → D} (hc : C i j = true) (h : QD (f i j)) : wO (gInt C f env S (.dat (.int i)) (.dat (.int j))) QD := by
  show wO (if C i j = true then some (f i j) else none) QD; rw [if_pos hc]; exact h
theorem o_div (h0 : 0 < j) (h1 : j < 18446744073709551616) (h : QD (.int (i / j))) : wO (gDiv env S (.dat (.int i)) (.dat (.int j))) QD := o_int (by simp [divC, h0, h1]) h
theorem o_mod (h0 : 0 < j) (h : QD (.int (i % j))) : wO (gMod env S (.dat (.int i)) (.dat (.int j))) QD := o_int (by simp [modC, h0]) h
theorem o_pow (hc : powC i j = true) (h : QD (.int (i ^ j.toNat))) : wO (gPow env S (.dat (.int i)) (.dat (.int j))) QD := o_int hc h
theorem o_shl (hc : powC i j = true) (h : QD (.int (i * 2 ^ j.toNat))) : wO (gShl env S (.dat (.int i)) (.dat (.int j))) QD := o_int hc h
theorem o_shr (h0 : 0 ≤ j) (h : QD (.int (i / 2 ^ j.toNat))) : wO (gShr env S (.dat (.int i)) (.dat (.int j))) QD := o_int (by simp [shrC, h0]) h
/-- an item by a number within -/
theorem o_ixM {ds : List D} (h0 : 0 ≤ i) (h1 : i < ds.length) (h : ∀ d ∈ ds, QD d) : wO (gIx env S (.dat (.lst ds)) (.dat (.int i))) QD := by
  obtain ⟨d, hd, he⟩ := gIx_mem h0 h1
  rw [he]; exact h d hd
theorem o_ixT {ds : List D} {d : D} (hd : ds[i.toNat]? = some d) (h0 : 0 ≤ i) (h : QD d) : wO (gIx env S (.dat (.tup ds)) (.dat (.int i))) QD := by
  show wO (atI ds i) QD
  rw [atI_pos _ _ h0, hd]; exact h
theorem o_ixL {ds : List D} {d : D} (hd : ds[i.toNat]? = some d) (h0 : 0 ≤ i) (h : QD d) : wO (gIx env S (.dat (.lst ds)) (.dat (.int i))) QD := by
  show wO (atI ds i) QD
  rw [atI_pos _ _ h0, hd]; exact h
theorem c_eqI (h : i = j → QB true) (h' : i ≠ j → QB false) : wO (cEq env S (.dat (.int i)) (.dat (.int j))) QB := by
  show wO (some (decide (i = j))) QB
  by_cases e : i = j
  · rw [decide_eq_true e]; exact h e
  · rw [decide_eq_false e]; exact h' e
theorem c_eqS {a b : List Nat} (h : a = b → QB true) (h' : a ≠ b → QB false) : wO (cEq env S (.dat (.str a)) (.dat (.str b))) QB := by
  show wO (some (decide (a = b))) QB
  by_cases e : a = b
  · rw [decide_eq_true e]; exact h e
  · rw [decide_eq_false e]; exact h' e
theorem c_eqD {x y : XD} {a b : D} (hx : datOf env S x = some a) (hy : datOf env S y = some b) (da : dep 32 a = true) (db : dep 32 b = true) (h : QB (eqD a b)) : wO (cEq env S x y) QB := by
  unfold cEq
  rw [hx, hy]
  dsimp only
  rw [da, db]
  exact h
theorem c_ne {x y : XD} (h : wO (cEq env S x y) fun b => QB (!b)) : wO (cNe env S x y) QB := by
  unfold cNe
  cases ho : cEq env S x y <;> (rw [ho] at h; exact h)
theorem c_notin {x y : XD} (h : wO (cIn env S x y) fun b => QB (!b)) : wO (cNotIn env S x y) QB := by
  unfold cNotIn
  cases ho : cIn env S x y <;> (rw [ho] at h; exact h)
theorem c_notN {x y : XD} (h : wO (cIsN env S x y) fun b => QB (!b)) : wO (cNotN env S x y) QB := by
  unfold cNotN
  cases ho : cIsN env S x y <;> (rw [ho] at h; exact h)
theorem c_eqN (h : QB true) : wO (cEq env S (.dat .non) (.dat .non)) QB := h
theorem c_neN (h : QB false) : wO (cNe env S (.dat .non) (.dat .non)) QB := h
theorem c_eqN1 {i : Int} (h : QB false) : wO (cEq env S (.dat .non) (.dat (.int i))) QB := h
theorem c_eqN2 {i : Int} (h : QB false) : wO (cEq env S (.dat (.int i)) (.dat .non)) QB := h
theorem c_neN1 {i : Int} (h : QB true) : wO (cNe env S (.dat .non) (.dat (.int i))) QB := h
theorem c_neN2 {i : Int} (h : QB true) : wO (cNe env S (.dat (.int i)) (.dat .non)) QB := h
theorem c_neI (h : i = j → QB false) (h' : i ≠ j → QB true) : wO (cNe env S (.dat (.int i)) (.dat (.int j))) QB := c_ne (c_eqI h h')
theorem c_neS {a b : List Nat} (h : a = b → QB false) (h' : a ≠ b → QB true) : wO (cNe env S (.dat (.str a)) (.dat (.str b))) QB := c_ne (c_eqS h h')
theorem dec_w {p : Prop} [Decidable p] (h : p → QB true) (h' : ¬p → QB false) : QB (decide p) := by
  by_cases e : p
  · rw [decide_eq_true e]; exact h e
  · rw [decide_eq_false e]; exact h' e
theorem c_ltI (h : i < j → QB true) (h' : ¬i < j → QB false) : wO (cLt env S (.dat (.int i)) (.dat (.int j))) QB := dec_w h h'
theorem c_leI (h : i ≤ j → QB true) (h' : ¬i ≤ j → QB false) : wO (cLe env S (.dat (.int i)) (.dat (.int j))) QB := dec_w h h'
theorem c_gtI (h : j < i → QB true) (h' : ¬j < i → QB false) : wO (cGt env S (.dat (.int i)) (.dat (.int j))) QB := dec_w h h'
theorem c_geI (h : j ≤ i → QB true) (h' : ¬j ≤ i → QB false) : wO (cGe env S (.dat (.int i)) (.dat (.int j))) QB := dec_w h h'
theorem k_int (h : QD (.int i)) : wO (fInt env S [.dat (.int i)]) QD := h
theorem k_intT (h : QD (.int 1)) : wO (fInt env S [.dat (.bl true)]) QD := h
theorem k_intF (h : QD (.int 0)) : wO (fInt env S [.dat (.bl false)]) QD := h
theorem k_absI (h : QD (.int (if i < 0 then -i else i))) : wO (fAbs env S [.dat (.int i)]) QD := h
theorem k_maxI (h : QD (.int (max i j))) : wO (fMax env S [.dat (.int i), .dat (.int j)]) QD := h
theorem k_minI (h : QD (.int (min i j))) : wO (fMin env S [.dat (.int i), .dat (.int j)]) QD := h
theorem k_lenL {ds : List D} (h : QD (.int ds.length)) : wO (fLen env S [.dat (.lst ds)]) QD := h
theorem k_lenT {ds : List D} (h : QD (.int ds.length)) : wO (fLen env S [.dat (.tup ds)]) QD := h
theorem k_lenR {ds : List D} (h : QD (.int ds.length)) : wO (fLen env S [.dat (.rol ds)]) QD := h
end
/-! draws -/
theorem w_draw {C : CF} {lim : Int} {t : Tp} {Q : D → List Cell → Prop} (hd : Draws C) (h0 : 0 < lim) (h1 : lim < 18446744073709551616)
    (h : ∀ (k : Int) (t' : Tp), 0 ≤ k → k < lim → Q (.int k) (t'.c :: S)) : wV (C [.own 0, .int lim] (t.c :: S)) X Q := by
  rw [hd (t.c :: S) 0 t lim rfl h0 h1]
  exact h _ _ (t.lo h0) (t.hi' h0)
/-! loops -/
theorem wS_for {wf : WF} {g : GF} {b : SF} (h : wV (wf env S) (fun c p S => P.ex c p env S) fun w S1 => wO (wkItems w) fun ds => wS (forL g b ds env S1) P) : wS (sFor wf g b env S) P := by
  cases hw : wf env S with
  | bot => rw [hw] at h; exact h.elim
  | exc c p S' => rw [hw] at h; unfold sFor; rw [hw]; exact h
  | val w S1 =>
    rw [hw] at h
    cases hi : wkItems w with
    | none => have h : wO (wkItems w) _ := h; rw [hi] at h; exact h.elim
    | some ds =>
      have h : wO (wkItems w) _ := h
      rw [hi] at h
      rw [sFor_eq hw hi]; exact h
theorem w_wseqL {f : EF} {Q : Wk → List Cell → Prop} (h : wV (f env S) X fun x S1 => match x with
    | .dat (.lst ds) => Q (.sq (.lst ds)) S1
    | .dat (.tup ds) => Q (.sq (.tup ds)) S1
    | .dat (.rol ds) => Q (.sq (.rol ds)) S1
    | .dat (.str z) => Q (.txt z) S1
    | _ => False) : wV (wSeq f env S) X Q :=
  wV_bind (wV_imp h fun x S1 q => by
    cases x with
    | loc i => exact q
    | dat d => cases d <;> first | exact q | exact q.elim)
/-- a loop over given things, by what holds before each turn -/
theorem wS_forL {g : GF} {b : SF} (I : List D → List Slot → List Cell → Prop)
    (hb : ∀ d ds env S, I (d :: ds) env S → wO (g d env S) fun env1 => wS (b env1 S) ⟨I ds, P.rt, P.nx, I ds, P.ex⟩)
    (he : ∀ env S, I [] env S → P.nx env S) : ∀ (ds : List D) (env : List Slot) (S : List Cell), I ds env S → wS (forL g b ds env S) P
  | [], env, S, h => he _ _ h
  | d :: ds, env, S, h => by
    have q := hb d ds env S h
    unfold forL
    cases hg : g d env S with
    | none => rw [hg] at q; exact q.elim
    | some env1 =>
      rw [hg] at q
      have q : wS (b env1 S) _ := q
      dsimp only
      cases hb' : b env1 S <;> rw [hb'] at q
      case nx e s => exact wS_forL I hb he ds e s q
      case ct e s => exact wS_forL I hb he ds e s q
      all_goals exact q
/-- the end of a function -/
def poF (X : Str → D → List Cell → Prop) (Q : D → List Cell → Prop) : Po := ⟨fun _ S => Q .non S, Q, fun _ _ => False, fun _ _ => False, fun c p _ S => X c p S⟩
theorem w_fn {n : Nat} {b : SF} {ds : List D} {Q : D → List Cell → Prop} (h : wS (b (fnEnv n ds) S) (poF X Q)) : wV (fnF n b ds S) X Q := by
  show wV (outF (b (fnEnv n ds) S)) X Q
  cases hb : b (fnEnv n ds) S <;> (rw [hb] at h; exact h)
theorem wV_some {o : Out α} {Q : α → List Cell → Prop} (h : wV o (fun _ _ _ => False) Q) : ∃ a S, o = .val a S ∧ Q a S := by
  cases o with
  | val a S => exact ⟨a, S, rfl, h⟩
  | exc c p S => exact h.elim
  | bot => exact h.elim
end
end Ev

/-! Ev17: new things that are shared; objects of own classes. -/
namespace Ev
open PySem L2
section
variable {B : Base} {G : Gc} {e : En} {K : PySem.W.Frag} {cl : Str → Option Addr} {W W1 : Wd} {σ : L2.St} {env : List Slot} {S S1 : List Cell}
theorem FRel.shareW (R1 : FRel K cl e W1 σ env S1) (s1 : StepW W S.length W1 S1.length) {p : Addr} (h0 : W.H p = none) {c : Cell} (n : NewAt K cl e W1 env S1 p c) :
    FRel K cl e ⟨W1.F, W1.H, fun j => if j = S1.length then p else W1.ρ j, W1.l⟩ σ env (S1 ++ [c]) ∧ StepW W S.length ⟨W1.F, W1.H, fun j => if j = S1.length then p else W1.ρ j, W1.l⟩ (S1 ++ [c]).length := by
  obtain ⟨R2, s2⟩ := R1.share n
  refine ⟨R2, ⟨s1.1.fs, s1.1.fn, Nat.le_trans s1.1.le s2.le, fun j hj => ?_, fun j h1 h2 => ?_, s1.1.hd, s1.1.hs, s1.1.fz⟩, s1.2⟩
  · rw [s2.rr j (Nat.lt_of_lt_of_le hj s1.1.le)]; exact s1.1.rr j hj
  · dsimp only
    by_cases hj : j = S1.length
    · rw [if_pos hj]; exact h0
    · rw [if_neg hj]
      rw [List.length_append, List.length_singleton] at h2
      exact s1.1.rn j h1 (by omega)
/-- a new thing, shared -/
def eSha (f : NF) : EF := fun env S => (f env S).bind fun c S1 => .val (.dat (.own S1.length)) (S1 ++ [c])
theorem se_sha {a : Expr} {f : NF} (h : SN B G e a f) : SE B G e a (eSha f) := by
  refine ⟨fun X wx C => PE.imp (h.run X wx C) fun σ H Q ⟨W, env, S, hH, R, q⟩ => ⟨W, env, S, hH, R, ?_⟩, h.pl⟩
  unfold eSha at q
  cases hf : f env S with
  | bot => rw [hf] at q; exact q
  | exc c p S1 => rw [hf] at q; exact q
  | val c S1 =>
    rw [hf] at q
    intro p W1 R1 s1 h0 n
    obtain ⟨R2, s2⟩ := R1.shareW s1 h0 n
    exact q (.ref p) ⟨W1.F, W1.H, fun j => if j = S1.length then p else W1.ρ j, W1.l⟩ R2 s2 ⟨by simp, by dsimp only; rw [if_pos rfl]⟩
/-! ### objects -/
def objAt (env : List Slot) (S : List Cell) (x : XD) : Option (Str × List Str × List D) := match plOf x with
  | some p => match cellOf env S p with
    | some (.obj c ns ds) => some (c, ns, ds)
    | _ => none
  | none => none
theorem FRel.obj (R : FRel K cl e W σ env S) {x : XD} {v : V} {c : Str} {ns : List Str} {ds : List D} (r : RepX K W S.length x v) (h : objAt env S x = some (c, ns, ds)) :
    ∃ p, plOf x = some p ∧ cellOf env S p = some (.obj c ns ds) ∧ v = .ref (plAddr W p) ∧ ∃ C dx vs, cl c = some C ∧ W.H (plAddr W p) = some (.ins C dx (ns.zip vs)) ∧ ns.length = vs.length ∧ RepL K W.F W.ρ S.length ds vs := by
  unfold objAt at h
  cases hp : plOf x with
  | none => rw [hp] at h; cases h
  | some p =>
    rw [hp] at h
    dsimp only at h
    cases hc : cellOf env S p with
    | none => rw [hc] at h; cases h
    | some c' =>
      rw [hc] at h
      cases c' with
      | obj c2 ns2 ds2 =>
        cases h
        obtain ⟨C, dx, vs, h1, h2, h3, h4⟩ := R.cell hc
        exact ⟨p, rfl, hc, plOf_ref r hp, C, dx, vs, h1, h2, h3, h4⟩
      | _ => cases h
def lookD (f : Str) : List Str → List D → Option D
  | n :: ns, d :: ds => match f == n with | true => some d | false => lookD f ns ds
  | _, _ => none
theorem lookD_rep {f : Str} {F : Hp} {ρ : Nat → Addr} {m : Nat} {d : D} : ∀ {ns : List Str} {ds : List D} {vs : List V}, RepL K F ρ m ds vs → lookD f ns ds = some d → ∃ v, List.lookup f (ns.zip vs) = some v ∧ Rep K F ρ m d v
  | [], _, _, _, h => by cases h
  | _ :: _, [], _, _, h => by cases h
  | n :: ns, d' :: ds, _, r, h => by
    obtain ⟨v, q, rfl, h1, h2⟩ := r
    unfold lookD at h
    show ∃ v', (match f == n with | true => some v | false => List.lookup f (ns.zip q)) = some v' ∧ _
    cases hn : f == n with
    | true => rw [hn] at h; cases h; exact ⟨v, rfl, h1⟩
    | false => rw [hn] at h; exact lookD_rep h2 h
/-- the classes cs have no f of their own -/
def FldOk (B : Base) (cs : List Str) (f : Str) : Prop := ∀ c ∈ cs, ∃ C, B.cl c = some C ∧ Cls B.K C ∧ NoAttr B.K C f
def eFld (cs : List Str) (f : Str) (fe : EF) : EF := fun env S => (fe env S).bind fun x S1 => match objAt env S1 x with
  | some (c, ns, ds) => if c ∈ cs then (match lookD f ns ds with
    | some d => .val (.dat d) S1
    | none => .bot) else .bot
  | none => .bot
theorem plAttr {o : Expr} {f : Str} {p : Pos} : Plain (.Attribute o f p) := ⟨fun _ _ => rfl, fun _ _ => rfl, fun _ _ => rfl, fun _ => rfl, fun _ _ => rfl⟩
theorem se_fld {o : Expr} {f : Str} {pos : Pos} {fe : EF} (cs : List Str) (ho : SE B G e o fe) (hc : FldOk B cs f) : SE B G e (.Attribute o f pos) (eFld cs f fe) := by
  refine ⟨fun X wx C => PE.imp (pe_fld (ho.run X wx C) (ho.pl.ab f X.env)) fun σ H Q ⟨W, env, S, hH, R, q⟩ => ⟨W, env, S, hH, R, postG.seq q fun x S1 v W1 R1 s1 r1 q1 => ?_⟩, plAttr⟩
  cases hx : objAt env S1 x with
  | none => rw [hx] at q1; exact q1.elim
  | some t =>
    obtain ⟨c, ns, ds⟩ := t
    rw [hx] at q1
    dsimp only at q1
    by_cases hm : c ∈ cs
    · rw [if_pos hm] at q1
      cases hl : lookD f ns ds with
      | none => rw [hl] at q1; exact q1.elim
      | some d =>
        rw [hl] at q1
        obtain ⟨p, _, _, rfl, Ca, dx, vs, h1, h2, h3, h4⟩ := R1.obj r1 hx
        obtain ⟨C', h5, h6, h7⟩ := hc c hm
        rw [h1] at h5; cases h5
        obtain ⟨v, h8, h9⟩ := lookD_rep h4 hl
        refine ⟨_, Ca, dx, ns.zip vs, v, rfl, h2, ?_, ?_, h8, q1 v W1 R1 .refl h9⟩
        · rw [C.K]; exact h6
        · rw [C.K]; exact h7
    · rw [if_neg hm] at q1; exact q1.elim
def putD (f : Str) (d : D) : List Str → List D → List Str × List D
  | n :: ns, x :: ds => if n = f then (n :: ns, d :: ds) else (n :: (putD f d ns ds).1, x :: (putD f d ns ds).2)
  | _, _ => ([f], [d])
theorem putD_rep {f : Str} {F : Hp} {ρ : Nat → Addr} {m : Nat} {d : D} {v : V} (hv : Rep K F ρ m d v) : ∀ {ns : List Str} {ds : List D} {vs : List V}, ns.length = vs.length → RepL K F ρ m ds vs →
    ∃ vs', putF f v (ns.zip vs) = (putD f d ns ds).1.zip vs' ∧ (putD f d ns ds).1.length = vs'.length ∧ RepL K F ρ m (putD f d ns ds).2 vs'
  | [], ds, vs, hl, r => by
    have e1 : vs = [] := by cases vs with | nil => rfl | cons _ _ => cases hl
    subst e1
    have e2 : putD f d [] ds = ([f], [d]) := by cases ds <;> rfl
    rw [e2]
    exact ⟨[v], rfl, rfl, RepL.cons hv RepL.nil⟩
  | n :: ns, [], vs, hl, r => by cases r; cases hl
  | n :: ns, x :: ds, _, hl, r => by
    obtain ⟨u, q, rfl, h1, h2⟩ := r
    unfold putD
    show ∃ vs', (if n = f then (n, v) :: ns.zip q else (n, u) :: putF f v (ns.zip q)) = _ ∧ _
    by_cases hn : n = f
    · rw [if_pos hn, if_pos hn]
      exact ⟨v :: q, rfl, hl, RepL.cons hv h2⟩
    · rw [if_neg hn, if_neg hn]
      obtain ⟨vs', g1, g2, g3⟩ := putD_rep hv (Nat.succ.inj hl) h2
      exact ⟨u :: vs', by rw [g1]; rfl, by simp [g2], RepL.cons h1 g3⟩
def sFldS (cs : List Str) (f : Str) (fv fo : EF) : SF := fun env S => (fv env S).then env fun y S1 => (fo env S1).then env fun x S2 => match y, plOf x, objAt env S2 x with
  | .dat d, some p, some (c, ns, ds) => if c ∈ cs ∧ ns.length < 1000 then .nx (putE env (.obj c (putD f d ns ds).1 (putD f d ns ds).2) p) (putS S2 (.obj c (putD f d ns ds).1 (putD f d ns ds).2) p) else .bot
  | _, _, _ => .bot
theorem ss_fld {o v : Expr} {f : Str} {fv fo : EF} {pos pos' : Pos} (cs : List Str) (hv : SE B G e v fv) (ho : SE B G e o fo) (hc : FldOk B cs f) (hs : ∀ l env, swapsWith v (some (.Attribute o f pos')) l env = pure false := by intro _ _; rfl) :
    SS B G e (.Assign [.Attribute o f pos'] v pos) (sFldS cs f fv fo) := by
  refine ⟨fun X wx C => PS.imp (ps_fld (ho.run X wx C) (hv.run X wx C) (hs _ _)) fun D σ H ⟨W, env, S, hH, R, q⟩ =>
    ⟨W, env, S, hH, R, postS.then q fun y S1 v W1 R1 s1 r1 q1 => ⟨W1, env, S1, rfl, R1, postS.then q1 fun x S2 u W2 R2 s2 r2 q2 => ?_⟩⟩⟩
  cases y with
  | loc i => exact q2.elim
  | dat d =>
    cases hx : objAt env S2 x with
    | none => simp only [hx] at q2; cases hp : plOf x <;> (rw [hp] at q2; exact q2.elim)
    | some t =>
      obtain ⟨c, ns, ds⟩ := t
      obtain ⟨p, hp, hce, rfl, Ca, dx, vs, h1, h2, h3, h4⟩ := R2.obj r2 hx
      rw [hx, hp] at q2
      dsimp only at q2
      by_cases hm : c ∈ cs ∧ ns.length < 1000
      · rw [if_pos hm] at q2
        obtain ⟨C', h5, h6, h7⟩ := hc c hm.1
        rw [h1] at h5; cases h5
        have r3 : Rep B.K W2.F W2.ρ S2.length d v := RepX.step r1 s2
        obtain ⟨vs', g1, g2, g3⟩ := putD_rep r3 h3 h4
        refine ⟨_, Ca, dx, ns.zip vs, rfl, h2, by rw [C.K]; exact h6, by rw [C.K]; exact h7, by rw [List.length_zip]; omega, ?_⟩
        obtain ⟨R3, hl⟩ := R2.write (c' := .obj c (putD f d ns ds).1 (putD f d ns ds).2) (o := .ins Ca dx (putF f v (ns.zip vs))) hce ⟨Ca, dx, vs', h1, by rw [upd_same, g1], g2, g3⟩
        exact q2 σ _ R3 ⟨Same.refl _, fun _ _ => rfl, by rw [hl]; exact Nat.le_refl _, R2.wfz hce⟩
      · rw [if_neg hm] at q2; exact q2.elim
/-! ### methods and makers that may raise, with the wish at the caller's slots -/
section
variable {X : Cx} {CX : CXT} {k : Nat} {f C : Addr} {fd : FuncData} {ps : List Str} {sp : Sp} {E : L2.St → XK} {x m : Str} {p pos apos : Pos} {e o : Expr} {es : List Expr} {ta : TE} {t : TA}
def tMethE (C : Addr) (m : Str) (sp : Sp) (E : L2.St → XK) (ta : TE) (t : TA) : TE := fun σ H Q => ta σ H fun x H1 => ∃ a dx fs, x = .ref a ∧ H1 a = some (.ins C dx fs) ∧ fs.lookup m = none ∧
  t σ H1 fun vs H2 => sp (x :: vs) H2 Q (E σ)
def tMakeE (C : Addr) (sp : Sp) (E : L2.St → XK) (t : TA) : TE := fun σ H Q => t σ H fun vs H1 => ∀ x dx, H1 x = none → H1 dx = none → dx ≠ x →
  sp (.ref x :: vs) (upd (upd H1 dx (.own x)) x (.ins C dx [])) (fun v H2 => v = .non ∧ Q (.ref x) H2) (E σ)
theorem pe_methE {pl : Sem Bool} (he : PE X o ta) (c : Cls X.K C) (hm : Meth X.K C m f) (F : FnOk X.prog X.w X.K X.mg X.base CX k f fd ps sp) (hr : Room k X.A) (hb : Binds X.K fd ps []) (hx : ∀ σ, PassesAt CX X σ (E σ)) (ha : PA X (e :: es) t)
    (hst : starEach (e :: es) X.env = (false, eval e X.env) :: starEach es X.env := by rfl) (hpl : (backTo pos (starEach es X.env)).any (·.1) = false := by rfl)
    (ht : eval (.Call (.Attribute o m apos) (e :: es) [] pos) X.env = (do
      let ov ← eval o X.env
      standAt apos.atName
      let (f, first) ← holding [ov] (getMethod ov m pl)
      callWith pos f first (backTo pos (starEach (e :: es) X.env)) (backToKw pos (keywordEach [] X.env))) := by rfl) :
    PE X (.Call (.Attribute o m apos) (e :: es) [] pos) (tMethE C m sp E ta t) := by
  refine ⟨fun pins s σ H Q I h => ?_⟩
  refine PySem.W.methodCall_KW (pl := pl) (thn (he.run pins s σ H _ I h) fun u s1 ⟨x, H1, I1, rx, a, dx, fs, ex, ea, l, q⟩ => ?_) ht
  subst ex
  obtain rfl : u = Value.ref a := rx
  refine getmeth_ok I1 ea c hm l ?_
  refine PySem.W.callWith_K (first := [.ref a]) (h₀ := X.base) I.ok.mod.kin hm.kp (thn (ha.run pos pins s1 σ H1 _ I1 q) fun us s2 ⟨vs, H2, I2, r, q2⟩ => ⟨I2.kIn, ?_⟩) hst hpl
  exact run_fnSD (us := .ref a :: us) (vs := .ref a :: vs) F hr hb .nil (hx σ) I2 (.cons rfl r) (by rw [List.append_nil]; exact q2)
theorem pe_meth0E {pl : Sem Bool} (he : PE X o ta) (c : Cls X.K C) (hm : Meth X.K C m f) (F : FnOk X.prog X.w X.K X.mg X.base CX k f fd ps sp) (hr : Room k X.A) (hb : Binds X.K fd ps []) (hx : ∀ σ, PassesAt CX X σ (E σ))
    (ht : eval (.Call (.Attribute o m apos) [] [] pos) X.env = (do
      let ov ← eval o X.env
      standAt apos.atName
      let (f, first) ← holding [ov] (getMethod ov m pl)
      callWith pos f first (backTo pos (starEach [] X.env)) (backToKw pos (keywordEach [] X.env))) := by rfl) :
    PE X (.Call (.Attribute o m apos) [] [] pos) (tMethE C m sp E ta tNil) := by
  refine ⟨fun pins s σ H Q I h => ?_⟩
  refine PySem.W.methodCall_KW (pl := pl) (thn (he.run pins s σ H _ I h) fun u s1 ⟨x, H1, I1, rx, a, dx, fs, ex, ea, l, q⟩ => ?_) ht
  subst ex
  obtain rfl : u = Value.ref a := rx
  refine getmeth_ok I1 ea c hm l ?_
  exact PySem.W.callWith_K0 (first := [.ref a]) I1.kIn hm.kp (run_fnSD (us := [.ref a]) (vs := [.ref a]) F hr hb .nil (hx σ) I1 (.cons rfl .nil) q)
theorem run_makeE {pins : List (Addr × Obj)} {σ : L2.St} {H : Hp} {s : Shared} {Q : VK} {us : List Value} {vs : List V} {E : XK} (M : Mk X.K C f) (F : FnOk X.prog X.w X.K X.mg X.base CX k f fd ps sp) (hr : Room (k + 1) X.A) (hb : Binds X.K fd ps [])
    (hx : PassesAt CX X σ E) (I : Inv X pins σ H s) (r : Vals vs us)
    (h : ∀ x dx, H x = none → H dx = none → dx ≠ x → sp (.ref x :: vs) (upd (upd H dx (.own x)) x (.ins C dx [])) (fun v H2 => v = .non ∧ Q (.ref x) H2) E) :
    wpAny (model X.prog X.w) X.A (call (.ref C) us) (EP X pins σ Q) X.xe s := by
  have hq := h (s.heap.objs.size + 1) s.heap.objs.size (I.hok.fresh (Nat.le_succ _)) (I.hok.fresh (Nat.le_refl _)) (Nat.ne_of_lt (Nat.lt_succ_self _))
  have I2 := Inv.made (C := C) I
  have r2 : Vals (V.ref (s.heap.objs.size + 1) :: vs) (Value.ref (s.heap.objs.size + 1) :: us) := .cons rfl r
  have hl : (Value.ref (s.heap.objs.size + 1) :: us ++ []).length = ps.length := by
    have e := r2.length
    rw [F.len _ _ _ _ hq] at e
    rw [List.append_nil]
    exact e.symm
  have hbb := hb _ (Value.ref (s.heap.objs.size + 1) :: us) I2.kIn hl
  rw [List.append_nil] at hbb
  refine wpAny_call (make_map (f := f) I.kIn M.makes M.init (beq_iff_eq.mp M.fn) (codeAny_mono (F.run _ X.stack _ _ ⟨Value.ref (s.heap.objs.size + 1) :: us, []⟩ (Value.ref (s.heap.objs.size + 1) :: us) _ _ E (hr.make C us [])
    (I2.env0.make C us []) hbb r2 hq) fun r s' hq' => ?_))
  cases r with
  | error e => exact hx pins _ _ e s' I2 hq'
  | ok fl =>
    cases fl with
    | ret u =>
      obtain ⟨v, H', I3, rv, ev, q3⟩ := I2.after hq'
      subst ev
      exact ⟨rv, ⟨V.ref (s.heap.objs.size + 1), H', I3, rfl, q3⟩⟩
    | next => exact False.elim hq'
    | brk => exact False.elim hq'
    | cont => exact False.elim hq'
theorem pe_makeE (M : Mk X.K C f) (F : FnOk X.prog X.w X.K X.mg X.base CX k f fd ps sp) (hr : Room (k + 1) X.A) (hg : Gl X x) (hm : X.mg x = some (.ref C)) (hb : Binds X.K fd ps []) (hx : ∀ σ, PassesAt CX X σ (E σ))
    (ha : PA X (e :: es) t) (hdb : (x == ("__debug__" : Str)) = false := by decide) (he : starEach (e :: es) X.env = (false, eval e X.env) :: starEach es X.env := by rfl) (hpl : (backTo pos (starEach es X.env)).any (·.1) = false := by rfl) :
    PE X (.Call (.Name x p) (e :: es) [] pos) (tMakeE C sp E t) := by
  refine ⟨fun pins s σ H Q I h => ?_⟩
  refine wpAny_Call_Name_kw (ld_glob I hg hm ?_ hdb)
  refine PySem.W.callWith_K (h₀ := X.base) I.ok.mod.kin M.kp (thn (ha.run pos pins s σ H _ I h) fun us s1 ⟨vs, H1, I1, r, q⟩ => ⟨I1.kIn, ?_⟩) he hpl
  exact run_makeE M F hr hb (hx σ) I1 r q
theorem pe_make0E (M : Mk X.K C f) (F : FnOk X.prog X.w X.K X.mg X.base CX k f fd ps sp) (hr : Room (k + 1) X.A) (hg : Gl X x) (hm : X.mg x = some (.ref C)) (hb : Binds X.K fd ps []) (hx : ∀ σ, PassesAt CX X σ (E σ))
    (hdb : (x == ("__debug__" : Str)) = false := by decide) : PE X (.Call (.Name x p) [] [] pos) (tMakeE C sp E tNil) := by
  refine ⟨fun pins s σ H Q I h => ?_⟩
  refine wpAny_Call_Name_kw (ld_glob I hg hm ?_ hdb)
  exact PySem.W.callWith_K0 I.kIn M.kp (run_makeE (us := []) M F hr hb (hx σ) I .nil h)
end
/-- a method of an own class: C is what it does, self first -/
structure MtD (B : Base) (c m : Str) (n k : Nat) (C : CF) : Prop where
  ex : ∃ Ca f fd ps, B.cl c = some Ca ∧ Cls B.K Ca ∧ Meth B.K Ca m f ∧ Binds B.K fd ps [] ∧ ps.length = n ∧ FnOk B.P B.w B.K B.mg B.base (L2.CX B.P B.w) k f fd ps (spD B.K B.cl n C)
def eMeth (c m : Str) (n : Nat) (C : CF) (fo : EF) (fa : AF) : EF := fun env S => (fo env S).bind fun x S1 => match x, objAt env S1 x with
  | .dat d, some (c', ns, _) => if c' = c ∧ m ∉ ns then (fa env S1).bind fun xs S2 => (match datL xs with
      | some es => if (d :: es).length = n then (C (d :: es) S2).bind fun r S3 => .val (.dat r) S3 else .bot
      | none => .bot) else .bot
  | _, _ => .bot
theorem lookup_zip_none {m : Str} : ∀ {ns : List Str} {vs : List V}, m ∉ ns → List.lookup m (ns.zip vs) = none
  | [], _, _ => by simp
  | _ :: _, [], _ => by simp
  | n :: ns, v :: vs, h => by
    show (match m == n with | true => some v | false => List.lookup m (ns.zip vs)) = none
    have : (m == n) = false := by
      apply beq_false_of_ne
      intro z; exact h (by rw [z]; exact List.mem_cons_self)
    rw [this]
    exact lookup_zip_none fun z => h (List.mem_cons_of_mem _ z)
theorem meth_read {wx : WX} {c m : Str} {n : Nat} {C : CF} {fo : EF} {fa : AF} {H : Hp} {Q : VK} {Ca : Addr} (hcl : B.cl c = some Ca) (h : tE B.K B.cl e wx (eMeth c m n C fo fa) σ H Q) :
    tMethE Ca m (spD B.K B.cl n C) (WE wx) (tE B.K B.cl e wx fo) (tA B.K B.cl e wx fa) σ H Q := by
  obtain ⟨W, env, S, rfl, R, q⟩ := h
  refine ⟨W, env, S, rfl, R, postG.seq q fun x S1 v W1 R1 s1 r1 q1 => ?_⟩
  cases x with
  | loc i => exact q1.elim
  | dat d =>
    cases hx : objAt env S1 (.dat d) with
    | none => rw [hx] at q1; exact q1.elim
    | some t =>
      obtain ⟨c', ns, ds⟩ := t
      rw [hx] at q1
      dsimp only at q1
      by_cases hm : c' = c ∧ m ∉ ns
      · rw [if_pos hm] at q1
        obtain ⟨p, hp, hce, rfl, Cb, dx, vs, h1, h2, h3, h4⟩ := R1.obj r1 hx
        rw [hm.1, hcl] at h1; cases h1
        refine ⟨_, dx, ns.zip vs, rfl, h2, lookup_zip_none hm.2, W1, env, S1, rfl, R1, postG.seq q1 fun xs S2 us W2 R2 s2 r2 q2 => ?_⟩
        cases hd : datL xs with
        | none => rw [hd] at q2; exact q2.elim
        | some es =>
          rw [hd] at q2
          dsimp only at q2
          have r3 := RepXL.dat r2 hd
          have r0 : Rep B.K W2.F W2.ρ S2.length d (.ref (plAddr W1 p)) := RepX.step r1 s2
          by_cases hl : (d :: es).length = n
          · rw [if_pos hl] at q2
            refine ⟨W2.F, W2.ρ, S2, d :: es, hl, R2.grel, RepL.cons r0 r3, ?_⟩
            cases hc : C (d :: es) S2 with
            | val r S' =>
              rw [hc] at q2
              intro v F' ρ' H' g x r'
              obtain ⟨R', st⟩ := R2.call g x
              exact q2 v _ R' st r'
            | exc c p S' =>
              rw [hc] at q2
              intro cls dx F' ρ' H' g x r'
              obtain ⟨R', st⟩ := R2.call g x
              exact q2 cls dx _ R' st (r'.older R2.ext.hd)
            | bot => rw [hc] at q2; exact q2.elim
          · rw [if_neg hl] at q2; exact q2.elim
      · rw [if_neg hm] at q1; exact q1.elim
theorem pass_no {P : Program} {w : World} {X : Cx} : Passes (L2.CX P w) X (fun _ _ _ => False) := fun _ _ _ _ _ _ _ h => by
  obtain ⟨_, _, _, _, _, _, _, _, _, _, _, _, z⟩ := h
  exact z.elim
theorem plCallA {o : Expr} {m : Str} {ap pos : Pos} {es : List Expr} {kw : List Keyword} : Plain (.Call (.Attribute o m ap) es kw pos) := by
  refine ⟨fun _ _ => rfl, fun f env => ?_, fun _ _ => rfl, fun _ => rfl, fun _ _ => rfl⟩
  unfold attributeBase
  rfl
theorem se_meth {o a : Expr} {es : List Expr} {c m : Str} {n k : Nat} {C : CF} {fo : EF} {fa : AF} {ap pos : Pos} (M : MtD B c m n k C) (ho : SE B G e o fo) (ha : SA B G e (a :: es) fa) (hk : k ≤ G.k := by decide) (hcm : G.calm = true := by rfl) (ht : ∀ env, ∃ pl : Sem Bool, eval (.Call (.Attribute o m ap) (a :: es) [] pos) env = (do
      let ov ← eval o env
      standAt ap.atName
      let (f, first) ← holding [ov] (getMethod ov m pl)
      callWith pos f first (backTo pos (starEach (a :: es) env)) (backToKw pos (keywordEach [] env))) := by intro _; exact ⟨_, rfl⟩) :
    SE B G e (.Call (.Attribute o m ap) (a :: es) [] pos) (eMeth c m n C fo fa) := by
  refine ⟨fun X wx C' => ?_, plCallA⟩
  obtain ⟨Ca, f, fd, ps, h0, h1, h2, h3, h4, h5⟩ := M.ex
  have e1 := C'.prog; have e2 := C'.w; have e3 := C'.K; have e4 := C'.mg; have e5 := C'.base
  rw [← e1, ← e2, ← e3, ← e4, ← e5] at h5
  rw [← e3] at h1 h2 h3
  refine PE.imp (pe_methE (E := WE wx) (ho.run X wx C') h1 h2 h5 ((C'.room hcm).mono hk) h3 (fun σ => passAt C'.takes σ) (ha.run X wx C') (sa_star ha X.env) (sa_nostar (fun y hy => ha.pl y (List.mem_cons_of_mem _ hy)) X.env pos) (ht X.env).choose_spec) fun σ H Q h => ?_
  have := meth_read h0 h
  rw [e3]
  exact this
theorem se_meth0 {o : Expr} {c m : Str} {n k : Nat} {C : CF} {fo : EF} {ap pos : Pos} (M : MtD B c m n k C) (ho : SE B G e o fo) (hk : k ≤ G.k := by decide) (hcm : G.calm = true := by rfl) (ht : ∀ env, ∃ pl : Sem Bool, eval (.Call (.Attribute o m ap) [] [] pos) env = (do
      let ov ← eval o env
      standAt ap.atName
      let (f, first) ← holding [ov] (getMethod ov m pl)
      callWith pos f first (backTo pos (starEach [] env)) (backToKw pos (keywordEach [] env))) := by intro _; exact ⟨_, rfl⟩) :
    SE B G e (.Call (.Attribute o m ap) [] [] pos) (eMeth c m n C fo aNil) := by
  refine ⟨fun X wx C' => ?_, plCallA⟩
  obtain ⟨Ca, f, fd, ps, h0, h1, h2, h3, h4, h5⟩ := M.ex
  have e1 := C'.prog; have e2 := C'.w; have e3 := C'.K; have e4 := C'.mg; have e5 := C'.base
  rw [← e1, ← e2, ← e3, ← e4, ← e5] at h5
  rw [← e3] at h1 h2 h3
  refine PE.imp (pe_meth0E (E := WE wx) (ho.run X wx C') h1 h2 h5 ((C'.room hcm).mono hk) h3 (fun σ => passAt C'.takes σ) (ht X.env).choose_spec) fun σ H Q h => ?_
  obtain ⟨W, env, S, rfl, R, q⟩ := meth_read h0 h
  rw [e3]
  refine ⟨W, env, S, rfl, R, ?_⟩
  cases hf : fo env S with
  | bot => rw [hf] at q; exact q
  | exc c p S' => rw [hf] at q; exact q
  | val x S' =>
    rw [hf] at q
    intro v W' R' s' r'
    obtain ⟨a, dx, fs, g1, g2, g3, W2, env2, S2, g4, R2, g5⟩ := q v W' R' s' r'
    exact ⟨a, dx, fs, g1, g2, g3, by rw [← g4]; exact g5 [] W2 R2 .refl rfl⟩
/-- making an own class's object: C is what __init__ does -/
structure MkD (B : Base) (c : Str) (n k : Nat) (C : CF) : Prop where
  ex : ∃ Ca f fd ps, B.cl c = some Ca ∧ Mk B.K Ca f ∧ B.mg c = some (.ref Ca) ∧ Binds B.K fd ps [] ∧ ps.length = n ∧ FnOk B.P B.w B.K B.mg B.base (L2.CX B.P B.w) k f fd ps (spD B.K B.cl n C)
def isNon : D → Bool
  | .non => true
  | _ => false
def eMake (c : Str) (n : Nat) (C : CF) (fa : AF) : EF := fun env S => (fa env S).bind fun xs S1 => match datL xs with
  | some es => if (D.own S1.length :: es).length = n then (C (.own S1.length :: es) (S1 ++ [.obj c [] []])).bind fun r S3 => if isNon r = true ∧ S1.length < S3.length then .val (.dat (.own S1.length)) S3 else .bot else .bot
  | none => .bot
theorem make_read {wx : WX} {c : Str} {n : Nat} {C : CF} {fa : AF} {H : Hp} {Q : VK} {Ca : Addr} (hcl : B.cl c = some Ca) (h : tE B.K B.cl e wx (eMake c n C fa) σ H Q) :
    tMakeE Ca (spD B.K B.cl n C) (WE wx) (tA B.K B.cl e wx fa) σ H Q := by
  obtain ⟨W, env, S, rfl, R, q⟩ := h
  refine ⟨W, env, S, rfl, R, postG.seq q fun xs S1 us W1 R1 s1 r1 q1 => ?_⟩
  cases hd : datL xs with
  | none => rw [hd] at q1; exact q1.elim
  | some es =>
    rw [hd] at q1
    dsimp only at q1
    by_cases hl : (D.own S1.length :: es).length = n
    · rw [if_pos hl] at q1
      intro x dx nx ndx ne
      obtain ⟨R2, t2⟩ := R1.lay ndx (.own x)
      have nx2 : (W1.lay dx (.own x)).H x = none := by show upd W1.H dx _ x = none; rw [upd_ne (Ne.symm ne)]; exact nx
      have na := R2.newAt nx2 (o := .ins Ca dx []) (c := .obj c [] []) ⟨Ca, dx, [], hcl, upd_same, rfl, RepL.nil⟩
      obtain ⟨R3, t3⟩ := R2.lay nx2 (.ins Ca dx [])
      obtain ⟨R4, t4⟩ := R3.shareW (t2.trans t3) nx na
      have r4 := RepL.step (RepXL.dat r1 hd) t4
      refine ⟨_, _, S1 ++ [.obj c [] []], .own S1.length :: es, hl, R4.grel, RepL.cons ⟨by simp, by dsimp only; rw [if_pos rfl]⟩ r4, ?_⟩
      cases hc : C (D.own S1.length :: es) (S1 ++ [.obj c [] []]) with
      | bot => rw [hc] at q1; exact q1.elim
      | exc c p S' =>
        rw [hc] at q1
        intro cls dx' F' ρ' H' g y r'
        obtain ⟨R', st⟩ := R4.call g y
        exact q1 cls dx' _ R' (t4.trans st) (r'.older R4.ext.hd)
      | val r S' =>
        rw [hc] at q1
        have q1 : postG (RepX B.K) B.K B.cl e wx W1 σ env S1 Q (if isNon r = true ∧ S1.length < S'.length then .val (.dat (.own S1.length)) S' else .bot) := q1
        intro v F' ρ' H' g y r'
        by_cases hr : isNon r = true ∧ S1.length < S'.length
        · rw [if_pos hr] at q1
          obtain ⟨R', st⟩ := R4.call g y
          have hv : v = .non := by
            cases r with
            | non => exact r'
            | _ => exact absurd hr.1 (by simp [isNon])
          refine ⟨hv, q1 (.ref x) _ R' (t4.trans st) ⟨hr.2, ?_⟩⟩
          have := y.rr S1.length (by simp)
          show V.ref x = .ref (ρ' S1.length)
          rw [this]; dsimp only; rw [if_pos rfl]
        · rw [if_neg hr] at q1; exact q1.elim
    · rw [if_neg hl] at q1; exact q1.elim
theorem se_make {x : Str} {a : Expr} {es : List Expr} {n k : Nat} {C : CF} {fa : AF} {p pos : Pos} (M : MkD B x n k C) (ha : SA B G e (a :: es) fa) (hk : k + 1 ≤ G.k := by decide) (hcm : G.calm = true := by rfl) (hg : G.sc.names.lookup x = some .globalImplicit := by rfl)
    (hdb : (x == ("__debug__" : Str)) = false := by decide +kernel) : SE B G e (.Call (.Name x p) (a :: es) [] pos) (eMake x n C fa) := by
  refine ⟨fun X wx C' => ?_, plCall⟩
  obtain ⟨Ca, f, fd, ps, h0, h1, h2, h3, h4, h5⟩ := M.ex
  have e1 := C'.prog; have e2 := C'.w; have e3 := C'.K; have e4 := C'.mg; have e5 := C'.base
  rw [← e1, ← e2, ← e3, ← e4, ← e5] at h5
  rw [← e3] at h1 h3
  rw [← e4] at h2
  refine PE.imp (pe_makeE (E := WE wx) h1 h5 ((C'.room hcm).mono hk) (C'.gl hg) h2 h3 (fun σ => passAt C'.takes σ) (ha.run X wx C') hdb (sa_star ha X.env) (sa_nostar (fun y hy => ha.pl y (List.mem_cons_of_mem _ hy)) X.env pos)) fun σ H Q h => ?_
  rw [e3]
  exact make_read h0 h
theorem se_make0 {x : Str} {n k : Nat} {C : CF} {p pos : Pos} (M : MkD B x n k C) (hk : k + 1 ≤ G.k := by decide) (hcm : G.calm = true := by rfl) (hg : G.sc.names.lookup x = some .globalImplicit := by rfl)
    (hsu : (x != ("super" : Str)) = true := by decide +kernel) (hdb : (x == ("__debug__" : Str)) = false := by decide +kernel) : SE B G e (.Call (.Name x p) [] [] pos) (eMake x n C aNil) := by
  refine ⟨fun X wx C' => ?_, ⟨fun _ _ => rfl, fun f env => ?_, fun _ _ => rfl, fun _ => rfl, fun _ _ => rfl⟩⟩
  · obtain ⟨Ca, f, fd, ps, h0, h1, h2, h3, h4, h5⟩ := M.ex
    have e1 := C'.prog; have e2 := C'.w; have e3 := C'.K; have e4 := C'.mg; have e5 := C'.base
    rw [← e1, ← e2, ← e3, ← e4, ← e5] at h5
    rw [← e3] at h1 h3
    rw [← e4] at h2
    refine PE.imp (pe_make0E (E := WE wx) h1 h5 ((C'.room hcm).mono hk) (C'.gl hg) h2 h3 (fun σ => passAt C'.takes σ) hdb) fun σ H Q h => ?_
    rw [e3]
    obtain ⟨W, env, S, rfl, R, q⟩ := make_read h0 h
    exact q [] W R .refl rfl
  · unfold attributeBase
    simp only [hsu, Bool.true_or, if_true]
end
end Ev

/-! Ev18: dicts whose keys are numbers or texts. -/
namespace Ev
open PySem L2
section
variable {B : Base} {G : Gc} {e : En} {K : PySem.W.Frag} {cl : Str → Option Addr} {W W1 : Wd} {σ : L2.St} {env : List Slot} {S S1 : List Cell}
theorem e2_r {wx : WX} {fa fb : EF} {g : List Slot → List Cell → XD → XD → Option D} {H : Hp} {Q : VK} (h : tE B.K B.cl e wx (e2 g fa fb) σ H Q) :
    tE B.K B.cl e wx fa σ H fun x H1 => tE B.K B.cl e wx fb σ H1 fun y H2 => rOp B e g σ x y H2 Q := by
  obtain ⟨W, env, S, rfl, R, q⟩ := h
  refine ⟨W, env, S, rfl, R, postG.seq q fun x S1 v W1 R1 s1 r1 q1 => ⟨W1, env, S1, rfl, R1, postG.seq q1 fun y S2 u W2 R2 s2 r2 q2 => ?_⟩⟩
  cases hg : g env S2 x y with
  | none => rw [hg] at q2; exact q2.elim
  | some d =>
    rw [hg] at q2
    exact ⟨W2, env, S2, x, y, d, rfl, R2, RepX.step r1 s2, r2, hg, fun z W' R' s' rz => q2 z W' R' s' rz⟩
theorem tE.mono {wx : WX} {f : EF} {H : Hp} {Q Q' : VK} (h : tE K cl e wx f σ H Q) (i : ∀ v H, Q v H → Q' v H) : tE K cl e wx f σ H Q' := by
  obtain ⟨W, env, S, hH, R, q⟩ := h
  refine ⟨W, env, S, hH, R, ?_⟩
  cases hf : f env S with
  | val a S' => rw [hf] at q; exact fun v W' R' s' r' => i _ _ (q v W' R' s' r')
  | exc c p S' => rw [hf] at q; exact q
  | bot => rw [hf] at q; exact q
def keyOf : D → Option Key
  | .int i => some (.inl i)
  | .str x => some (.inr ⟨x.toArray⟩)
  | _ => none
theorem keyOf_rep {F : Hp} {ρ : Nat → Addr} {m : Nat} {d : D} {k : Key} {v : V} (r : Rep K F ρ m d v) (h : keyOf d = some k) : v = kV k := by
  cases d with
  | int i => cases h; exact r
  | str x => cases h; exact r.1
  | _ => cases h
def valD : List Key → List D → Key → Option D
  | k' :: ks, d :: ds, k => if k' = k then some d else valD ks ds k
  | _, _, _ => none
theorem valD_rep {F : Hp} {ρ : Nat → Addr} {m : Nat} {k : Key} : ∀ {ks : List Key} {ds : List D} {vs : List V}, ks.length = vs.length → RepL K F ρ m ds vs →
    match valD ks ds k with
    | some d => ∃ v, valV (ks.zip vs) k = some v ∧ Rep K F ρ m d v
    | none => valV (ks.zip vs) k = none
  | [], ds, vs, _, _ => by cases ds <;> rfl
  | k' :: ks, [], vs, hl, r => by cases r; cases hl
  | k' :: ks, d :: ds, _, hl, r => by
    obtain ⟨v, q, rfl, h1, h2⟩ := r
    unfold valD
    have ev : valV ((k' :: ks).zip (v :: q)) k = if k' = k then some v else valV (ks.zip q) k := by
      unfold valV
      rw [List.zip_cons_cons, List.find?_cons]
      by_cases hk : k' = k
      · simp [hk]
      · simp [hk]
    rw [ev]
    by_cases hk : k' = k
    · rw [if_pos hk, if_pos hk]; exact ⟨v, rfl, h1⟩
    · rw [if_neg hk, if_neg hk]; exact valD_rep (Nat.succ.inj hl) h2
def dctAt (env : List Slot) (S : List Cell) : XD → Option (List Key × List D)
  | .dat (.own n) => match S[n]? with | some (.dct ks ds) => some (ks, ds) | some (.lck ks ds) => some (ks, ds) | _ => none
  | .dat (.dct ks ds) => some (ks, ds)
  | .loc i => match env[i]? with | some (.loc (.dct ks ds)) => some (ks, ds) | _ => none
  | _ => none
theorem FRel.dct (R : FRel K cl e W σ env S) {x : XD} {v : V} {ks : List Key} {ds : List D} (r : RepX K W S.length x v) (h : dctAt env S x = some (ks, ds)) :
    ∃ a vs, v = .ref a ∧ Rd W.H a (.dK (ks.zip vs)) ∧ ks.length = vs.length ∧ RepL K W.F W.ρ S.length ds vs := by
  cases x with
  | loc i =>
    simp only [dctAt] at h
    split at h
    · rename_i ks' ds' he
      cases h
      obtain ⟨_, _, ⟨vs, h1, h2, h3⟩, _⟩ := R.loc i _ he
      exact ⟨W.l i, vs, r, .inl h1, h2, h3⟩
    · cases h
  | dat d =>
    cases d with
    | own n =>
      simp only [dctAt] at h
      split at h
      · rename_i ks' ds' he
        cases h
        obtain ⟨_, vs, h1, h2, h3⟩ := R.glob n _ he
        exact ⟨W.ρ n, vs, r.2, .inl h1, h2, h3⟩
      · rename_i ks' ds' he
        cases h
        obtain ⟨_, od, vs, h1, h2, h3⟩ := R.glob n _ he
        exact ⟨W.ρ n, vs, r.2, .inr ⟨od, h1⟩, h2, h3⟩
      · cases h
    | dct ks' ds' =>
      cases h
      obtain ⟨a, vs, h1, h2, h3, h4⟩ := r
      exact ⟨a, vs, h1, Same.rd R.sub h2, h3, h4⟩
    | _ => cases h
/-- d[k] -/
def gDix : List Slot → List Cell → XD → XD → Option D := fun env S x y => match dctAt env S x, y with
  | some (ks, ds), .dat d => (match keyOf d with
    | some k => valD ks ds k
    | none => none)
  | _, _ => none
theorem gDix_inv {x y : XD} {d : D} (h : gDix env S x y = some d) : ∃ ks ds dk k, dctAt env S x = some (ks, ds) ∧ y = .dat dk ∧ keyOf dk = some k ∧ valD ks ds k = some d := by
  unfold gDix at h
  split at h
  · rename_i ks ds dk hx
    split at h
    · rename_i k hk
      exact ⟨ks, ds, dk, k, hx, rfl, hk, h⟩
    · cases h
  · cases h
theorem se_dix {a b : Expr} {fa fb : EF} {pos : Pos} (ha : SE B G e a fa) (hb : SE B G e b fb) : SE B G e (.Subscript a b pos) (e2 gDix fa fb) := by
  refine ⟨fun X wx C => PE.imp (pe_dget (by have := C.units; omega) (ha.run X wx C) (hb.run X wx C) hb.pl.ix) fun σ H Q h => ?_, plSub⟩
  refine tE.mono (e2_r h) fun x H1 q1 => tE.mono q1 fun y H2 q2 => ?_
  obtain ⟨W2, env2, S2, dx, dy, d, rfl, R2, x1, x2, hg, k2⟩ := q2
  obtain ⟨ks, ds, dk, k, h1, rfl, h3, h4⟩ := gDix_inv hg
  obtain ⟨a, vs, rfl, h5, h6, h7⟩ := R2.dct x1 h1
  have := valD_rep (k := k) h6 h7
  rw [h4] at this
  obtain ⟨v, h8, h9⟩ := this
  exact ⟨a, v, rfl, .inl ⟨_, k, h5, keyOf_rep x2 h3, h8.symm⟩, k2 v W2 R2 .refl h9⟩
/-- k in d -/
def cDin : List Slot → List Cell → XD → XD → Option Bool := fun env S y x => match dctAt env S x, y with
  | some (ks, ds), .dat d => (match keyOf d with
    | some k => some (valD ks ds k).isSome
    | none => none)
  | _, _ => none
def cDnin : List Slot → List Cell → XD → XD → Option Bool := fun env S y x => (cDin env S y x).map (!·)
theorem cDin_inv {x y : XD} {b : Bool} (h : cDin env S y x = some b) : ∃ ks ds dk k, dctAt env S x = some (ks, ds) ∧ y = .dat dk ∧ keyOf dk = some k ∧ b = (valD ks ds k).isSome := by
  unfold cDin at h
  split at h
  · rename_i ks ds dk hx
    split at h
    · rename_i k hk
      cases h
      exact ⟨ks, ds, dk, k, hx, rfl, hk, rfl⟩
    · cases h
  · cases h
theorem valD_some {F : Hp} {ρ : Nat → Addr} {m : Nat} {k : Key} {ks : List Key} {ds : List D} {vs : List V} (hl : ks.length = vs.length) (r : RepL K F ρ m ds vs) : (valV (ks.zip vs) k).isSome = (valD ks ds k).isSome := by
  have := valD_rep (k := k) hl r
  cases h : valD ks ds k with
  | none => rw [h] at this; rw [show valV (ks.zip vs) k = none from this]; rfl
  | some d => rw [h] at this; obtain ⟨v, h1, _⟩ := this; rw [h1]; rfl
theorem ok_din {X : Cx} (hu : X.A.units + 1 < cLine) : OpOk X B e (compareOp .In) (gB cDin) := by
  intro pins s σ τ y x v u W env S dy dx d Q I ry rx R x2 x1 hg k
  unfold gB at hg
  cases hb : cDin env S dy dx with
  | none => rw [hb] at hg; cases hg
  | some b =>
    rw [hb] at hg
    cases hg
    obtain ⟨ks, ds, dk, kk, h1, rfl, h3, rfl⟩ := cDin_inv hb
    obtain ⟨a, vs, rfl, h5, h6, h7⟩ := R.dct x1 h1
    cases rx
    refine d_in (o := valV (ks.zip vs) kk) hu I (.inl ⟨_, kk, h5, keyOf_rep x2 h3, rfl⟩) ry fun s' I' => ⟨.bl _, W.H, I', rfl, k _ W R .refl ?_⟩
    rw [valD_some h6 h7]
    rfl
theorem se_din {a b : Expr} {fa fb : EF} {pos : Pos} (ha : SE B G e a fa) (hb : SE B G e b fb) : SE B G e (.Compare a [.In] [b] pos) (e2 (gB cDin) fa fb) := se_cmp (fun X wx C => ok_din (by have := C.units; omega)) ha hb
theorem st_din {a b : Expr} {fa fb : EF} {pos : Pos} (ha : SE B G e a fa) (hb : SE B G e b fb) : ST B G e (.Compare a [.In] [b] pos) (bT (e2 (gB cDin) fa fb)) := st_cmp (fun X wx C => ok_din (by have := C.units; omega)) ha hb
theorem ok_dnin {X : Cx} (hu : X.A.units + 1 < cLine) : OpOk X B e (compareOp .NotIn) (gB cDnin) := by
  intro pins s σ τ y x v u W env S dy dx d Q I ry rx R x2 x1 hg k
  unfold gB cDnin at hg
  cases hb : cDin env S dy dx with
  | none => rw [hb] at hg; cases hg
  | some b =>
    rw [hb] at hg
    cases hg
    obtain ⟨ks, ds, dk, kk, h1, rfl, h3, rfl⟩ := cDin_inv hb
    obtain ⟨a, vs, rfl, h5, h6, h7⟩ := R.dct x1 h1
    cases rx
    refine d_notIn (o := valV (ks.zip vs) kk) hu I (.inl ⟨_, kk, h5, keyOf_rep x2 h3, rfl⟩) ry fun s' I' => ⟨.bl _, W.H, I', rfl, k _ W R .refl ?_⟩
    rw [valD_some h6 h7]
    rfl
theorem se_dnin {a b : Expr} {fa fb : EF} {pos : Pos} (ha : SE B G e a fa) (hb : SE B G e b fb) : SE B G e (.Compare a [.NotIn] [b] pos) (e2 (gB cDnin) fa fb) := se_cmp (fun X wx C => ok_dnin (by have := C.units; omega)) ha hb
theorem st_dnin {a b : Expr} {fa fb : EF} {pos : Pos} (ha : SE B G e a fa) (hb : SE B G e b fb) : ST B G e (.Compare a [.NotIn] [b] pos) (bT (e2 (gB cDnin) fa fb)) := st_cmp (fun X wx C => ok_dnin (by have := C.units; omega)) ha hb
/-- d.get(k, x) -/
def eDget2 (fo fk fx : EF) : EF := fun env S => (fo env S).bind fun x S1 => if (dctAt env S1 x).isSome = true then (fk env S1).bind fun y S2 => (fx env S2).bind fun z S3 => match dctAt env S3 x, y, z with
  | some (ks, ds), .dat dk, .dat dz => (match keyOf dk with
    | some k => .val (.dat ((valD ks ds k).getD dz)) S3
    | none => .bot)
  | _, _, _ => .bot else .bot
theorem RepX.dat {m : Nat} {d : D} {v : V} (h : RepX K W m (.dat d) v) : Rep K W.F W.ρ m d v := h
theorem dget_read {wx : WX} {fo fk fx : EF} {H : Hp} {Q : VK} (h : tE B.K B.cl e wx (eDget2 fo fk fx) σ H Q) : tDGet2 (tE B.K B.cl e wx fo) (tE B.K B.cl e wx fk) (tE B.K B.cl e wx fx) σ H Q := by
  obtain ⟨W, env, S, rfl, R, q⟩ := h
  refine ⟨W, env, S, rfl, R, postG.seq q fun x S1 v W1 R1 s1 r1 q1 => ?_⟩
  by_cases hi : (dctAt env S1 x).isSome = true
  · rw [if_pos hi] at q1
    obtain ⟨⟨ks0, ds0⟩, h0⟩ := Option.isSome_iff_exists.mp hi
    obtain ⟨a, vs0, rfl, hr0, _, _⟩ := R1.dct r1 h0
    refine ⟨a, rfl, .inl ⟨_, hr0⟩, W1, env, S1, rfl, R1, postG.seq q1 fun y S2 u W2 R2 s2 r2 q2 => ⟨W2, env, S2, rfl, R2, postG.seq q2 fun z S3 t W3 R3 s3 r3 q3 => ?_⟩⟩
    have r1' := RepX.step (RepX.step r1 s2) s3
    have r2' := RepX.step r2 s3
    cases hx : dctAt env S3 x with
    | none => simp only [hx] at q3; cases y <;> cases z <;> exact q3.elim
    | some t =>
      obtain ⟨ks, ds⟩ := t
      cases y with
      | loc i => simp only [hx] at q3; cases z <;> exact q3.elim
      | dat dk =>
        cases z with
        | loc i => simp only [hx] at q3; exact q3.elim
        | dat dz =>
          simp only [hx] at q3
          cases hk : keyOf dk with
          | none => rw [hk] at q3; exact q3.elim
          | some k =>
            rw [hk] at q3
            dsimp only at q3
            obtain ⟨a', vs, he, h5, h6, h7⟩ := R3.dct r1' hx
            cases he
            have hv := valD_rep (k := k) h6 h7
            refine ⟨valV (ks.zip vs) k, .inl ⟨_, k, h5, keyOf_rep r2' hk, rfl⟩, ?_⟩
            cases hd : valD ks ds k with
            | none =>
              rw [hd] at hv q3
              rw [show valV (ks.zip vs) k = none from hv]
              exact q3 t W3 R3 .refl r3
            | some d =>
              rw [hd] at hv q3
              obtain ⟨w, h8, h9⟩ := hv
              rw [h8]
              exact q3 w W3 R3 .refl h9
  · rw [if_neg hi] at q1; exact q1.elim
theorem m2_ok {X : Cx} {o e f : Expr} {m : Str} {ap pos : Pos} (po : Plain o) (pf : Plain f) (pe : Plain e) (hl : (ap.endLine == pos.line) = true) : M2 X o m ap e f pos := by
  have hs : starEach [e, f] X.env = [(false, eval e X.env), (false, eval f X.env)] := by
    rw [pe.ns, pf.ns]; rfl
  refine ⟨po.ab m X.env, ?_, hl, ?_⟩
  · rw [hs]; rfl
  · rw [hs]; rfl
theorem se_dget2 {o a b : Expr} {fo fa fb : EF} {ap pos : Pos} (ho : SE B G e o fo) (ha : SE B G e a fa) (hb : SE B G e b fb) (hl : (ap.endLine == pos.line) = true := by rfl) :
    SE B G e (.Call (.Attribute o "get" ap) [a, b] [] pos) (eDget2 fo fa fb) :=
  ⟨fun X wx C => PE.imp (pe_dget2 (by have := C.units; omega) (ho.run X wx C) (ha.run X wx C) (hb.run X wx C) (m2_ok ho.pl hb.pl ha.pl hl)) fun σ H Q h => dget_read h, plCallA⟩
/-! ### storing -/
def updD : List Key → List D → Key → D → List D
  | k' :: ks, x :: ds, k, d => (if k' = k then d else x) :: updD ks ds k d
  | _, _, _, _ => []
def putKs (ks : List Key) (ds : List D) (k : Key) (d : D) : List Key × List D := if (ks.any fun k' => decide (k' = k)) = true then (ks, updD ks ds k d) else (ks ++ [k], ds ++ [d])
theorem any_zip {k : Key} : ∀ {ks : List Key} {vs : List V}, ks.length = vs.length → ((ks.zip vs).any fun kv => decide (kv.1 = k)) = ks.any fun k' => decide (k' = k)
  | [], vs, _ => by cases vs <;> rfl
  | k' :: ks, [], h => by cases h
  | k' :: ks, v :: vs, h => by
    rw [List.zip_cons_cons, List.any_cons, List.any_cons, any_zip (Nat.succ.inj h)]
theorem map_zip {F : Hp} {ρ : Nat → Addr} {m : Nat} {k : Key} {d : D} {v : V} (hv : Rep K F ρ m d v) : ∀ {ks : List Key} {ds : List D} {vs : List V}, ks.length = vs.length → RepL K F ρ m ds vs →
    ∃ vs', (ks.zip vs).map (fun kv => if kv.1 = k then (kv.1, v) else kv) = ks.zip vs' ∧ ks.length = vs'.length ∧ RepL K F ρ m (updD ks ds k d) vs'
  | [], ds, vs, h, r => ⟨[], by cases vs <;> rfl, rfl, by cases ds <;> exact RepL.nil⟩
  | k' :: ks, [], vs, h, r => by cases r; cases h
  | k' :: ks, x :: ds, _, h, r => by
    obtain ⟨u, q, rfl, h1, h2⟩ := r
    obtain ⟨vs', g1, g2, g3⟩ := map_zip hv (k := k) (Nat.succ.inj h) h2
    by_cases hk : k' = k
    · refine ⟨v :: vs', ?_, by simp [g2], ?_⟩
      · rw [List.zip_cons_cons, List.map_cons, g1, if_pos hk]; rfl
      · unfold updD; rw [if_pos hk]; exact RepL.cons hv g3
    · refine ⟨u :: vs', ?_, by simp [g2], ?_⟩
      · rw [List.zip_cons_cons, List.map_cons, g1, if_neg hk]; rfl
      · unfold updD; rw [if_neg hk]; exact RepL.cons h1 g3
theorem putKs_rep {F : Hp} {ρ : Nat → Addr} {m : Nat} {k : Key} {d : D} {v : V} {ks : List Key} {ds : List D} {vs : List V} (hv : Rep K F ρ m d v) (hl : ks.length = vs.length) (r : RepL K F ρ m ds vs) :
    ∃ vs', putK (ks.zip vs) k v = (putKs ks ds k d).1.zip vs' ∧ (putKs ks ds k d).1.length = vs'.length ∧ RepL K F ρ m (putKs ks ds k d).2 vs' := by
  unfold putK putKs
  rw [any_zip hl]
  by_cases hk : (ks.any fun k' => decide (k' = k)) = true
  · rw [if_pos hk, if_pos hk]
    exact map_zip hv hl r
  · rw [if_neg hk, if_neg hk]
    refine ⟨vs ++ [v], ?_, by simp [hl], RepL.append r (RepL.cons hv RepL.nil)⟩
    rw [List.zip_append hl]; rfl
def dctOf (env : List Slot) (S : List Cell) (p : Pl) : Option (List Key × List D) := match cellOf env S p with
  | some (.dct ks ds) => some (ks, ds)
  | _ => none
def sDput (fv fo fk : EF) : SF := fun env S => (fv env S).then env fun y S1 => (fo env S1).then env fun x S2 => (fk env S2).then env fun z S3 => match y, plOf x, z with
  | .dat d, some p, .dat dk => (match dctOf env S3 p, keyOf dk with
    | some (ks, ds), some k => if ks.length < sizeLine then .nx (putE env (.dct (putKs ks ds k d).1 (putKs ks ds k d).2) p) (putS S3 (.dct (putKs ks ds k d).1 (putKs ks ds k d).2) p) else .bot
    | _, _ => .bot)
  | _, _, _ => .bot
theorem ss_dput {o i v : Expr} {fv fo fk : EF} {pos pos' : Pos} (hv : SE B G e v fv) (ho : SE B G e o fo) (hi : SE B G e i fk) (hs : ∀ t l env, swapsWith v t l env = pure false := by intro _ _ _; rfl) :
    SS B G e (.Assign [.Subscript o i pos'] v pos) (sDput fv fo fk) := by
  refine ⟨fun X wx C => PS.imp (ps_dput (by have := C.units; omega) (ho.run X wx C) (hi.run X wx C) (hv.run X wx C) (hs _ _ _)) fun D σ H ⟨W, env, S, hH, R, q⟩ =>
    ⟨W, env, S, hH, R, postS.then q fun y S1 v W1 R1 s1 r1 q1 => ⟨W1, env, S1, rfl, R1, postS.then q1 fun x S2 u W2 R2 s2 r2 q2 => ⟨W2, env, S2, rfl, R2, postS.then q2 fun z S3 t W3 R3 s3 r3 q3 => ?_⟩⟩⟩⟩
  cases y with
  | loc i => exact q3.elim
  | dat d =>
    cases hp : plOf x with
    | none => rw [hp] at q3; exact q3.elim
    | some p =>
      rw [hp] at q3
      cases z with
      | loc i => exact q3.elim
      | dat dk =>
        dsimp only at q3
        cases hd : dctOf env S3 p with
        | none => rw [hd] at q3; exact q3.elim
        | some t2 =>
          obtain ⟨ks, ds⟩ := t2
          rw [hd] at q3
          cases hk : keyOf dk with
          | none => rw [hk] at q3; exact q3.elim
          | some k =>
            rw [hk] at q3
            dsimp only at q3
            by_cases hl : ks.length < sizeLine
            · rw [if_pos hl] at q3
              have hce : cellOf env S3 p = some (.dct ks ds) := by
                unfold dctOf at hd
                split at hd
                · rename_i a b hc; cases hd; exact hc
                · cases hd
              obtain ⟨vs, h1, h2, h3⟩ := R3.cell hce
              have r1' : Rep B.K W3.F W3.ρ S3.length d v := RepX.step (RepX.step r1 s2) s3
              have ev := plOf_ref (RepX.step r2 s3) hp
              obtain ⟨vs', g1, g2, g3⟩ := putKs_rep (k := k) r1' h2 h3
              refine ⟨plAddr W3 p, upd W3.H (plAddr W3 p) (.dK (putK (ks.zip vs) k v)), ev, .inl ⟨_, k, h1, keyOf_rep r3 hk, by rw [List.length_zip]; omega, rfl⟩, ?_⟩
              obtain ⟨R4, hl4⟩ := R3.write (c' := .dct (putKs ks ds k d).1 (putKs ks ds k d).2) (o := .dK (putK (ks.zip vs) k v)) hce ⟨vs', by rw [upd_same, g1], g2, g3⟩
              exact q3 σ _ R4 ⟨Same.refl _, fun _ _ => rfl, by rw [hl4]; exact Nat.le_refl _, R3.wfz hce⟩
            · rw [if_neg hl] at q3; exact q3.elim
/-- {} -/
def nDct : NF := fun _ S => .val (.dct [] []) S
theorem plDict {ks : List (Option Expr)} {vs : List Expr} {p : Pos} : Plain (.Dict ks vs p) := ⟨fun _ _ => rfl, fun _ _ => rfl, fun _ _ => rfl, fun _ => rfl, fun _ _ => rfl⟩
theorem sn_dct {pos : Pos} : SN B G e (.Dict [] [] pos) nDct := by
  refine ⟨fun X wx C => PE.imp pe_dnewK fun σ H Q ⟨W, env, S, hH, R, q⟩ => ?_, plDict⟩
  subst hH
  intro p hp
  obtain ⟨R', st⟩ := R.lay hp (.dK [])
  exact q p _ R' st hp (R.newAt hp ⟨[], upd_same, rfl, RepL.nil⟩)
end
end Ev

/-! Ev19: sorted. -/
namespace Ev
open PySem L2
def sortI (ns : List Int) : List Int := ns.mergeSort fun a b => decide (a ≤ b)
def leS (a b : List Nat) : Bool := !PySem.Spec.ltCps b a
def sortS (xs : List (List Nat)) : List (List Nat) := xs.mergeSort leS
theorem ltCps_iff : ∀ (a b : List Nat), PySem.Spec.ltCps a b = decide (a < b)
  | [], [] => by simp [PySem.Spec.ltCps]
  | [], y :: b => by simp [PySem.Spec.ltCps]
  | x :: a, [] => by simp [PySem.Spec.ltCps]
  | x :: a, y :: b => by
    unfold PySem.Spec.ltCps
    rw [ltCps_iff a b]
    by_cases h1 : x < y
    · simp [h1, List.cons_lt_cons_iff]
    · by_cases h2 : x = y
      · subst h2; simp [List.cons_lt_cons_iff]
      · simp [h1, h2, List.cons_lt_cons_iff]
theorem leS_iff (a b : List Nat) : leS a b = true ↔ a ≤ b := by
  unfold leS
  rw [ltCps_iff]
  simp
theorem leS_trans (a b c : List Nat) (h1 : leS a b = true) (h2 : leS b c = true) : leS a c = true := by
  rw [leS_iff] at *
  exact List.le_trans h1 h2
theorem leS_total (a b : List Nat) : (leS a b || leS b a) = true := by
  rw [Bool.or_eq_true, leS_iff, leS_iff]
  exact List.le_total a b
theorem leS_anti {a b : List Nat} (h1 : leS a b = true) (h2 : leS b a = true) : a = b := by
  rw [leS_iff] at *
  exact List.le_antisymm h1 h2
theorem sortI_of {ns ms : List Int} (p : ms.Perm ns) (h : ms.Pairwise (· ≤ ·)) : ms = sortI ns := by
  have h2 : (sortI ns).Pairwise fun a b => decide (a ≤ b) = true := List.pairwise_mergeSort (by intro a b c; simp; omega) (by intro a b; simp; omega) ns
  refine List.Perm.eq_of_pairwise (le := fun a b : Int => a ≤ b) (fun a b _ _ x y => Int.le_antisymm x y) h (h2.imp fun h => by simpa using h) (p.trans (List.mergeSort_perm _ _).symm)
theorem rising_pw : ∀ (x : Str) (ys : List Str), PyProof.Rows.risingS x ys = true → (x :: ys).Pairwise fun a b => leS a.cps.toList b.cps.toList = true
  | x, [], _ => by simp
  | x, y :: r, h => by
    unfold PyProof.Rows.risingS at h
    rw [Bool.and_eq_true] at h
    have ih := rising_pw y r h.2
    refine List.Pairwise.cons (fun z hz => ?_) ih
    rcases List.mem_cons.mp hz with rfl | hz
    · exact h.1
    · exact leS_trans _ _ _ h.1 ((List.pairwise_cons.mp ih).1 z hz)
theorem sortS_of {xs ys : List Str} (p : ys.Perm xs) (h : PyProof.Rows.sortedS ys = true) : ys.map (·.cps.toList) = sortS (xs.map (·.cps.toList)) := by
  have h1 : ys.Pairwise fun a b => leS a.cps.toList b.cps.toList = true := by
    cases ys with
    | nil => simp
    | cons y r => exact rising_pw y r h
  have h2 : (sortS (xs.map (·.cps.toList))).Pairwise fun a b => leS a b = true := List.pairwise_mergeSort leS_trans leS_total _
  refine List.Perm.eq_of_pairwise (le := fun a b => leS a b = true) (fun a b _ _ x y => leS_anti x y) (List.pairwise_map.mpr h1) h2 ((p.map _).trans (List.mergeSort_perm _ _).symm)
section
variable {B : Base} {G : Gc} {e : En} {K : PySem.W.Frag} {cl : Str → Option Addr} {W W1 : Wd} {σ : L2.St} {env : List Slot} {S S1 : List Cell}
def strsOf : List D → Option (List (List Nat))
  | [] => some []
  | .str x :: ds => (strsOf ds).map (x :: ·)
  | _ :: _ => none
theorem strsOf_eq : ∀ {ds : List D} {xs : List (List Nat)}, strsOf ds = some xs → ds = xs.map D.str
  | [], _, h => by cases h; rfl
  | d :: ds, xs, h => by
    cases d with
    | str x =>
      unfold strsOf at h
      cases q : strsOf ds with
      | none => rw [q] at h; cases h
      | some ms => rw [q] at h; cases h; rw [strsOf_eq q]; rfl
    | _ => cases h
@[simp] theorem strsOf_map (xs : List (List Nat)) : strsOf (xs.map D.str) = some xs := by
  induction xs with
  | nil => rfl
  | cons x xs ih => simp [strsOf, ih]
theorem RepL.of_strs {F : Hp} {ρ : Nat → Addr} {m : Nat} : ∀ {xs : List (List Nat)} {vs : List V}, RepL K F ρ m (xs.map D.str) vs → vs = (xs.map fun x => (⟨x.toArray⟩ : Str)).map V.str ∧ ∀ x ∈ xs, strOk x = true
  | [], _, h => ⟨h, fun x hx => by cases hx⟩
  | x :: xs, _, h => by
    obtain ⟨v, r, rfl, h1, h2⟩ := h
    obtain ⟨e1, e2⟩ := RepL.of_strs h2
    refine ⟨by rw [e1, show v = _ from h1.1]; rfl, fun y hy => ?_⟩
    rcases List.mem_cons.mp hy with rfl | hy
    · exact h1.2
    · exact e2 y hy
theorem RepL.strs {F : Hp} {ρ : Nat → Addr} {m : Nat} : ∀ {xs : List (List Nat)}, (∀ x ∈ xs, strOk x = true) → RepL K F ρ m (xs.map D.str) ((xs.map fun x => (⟨x.toArray⟩ : Str)).map V.str)
  | [], _ => RepL.nil
  | x :: xs, h => RepL.cons ⟨rfl, h x List.mem_cons_self⟩ (RepL.strs fun y hy => h y (List.mem_cons_of_mem _ hy))
def keysS : List Key → Option (List (List Nat))
  | [] => some []
  | .inr x :: ks => (keysS ks).map (x.cps.toList :: ·)
  | _ => none
theorem keysS_eq : ∀ {ks : List Key} {xs : List (List Nat)}, keysS ks = some xs → ks = (xs.map fun x => (⟨x.toArray⟩ : Str)).map Sum.inr
  | [], _, h => by cases h; rfl
  | k :: ks, xs, h => by
    cases k with
    | inl i => cases h
    | inr x =>
      unfold keysS at h
      cases q : keysS ks with
      | none => rw [q] at h; cases h
      | some ms => rw [q] at h; cases h; rw [keysS_eq q]; simp
def fSorted : List Slot → List Cell → List XD → Option D := fun env S xs => match xs with
  | [x] => match dctAt env S x with
    | some (ks, _) => (match keysS ks with
      | some zs => if zs.length < 64 ∧ zs.all strOk = true then some (.lst ((sortS zs).map .str)) else none
      | none => none)
    | none => (match seqOf env S x with
      | some (.l, ds) => (match intsOf ds with
        | some ns => some (.lst ((sortI ns).map .int))
        | none => match strsOf ds with
          | some zs => if zs.length < 64 then some (.lst ((sortS zs).map .str)) else none
          | none => none)
      | _ => none)
  | _ => none
theorem strs_back {ys : List Str} {zs : List (List Nat)} (h : ys.map (·.cps.toList) = zs) : ys = zs.map fun x => (⟨x.toArray⟩ : Str) := by
  subst h
  rw [List.map_map]
  conv => lhs; rw [← List.map_id ys]
  exact List.map_congr_left fun y _ => by cases y; simp
theorem zip_keys : ∀ {ks : List Key} {vs : List V}, ks.length = vs.length → (ks.zip vs).map (·.1) = ks
  | [], vs, _ => by cases vs <;> rfl
  | k :: ks, [], h => by cases h
  | k :: ks, v :: vs, h => by rw [List.zip_cons_cons, List.map_cons, zip_keys (Nat.succ.inj h)]
theorem back_codes (zs : List (List Nat)) : (zs.map fun x => (⟨x.toArray⟩ : Str)).map (·.cps.toList) = zs := by
  rw [List.map_map]
  conv => rhs; rw [← List.map_id zs]
  exact List.map_congr_left fun y _ => by simp
theorem ok_sorted {X : Cx} (hK : X.K = B.K) (hc : X.calm = true) : CallOk X B e (.builtin "sorted") fSorted := by
  intro pins s σ τ xs us W env S ds d Q I rx R x1 hg k
  unfold fSorted at hg
  split at hg
  · obtain ⟨v, rfl, h1⟩ := repXL1 x1
    split at hg
    · rename_i x ks ds' hd
      obtain ⟨a, vs, rfl, h5, h6, h7⟩ := R.dct h1 hd
      split at hg
      · rename_i zs hz
        split at hg
        · rename_i hl
          cases hg
          refine call_sortedD hc pins s σ W.H _ us Q I rx ⟨a, ks.zip vs, zs.map fun x => (⟨x.toArray⟩ : Str), rfl, h5, ?_, by simpa using hl.1, fun ys p hp hs hn => ?_⟩
          · rw [zip_keys h6]; exact keysS_eq hz
          · have e1 := sortS_of hp hs
            rw [back_codes] at e1
            have e2 := strs_back e1
            obtain ⟨R', st⟩ := R.alloc hn (.lst (ys.map V.str))
            refine k (.ref p) _ R' st ⟨p, ys.map V.str, rfl, upd_same, ?_⟩
            rw [e2]
            refine RepL.strs fun x hx => ?_
            have : x ∈ zs := (List.mergeSort_perm zs leS).mem_iff.mp hx
            exact List.all_eq_true.mp hl.2 x this
        · cases hg
      · cases hg
    · split at hg
      · rename_i ds' hq
        obtain ⟨a, vs, rfl, s1, r1⟩ := R.seq h1 hq
        split at hg
        · rename_i ns hn
          cases hg
          rw [intsOf_eq hn] at r1
          have ev := RepL.of_ints r1
          refine cr_sortedI pins s σ W.H _ us Q I rx ⟨a, ns, rfl, by rw [hK, ← ev]; exact s1, fun ms p hp hs hnp => ?_⟩
          obtain ⟨R', st⟩ := R.alloc hnp (.lst (ms.map V.int))
          refine k (.ref p) _ R' st ⟨p, ms.map V.int, rfl, upd_same, ?_⟩
          rw [sortI_of hp hs]
          exact RepL.ints
        · split at hg
          · rename_i zs hz
            split at hg
            · rename_i hl
              cases hg
              rw [strsOf_eq hz] at r1
              obtain ⟨ev, hok⟩ := RepL.of_strs r1
              refine cr_sortedS pins s σ W.H _ us Q I rx ⟨a, zs.map fun x => (⟨x.toArray⟩ : Str), rfl, by rw [hK, ← ev]; exact s1, by simpa using hl, fun ys p hp hs hn => ?_⟩
              have e1 := sortS_of hp hs
              rw [back_codes] at e1
              have e2 := strs_back e1
              obtain ⟨R', st⟩ := R.alloc hn (.lst (ys.map V.str))
              refine k (.ref p) _ R' st ⟨p, ys.map V.str, rfl, upd_same, ?_⟩
              rw [e2]
              refine RepL.strs fun x hx => ?_
              have : x ∈ zs := (List.mergeSort_perm zs leS).mem_iff.mp hx
              exact hok x this
            · cases hg
          · cases hg
      · cases hg
  · cases hg
theorem se_sorted {a : Expr} {es : List Expr} {f : AF} {p pos : Pos} (hm : B.mg "sorted" = none) (ha : SA B G e (a :: es) f) (hg : G.sc.names.lookup ("sorted" : Str) = some NameKind.globalImplicit := by rfl) (hc : G.calm = true := by rfl) :
    SE B G e (.Call (.Name "sorted" p) (a :: es) [] pos) (eCall fSorted f) := se_callB (fun X wx C => ok_sorted C.K (C.calm hc)) hm (by decide +kernel) ha hg
end
end Ev

/-! Ev20: own error classes, two levels: __init__ says super().__init__(place), then stores. -/
namespace Ev
open PySem L2
/-! ### a def with super() in its first statement -/
/-- the text's names of such a def -/
structure SupScope (sc : Scope) : Prop where
  kind : sc.kind = .function
  co : sc.isCoroutine = false
  gen : sc.isGenerator = false
  cell : ∀ x ∈ sc.names, x.2 ≠ .cell
  free : ∀ x, sc.names.lookup x = some .free → x = "__class__"
  cls : sc.names.lookup ("__class__" : Str) = some .free
  sup : sc.names.lookup ("super" : Str) = some .globalImplicit
  l0 : sc.names.lookup ("self" : Str) = some .local
  l1 : sc.names.lookup ("place" : Str) = some .local
abbrev supN : List Str := ["self", "place"]
/-- the context of its body -/
def cxS (P : Program) (w : World) (K : PySem.W.Frag) (mg : Str → Option Value) (base : Heap) (qual : Str) (scope : Scope) (f cda cc : Addr) (A : Around) (outer : List Env) (s : Shared) (H : Hp) (E : XK) : Cx where
  prog := P
  w := w
  K := K
  mg := mg
  base := base
  A := A.deeper (PySem.W.ksEnv qual scope s.heap.objs.size f (.ref cda) cc)
  N := supN
  s_0 := s
  H_0 := H
  env := PySem.W.ksEnv qual scope s.heap.objs.size f (.ref cda) cc
  outer := outer
  stack := PySem.W.ksEnv qual scope s.heap.objs.size f (.ref cda) cc :: outer
  ex := []
  calm := true
  fn := fun x => x != "__class__"
  pn := []
  xe := fun e s' => wpAny (model P w) (A.deeper (PySem.W.ksEnv qual scope s.heap.objs.size f (.ref cda) cc)) (leaving (PySem.W.ksEnv qual scope s.heap.objs.size f (.ref cda) cc) e) (fun _ s'' => L2.CX P w outer H s E e s'') (fun e' s'' => L2.CX P w outer H s E e' s'') s'
section
variable {P : Program} {w : World} {K : PySem.W.Frag} {mg : Str → Option Value} {base : Heap} {qual : Str} {scope : Scope} {f cda cc D : Addr} {A : Around} {outer : List Env} {s : Shared} {H : Hp} {E : XK}
theorem sup_start {h₀ : Heap} {tk : Nat} {u0 u1 : Value} {v0 v1 : V} {cl : Value} {cld : Option Addr} {csl : Array (Option Value)} (S : SupScope scope) (hd : A.handled = none) (e0 : Env0 P w K mg base A outer s H)
    (hcc : K.lookup cc = some ⟨cl, cld, .cell (some (.ref D)), csl⟩) (r0 : RelV v0 u0) (r1 : RelV v1 u1)
    (hns : h₀.Ns s.heap.objs.size (fun x => List.lookup x [(("place" : Str), u1), ("self", u0)])) (hk : ∀ b o, s.heap.get? b = some o → h₀.get? b = some o) :
    Inv (cxS P w K mg base qual scope f cda cc A outer s H E) [] [some v0, some v1] H { s with heap := h₀, toks := tk } := by
  have noA : ∀ b : Addr, b ∉ (cxS P w K mg base qual scope f cda cc A outer s H E).ex := fun b z => absurd (show b ∈ ([] : List Addr) from z) (by simp)
  have KB : base.get? cc = some ⟨cl, cld, .cell (some (.ref D)), csl⟩ := e0.mod.kin _ _ hcc
  have cel : ∀ {y : Str} {c : Addr}, (cxS P w K mg base qual scope f cda cc A outer s H E).env.cells.lookup y = some c → y = "__class__" ∧ c = cc := fun {y c} h => by
    have h : (match y == ("__class__" : Str) with | true => some cc | false => none) = some c := h
    cases hy : y == ("__class__" : Str) with
    | true => rw [hy] at h; exact ⟨eq_of_beq hy, (Option.some.inj h).symm⟩
    | false => rw [hy] at h; cases h
  refine ⟨⟨e0.mod, S.kind, rfl, rfl, Nat.le_refl _, fun y z c h1 h2 => by rw [(cel h1).1, (cel h2).1], fun y hy => ?_, fun y c hf h => ?_, fun _ => hd, Around.frames_deeper e0.frames, .inr ⟨rfl, rfl⟩, fun b z => absurd z (noA b), e0.bs, e0.bsz, fun b _ _ => noA b, fun b z => absurd z (noA b), e0.funs, e0.frf⟩,
    rfl, e0.bare, Un.kept hk, ⟨_, hns, fun i y v h1 h2 h3 => ?_⟩, fun y c h => ⟨_, ⟨_, hk _ _ (e0.bs _ _ ((cel h).2 ▸ KB)).1, rfl⟩⟩, e0.hok.fresh (Nat.le_refl _), fun y c h => (e0.bs _ _ ((cel h).2 ▸ KB)).2, fun p hp => absurd (show p ∈ ([] : List (Addr × Obj)) from hp) (by simp), e0.hok.kept hk, rfl⟩
  · have hy : scope.names.lookup y = some .cell ∨ scope.names.lookup y = some .free := hy
    rcases hy with hy | hy
    · exact absurd rfl (S.cell _ (PySem.mem_of_lookup hy))
    · rw [S.free y hy]
      exact ⟨cc, rfl⟩
  · rw [(cel h).1] at hf
    exact absurd hf (by show ¬ (("__class__" : Str) != "__class__") = true; decide +kernel)
  · match i, h1, h2 with
    | 0, h1, h2 =>
      cases h1; cases h2
      exact ⟨u0, r0, .inl ⟨S.l0, rfl⟩⟩
    | 1, h1, h2 =>
      cases h1; cases h2
      exact ⟨u1, r1, .inl ⟨S.l1, rfl⟩⟩
end
/-- what is told of such a def -/
structure SupFn (B : Base) (qual : Str) (st : Stmt) (f cda cc D : Addr) (fd : FuncData) : Prop where
  fn : ∃ oc od kV doc pm an ct osl, fd = PySem.W.ksFn "__init__" qual (defArgs st) (defBody st) (defScope st) .none kV doc pm an (.ref cda) ct cc ∧ B.K.lookup f = some ⟨oc, od, .func fd, osl⟩
  hcd : PySem.W.codeIn B.K (.ref cda) qual = true
  code : ∃ ccl cdd vs ccs file tf, B.K.lookup cda = some ⟨ccl, cdd, .fields vs, ccs⟩ ∧ vs[2]? = some (.str file tf) ∧ ((B.P.main.file : Str) == file) = true
  cell : ∃ cl cld csl, B.K.lookup cc = some ⟨cl, cld, .cell (some (.ref D)), csl⟩
  cls : ∃ cd, PySem.W.clsIn B.K D = some cd
  top : (B.P.main.scope.names.lookup ("super" : Str)).isSome = false
  noany : PySem.W.nsIn B.K cStatics "thirdparty.any" = some none
  nosup : B.mg "super" = none
  scope : SupScope (defScope st)
  par : ∃ ar, ((defArgs st).posonlyargs ++ (defArgs st).args).head? = some ar ∧ ar.arg = "self"
section
open PySem.Calls PyProof.Rows
variable {B : Base} {qual : Str} {st : Stmt} {f cda cc D : Addr} {fd : FuncData} {A : Around} {outer : List Env} {s s1 : Shared} {H0 H : Hp} {E : XK} {a C : Addr} {v : V} {p0 p1 p2 p3 p4 p5 : Pos}
abbrev cxB (B : Base) (qual : Str) (st : Stmt) (f cda cc : Addr) (A : Around) (outer : List Env) (s : Shared) (H : Hp) (E : XK) : Cx := cxS B.P B.w B.K B.mg B.base qual (defScope st) f cda cc A outer s H E
theorem cls_at {K : PySem.W.Frag} {h : Heap} {D : Addr} {cd : ClassData} (X : K.In h) (hD : PySem.W.clsIn K D = some cd) : ∃ oD, h.get? D = some oD ∧ oD.data = .cls cd := by
  unfold PySem.W.clsIn at hD
  split at hD
  · rename_i c d cd' sl ho
    cases hD
    exact ⟨_, X _ _ ho, rfl⟩
  · cases hD
theorem exo_inst {X : Cx} {pins : List (Addr × Obj)} {σ : L2.St} {d : Option Addr} (I : Inv X pins σ H s1) (e : H a = some (exo a C d)) : ∃ t0, s1.heap.get? a = some (PySem.W.excObj C t0 d .none) := exo_at I.hok e
/-- super() there: the node -/
theorem super_node {whole : Sem Value} {Q : Value → Shared → Prop} (S : SupFn B qual st f cda cc D fd) (I : Inv (cxB B qual st f cda cc A outer s H0 E) [] [some (.ref a), some v] H s1) (e : H a = some (exo a C none))
    (hsub : PySem.W.mroIn B.K C (.ref D) = some true)
    (h : ∀ h', h'.get? s1.heap.objs.size = some (PySem.W.ks_superObj D a C) → (∀ y o, s1.heap.get? y = some o → h'.get? y = some o) → Q (.ref s1.heap.objs.size) { s1 with heap := h' }) :
    PySem.wpAt (model B.P B.w) (cxB B qual st f cda cc A outer s H0 E).A (.func (defBody st) (cxB B qual st f cda cc A outer s H0 E).env)
      (attributeBase (.Call (.Name "super" p0) [] [] p1) "__init__" (cxB B qual st f cda cc A outer s H0 E).env whole) Q (cxB B qual st f cda cc A outer s H0 E).xe s1 := by
  obtain ⟨oc, od, kV, doc, pm, an, ct, osl, rfl, lk⟩ := S.fn
  obtain ⟨ccl, cdd, vs, ccs, file, tf, hco, hvs, hfile⟩ := S.code
  obtain ⟨cl, cld, csl, hcell⟩ := S.cell
  obtain ⟨cd, hD⟩ := S.cls
  obtain ⟨ar, hp, har⟩ := S.par
  have X : B.K.In s1.heap := I.kIn
  obtain ⟨m, hn, hl⟩ := id I.loc
  obtain ⟨u, ru, lu⟩ := hl 0 "self" (.ref a) rfl rfl (.inl S.scope.l0)
  cases ru
  have hself : m "self" = some (.ref a) := by
    rcases lu with ⟨_, z⟩ | ⟨z, _⟩
    · exact z
    · have z : (defScope st).names.lookup ("self" : Str) = some .cell ∨ (defScope st).names.lookup ("self" : Str) = some .free := z
      rw [S.scope.l0] at z
      rcases z with z | z <;> cases z
  obtain ⟨oD, hD1, hD2⟩ := cls_at X hD
  obtain ⟨t0, hx⟩ := exo_inst I e
  obtain ⟨mb, hb1, hb2⟩ := I.mod.blt
  obtain ⟨hh, g, d, t, os⟩ := s1
  refine PySem.ks_wpAt_super_base (env := (cxB B qual st f cda cc A outer s H0 E).env) S.scope.sup S.scope.cls (by decide +kernel) rfl (X _ _ lk) rfl hp rfl (X _ _ hco) rfl hvs hfile S.top ?_
  refine PySem.W.ks_loadName_global S.scope.kind S.scope.sup (loadGlobal_builtin (env := (cxB B qual st f cda cc A outer s H0 E).env) (I.mod.glob.keeps I.bk) S.nosup (hb1.keeps I.bk) ((hb2 _ (by decide +kernel)).trans (by first | exact PyProof.Rows.Boot.«super» | decide +kernel)) ⟨rfl, ?_⟩)
  refine wpAny_loadName_free S.scope.kind S.scope.cls rfl ⟨_, X _ _ hcell, rfl⟩ ?_
  rw [har]
  refine wpAny_loadName_local S.scope.kind S.scope.l0 hn hself ?_
  refine PySem.ks_wpAny_isType_cls hD1 hD2 ⟨rfl, ?_⟩
  exact PySem.ks_wpAny_call_super hD1 hD2 hx rfl (fun c e => by cases e) (PySem.W.looks_mroIn X hsub) (fun h' e k => h h' e k)
theorem notInter {env : PySem.Env} (h : env.scope.kind = .function) : interactive env = false := by
  unfold interactive
  rw [h]
  rfl
/-- the node super().__init__(place) -/
def SupHt (p0 p1 p2 p3 p4 : Pos) : Prop := ∀ env : PySem.Env, ∃ pl : Sem Bool, eval (.Call (.Attribute (.Call (.Name "super" p0) [] [] p1) "__init__" p2) [.Name "place" p3] [] p4) env = (do
      let ov ← attributeBase (.Call (.Name "super" p0) [] [] p1) "__init__" env (eval (.Call (.Name "super" p0) [] [] p1) env)
      standAt p2.atName
      let (f, first) ← holding [ov] (getMethod ov "__init__" pl)
      callWith p4 f first (backTo p4 (starEach [.Name "place" p3] env)) [])
/-- the argument place, by what stands in the frame -/
theorem place_arg {X : Cx} {σ : L2.St} {h' : Heap} {t' : Nat} {R : List Value → Shared → Prop} {Ex : Value → Shared → Prop} {pos p3 : Pos} (I : Inv X [] σ H s1) (hk : X.env.scope.kind = .function) (hN : X.N[1]? = some ("place" : Str)) (hσ : σ[1]? = some (some v)) (hl : X.env.scope.names.lookup ("place" : Str) = some .local)
    (k : ∀ b o, s1.heap.get? b = some o → h'.get? b = some o) (q : ∀ u, RelV v u → R [u] { s1 with heap := h', toks := t' }) :
    wpAny (model X.prog X.w) X.A (spliced (backTo pos (starEach [.Name "place" p3] X.env))) R Ex { s1 with heap := h', toks := t' } := by
  obtain ⟨m, hn, hl'⟩ := id I.loc
  obtain ⟨u, ru, lu⟩ := hl' 1 "place" v hN hσ (.inl hl)
  have hpl : m "place" = some u := by
    rcases lu with ⟨_, z⟩ | ⟨z, _⟩
    · exact z
    · have z : X.env.scope.names.lookup ("place" : Str) = some .cell ∨ X.env.scope.names.lookup ("place" : Str) = some .free := z
      rw [hl] at z
      rcases z with z | z <;> cases z
  obtain ⟨oL, es, ep, hoL, hr⟩ := hn
  have hn' : h'.Ns X.env.locals m := ⟨oL, es, ep, k _ _ hoL, hr⟩
  exact spliced_cons (wpAny_Name (wpAny_loadName_local hk hl hn' hpl (spliced_nil (q u ru))) (by decide +kernel))
/-- super().__init__(place), the next one an own def -/
theorem first_own {f2 : Addr} {fd2 : FuncData} {k : Nat} {sp : Sp} {K1 : Hp → Prop} (ht : SupHt p0 p1 p2 p3 p4) (S : SupFn B qual st f cda cc D fd) (I : Inv (cxB B qual st f cda cc A outer s H0 E) [] [some (.ref a), some v] H s1) (e : H a = some (exo a C none))
    (hsub : PySem.W.mroIn B.K C (.ref D) = some true) (hm : PySem.W.ks_superIn B.K C D "__init__" = some (some (.ref f2))) (hf2 : PySem.W.fnIn B.K f2 = true) (ht2 : PySem.W.typeIn B.K (.ref f2) = some (.type "function"))
    (F2 : FnOk B.P B.w B.K B.mg B.base (L2.CX B.P B.w) k f2 fd2 ["self", "place"] sp) (hb2 : Binds B.K fd2 ["self", "place"] []) (hr : Room k (cxB B qual st f cda cc A outer s H0 E).A)
    (hsp : sp [.ref a, v] H (fun _ H' => K1 H') (fun _ _ _ => False)) :
    PySem.wpAt (model B.P B.w) (cxB B qual st f cda cc A outer s H0 E).A (.func (defBody st) (cxB B qual st f cda cc A outer s H0 E).env)
      (exec (.Expr (.Call (.Attribute (.Call (.Name "super" p0) [] [] p1) "__init__" p2) [.Name "place" p3] [] p4) p5) (cxB B qual st f cda cc A outer s H0 E).env)
      (fun fl s' => fl = .next ∧ ∃ H', Inv (cxB B qual st f cda cc A outer s H0 E) [] [some (.ref a), some v] H' s' ∧ K1 H') (cxB B qual st f cda cc A outer s H0 E).xe s1 := by
  obtain ⟨pl, he⟩ := ht (cxB B qual st f cda cc A outer s H0 E).env
  refine PySem.ks_wpAt_Expr_any (PySem.ks_wpAt_MethodCall (pl := pl) ?_ he) (notInter S.scope.kind)
  refine super_node S I e hsub fun h' hso hk => ?_
  have X : B.K.In s1.heap := I.kIn
  obtain ⟨t0, hx⟩ := exo_inst I e
  obtain ⟨hh, g, d, t, os⟩ := s1
  have X' : B.K.In h' := X.keeps hk
  have hx' := hk _ _ hx
  cases hc : PySem.W.clsIn B.K C with
  | none => unfold PySem.W.ks_superIn at hm; rw [hc] at hm; cases hm
  | some cd =>
    unfold PySem.W.ks_superIn at hm
    rw [hc] at hm
    have iC : PySem.W.InstAt h' a (PySem.W.excObj C t0 none .none) C none := ⟨hx', rfl, rfl, trivial⟩
    obtain ⟨of, hof, hofc⟩ : ∃ of, h'.get? f2 = some of ∧ of.cls = .type "function" := by
      have ht' : (B.K.lookup f2).map (·.cls) = some (.type "function") := ht2
      cases z : B.K.lookup f2 with
      | none => rw [z] at ht'; cases ht'
      | some of => rw [z] at ht'; exact ⟨of, X' _ _ z, Option.some.inj ht'⟩
    refine PySem.ks_wpAny_getMethod_super hso (PySem.W.looks_opaque X' S.noany) (l₀ := cd.mro) ?_ rfl X' hm hof hofc (PySem.W.ks_ne X' iC hc) (by decide +kernel) ?_
    · exact fun A Q E s k q => wpAny_bind ((PySem.W.looks_clsIn X' hc) A _ E s k (wpAny_pure q))
    · have k2 : ∀ b o, hh.get? b = some o → (h'.push (PySem.W.methodObj (.ref f2) (.ref a))).get? b = some o := fun b o q => Heap.get?_push_of_some _ (hk _ _ q)
      have J := I.kept (t' := t + 1) k2
      have hu : (h'.push (PySem.W.methodObj (.ref f2) (.ref a))).get? h'.objs.size = some (PySem.W.methodObj (.ref f2) (.ref a)) := Heap.get?_push_size h' rfl
      refine PySem.W.callWith_of (P := PySem.W.MethP B.K h'.objs.size f2 (.ref a)) rfl (PySem.W.keeps_M hf2) (evalArgs_plain (place_arg I S.scope.kind rfl rfl S.scope.l1 k2 fun u ru => ⟨⟨hu, J.kIn⟩, ?_⟩))
      have r2 : Vals [V.ref a, v] [Value.ref a, u] := .cons rfl (.cons ru .nil)
      have hb := hb2 _ [Value.ref a, u] J.kIn rfl
      refine wpAny_call (PySem.W.method_call hu (codeAny_mono (F2.run _ _ _ H ⟨[Value.ref a, u], []⟩ [Value.ref a, u] [V.ref a, v] _ _ hr J.env0 hb r2 hsp) fun r s' hq => ?_))
      cases r with
      | error e =>
        obtain ⟨_, _, _, _, _, _, _, _, _, _, _, _, z⟩ := hq
        exact z.elim
      | ok fl =>
        cases fl with
        | ret u =>
          obtain ⟨v', H', J', _, q⟩ := J.after hq
          exact ⟨rfl, H', J', q⟩
        | next => exact False.elim hq
        | brk => exact False.elim hq
        | cont => exact False.elim hq
/-- super().__init__(place), the next one ValueError's -/
theorem first_base (ht : SupHt p0 p1 p2 p3 p4) (S : SupFn B qual st f cda cc D fd) (I : Inv (cxB B qual st f cda cc A outer s H0 E) [] [some (.ref a), some v] H s1) (e : H a = some (exo a C none)) (T : OexC B.K C)
    (hsub : PySem.W.mroIn B.K C (.ref D) = some true) (hm : PySem.W.ks_superIn B.K C D "__init__" = some (some (.builtin "ValueError.__init__"))) (hVE : PySem.W.subIn B.K (.ref C) (.type "ValueError") = some true) :
    PySem.wpAt (model B.P B.w) (cxB B qual st f cda cc A outer s H0 E).A (.func (defBody st) (cxB B qual st f cda cc A outer s H0 E).env)
      (exec (.Expr (.Call (.Attribute (.Call (.Name "super" p0) [] [] p1) "__init__" p2) [.Name "place" p3] [] p4) p5) (cxB B qual st f cda cc A outer s H0 E).env)
      (fun fl s' => fl = .next ∧ Inv (cxB B qual st f cda cc A outer s H0 E) [] [some (.ref a), some v] H s') (cxB B qual st f cda cc A outer s H0 E).xe s1 := by
  obtain ⟨pl, he⟩ := ht (cxB B qual st f cda cc A outer s H0 E).env
  refine PySem.ks_wpAt_Expr_any (PySem.ks_wpAt_MethodCall (pl := pl) ?_ he) (notInter S.scope.kind)
  refine super_node S I e hsub fun h' hso hk => ?_
  have X : B.K.In s1.heap := I.kIn
  obtain ⟨t0, hx⟩ := exo_inst I e
  obtain ⟨nm, q, N, bs, bm, sn, sub, ab, col, dd, k0, k1, k2, k3, k5, hCl, hbm⟩ := T.cls
  obtain ⟨hh, g, d, t, os⟩ := s1
  have X' : B.K.In h' := X.keeps hk
  have hx' := hk _ _ hx
  cases hc : PySem.W.clsIn B.K C with
  | none => unfold PySem.W.ks_superIn at hm; rw [hc] at hm; cases hm
  | some cd =>
    unfold PySem.W.ks_superIn at hm
    rw [hc] at hm
    have iC : PySem.W.InstAt h' a (PySem.W.excObj C t0 none .none) C none := ⟨hx', rfl, rfl, trivial⟩
    have hI : PySem.W.Looks (model B.P B.w) h' (isInstance (.ref a) (.type "ValueError")) true := iC.type.andThen (PySem.W.looks_subIn X' hVE)
    refine PySem.W.kxs_getMethod PySem.W.kxs_ValueError hso (PySem.W.looks_opaque X' S.noany) (l₀ := cd.mro) ?_ rfl X' hm hI (PySem.W.ks_ne X' iC hc) (by decide +kernel) ?_
    · exact fun A Q E s k q => wpAny_bind ((PySem.W.looks_clsIn X' hc) A _ E s k (wpAny_pure q))
    · have k2 : ∀ b o, hh.get? b = some o → (h'.push (PySem.W.kxs_mw "ValueError.__init__" a)).get? b = some o := fun b o q => Heap.get?_push_of_some _ (hk _ _ q)
      have J := I.kept (t' := t + 1) k2
      have hu : (h'.push (PySem.W.kxs_mw "ValueError.__init__" a)).get? h'.objs.size = some (PySem.W.kxs_mw "ValueError.__init__" a) := Heap.get?_push_size h' rfl
      refine PySem.W.kxs_callWith (i := "ValueError.__init__") (x := a) rfl (evalArgs_plain (place_arg I S.scope.kind rfl rfl S.scope.l1 k2 fun u ru => ⟨hu, ?_⟩))
      have hCo := J.kIn _ _ hCl
      have hxo := k2 _ _ hx
      refine wpAny_call (codeAny_of_tree ?_)
      show wpAny _ (cxB B qual st f cda cc A outer s H0 E).A.in1 (callAny (.ref h'.objs.size) ⟨[u], []⟩) _ _ _
      simp only [callAny]
      refine wpAny_bind (wpAny_load hu ?_)
      simp only [PySem.W.kxs_mw, show (Value.type "method-wrapper" == Value.type "method" || Value.type "method-wrapper" == Value.type "builtin_function_or_method" || Value.type "method-wrapper" == Value.type "method-wrapper") = true by decide, if_true]
      refine PySem.W.KFB.if_so (by decide) ?_
      refine wpAny_bind (PySem.W.check_bound_init F.excBase_ValueError.toExcCallFacts hCo hxo rfl ?_)
      refine wpAny_bind (wpAny_pure (wpAny_pure ?_))
      refine ⟨plainId_quiet F.excBase_ValueError.init.plain _, codeAny_builtin F.excBase_ValueError.initEntry ?_⟩
      refine PySem.W.exc_init_tree (cls := .ref C) (t0 := t0) (dv := none) (c2 := .none) (c3 := .none) (b4 := .bool false) hxo (by show 1 ≤ sizeLine; rw [sizeLine_eq]; omega) fun h3 k3 e3 _ => ?_
      have J3 := J.write (t' := t + 1) (x := a) (e := a) (o := exo a C none) (by rw [e]; exact True.intro) (.inl rfl) k3 ⟨_, e3⟩ (exo_ok e3)
      have eu : upd H a (exo a C none) = H := by
        funext b
        by_cases hb : b = a
        · rw [hb, upd_same, e]
        · rw [upd_ne hb]
      rw [eu] at J3
      exact ⟨trivial, J3⟩
/-! ### the promise of such an __init__ -/
structure ErK (K : PySem.W.Frag) (C : Addr) : Prop where
  oex : OexC K C
  pl : PySem.W.findIn K (.ref C) "place" = some none
  nm : PySem.W.findIn K (.ref C) "name" = some none
/-- what is left of an exception that was made at a -/
structure Made (m : Nat) (a C : Addr) (v : V) (nm : Str) (H H' : Hp) (d : Addr) (fs : List (Str × V)) : Prop where
  ne : d ≠ a
  new : H d = none
  same : ∀ b, b ≠ a → b ≠ d → H' b = H b
  ob : H' a = some (exo a C (some d))
  dct : H' d = some (exd d fs)
  few : fs.length ≤ m
  pl : fs.lookup ("place" : Str) = some v
  nm : fs.lookup ("name" : Str) = some (.str nm)
def spI (m : Nat) (p : Addr → Prop) (nm : Str) : Sp := fun vs H Q _ => ∃ a C v, vs = [.ref a, v] ∧ p C ∧ H a = some (exo a C none) ∧ ∀ H' d fs, Made m a C v nm H H' d fs → Q .non H'
theorem fn_sup {k m : Nat} {p : Addr → Prop} {nm : Str} {rest : List Stmt} {fst : Stmt} (S : SupFn B qual st f cda cc D fd) (hb : defBody st = fst :: rest) (M : Addr → Addr → V → Hp → Hp → Prop)
    (first : ∀ (A : Around) (outer : List Env) (s s1 : Shared) (H : Hp) (E : XK) (a C : Addr) (v : V), p C → H a = some (exo a C none) → Inv (cxB B qual st f cda cc A outer s H E) [] [some (.ref a), some v] H s1 → Room k (cxB B qual st f cda cc A outer s H E).A →
      PySem.wpAt (model B.P B.w) (cxB B qual st f cda cc A outer s H E).A (.func (defBody st) (cxB B qual st f cda cc A outer s H E).env) (exec fst (cxB B qual st f cda cc A outer s H E).env)
        (fun fl s' => fl = .next ∧ ∃ H', Inv (cxB B qual st f cda cc A outer s H E) [] [some (.ref a), some v] H' s' ∧ M a C v H H') (cxB B qual st f cda cc A outer s H E).xe s1)
    (hrest : ∀ (A : Around) (outer : List Env) (s : Shared) (H H' : Hp) (E : XK) (a C : Addr) (v : V) (Q : VK), p C → H a = some (exo a C none) → M a C v H H' → (∀ H2 d fs, Made m a C v nm H H2 d fs → Q .non H2) →
      ∃ t, PSs (cxB B qual st f cda cc A outer s H E) rest t ∧ t { nx := fun _ H' => Q .non H', rt := Q } [some (.ref a), some v] H') :
    FnOk B.P B.w B.K B.mg B.base (L2.CX B.P B.w) (k + 1) f fd ["self", "place"] (spI m p nm) := by
  obtain ⟨oc, od, kV, doc, pm, an, ct, osl, rfl, lk⟩ := S.fn
  obtain ⟨cl, cld, csl, hcell⟩ := S.cell
  refine ⟨fun vs H Q E ⟨a, C, v, e, _⟩ => by rw [e]; rfl, fun A outer s H args us vs Q E hr e0 hbd r hsp => ?_⟩
  obtain ⟨a, C, v, rfl, hp, ea, hq⟩ := hsp
  cases r with
  | @cons _ u0 _ ur r0 rw' =>
    cases rw' with
    | @cons _ u1 _ ur2 r1 rw2 =>
      cases rw2
      have KX : B.K.In s.heap := e0.mod.kin.keeps fun b o e => (e0.bs b o e).1
      have lim : s.heap.NoLimit := e0.mod.nolimit.keeps fun b o e => (e0.bs b o e).1
      refine PySem.ks_codeAny_call_defAt (fd := PySem.W.ksFn "__init__" qual (defArgs st) (defBody st) (defScope st) .none kV doc pm an (.ref cda) ct cc) (body := defBody st) (binds := [("self", u0), ("place", u1)]) hr.depth (KX _ _ lk) rfl lim (PySem.W.codeRec_of KX S.hcd) rfl hbd S.scope.cell ?_ (fun h₁ hns hk₁ => ?_) S.scope.co S.scope.gen S.scope.kind
      · intro x hx
        rcases List.mem_cons.mp hx with rfl | hx
        · exact S.scope.l0
        · rcases List.mem_cons.mp hx with rfl | hx
          · exact S.scope.l1
          · cases hx
      · have I : Inv (cxB B qual st f cda cc A outer s H E) [] [some (.ref a), some v] H { s with heap := h₁, toks := s.toks + 2 } := sup_start S.scope hr.hd e0 hcell r0 r1 hns hk₁
        have hr' : Room k (cxB B qual st f cda cc A outer s H E).A := hr.deeper _
        show PySem.wpAt (model B.P B.w) (cxB B qual st f cda cc A outer s H E).A (.func (defBody st) (cxB B qual st f cda cc A outer s H E).env) (execs (defBody st) (cxB B qual st f cda cc A outer s H E).env) _ (cxB B qual st f cda cc A outer s H E).xe _
        have hfirst := first A outer s _ H E a C v hp ea I hr'
        generalize hcode : Code.func (defBody st) (cxB B qual st f cda cc A outer s H E).env = code at hfirst ⊢
        rw [hb]
        refine PySem.ks_wpAt_execs_cons (PySem.ks_wpAt_mono hfirst (fun fl s' h => ?_) fun _ _ z => z)
        obtain ⟨rfl, H', J, hM⟩ := h
        obtain ⟨t, htt, htq⟩ := hrest A outer s H H' E a C v Q hp ea hM hq
        refine PySem.wpAt_of_wpAny (wpAny_mono (htt.run [] s' _ H' _ J htq) (fun fl s' hs => ?_) fun e s' hs => hs)
        have fin : ∀ {σ' : L2.St} {H' : Hp} {v : V} {u : Value}, Inv (cxB B qual st f cda cc A outer s H E) [] σ' H' s' → RelV v u → Q v H' → CE outer B.P B.w H s Q u s' :=
          fun {σ' H' v u} J rv q => ⟨v, H', J.os, J.bare, J.base, J.hok, rv, q⟩
        cases fl with
        | ret u =>
          obtain ⟨v, σ', H', J, rv, q⟩ := hs
          exact fin J rv q
        | next =>
          obtain ⟨σ', H', J, q⟩ := hs
          exact fin (v := V.non) (u := Value.none) J rfl q
        | brk =>
          obtain ⟨_, _, _, q⟩ := hs
          exact False.elim q
        | cont =>
          obtain ⟨_, _, _, q⟩ := hs
          exact False.elim q
theorem lookup_cons_ne {α : Type} {f g : Str} {v : α} {fs : List (Str × α)} (h : (g == f) = false) : List.lookup g ((f, v) :: fs) = List.lookup g fs := by
  show (match g == f with | true => some v | false => List.lookup g fs) = _
  rw [h]
/-- the base: super().__init__(place); self.place = place; self.name = nm -/
theorem base_ok {p : Addr → Prop} {nm : Str} {p6 p7 p8 p9 q1 q2 q3 q4 : Pos} {j : Nat} (ht : SupHt p0 p1 p2 p3 p4) (S : SupFn B qual st f cda cc D fd)
    (hb : defBody st = [.Expr (.Call (.Attribute (.Call (.Name "super" p0) [] [] p1) "__init__" p2) [.Name "place" p3] [] p4) p5, .Assign [.Attribute (.Name "self" p6) "place" p7] (.Name "place" p8) p9, .Assign [.Attribute (.Name "self" q1) "name" q2] (.Constant (.str nm) j q3) q4])
    (hp : ∀ C, p C → ErK B.K C ∧ PySem.W.mroIn B.K C (.ref D) = some true ∧ PySem.W.ks_superIn B.K C D "__init__" = some (some (.builtin "ValueError.__init__")) ∧ PySem.W.subIn B.K (.ref C) (.type "ValueError") = some true) :
    FnOk B.P B.w B.K B.mg B.base (L2.CX B.P B.w) 1 f fd ["self", "place"] (spI 2 p nm) := by
  refine fn_sup S hb (fun a C v H H' => H' = H) (fun A outer s s1 H E a C v hC ea I _ => ?_) fun A outer s H H' E a C v Q hC ea hM hq => ?_
  · obtain ⟨T, h1, h2, h3⟩ := hp C hC
    exact PySem.ks_wpAt_mono (first_base ht S I ea T.oex h1 h2 h3) (fun fl s' h => ⟨h.1, H, h.2, rfl⟩) fun _ _ z => z
  · subst hM
    obtain ⟨T, _⟩ := hp C hC
    have v0 : ∀ {pos : Pos}, PE (cxB B qual st f cda cc A outer s H' E) (.Name "self" pos) (tVar 0) := fun {pos} => pe_var rfl (.inl S.scope.l0)
    have v1 : ∀ {pos : Pos}, PE (cxB B qual st f cda cc A outer s H' E) (.Name "place" pos) (tVar 1) := fun {pos} => pe_var rfl (.inl S.scope.l1)
    refine ⟨_, pss_cons (ps_ost v0 v1) (pss_one (ps_ost v0 pe_str)), ?_⟩
    refine ⟨v, rfl, .ref a, rfl, a, C, rfl, T.oex, T.pl, .inl ⟨ea, fun dx nx ne => ?_⟩⟩
    have e2 : upd (upd H' dx (exd dx [(("place" : Str), v)])) a (exo a C (some dx)) a = some (exo a C (some dx)) := upd_same
    have e3 : upd (upd H' dx (exd dx [(("place" : Str), v)])) a (exo a C (some dx)) dx = some (exd dx [("place", v)]) := by rw [upd_ne ne, upd_same]
    refine ⟨.ref a, rfl, a, C, rfl, T.oex, T.nm, .inr ⟨dx, _, e2, e3, by simp, ?_⟩⟩
    refine hq _ dx _ ⟨ne, nx, fun b h1 h2 => by rw [upd_ne h2, upd_ne h1, upd_ne h2], by rw [upd_ne (Ne.symm ne)]; exact e2, upd_same, by simp, ?_, by simp [List.lookup]⟩
    rw [lookup_cons_ne (by decide +kernel)]
    simp [List.lookup]
/-- a class over it: super().__init__(place); self.name = nm -/
theorem own_ok {p p2' : Addr → Prop} {nm nm2 : Str} {f2 : Addr} {fd2 : FuncData} {k m : Nat} (hm : m ≤ 900) {q1 q2 q3 q4 : Pos} {j : Nat} (ht : SupHt p0 p1 p2 p3 p4) (S : SupFn B qual st f cda cc D fd)
    (hb : defBody st = [.Expr (.Call (.Attribute (.Call (.Name "super" p0) [] [] p1) "__init__" p2) [.Name "place" p3] [] p4) p5, .Assign [.Attribute (.Name "self" q1) "name" q2] (.Constant (.str nm) j q3) q4])
    (F2 : FnOk B.P B.w B.K B.mg B.base (L2.CX B.P B.w) k f2 fd2 ["self", "place"] (spI m p2' nm2)) (hb2 : Binds B.K fd2 ["self", "place"] []) (hf2 : PySem.W.fnIn B.K f2 = true) (ht2 : PySem.W.typeIn B.K (.ref f2) = some (.type "function"))
    (hp : ∀ C, p C → p2' C ∧ ErK B.K C ∧ PySem.W.mroIn B.K C (.ref D) = some true ∧ PySem.W.ks_superIn B.K C D "__init__" = some (some (.ref f2))) :
    FnOk B.P B.w B.K B.mg B.base (L2.CX B.P B.w) (k + 1) f fd ["self", "place"] (spI (m + 1) p nm) := by
  refine fn_sup S hb (fun a C v H H' => ∃ d fs, Made m a C v nm2 H H' d fs) (fun A outer s s1 H E a C v hC ea I hr => ?_) fun A outer s H H' E a C v Q hC ea hM hq => ?_
  · obtain ⟨h0, T, h1, h2⟩ := hp C hC
    exact PySem.ks_wpAt_mono (first_own (K1 := fun H' => ∃ d fs, Made m a C v nm2 H H' d fs) ht S I ea h1 h2 hf2 ht2 F2 hb2 hr ⟨a, C, v, rfl, h0, ea, fun H' d fs M => ⟨d, fs, M⟩⟩) (fun fl s' h => h) fun _ _ z => z
  · obtain ⟨d, fs, M⟩ := hM
    obtain ⟨_, T, _⟩ := hp C hC
    have v0 : ∀ {pos : Pos}, PE (cxB B qual st f cda cc A outer s H E) (.Name "self" pos) (tVar 0) := fun {pos} => pe_var rfl (.inl S.scope.l0)
    refine ⟨_, pss_one (ps_ost v0 pe_str), ?_⟩
    refine ⟨.ref a, rfl, a, C, rfl, T.oex, T.nm, .inr ⟨d, _, M.ob, M.dct, by have := M.few; omega, ?_⟩⟩
    refine hq _ d _ ⟨M.ne, M.new, fun b h1 h2 => by rw [upd_ne h2, M.same b h1 h2], by rw [upd_ne (Ne.symm M.ne)]; exact M.ob, upd_same, by simp; exact M.few, ?_, by simp [List.lookup]⟩
    rw [lookup_cons_ne (by decide +kernel)]
    exact M.pl
end
end Ev

/-! Ev21: raise, try .. except. -/
namespace Ev
open PySem L2
/-- an own error class c that is made with one argument, its place -/
structure ErD (B : Base) (c : Str) (k : Nat) : Prop where
  ex : ∃ Ca f fd m p, B.cl c = some Ca ∧ B.mg c = some (.ref Ca) ∧ ErK B.K Ca ∧ PySem.W.findIn B.K (.ref Ca) "__init__" = some (some (.ref f)) ∧ PySem.W.typeIn B.K (.ref f) = some (.type "function") ∧ Binds B.K fd ["self", "place"] [] ∧
    FnOk B.P B.w B.K B.mg B.base (L2.CX B.P B.w) k f fd ["self", "place"] (spI m p c) ∧ p Ca
section
variable {B : Base} {G : Gc} {e : En} {K : PySem.W.Frag} {cl : Str → Option Addr} {W W1 : Wd} {σ : L2.St} {env : List Slot} {S S1 : List Cell}
def sRaise (c : Str) (f : EF) : SF := fun env S => (f env S).then env fun x S1 => match x with
  | .dat d => .exc c d env S1
  | .loc _ => .bot
theorem ss_raise {x : Str} {a : Expr} {k : Nat} {fa : EF} {p pos pos' : Pos} (M : ErD B x k) (ha : SE B G e a fa) (hk : k + 1 ≤ G.k := by decide) (hg : G.sc.names.lookup x = some .globalImplicit := by rfl) (hc : G.calm = true := by rfl)
    (hdb : (x == ("__debug__" : Str)) = false := by decide +kernel) : SS B G e (.Raise (some (.Call (.Name x p) [a] [] pos)) none pos') (sRaise x fa) := by
  refine ⟨fun X wx C' => ?_⟩
  obtain ⟨Ca, f, fd, m, pp, h0, h1, h2, h3, h4, h5, h6, h7⟩ := M.ex
  have e1 := C'.prog; have e2 := C'.w; have e3 := C'.K; have e4 := C'.mg; have e5 := C'.base
  rw [← e1, ← e2, ← e3, ← e4, ← e5] at h6
  rw [← e3] at h3 h4 h5
  rw [← e4] at h1
  have sa : SA B G e [a] (aCons fa aNil) := sa_cons ha sa_nil
  refine PS.imp (ps_raise (C'.calm hc) C'.takes (pmk_oex (dvs := []) (by rw [e3]; exact h2.oex) h3 h4 h6 ((C'.room hc).mono hk) h5 .nil pass_no (C'.gl hg) h1 (sa.run X wx C') hdb (sa_star sa X.env) rfl)) fun D σ H ⟨W, env, S, hH, R, q⟩ => ?_
  refine ⟨W, env, S, hH, R, ?_⟩
  show postG (RepXL B.K) B.K B.cl e wx W σ env S _ ((fa env S).bind fun x S1 => (aNil env S1).bind fun xs S2 => .val (x :: xs) S2)
  unfold sRaise at q
  cases hf : fa env S with
  | bot => rw [hf] at q; exact q.elim
  | exc c p S1 => rw [hf] at q; exact fun cls dx W' R' s' r => q cls dx σ W' R' s'.f r
  | val x S1 =>
    rw [hf] at q
    show postG (RepXL B.K) B.K B.cl e wx W σ env S _ (.val [x] S1)
    intro vs W1 R1 s1 r1
    obtain ⟨v, rfl, rv⟩ := repXL1 r1
    cases x with
    | loc i => exact q.elim
    | dat d =>
      have rv : Rep B.K W1.F W1.ρ S1.length d v := rv
      refine ⟨by simp, fun a na => ?_⟩
      refine ⟨a, Ca, v, rfl, h7, upd_same, fun H2 dd fs Md => ?_⟩
      have nd : W1.H dd = none := by have := Md.new; rwa [upd_ne Md.ne] at this
      refine ⟨rfl, dd, fs, Md.ob, Md.dct, nd, ?_⟩
      have eH : upd (del H2 a) dd (.xd fs) = upd W1.H dd (.xd fs) := by
        funext b
        by_cases hb : b = dd
        · rw [hb, upd_same, upd_same]
        · rw [upd_ne hb, upd_ne hb]
          by_cases hba : b = a
          · rw [hba, del_same, na]
          · rw [del_ne hba, Md.same b hba hb, upd_ne hba]
      rw [eH]
      obtain ⟨R2, s2⟩ := R1.lay nd (.xd fs)
      exact q (.ref Ca) (some dd) σ (W1.lay dd (.xd fs)) R2 (s1.f.trans s2.f) ⟨Ca, dd, fs, v, h0, rfl, rfl, upd_same, R1.F_none nd, R1.ext.hd _ nd, Md.pl, Rep.step rv s2, Md.nm⟩
/-! ### an exception that is caught -/
/-- its dict is frozen -/
theorem FRel.freezeX (R : FRel K cl e W σ env S) {dd : Addr} {fs : List (Str × V)} (hd : W.H dd = some (.xd fs)) (nF : W.F dd = none) (n0 : e.H dd = none) :
    FRel K cl e ⟨upd W.F dd (.xd fs), W.H, W.ρ, W.l⟩ σ env S ∧ StepF W S.length ⟨upd W.F dd (.xd fs), W.H, W.ρ, W.l⟩ S.length := by
  have sF : Same W.F (upd W.F dd (.xd fs)) := same_upd nF
  have cne : ∀ {b : Addr} {c : Cell}, CellOk K cl W.F W.ρ S.length W.H b c → b ≠ dd := fun {b c} h z => by
    subst z
    cases c with
    | lst ds => obtain ⟨_, e1, _⟩ := h; rw [hd] at e1; cases e1
    | dct ks ds => obtain ⟨_, e1, _⟩ := h; rw [hd] at e1; cases e1
    | dctT ks ds => obtain ⟨_, e1, _⟩ := h; rw [hd] at e1; cases e1
    | lck ks ds => obtain ⟨_, _, e1, _⟩ := h; rw [hd] at e1; cases e1
    | lckT ks ds => obtain ⟨_, _, e1, _⟩ := h; rw [hd] at e1; cases e1
    | obj c ns ds => obtain ⟨_, _, _, _, e1, _⟩ := h; rw [hd] at e1; cases e1
  refine ⟨⟨fun b u q => ?_, fun m c h => ?_, R.inj, R.len, fun i d h => ?_, fun i c h => ?_, R.linj, ?_, fun i c q h => (R.err i c q h).mono sF (fun _ _ => rfl) (Nat.le_refl _)⟩, sF, fun _ _ => rfl, Nat.le_refl _, fun _ _ _ h => h⟩
  · have q : upd W.F dd (.xd fs) b = some u := q
    by_cases hb : b = dd
    · subst hb; rw [upd_same] at q; cases q; exact hd
    · rw [upd_ne hb] at q; exact R.sub b u q
  · obtain ⟨h1, h2⟩ := R.glob m c h
    exact ⟨(upd_ne (cne h2)).trans h1, CellOk.mono sF (fun _ _ => rfl) (Nat.le_refl _) (fun _ q => q) h2⟩
  · obtain ⟨v, h1, h2⟩ := R.val i d h
    exact ⟨v, h1, Rep.mono sF (fun _ _ => rfl) (Nat.le_refl _) _ _ h2⟩
  · obtain ⟨h1, h2, h3, h4, h5⟩ := R.loc i c h
    exact ⟨h1, (upd_ne (cne h3)).trans h2, CellOk.mono sF (fun _ _ => rfl) (Nat.le_refl _) (fun _ q => q) h3, h4, h5⟩
  · refine ⟨R.ext.fs.trans sF, fun b o q => ?_, R.ext.le, R.ext.rr, R.ext.rn, R.ext.hd, R.ext.hs, R.ext.fz⟩
    have q : upd W.F dd (.xd fs) b = some o := q
    by_cases hb : b = dd
    · subst hb; exact .inr n0
    · rw [upd_ne hb] at q; exact R.ext.fn b o q
/-- the entry, with the exception at a at hand -/
def En.with (e : En) (a : Addr) (cls : Value) (d : Option Addr) : En := { e with x := fun b => match cls, d with
  | .ref C, some dd => if b = a then some (C, dd) else none
  | _, _ => none }
theorem with_x {e : En} {a b C' dd : Addr} {cls : Value} {d : Option Addr} (h : (e.with a cls d).x b = some (C', dd)) : b = a ∧ cls = .ref C' ∧ d = some dd := by
  unfold En.with at h
  dsimp only at h
  split at h
  · split at h
    · rename_i hb
      cases h
      exact ⟨hb, rfl, rfl⟩
    · cases h
  · cases h
/-- the name i is bound to it -/
theorem FRel.catch (R : FRel K cl e W σ env S) (hx : ∀ a, e.x a = none) {a C dd : Addr} {c : Str} {p : D} {fs : List (Str × V)} {v : V} {i : Nat} (hc : cl c = some C) (hF : W.F dd = some (.xd fs)) (hp : fs.lookup ("place" : Str) = some v) (rp : Rep K W.F W.ρ S.length p v)
    (hn : fs.lookup ("name" : Str) = some (.str c)) : FRel K cl (e.with a (.ref C) (some dd)) W (σ.set i (some (.ref a))) (env.set i (.err c p)) S := by
  refine ⟨R.sub, R.glob, R.inj, by rw [List.length_set, List.length_set]; exact R.len, fun j d h => ?_, fun j c h => ?_, fun j k c c' h1 h2 => ?_, R.ext, fun j c' q h => ?_⟩
  · rcases set_old h with ⟨_, z⟩ | ⟨hj, h⟩
    · cases z
    · rw [List.getElem?_set_ne hj]; exact R.val j d h
  · rcases set_old h with ⟨_, z⟩ | ⟨hj, h⟩
    · cases z
    · rw [List.getElem?_set_ne hj]; exact R.loc j c h
  · rcases set_old h1 with ⟨_, z⟩ | ⟨_, h1⟩
    · cases z
    · rcases set_old h2 with ⟨_, z⟩ | ⟨_, h2⟩
      · cases z
      · exact R.linj j k c c' h1 h2
  · rcases set_old h with ⟨rfl, z⟩ | ⟨hj, h'⟩
    · cases z
      refine ⟨a, C, dd, fs, v, set_here R.len h, ?_, hc, hF, hp, rp, hn⟩
      show (if a = a then some (C, dd) else none) = _
      rw [if_pos rfl]
    · obtain ⟨a', C', dd', _, _, _, hx', _⟩ := R.err j c' q h'
      rw [hx a'] at hx'; cases hx'
def dropE : Slot → Slot
  | .err _ _ => .no
  | s => s
theorem FRel.uncatch {x' : Addr → Option (Addr × Addr)} (R : FRel K cl { e with x := x' } W σ env S) : FRel K cl e W σ (env.map dropE) S := by
  have back : ∀ {j : Nat} {s : Slot}, (env.map dropE)[j]? = some s → s = .no ∨ env[j]? = some s := fun {j s} h => by
    rw [List.getElem?_map] at h
    cases q : env[j]? with
    | none => rw [q] at h; cases h
    | some t =>
      rw [q] at h
      cases t with
      | err c p => cases h; exact .inl rfl
      | no => cases h; exact .inl rfl
      | val d => cases h; exact .inr rfl
      | loc c => cases h; exact .inr rfl
  refine ⟨R.sub, R.glob, R.inj, by rw [List.length_map]; exact R.len, fun j d h => ?_, fun j c h => ?_, fun j k c c' h1 h2 => ?_, R.ext, fun j c q h => ?_⟩
  · rcases back h with z | h
    · cases z
    · exact R.val j d h
  · rcases back h with z | h
    · cases z
    · exact R.loc j c h
  · rcases back h1 with z | h1
    · cases z
    · rcases back h2 with z | h2
      · cases z
      · exact R.linj j k c c' h1 h2
  · rcases back h with z | h'
    · cases z
    · rw [List.getElem?_map, h'] at h
      cases h
/-! ### the classes that a clause takes -/
structure Hnd (B : Base) (x : Str) (tbl : List (Str × Bool)) : Prop where
  ex : ∃ Cx, B.mg x = some (.ref Cx) ∧ ∀ c b, tbl.lookup c = some b → ∃ C, B.cl c = some C ∧ PySem.W.exmOne B.K (.ref C) (.ref Cx) = some b
def Gc.suite (G : Gc) : Gc := { G with calm := false }
theorem Cxt.tr {X : Cx} {wx W' : WX} {pn : List (Addr × Obj)} {xe : Value → Shared → Prop} (C : Cxt B.P B.w B.K B.mg B.base G e X wx) (hx : ∀ a, e.x a = none) (tk : Takes (X.tr pn xe) W') (po : PassesOwn (model X.prog X.w) X.A X.env xe) :
    Cxt B.P B.w B.K B.mg B.base G e (X.tr pn xe) W' :=
  ⟨C.prog, C.w, C.K, C.mg, C.base, C.N, C.sc, C.nd, C.un, C.room, C.calm, tk, C.fn, po, C.top, fun _ a C' dd h => by rw [hx a] at h; cases h⟩
theorem Cxt.suite {X : Cx} {wx : WX} {a : Addr} {oe : Obj} {cls : Value} {d : Option Addr} {pn : List (Addr × Obj)} (C : Cxt B.P B.w B.K B.mg B.base G e X wx) (hz : Zc cls d oe) (hf : ∃ vs, oe.data = .fields vs) :
    Cxt B.P B.w B.K B.mg B.base (Gc.suite G) (e.with a cls d) (X.suite a ((a, oe) :: pn)) (fun _ _ _ _ => False) := by
  refine ⟨C.prog, C.w, C.K, C.mg, C.base, C.N, C.sc, C.nd, C.un, fun h => absurd h Bool.false_ne_true, fun h => absurd h Bool.false_ne_true, takes0, C.fn, PassesOwn.never, C.top, fun _ b C' dd h => ?_⟩
  obtain ⟨rfl, rfl, rfl⟩ := with_x h
  exact ⟨oe, List.mem_cons_self, hz, hf⟩
def sTryAs (i : Nat) (tbl : List (Str × Bool)) (fb fs : SF) : SF := fun env S => match fb env S with
  | .exc c p env' S' => (match tbl.lookup c with
    | some true => (match fs (env'.set i (.err c p)) S' with
      | .rt d S2 => .rt d S2
      | _ => .bot)
    | some false => .exc c p env' S'
    | none => .bot)
  | o => o
theorem ss_tryAs (i : Nat) {x n : Str} {tbl : List (Str × Bool)} {fb fs : SF} {body suite : List Stmt} {b₀ : Stmt} {np pos pos' : Pos} (hx : ∀ a, e.x a = none) (Hh : Hnd B x tbl) (hb : SB B G e body fb) (hs : ∀ e', SB B (Gc.suite G) e' (b₀ :: suite) fs)
    (hN : G.N[i]? = some n := by rfl) (hn : G.sc.names.lookup n = some .local := by rfl) (hg : G.sc.names.lookup x = some .globalImplicit := by rfl) (ht : G.top = true := by rfl) (hdb : (x == ("__debug__" : Str)) = false := by decide +kernel) :
    SS B G e (.Try body [.ExceptHandler (some (.Name x np)) (some n) (b₀ :: suite) pos'] [] [] pos) (sTryAs i tbl fb fs) := by
  obtain ⟨Cx', hm, htb⟩ := Hh.ex
  refine ⟨fun X wx C => ?_⟩
  have nd : X.N.Nodup := by rw [C.N]; exact C.nd
  refine PS.imp (ps_try_as (i := i) (tb := fun W => tS B.K B.cl e W fb) (ts := fun a cls d => tS B.K B.cl (e.with a cls d) (fun _ _ _ _ => False) fs) (C.top ht).1 (C.top ht).2 nd (by rw [C.N]; exact hN)
    (by show X.env.scope.names.lookup n = _; rw [C.sc]; exact hn) (c := .ref Cx') ⟨by show X.env.scope.names.lookup x = _; rw [C.sc]; exact hg, hdb, .inl (by rw [C.mg]; exact hm)⟩ C.takes
    (fun W pn xe tk po => hb.run _ _ (C.tr hx tk po)) (fun a oe cls d pn hz hf => (hs _).run _ _ (C.suite hz hf))) fun D σ H ⟨W, env, S, hH, R, q⟩ => ⟨W, env, S, hH, R, ?_⟩
  unfold sTryAs at q
  cases hf : fb env S with
  | nx env' S' => rw [hf] at q; exact q
  | rt d S' => rw [hf] at q; exact q
  | bk env' S' => rw [hf] at q; exact q
  | ct env' S' => rw [hf] at q; exact q
  | bot => rw [hf] at q; exact q
  | exc c p env' S' =>
    rw [hf] at q
    dsimp only at q
    intro cls dx σ' W' R' s' hxa
    obtain ⟨C1, dd, fs1, v, h1, rfl, rfl, h4, h5, h6, h7, h8, h9⟩ := id hxa
    cases hl : tbl.lookup c with
    | none => rw [hl] at q; exact q.elim
    | some b =>
      rw [hl] at q
      obtain ⟨C2, hc2, hm2⟩ := htb c b hl
      rw [h1] at hc2
      cases hc2
      refine ⟨b, by rw [C.K]; exact hm2, fun hbt a na => ?_, fun hbf => ?_⟩
      · subst hbt
        dsimp only at q
        obtain ⟨R2, s2⟩ := R'.freezeX h4 h5 h6
        have r8 := Rep.stepF h8 s2
        have R3 := R2.catch (a := a) (i := i) hx h1 upd_same h7 r8 h9
        refine ⟨⟨upd W'.F dd (.xd fs1), W'.H, W'.ρ, W'.l⟩, _, _, rfl, R3, ?_⟩
        cases hfs : fs (env'.set i (.err c p)) S' with
        | rt d S2 =>
          rw [hfs] at q
          exact fun v3 σ3 W3 env3 R4 s3 r3 => q v3 σ3 W3 _ R4.uncatch ((s'.trans s2).trans s3) r3
        | nx _ _ => rw [hfs] at q; exact q.elim
        | bk _ _ => rw [hfs] at q; exact q.elim
        | ct _ _ => rw [hfs] at q; exact q.elim
        | exc _ _ _ _ => rw [hfs] at q; exact q.elim
        | bot => rw [hfs] at q; exact q.elim
      · subst hbf
        exact q _ _ _ _ R' s' hxa
end
end Ev

/-! Ev22: what is asked of a caught exception. -/
namespace Ev
open PySem L2
/-- what is asked of the error class named c -/
structure ErF (B : Base) (c : Str) : Prop where
  ex : ∃ C, B.cl c = some C ∧ XfC B.K C ∧ PySem.W.findIn B.K (.ref C) "place" = some none ∧ PySem.W.findIn B.K (.ref C) "name" = some none
section
variable {B : Base} {G : Gc} {e : En} {K : PySem.W.Frag} {cl : Str → Option Addr} {W W1 : Wd} {σ : L2.St} {env : List Slot} {S S1 : List Cell}
def eErrP (i : Nat) (cs : List Str) : EF := fun env S => match env[i]? with
  | some (.err c p) => if c ∈ cs then .val (.dat p) S else .bot
  | _ => .bot
def eErrN (i : Nat) (cs : List Str) : EF := fun env S => match env[i]? with
  | some (.err c _) => if c ∈ cs ∧ strOk c.cps.toList = true then .val (.dat (.str c.cps.toList)) S else .bot
  | _ => .bot
theorem err_fld {X : Cx} {wx : WX} {x f : Str} {i : Nat} {p1 pos : Pos} (C' : Cxt B.P B.w B.K B.mg B.base G e X wx) (ht : G.top = true) (hN : G.N[i]? = some x) (hv : Vis G.sc x)
    (hd : (x == ("__debug__" : Str)) = false) (hcd : (x == ("__classdict__" : Str)) = false) {pins : List (Addr × Obj)} {s : Shared} {H : Hp} {Q : VK} (I : Inv X pins σ H s)
    {a C dd : Addr} {fs : List (Str × V)} {v : V} (h1 : σ[i]? = some (some (.ref a))) (h2 : e.x a = some (C, dd)) (hF : H dd = some (.xd fs)) (T : XfC B.K C) (hno : PySem.W.findIn B.K (.ref C) f = some none) (hl : fs.lookup f = some v) (q : Q v H) :
    wpAny (model X.prog X.w) X.A (eval (.Attribute (.Name x p1) f pos) X.env) (EP X pins σ Q) X.xe s := by
  have e3 := C'.K
  rw [← e3] at T hno
  obtain ⟨oe, hm, hz, vs, hd'⟩ := C'.xs ht a C dd h2
  refine attr_of (plName.ab f X.env) (thn ((pe_var (i := i) (x := x) (by rw [C'.N]; exact hN) (by rw [C'.sc]; exact hv) hd hcd).run pins s σ H (fun x H1 => x = .ref a ∧ H1 = H) I ⟨_, h1, rfl, rfl⟩) fun u s1 hh => ?_)
  obtain ⟨x', H1, I1, rx, rfl, rfl⟩ := hh
  obtain rfl : u = Value.ref a := rx
  obtain ⟨ha, _⟩ := I1.pin (a, oe) (List.mem_append_left _ hm)
  have hx : ObjOk X.prog X.w H1 s1.heap dd (.xd fs) := I1.hok dd _ hF
  obtain ⟨mA, hns, hr⟩ := hx
  obtain ⟨od, ho, hlk⟩ := lookIn_ns hns
  obtain ⟨u, hu, ru⟩ := RelO.some_of (v := v) (o := mA f) (by rw [← hl]; exact hr f)
  have J : PySem.W.InstAt s1.heap a oe C (some od) := ⟨ha, hz.1, by unfold PySem.W.notCls; rw [hd'] <;> rfl, by rw [hz.2]; exact ho⟩
  exact HandSPX.exc_get I1.kIn J T.ga T.gg T.exC (PySem.W.findObj_own T.hdC hno rfl (by rw [hlk, hu])) (handed_of ru) ⟨v, H1, I1.tok _, ru, q⟩
theorem se_errP (i : Nat) (cs : List Str) {x : Str} {p1 pos : Pos} (hc : ∀ c ∈ cs, ErF B c) (hN : G.N[i]? = some x := by rfl) (hv : Vis G.sc x := by first | exact Or.inl rfl | exact Or.inr (Or.inl rfl) | exact Or.inr (Or.inr rfl))
    (ht : G.top = true := by rfl) (hd : (x == ("__debug__" : Str)) = false := by decide +kernel) (hcd : (x == ("__classdict__" : Str)) = false := by decide +kernel) : SE B G e (.Attribute (.Name x p1) "place" pos) (eErrP i cs) := by
  refine ⟨fun X wx C' => ⟨fun pins s σ H Q I ⟨W, env, S, hH, R, q⟩ => ?_⟩, plAttr⟩
  subst hH
  unfold eErrP at q
  cases he : env[i]? with
  | none => rw [he] at q; exact q.elim
  | some sl =>
    rw [he] at q
    cases sl with
    | no => exact q.elim
    | val d => exact q.elim
    | loc c => exact q.elim
    | err c p =>
      dsimp only at q
      by_cases hm : c ∈ cs
      · rw [if_pos hm] at q
        obtain ⟨a, C, dd, fs, v, h1, h2, h3, h4, h5, h6, h7⟩ := R.err i c p he
        obtain ⟨C2, g1, g2, g3, g4⟩ := (hc c hm).ex
        rw [h3] at g1; cases g1
        exact err_fld C' ht hN hv hd hcd I h1 h2 (R.sub _ _ h4) g2 g3 h5 (q v W R .refl h6)
      · rw [if_neg hm] at q; exact q.elim
theorem se_errN (i : Nat) (cs : List Str) {x : Str} {p1 pos : Pos} (hc : ∀ c ∈ cs, ErF B c) (hN : G.N[i]? = some x := by rfl) (hv : Vis G.sc x := by first | exact Or.inl rfl | exact Or.inr (Or.inl rfl) | exact Or.inr (Or.inr rfl))
    (ht : G.top = true := by rfl) (hd : (x == ("__debug__" : Str)) = false := by decide +kernel) (hcd : (x == ("__classdict__" : Str)) = false := by decide +kernel) : SE B G e (.Attribute (.Name x p1) "name" pos) (eErrN i cs) := by
  refine ⟨fun X wx C' => ⟨fun pins s σ H Q I ⟨W, env, S, hH, R, q⟩ => ?_⟩, plAttr⟩
  subst hH
  unfold eErrN at q
  cases he : env[i]? with
  | none => rw [he] at q; exact q.elim
  | some sl =>
    rw [he] at q
    cases sl with
    | no => exact q.elim
    | val d => exact q.elim
    | loc c => exact q.elim
    | err c p =>
      dsimp only at q
      by_cases hm : c ∈ cs ∧ strOk c.cps.toList = true
      · rw [if_pos hm] at q
        obtain ⟨a, C, dd, fs, v, h1, h2, h3, h4, h5, h6, h7⟩ := R.err i c p he
        obtain ⟨C2, g1, g2, g3, g4⟩ := (hc c hm.1).ex
        rw [h3] at g1; cases g1
        exact err_fld C' ht hN hv hd hcd I h1 h2 (R.sub _ _ h4) g2 g4 h7 (q (.str c) W R .refl ⟨by cases c; simp, hm.2⟩)
      · rw [if_neg hm] at q; exact q.elim
/-- the classes of which isinstance is asked -/
structure IsX (B : Base) (x : Str) (tbl : List (Str × Bool)) : Prop where
  ex : ∃ Cx, B.mg x = some (.ref Cx) ∧ ∀ c b, tbl.lookup c = some b → ∃ C gt, B.cl c = some C ∧ PySem.W.kitOne B.K (.ref C) (.ref Cx) = some b ∧ (PySem.W.clsIn B.K C).isSome = true ∧
    PySem.W.findIn B.K (.ref C) "__getattribute__" = some (some (.builtin "BaseException.__getattribute__")) ∧ PySem.W.findIn B.K (.ref C) "__getattr__" = some gt ∧ PySem.W.subIn B.K (.ref C) (.type "BaseException") = some true ∧
    PySem.W.findIn B.K (.ref C) "__class__" = some (some (.builtin "object.__class__")) ∧ PySem.W.specialIn B.K (.builtin "object.__class__") "__get__" = some (some (.builtin "getset_descriptor.__get__")) ∧
    PySem.W.takesIn B.K (.builtin "object.__class__") = some true ∧ PySem.W.mroIn B.K C (.type "object") = some true
def eIsErr (i : Nat) (tbl : List (Str × Bool)) : EF := fun env S => match env[i]? with
  | some (.err c _) => (match tbl.lookup c with
    | some b => .val (.dat (.bl b)) S
    | none => .bot)
  | _ => .bot
def rIsX (a dd : Addr) (fs : List (Str × V)) (cx : Value) (b : Bool) : List V → Hp → VK → Prop := fun xs H Q => ∃ (c : V), xs = [.ref a, c] ∧ (∀ u, RelV c u → u = cx) ∧ H dd = some (.xd fs) ∧ Q (.bl b) H
theorem se_isErr (i : Nat) (tbl : List (Str × Bool)) {x y : Str} {p p1 p2 pos : Pos} (hm : B.mg "isinstance" = none) (hI : IsX B y tbl) (hN : G.N[i]? = some x := by rfl) (hv : Vis G.sc x := by first | exact Or.inl rfl | exact Or.inr (Or.inl rfl) | exact Or.inr (Or.inr rfl))
    (hg : G.sc.names.lookup ("isinstance" : Str) = some .globalImplicit := by rfl) (hgy : G.sc.names.lookup y = some .globalImplicit := by rfl)
    (ht : G.top = true := by rfl) (hd : (x == ("__debug__" : Str)) = false := by decide +kernel) (hcd : (x == ("__classdict__" : Str)) = false := by decide +kernel) (hdy : (y == ("__debug__" : Str)) = false := by decide +kernel) :
    SE B G e (.Call (.Name "isinstance" p) [.Name x p1, .Name y p2] [] pos) (eIsErr i tbl) := by
  refine ⟨fun X wx C' => ⟨fun pins s σ H Q I ⟨W, env, S, hH, R, q⟩ => ?_⟩, plCall⟩
  subst hH
  unfold eIsErr at q
  cases he : env[i]? with
  | none => rw [he] at q; exact q.elim
  | some sl =>
    rw [he] at q
    cases sl with
    | no => exact q.elim
    | val d => exact q.elim
    | loc c => exact q.elim
    | err c pl =>
      dsimp only at q
      cases hl : tbl.lookup c with
      | none => rw [hl] at q; exact q.elim
      | some b =>
        rw [hl] at q
        obtain ⟨a, C, dd, fs, v, h1, h2, h3, h4, h5, h6, h7⟩ := R.err i c pl he
        obtain ⟨Cx, g1, gt⟩ := hI.ex
        obtain ⟨C2, gtt, g2, g3, g4, g5, g6, g7, g8, g9, g10, g11⟩ := gt c b hl
        rw [h3] at g2; cases g2
        obtain ⟨oe, hmem, hz, vs, hd'⟩ := C'.xs ht a C dd h2
        have e3 := C'.K
        rw [← e3] at g3 g4 g5 g6 g7 g8 g9 g10 g11
        have call : CallR X (.builtin "isinstance") (rIsX a dd fs (.ref Cx) b) := by
          intro pins s σ H xs us Q I r h
          obtain ⟨c, rfl, hcv, hdd, q⟩ := h
          cases r with
          | cons rx rr =>
            cases rr with
            | cons rt rr =>
              cases rr
              cases rx
              have ec := hcv _ rt
              subst ec
              obtain ⟨hget, _⟩ := I.pin (a, oe) (List.mem_append_left _ hmem)
              have J : ∃ od, PySem.W.InstAt s.heap a oe C (some od) := by
                have hx : ObjOk X.prog X.w H s.heap dd (.xd fs) := I.hok dd _ hdd
                obtain ⟨mA, hns, hr⟩ := hx
                obtain ⟨od, ho, hlk⟩ := lookIn_ns hns
                exact ⟨od, hget, hz.1, by unfold PySem.W.notCls; rw [hd'] <;> rfl, by rw [hz.2]; exact ho⟩
              obtain ⟨od, J⟩ := J
              exact PySem.W.kia_one (PySem.W.kitx_exc g4 g5 g6 g7 g8 g9 g10 g11) I.kIn J g3 (fun z => nomatch z) fun tk => ⟨.bl b, H, I.kept (t' := tk) fun _ _ z => z, rfl, q⟩
        refine (pe_callB call (C'.gl hg) (by rw [C'.mg]; exact hm) (by decide +kernel) (pa_cons (pe_var (i := i) (x := x) (by rw [C'.N]; exact hN) (by rw [C'.sc]; exact hv) hd hcd) (pa_cons (pe_glob (v := .ref Cx) (u := .ref Cx) (C'.gl hgy) (by rw [C'.mg]; exact g1) rfl hdy) pa_nil))).run pins s σ W.H Q I ?_
        exact ⟨.ref a, h1, .ref Cx, rfl, fun u r => r, R.sub _ _ h4, q (.bl b) W R .refl rfl⟩
end
end Ev

/-! Ev23: except without a name; what the printed walks lean on for own errors. -/
namespace Ev
open PySem L2
section
variable {B : Base} {G : Gc} {e : En} {K : PySem.W.Frag} {cl : Str → Option Addr} {W W1 : Wd} {σ : L2.St} {env : List Slot} {S S1 : List Cell}
theorem Cxt.suiteO {X : Cx} {wx : WX} {a : Addr} {oe : Obj} {pn : List (Addr × Obj)} (C : Cxt B.P B.w B.K B.mg B.base G e X wx) (hx : ∀ a, e.x a = none) :
    Cxt B.P B.w B.K B.mg B.base (Gc.suite G) e (X.suite a ((a, oe) :: pn)) (fun _ _ _ _ => False) :=
  ⟨C.prog, C.w, C.K, C.mg, C.base, C.N, C.sc, C.nd, C.un, fun h => absurd h Bool.false_ne_true, fun h => absurd h Bool.false_ne_true, takes0, C.fn, PassesOwn.never, C.top, fun _ b C' dd h => by rw [hx b] at h; cases h⟩
def noExc : SOut → SOut
  | .exc _ _ _ _ => .bot
  | o => o
def sTryO (tbl : List (Str × Bool)) (fb fs : SF) : SF := fun env S => match fb env S with
  | .exc c p env' S' => (match tbl.lookup c with
    | some true => noExc (fs env' S')
    | some false => .exc c p env' S'
    | none => .bot)
  | o => o
theorem ss_tryO {x : Str} {tbl : List (Str × Bool)} {fb fs : SF} {body suite : List Stmt} {b₀ : Stmt} {np pos pos' : Pos} (hx : ∀ a, e.x a = none) (Hh : Hnd B x tbl) (hb : SB B G e body fb) (hs : SB B (Gc.suite G) e (b₀ :: suite) fs)
    (hg : G.sc.names.lookup x = some .globalImplicit := by rfl) (ht : G.top = true := by rfl) (hdb : (x == ("__debug__" : Str)) = false := by decide +kernel) :
    SS B G e (.Try body [.ExceptHandler (some (.Name x np)) none (b₀ :: suite) pos'] [] [] pos) (sTryO tbl fb fs) := by
  obtain ⟨Cx', hm, htb⟩ := Hh.ex
  refine ⟨fun X wx C => ?_⟩
  refine PS.imp (ps_try_only (tb := fun W => tS B.K B.cl e W fb) (ts := fun a cls d => tS B.K B.cl e (fun _ _ _ _ => False) fs) (C.top ht).1 (C.top ht).2
    (c := .ref Cx') ⟨by show X.env.scope.names.lookup x = _; rw [C.sc]; exact hg, hdb, .inl (by rw [C.mg]; exact hm)⟩ C.takes
    (fun W pn xe tk po => hb.run _ _ (C.tr hx tk po)) (fun a oe cls d pn hz hf => hs.run _ _ (C.suiteO hx))) fun D σ H ⟨W, env, S, hH, R, q⟩ => ⟨W, env, S, hH, R, ?_⟩
  unfold sTryO at q
  cases hf : fb env S with
  | nx env' S' => rw [hf] at q; exact q
  | rt d S' => rw [hf] at q; exact q
  | bk env' S' => rw [hf] at q; exact q
  | ct env' S' => rw [hf] at q; exact q
  | bot => rw [hf] at q; exact q
  | exc c p env' S' =>
    rw [hf] at q
    dsimp only at q
    intro cls dx σ' W' R' s' hxa
    obtain ⟨C1, dd, fs1, v, h1, rfl, rfl, h4, h5, h6, h7, h8, h9⟩ := id hxa
    cases hl : tbl.lookup c with
    | none => rw [hl] at q; exact q.elim
    | some b =>
      rw [hl] at q
      obtain ⟨C2, hc2, hm2⟩ := htb c b hl
      rw [h1] at hc2
      cases hc2
      refine ⟨b, by rw [C.K]; exact hm2, fun hbt a na => ?_, fun hbf => ?_⟩
      · subst hbt
        dsimp only at q
        refine ⟨W', _, _, rfl, R', ?_⟩
        have q2 : postS B.K B.cl e wx W' S' D (noExc (fs env' S')) := postS.shift q s'
        cases hfs : fs env' S' with
        | rt d S2 => rw [hfs] at q2; exact q2
        | nx _ _ => rw [hfs] at q2; exact q2
        | bk _ _ => rw [hfs] at q2; exact q2
        | ct _ _ => rw [hfs] at q2; exact q2
        | exc _ _ _ _ => rw [hfs] at q2; exact q2.elim
        | bot => rw [hfs] at q2; exact q2.elim
      · subst hbf
        exact q _ _ _ _ R' s' hxa
/-- o.f op= e -/
def sFldG (cs : List Str) (f : Str) (g : D → D → Option D) (fo fv : EF) : SF := fun env S => (fo env S).then env fun x S1 => match objAt env S1 x with
  | some (c, ns, ds) => if c ∈ cs then (match lookD f ns ds with
    | some dv => (fv env S1).then env fun y S2 => (match y, plOf x, objAt env S2 x with
      | .dat dy, some p, some (c2, ns2, ds2) => (match g dv dy with
        | some d => if c2 = c ∧ ns2.length < 1000 then .nx (putE env (.obj c2 (putD f d ns2 ds2).1 (putD f d ns2 ds2).2) p) (putS S2 (.obj c2 (putD f d ns2 ds2).1 (putD f d ns2 ds2).2) p) else .bot
        | none => .bot)
      | _, _, _ => .bot)
    | none => .bot) else .bot
  | none => .bot
theorem ss_fldG {o v : Expr} {op : Operator} {g : D → D → Option D} {f : Str} {fv fo : EF} {pos pos' : Pos} (cs : List Str) (hop : ∀ X, IpOk X op g) (ho : SE B G e o fo) (hv : SE B G e v fv) (hc : FldOk B cs f) :
    SS B G e (.AugAssign (.Attribute o f pos') op v pos) (sFldG cs f g fo fv) := by
  refine ⟨fun X wx C => PS.imp (ps_fldaug (rd := rIp B.K g) (ho.run X wx C) (hv.run X wx C) ((hop X).pip B.K)) fun D σ H ⟨W, env, S, hH, R, q⟩ => ⟨W, env, S, hH, R, postS.then q fun x S1 u W1 R1 s1 r1 q1 => ?_⟩⟩
  cases hx : objAt env S1 x with
  | none => rw [hx] at q1; exact q1.elim
  | some t =>
    obtain ⟨c, ns, ds⟩ := t
    rw [hx] at q1
    dsimp only at q1
    by_cases hm : c ∈ cs
    · rw [if_pos hm] at q1
      cases hl : lookD f ns ds with
      | none => rw [hl] at q1; exact q1.elim
      | some dv =>
        rw [hl] at q1
        obtain ⟨p, hp, hce, rfl, Ca, dx, vs, h1, h2, h3, h4⟩ := R1.obj r1 hx
        obtain ⟨C', h5, h6, h7⟩ := hc c hm
        rw [h1] at h5; cases h5
        obtain ⟨v0, h8, h9⟩ := lookD_rep h4 hl
        refine ⟨_, Ca, dx, ns.zip vs, v0, rfl, h2, by rw [C.K]; exact h6, by rw [C.K]; exact h7, h8, W1, env, S1, rfl, R1, postS.then q1 fun y S2 w W2 R2 s2 r2 q2 => ?_⟩
        cases y with
        | loc i => exact q2.elim
        | dat dy =>
          rw [hp] at q2
          cases hx2 : objAt env S2 x with
          | none => rw [hx2] at q2; exact q2.elim
          | some t2 =>
            obtain ⟨c2, ns2, ds2⟩ := t2
            rw [hx2] at q2
            dsimp only at q2
            cases hg : g dv dy with
            | none => rw [hg] at q2; exact q2.elim
            | some d =>
              rw [hg] at q2
              dsimp only at q2
              by_cases hk : c2 = c ∧ ns2.length < 1000
              · rw [if_pos hk] at q2
                obtain ⟨rfl, hlen⟩ := hk
                refine ⟨W2.F, W2.ρ, S2.length, dv, dy, d, Rep.step h9 s2, r2, hg, fun z rz => ?_⟩
                obtain ⟨p2, hp2, hce2, e2, Cb, dx2, vs2, g1, g2, g3, g4⟩ := R2.obj (RepX.step r1 s2) hx2
                rw [hp] at hp2; cases hp2
                rw [h1] at g1; cases g1
                have ea : plAddr W2 p = plAddr W1 p := plAddr_step r1 hp s2
                obtain ⟨vs', k1, k2, k3⟩ := putD_rep (f := f) rz g3 g4
                refine ⟨dx2, ns2.zip vs2, by rw [← ea]; exact g2, by rw [List.length_zip]; omega, ?_⟩
                obtain ⟨R3, hl3⟩ := R2.write (c' := .obj c2 (putD f d ns2 ds2).1 (putD f d ns2 ds2).2) (o := .ins Ca dx2 (putF f z (ns2.zip vs2))) hce2 ⟨Ca, dx2, vs', h1, by rw [upd_same, k1], k2, k3⟩
                rw [← ea]
                exact q2 σ _ R3 ⟨Same.refl _, fun _ _ => rfl, by rw [hl3]; exact Nat.le_refl _, R2.wfz hce2⟩
              · rw [if_neg hk] at q2; exact q2.elim
    · rw [if_neg hm] at q1; exact q1.elim
end
/-! ### for the ends -/
theorem sup_free {sc : Scope} (h : (sc.names.all fun y => decide (y.2 = .free → y.1 = ("__class__" : Str))) = true) (x : Str) (hx : sc.names.lookup x = some .free) : x = "__class__" := by
  have := List.all_eq_true.mp h _ (PySem.mem_of_lookup hx)
  exact of_decide_eq_true this rfl
theorem cls_of {K : PySem.W.Frag} {nm q : Str} {C N : Addr} {bs bm : List Value} {hdct : Bool} {sn : List Str} {sub : List Value} {ab : Bool} {col : Option Bool} {dd : Option Addr} {k0 k1 k2 k3 k5 : Option Value} {newId : String}
    (hC : K.lookup C = some (excClassObj nm q C N bs bm hdct sn sub ab col dd k0 k1 k2 k3 k5 newId)) : ∃ cd, PySem.W.clsIn K C = some cd := by
  unfold PySem.W.clsIn
  rw [hC]
  exact ⟨_, rfl⟩
theorem cls_some {K : PySem.W.Frag} {nm q : Str} {C N : Addr} {bs bm : List Value} {hdct : Bool} {sn : List Str} {sub : List Value} {ab : Bool} {col : Option Bool} {dd : Option Addr} {k0 k1 k2 k3 k5 : Option Value} {newId : String}
    (hC : K.lookup C = some (excClassObj nm q C N bs bm hdct sn sub ab col dd k0 k1 k2 k3 k5 newId)) : (PySem.W.clsIn K C).isSome = true := by
  obtain ⟨cd, h⟩ := cls_of hC
  rw [h]; rfl
end Ev

/-! Ev24: list(range(..)). -/
namespace Ev
open PySem L2
def isStarred : Expr → Bool
  | .Starred .. => true
  | _ => false
theorem swap3 {env : PySem.Env} {x y z : Str} {px py pz pt pt2 : Pos} {a b c : Expr} {kt k2 : Nat} (h : env.blockKind = .function) (k1 : env.kindOf x = some .local) (k2' : env.kindOf y = some .local) (k3 : env.kindOf z = some .local)
    (hs : [a, b, c].any isStarred = false) (hf : [a, b, c].all (foldedForSure 8) = false) (hc : [a, b, c].all (constantsAlone 8) = false) (l1 : (py.line == px.line) = true) (l2 : (pz.line == px.line) = true) (hn : [x, y, z].eraseDups = [x, y, z]) :
    swappedStores [.Tuple [.Name x px, .Name y py, .Name z pz] kt pt] (.Tuple [a, b, c] k2 pt2) env = pure (some [x, y, z]) := by
  have l1' := eq_of_beq l1
  have l2' := eq_of_beq l2
  unfold swappedStores
  simp only [List.filterMap_cons, List.filterMap_nil, Expr.pos, List.head?_cons, Option.map_some, Option.getD_some, k1, k2', k3, l1', l2', beq_self_eq_true, Bool.and_self, if_true, hn, hf, hc, h, pure_bind, List.length_cons, List.length_nil, bne_self_eq_false, Bool.or_false, Bool.false_eq_true, if_false]
  exact (if_neg (by decide)).trans (if_neg fun z => Bool.noConfusion (hs.symm.trans z))
theorem swap2 {env : PySem.Env} {x y : Str} {px py pt pt2 : Pos} {a b : Expr} {kt k2 : Nat} (h : env.blockKind = .function) (k1 : env.kindOf x = some .local) (k2' : env.kindOf y = some .local)
    (hs : [a, b].any isStarred = false) (hf : [a, b].all (foldedForSure 8) = false) (hc : [a, b].all (constantsAlone 8) = false) (l1 : (py.line == px.line) = true) (hn : [x, y].eraseDups = [x, y]) :
    swappedStores [.Tuple [.Name x px, .Name y py] kt pt] (.Tuple [a, b] k2 pt2) env = pure (some [x, y]) := by
  have l1' := eq_of_beq l1
  unfold swappedStores
  simp only [List.filterMap_cons, List.filterMap_nil, Expr.pos, List.head?_cons, Option.map_some, Option.getD_some, k1, k2', l1', beq_self_eq_true, Bool.and_self, if_true, hn, hf, hc, h, pure_bind, List.length_cons, List.length_nil, bne_self_eq_false, Bool.or_false, Bool.false_eq_true, if_false]
  exact (if_neg (by decide)).trans (if_neg fun z => Bool.noConfusion (hs.symm.trans z))
section
variable {B : Base} {G : Gc} {e : En} {K : PySem.W.Frag} {cl : Str → Option Addr} {W W1 : Wd} {σ : L2.St} {env : List Slot} {S S1 : List Cell}
def rgD (a b : Int) : List D := (List.range (b - a).toNat).map fun i => D.int (a + (i : Nat))
def rgOk (a b : Int) : Bool := rOk a && rOk b && decide ((b - a).toNat ≤ 2 ^ 24)
theorem rgOk_inv {a b : Int} (h : rgOk a b = true) : RgOk a b := by
  simp only [rgOk, Bool.and_eq_true, decide_eq_true_eq] at h
  exact ⟨(rOk_inv h.1.1).1, (rOk_inv h.1.1).2, (rOk_inv h.1.2).1, (rOk_inv h.1.2).2, h.2⟩
theorem rgD_rep {F : Hp} {ρ : Nat → Addr} {m : Nat} (a b : Int) : RepL K F ρ m (rgD a b) (rgV a b) := by
  unfold rgD rgV
  generalize List.range (b - a).toNat = l
  induction l with
  | nil => exact RepL.nil
  | cons x l ih => exact RepL.cons rfl ih
/-- -a -/
def eNeg (f : EF) : EF := fun env S => (f env S).bind fun x S1 => match x with
  | .dat (.int i) => .val (.dat (.int (-i))) S1
  | _ => .bot
theorem se_neg {a : Expr} {f : EF} {pos : Pos} (ha : SE B G e a f) : SE B G e (.UnaryOp .USub a pos) (eNeg f) := by
  refine ⟨fun X wx C => PE.imp (pe_un un_neg (ha.run X wx C)) fun σ H Q ⟨W, env, S, hH, R, q⟩ => ⟨W, env, S, hH, R, postG.seq q fun x S1 v W1 R1 s1 r1 q1 => ?_⟩, plUn⟩
  cases x with
  | loc i => exact q1.elim
  | dat d =>
    cases d with
    | int i => exact ⟨i, r1, q1 (.int (-i)) W1 R1 .refl rfl⟩
    | _ => exact q1.elim
/-- a range's two ends -/
abbrev RF := List Slot → List Cell → Out (Int × Int)
abbrev postR (K : PySem.W.Frag) := postG (fun _ _ (b b' : Int × Int) => b' = b) K
def tR (K : PySem.W.Frag) (cl : Str → Option Addr) (e : En) (wx : WX) (f : RF) : L2.St → Hp → (Int → Int → Hp → Prop) → Prop := fun σ H Q => ∃ W env S, W.H = H ∧ FRel K cl e W σ env S ∧ postR K cl e wx W σ env S (fun p H => Q p.1 p.2 H) (f env S)
structure SRg (B : Base) (G : Gc) (e : En) (ex : Expr) (f : RF) : Prop where
  run : ∀ X wx, Cxt B.P B.w B.K B.mg B.base G e X wx → PRg X ex (tR B.K B.cl e wx f)
  ns : ∀ env, starEach [ex] env = (false, eval ex env) :: starEach [] env
theorem PRg.imp {X : Cx} {ex : Expr} {t u : L2.St → Hp → (Int → Int → Hp → Prop) → Prop} (h : PRg X ex t) (i : ∀ σ H Q, u σ H Q → t σ H Q) : PRg X ex u := fun pins s σ H Q I q => h pins s σ H Q I (i _ _ _ q)
def rRng1 (f : EF) : RF := fun env S => (f env S).bind fun x S1 => match x with
  | .dat (.int i) => .val (0, i) S1
  | _ => .bot
def rRng2 (f g : EF) : RF := fun env S => (f env S).bind fun x S1 => (g env S1).bind fun y S2 => match x, y with
  | .dat (.int i), .dat (.int j) => .val (i, j) S2
  | _, _ => .bot
theorem sr_1 {a : Expr} {f : EF} {p pos : Pos} (ha : SE B G e a f) (hr : B.mg "range" = none) (hg : G.sc.names.lookup ("range" : Str) = some NameKind.globalImplicit := by rfl) : SRg B G e (.Call (.Name "range" p) [a] [] pos) (rRng1 f) := by
  refine ⟨fun X wx C => PRg.imp (prg_1 (C.gl hg) (by rw [C.mg]; exact hr) (ha.run X wx C) (by rw [ha.pl.ns])) fun σ H Q ⟨W, env, S, hH, R, q⟩ => ⟨W, env, S, hH, R, postG.seq q fun x S1 v W1 R1 s1 r1 q1 => ?_⟩, fun env => plCall.ns [] env⟩
  cases x with
  | loc i => exact q1.elim
  | dat d =>
    cases d with
    | int i => exact ⟨i, r1, q1 (0, i) W1 R1 .refl rfl⟩
    | _ => exact q1.elim
theorem sr_2 {a b : Expr} {f g : EF} {p pos : Pos} (ha : SE B G e a f) (hb : SE B G e b g) (hr : B.mg "range" = none) (hg : G.sc.names.lookup ("range" : Str) = some NameKind.globalImplicit := by rfl) : SRg B G e (.Call (.Name "range" p) [a, b] [] pos) (rRng2 f g) := by
  refine ⟨fun X wx C => PRg.imp (prg_2 (C.gl hg) (by rw [C.mg]; exact hr) (ha.run X wx C) (hb.run X wx C) (by rw [ha.pl.ns]) (by rw [hb.pl.ns]) (by rw [hb.pl.ns]; rfl)) fun σ H Q ⟨W, env, S, hH, R, q⟩ => ⟨W, env, S, hH, R, postG.seq q fun x S1 v W1 R1 s1 r1 q1 => ⟨W1, env, S1, rfl, R1, postG.seq q1 fun y S2 u W2 R2 s2 r2 q2 => ?_⟩⟩, fun env => plCall.ns [] env⟩
  cases x with
  | loc i => exact q2.elim
  | dat d =>
    cases d with
    | int i =>
      cases y with
      | loc i => exact q2.elim
      | dat d =>
        cases d with
        | int j => exact ⟨i, j, r1, r2, q2 (i, j) W2 R2 .refl rfl⟩
        | _ => exact q2.elim
    | _ => exact q2.elim
def nLstR (f : RF) : NF := fun env S => (f env S).bind fun p S1 => if rgOk p.1 p.2 = true then .val (.lst (rgD p.1 p.2)) S1 else .bot
theorem sn_listR {a : Expr} {f : RF} {p pos : Pos} (hm : B.mg "list" = none) (ha : SRg B G e a f) (hc : G.calm = true := by rfl) (hg : G.sc.names.lookup ("list" : Str) = some NameKind.globalImplicit := by rfl) : SN B G e (.Call (.Name "list" p) [a] [] pos) (nLstR f) := by
  refine ⟨fun X wx C => PE.imp (pe_listRg (C.calm hc) (C.gl hg) (by rw [C.mg]; exact hm) (ha.run X wx C) (ha.ns X.env)) fun σ H Q ⟨W, env, S, hH, R, q⟩ => ⟨W, env, S, hH, R, postN.seq q fun x S1 v W1 R1 s1 r1 q1 => ?_⟩, plCall⟩
  subst r1
  by_cases hk : rgOk v.1 v.2 = true
  · rw [if_pos hk] at q1
    refine ⟨rgOk_inv hk, fun p hp => ?_⟩
    obtain ⟨R', st⟩ := R1.lay hp (.lst (rgV v.1 v.2))
    exact q1 p _ R' st hp (R1.newAt hp ⟨_, upd_same, rgD_rep _ _⟩)
  · rw [if_neg hk] at q1; exact q1.elim
def eTupR (f : RF) : EF := fun env S => (f env S).bind fun p S1 => if rgOk p.1 p.2 = true then .val (.dat (.tup (rgD p.1 p.2))) S1 else .bot
theorem se_tupR {a : Expr} {f : RF} {p pos : Pos} (hm : B.mg "tuple" = none) (ha : SRg B G e a f) (hc : G.calm = true := by rfl) (hg : G.sc.names.lookup ("tuple" : Str) = some NameKind.globalImplicit := by rfl) : SE B G e (.Call (.Name "tuple" p) [a] [] pos) (eTupR f) := by
  refine ⟨fun X wx C => PE.imp (pe_tupRg (C.calm hc) (C.gl hg) (by rw [C.mg]; exact hm) (ha.run X wx C) (ha.ns X.env)) fun σ H Q ⟨W, env, S, hH, R, q⟩ => ⟨W, env, S, hH, R, postG.seq q fun x S1 v W1 R1 s1 r1 q1 => ?_⟩, plCall⟩
  subst r1
  by_cases hk : rgOk v.1 v.2 = true
  · rw [if_pos hk] at q1
    refine ⟨rgOk_inv hk, fun p hp => ?_⟩
    obtain ⟨R', st⟩ := R1.alloc hp (.tup (rgV v.1 v.2))
    exact q1 (.ref p) _ R' st (rep_tup hp R1 (rgD_rep _ _))
  · rw [if_neg hk] at q1; exact q1.elim
end
end Ev

/-! Wp2: backwards through new things, objects, dicts. -/
namespace Ev
open PySem L2
def wO3 {α β γ : Type} (o : Option (α × β × γ)) (Q : α → β → γ → Prop) : Prop := match o with
  | some (a, b, c) => Q a b c
  | none => False
def wO2 {α β : Type} (o : Option (α × β)) (Q : α → β → Prop) : Prop := match o with
  | some (a, b) => Q a b
  | none => False
section
variable {X : Str → D → List Cell → Prop} {env : List Slot} {S : List Cell} {P : Po}
theorem wE_sha {f : NF} {Q : XD → List Cell → Prop} (h : wV (f env S) X fun c S1 => Q (.dat (.own S1.length)) (S1 ++ [c])) : wV (eSha f env S) X Q := wV_bind h
theorem wN_dct {Q : Cell → List Cell → Prop} (h : Q (.dct [] []) S) : wV (nDct env S) X Q := h
theorem wN_lst {f : AF} {Q : Cell → List Cell → Prop} (h : wV (f env S) X fun xs S1 => wO (datL xs) fun ds => ds.length ≤ sizeLine ∧ Q (.lst ds) S1) : wV (nLst f env S) X Q :=
  wV_bind (wV_imp h fun xs S1 q => by
    cases hd : datL xs with
    | none => rw [hd] at q; exact q.elim
    | some ds => rw [hd] at q; show wV (if ds.length ≤ sizeLine then _ else _) X Q; rw [if_pos q.1]; exact q.2)
theorem wE_frz {f : NF} {Q : XD → List Cell → Prop} (h : wV (f env S) X fun c S1 => match c with | .lst ds => Q (.dat (.lst ds)) S1 | _ => False) : wV (eFrz f env S) X Q :=
  wV_bind (wV_imp h fun c S1 q => by cases c <;> exact q)
theorem wN_lc {wf : WF} {g : GF} {t : TF} {f : EF} {vs : List Nat} {Q : Cell → List Cell → Prop} (h : wV (wf env S) X fun w S1 => wO (wkItems w) fun ds => wV (lcL g t f (wipeE env vs) ds S1 []) X fun acc S2 => Q (.lst acc) S2) : wV (nLc wf g t f vs env S) X Q := by
  cases hw : wf env S with
  | bot => rw [hw] at h; exact h.elim
  | exc c p S1 => rw [hw] at h; unfold nLc; rw [hw]; exact h
  | val w S1 =>
    rw [hw] at h
    have h : wO (wkItems w) _ := h
    cases hi : wkItems w with
    | none => rw [hi] at h; exact h.elim
    | some ds =>
      rw [hi] at h
      rw [nLc_eq hw hi]
      exact wV_bind h
/-- a comprehension, turn by turn, that only reckons -/
theorem w_lcL {g : GF} {t : TF} {f : EF} {ds : List D} {Q : List D → List Cell → Prop} (p : D → Bool) (F : D → D)
    (h : ∀ d ∈ ds, ∃ e1, g d env S = some e1 ∧ t e1 S = .val (p d) S ∧ (p d = true → f e1 S = .val (.dat (F d)) S)) (hl : ds.length ≤ sizeLine) (q : Q ((ds.filter p).map F) S) : wV (lcL g t f env ds S []) X Q := by
  have : lcL g t f env ds S [] = .val ([] ++ (ds.filter p).map F) S := by
    have hx : ∀ d ∈ ds, g d env S = some ((g d env S).getD []) ∧ t ((g d env S).getD []) S = .val (p d) S ∧ (p d = true → f ((g d env S).getD []) S = .val (.dat (F d)) S) := by
      intro d hd
      obtain ⟨e1, h1, h2, h3⟩ := h d hd
      rw [h1]
      exact ⟨rfl, h2, h3⟩
    exact lcL_pure (fun d => (g d env S).getD []) p F ds [] hx (by simpa using hl)
  rw [this]
  exact q
theorem wE_fld {cs : List Str} {f : Str} {fe : EF} {Q : XD → List Cell → Prop} (h : wV (fe env S) X fun x S1 => wO3 (objAt env S1 x) fun c ns ds => c ∈ cs ∧ wO (lookD f ns ds) fun d => Q (.dat d) S1) : wV (eFld cs f fe env S) X Q :=
  wV_bind (wV_imp h fun x S1 q => by
    cases ho : objAt env S1 x with
    | none => rw [ho] at q; exact q.elim
    | some t =>
      obtain ⟨c, ns, ds⟩ := t
      rw [ho] at q
      obtain ⟨q1, q2⟩ := q
      dsimp only
      rw [if_pos q1]
      cases hl : lookD f ns ds with
      | none => rw [hl] at q2; exact q2.elim
      | some d => rw [hl] at q2; exact q2)
theorem o_obj {n : Nat} {c : Str} {ns : List Str} {ds : List D} {Q : Str → List Str → List D → Prop} (hS : S[n]? = some (.obj c ns ds)) (h : Q c ns ds) : wO3 (objAt env S (.dat (.own n))) Q := by
  unfold objAt plOf cellOf
  dsimp only
  rw [hS]
  exact h
theorem o_look0 {f : Str} {ns : List Str} {d : D} {ds : List D} {Q : D → Prop} (h : Q d) : wO (lookD f (f :: ns) (d :: ds)) Q := by
  unfold lookD
  rw [beq_self_eq_true]
  exact h
theorem o_look1 {f n : Str} {ns : List Str} {d : D} {ds : List D} {Q : D → Prop} (hn : (f == n) = false) (h : wO (lookD f ns ds) Q) : wO (lookD f (n :: ns) (d :: ds)) Q := by
  unfold lookD
  rw [hn]
  exact h
theorem wS_fld {cs : List Str} {f : Str} {fv fo : EF} (h : wV (fv env S) (fun c p S => P.ex c p env S) fun y S1 => wV (fo env S1) (fun c p S => P.ex c p env S) fun x S2 => match y, x with
    | .dat d, .dat (.own n) => wO3 (objAt env S2 (.dat (.own n))) fun c ns ds => (c ∈ cs ∧ ns.length < 1000) ∧ P.nx env (S2.set n (.obj c (putD f d ns ds).1 (putD f d ns ds).2))
    | _, _ => False) : wS (sFldS cs f fv fo env S) P :=
  wS_then (wV_imp h fun y S1 q => wS_then (wV_imp q fun x S2 q => by
    cases y with
    | loc i => exact q.elim
    | dat d =>
      cases x with
      | loc i => exact q.elim
      | dat dx =>
        cases dx with
        | own n =>
          have q : wO3 (objAt env S2 (.dat (.own n))) _ := q
          cases ho : objAt env S2 (.dat (.own n)) with
          | none => rw [ho] at q; exact q.elim
          | some t =>
            obtain ⟨c, ns, ds⟩ := t
            rw [ho] at q
            obtain ⟨q1, q2⟩ := q
            simp only [plOf, ho]
            rw [if_pos q1]
            exact q2
        | _ => exact q.elim))
theorem wE_meth {c m : Str} {n : Nat} {C : CF} {fo : EF} {fa : AF} {Q : XD → List Cell → Prop} (h : wV (fo env S) X fun x S1 => match x with
    | .dat d => wO3 (objAt env S1 (.dat d)) fun c' ns _ => (c' = c ∧ m ∉ ns) ∧ wV (fa env S1) X fun xs S2 => wO (datL xs) fun es => (d :: es).length = n ∧ wV (C (d :: es) S2) X fun r S3 => Q (.dat r) S3
    | .loc _ => False) : wV (eMeth c m n C fo fa env S) X Q :=
  wV_bind (wV_imp h fun x S1 q => by
    cases x with
    | loc i => exact q.elim
    | dat d =>
      have q : wO3 (objAt env S1 (.dat d)) _ := q
      cases ho : objAt env S1 (.dat d) with
      | none => rw [ho] at q; exact q.elim
      | some t =>
        obtain ⟨c', ns, ds⟩ := t
        rw [ho] at q
        obtain ⟨q1, q2⟩ := q
        dsimp only
        rw [if_pos q1]
        refine wV_bind (wV_imp q2 fun xs S2 q3 => ?_)
        cases hd : datL xs with
        | none => rw [hd] at q3; exact q3.elim
        | some es =>
          rw [hd] at q3
          obtain ⟨q4, q5⟩ := q3
          dsimp only
          rw [if_pos q4]
          cases hC : C (d :: es) S2 with
          | bot => rw [hC] at q5; exact q5.elim
          | exc c p S3 => rw [hC] at q5; exact q5
          | val r S3 => rw [hC] at q5; exact q5)
theorem wE_make {c : Str} {n : Nat} {C : CF} {fa : AF} {Q : XD → List Cell → Prop} (h : wV (fa env S) X fun xs S1 => wO (datL xs) fun es => (D.own S1.length :: es).length = n ∧ wV (C (.own S1.length :: es) (S1 ++ [.obj c [] []])) X fun r S3 => r = .non ∧ S1.length < S3.length ∧ Q (.dat (.own S1.length)) S3) : wV (eMake c n C fa env S) X Q :=
  wV_bind (wV_imp h fun xs S1 q => by
    cases hd : datL xs with
    | none => rw [hd] at q; exact q.elim
    | some es =>
      rw [hd] at q
      obtain ⟨q1, q2⟩ := q
      dsimp only
      rw [if_pos q1]
      cases hC : C (D.own S1.length :: es) (S1 ++ [.obj c [] []]) with
      | bot => rw [hC] at q2; exact q2.elim
      | exc c p S3 => rw [hC] at q2; exact q2
      | val r S3 =>
        rw [hC] at q2
        obtain ⟨rfl, q3, q4⟩ := q2
        show wV (if isNon .non = true ∧ S1.length < S3.length then _ else _) X Q
        rw [if_pos ⟨rfl, q3⟩]
        exact q4)
theorem dctAt_own {n : Nat} {ks : List Key} {ds : List D} (hS : S[n]? = some (.dct ks ds)) : dctAt env S (.dat (.own n)) = some (ks, ds) := by
  simp only [dctAt, hS]
theorem o_dct {n : Nat} {ks : List Key} {ds : List D} {dk d : D} {k : Key} {Q : D → Prop} (hS : S[n]? = some (.dct ks ds)) (hk : keyOf dk = some k) (hv : valD ks ds k = some d) (h : Q d) : wO (gDix env S (.dat (.own n)) (.dat dk)) Q := by
  unfold gDix
  rw [dctAt_own hS]
  dsimp only
  rw [hk]
  dsimp only
  rw [hv]
  exact h
theorem o_din {n : Nat} {ks : List Key} {ds : List D} {dk : D} {k : Key} {Q : Bool → Prop} (hS : S[n]? = some (.dct ks ds)) (hk : keyOf dk = some k) (h : Q (valD ks ds k).isSome) : wO (cDin env S (.dat dk) (.dat (.own n))) Q := by
  unfold cDin
  rw [dctAt_own hS]
  dsimp only
  rw [hk]
  exact h
theorem wE_dget2 {fo fk fx : EF} {Q : XD → List Cell → Prop} (h : wV (fo env S) X fun x S1 => match x with
    | .dat (.own n) => (dctAt env S1 (.dat (.own n))).isSome = true ∧ wV (fk env S1) X fun y S2 => wV (fx env S2) X fun z S3 => match y, z with
      | .dat dk, .dat dz => wO2 (dctAt env S3 (.dat (.own n))) fun ks ds => wO (keyOf dk) fun k => Q (.dat ((valD ks ds k).getD dz)) S3
      | _, _ => False
    | _ => False) : wV (eDget2 fo fk fx env S) X Q :=
  wV_bind (wV_imp h fun x S1 q => by
    cases x with
    | loc i => exact q.elim
    | dat d =>
      cases d with
      | own n =>
        obtain ⟨q1, q2⟩ := q
        rw [if_pos q1]
        refine wV_bind (wV_imp q2 fun y S2 q3 => wV_bind (wV_imp q3 fun z S3 q4 => ?_))
        cases y with
        | loc i => exact q4.elim
        | dat dk =>
          cases z with
          | loc i => exact q4.elim
          | dat dz =>
            have q4 : wO2 (dctAt env S3 (.dat (.own n))) _ := q4
            cases hd : dctAt env S3 (.dat (.own n)) with
            | none => rw [hd] at q4; exact q4.elim
            | some t =>
              obtain ⟨ks, ds⟩ := t
              rw [hd] at q4
              have q4 : wO (keyOf dk) _ := q4
              dsimp only
              cases hk : keyOf dk with
              | none => rw [hk] at q4; exact q4.elim
              | some k => rw [hk] at q4; exact q4
      | _ => exact q.elim)
theorem o_dctAt {n : Nat} {ks : List Key} {ds : List D} {Q : List Key → List D → Prop} (hS : S[n]? = some (.dct ks ds)) (h : Q ks ds) : wO2 (dctAt env S (.dat (.own n))) Q := by
  rw [dctAt_own hS]
  exact h
theorem dctAt_some {n : Nat} {ks : List Key} {ds : List D} (hS : S[n]? = some (.dct ks ds)) : (dctAt env S (.dat (.own n))).isSome = true := by
  rw [dctAt_own hS]
  rfl
theorem k_str {z : List Nat} {Q : Key → Prop} (h : Q (.inr ⟨z.toArray⟩)) : wO (keyOf (.str z)) Q := h
theorem k_num {i : Int} {Q : Key → Prop} (h : Q (.inl i)) : wO (keyOf (.int i)) Q := h
theorem wS_dput {fv fo fk : EF} (h : wV (fv env S) (fun c p S => P.ex c p env S) fun y S1 => wV (fo env S1) (fun c p S => P.ex c p env S) fun x S2 => wV (fk env S2) (fun c p S => P.ex c p env S) fun z S3 => match y, x, z with
    | .dat d, .dat (.own n), .dat dk => wO2 (dctOf env S3 (.g n)) fun ks ds => wO (keyOf dk) fun k => ks.length < sizeLine ∧ P.nx env (S3.set n (.dct (putKs ks ds k d).1 (putKs ks ds k d).2))
    | _, _, _ => False) : wS (sDput fv fo fk env S) P :=
  wS_then (wV_imp h fun y S1 q => wS_then (wV_imp q fun x S2 q => wS_then (wV_imp q fun z S3 q => by
    cases y with
    | loc i => exact q.elim
    | dat d =>
      cases x with
      | loc i => exact q.elim
      | dat dx =>
        cases dx with
        | own n =>
          cases z with
          | loc i => exact q.elim
          | dat dk =>
            have q : wO2 (dctOf env S3 (.g n)) _ := q
            simp only [plOf]
            unfold dctOf cellOf at q
            unfold dctOf cellOf
            dsimp only at q ⊢
            cases hS : S3[n]? with
            | none => rw [hS] at q; exact q.elim
            | some c =>
              rw [hS] at q
              cases c with
              | dct ks ds =>
                have q : wO (keyOf dk) _ := q
                dsimp only
                cases hk : keyOf dk with
                | none => rw [hk] at q; exact q.elim
                | some k =>
                  rw [hk] at q
                  obtain ⟨q1, q2⟩ := q
                  dsimp only at q1 q2 ⊢
                  rw [if_pos q1]
                  exact q2
              | _ => exact q.elim
        | _ => exact q.elim)))
theorem wS_retG {f : NF} (h : wV (f env S) (fun c p S => P.ex c p env S) fun c S1 => P.rt (.own S1.length) (S1 ++ [c])) : wS (sRetG f env S) P := wS_then h
theorem wS_setG {i : Nat} {f : NF} (h : wV (f env S) (fun c p S => P.ex c p env S) fun c S1 => P.nx (env.set i (.val (.own S1.length))) (S1 ++ [c])) : wS (sSetG i f env S) P := wS_then h
theorem wS_setL {i : Nat} {f : NF} (h : wV (f env S) (fun c p S => P.ex c p env S) fun c S1 => P.nx (env.set i (.loc c)) S1) : wS (sSetL i f env S) P := wS_then h
theorem wS_setN {i : Nat} {f : NF} (h : wV (f env S) (fun c p S => P.ex c p env S) fun c S1 => match c with | .lst ds => P.nx (env.set i (.val (.lst ds))) S1 | _ => False) : wS (sSetN i f env S) P :=
  wS_then (wV_imp h fun c S1 q => by cases c <;> exact q)
theorem wS_app {fo fa : EF} (h : wV (fo env S) (fun c p S => P.ex c p env S) fun x S1 => wO (plOf x) fun p => wO (lstAt env S1 p) fun _ => wV (fa env S1) (fun c p S => P.ex c p env S) fun y S2 => match y with
    | .dat d => wO (lstAt env S2 p) fun ds => ds.length < sizeLine ∧ P.nx (putE env (.lst (ds ++ [d])) p) (putS S2 (.lst (ds ++ [d])) p)
    | .loc _ => False) : wS (sApp fo fa env S) P :=
  wS_then (wV_imp h fun x S1 q => by
    cases hp : plOf x with
    | none => rw [hp] at q; exact q.elim
    | some p =>
      rw [hp] at q
      have q : wO (lstAt env S1 p) _ := q
      dsimp only
      cases hl : lstAt env S1 p with
      | none => rw [hl] at q; exact q.elim
      | some ds0 =>
        rw [hl] at q
        have q : wV (fa env S1) _ _ := q
        refine wS_then (wV_imp q fun y S2 q2 => ?_)
        cases y with
        | loc i => exact q2.elim
        | dat d =>
          have q2 : wO (lstAt env S2 p) _ := q2
          dsimp only
          cases hl2 : lstAt env S2 p with
          | none => rw [hl2] at q2; exact q2.elim
          | some ds =>
            rw [hl2] at q2
            obtain ⟨q3, q4⟩ := q2
            dsimp only
            unfold kApp
            rw [if_pos q3]
            exact q4)
theorem pl_own {n : Nat} {Q : Pl → Prop} (h : Q (.g n)) : wO (plOf (.dat (.own n))) Q := h
theorem pl_loc {n : Nat} {Q : Pl → Prop} (h : Q (.l n)) : wO (plOf (.loc n)) Q := h
theorem l_own {n : Nat} {ds : List D} {Q : List D → Prop} (hS : S[n]? = some (.lst ds)) (h : Q ds) : wO (lstAt env S (.g n)) Q := by
  unfold lstAt cellOf
  dsimp only
  rw [hS]
  exact h
theorem l_loc {n : Nat} {ds : List D} {Q : List D → Prop} (hS : env[n]? = some (.loc (.lst ds))) (h : Q ds) : wO (lstAt env S (.l n)) Q := by
  unfold lstAt cellOf
  dsimp only
  rw [hS]
  exact h
/-! ranges -/
theorem w_rng1 {f : EF} {Q : Wk → List Cell → Prop} (h : wV (f env S) X fun x S1 => match x with | .dat (.int i) => rOk i = true ∧ Q (.rng 0 i.toNat) S1 | _ => False) : wV (wRng1 f env S) X Q :=
  wV_bind (wV_imp h fun x S1 q => by
    cases x with
    | loc i => exact q.elim
    | dat d =>
      cases d with
      | int i => dsimp only; rw [if_pos q.1]; exact q.2
      | _ => exact q.elim)
theorem w_rng2 {f g : EF} {Q : Wk → List Cell → Prop} (h : wV (f env S) X fun x S1 => wV (g env S1) X fun y S2 => match x, y with | .dat (.int i), .dat (.int j) => (rOk i = true ∧ rOk j = true) ∧ Q (.rng i (j - i).toNat) S2 | _, _ => False) : wV (wRng2 f g env S) X Q :=
  wV_bind (wV_imp h fun x S1 q => wV_bind (wV_imp q fun y S2 q => by
    cases x with
    | loc i => exact q.elim
    | dat d =>
      cases y with
      | loc i => cases d <;> exact q.elim
      | dat e =>
        cases d with
        | int i =>
          cases e with
          | int j => dsimp only; rw [if_pos q.1]; exact q.2
          | _ => exact q.elim
        | _ => cases e <;> exact q.elim))
theorem rOk_of {i : Int} (h : -1000000 ≤ i) (h' : i ≤ 1000000000000) : rOk i = true := by
  simp [rOk]; omega
/-- a range's loop by what holds before the i-th turn -/
theorem wS_rngL {g : GF} {b : SF} {lo : Int} {m : Nat} (I : Nat → List Slot → List Cell → Prop)
    (hb : ∀ i env S, i < m → I i env S → wO (g (.int (lo + (i : Int))) env S) fun env1 => wS (b env1 S) ⟨I (i + 1), P.rt, P.nx, I (i + 1), P.ex⟩)
    (he : ∀ env S, I m env S → P.nx env S) (env : List Slot) (S : List Cell) (h : I 0 env S) : wS (forL g b ((List.range m).map fun i : Nat => D.int (lo + (i : Int))) env S) P := by
  have key : ∀ (n k : Nat) env S, k + n = m → I k env S → wS (forL g b ((List.range' k n).map fun i : Nat => D.int (lo + (i : Int))) env S) P := by
    intro n
    induction n with
    | zero =>
      intro k env S hk hI
      exact he _ _ (by have : k = m := by omega
                       rw [← this]; exact hI)
    | succ n ih =>
      intro k env S hk hI
      have q := hb k env S (by omega) hI
      rw [List.range'_succ, List.map_cons]
      unfold forL
      cases hg : g (.int (lo + (k : Int))) env S with
      | none => rw [hg] at q; exact q.elim
      | some env1 =>
        rw [hg] at q
        have q : wS (b env1 S) _ := q
        dsimp only
        cases hb' : b env1 S <;> rw [hb'] at q
        case nx e s => exact ih (k + 1) e s (by omega) q
        case ct e s => exact ih (k + 1) e s (by omega) q
        all_goals exact q
  have := key m 0 env S (by omega) h
  rwa [← List.range_eq_range'] at this
theorem wk_rng {lo : Int} {m : Nat} {Q : List D → Prop} (h : Q ((List.range m).map fun i : Nat => .int (lo + (i : Int)))) : wO (wkItems (.rng lo m)) Q := h
theorem wk_lst {ds : List D} {Q : List D → Prop} (h : Q ds) : wO (wkItems (.sq (.lst ds))) Q := h
theorem wk_tup {ds : List D} {Q : List D → Prop} (h : Q ds) : wO (wkItems (.sq (.tup ds))) Q := h
theorem wk_rol {ds : List D} {Q : List D → Prop} (h : Q ds) : wO (wkItems (.sq (.rol ds))) Q := h
theorem wk_txt {z : List Nat} {Q : List D → Prop} (h : Q (z.map fun c => .str [c])) : wO (wkItems (.txt z)) Q := h
/-! equality of data with itself -/
mutual
theorem eqD_refl : ∀ (n : Nat) (d : D), dep n d = true → eqD d d = true
  | _, .non, _ => rfl
  | _, .bl b, _ => by simp [eqD]
  | _, .int i, _ => by simp [eqD]
  | _, .str x, _ => by simp [eqD]
  | 0, .tup ds, h => by simp [dep] at h
  | 0, .lst ds, h => by simp [dep] at h
  | n + 1, .tup ds, h => by
    unfold dep at h
    unfold eqD
    exact eqL_refl n ds fun d hd => List.all_eq_true.mp h d hd
  | n + 1, .lst ds, h => by
    unfold dep at h
    unfold eqD
    exact eqL_refl n ds fun d hd => List.all_eq_true.mp h d hd
  | 0, .rol ds, h => by simp [dep] at h
  | n + 1, .rol ds, h => by
    unfold dep at h
    unfold eqD
    exact eqL_refl n ds fun d hd => List.all_eq_true.mp h d hd
  | n, .own k, h => by cases n <;> simp [dep] at h
  | n, .dct ks ds, h => by cases n <;> simp [dep] at h
theorem eqL_refl : ∀ (n : Nat) (ds : List D), (∀ d ∈ ds, dep n d = true) → eqL ds ds = true
  | _, [], _ => rfl
  | n, d :: ds, h => by
    unfold eqL
    rw [eqD_refl n d (h d List.mem_cons_self), eqL_refl n ds fun e he => h e (List.mem_cons_of_mem _ he)]
    rfl
end
theorem c_eqSame {x y : XD} {a : D} {QB : Bool → Prop} (hx : datOf env S x = some a) (hy : datOf env S y = some a) (da : dep 32 a = true) (h : QB true) : wO (cEq env S x y) QB :=
  c_eqD hx hy da da (by rw [eqD_refl 32 a da]; exact h)
theorem c_neSame {x y : XD} {a : D} {QB : Bool → Prop} (hx : datOf env S x = some a) (hy : datOf env S y = some a) (da : dep 32 a = true) (h : QB false) : wO (cNe env S x y) QB := c_ne (c_eqSame hx hy da h)
theorem isN_no {d : D} {QB : Bool → Prop} (hd : d ≠ .non) (h : QB false) : wO (cIsN env S (.dat d) (.dat .non)) QB := by
  cases d <;> first | exact absurd rfl hd | exact h
theorem isN_yes {QB : Bool → Prop} (h : QB true) : wO (cIsN env S (.dat .non) (.dat .non)) QB := h
theorem notN_no {d : D} {QB : Bool → Prop} (hd : d ≠ .non) (h : QB true) : wO (cNotN env S (.dat d) (.dat .non)) QB := c_notN (isN_no hd h)
theorem notN_yes {QB : Bool → Prop} (h : QB false) : wO (cNotN env S (.dat .non) (.dat .non)) QB := h
end
end Ev

/-! Wp3: stores into shared lists; draws of any text. -/
namespace Ev
open PySem L2
section
variable {X : Str → D → List Cell → Prop} {env : List Slot} {S : List Cell} {P : Po}
theorem wS_stL {fv fo fi : EF} (h : wV (fv env S) (fun c p S => P.ex c p env S) fun y S1 => wV (fo env S1) (fun c p S => P.ex c p env S) fun x S2 => wV (fi env S2) (fun c p S => P.ex c p env S) fun z S3 => match y, x, z with
    | .dat d, .dat (.own n), .dat (.int k) => wO (lstAt env S3 (.g n)) fun ds => (0 ≤ k ∧ k < ds.length) ∧ P.nx env (S3.set n (.lst (ds.set k.toNat d)))
    | _, _, _ => False) : wS (sStL fv fo fi env S) P :=
  wS_then (wV_imp h fun y S1 q => wS_then (wV_imp q fun x S2 q => wS_then (wV_imp q fun z S3 q => by
    cases y with
    | loc i => exact q.elim
    | dat d =>
      cases x with
      | loc i => exact q.elim
      | dat dx =>
        cases dx with
        | own n =>
          cases z with
          | loc i => exact q.elim
          | dat dz =>
            cases dz with
            | int k =>
              have q : wO (lstAt env S3 (.g n)) _ := q
              simp only [plOf]
              cases hl : lstAt env S3 (.g n) with
              | none => rw [hl] at q; exact q.elim
              | some ds =>
                rw [hl] at q
                obtain ⟨⟨q1, q2⟩, q3⟩ := q
                have e : ixN ds.length k = some k.toNat := by unfold ixN; rw [if_pos q1, if_pos q2]
                dsimp only
                rw [e]
                exact q3
            | _ => exact q.elim
        | _ => exact q.elim)))
theorem wS_augL {g : D → D → Option D} {fo fi fv : EF} (h : wV (fo env S) (fun c p S => P.ex c p env S) fun x S1 => wV (fi env S1) (fun c p S => P.ex c p env S) fun z S2 => match x, z with
    | .dat (.own n), .dat (.int k) => wO (lstAt env S2 (.g n)) fun ds => 0 ≤ k ∧ wO ds[k.toNat]? fun old => wV (fv env S2) (fun c p S => P.ex c p env S) fun y S3 => match y with
      | .dat dy => wO (lstAt env S3 (.g n)) fun es => wO (g old dy) fun d => k.toNat < es.length ∧ P.nx env (S3.set n (.lst (es.set k.toNat d)))
      | _ => False
    | _, _ => False) : wS (sAugL g fo fi fv env S) P :=
  wS_then (wV_imp h fun x S1 q => wS_then (wV_imp q fun z S2 q => by
    cases x with
    | loc i => exact q.elim
    | dat dx =>
      cases dx with
      | own n =>
        cases z with
        | loc i => exact q.elim
        | dat dz =>
          cases dz with
          | int k =>
            have q : wO (lstAt env S2 (.g n)) _ := q
            simp only [plOf]
            cases hl : lstAt env S2 (.g n) with
            | none => rw [hl] at q; exact q.elim
            | some ds =>
              rw [hl] at q
              obtain ⟨q1, q2⟩ := q
              dsimp only
              rw [if_pos q1]
              cases ho : ds[k.toNat]? with
              | none => rw [ho] at q2; exact q2.elim
              | some old =>
                rw [ho] at q2
                refine wS_then (wV_imp q2 fun y S3 q3 => ?_)
                cases y with
                | loc i => exact q3.elim
                | dat dy =>
                  have q3 : wO (lstAt env S3 (.g n)) _ := q3
                  cases hl2 : lstAt env S3 (.g n) with
                  | none => rw [hl2] at q3; exact q3.elim
                  | some es =>
                    rw [hl2] at q3
                    have q3 : wO (g old dy) _ := q3
                    dsimp only
                    cases hg : g old dy with
                    | none => rw [hg] at q3; exact q3.elim
                    | some d =>
                      rw [hg] at q3
                      obtain ⟨q4, q5⟩ := q3
                      dsimp only
                      rw [if_pos q4]
                      exact q5
          | _ => exact q.elim
      | _ => cases z <;> exact q.elim))
theorem i_addI {i j : Int} {Q : D → Prop} (h : Q (.int (i + j))) : wO (iAdd (.int i) (.int j)) Q := h
theorem i_subI {i j : Int} {Q : D → Prop} (h : Q (.int (i - j))) : wO (iSub (.int i) (.int j)) Q := h
end
/-- what a draw does, whatever it hands back below lim -/
def DrawsX (C : CF) : Prop := ∀ (S : List Cell) (n : Nat) (t : Tp) (lim : Int), S[n]? = some t.c → 0 < lim → lim < 18446744073709551616 → ∃ (k : Int) (t' : Tp), C [.own n, .int lim] S = .val (.int k) (S.set n t'.c) ∧ 0 ≤ k ∧ k < lim
theorem Draws.x {C : CF} (h : Draws C) : DrawsX C := fun S n t lim hS h0 h1 => ⟨_, _, h S n t lim hS h0 h1, t.lo h0, t.hi' h0⟩
theorem w_drawX {X : Str → D → List Cell → Prop} {S : List Cell} {C : CF} {lim : Int} {t : Tp} {Q : D → List Cell → Prop} (hd : DrawsX C) (h0 : 0 < lim) (h1 : lim < 18446744073709551616)
    (h : ∀ (k : Int) (t' : Tp), 0 ≤ k → k < lim → Q (.int k) (t'.c :: S)) : wV (C [.own 0, .int lim] (t.c :: S)) X Q := by
  obtain ⟨k, t', e, l, u⟩ := hd (t.c :: S) 0 t lim rfl h0 h1
  rw [e]
  exact h k t' l u
end Ev

/-! Wp4: backwards through raise, try and what is new since. -/
namespace Ev
open PySem L2
section
variable {α β : Type} {X : Str → D → List Cell → Prop} {env : List Slot} {S S' : List Cell} {P : Po}
theorem wS_raise {c : Str} {f : EF} (h : wV (f env S) (fun c p S => P.ex c p env S) fun x S1 => match x with | .dat d => P.ex c d env S1 | .loc _ => False) : wS (sRaise c f env S) P :=
  wS_then (wV_imp h fun x S1 q => by cases x <;> exact q)
theorem wS_tryAs {i : Nat} {tbl : List (Str × Bool)} {fb fs : SF} (h : wS (fb env S) ⟨P.nx, P.rt, P.bk, P.ct, fun c p env' S' => wO (tbl.lookup c) fun b => if b = true then wS (fs (env'.set i (.err c p)) S') ⟨fun _ _ => False, P.rt, fun _ _ => False, fun _ _ => False, fun _ _ _ _ => False⟩ else P.ex c p env' S'⟩) :
    wS (sTryAs i tbl fb fs env S) P := by
  unfold sTryAs
  cases hf : fb env S with
  | exc c p env' S' =>
    rw [hf] at h
    have h : wO (tbl.lookup c) _ := h
    dsimp only
    cases hl : tbl.lookup c with
    | none => rw [hl] at h; exact h.elim
    | some b =>
      rw [hl] at h
      cases b with
      | false => exact h
      | true =>
        have h : wS (fs (env'.set i (.err c p)) S') _ := h
        dsimp only
        cases hs : fs (env'.set i (.err c p)) S' <;> (rw [hs] at h; first | exact h | exact h.elim)
  | nx _ _ => rw [hf] at h; exact h
  | rt _ _ => rw [hf] at h; exact h
  | bk _ _ => rw [hf] at h; exact h
  | ct _ _ => rw [hf] at h; exact h
  | bot => rw [hf] at h; exact h
theorem wS_tryO {tbl : List (Str × Bool)} {fb fs : SF} (h : wS (fb env S) ⟨P.nx, P.rt, P.bk, P.ct, fun c p env' S' => wO (tbl.lookup c) fun b => if b = true then wS (fs env' S') ⟨P.nx, P.rt, P.bk, P.ct, fun _ _ _ _ => False⟩ else P.ex c p env' S'⟩) :
    wS (sTryO tbl fb fs env S) P := by
  unfold sTryO
  cases hf : fb env S with
  | exc c p env' S' =>
    rw [hf] at h
    have h : wO (tbl.lookup c) _ := h
    dsimp only
    cases hl : tbl.lookup c with
    | none => rw [hl] at h; exact h.elim
    | some b =>
      rw [hl] at h
      cases b with
      | false => exact h
      | true =>
        have h : wS (fs env' S') _ := h
        dsimp only
        cases hs : fs env' S' <;> (rw [hs] at h; first | exact h | exact h.elim)
  | nx _ _ => rw [hf] at h; exact h
  | rt _ _ => rw [hf] at h; exact h
  | bk _ _ => rw [hf] at h; exact h
  | ct _ _ => rw [hf] at h; exact h
  | bot => rw [hf] at h; exact h
theorem wl_look {tbl : List (Str × Bool)} {c : Str} {b : Bool} {Q : Bool → Prop} (h : tbl.lookup c = some b) (q : Q b) : wO (tbl.lookup c) Q := by rw [h]; exact q
theorem wE_errP {i : Nat} {cs : List Str} {c : Str} {p : D} {Q : XD → List Cell → Prop} (hi : env[i]? = some (.err c p)) (hc : c ∈ cs) (h : Q (.dat p) S) : wV (eErrP i cs env S) X Q := by
  unfold eErrP; rw [hi]; dsimp only; rw [if_pos hc]; exact h
theorem wE_errN {i : Nat} {cs : List Str} {c : Str} {p : D} {z : List Nat} {Q : XD → List Cell → Prop} (hi : env[i]? = some (.err c p)) (hc : c ∈ cs) (hz : c.cps.toList = z) (ok : strOk z = true) (h : Q (.dat (.str z)) S) : wV (eErrN i cs env S) X Q := by
  unfold eErrN; rw [hi]; dsimp only; subst hz; rw [if_pos ⟨hc, ok⟩]; exact h
theorem wE_isErr {i : Nat} {tbl : List (Str × Bool)} {c : Str} {p : D} {b : Bool} {Q : XD → List Cell → Prop} (hi : env[i]? = some (.err c p)) (hb : tbl.lookup c = some b) (h : Q (.dat (.bl b)) S) : wV (eIsErr i tbl env S) X Q := by
  unfold eIsErr; rw [hi]; dsimp only; rw [hb]; exact h
theorem wE_neg {f : EF} {Q : XD → List Cell → Prop} (h : wV (f env S) X fun x S1 => match x with | .dat (.int i) => Q (.dat (.int (-i))) S1 | _ => False) : wV (eNeg f env S) X Q :=
  wV_bind (wV_imp h fun x S1 q => by
    cases x with
    | loc i => exact q
    | dat d => cases d <;> first | exact q | exact q.elim)
theorem wR_1 {f : EF} {Q : Int × Int → List Cell → Prop} (h : wV (f env S) X fun x S1 => match x with | .dat (.int i) => Q (0, i) S1 | _ => False) : wV (rRng1 f env S) X Q :=
  wV_bind (wV_imp h fun x S1 q => by
    cases x with
    | loc i => exact q
    | dat d => cases d <;> first | exact q | exact q.elim)
theorem wR_2 {f g : EF} {Q : Int × Int → List Cell → Prop} (h : wV (f env S) X fun x S1 => wV (g env S1) X fun y S2 => match x, y with | .dat (.int i), .dat (.int j) => Q (i, j) S2 | _, _ => False) : wV (rRng2 f g env S) X Q :=
  wV_bind (wV_imp h fun x S1 q => wV_bind (wV_imp q fun y S2 q => by
    cases x with
    | loc i => cases y <;> exact q
    | dat d =>
      cases y with
      | loc j => cases d <;> exact q
      | dat d' => cases d <;> cases d' <;> first | exact q | exact q.elim))
theorem wN_lstR {f : RF} {Q : Cell → List Cell → Prop} (h : wV (f env S) X fun p S1 => rgOk p.1 p.2 = true ∧ Q (.lst (rgD p.1 p.2)) S1) : wV (nLstR f env S) X Q :=
  wV_bind (wV_imp h fun p S1 q => by rw [if_pos q.1]; exact q.2)
theorem wE_tupR {f : RF} {Q : XD → List Cell → Prop} (h : wV (f env S) X fun p S1 => rgOk p.1 p.2 = true ∧ Q (.dat (.tup (rgD p.1 p.2))) S1) : wV (eTupR f env S) X Q :=
  wV_bind (wV_imp h fun p S1 q => by rw [if_pos q.1]; exact q.2)
theorem wS_fldG {cs : List Str} {f : Str} {g : D → D → Option D} {fo fv : EF} (h : wV (fo env S) (fun c p S => P.ex c p env S) fun x S1 => wO3 (objAt env S1 x) fun c ns ds => c ∈ cs ∧ wO (lookD f ns ds) fun dv => wV (fv env S1) (fun c p S => P.ex c p env S) fun y S2 =>
    match y with
    | .dat dy => wO (plOf x) fun p => wO3 (objAt env S2 x) fun c2 ns2 ds2 => wO (g dv dy) fun d => (c2 = c ∧ ns2.length < 1000) ∧ P.nx (putE env (.obj c2 (putD f d ns2 ds2).1 (putD f d ns2 ds2).2) p) (putS S2 (.obj c2 (putD f d ns2 ds2).1 (putD f d ns2 ds2).2) p)
    | .loc _ => False) : wS (sFldG cs f g fo fv env S) P :=
  wS_then (wV_imp h fun x S1 q => by
    cases ho : objAt env S1 x with
    | none => rw [ho] at q; exact q.elim
    | some t =>
      obtain ⟨c, ns, ds⟩ := t
      rw [ho] at q
      obtain ⟨q1, q2⟩ := q
      dsimp only
      rw [if_pos q1]
      cases hl : lookD f ns ds with
      | none => rw [hl] at q2; exact q2.elim
      | some dv =>
        rw [hl] at q2
        refine wS_then (wV_imp q2 fun y S2 q3 => ?_)
        cases y with
        | loc i => exact q3.elim
        | dat dy =>
          have q3 : wO (plOf x) _ := q3
          cases hp : plOf x with
          | none => rw [hp] at q3; exact q3.elim
          | some p =>
            rw [hp] at q3
            have q3 : wO3 (objAt env S2 x) _ := q3
            cases ho2 : objAt env S2 x with
            | none => rw [ho2] at q3; exact q3.elim
            | some t2 =>
              obtain ⟨c2, ns2, ds2⟩ := t2
              rw [ho2] at q3
              have q3 : wO (g dv dy) _ := q3
              dsimp only
              cases hg : g dv dy with
              | none => rw [hg] at q3; exact q3.elim
              | some d =>
                rw [hg] at q3
                obtain ⟨q4, q5⟩ := q3
                dsimp only
                rw [if_pos q4]
                exact q5)
theorem wO_dec {p : Prop} [Decidable p] {Q : Bool → Prop} (h : Q (decide p)) : wO (some (decide p)) Q := h
end
end Ev

/-! Ev25: shared things that a call made and that nobody sees any more are let go. -/
namespace Ev
open PySem L2
mutual
def ownLt (m : Nat) : D → Bool
  | .own n => decide (n < m)
  | .tup ds => ownLtL m ds
  | .lst ds => ownLtL m ds
  | .rol ds => ownLtL m ds
  | .dct _ ds => ownLtL m ds
  | _ => true
def ownLtL (m : Nat) : List D → Bool
  | [] => true
  | d :: ds => ownLt m d && ownLtL m ds
end
def cellLt (m : Nat) : Cell → Bool
  | .lst ds => ownLtL m ds
  | .dct _ ds => ownLtL m ds
  | .dctT _ ds => ownLtL m ds
  | .lck _ ds => ownLtL m ds
  | .lckT _ ds => ownLtL m ds
  | .obj _ _ ds => ownLtL m ds
section
variable {K : PySem.W.Frag} {F : Hp} {ρ : Nat → Addr} {m m' : Nat}
mutual
theorem Rep.lt : ∀ (d : D) (v : V), ownLt m d = true → Rep K F ρ m' d v → Rep K F ρ m d v
  | .non, _, _, h => h
  | .bl _, _, _, h => h
  | .int _, _, _, h => h
  | .str _, _, _, h => h
  | .tup ds, v, l, h => by
    obtain ⟨a, vs, e, s, r⟩ := h
    exact ⟨a, vs, e, s, RepL.lt ds vs (by simpa only [ownLt] using l) r⟩
  | .lst ds, v, l, h => by
    obtain ⟨a, vs, e, s, r⟩ := h
    exact ⟨a, vs, e, s, RepL.lt ds vs (by simpa only [ownLt] using l) r⟩
  | .rol ds, v, l, h => by
    obtain ⟨a, vs, e, s, r⟩ := h
    exact ⟨a, vs, e, s, RepL.lt ds vs (by simpa only [ownLt] using l) r⟩
  | .own n, v, l, h => ⟨by simpa only [ownLt, decide_eq_true_eq] using l, h.2⟩
  | .dct ks ds, v, l, h => by
    obtain ⟨a, vs, e, s, k, r⟩ := h
    exact ⟨a, vs, e, s, k, RepL.lt ds vs (by simpa only [ownLt] using l) r⟩
theorem RepL.lt : ∀ (ds : List D) (vs : List V), ownLtL m ds = true → RepL K F ρ m' ds vs → RepL K F ρ m ds vs
  | [], _, _, h => h
  | d :: ds, vs, l, h => by
    obtain ⟨v, r, e, h1, h2⟩ := h
    rw [ownLtL, Bool.and_eq_true] at l
    exact ⟨v, r, e, Rep.lt d v l.1 h1, RepL.lt ds r l.2 h2⟩
end
theorem CellOk.lt {cl : Str → Option Addr} {H : Hp} {a : Addr} {c : Cell} (l : cellLt m c = true) (h : CellOk K cl F ρ m' H a c) : CellOk K cl F ρ m H a c := by
  cases c with
  | lst ds => obtain ⟨vs, e, r⟩ := h; exact ⟨vs, e, RepL.lt _ _ l r⟩
  | dct ks ds => obtain ⟨vs, e, k, r⟩ := h; exact ⟨vs, e, k, RepL.lt _ _ l r⟩
  | dctT ks ds => obtain ⟨vs, e, k, r⟩ := h; exact ⟨vs, e, k, RepL.lt _ _ l r⟩
  | lck ks ds => obtain ⟨od, vs, e, k, r⟩ := h; exact ⟨od, vs, e, k, RepL.lt _ _ l r⟩
  | lckT ks ds => obtain ⟨od, vs, e, k, r⟩ := h; exact ⟨od, vs, e, k, RepL.lt _ _ l r⟩
  | obj c ns ds => obtain ⟨C, dx, vs, e0, e, k, r⟩ := h; exact ⟨C, dx, vs, e0, e, k, RepL.lt _ _ l r⟩
/-- what is behind the first m things is not seen from there -/
def trimOk (m : Nat) (d : D) (S' : List Cell) : Bool := decide (m ≤ S'.length) && ownLt m d && (S'.take m).all (cellLt m)
def trimO (m : Nat) : Out D → Out D
  | .val d S' => if trimOk m d S' = true then .val d (S'.take m) else .val d S'
  | .exc c p S' => if trimOk m p S' = true then .exc c p (S'.take m) else .exc c p S'
  | .bot => .bot
def trimC (C : CF) : CF := fun ds S => trimO S.length (C ds S)
theorem trim_rel {cl : Str → Option Addr} {F' H H' : Hp} {ρ' : Nat → Addr} {S' : List Cell} {d : D} (ok : trimOk m d S' = true) (g : GRel K cl F' H' ρ' S') (x : Ext F ρ m H F' ρ' S'.length H') :
    GRel K cl F' H' ρ' (S'.take m) ∧ Ext F ρ m H F' ρ' (S'.take m).length H' ∧ (∀ v, Rep K F' ρ' S'.length d v → Rep K F' ρ' (S'.take m).length d v) := by
  unfold trimOk at ok
  simp only [Bool.and_eq_true, decide_eq_true_eq] at ok
  obtain ⟨⟨h1, h2⟩, h3⟩ := ok
  have hl : (S'.take m).length = m := by rw [List.length_take]; omega
  rw [hl]
  refine ⟨⟨g.sub, fun n c h => ?_, fun i j hi hj => g.inj i j (by omega) (by omega)⟩, ⟨x.fs, x.fn, Nat.le_refl _, x.rr, fun n h1 h2 => absurd h2 (Nat.not_lt.mpr h1), x.hd, x.hs, x.fz⟩, fun v r => Rep.lt d v h2 r⟩
  have hm : c ∈ S'.take m := List.mem_of_getElem? h
  have hc := List.all_eq_true.mp h3 c hm
  have hn : n < m := by have := (List.getElem?_eq_some_iff.mp h).1; omega
  rw [List.getElem?_take_of_lt hn] at h
  obtain ⟨q1, q2⟩ := g.glob n c h
  exact ⟨q1, by rw [hl]; exact CellOk.lt hc q2⟩
end
section
variable {B : Base}
theorem spD_trim {n : Nat} {C : CF} {vs : List V} {H : Hp} {Q : VK} {E : XK} (h : spD B.K B.cl n (trimC C) vs H Q E) : spD B.K B.cl n C vs H Q E := by
  obtain ⟨F, ρ, S, ds, hl, g, r, q⟩ := h
  refine ⟨F, ρ, S, ds, hl, g, r, ?_⟩
  unfold trimC at q
  cases hc : C ds S with
  | bot => rw [hc] at q; exact q
  | val d S' =>
    rw [hc] at q
    unfold trimO at q; dsimp only at q
    by_cases ok : trimOk S.length d S' = true
    · rw [if_pos ok] at q
      intro v F' ρ' H' g' x' r'
      obtain ⟨a, b, c⟩ := trim_rel ok g' x'
      exact q v F' ρ' H' a b (c v r')
    · rw [if_neg ok] at q; exact q
  | exc c p S' =>
    rw [hc] at q
    unfold trimO at q; dsimp only at q
    by_cases ok : trimOk S.length p S' = true
    · rw [if_pos ok] at q
      intro cls dx F' ρ' H' g' x' r'
      obtain ⟨a, b, k⟩ := trim_rel ok g' x'
      obtain ⟨C1, dd, fs, v, h1, h2, h3, h4, h5, h6, h7, h8, h9⟩ := r'
      exact q cls dx F' ρ' H' a b ⟨C1, dd, fs, v, h1, h2, h3, h4, h5, h6, h7, k v h8, h9⟩
    · rw [if_neg ok] at q; exact q
theorem FnD.trim {x : Str} {n k : Nat} {C : CF} (h : FnD B x n k C) : FnD B x n k (trimC C) := by
  obtain ⟨f, fd, ps, h1, h2, h3, h4, h5⟩ := h.ex
  exact ⟨f, fd, ps, h1, h2, h3, h4, h5.imp fun vs H Q E q => spD_trim q⟩
theorem MtD.trim {c m : Str} {n k : Nat} {C : CF} (h : MtD B c m n k C) : MtD B c m n k (trimC C) := by
  obtain ⟨Ca, f, fd, ps, h0, h1, h2, h3, h4, h5⟩ := h.ex
  exact ⟨Ca, f, fd, ps, h0, h1, h2, h3, h4, h5.imp fun vs H Q E q => spD_trim q⟩
end
section
variable {X : Str → D → List Cell → Prop}
/-- a trimmed function, backwards -/
theorem w_trim {C : CF} {ds : List D} {S : List Cell} {Q : D → List Cell → Prop} (h : wV (C ds S) (fun c p S' => trimOk S.length p S' = true ∧ X c p (S'.take S.length)) fun d S' => trimOk S.length d S' = true ∧ Q d (S'.take S.length)) : wV (trimC C ds S) X Q := by
  unfold trimC
  cases hc : C ds S with
  | bot => rw [hc] at h; exact h
  | val d S' =>
    rw [hc] at h
    have h : trimOk S.length d S' = true ∧ Q d (S'.take S.length) := h
    show wV (if _ then _ else _) X Q
    rw [if_pos h.1]; exact h.2
  | exc c p S' =>
    rw [hc] at h
    have h : trimOk S.length p S' = true ∧ X c p (S'.take S.length) := h
    show wV (if _ then _ else _) X Q
    rw [if_pos h.1]; exact h.2
end
end Ev

/-! Next: the law's other draw. -/
namespace Ev
open PySem L2
local macro_rules | `(tactic| walk_at "sx") => `(tactic| first
  | ((with_reducible refine @id (wV _ _ _) ?_); (first
      | ((with_reducible apply wE_v); rfl)
      | with_reducible refine wE_c ?_
      | with_reducible refine wE_2 ?_
      | with_reducible refine wA_cons ?_
      | with_reducible refine wA_nil ?_
      | with_reducible refine wT_2 ?_
      | with_reducible refine wT_and ?_
      | with_reducible refine wT_or ?_
      | with_reducible refine wT_not ?_
      | with_reducible refine wT_1 ?_
      | with_reducible refine wE_fn ?_
      | with_reducible refine wE_call ?_
      | with_reducible refine wE_lst ?_
      | with_reducible refine wE_tup ?_
      | with_reducible refine wE_if ?_
      | with_reducible refine wE_fld ?_
      | with_reducible refine wE_meth ?_
      | ((with_reducible apply w_draw) <;> first | assumption | decide | (intro _ _ _ _))
      | with_reducible refine wE_and ?_
      | with_reducible refine wE_or ?_
      | with_reducible refine wE_not ?_
      | with_reducible refine wE_sl ?_
      | with_reducible refine wO_none ?_
      | with_reducible refine wO_some ?_
      | with_reducible refine wE_ch ?_
      | with_reducible refine wE_dget2 ?_
      | with_reducible refine w_wseqL ?_
      | with_reducible refine w_rng1 ?_
      | with_reducible refine w_rng2 ?_
      | with_reducible refine wE_make ?_
      | with_reducible refine wE_sha ?_
      | with_reducible refine wN_dct ?_
      | with_reducible refine wN_lst ?_
      | with_reducible refine wE_frz ?_
      | with_reducible refine wN_lc ?_
      | ((with_reducible apply wE_l); rfl)))
  | ((with_reducible refine @id (@wO D _ _) ?_); (first
      | with_reducible refine o_addI ?_
      | with_reducible refine o_sub ?_
      | with_reducible refine wB ?_
      | ((with_reducible apply o_ixT); rfl; decide)
      | ((with_reducible apply o_ixL); rfl; decide)
      | with_reducible refine k_int ?_
      | with_reducible refine k_intT ?_
      | with_reducible refine k_intF ?_
      | with_reducible refine k_absI ?_
      | with_reducible refine k_maxI ?_
      | with_reducible refine k_minI ?_
      | with_reducible refine k_lenL ?_
      | with_reducible refine k_lenT ?_
      | with_reducible refine k_lenR ?_
      | ((with_reducible apply o_pow); decide)
      | with_reducible refine o_look0 ?_
      | ((with_reducible apply o_look1); decide +kernel)))
  | ((with_reducible refine @id (@wO Bool _ _) ?_); (first
      | ((with_reducible refine c_eqI ?_ ?_) <;> intro <;> try (exfalso; omega))
      | ((with_reducible refine c_neI ?_ ?_) <;> intro <;> try (exfalso; omega))
      | ((with_reducible refine c_ltI ?_ ?_) <;> intro <;> try (exfalso; omega))
      | ((with_reducible refine c_leI ?_ ?_) <;> intro <;> try (exfalso; omega))
      | ((with_reducible refine c_gtI ?_ ?_) <;> intro <;> try (exfalso; omega))
      | ((with_reducible refine c_geI ?_ ?_) <;> intro <;> try (exfalso; omega))
      | ((with_reducible refine c_eqS ?_ ?_) <;> intro h <;> try (first | exact absurd h (by decide) | exact absurd rfl h))
      | ((with_reducible refine c_neS ?_ ?_) <;> intro h <;> try (first | exact absurd h (by decide) | exact absurd rfl h))
      | with_reducible refine c_eqN ?_
      | with_reducible refine c_neN ?_
      | with_reducible refine c_eqN1 ?_
      | with_reducible refine c_eqN2 ?_
      | with_reducible refine c_neN1 ?_
      | with_reducible refine c_neN2 ?_
      | with_reducible refine isN_yes ?_
      | with_reducible refine notN_yes ?_
      | ((with_reducible apply isN_no); exact fun h => nomatch h)
      | ((with_reducible apply notN_no); exact fun h => nomatch h)))
  | ((with_reducible refine @id (@wO (List D) _ _) ?_); (first
      | with_reducible refine dl_cons ?_
      | with_reducible refine dl_nil ?_
      | ((with_reducible apply l_own); first | assumption | rfl)
      | ((with_reducible apply l_loc); first | assumption | rfl)
      | with_reducible refine wk_rng ?_
      | with_reducible refine wk_lst ?_
      | with_reducible refine wk_tup ?_
      | with_reducible refine wk_rol ?_
      | with_reducible refine wk_txt ?_))
  | ((with_reducible refine @id (wS _ _) ?_); (first
      | with_reducible refine wS_if ?_
      | with_reducible refine wS_set ?_
      | with_reducible refine wS_ret ?_
      | with_reducible refine wS_nx ?_
      | with_reducible refine wS_asg ?_
      | with_reducible refine wS_ex ?_
      | with_reducible refine wS_for ?_
      | with_reducible refine wS_fld ?_
      | with_reducible refine wS_retG ?_
      | with_reducible refine wS_setG ?_
      | with_reducible refine wS_setN ?_
      | with_reducible refine wS_setL ?_
      | with_reducible refine wS_dput ?_
      | with_reducible refine wS_app ?_))
  | ((with_reducible refine @id (@wO (List Slot) _ _) ?_); (first
      | ((with_reducible apply wG_t); rfl)
      | with_reducible refine wG_cs ?_
      | with_reducible refine wG_nl ?_
      | with_reducible refine wG_n ?_))
  | ((with_reducible refine @id (_ ∧ _) ?_); (first
      | (apply And.intro; rfl)
      | (apply And.intro; exact Nat.le_of_ble_eq_true rfl)
      | (apply And.intro; apply dctAt_some; first | assumption | rfl)
      | (apply And.intro; exact List.mem_cons_self)
      | (apply And.intro; exact ⟨rfl, by decide +kernel⟩)
      | (apply And.intro; exact ⟨List.mem_cons_self, by decide⟩)))
  | with_reducible refine if_t ?_
  | with_reducible refine if_f ?_
  | with_reducible refine if_nt ?_
  | with_reducible refine if_nf ?_
  | ((with_reducible refine @id (@wO Key _ _) ?_); (first
      | with_reducible refine k_str ?_
      | with_reducible refine k_num ?_))
  | ((with_reducible refine @id (@wO Pl _ _) ?_); (first
      | with_reducible refine pl_own ?_
      | with_reducible refine pl_loc ?_))
  | ((with_reducible apply o_obj); first | assumption | rfl)
  | ((with_reducible apply o_dctAt); first | assumption | rfl))
local macro_rules | `(tactic| walk_at "st") => `(tactic| first | ((with_reducible refine @id (wS _ _) ?_); with_reducible refine wS_seq ?_) | walk_at "sx")
local macro_rules | `(tactic| walk_at "go") => `(tactic| repeat' walk_at "st")
local macro_rules | `(tactic| walk_at "to") => `(tactic| repeat' walk_at "sx")
section
variable {X : Str → D → List Cell → Prop} {env : List Slot} {S : List Cell} {P : Po}
theorem o_ixO {n : Nat} {i : Int} {ds : List D} {d : D} {QD : D → Prop} (hS : S[n]? = some (.lst ds)) (hd : ds[i.toNat]? = some d) (h0 : 0 ≤ i) (h : QD d) : wO (gIx env S (.dat (.own n)) (.dat (.int i))) QD := by
  have : gIx env S (.dat (.own n)) (.dat (.int i)) = atI ds i := by
    show (match (match S[n]? with | some (.lst ds) => some (Sq.l, ds) | _ => none) with | some (_, ds) => atI ds i | none => none) = _
    rw [hS]
  rw [this, atI_pos _ _ h0, hd]
  exact h
def scrI (ns : List Int) (i : Int) : Int := (ns[i.toNat]?).getD 0
theorem o_ixScr {d : D} {ns : List Int} {i : Int} {QD : D → Prop} (hd : IsScr d ns) (h0 : 0 ≤ i) (h1 : i < ns.length) (h : ∀ x, QD (.int x)) : wO (gIx env S (.dat d) (.dat (.int i))) QD := by
  have e : gIx env S (.dat d) (.dat (.int i)) = atI (ns.map D.int) i := by rcases hd with rfl | rfl <;> rfl
  rw [e, atI_pos _ _ h0, List.getElem?_map, List.getElem?_eq_getElem (by omega)]
  exact h _
theorem o_get {ds : List D} {k : Nat} {d : D} {QD : D → Prop} (hd : ds[k]? = some d) (h : QD d) : wO ds[k]? QD := by rw [hd]; exact h
theorem k_lenScr {d : D} {ns : List Int} {QD : D → Prop} (hd : IsScr d ns) (h : QD (.int ns.length)) : wO (fLen env S [.dat d]) QD := by
  have e : fLen env S [.dat d] = some (.int (ns.map D.int).length) := by rcases hd with rfl | rfl <;> rfl
  rw [e, List.length_map]
  exact h
end
def bNext : SF := (sSeq (sSet 2 (e2 gIx (eVar 0) (eC (.int 2))))
  (sSeq (sIf (bT (e2 (gB cGt) (eVar 2) (eC (.int 0))))
  (sSeq (sStL (e2 gDiv (eVar 2) (eVar 1)) (eVar 0) (eC (.int 2)))
  (sRet (e2 gMod (eCall fInt (aCons (eVar 2) aNil)) (eVar 1))))
  sNx)
  (sSeq (sSet 3 (eC (.int 0)))
  (sSeq (sIf (bT (e2 (gB cLt) (e2 gIx (eVar 0) (eC (.int 1))) (eCall fLen (aCons (e2 gIx (eVar 0) (eC (.int 0))) aNil))))
  (sSeq (sSet 3 (eCall fAbs (aCons (e2 gIx (e2 gIx (eVar 0) (eC (.int 0))) (e2 gIx (eVar 0) (eC (.int 1)))) aNil)))
  (sAugL iAdd (eVar 0) (eC (.int 1)) (eC (.int 1))))
  sNx)
  (sSeq (sIf (bT (e2 (gB cGe) (eVar 3) (e2 gPow (eC (.int 10)) (eC (.int 18)))))
  (sSeq (sStL (e2 gDiv (eVar 3) (eVar 1)) (eVar 0) (eC (.int 2)))
  (sRet (e2 gMod (eCall fInt (aCons (eVar 3) aNil)) (eVar 1))))
  sNx)
  (sSeq (sStL (e2 gMod (eCall fInt (aCons (e2 gAdd (e2 gAdd (e2 gMul (e2 gIx (eVar 0) (eC (.int 3))) (eC (.int 48271))) (e2 gMul (eVar 3) (eC (.int 69621)))) (eC (.int 11))) aNil)) (eC (.int 2147483647))) (eVar 0) (eC (.int 3)))
  (sRet (e2 gMod (eCall fInt (aCons (e2 gDiv (e2 gMod (eCall fInt (aCons (e2 gMul (e2 gIx (eVar 0) (eC (.int 3))) (eC (.int 16807))) aNil)) (eC (.int 2147483647))) (eC (.int 7))) aNil)) (eVar 1)))))))))
theorem mulC_r {i j : Int} (h : Ev.small64 j = true) : mulC i j = true := by unfold mulC; rw [h]; simp
local macro_rules | `(tactic| walk_at "sx") => `(tactic| first
  | ((with_reducible apply o_ixO); (first | assumption | apply_assumption); rfl; decide)
  | ((with_reducible apply l_own); apply_assumption)
  | ((with_reducible apply o_div); (first | assumption | decide); (first | assumption | decide))
  | ((with_reducible apply o_mod); (first | assumption | decide))
  | ((with_reducible refine @id (_ ∧ _) ?_); apply And.intro; (exact ⟨by decide, by simp⟩))
  | ((with_reducible refine @id (_ ∧ _) ?_); apply And.intro; decide)
  | ((with_reducible refine @id (_ ∧ _) ?_); apply And.intro; (simp; done))
  | ((with_reducible apply o_get); rfl)
  | ((with_reducible apply o_mul); exact mulC_r (by decide))
  | (with_reducible refine wS_stL ?_)
  | (with_reducible refine wS_augL ?_)
  | (with_reducible refine i_addI ?_)
  | ((with_reducible apply k_lenScr); assumption)
  | ((with_reducible apply o_ixScr); assumption; assumption; omega; intro _))
theorem next_draws : DrawsX (fnF 4 bNext) := by
  intro S n t lim hS h0 h1
  have hs : ∀ c, (S.set n c)[n]? = some c := fun c => List.getElem?_set_self (List.getElem?_eq_some_iff.mp hS).1
  have key : wV (fnF 4 bNext [.own n, .int lim] S) (fun _ _ _ => False) (fun a S' => ∃ (k : Int) (t' : Tp), a = .int k ∧ S' = S.set n t'.c ∧ 0 ≤ k ∧ k < lim) := by
    refine w_fn ?_
    obtain ⟨d, ns, i, r, s, hd, hi, hr, hss, hs2⟩ := t
    have hS : S[n]? = some (.lst [d, .int i, .int r, .int s]) := hS
    unfold bNext
    walk_at "to"
    refine wS_seq ?_
    walk_at "to"
    refine wS_cut (fun env S' => ¬0 < r ∧ env = [.val (.own n), .val (.int lim), .val (.int r), .no] ∧ S' = S) ?_ ?_
    · walk_at "go"
      · exact ⟨_, ⟨d, ns, i, r / lim, s, hd, hi, Int.ediv_nonneg hr (by omega), hss, hs2⟩, rfl, rfl, Int.emod_nonneg _ (by omega), Int.emod_lt_of_pos _ h0⟩
      · exact ⟨by omega, rfl, rfl⟩
    rintro env S0 ⟨hr0, rfl, rfl⟩
    refine wS_seq ?_
    walk_at "to"
    refine wS_cut (fun env S' => ∃ cell i' : Int, env = [.val (.own n), .val (.int lim), .val (.int r), .val (.int cell)] ∧ S'[n]? = some (.lst [d, .int i', .int r, .int s]) ∧ (∀ c, S'.set n c = S0.set n c) ∧ 0 ≤ i') ?_ ?_
    · walk_at "go"
      · exact ⟨_, i + 1, rfl, hs _, fun c => List.set_set .., by omega⟩
      · exact ⟨_, i, rfl, hS, fun c => rfl, hi⟩
    rintro env S' ⟨cell, i', rfl, hS', hset, hi'⟩
    have hs' : ∀ c, (S'.set n c)[n]? = some c := fun c => List.getElem?_set_self (List.getElem?_eq_some_iff.mp hS').1
    clear hS
    walk_at "to"
    refine wS_cut (fun env S'' => env = [.val (.own n), .val (.int lim), .val (.int r), .val (.int cell)] ∧ S'' = S') ?_ ?_
    · walk_at "go"
      · refine ⟨_, ⟨d, ns, i', cell / lim, s, hd, hi', ?_, hss, hs2⟩, rfl, hset _, Int.emod_nonneg _ (by omega), Int.emod_lt_of_pos _ h0⟩
        have h10 : (10 : Int) ^ Int.toNat 18 = 1000000000000000000 := by decide
        have hc : (10 : Int) ^ Int.toNat 18 ≤ cell := ‹_›
        rw [h10] at hc
        exact Int.ediv_nonneg (by omega) (by omega)
      · rfl
    rintro env S'' ⟨rfl, rfl⟩
    walk_at "go"
    have h3 : (0 : Int) < 2147483647 := by decide
    exact ⟨_, ⟨d, ns, i', r, (s * 48271 + cell * 69621 + 11) % 2147483647, hd, hi', hr, Int.emod_nonneg _ (by decide), by have := Int.emod_lt_of_pos (s * 48271 + cell * 69621 + 11) h3; omega⟩, rfl, hset _, Int.emod_nonneg _ (by omega), Int.emod_lt_of_pos _ h0⟩
  obtain ⟨a, S', e, k, t', rfl, rfl, l, u⟩ := wV_some key
  exact ⟨k, t', e, l, u⟩
end Ev

/-! Wp5: more rules. -/
namespace Ev
open PySem L2
section
variable {α β : Type} {X : Str → D → List Cell → Prop} {env : List Slot} {S S' : List Cell} {P : Po}
theorem wS_aug {i : Nat} {g : D → D → Option D} {f : EF} {dx : D} (hi : env[i]? = some (.val dx)) (h : wV (f env S) (fun c p S => P.ex c p env S) fun y S1 => match y with | .dat dy => wO (g dx dy) fun d => P.nx (env.set i (.val d)) S1 | .loc _ => False) : wS (sAug i g f env S) P := by
  unfold sAug; rw [hi]
  refine wS_then (wV_imp h fun y S1 q => ?_)
  cases y with
  | loc i => exact q.elim
  | dat dy =>
    have q : wO (g dx dy) _ := q
    dsimp only
    cases hg : g dx dy <;> (rw [hg] at q; exact q)
theorem wS_par {is : List Nat} {f : AF} (h : wV (f env S) (fun c p S => P.ex c p env S) fun xs S1 => wO (datL xs) fun ds => ds.length = is.length ∧ P.nx ((is.zip ds).foldl (fun env p => env.set p.1 (.val p.2)) env) S1) : wS (sPar is f env S) P :=
  wS_then (wV_imp h fun xs S1 q => by
    cases hd : datL xs with
    | none => rw [hd] at q; exact q.elim
    | some ds => rw [hd] at q; show wS (if ds.length = is.length then _ else _) P; rw [if_pos q.1]; exact q.2)
theorem wE_is {T : String} {f : EF} {Q : XD → List Cell → Prop} (h : wV (f env S) X fun x S1 => wO (tyName env S1 x) fun a => wO (isT a T) fun k => Q (.dat (.bl k)) S1) : wV (eIs T f env S) X Q :=
  wV_bind (wV_imp h fun x S1 q => by
    cases ha : tyName env S1 x with
    | none => rw [ha] at q; exact q.elim
    | some a =>
      rw [ha] at q
      have q : wO (isT a T) _ := q
      dsimp only
      cases hk : isT a T <;> (rw [hk] at q; exact q))
theorem ty_i {i : Int} {Q : String → Prop} (h : Q "int") : wO (tyName env S (.dat (.int i))) Q := h
theorem ty_b {b : Bool} {Q : String → Prop} (h : Q "bool") : wO (tyName env S (.dat (.bl b))) Q := h
theorem ty_n {Q : String → Prop} (h : Q "NoneType") : wO (tyName env S (.dat .non)) Q := h
theorem ty_s {z : List Nat} {Q : String → Prop} (h : Q "str") : wO (tyName env S (.dat (.str z))) Q := h
theorem ty_l {ds : List D} {Q : String → Prop} (h : Q "list") : wO (tyName env S (.dat (.lst ds))) Q := h
theorem ty_t {ds : List D} {Q : String → Prop} (h : Q "tuple") : wO (tyName env S (.dat (.tup ds))) Q := h
theorem wO_of {o : Option α} {a : α} {Q : α → Prop} (h : o = some a) (q : Q a) : wO o Q := by rw [h]; exact q
theorem k_listL {ds : List D} {QD : D → Prop} (h : QD (.lst ds)) : wO (fList env S [.dat (.lst ds)]) QD := h
theorem k_listR {ds : List D} {QD : D → Prop} (h : QD (.lst ds)) : wO (fList env S [.dat (.rol ds)]) QD := h
theorem k_listT {ds : List D} {QD : D → Prop} (h : QD (.lst ds)) : wO (fList env S [.dat (.tup ds)]) QD := h
theorem k_listO {n : Nat} {ds : List D} {QD : D → Prop} (hS : S[n]? = some (.lst ds)) (h : QD (.lst ds)) : wO (fList env S [.dat (.own n)]) QD := by
  have e : fList env S [.dat (.own n)] = some (.lst ds) := by simp [fList, seqOf, hS]
  rw [e]; exact h
theorem k_tupL {ds : List D} {QD : D → Prop} (h : QD (.tup ds)) : wO (fTuple env S [.dat (.lst ds)]) QD := h
theorem k_tupT {ds : List D} {QD : D → Prop} (h : QD (.tup ds)) : wO (fTuple env S [.dat (.tup ds)]) QD := h
theorem k_tupO {n : Nat} {ds : List D} {QD : D → Prop} (hS : S[n]? = some (.lst ds)) (h : QD (.tup ds)) : wO (fTuple env S [.dat (.own n)]) QD := by
  have e : fTuple env S [.dat (.own n)] = some (.tup ds) := by simp [fTuple, seqOf, hS]
  rw [e]; exact h
theorem k_lenO {n : Nat} {ds : List D} {QD : D → Prop} (hS : S[n]? = some (.lst ds)) (h : QD (.int ds.length)) : wO (fLen env S [.dat (.own n)]) QD := by
  have e : fLen env S [.dat (.own n)] = some (.int ds.length) := by simp [fLen, seqOf, hS]
  rw [e]; exact h
theorem mulC_ll {i j : Int} (h : -18446744073709551616 < i) (h' : i < 18446744073709551616) : mulC i j = true := by
  unfold mulC Ev.small64; rw [decide_eq_true h, decide_eq_true h']; rfl
theorem mulC_rr {i j : Int} (h : -18446744073709551616 < j) (h' : j < 18446744073709551616) : mulC i j = true := by
  unfold mulC Ev.small64; rw [decide_eq_true h, decide_eq_true h', Bool.and_self, Bool.or_true]
/-- a draw from the tape at n, whatever else is there -/
theorem w_drawN {C : CF} {n : Nat} {lim : Int} {t : Tp} {Q : D → List Cell → Prop} (hd : DrawsX C) (hS : S[n]? = some t.c) (h0 : 0 < lim) (h1 : lim < 18446744073709551616)
    (h : ∀ (k : Int) (t' : Tp), 0 ≤ k → k < lim → Q (.int k) (S.set n t'.c)) : wV (C [.own n, .int lim] S) X Q := by
  obtain ⟨k, t', e, l, u⟩ := hd S n t lim hS h0 h1
  rw [e]
  exact h k t' l u
theorem isT_w {a T : String} {k : Bool} {Q : Bool → Prop} (h : isT a T = some k) (q : Q k) : wO (isT a T) Q := by rw [h]; exact q
theorem tr_b {b : Bool} {Q : Bool → Prop} (h : Q b) : wO (truX env S (.dat (.bl b))) Q := h
theorem tr_n {Q : Bool → Prop} (h : Q false) : wO (truX env S (.dat .non)) Q := h
theorem tr_i {i : Int} {Q : Bool → Prop} (h : Q (i != 0)) : wO (truX env S (.dat (.int i))) Q := h
theorem tr_l {ds : List D} {Q : Bool → Prop} (h : Q (!ds.isEmpty)) : wO (truX env S (.dat (.lst ds))) Q := h
theorem tr_t {ds : List D} {Q : Bool → Prop} (h : Q (!ds.isEmpty)) : wO (truX env S (.dat (.tup ds))) Q := h
theorem if_dec {p : Prop} [Decidable p] {A C : Prop} (h1 : p → A) (h2 : ¬p → C) : if decide p = true then A else C := by
  by_cases h : p
  · rw [if_pos (decide_eq_true h)]; exact h1 h
  · rw [if_neg (by rw [decide_eq_false h]; decide)]; exact h2 h
theorem if_ndec {p : Prop} [Decidable p] {A C : Prop} (h1 : ¬p → A) (h2 : p → C) : if (!decide p) = true then A else C := by
  by_cases h : p
  · rw [if_neg (by rw [decide_eq_true h]; decide)]; exact h2 h
  · rw [if_pos (by rw [decide_eq_false h]; decide)]; exact h1 h
theorem wS_fcons {g : GF} {b : SF} {d : D} {ds : List D} (h : wO (g d env S) fun env1 => wS (b env1 S) ⟨fun env S => wS (forL g b ds env S) P, P.rt, P.nx, fun env S => wS (forL g b ds env S) P, P.ex⟩) : wS (forL g b (d :: ds) env S) P := by
  unfold forL
  cases hg : g d env S with
  | none => rw [hg] at h; exact h.elim
  | some env1 =>
    rw [hg] at h
    have h : wS (b env1 S) _ := h
    dsimp only
    cases hb : b env1 S <;> (rw [hb] at h; exact h)
theorem wS_fnil {g : GF} {b : SF} (h : P.nx env S) : wS (forL g b [] env S) P := h
/-- a field stored -/
def wPut (f : Str) (d : D) (ns : List Str) (ds : List D) (Q : List Str → List D → Prop) : Prop := Q (putD f d ns ds).1 (putD f d ns ds).2
theorem p_hit {f : Str} {d x : D} {ns : List Str} {ds : List D} {Q : List Str → List D → Prop} (h : Q (f :: ns) (d :: ds)) : wPut f d (f :: ns) (x :: ds) Q := by
  unfold wPut putD; rw [if_pos rfl]; exact h
theorem p_miss {f n : Str} {d x : D} {ns : List Str} {ds : List D} {Q : List Str → List D → Prop} (hn : (n == f) = false) (h : wPut f d ns ds fun ns' ds' => Q (n :: ns') (x :: ds')) : wPut f d (n :: ns) (x :: ds) Q := by
  have hn' : n ≠ f := fun z => by rw [z] at hn; simp at hn
  unfold wPut putD; rw [if_neg hn']; exact h
theorem p_end {f : Str} {d : D} {Q : List Str → List D → Prop} (h : Q [f] [d]) : wPut f d [] [] Q := h
theorem wS_fldP {cs : List Str} {f : Str} {fv fo : EF} (h : wV (fv env S) (fun c p S => P.ex c p env S) fun y S1 => wV (fo env S1) (fun c p S => P.ex c p env S) fun x S2 => match y, x with
    | .dat d, .dat (.own n) => wO3 (objAt env S2 (.dat (.own n))) fun c ns ds => (c ∈ cs ∧ ns.length < 1000) ∧ wPut f d ns ds fun ns' ds' => P.nx env (S2.set n (.obj c ns' ds'))
    | _, _ => False) : wS (sFldS cs f fv fo env S) P := wS_fld h
theorem wS_fldGP {cs : List Str} {f : Str} {g : D → D → Option D} {fo fv : EF} (h : wV (fo env S) (fun c p S => P.ex c p env S) fun x S1 => match x with
    | .dat (.own n) => wO3 (objAt env S1 (.dat (.own n))) fun c ns ds => c ∈ cs ∧ wO (lookD f ns ds) fun dv => wV (fv env S1) (fun c p S => P.ex c p env S) fun y S2 => (match y with
      | .dat dy => wO3 (objAt env S2 (.dat (.own n))) fun c2 ns2 ds2 => wO (g dv dy) fun d => (c2 = c ∧ ns2.length < 1000) ∧ wPut f d ns2 ds2 fun ns' ds' => P.nx env (S2.set n (.obj c2 ns' ds'))
      | .loc _ => False)
    | _ => False) : wS (sFldG cs f g fo fv env S) P :=
  wS_fldG (wV_imp h fun x S1 q => by
    cases x with
    | loc i => exact q.elim
    | dat dx =>
      cases dx with
      | own n =>
        have q : wO3 (objAt env S1 (.dat (.own n))) _ := q
        cases ho : objAt env S1 (.dat (.own n)) with
        | none => rw [ho] at q; exact q.elim
        | some t =>
          obtain ⟨c, ns, ds⟩ := t
          rw [ho] at q
          refine ⟨q.1, wO_imp q.2 fun dv q => wV_imp q fun y S2 q => ?_⟩
          cases y with
          | loc i => exact q.elim
          | dat dy => exact q
      | _ => exact q.elim)
theorem get_set_some {α : Type} {S : List α} {n : Nat} {c x : α} (h : S[n]? = some x) : (S.set n c)[n]? = some c := List.getElem?_set_self (List.getElem?_eq_some_iff.mp h).1
theorem get_set_other {α : Type} {S : List α} {n k : Nat} {c x : α} (hn : n ≠ k) (h : S[k]? = some x) : (S.set n c)[k]? = some x := by rw [List.getElem?_set_ne hn]; exact h
/-- a range walked, by an invariant on how many turns are done -/
theorem wS_rngI {g : GF} {b : SF} {lo : Int} {m : Nat} (I : Nat → List Slot → List Cell → Prop) (h0 : I 0 env S)
    (hb : ∀ i env S, i < m → I i env S → wO (g (.int (lo + i)) env S) fun env1 => wS (b env1 S) ⟨I (i + 1), P.rt, P.nx, I (i + 1), P.ex⟩) (he : ∀ env S, I m env S → P.nx env S) :
    wS (forL g b ((List.range m).map fun i : Nat => .int (lo + (i : Int))) env S) P := by
  have key : ∀ (k i : Nat) (env : List Slot) (S : List Cell), i + k = m → I i env S → wS (forL g b ((List.range' i k).map fun i : Nat => D.int (lo + (i : Int))) env S) P := by
    intro k
    induction k with
    | zero =>
      intro i env S hk hI
      have : i = m := by omega
      subst this
      exact he _ _ hI
    | succ k ih =>
      intro i env S hk hI
      rw [List.range'_succ, List.map_cons]
      have q := hb i env S (by omega) hI
      unfold forL
      cases hg : g (.int (lo + i)) env S with
      | none => rw [hg] at q; exact q.elim
      | some env1 =>
        rw [hg] at q
        have q : wS (b env1 S) _ := q
        dsimp only
        cases hb' : b env1 S <;> rw [hb'] at q
        case nx e s => exact ih (i + 1) e s (by omega) q
        case ct e s => exact ih (i + 1) e s (by omega) q
        all_goals exact q
  have := key m 0 env S (by omega) h0
  rwa [List.range_eq_range']
end
end Ev

/-! Ev26: the least and the greatest of alike data. -/
namespace Ev
open PySem L2 PySem.W
def ltD (x y : D) : Bool := dataLt (toPy x) (toPy y)
/-- the first of the least -/
def leastD : List D → Option D
  | [] => none
  | d :: ds => some (ds.foldl (fun a y => if ltD y a then y else a) d)
def mostD : List D → Option D
  | [] => none
  | d :: ds => some (ds.foldl (fun a y => if ltD a y then y else a) d)
def notN : PyData → Bool
  | .none => false
  | _ => true
/-- what can be compared with one another -/
def alikeD (ds : List D) : Bool := (ds.all fun x => ds.all fun y => alike (toPy x) (toPy y)) && ds.all fun x => notN (toPy x)
def fMinG : List Slot → List Cell → List XD → Option D := fun env S xs => match xs with
  | [.dat (.int i), .dat (.int j)] => some (.int (min i j))
  | [x] => match seqOf env S x with
    | some (.l, ds) => if (alikeD ds && ds.all (dep 32)) = true then leastD ds else none
    | _ => none
  | _ => none
def fMaxG : List Slot → List Cell → List XD → Option D := fun env S xs => match xs with
  | [.dat (.int i), .dat (.int j)] => some (.int (max i j))
  | [x] => match seqOf env S x with
    | some (.l, ds) => if (alikeD ds && ds.all (dep 32)) = true then mostD ds else none
    | _ => none
  | _ => none
theorem alikeAll_of {ds : List D} (h : alikeD ds = true) : AlikeAll (toPyL ds) := by
  unfold alikeD at h
  simp only [Bool.and_eq_true, List.all_eq_true] at h
  rw [toPyL_eq]
  refine ⟨fun x hx y hy => ?_, fun x hx => ?_⟩
  · obtain ⟨a, ha, rfl⟩ := List.mem_map.mp hx
    obtain ⟨b, hb, rfl⟩ := List.mem_map.mp hy
    exact h.1 a ha b hb
  · obtain ⟨a, ha, rfl⟩ := List.mem_map.mp hx
    intro z
    have := h.2 a ha
    rw [z] at this
    cases this
theorem getD_toPyL {ds : List D} {i : Nat} : (toPyL ds).getD i .none = toPy (ds.getD i .non) := by
  rw [toPyL_eq, List.getD_eq_getElem?_getD, List.getD_eq_getElem?_getD, List.getElem?_map]
  cases ds[i]? <;> rfl
theorem depth_all {n : Nat} {ds : List D} (h : ds.all (dep n) = true) : PyData.depthAll (toPyL ds) ≤ n := by
  induction ds with
  | nil => simp [toPyL, PyData.depthAll]
  | cons d ds ih =>
    simp only [List.all_cons, Bool.and_eq_true] at h
    have h1 := dep_depth n d h.1
    have h2 := ih h.2
    show PyData.depthAll (toPy d :: toPyL ds) ≤ n
    simp only [PyData.depthAll]
    omega
section
variable {B : Base} {e : En} {G : Gc}
theorem ok_minG {X : Cx} (hK : X.K = B.K) (hc : X.calm = true) (hu : X.A.units + 200 < cLine) : CallOk X B e (.builtin "min") fMinG := by
  intro pins s σ τ xs us W env S ds d Q I rx R x1 hg k
  unfold fMinG at hg
  split at hg
  · rename_i i j
    cases hg
    obtain ⟨v, u, rfl, h1, h2⟩ := repXL2 x1
    refine call_min2 hc pins s σ W.H _ us Q I rx ⟨i, j, by rw [show v = .int _ from h1, show u = .int _ from h2], ?_⟩
    have e : (if j < i then j else i) = min i j := by split <;> omega
    rw [e]
    exact k _ W R .refl rfl
  · split at hg
    · rename_i ds' hq
      split at hg
      · rename_i hal
        rw [Bool.and_eq_true] at hal
        cases ds' with
        | nil => cases hg
        | cons d0 dr =>
          obtain ⟨v, rfl, h1⟩ := repXL1 x1
          obtain ⟨a, vs, rfl, s1, r1⟩ := R.seq h1 hq
          obtain ⟨its, rv, hl, _⟩ := I.list (by rw [hK]; exact s1)
          obtain ⟨p1, _⟩ := Rep.dpL R.sub hal.2 r1
          obtain ⟨as, hr⟩ := Dp.readsAll I _ _ _ (by rw [hK]; exact p1) rv
          rw [Vals.ref1 rx]
          have hr' : ReadsAll s.heap its.toArray.toList (toPyL (d0 :: dr)) as := hr
          have hn : its.toArray.size = dr.length + 1 := by rw [readsAll_len hr', toPyL_eq]; simp
          have hdd := depth_all hal.2
          refine call_min_walkH (iter_listW (A := X.A.in1) (I.ok.hd hc) hl.isList fun s₂ e W' st hfp hw hk => ?_)
          refine ⟨_, _, _, _, _, _, _, s.heap, _, rfl, W', st, hfp, by omega, hw, hk, cmpIn_lt (A := X.A.in1) hr' (alikeAll_of hal.1) (by show X.A.units + 1 + _ < _; omega), fun v s' hP m => ?_⟩
          obtain ⟨h', tk, rfl, hk'⟩ := moved_old e rfl m
          have e0 := (argBest_fold (fun x y => dataLt (toPy x) (toPy y)) D.non d0 dr dr.length (Nat.le_refl _))
          have e2 := e0.2
          have e3 := e0.1
          have eb : (fun i j => dataLt ((toPyL (d0 :: dr)).getD i .none) ((toPyL (d0 :: dr)).getD j .none)) = fun i j => dataLt (toPy ((d0 :: dr).getD i .non)) (toPy ((d0 :: dr).getD j .non)) := by
            funext i j; rw [getD_toPyL, getD_toPyL]
          rw [List.take_length] at e2
          have e1 : its.toArray.size - 1 = dr.length := by omega
          rw [e1, eb] at hP
          generalize hb : argBest (fun i j => dataLt (toPy ((d0 :: dr).getD i .non)) (toPy ((d0 :: dr).getD j .non))) dr.length = b at hP e2 e3
          have hlt : b < (d0 :: dr).length := by simp; omega
          have hd : (d0 :: dr)[b]? = some d := by
            rw [List.getD_eq_getElem?_getD, List.getElem?_eq_getElem hlt] at e2
            rw [List.getElem?_eq_getElem hlt]
            have : some _ = some d := hg
            rw [← this]
            exact congrArg some e2
          obtain ⟨x, hx, rd⟩ := r1.get hd
          obtain ⟨u, hu', ru⟩ := Vals.get rv hx
          have : v = u := by
            have hP' : its[b]? = some v := by simpa using hP
            rw [hu'] at hP'
            exact (Option.some.inj hP').symm
          subst this
          exact ⟨x, W.H, I.kept hk', ru, k _ W R .refl rd⟩
      · cases hg
    · cases hg
  · cases hg
theorem ok_maxG {X : Cx} (hK : X.K = B.K) (hc : X.calm = true) (hu : X.A.units + 200 < cLine) : CallOk X B e (.builtin "max") fMaxG := by
  intro pins s σ τ xs us W env S ds d Q I rx R x1 hg k
  unfold fMaxG at hg
  split at hg
  · rename_i i j
    cases hg
    obtain ⟨v, u, rfl, h1, h2⟩ := repXL2 x1
    refine call_max2 hc pins s σ W.H _ us Q I rx ⟨i, j, by rw [show v = .int _ from h1, show u = .int _ from h2], ?_⟩
    have e : (if j > i then j else i) = max i j := by split <;> omega
    rw [e]
    exact k _ W R .refl rfl
  · split at hg
    · rename_i ds' hq
      split at hg
      · rename_i hal
        rw [Bool.and_eq_true] at hal
        cases ds' with
        | nil => cases hg
        | cons d0 dr =>
          obtain ⟨v, rfl, h1⟩ := repXL1 x1
          obtain ⟨a, vs, rfl, s1, r1⟩ := R.seq h1 hq
          obtain ⟨its, rv, hl, _⟩ := I.list (by rw [hK]; exact s1)
          obtain ⟨p1, _⟩ := Rep.dpL R.sub hal.2 r1
          obtain ⟨as, hr⟩ := Dp.readsAll I _ _ _ (by rw [hK]; exact p1) rv
          rw [Vals.ref1 rx]
          have hr' : ReadsAll s.heap its.toArray.toList (toPyL (d0 :: dr)) as := hr
          have hn : its.toArray.size = dr.length + 1 := by rw [readsAll_len hr', toPyL_eq]; simp
          have hdd := depth_all hal.2
          refine call_max_walkH (iter_listW (A := X.A.in1) (I.ok.hd hc) hl.isList fun s₂ e W' st hfp hw hk => ?_)
          refine ⟨_, _, _, _, _, _, _, s.heap, _, rfl, W', st, hfp, by omega, hw, hk, cmpIn_gt (A := X.A.in1) hr' (alikeAll_of hal.1) (by show X.A.units + 1 + _ < _; omega), fun v s' hP m => ?_⟩
          obtain ⟨h', tk, rfl, hk'⟩ := moved_old e rfl m
          have e0 := (argBest_fold (fun x y => dataLt (toPy y) (toPy x)) D.non d0 dr dr.length (Nat.le_refl _))
          have e2 := e0.2
          have e3 := e0.1
          have eb : (fun i j => dataLt ((toPyL (d0 :: dr)).getD j .none) ((toPyL (d0 :: dr)).getD i .none)) = fun i j => dataLt (toPy ((d0 :: dr).getD j .non)) (toPy ((d0 :: dr).getD i .non)) := by
            funext i j; rw [getD_toPyL, getD_toPyL]
          rw [List.take_length] at e2
          have e1 : its.toArray.size - 1 = dr.length := by omega
          rw [e1, eb] at hP
          generalize hb : argBest (fun i j => dataLt (toPy ((d0 :: dr).getD j .non)) (toPy ((d0 :: dr).getD i .non))) dr.length = b at hP e2 e3
          have hlt : b < (d0 :: dr).length := by simp; omega
          have hd : (d0 :: dr)[b]? = some d := by
            rw [List.getD_eq_getElem?_getD, List.getElem?_eq_getElem hlt] at e2
            rw [List.getElem?_eq_getElem hlt]
            have : some _ = some d := hg
            rw [← this]
            exact congrArg some e2
          obtain ⟨x, hx, rd⟩ := r1.get hd
          obtain ⟨u, hu', ru⟩ := Vals.get rv hx
          have : v = u := by
            have hP' : its[b]? = some v := by simpa using hP
            rw [hu'] at hP'
            exact (Option.some.inj hP').symm
          subst this
          exact ⟨x, W.H, I.kept hk', ru, k _ W R .refl rd⟩
      · cases hg
    · cases hg
  · cases hg
variable {es : List Expr} {f : AF} {a : Expr} {p pos : Pos}
theorem se_maxG (hm : B.mg "max" = none) (ha : SA B G e (a :: es) f) (hg : G.sc.names.lookup ("max" : Str) = some NameKind.globalImplicit := by rfl) (hc : G.calm = true := by rfl) : SE B G e (.Call (.Name "max" p) (a :: es) [] pos) (eCall fMaxG f) := se_callB (fun X wx C => ok_maxG C.K (C.calm hc) C.un) hm (by decide +kernel) ha hg
theorem se_minG (hm : B.mg "min" = none) (ha : SA B G e (a :: es) f) (hg : G.sc.names.lookup ("min" : Str) = some NameKind.globalImplicit := by rfl) (hc : G.calm = true := by rfl) : SE B G e (.Call (.Name "min" p) (a :: es) [] pos) (eCall fMinG f) := se_callB (fun X wx C => ok_minG C.K (C.calm hc) C.un) hm (by decide +kernel) ha hg
end
end Ev

/-! Ev27: extend, join. -/
namespace Ev
open PySem L2 PyProof.Rows
section
variable {B : Base} {G : Gc} {e : En} {K : PySem.W.Frag} {cl : Str → Option Addr} {wx : WX} {W W1 : Wd} {σ : L2.St} {env : List Slot} {S S1 : List Cell} {Q : VK}
/-- the items of what is handed to extend -/
def arrOf (env : List Slot) (S : List Cell) (y : XD) : Option (List D) := match y with
  | .dat (.lst es) => some es
  | y => match plOf y with
    | some p => lstAt env S p
    | none => none
theorem arrOf_H {m : Nat} {y : XD} {v : V} {es : List Ev.D} (R : FRel K cl e W σ env S) (r : RepX K W S.length y v) (h : arrOf env S y = some es) : ∃ a vs, v = .ref a ∧ W.H a = some (.lst vs) ∧ RepL K W.F W.ρ S.length es vs := by
  unfold arrOf at h
  split at h
  · cases h
    obtain ⟨a, vs, rfl, h1, h2⟩ := r
    exact ⟨a, vs, rfl, R.sub _ _ h1, h2⟩
  · cases hp : plOf y with
    | none => rw [hp] at h; cases h
    | some p =>
      rw [hp] at h
      obtain ⟨vs, h1, h2⟩ := lstAt_H R h
      exact ⟨_, vs, plOf_ref r hp, h1, h2⟩
def sExt (fo fa : EF) : SF := fun env S => (fo env S).then env fun x S1 => match plOf x with
  | some p => match lstAt env S1 p with
    | some _ => (fa env S1).then env fun y S2 => match arrOf env S2 y with
      | some es => match lstAt env S2 p with
        | some ds => if ds.length + es.length ≤ sizeLine then putL env S2 p (ds ++ es) else .bot
        | none => .bot
      | none => .bot
    | none => .bot
  | none => .bot
theorem ext_read {fo fa : EF} {D : Ends} {H : Hp}
    (h : tS K cl e wx (sExt fo fa) D σ H) : tE K cl e wx fo σ H fun x H1 => tyV K "list" x H1 ∧ tCons (tE K cl e wx fa) tNil σ H1 fun xs H2 => rExtend x xs H2 fun _ H3 => D.nx σ H3 := by
  obtain ⟨W, env, S, rfl, R, q⟩ := h
  refine ⟨W, env, S, rfl, R, postS.then q fun x S1 v W1 R1 s1 r1 q1 => ?_⟩
  cases hp : plOf x with
  | none => rw [hp] at q1; exact q1.elim
  | some p =>
    rw [hp] at q1
    dsimp only at q1
    cases hl : lstAt env S1 p with
    | none => rw [hl] at q1; exact q1.elim
    | some ds0 =>
      rw [hl] at q1
      dsimp only at q1
      have ev := plOf_ref r1 hp
      subst ev
      obtain ⟨vs0, h0, _⟩ := lstAt_H R1 hl
      refine ⟨tyV_list (x := .ref (plAddr W1 p)) h0, W1, env, S1, rfl, R1, postS.then q1 fun y S2 u W2 R2 s2 r2 q2 => ?_⟩
      cases ha : arrOf env S2 y with
      | none => rw [ha] at q2; exact q2.elim
      | some es =>
        rw [ha] at q2
        dsimp only at q2
        cases hl2 : lstAt env S2 p with
        | none => rw [hl2] at q2; exact q2.elim
        | some ds =>
          rw [hl2] at q2
          dsimp only at q2
          by_cases hz : ds.length + es.length ≤ sizeLine
          · rw [if_pos hz] at q2
            obtain ⟨vs, h3, r3⟩ := lstAt_H R2 hl2
            obtain ⟨b, zs, rfl, h4, r4⟩ := arrOf_H (m := 0) R2 r2 ha
            have ea := plAddr_step r1 hp s2
            rw [← ea]
            exact ⟨_, b, vs, zs, rfl, rfl, h3, h4, by rw [← r3.length, ← r4.length]; exact hz, putL_post R2 hl2 (RepL.append r3 r4) q2⟩
          · rw [if_neg hz] at q2; exact q2.elim
theorem ss_ext {o a : Expr} {fo fa : EF} {ap cp pos : Pos} (ho : SE B G e o fo) (ha : SE B G e a fa) (hl : (ap.endLine == cp.line) = true := by rfl) : SS B G e (.Expr (.Call (.Attribute o "extend" ap) [a] [] cp) pos) (sExt fo fa) := by
  refine ⟨fun X wx C => PS.imp (ps_expr (pe_bm PySem.F.plainAttrs_list PySem.F.slot_list_extend PySem.F.type_list_extend mt_extend (ho.run X wx C) (pa_cons (ha.run X wx C) pa_nil (ha.pl.ns [] _)) (ho.pl.ab _ _) (by rw [ha.pl.ns]; rfl) hl (ha.pl.ns [] _) rfl) rfl) fun D σ H h => ?_⟩
  rw [C.K]
  exact ext_read h
/-- texts joined -/
def eJoin (fo fa : EF) : EF := fun env S => (fo env S).bind fun x S1 => (match x with
  | .dat (.str z) => (fa env S1).bind fun y S2 => (match seqOf env S2 y with
    | some (_, ds) => (match strsOf ds with
      | some zs => if (zs.map List.length).sum + zs.length * z.length ≤ 16777216 ∧ strOk (TL.joinL z zs) = true then .val (.dat (.str (TL.joinL z zs))) S2 else .bot
      | none => .bot)
    | none => .bot)
  | _ => .bot)
theorem se_join {o a : Expr} {fo fa : EF} {ap cp : Pos} (ho : SE B G e o fo) (ha : SE B G e a fa) (hl : (ap.endLine == cp.line) = true := by rfl) : SE B G e (.Call (.Attribute o "join" ap) [a] [] cp) (eJoin fo fa) := by
  refine ⟨fun X wx C => PE.imp (pe_join (ho.run X wx C) (ha.run X wx C) (ha.pl.ns [] _) (ho.pl.ab _ _) hl) fun σ H Q ⟨W, env, S, hH, R, q⟩ => ?_, plMeth⟩
  subst hH
  refine ⟨W, env, S, rfl, R, postG.seq q fun x S1 v W1 R1 s1 r1 q1 => ?_⟩
  cases x with
  | loc i => exact q1.elim
  | dat d =>
    cases d with
    | str z =>
      obtain ⟨rfl, hz⟩ := r1
      refine ⟨⟨_, rfl⟩, W1, env, S1, rfl, R1, postG.seq q1 fun y S2 u W2 R2 s2 r2 q2 => ?_⟩
      cases hs : seqOf env S2 y with
      | none => rw [hs] at q2; exact q2.elim
      | some kd =>
        obtain ⟨k, ds⟩ := kd
        rw [hs] at q2
        dsimp only at q2
        cases hd : strsOf ds with
        | none => rw [hd] at q2; exact q2.elim
        | some zs =>
          rw [hd] at q2
          dsimp only at q2
          by_cases hc : (zs.map List.length).sum + zs.length * z.length ≤ 16777216 ∧ strOk (TL.joinL z zs) = true
          · rw [if_pos hc] at q2
            obtain ⟨a, vs, rfl, h1, h2⟩ := R2.seq r2 hs
            rw [strsOf_eq hd] at h2
            have ev := (RepL.of_strs h2).1
            rw [ev] at h1
            refine ⟨_, a, zs.map fun x => ⟨x.toArray⟩, rfl, rfl, ?_, ?_, ?_⟩
            · rw [C.K]
              cases k
              · exact .inl h1
              · exact .inr h1
            · have e1 : (zs.map fun x => (⟨x.toArray⟩ : Str)).map (·.length) = zs.map List.length := by
                rw [List.map_map]
                exact List.map_congr_left fun x _ => by simp [Str.length]
              have e2 : (⟨z.toArray⟩ : Str).length = z.length := by simp [Str.length]
              rw [e1, e2, List.length_map]
              exact hc.1
            · rw [SX.join_S]
              exact q2 _ W2 R2 .refl ⟨rfl, hc.2⟩
          · rw [if_neg hc] at q2; exact q2.elim
    | _ => exact q1.elim
/-- a list, the other way round -/
def eRev (f : EF) : EF := fun env S => (f env S).bind fun x S1 => (match seqOf env S1 x with
  | some (.l, ds) => .val (.dat (.lst ds.reverse)) S1
  | _ => .bot)
theorem RepL.rev {F : Hp} {ρ : Nat → Addr} {m : Nat} : ∀ {ds : List D} {vs : List V}, RepL K F ρ m ds vs → RepL K F ρ m ds.reverse vs.reverse
  | [], _, h => by cases h; exact rfl
  | d :: ds, _, ⟨v, r, rfl, h1, h2⟩ => by
    rw [List.reverse_cons, List.reverse_cons]
    exact RepL.append (RepL.rev h2) (RepL.cons h1 RepL.nil)
theorem se_rev {a : Expr} {f : EF} {k : Nat} {p1 p2 p3 pos : Pos} (ha : SE B G e a f) : SE B G e (.Subscript a (.Slice none none (some (.UnaryOp .USub (.Constant (.int 1) k p1) p2)) p3) pos) (eRev f) := by
  refine ⟨fun X wx C => PE.imp (pe_revL (ha.run X wx C)) fun σ H Q ⟨W, env, S, hH, R, q⟩ => ?_, plSub⟩
  subst hH
  refine ⟨W, env, S, rfl, R, postG.seq q fun x S1 v W1 R1 s1 r1 q1 => ?_⟩
  split at q1
  · rename_i ds hs
    obtain ⟨a, vs, rfl, h1, h2⟩ := R1.seq r1 hs
    refine ⟨a, vs, rfl, by rw [C.K]; exact h1, fun p hn => ?_⟩
    obtain ⟨R', st⟩ := R1.alloc hn (.lst vs.reverse)
    exact q1 (.ref p) _ R' st ⟨p, vs.reverse, rfl, upd_same, RepL.rev (RepL.step h2 st)⟩
  · exact q1.elim
end
end Ev

/-! Ev28: new lists by +. -/
namespace Ev
open PySem L2 PyProof.Rows
section
variable {B : Base} {G : Gc} {e : En} {K : PySem.W.Frag} {cl : Str → Option Addr} {wx : WX} {W W1 : Wd} {σ : L2.St} {env : List Slot} {S S1 : List Cell} {Q : VK}
def nAdd (fa fb : EF) : NF := fun env S => (fa env S).bind fun x S1 => (fb env S1).bind fun y S2 => match lstOf env S2 x with
  | some a => (match lstOf env S2 y with
    | some b => if a.length + b.length ≤ sizeLine then .val (.lst (a ++ b)) S2 else .bot
    | none => .bot)
  | none => .bot
theorem sn_add {a b : Expr} {fa fb : EF} {pos : Pos} (ha : SE B G e a fa) (hb : SE B G e b fb) : SN B G e (.BinOp a .Add b pos) (nAdd fa fb) := by
  refine ⟨fun X wx C => PE.imp (pe_op op_cat (ha.run X wx C) (hb.run X wx C)) fun σ H Q ⟨W, env, S, hH, R, q⟩ => ?_, plBin⟩
  subst hH
  refine ⟨W, env, S, rfl, R, postN.seq q fun x S1 v W1 R1 s1 r1 q1 => ⟨W1, env, S1, rfl, R1, postN.seq q1 fun y S2 u W2 R2 s2 r2 q2 => ?_⟩⟩
  cases h1 : lstOf env S2 x with
  | none => rw [h1] at q2; exact q2.elim
  | some xs =>
    rw [h1] at q2
    dsimp only at q2
    cases h2 : lstOf env S2 y with
    | none => rw [h2] at q2; exact q2.elim
    | some ys =>
      rw [h2] at q2
      dsimp only at q2
      by_cases hz : xs.length + ys.length ≤ sizeLine
      · rw [if_pos hz] at q2
        obtain ⟨p1, v1, rfl, t1, l1⟩ := R2.lst (RepX.step r1 s2) h1
        obtain ⟨p2, v2, rfl, t2, l2⟩ := R2.lst r2 h2
        refine ⟨p1, p2, v1, v2, rfl, rfl, t1, t2, by rw [← l1.length, ← l2.length]; exact hz, fun p hp => ?_⟩
        obtain ⟨R', st⟩ := R2.lay hp (.lst (v1 ++ v2))
        exact q2 p _ R' st hp (R2.newAt hp ⟨_, upd_same, RepL.append l1 l2⟩)
      · rw [if_neg hz] at q2; exact q2.elim
/-- list(x), new -/
def nList (f : EF) : NF := fun env S => (f env S).bind fun x S1 => match seqOf env S1 x with
  | some (_, ds) => .val (.lst ds) S1
  | none => .bot
theorem sn_list {a : Expr} {f : EF} {p pos : Pos} (hm : B.mg "list" = none) (ha : SE B G e a f) (hg : G.sc.names.lookup ("list" : Str) = some NameKind.globalImplicit := by rfl) : SN B G e (.Call (.Name "list" p) [a] [] pos) (nList f) := by
  refine ⟨fun X wx C => PE.imp (pe_callTy call_list_of (C.gl hg) (by rw [C.mg]; exact hm) (by decide +kernel) (pa_cons (ha.run X wx C) pa_nil (ha.pl.ns [] _)) (by decide +kernel) (by decide +kernel) (ha.pl.ns [] _) rfl) fun σ H Q ⟨W, env, S, hH, R, q⟩ => ?_, plCall⟩
  subst hH
  refine ⟨W, env, S, rfl, R, postN.seq q fun x S1 v W1 R1 s1 r1 q1 => ?_⟩
  cases hs : seqOf env S1 x with
  | none => rw [hs] at q1; exact q1.elim
  | some kd =>
    obtain ⟨k, ds⟩ := kd
    rw [hs] at q1
    obtain ⟨a, vs, rfl, h1, h2⟩ := R1.seq r1 hs
    refine ⟨a, vs, rfl, ?_, fun l hl => ?_⟩
    · rw [C.K]
      cases k
      · exact .inl h1
      · exact .inr h1
    · obtain ⟨R', st⟩ := R1.lay hl (.lst vs)
      exact q1 l _ R' st hl (R1.newAt hl ⟨_, upd_same, h2⟩)
end
end Ev

/-! Ev29: a number's text. -/
namespace Ev
open PySem L2 PyProof.Rows
section
variable {B : Base} {G : Gc} {e : En}
/-- the signs of a number -/
def numS (i : Int) : List Nat := (Str.ofString (toString i)).cps.toList
def fStrc : List Slot → List Cell → List XD → Option D := fun _ _ xs => match xs with
  | [.dat (.int i)] => if i.natAbs.log2 < 1920 ∧ strOk (numS i) = true then some (.str (numS i)) else none
  | _ => none
theorem ok_strc {X : Cx} : CallOk X B e (.type "str") fStrc := by
  intro pins s σ τ xs us W env S ds d Q I rx R x1 hg k
  unfold fStrc at hg
  split at hg
  · rename_i i
    split at hg
    · rename_i h
      cases hg
      obtain ⟨v, rfl, h1⟩ := repXL1 x1
      refine call_str_int pins s σ W.H _ us Q I rx ⟨i, by rw [show v = .int _ from h1], h.1, ?_⟩
      exact k _ W R .refl ⟨rfl, h.2⟩
    · cases hg
  · cases hg
variable {es : List Expr} {f : AF} {a : Expr} {p pos : Pos}
theorem se_strc (hm : B.mg "str" = none) (ha : SA B G e (a :: es) f) (hg : G.sc.names.lookup ("str" : Str) = some NameKind.globalImplicit := by rfl) : SE B G e (.Call (.Name "str" p) (a :: es) [] pos) (eCall fStrc f) := se_callTy (fun X wx C => ok_strc) hm (by decide +kernel) ha hg
end
end Ev

/-! Ev30: texts and tuples repeated. -/
namespace Ev
open PySem L2 PyProof.Rows
section
variable {B : Base} {G : Gc} {e : En}
theorem foldl_arr {α : Type} (z : List α) : ∀ (n : Nat) (a : List α), (List.replicate n z.toArray).foldl (· ++ ·) a.toArray = (a ++ (List.replicate n z).flatten).toArray
  | 0, a => by simp
  | n + 1, a => by
    rw [List.replicate_succ, List.replicate_succ, List.foldl_cons, List.flatten_cons, ← List.append_assoc, ← foldl_arr z n (a ++ z)]
    congr 1
    simp
theorem mul_str_list {z : List Nat} {k : Int} (h : 0 ≤ k) : Txt.mul ⟨z.toArray⟩ k = ⟨(List.replicate k.toNat z).flatten.toArray⟩ := by
  unfold Txt.mul
  by_cases h1 : k < 1
  · have : k = 0 := by omega
    subst this
    simp [Str.empty]
  · rw [if_neg h1]
    by_cases h2 : (k == 1 || (⟨z.toArray⟩ : Str).length == 0) = true
    · rw [if_pos h2]
      rcases Bool.or_eq_true_iff.mp h2 with h3 | h3
      · have : k = 1 := by simpa using h3
        subst this
        simp [List.replicate]
      · have : z = [] := by
          have : z.length = 0 := by simpa [Str.length] using h3
          exact List.length_eq_zero_iff.mp this
        subst this
        simp
    · rw [if_neg h2]
      have := foldl_arr z k.toNat []
      simp only [List.nil_append] at this
      rw [← this]
theorem strOk_rep {z : List Nat} (h : strOk z = true) : ∀ n, strOk (List.replicate n z).flatten = true
  | 0 => rfl
  | n + 1 => by
    have := strOk_rep h n
    unfold strOk at *
    rw [List.replicate_succ, List.flatten_cons, List.all_append, h, this]; rfl
def gMulA : List Slot → List Cell → XD → XD → Option D := fun env S x y => match x, y with
  | .dat (.str z), .dat (.int k) => if 0 ≤ k ∧ k ≤ 4095 ∧ z.length ≤ 4095 then some (.str (List.replicate k.toNat z).flatten) else none
  | .dat (.tup ds), .dat (.int k) => if ds ≠ [] ∧ 2 ≤ k ∧ k ≤ 1000 ∧ ds.length ≤ 1000 then some (.tup (List.replicate k.toNat ds).flatten) else none
  | x, y => gMul env S x y
theorem ok_mulA {X : Cx} (hK : X.K = B.K) : OpOk X B e (binaryOp .Mult) gMulA := by
  intro pins s σ τ x y v u W env S dx dy d Q I rx ry R x1 x2 hg k
  unfold gMulA at hg
  split at hg
  · rename_i z j
    split at hg
    · rename_i hc
      cases hg
      obtain ⟨e1, hz⟩ : x = .str ⟨z.toArray⟩ ∧ strOk z = true := x1
      have e2 : y = .int _ := x2
      subst e1 e2
      obtain ⟨t, rfl⟩ := rx
      obtain ⟨t', rfl⟩ := ry
      refine SB.mul (mulOk_of 4095 4095 (by simpa [Str.length] using hc.2.2) (by omega) (by omega) (by decide) (by decide)) fun t2 k2 => ?_
      rw [mul_str_list hc.1]
      exact ⟨.str _, W.H, I.tok _, ⟨_, rfl⟩, k _ W R .refl ⟨rfl, strOk_rep hz _⟩⟩
    · cases hg
  · rename_i ds j
    split at hg
    · rename_i hc
      cases hg
      obtain ⟨a, vs, rfl, s1, r1⟩ : ∃ a vs, x = .ref a ∧ SqT B.K W.F a vs ∧ RepL B.K W.F W.ρ S.length ds vs := x1
      have e2 : y = .int _ := x2
      refine op_repT pins s σ W.H _ _ v u Q I rx ry ⟨a, _, vs, rfl, e2, by rw [hK]; exact Same.sqT R.sub s1, ?_, hc.2.1, hc.2.2.1, by rw [← r1.length]; exact hc.2.2.2, fun p hp => ?_⟩
      · intro z
        subst z
        exact hc.1 (List.length_eq_zero_iff.mp r1.length)
      · obtain ⟨R', st⟩ := R.alloc hp (.tup (List.replicate _ vs).flatten)
        exact k _ _ R' st ⟨p, _, rfl, .inl (.inl upd_same), RepL.step (RepL.replicate r1 _) st⟩
    · cases hg
  · exact ok_mul pins s σ τ x y v u W env S dx dy d Q I rx ry R x1 x2 hg k
theorem se_mulA {a b : Expr} {fa fb : EF} {pos : Pos} (ha : SE B G e a fa) (hb : SE B G e b fb) : SE B G e (.BinOp a .Mult b pos) (e2 gMulA fa fb) := se_op (fun X wx C => ok_mulA C.K) ha hb
end
end Ev

/-! Ev31: is, is not, of truth values. -/
namespace Ev
open PySem L2 PyProof.Rows
section
variable {B : Base} {G : Gc} {e : En}
def cIsB : List Slot → List Cell → XD → XD → Option Bool := fun _ _ x y => match x, y with
  | .dat (.bl a), .dat (.bl b) => some (decide (a = b))
  | _, _ => none
def cNotB : List Slot → List Cell → XD → XD → Option Bool := fun env S x y => (cIsB env S x y).map (!·)
theorem ok_isB {X : Cx} : OpOk X B e (compareOp .Is) (gB cIsB) := by
  intro pins s σ τ x y v u W env S dx dy d Q I rx ry R x1 x2 hg k
  unfold gB cIsB at hg
  split at hg
  · rename_i a c
    cases hg
    have e1 : x = .bl a := x1
    have e2 : y = .bl c := x2
    exact op_isBl pins s σ W.H x y v u Q I rx ry ⟨a, c, e1, e2, k _ W R .refl rfl⟩
  · cases hg
theorem ok_isnotB {X : Cx} : OpOk X B e (compareOp .IsNot) (gB cNotB) := by
  intro pins s σ τ x y v u W env S dx dy d Q I rx ry R x1 x2 hg k
  unfold gB cNotB cIsB at hg
  split at hg
  · rename_i a c
    cases hg
    have e1 : x = .bl a := x1
    have e2 : y = .bl c := x2
    exact op_notBl pins s σ W.H x y v u Q I rx ry ⟨a, c, e1, e2, k _ W R .refl rfl⟩
  · cases hg
variable {a b : Expr} {fa fb : EF} {pos : Pos}
theorem se_isB (ha : SE B G e a fa) (hb : SE B G e b fb) : SE B G e (.Compare a [.Is] [b] pos) (e2 (gB cIsB) fa fb) := se_cmp (fun X wx C => ok_isB) ha hb
theorem se_isnotB (ha : SE B G e a fa) (hb : SE B G e b fb) : SE B G e (.Compare a [.IsNot] [b] pos) (e2 (gB cNotB) fa fb) := se_cmp (fun X wx C => ok_isnotB) ha hb
theorem st_isB (ha : SE B G e a fa) (hb : SE B G e b fb) : ST B G e (.Compare a [.Is] [b] pos) (bT (e2 (gB cIsB) fa fb)) := st_cmp (fun X wx C => ok_isB) ha hb
theorem st_isnotB (ha : SE B G e a fa) (hb : SE B G e b fb) : ST B G e (.Compare a [.IsNot] [b] pos) (bT (e2 (gB cNotB) fa fb)) := st_cmp (fun X wx C => ok_isnotB) ha hb
end
end Ev

/-! Ev32: methods of texts with one text: strip, index, find. -/
namespace Ev
open PySem L2 PyProof.Rows
section
variable {B : Base} {G : Gc} {e : En}
def eS1 (g : List Nat → List Nat → Option D) (fo fa : EF) : EF := fun env S => (fo env S).bind fun x S1 => (match x with
  | .dat (.str a) => (fa env S1).bind fun y S2 => (match y with
    | .dat (.str b) => (match g a b with
      | some d => .val (.dat d) S2
      | none => .bot)
    | _ => .bot)
  | _ => .bot)
theorem s1_read {K : PySem.W.Frag} {cl : Str → Option Addr} {wx : WX} {g : List Nat → List Nat → Option D} {fo fa : EF} {r : V → List V → Hp → VK → Prop}
    (hr : ∀ (a b : List Nat) (d : D), strOk a = true → g a b = some d → ∃ v : V, (∀ F ρ m, Rep K F ρ m d v) ∧ ∀ H Q, Q v H → r (.str ⟨a.toArray⟩) [.str ⟨b.toArray⟩] H Q)
    {σ : L2.St} {H : Hp} {Q : VK} (h : tE K cl e wx (eS1 g fo fa) σ H Q) : tM1 r (tE K cl e wx fo) (tE K cl e wx fa) σ H Q := by
  obtain ⟨W, env, S, rfl, R, q⟩ := h
  refine ⟨W, env, S, rfl, R, postG.seq q fun x S1 v W1 R1 s1 r1 q1 => ?_⟩
  cases x with
  | loc i => exact q1.elim
  | dat d =>
    cases d with
    | str z =>
      obtain ⟨rfl, hz⟩ := r1
      refine ⟨⟨_, rfl⟩, W1, env, S1, rfl, R1, postG.seq q1 fun y S2 u W2 R2 s2 r2 q2 => ?_⟩
      cases y with
      | loc i => exact q2.elim
      | dat d' =>
        cases d' with
        | str z' =>
          obtain ⟨rfl, hz'⟩ := r2
          dsimp only at q2
          cases hg : g z z' with
          | none => rw [hg] at q2; exact q2.elim
          | some d'' =>
            rw [hg] at q2
            obtain ⟨v, h1, h2⟩ := hr z z' d'' hz hg
            exact h2 _ _ (q2 v W2 R2 .refl (h1 _ _ _))
        | _ => exact q2.elim
    | _ => exact q1.elim
/-- the signs of b go from both ends of a -/
def stripL (a b : List Nat) : List Nat := (a.take (a.length - ((a.drop (a.takeWhile b.contains).length).reverse.takeWhile b.contains).length)).drop (a.takeWhile b.contains).length
theorem strip_eq (a b : List Nat) : Txt.stripChars ⟨a.toArray⟩ ⟨b.toArray⟩ = ⟨(stripL a b).toArray⟩ := by
  have hc : (fun c => b.toArray.contains c) = b.contains := by funext c; simp
  have hd : Txt.stripChars ⟨a.toArray⟩ ⟨b.toArray⟩ = Txt.stripBy (fun c => b.toArray.contains c) true true ⟨a.toArray⟩ := rfl
  rw [hd, hc]
  unfold Txt.stripBy stripSame stripped stripLo stripHi stripL Builtin.Str.strSub
  simp only [if_true, Str.length, List.size_toArray]
  split
  · rename_i h
    rw [Bool.and_eq_true, beq_iff_eq, beq_iff_eq] at h
    obtain ⟨h1, h2⟩ := h
    rw [h1] at h2
    rw [h1, h2]
    simp
  · congr 1
    apply Array.ext'
    simp [List.extract_eq_take_drop, List.drop_take]
theorem strip_ok {a b : List Nat} (h : strOk a = true) : strOk (stripL a b) = true := by
  unfold strOk at *
  rw [List.all_eq_true] at *
  intro x hx
  exact h x (List.mem_of_mem_take (List.mem_of_mem_drop hx))
def gStrip (a b : List Nat) : Option D := if a.length ≤ sizeLine then some (.str (stripL a b)) else none
theorem se_strip {o a : Expr} {fo fa : EF} {ap cp : Pos} (ho : SE B G e o fo) (ha : SE B G e a fa) (hl : (ap.endLine == cp.line) = true := by rfl) : SE B G e (.Call (.Attribute o "strip" ap) [a] [] cp) (eS1 gStrip fo fa) := by
  refine ⟨fun X wx C => PE.imp (pe_m1 F.slot_str_strip F.type_str_strip mt_stripChars (ho.run X wx C) (ha.run X wx C) (ha.pl.ns [] _) (ho.pl.ab _ _) hl) fun σ H Q h => s1_read (fun a b d hz hg => ?_) h, plMeth⟩
  unfold gStrip at hg
  split at hg
  · rename_i hc
    cases hg
    refine ⟨.str ⟨(stripL a b).toArray⟩, fun _ _ _ => ⟨rfl, strip_ok hz⟩, fun H Q q => ⟨_, _, rfl, rfl, by simpa [Str.length] using hc, ?_⟩⟩
    rw [strip_eq]; exact q
  · cases hg
/-- one sign's first place -/
theorem occ_full (x y : Str) (hi : Nat) : ∀ (l : List Nat) (st : Array Nat × Nat), 1 ≤ st.fst.size → (forIn l st (StrLaws.occBody x y hi 1)).run.fst = st.fst
  | [], st, h => rfl
  | a :: l, st, h => by
    rw [List.forIn_cons]
    unfold StrLaws.occBody
    rw [if_neg (fun z => by have := z.1.1.1; omega)]
    exact occ_full x y hi l _ h
theorem occ_find (x y : Str) (hi : Nat) (P : Nat → Bool) (hP : ∀ i, P i = true ↔ i + y.length ≤ hi ∧ Builtin.Str.subAt x y i = true) : ∀ (l : List Nat) (free : Nat), (∀ i ∈ l, free ≤ i) →
    (forIn l ((#[] : Array Nat), free) (StrLaws.occBody x y hi 1)).run.fst = match l.find? P with | some i => #[i] | none => #[]
  | [], free, _ => rfl
  | a :: l, free, hf => by
    rw [List.forIn_cons]
    unfold StrLaws.occBody
    have ha : free ≤ a := hf a List.mem_cons_self
    by_cases hc : P a = true
    · have h := (hP a).mp hc
      rw [if_pos ⟨⟨⟨by simp, ha⟩, h.1⟩, h.2⟩, List.find?_cons_of_pos hc]
      exact occ_full x y hi l _ (by simp)
    · rw [if_neg (fun z => hc ((hP a).mpr ⟨z.1.2, z.2⟩)), List.find?_cons_of_neg hc]
      exact occ_find x y hi P hP l free fun i hi' => hf i (List.mem_cons_of_mem _ hi')
theorem find_idx {a : List Nat} {c : Nat} {n : Nat} (hn : a.length ≤ n) : (List.range' 0 n).find? (fun i => decide (a[i]? = some c)) = if c ∈ a then some (a.idxOf c) else none := by
  rw [← List.range_eq_range']
  by_cases h : c ∈ a
  · rw [if_pos h, List.find?_range_eq_some]
    have hl : a.idxOf c < a.length := List.idxOf_lt_length_iff.mpr h
    refine ⟨?_, List.mem_range.mpr (by omega), fun j hj => ?_⟩
    · rw [decide_eq_true_eq, List.getElem?_eq_getElem hl, List.getElem_idxOf hl]
    · rw [Bool.not_eq_true', decide_eq_false_iff_not]
      intro z
      obtain ⟨hj2, e⟩ := List.getElem?_eq_some_iff.mp z
      have := List.not_of_lt_findIdx (p := (· == c)) (xs := a) (i := j) hj
      simp [e] at this
  · rw [if_neg h, List.find?_eq_none]
    intro i _ z
    obtain ⟨hj2, e⟩ := List.getElem?_eq_some_iff.mp (of_decide_eq_true z)
    exact h (e ▸ List.getElem_mem hj2)
theorem occ_one (a : List Nat) (c : Nat) : Builtin.Str.occurrences ⟨a.toArray⟩ ⟨[c].toArray⟩ 0 (Str.length ⟨a.toArray⟩) 1 = if c ∈ a then [a.idxOf c] else [] := by
  rw [StrLaws.occ_eq, occ_find _ _ _ (fun i => decide (a[i]? = some c)) (fun i => by rw [decide_eq_true_eq]; have := StrLaws.subAt_one ⟨a.toArray⟩ c i; simpa using this.symm) _ 0 (fun _ _ => Nat.zero_le _)]
  rw [find_idx (by simp [Str.length])]
  split
  · rename_i i h; split at h <;> simp_all
  · rename_i h; split at h <;> simp_all
def gIndex (a b : List Nat) : Option D := match b with
  | [c] => if c ∈ a then some (.int (a.idxOf c : Nat)) else none
  | _ => none
theorem se_sindex {o a : Expr} {fo fa : EF} {ap cp : Pos} (ho : SE B G e o fo) (ha : SE B G e a fa) (hl : (ap.endLine == cp.line) = true := by rfl) : SE B G e (.Call (.Attribute o "index" ap) [a] [] cp) (eS1 gIndex fo fa) := by
  refine ⟨fun X wx C => PE.imp (pe_m1 F.slot_str_index F.type_str_index mt_sindex (ho.run X wx C) (ha.run X wx C) (ha.pl.ns [] _) (ho.pl.ab _ _) hl) fun σ H Q h => s1_read (fun a b d hz hg => ?_) h, plMeth⟩
  unfold gIndex at hg
  split at hg
  · rename_i c
    split at hg
    · rename_i hc
      cases hg
      exact ⟨.int _, fun _ _ _ => rfl, fun H Q q => ⟨_, _, a.idxOf c, [], rfl, rfl, by rw [occ_one, if_pos hc], q⟩⟩
    · cases hg
  · cases hg
def gFind (a b : List Nat) : Option D := match b with
  | [c] => some (.int (if c ∈ a then (a.idxOf c : Nat) else -1))
  | _ => none
theorem se_sfind {o a : Expr} {fo fa : EF} {ap cp : Pos} (ho : SE B G e o fo) (ha : SE B G e a fa) (hl : (ap.endLine == cp.line) = true := by rfl) : SE B G e (.Call (.Attribute o "find" ap) [a] [] cp) (eS1 gFind fo fa) := by
  refine ⟨fun X wx C => PE.imp (pe_m1 F.slot_str_find F.type_str_find mt_find (ho.run X wx C) (ha.run X wx C) (ha.pl.ns [] _) (ho.pl.ab _ _) hl) fun σ H Q h => s1_read (fun a b d hz hg => ?_) h, plMeth⟩
  unfold gFind at hg
  split at hg
  · rename_i c
    cases hg
    refine ⟨.int _, fun _ _ _ => rfl, fun H Q q => ⟨_, _, rfl, rfl, ?_⟩⟩
    unfold Txt.find
    rw [occ_one]
    by_cases hc : c ∈ a
    · rw [if_pos hc]; rw [if_pos hc] at q; exact q
    · rw [if_neg hc]; rw [if_neg hc] at q; exact q
  · cases hg
end
end Ev

/-! Ev33: bytes([n]).decode('ascii'). -/
namespace Ev
open PySem L2 PyProof.Rows PySem.W Builtin
theorem asc_entry (c : UInt8) (t u : Tok) : «bytes.decode» ⟨[.bytes #[c] t, .str (Str.ofString "ascii") u], []⟩ = (mkStr (Str.ofString "utf-8") >>= fun _ => mkStr (Str.ofString "ascii") >>= fun e => mkStr (Str.ofString "bytes.decode") >>= fun d =>
    call (.builtin "_codecs.decode.text") [.bytes #[c] t, e, .none, d] >>= fun v => ret v) := by kernel_rfl
theorem asc_road (id : String) (b : Array UInt8) : _codecs.decodeRoad id b (Str.ofString "ascii") none [] = (_codecs.runDecoder id _codecs.asciiDecoder none true b 0 [] >>= fun r => mkStr ⟨r.1⟩) := by kernel_rfl
theorem asc_run (id : String) (c : UInt8) (hc : c.toNat < 128) : _codecs.runDecoder id _codecs.asciiDecoder none true #[c] 0 [] = pure (#[c.toNat], 1) := by
  have hf : _codecs.asciiDecoder.find true #[c] 0 = .char c.toNat 1 := by
    show (if (#[c].getD 0 0).toNat < 128 then _ else _) = _
    rw [if_pos (show (#[c].getD 0 0).toNat < 128 from hc)]
    rfl
  have hz : ¬(#[] : Array Nat).size > sizeLine := by simp
  unfold _codecs.runDecoder
  refine (KBdo.loop_bind (mk := fun p => ((p, if p = 0 then #[] else #[c.toNat], ({} : _codecs.Faults)) : Nat × Array Nat × _codecs.Faults)) (n := (#[c] : Array UInt8).size) (fun x p hp => ?_)).trans ?_
  · have hp0 : p = 0 := by have : p < 1 := hp; omega
    subst hp0
    simp [hf, hz]
    rfl
  · rfl
theorem asc_text {c : UInt8} (hc : c.toNat < 128) (t t1 t2 : Tok) : Meets («_codecs.decode.text» ⟨[.bytes #[c] t, .str (Str.ofString "ascii") t1, .none, .str (Str.ofString "bytes.decode") t2], []⟩) (fun _ R s => R (.ok (.ret (.str ⟨#[c.toNat]⟩ s.toks))) { s with toks := s.toks + 1 }) := by
  refine .of_wp fun prog w A R s hS => ?_
  show wpAny _ _ (Bytes.bytesLike _ (.bytes #[c] t) >>= fun _ => _) _ _ s
  refine wpAny_bind (wpAny_of_eq KBd.like_eq (wpAny_bind (wpAny_of_eq KBd.held_eq ?_)))
  show wpAny _ _ (_codecs.decodeRoad _ #[c] (Str.ofString "ascii") none [] >>= fun _ => _) _ _ s
  rw [asc_road, asc_run _ _ hc]
  exact wpAny_bind (wpAny_bind (wpAny_pure (wpAny_mkStr (wpAny_pure ⟨_, rfl, hS⟩) (by rw [sizeLine_eq]; show 1 ≤ _; omega))))
theorem asc_meets {c : UInt8} (hc : c.toNat < 128) (t u : Tok) : Meets («bytes.decode» ⟨[.bytes #[c] t, .str (Str.ofString "ascii") u], []⟩) (fun _ R s => ∀ t' k, R (.ok (.ret (.str ⟨#[c.toNat]⟩ t'))) { s with toks := k }) := by
  refine .of_wp fun prog w A R s hS => ?_
  rw [asc_entry]
  refine wpAny_bind (wpAny_mkStr (wpAny_bind (wpAny_mkStr (wpAny_bind (wpAny_mkStr (wpAny_bind ?_) (by decide))) (by decide))) (by decide))
  exact call_function_meets KBd.kind_text KBd.plain_text KBd.entry_text (KBd.args_text _ _ _ _) (asc_text hc _ _ _) (wpAny_pure ⟨_, rfl, hS _ _⟩)
theorem asc_args (a b : Value) : argsOk "bytes.decode" ⟨[a, b], []⟩ := by unfold argsOk; kernel_rfl
def rDec : V → List V → Hp → VK → Prop := fun x xs H Q => ∃ c : UInt8, x = .byt #[c] ∧ xs = [.str (Str.ofString "ascii")] ∧ c.toNat < 128 ∧ Q (.str ⟨#[c.toNat]⟩) H
theorem mt_asc {X : Cx} : MtR X "bytes.decode" rDec := by
  intro pins s σ H x xs v us Q I rx rxs h
  obtain ⟨c, rfl, rfl, hc, q⟩ := h
  obtain ⟨t, rfl⟩ := (show ∃ t, v = Value.bytes #[c] t from rx)
  obtain ⟨u, rfl, t1, rfl⟩ := vals1 rxs
  exact PySem.call_meets FB.slot_bytes_decode (PySem.W.typeIs_bytes s #[c] t) FB.entry_bytes_decode (asc_args _ _) (asc_meets hc _ _) fun t' k => ⟨.str _, H, I.tok k, ⟨_, rfl⟩, q⟩
theorem call_bytes_lst {X : Cx} (hc : X.calm = true) : CallR X (.type "bytes") (fun xs H Q => ∃ p, ∃ c : Int, xs = [.ref p] ∧ SqL X.K H p [V.int c] ∧ 0 ≤ c ∧ c < 256 ∧ Q (.byt (byteArr [c])) H) := by
  intro pins s σ H xs us Q I r h
  obtain ⟨p, c, rfl, hs, h0, h1, q⟩ := h
  obtain ⟨u, rfl, ru⟩ := vals1 r
  obtain rfl : u = Value.ref p := ru
  obtain ⟨its, rv, pl, hz⟩ := I.list hs
  exact PySem.call_bytes_ints pl.isList (ints_of_vals (ns := [c]) rv) (fun n hn => by rw [List.mem_singleton] at hn; subst hn; exact ⟨h0, h1⟩) (by rw [← rv.length, sizeLine_eq]; show 1 ≤ _; omega) (I.ok.hd hc) fun h' t k hk => ⟨.byt (byteArr [c]), H, I.kept hk, ⟨_, rfl⟩, q⟩
section
variable {X : Cx} {to te : TE} {o e : Expr} {apos pos : Pos}
/-- b.decode('ascii') -/
theorem pe_asc (ho : PE X o to) (he : PE X e te) (hs : starEach [e] X.env = [(false, eval e X.env)] := by rfl) (hb : attributeBase o "decode" X.env (eval o X.env) = eval o X.env := by rfl) (hl : (apos.endLine == pos.line) = true := by rfl) :
    PE X (.Call (.Attribute o "decode" apos) [e] [] pos) (fun σ H Q => to σ H fun x H1 => (∃ b, x = .byt b) ∧ te σ H1 fun y H2 => rDec x [y] H2 Q) := by
  refine ⟨fun pins s σ H Q I h => PySem.Call_method1 hb hs hl (thn (ho.run pins s σ H _ I h) fun v s1 ⟨x, H1, I1, r1, ⟨b, hx⟩, q1⟩ => ?_)⟩
  subst hx
  obtain ⟨t, rfl⟩ := (show ∃ t, v = Value.bytes b t from r1)
  refine ⟨"bytes", _, FB.plainAttrs_bytes, FB.slot_bytes_decode, FB.type_bytes_decode, PySem.W.typeIs_bytes _ _ _, (fun _ z => nomatch z), Calls.callWith_builtin rfl (Calls.evalArgs_plain (Calls.spliced_cons (thn (he.run pins s1 σ H1 _ I1 q1) fun u s2 ⟨y, H2, I2, r2, q2⟩ => ?_)))⟩
  exact Calls.spliced_nil (mt_asc pins s2 σ H2 (.byt b) [y] _ [u] Q I2 ⟨t, rfl⟩ (.cons r2 .nil) q2)
end
section
variable {B : Base} {G : Gc} {e : En}
def eSign (f : EF) : EF := fun env S => (f env S).bind fun x S1 => match x with
  | .dat (.int i) => if 0 ≤ i ∧ i < 128 then .val (.dat (.str [i.toNat])) S1 else .bot
  | _ => .bot
theorem se_sign {a : Expr} {f : EF} {p lp p1 ap p2 cp : Pos} {k} (hm : B.mg "bytes" = none) (ha : SE B G e a f) (hc : G.calm = true := by rfl) (hg : G.sc.names.lookup ("bytes" : Str) = some NameKind.globalImplicit := by rfl) (hl : (ap.endLine == p2.line) = true := by rfl) :
    SE B G e (.Call (.Attribute (.Call (.Name "bytes" p) [.List [a] lp] [] p1) "decode" ap) [.Constant (.str (Str.ofString "ascii")) k cp] [] p2) (eSign f) := by
  refine ⟨fun X wx C => PE.imp (pe_asc (pe_callTy (call_bytes_lst (C.calm hc)) (C.gl hg) (by rw [C.mg]; exact hm) (by decide +kernel) (pa_cons (pe_lst (pa_cons (ha.run X wx C) pa_nil (ha.pl.ns [] _))) pa_nil rfl)) pe_str rfl rfl hl) fun σ H Q ⟨W, env, S, hH, R, q⟩ => ?_, plMeth⟩
  subst hH
  refine ⟨W, env, S, rfl, R, postG.seq q fun x S1 v W1 R1 s1 r1 q1 => ?_⟩
  cases x with
  | loc i => exact q1.elim
  | dat d =>
    cases d with
    | int i =>
      obtain rfl : v = .int i := r1
      dsimp only at q1
      by_cases hc : 0 ≤ i ∧ i < 128
      · rw [if_pos hc] at q1
        refine ⟨by rw [sizeLine_eq]; show 1 ≤ _; omega, fun p hp => ?_⟩
        obtain ⟨R2, s2⟩ := R1.alloc hp (.lst [.int i])
        have hu : (UInt8.ofNat i.toNat).toNat = i.toNat := by rw [UInt8.toNat_ofNat']; exact Nat.mod_eq_of_lt (by omega)
        refine ⟨p, i, rfl, .inl (.inl upd_same), hc.1, by omega, ⟨_, rfl⟩, UInt8.ofNat i.toNat, rfl, rfl, by rw [hu]; omega, ?_⟩
        rw [hu]
        exact q1 _ _ R2 s2 ⟨rfl, by unfold strOk; simp; omega⟩
      · rw [if_neg hc] at q1; exact q1.elim
    | _ => exact q1.elim
end
end Ev

/-! Ev34: a text, split. -/
namespace Ev
open PySem L2 PyProof.Rows
section
variable {B : Base} {G : Gc} {e : En}
theorem s1_readL {K : PySem.W.Frag} {cl : Str → Option Addr} {wx : WX} {g : List Nat → List Nat → Option D} {fo fa : EF} {r : V → List V → Hp → VK → Prop}
    (hr : ∀ (a b : List Nat) (d : D), strOk a = true → g a b = some d → ∃ ys : List (List Nat), d = .lst (ys.map .str) ∧ (∀ y ∈ ys, strOk y = true) ∧ ∀ H Q, rNewStrs (ys.map fun x => (⟨x.toArray⟩ : Str)) H Q → r (.str ⟨a.toArray⟩) [.str ⟨b.toArray⟩] H Q)
    {σ : L2.St} {H : Hp} {Q : VK} (h : tE K cl e wx (eS1 g fo fa) σ H Q) : tM1 r (tE K cl e wx fo) (tE K cl e wx fa) σ H Q := by
  obtain ⟨W, env, S, rfl, R, q⟩ := h
  refine ⟨W, env, S, rfl, R, postG.seq q fun x S1 v W1 R1 s1 r1 q1 => ?_⟩
  cases x with
  | loc i => exact q1.elim
  | dat d =>
    cases d with
    | str z =>
      obtain ⟨rfl, hz⟩ := r1
      refine ⟨⟨_, rfl⟩, W1, env, S1, rfl, R1, postG.seq q1 fun y S2 u W2 R2 s2 r2 q2 => ?_⟩
      cases y with
      | loc i => exact q2.elim
      | dat d' =>
        cases d' with
        | str z' =>
          obtain ⟨rfl, hz'⟩ := r2
          dsimp only at q2
          cases hg : g z z' with
          | none => rw [hg] at q2; exact q2.elim
          | some d'' =>
            rw [hg] at q2
            obtain ⟨ys, rfl, hy, h2⟩ := hr z z' d'' hz hg
            refine h2 _ _ fun p hn => ?_
            obtain ⟨R', st⟩ := R2.alloc hn (.lst ((ys.map fun x => (⟨x.toArray⟩ : Str)).map V.str))
            exact q2 (.ref p) _ R' st ⟨p, _, rfl, upd_same, RepL.strs hy⟩
        | _ => exact q2.elim
    | _ => exact q1.elim
def gSplit (a b : List Nat) : Option D := if b ≠ [] ∧ b.all (· < 256) = true ∧ a.length + 2 ≤ sizeLine then some (.lst ((TL.spl b 0 [] a).map .str)) else none
theorem joinL_mem {b : List Nat} : ∀ {ps : List (List Nat)} {p : List Nat} {c : Nat}, p ∈ ps → c ∈ p → c ∈ TL.joinL b ps
  | [q], p, c, hp, hc => by rw [List.mem_singleton] at hp; subst hp; exact hc
  | q :: q' :: r, p, c, hp, hc => by
    show c ∈ q ++ (b ++ TL.joinL b (q' :: r))
    rcases List.mem_cons.1 hp with rfl | hp
    · exact List.mem_append_left _ hc
    · exact List.mem_append_right _ (List.mem_append_right _ (joinL_mem hp hc))
theorem spl_joinL {a b : List Nat} (hb : b ≠ []) (hk : b.all (· < 256) = true) : TL.joinL b (TL.spl b 0 [] a) = a := by
  have h1 := StrLaws.join_split (⟨a.toArray⟩ : Str) ⟨b.toArray⟩
  have h2 : Txt.split (⟨a.toArray⟩ : Str) ⟨b.toArray⟩ = (TL.spl b 0 [] a).map fun x => (⟨x.toArray⟩ : Str) := SX.split_S hb hk
  have h3 := SX.join_S b (TL.spl b 0 [] a)
  have h4 : Txt.join (⟨b.toArray⟩ : Str) ((TL.spl b 0 [] a).map fun x => (⟨x.toArray⟩ : Str)) = ⟨(TL.joinL b (TL.spl b 0 [] a)).toArray⟩ := h3
  rw [TL.join_eq, ← h2, h1] at h4
  have h5 := congrArg (fun s : Str => s.cps.toList) h4
  simpa using h5.symm
theorem spl_mem {a b p : List Nat} {c : Nat} (hb : b ≠ []) (hk : b.all (· < 256) = true) (hp : p ∈ TL.spl b 0 [] a) (hc : c ∈ p) : c ∈ a := by
  rw [← spl_joinL hb hk (a := a)]; exact joinL_mem hp hc
theorem se_split {o a : Expr} {fo fa : EF} {ap cp : Pos} (ho : SE B G e o fo) (ha : SE B G e a fa) (hl : (ap.endLine == cp.line) = true := by rfl) : SE B G e (.Call (.Attribute o "split" ap) [a] [] cp) (eS1 gSplit fo fa) := by
  refine ⟨fun X wx C => PE.imp (pe_m1 F.slot_str_split F.type_str_split mt_split (ho.run X wx C) (ha.run X wx C) (ha.pl.ns [] _) (ho.pl.ab _ _) hl) fun σ H Q h => s1_readL (fun a b d hz hg => ?_) h, plMeth⟩
  unfold gSplit at hg
  split at hg
  · rename_i hc
    cases hg
    have hk := hc.2.1
    refine ⟨_, rfl, fun y hy => ?_, fun H Q q => ⟨_, _, rfl, rfl, ?_, by simpa [Str.length] using hc.2.2, ?_⟩⟩
    · unfold strOk at hz ⊢
      rw [List.all_eq_true] at hz ⊢
      exact fun x hx => hz x (spl_mem hc.1 hk hy hx)
    · have : b.length ≠ 0 := fun e => hc.1 (List.eq_nil_of_length_eq_zero e)
      simpa [Str.length] using this
    · have h2 : Txt.split (⟨a.toArray⟩ : Str) ⟨b.toArray⟩ = (TL.spl b 0 [] a).map fun x => (⟨x.toArray⟩ : Str) := SX.split_S hc.1 hc.2.1
      rw [h2]; exact q
  · cases hg
end
end Ev

/-! Ev35: o.pop(); a new list by a slice. -/
namespace Ev
open PySem L2 PyProof.Rows
section
variable {B : Base} {G : Gc} {e : En} {K : PySem.W.Frag} {cl : Str → Option Addr} {W W1 : Wd} {σ : L2.St} {env : List Slot} {S S1 : List Cell} {wx : WX}
def sPop (fo : EF) : SF := fun env S => (fo env S).then env fun x S1 => match plOf x with
  | some p => match lstAt env S1 p with
    | some ds => if ds = [] then .bot else putL env S1 p ds.dropLast
    | none => .bot
  | none => .bot
theorem RepL.dropLast {F : Hp} {ρ : Nat → Addr} {m : Nat} {ds : List D} {vs : List V} (r : RepL K F ρ m ds vs) : RepL K F ρ m ds.dropLast vs.dropLast := by
  rw [List.dropLast_eq_take, List.dropLast_eq_take, r.length]
  exact RepL.take _ r
theorem ss_pop {o : Expr} {fo : EF} {ap cp pos : Pos} (ho : SE B G e o fo) (hl : (ap.endLine == cp.line) = true := by rfl) : SS B G e (.Expr (.Call (.Attribute o "pop" ap) [] [] cp) pos) (sPop fo) := by
  refine ⟨fun X wx C => PS.imp (ps_expr (pe_bm0 PySem.F.plainAttrs_list PySem.F.slot_list_pop PySem.F.type_list_pop mt_pop (ho.run X wx C) (ho.pl.ab _ _) hl) rfl) fun D σ H h => ?_⟩
  rw [C.K]
  obtain ⟨W, env, S, rfl, R, q⟩ := h
  refine ⟨W, env, S, rfl, R, postS.then q fun x S1 v W1 R1 s1 r1 q1 => ?_⟩
  cases hp : plOf x with
  | none => rw [hp] at q1; exact q1.elim
  | some p =>
    rw [hp] at q1
    dsimp only at q1
    cases hl : lstAt env S1 p with
    | none => rw [hl] at q1; exact q1.elim
    | some ds =>
      rw [hl] at q1
      dsimp only at q1
      have ev := plOf_ref r1 hp
      subst ev
      obtain ⟨vs, h0, r0⟩ := lstAt_H R1 hl
      refine ⟨tyV_list (x := .ref (plAddr W1 p)) h0, ?_⟩
      by_cases hd : ds = []
      · rw [if_pos hd] at q1; exact q1.elim
      · rw [if_neg hd] at q1
        have hlen := r0.length
        have hpos : 0 < ds.length := List.length_pos_iff.mpr hd
        exact ⟨_, vs, vs[vs.length - 1]'(by omega), rfl, rfl, h0, List.getElem?_eq_getElem _, putL_post R1 hl (RepL.dropLast r0) q1⟩
/-- a slice of a list, as a new list -/
def nSl (f : EF) (l h : OF) : NF := fun env S => (f env S).bind fun x S1 => (l env S1).bind fun lo S2 => (h env S2).bind fun hi S3 => match seqOf env S3 x with
  | some (.l, ds) => .val (.lst (cut ds lo hi)) S3
  | _ => .bot
theorem sn_sl {a : Expr} {lo hi : Option Expr} {f : EF} {l h : OF} {p2 pos : Pos} (ha : SE B G e a f) (hl : SO B G e lo l) (hh : SO B G e hi h) : SN B G e (.Subscript a (.Slice lo hi none p2) pos) (nSl f l h) := by
  refine ⟨fun X wx C => PE.imp (pe_slice sl_list (ha.run X wx C) (hl.run X wx C) (hh.run X wx C)) fun σ H Q ⟨W, env, S, hH, R, q⟩ =>
    ⟨W, env, S, hH, R, postN.seq q fun x S1 v W1 R1 s1 r1 q1 => ⟨W1, env, S1, rfl, R1, postN.seq q1 fun lo S2 lo' W2 R2 s2 r2 q2 => ⟨W2, env, S2, rfl, R2, postN.seq q2 fun hi S3 hi' W3 R3 s3 r3 q3 => ?_⟩⟩⟩, plSub⟩
  subst r2
  subst r3
  have rx := RepX.step (RepX.step r1 s2) s3
  cases hs : seqOf env S3 x with
  | none => rw [hs] at q3; exact q3.elim
  | some kd =>
    obtain ⟨k, ds⟩ := kd
    rw [hs] at q3
    cases k with
    | t => exact q3.elim
    | l =>
      obtain ⟨p, vs, rfl, s1, r1⟩ := R3.seq rx hs
      refine ⟨p, vs, rfl, by rw [C.K]; exact s1, fun p' hp => ?_⟩
      obtain ⟨R', st⟩ := R3.lay hp (.lst (cutV vs lo' hi'))
      exact q3 p' _ R' st hp (R3.newAt hp ⟨_, upd_same, cut_rep r1⟩)
end
end Ev

/-! Ev36: set(list of ints), sorted(set(..)), len(set(..)). -/
namespace Ev
open PySem L2 PyProof.Rows PySem.Spec
section
variable {P : Program} {w : World} {A : Around} {E : Value → Shared → Prop} {s : Shared}
abbrev sob (w : World) : Obj := { cls := .type "set", dict := none, data := .set #[] 0 (.fresh 0 0 (!w.params.followText "set-order")) }
set_option maxHeartbeats 4000000 in
theorem set_of_list {l : Addr} {xs : Array Value} (ks : List Int) {Q : Value → Shared → Prop} (noH : A.handled = none) (isL : s.heap.IsList l xs) (isI : IntsAre xs.toList ks) (few : ks.length + 1 < scanBound)
    (k : ∀ (h2 : Heap) (tk n : Nat), SetR w h2 s.heap.objs.size (fun j => decide (j ∈ ks)) n → n ≤ ks.length → (∀ b o, s.heap.get? b = some o → h2.get? b = some o) → Q (.ref s.heap.objs.size) { s with heap := h2, toks := tk }) :
    wpAny (model P w) A (call (.type "set") [.ref l]) Q E s := by
  have xn : xs.size = ks.length := by rw [← Array.length_toList]; exact IntsAre.length isI
  obtain ⟨ci, ti, hmro⟩ := F.called_set.mro
  obtain ⟨hmade, hsub⟩ := And.intro F.called_set.made F.called_set.sub
  obtain ⟨h1, h2⟩ := And.intro F.called_set.notType F.called_set.canCreate
  have hct := F.typeCall_set_1 (.ref l)
  refine wpAny_call (codeAny_of_tree (show wpAny _ _ (callAny (.type "set") _) _ _ _ from wpAny_pure ⟨Code.quiet_builtin _ (by decide +kernel), codeAny_builtin F.entry_type_call ?_⟩))
  rw [Around.under_plain (weight_type_call_type "set" [.ref l] []) rfl]
  repeat (any_goals (first | assumption | wp_step))
  refine codeAny_mono (code_set_led1 (.ref l) (E := E) (Q₁ := fun v s1 => v = .ref s.heap.objs.size ∧ s1 = { s with heap := s.heap.push (sob w) }) ⟨rfl, rfl⟩) fun r s1 hr => ?_
  cases r with
  | error er => exact hr
  | ok fl =>
    cases fl with
    | ret v =>
      obtain ⟨rfl, rfl⟩ := hr
      have at0 : (s.heap.push (sob w)).get? s.heap.objs.size = some (sob w) := Heap.get?_push_size _ rfl
      have ty0 : Shared.TypeIs { s with heap := s.heap.push (sob w) } (.ref s.heap.objs.size) "set" := ⟨_, at0, rfl⟩
      obtain ⟨hli, hbi⟩ := And.intro F.called_set.init.lookup (F.called_set.init.bind (.ref s.heap.objs.size))
      repeat (any_goals (first | assumption | wp_step))
      refine codeAny_mono (codeAny_call_builtin (R := wants (fun v2 s2 => v2 = .none ∧ ∃ h2 tk n, s2 = { s with heap := h2, toks := tk } ∧ SetR w h2 s.heap.objs.size (fun j => decide (j ∈ ks)) n ∧ n ≤ ks.length ∧ ∀ b o, s.heap.get? b = some o → h2.get? b = some o) E)
        F.called_set.init.plain F.entry_set_init (check_set_init_1 ty0 ?_)) fun r2 s2 hr2 => ?_
      · obtain ⟨ob, atl, cll, nn, dtl⟩ := isL
        obtain ⟨ocls, odict, odata, oslots⟩ := ob
        dsimp only at cll dtl
        subst cll
        subst dtl
        have atl2 : (s.heap.push (sob w)).get? l = some { cls := .type "list", dict := odict, data := .seq xs nn, slots := oslots } := Heap.get?_push_of_some _ atl
        obtain ⟨sb1, sb2⟩ := And.intro F.sub_list_set F.sub_list_frozenset
        have nd : (Value.type "list" == Value.type "dict") = false := by decide
        have isL2 : (s.heap.push (sob w)).IsList l xs := ⟨_, atl2, rfl, nn, rfl⟩
        unfold Builtin.«set.__init__» noKeywords Builtin.Frozenset.updateFrom
        generalize hIt : pyIter = itf
        wp_walk
        subst hIt
        refine wpAny_pyIter_list isL2 (wpAny_bind (wpAny_runValue ?_))
        have ll : l < s.heap.objs.size := Heap.lt_size atl
        have sz : (s.heap.push (sob w)).objs.size = s.heap.objs.size + 1 := Heap.size_push ..
        have val : ∀ (i : Nat) (v : Value), xs[i]? = some v → ∃ z t, ks[i]? = some z ∧ v = .int z t := fun i v hv => by
          have hi : i < ks.length := xn ▸ (Array.getElem?_eq_some_iff.mp hv).1
          obtain ⟨t, e⟩ := IntsAre.int_at isI i v (by rw [Array.getElem?_toList]; exact hv)
          exact ⟨ks[i], t, List.getElem?_eq_getElem hi, by rw [e, List.getD_eq_getElem?_getD, List.getElem?_eq_getElem hi]; rfl⟩
        refine set_update_ints ((Walks.list (by simp [noH]) _ l (by rw [sz]; exact Nat.ne_of_lt (Nat.lt_succ_of_lt ll)) xs).toS) s.heap.objs.size (by rw [sz]; intro hm; rcases List.mem_cons.1 hm with e | e; exact Nat.ne_of_lt (Nat.lt_succ_self _) e; exact Nat.ne_of_gt ll (List.mem_singleton.1 e)) ks xn few val (xs.size - 0) 0 _ (by omega) (Nat.zero_le _) ⟨⟨_, Heap.get?_push_size _ rfl, rfl, rfl⟩, isL2.push _⟩ ⟨0, Nat.le_refl 0, setR_new_at (Heap.get?_push_of_some _ at0)⟩ ?_
        intro s3 n mv hn hS
        obtain ⟨h3, g3, d3, t3, o3⟩ := s3
        obtain rfl : g3 = s.gens := mv.gens
        obtain rfl : d3 = s.drawn := mv.drawn
        obtain rfl : o3 = s.os := mv.os
        show wpAny _ _ _ _ _ _
        refine wpAny_pure (show wpAny _ _ (ret Value.none) _ _ _ from wpAny_pure ⟨rfl, h3, t3, n, rfl, hS, by omega, fun b o e => ?_⟩)
        have bl := Heap.lt_size e
        exact mv.heap b o (by rw [sz]; intro hm; rcases List.mem_cons.1 hm with e | e; exact Nat.ne_of_lt bl e; exact Nat.ne_of_lt (Nat.lt_succ_of_lt bl) (List.mem_singleton.1 e)) (Heap.get?_push_of_some _ (Heap.get?_push_of_some _ e))
      · cases r2 with
        | error er => exact hr2
        | ok f2 =>
          cases f2 with
          | ret v2 =>
            obtain ⟨rfl, h3, t3, n, rfl, hS, hn, keep⟩ := hr2
            repeat (any_goals (first | assumption | wp_step))
            exact k _ _ _ hS hn keep
          | _ => exact hr2.elim
    | _ => exact hr.elim
end
end Ev

/-! Ev37: == and != by a class's own __eq__; isinstance of an own class. -/
namespace Ev
open PySem L2 PyProof.Rows PySem.W Builtin
section
variable {prog : Program} {w : World} {A : Around} {E : Value → Shared → Prop} {s : Shared} {K : Frag} {x C L f : Addr} {h₀ : Heap} {m : Str → Option Value} {ox : Obj} {od : Option Obj} {name : Str} {b tb : Value}
theorem one_bind (self : Value) : bindSpecial (.builtin "object.__ne__") self = pure (.builtin "object.__ne__", [self]) :=
  (Slot.of (T := "object") (name := "__ne__") (owner := "object") (n := "__ne__") (by rw [typeLookup_type, builtinLookup_eq_fast]; kernel_rfl) (by decide +kernel) (by decide +kernel) (by decide +kernel)
    (.inl (by decide +kernel)) (by rw [isSubtype_type]; kernel_rfl)).bind self
theorem ifBound_B {M : Model} {id : String} {args : List Value} {Q : Option Value → Shared → Prop} (hB : ∀ self, bindSpecial (.builtin id) self = pure (.builtin id, [self])) (X : K.In s.heap) (I : InstAt s.heap x ox C od) (hs : findIn K (.ref C) name = some (some (.builtin id)))
    (h : wpAny M A (call (.builtin id) (.ref x :: args)) (fun v => Q (some v)) E s) : wpAny M A (callSpecialIfBound? (.ref x) name args) Q E s := by
  simp only [callSpecialIfBound?, bindSpecialIfBound?]
  refine wpAny_holding (wpAny_bind (wpAny_bind (wpAny_bind (I.type.here ((looks_findIn X hs).here ?_)))))
  refine wpAny_bind (wpAny_askSetting (wpAny_ite ?_))
  have fin : wpAny M A (call (.builtin id) ([.ref x] ++ args) >>= fun v => pure (some v)) Q E s := wpAny_bind (wpAny_mono h (fun v s' h' => wpAny_pure h') fun _ _ h' => h')
  split
  · refine wpAny_bind ?_
    rw [hB]
    exact wpAny_pure (wpAny_pure (by exact fin))
  · refine wpAny_tryCatch (wpAny_bind ?_)
    rw [hB]
    exact wpAny_pure (wpAny_pure (by exact fin))
theorem ne_plain : plainId "object.__ne__" = true := by decide +kernel
/-- x != b, x an instance of a class with its own __eq__ and no own __ne__ -/
theorem ne_K {Q : Value → Shared → Prop} (hu : A.units + 1 < cLine) (Fh : Fr h₀ L s.heap m) (X₀ : K.In h₀) (I : InstAt s.heap x ox C od) (hb : Looks (model prog w) s.heap (typeOf b) tb) (hn : notFirst K C tb = true)
    (hs : findIn K (.ref C) "__eq__" = some (some (.ref f))) (hf : isFn K (.ref f) = true) (hne : findIn K (.ref C) "__ne__" = some (some (.builtin "object.__ne__"))) (ho : mroIn K C (.type "object") = some true)
    (h : wpAny (model prog w) A.in1 (call (.ref f) [.ref x, b]) (fun v s' => ∃ k, v = .bool k ∧ Q (.bool (!k)) s') E s) : wpAny (model prog w) A (richCompare .NotEq (.ref x) b) Q E s := by
  have X := X₀.keeps Fh.keep
  have body : wpAny (model prog w) A.in1 (Builtin.«object.__ne__» ⟨[.ref x, b], []⟩) (fun fin s' => ∃ k, fin = .done (.ret (.bool (!k))) ∧ Q (.bool (!k)) s') E s := by
    unfold Builtin.«object.__ne__»
    repeat (first
      | with_reducible refine wpAny_cRoomFor (show A.in1.units < cLine from hu) ?_
      | (refine wpAny_bind (m := callSpecialIfBound? (.ref x) (Str.ofString "__eq__") [b])
          (ifBound_K X I hs hf (wpAny_mono h (fun r s' hr => by
            obtain ⟨k, rfl, hq⟩ := hr
            repeat (first | exact ⟨k, rfl, hq⟩ | exact wpAny_pure ⟨k, rfl, hq⟩ | exact wpAny_truthy_bool hq | (refine wpAny_bind (m := truthy (.bool _)) (wpAny_truthy_bool ?_)) | wp_step)) fun _ _ e => e)))
      | wp_step)
  have one : wpAny (model prog w) A (tryCompare (.ref x) "__ne__" b) (fun r s' => ∃ v, r = some v ∧ Q v s') E s := by
    unfold tryCompare
    refine wpAny_bind (ifBound_B one_bind X I hne (wpAny_call (codeAny_call_builtin ne_plain F.cmpEntry_ne
      (check_slot F.cmpKind_ne F.cmpSplit_ne (I.type.andThen (looks_mroIn X ho)) (F.cmpArgs_ne _ _) (wpAny_mono body (fun fin s' hv => ?_) fun _ _ e => e)))))
    obtain ⟨k, rfl, hq⟩ := hv
    exact wpAny_pure ⟨_, rfl, hq⟩
  unfold richCompare
  simp only [oneThing_ref]
  refine wpAny_holding (wpAny_bind (wpAny_cRoomFor (by omega) ?_))
  refine wpAny_bind (I.type.here (wpAny_bind (hb.here ?_)))
  split
  · rename_i q
    have e : subIn K tb (.ref C) = some false := by
      rcases Bool.or_eq_true_iff.mp hn with e | e
      · rw [beq_iff_eq.mp e] at q; simp at q
      · exact beq_iff_eq.mp e
    refine wpAny_bind ((looks_subIn X e).here ?_)
    simp only [Bool.false_eq_true, if_false]
    refine wpAny_bind (wpAny_mono one (fun r s' z => ?_) fun _ _ e => e)
    obtain ⟨v, rfl, hq⟩ := z
    exact wpAny_pure hq
  · refine wpAny_bind (wpAny_pure ?_)
    simp only [Bool.false_eq_true, if_false]
    refine wpAny_bind (wpAny_mono one (fun r s' z => ?_) fun _ _ e => e)
    obtain ⟨v, rfl, hq⟩ := z
    exact wpAny_pure hq
end
section
variable {B : Base} {G : Gc} {e : En} {K : PySem.W.Frag} {cl : Str → Option Addr} {W W1 : Wd} {σ : L2.St} {env : List Slot} {S S1 : List Cell}
/-- the built-in types that values of an own class are compared with, or asked for -/
def sixT : List String := ["NoneType", "bool", "int", "str", "list", "tuple"]
/-- what == and isinstance ask of the class named c -/
structure ClsX (B : Base) (c : Str) : Prop where
  ex : ∃ Ca, B.cl c = some Ca ∧ Cls B.K Ca ∧ findIn B.K (.ref Ca) "__class__" = some (some (.builtin "object.__class__")) ∧ specialIn B.K (.builtin "object.__class__") "__get__" = some (some (.builtin "getset_descriptor.__get__")) ∧
    takesIn B.K (.builtin "object.__class__") = some true ∧ mroIn B.K Ca (.type "object") = some true
/-- own == of the class named c: C is its def -/
structure OwnEqD (B : Base) (c : Str) (k : Nat) (C : CF) : Prop where
  mt : MtD B c "__eq__" 2 k C
  cx : ClsX B c
  ne : ∀ Ca, B.cl c = some Ca → findIn B.K (.ref Ca) "__ne__" = some (some (.builtin "object.__ne__")) ∧ ∀ t, t ∈ sixT → notFirst B.K Ca (.type t) = true
theorem six_of {t : String} (h : t = "NoneType" ∨ t = "bool" ∨ t = "int" ∨ t = "str" ∨ t = "list" ∨ t = "tuple") : t ∈ sixT := by
  rcases h with rfl | rfl | rfl | rfl | rfl | rfl <;> decide
/-- may y stand on the right of c's == -/
def eqArg (env : List Slot) (S : List Cell) (c : Str) (y : XD) : Bool := match objAt env S y with
  | some (c', _, _) => decide (c' = c)
  | none => (tyName env S y).isSome
theorem run_fnA {X : Cx} {CX : CXT} {k : Nat} {f : Addr} {fd : FuncData} {ps : List Str} {sp : Sp} {E : XK} {A : Around} {pins : List (Addr × Obj)} {σ : L2.St} {H : Hp} {s : Shared} {Q : VK} {us : List Value} {vs : List V} (F : FnOk X.prog X.w X.K X.mg X.base CX k f fd ps sp) (hr : Room k A) (e0 : Env0 X.prog X.w X.K X.mg X.base A X.stack s H) (hb : Binds X.K fd ps []) (hx : PassesAt CX X σ E)
    (I : Inv X pins σ H s) (r : Vals vs us) (h : sp vs H Q E) : wpAny (model X.prog X.w) A (call (.ref f) us) (EP X pins σ Q) X.xe s := by
  have hl : us.length = ps.length := by rw [← r.length]; exact F.len _ _ _ _ h
  have b := hb s us I.kIn (by rw [List.append_nil]; exact hl)
  rw [List.append_nil] at b
  refine wpAny_call (codeAny_mono (F.run A X.stack s H ⟨us, []⟩ us vs Q E hr e0 b r h) fun r s' hq => ?_)
  cases r with
  | error e => exact hx pins H s e s' I hq
  | ok fl =>
    cases fl with
    | ret u => exact I.after hq
    | next => exact False.elim hq
    | brk => exact False.elim hq
    | cont => exact False.elim hq
def gEqO (neg : Bool) (c : Str) (C : CF) (env : List Slot) (S : List Cell) (x y : XD) : Out XD := match x, objAt env S x, y with
  | .dat a, some (c', _, _), .dat b => if c' = c ∧ eqArg env S c (.dat b) = true then (C [a, b] S).bind fun r S3 => (match r with
      | .bl k => .val (.dat (.bl (if neg then !k else k))) S3
      | _ => .bot) else .bot
  | _, none, _ => (match (if neg then cNe env S x y else cEq env S x y) with
      | some k => .val (.dat (.bl k)) S
      | none => .bot)
  | _, _, _ => .bot
theorem FRel.tyx (R : FRel K cl e W σ env S) {y : XD} {v : V} {c : Str} {Ca : Addr} (r : RepX K W S.length y v) (hc : cl c = some Ca) (h : eqArg env S c y = true)
    (h1 : Cls K Ca) (h2 : findIn K (.ref Ca) "__class__" = some (some (.builtin "object.__class__"))) (h3 : specialIn K (.builtin "object.__class__") "__get__" = some (some (.builtin "getset_descriptor.__get__"))) (h4 : takesIn K (.builtin "object.__class__") = some true) (h5 : mroIn K Ca (.type "object") = some true) :
    ∃ t, TyX K W.H v t ∧ (t = .ref Ca ∨ ∃ n, t = .type n ∧ n ∈ sixT) := by
  unfold eqArg at h
  split at h
  · rename_i c' ns ds ho
    obtain ⟨p, _, _, rfl, Cb, dx, vs, g1, g2, g3, g4⟩ := R.obj r ho
    have e : c' = c := of_decide_eq_true h
    subst e
    rw [hc] at g1; cases g1
    exact ⟨.ref Ca, .base (.ins g2 h1 h2 h3 h4 h5), .inl rfl⟩
  · obtain ⟨t, ht⟩ := Option.isSome_iff_exists.mp h
    obtain ⟨g1, g2⟩ := R.ty r ht
    exact ⟨.type t, g1, .inr ⟨t, rfl, six_of g2⟩⟩
theorem eqO_run {X : Cx} {wx : WX} {neg : Bool} {c : Str} {k : Nat} {C : CF} (O : OwnEqD B c k C) (Z : Cxt B.P B.w B.K B.mg B.base G e X wx) (hr : Room (k + 1) X.A)
    {pins : List (Addr × Obj)} {s : Shared} {σ : L2.St} {Q : VK} {x y : V} {v u : Value} {dx dy : XD} (I : Inv X pins σ W.H s) (rx : RelV x v) (ry : RelV y u) (R : FRel B.K B.cl e W σ env S) (x1 : RepX B.K W S.length dx x) (x2 : RepX B.K W S.length dy y)
    (q : postE B.K B.cl e wx W σ env S Q (gEqO neg c C env S dx dy)) : wpAny (model X.prog X.w) X.A (compareOp (if neg then .NotEq else .Eq) v u) (EP X pins σ Q) X.xe s := by
  unfold gEqO at q
  split at q
  · rename_i a c' ns ds b ho
    split at q
    · rename_i hc
      obtain ⟨hc, harg⟩ := hc
      subst hc
      obtain ⟨⟨Ca, f, fd, ps, m1, m2, m3, m4, m5, m6⟩⟩ := O.mt
      obtain ⟨⟨Cb, c1, c2, c3, c4, c5, c6⟩⟩ := O.cx
      rw [m1] at c1; cases c1
      obtain ⟨n1, n2⟩ := O.ne Ca m1
      obtain ⟨p, hp, hce, rfl, Cb, dxx, vs, h1, h2, h3, h4⟩ := R.obj x1 ho
      rw [m1] at h1; cases h1
      cases (show v = Value.ref (plAddr W p) from rx)
      have e1 := Z.prog; have e2 := Z.w; have e3 := Z.K; have e4 := Z.mg; have e5 := Z.base
      rw [← e1, ← e2, ← e3, ← e4, ← e5] at m6
      rw [← e3] at m2 m3 m4 c2 c3 c4 c5 c6 n1 n2
      obtain ⟨t, ty, ht⟩ := R.tyx (c := c') (Ca := Ca) x2 m1 harg (by rw [← e3]; exact m2) (by rw [← e3]; exact c3) (by rw [← e3]; exact c4) (by rw [← e3]; exact c5) (by rw [← e3]; exact c6)
      rw [← e3] at ty
      obtain ⟨PP, KX, pp, _⟩ := kit_of I ry ty
      have hlook := KX.ty (model X.prog X.w) s.heap I.kIn pp
      have hnf : notFirst X.K Ca t = true := by
        rcases ht with rfl | ⟨n, rfl, hn⟩
        · unfold notFirst; simp
        · exact n2 n hn
      obtain ⟨mA, J, _⟩ := ins_get I.hok h2
      obtain ⟨od, J, _⟩ := J.look
      obtain ⟨m, hF⟩ := I.fr
      have hsp : ∀ (Q' : VK), (∀ k z H', z = .bl k → Q (.bl (if neg then !k else k)) H' → Q' z H') → spD X.K B.cl 2 C [.ref (plAddr W p), y] W.H Q' (WE wx σ) := by
        intro Q' hQ'
        rw [e3]
        refine ⟨W.F, W.ρ, S, [a, b], rfl, R.grel, RepL.cons x1 (RepL.cons x2 RepL.nil), ?_⟩
        cases hc : C [a, b] S with
        | val r S' =>
          rw [hc] at q
          intro z F' ρ' H' g ex r'
          obtain ⟨R', st⟩ := R.call g ex
          cases r with
          | bl kk =>
            have q1 : Q (.bl (if neg then !kk else kk)) H' := q (.bl (if neg then !kk else kk)) _ R' st rfl
            exact hQ' kk z H' r' q1
          | _ => exact q.elim
        | exc cc pp S' =>
          rw [hc] at q
          intro cls dd F' ρ' H' g ex r'
          obtain ⟨R', st⟩ := R.call g ex
          exact q cls dd _ R' st (r'.older R.ext.hd)
        | bot => rw [hc] at q; exact q.elim
      have rr : Vals [V.ref (plAddr W p), y] [Value.ref (plAddr W p), u] := .cons rfl (.cons ry .nil)
      cases neg with
      | false =>
        show wpAny (model X.prog X.w) X.A (richCompare .Eq (.ref (plAddr W p)) u) (EP X pins σ Q) X.xe s
        refine cmp_K (op := .Eq) hr.units0 hF I.ok.mod.kin J hlook hnf m3.at_ m3.fn ?_
        refine wpAny_mono (run_fnA m6 (hr.mono (Nat.le_succ _)) I.env0 m4 (passAt Z.takes σ) I rr (hsp (fun z H' => ∃ kk, z = .bl kk ∧ Q (.bl kk) H') (fun kk z H' e h => ⟨kk, e, h⟩))) (fun w s' z => ?_) fun _ _ e => e
        obtain ⟨z, H', I', rz, kk, rfl, qz⟩ := z
        cases (show w = Value.bool kk from rz)
        exact ⟨.bl kk, H', I', rfl, qz⟩
      | true =>
        show wpAny (model X.prog X.w) X.A (richCompare .NotEq (.ref (plAddr W p)) u) (EP X pins σ Q) X.xe s
        refine ne_K (by have := hr.un; omega) hF I.ok.mod.kin J hlook hnf m3.at_ m3.fn n1 c6 ?_
        refine wpAny_mono (run_fnA m6 hr.in1 I.env0.in1 m4 (passAt Z.takes σ) I rr (hsp (fun z H' => ∃ kk, z = .bl kk ∧ Q (.bl (!kk)) H') (fun kk z H' e h => ⟨kk, e, h⟩))) (fun w s' z => ?_) fun _ _ e => e
        obtain ⟨z, H', I', rz, kk, rfl, qz⟩ := z
        cases (show w = Value.bool kk from rz)
        exact ⟨kk, rfl, .bl (!kk), H', I', rfl, qz⟩
    · exact q.elim
  · rename_i dx dy _ _ _ _
    cases neg with
    | false =>
      rw [if_neg (by decide)] at q
      cases hk : cEq env S dx dy with
      | none => rw [hk] at q; exact q.elim
      | some kk =>
        rw [hk] at q
        refine ok_eq (B := B) (e := e) Z.K Z.units pins s σ σ x y v u W env S dx dy (.bl kk) Q I rx ry R x1 x2 (by unfold gB; rw [hk]; rfl) fun z W' R' s' rz => ?_
        exact q z W' R' s' rz
    | true =>
      rw [if_pos rfl] at q
      cases hk : cNe env S dx dy with
      | none => rw [hk] at q; exact q.elim
      | some kk =>
        rw [hk] at q
        refine ok_ne (B := B) (e := e) Z.K Z.units pins s σ σ x y v u W env S dx dy (.bl kk) Q I rx ry R x1 x2 (by unfold gB; rw [hk]; rfl) fun z W' R' s' rz => ?_
        exact q z W' R' s' rz
  · exact q.elim
def eEqO (neg : Bool) (c : Str) (C : CF) (fa fb : EF) : EF := fun env S => (fa env S).bind fun x S1 => (fb env S1).bind fun y S2 => gEqO neg c C env S2 x y
theorem eqO_read {X : Cx} {wx : WX} {a b : Expr} {fa fb : EF} {neg : Bool} {c : Str} {k : Nat} {C : CF} (O : OwnEqD B c k C) (Z : Cxt B.P B.w B.K B.mg B.base G e X wx) (hr : Room (k + 1) X.A) (ha : PE X a (tE B.K B.cl e wx fa)) (hb : PE X b (tE B.K B.cl e wx fb))
    {pins : List (Addr × Obj)} {s : Shared} {σ : L2.St} {H : Hp} {Q : VK} (I : Inv X pins σ H s) (h : tE B.K B.cl e wx (eEqO neg c C fa fb) σ H Q) :
    wpAny (model X.prog X.w) X.A (eval a X.env) (fun v s₁ => wpAny (model X.prog X.w) X.A (eval b X.env) (fun u s₂ => wpAny (model X.prog X.w) X.A (compareOp (if neg then .NotEq else .Eq) v u) (EP X pins σ Q) X.xe s₂) X.xe s₁) X.xe s := by
  obtain ⟨W, env, S, rfl, R, q⟩ := h
  unfold eEqO at q
  refine thn (ha.run pins s σ W.H (fun x H1 => tE B.K B.cl e wx fb σ H1 fun y H2 => ∃ W env S dx dy, W.H = H2 ∧ FRel B.K B.cl e W σ env S ∧ RepX B.K W S.length dx x ∧ RepX B.K W S.length dy y ∧ postE B.K B.cl e wx W σ env S Q (gEqO neg c C env S dx dy)) I ⟨W, env, S, rfl, R, ?_⟩) fun v s1 ⟨x, H1, I1, r1, q1⟩ =>
    thn (hb.run pins s1 σ H1 _ I1 q1) fun u s2 ⟨y, H2, I2, r2, q2⟩ => ?_
  · refine postG.seq q fun x S1 v W1 R1 s1 r1 q1 => ⟨W1, env, S1, rfl, R1, postG.seq q1 fun y S2 u W2 R2 s2 r2 q2 => ?_⟩
    exact ⟨W2, env, S2, x, y, rfl, R2, RepX.step r1 s2, r2, q2⟩
  · obtain ⟨W2, env2, S2, dx, dy, rfl, R2, x1, x2, q3⟩ := q2
    exact eqO_run O Z hr I2 r1 r2 R2 x1 x2 q3
variable {a b : Expr} {fa fb : EF} {c : Str} {k : Nat} {C : CF} {pos : Pos}
theorem se_eqO (O : OwnEqD B c k C) (ha : SE B G e a fa) (hb : SE B G e b fb) (hk : k + 1 ≤ G.k := by decide) (hc : G.calm = true := by rfl) : SE B G e (.Compare a [.Eq] [b] pos) (eEqO false c C fa fb) :=
  ⟨fun X wx Z => ⟨fun pins s σ H Q I h => PySem.wpAny_Compare1 (eqO_read (neg := false) O Z ((Z.room hc).mono hk) (ha.run X wx Z) (hb.run X wx Z) I h) (hb.pl.bm _)⟩, plCmp⟩
theorem se_neO (O : OwnEqD B c k C) (ha : SE B G e a fa) (hb : SE B G e b fb) (hk : k + 1 ≤ G.k := by decide) (hc : G.calm = true := by rfl) : SE B G e (.Compare a [.NotEq] [b] pos) (eEqO true c C fa fb) :=
  ⟨fun X wx Z => ⟨fun pins s σ H Q I h => PySem.wpAny_Compare1 (eqO_read (neg := true) O Z ((Z.room hc).mono hk) (ha.run X wx Z) (hb.run X wx Z) I h) (hb.pl.bm _)⟩, plCmp⟩
theorem stO {neg : Bool} (O : OwnEqD B c k C) (ha : SE B G e a fa) (hb : SE B G e b fb) (hk : k + 1 ≤ G.k) (hc : G.calm = true) : ST B G e (.Compare a [if neg then .NotEq else .Eq] [b] pos) (bT (eEqO neg c C fa fb)) := by
  refine ⟨fun X wx Z => ⟨fun pins s σ H Q I h => ?_⟩⟩
  refine PySem.wpAny_isTrue_Compare1 ?_ (hb.pl.bm _)
  refine thn (eqO_read O Z ((Z.room hc).mono hk) (ha.run X wx Z) (hb.run X wx Z) I (bT_read h)) fun v s1 h1 => thn h1 fun u s2 h2 => thn h2 fun c s3 (h3 : EP X pins σ _ c s3) => ?_
  obtain ⟨z, H3, I3, r3, k, e, q3⟩ := h3
  subst e
  cases r3
  exact wpAny_truthy_bool ⟨H3, I3, q3⟩
theorem st_eqO (O : OwnEqD B c k C) (ha : SE B G e a fa) (hb : SE B G e b fb) (hk : k + 1 ≤ G.k := by decide) (hc : G.calm = true := by rfl) : ST B G e (.Compare a [.Eq] [b] pos) (bT (eEqO false c C fa fb)) := stO (neg := false) O ha hb hk hc
theorem st_neO (O : OwnEqD B c k C) (ha : SE B G e a fa) (hb : SE B G e b fb) (hk : k + 1 ≤ G.k := by decide) (hc : G.calm = true := by rfl) : ST B G e (.Compare a [.NotEq] [b] pos) (bT (eEqO true c C fa fb)) := stO (neg := true) O ha hb hk hc
/-! ### isinstance of an own class -/
/-- the name x holds an own class; tbl: which of the other own classes are below it -/
structure IsC (B : Base) (x : Str) (tbl : List (Str × Bool)) : Prop where
  ex : ∃ Ca, B.mg x = some (.ref Ca) ∧ (∀ t, t ∈ sixT → kitOne B.K (.type t) (.ref Ca) = some false) ∧ ∀ c b, tbl.lookup c = some b → ∃ Cb, B.cl c = some Cb ∧ kitOne B.K (.ref Cb) (.ref Ca) = some b ∧ ClsX B c
def eIsC (tbl : List (Str × Bool)) (f : EF) : EF := fun env S => (f env S).bind fun x S1 => match objAt env S1 x with
  | some (c, _, _) => (match tbl.lookup c with
    | some k => .val (.dat (.bl k)) S1
    | none => .bot)
  | none => (match tyName env S1 x with
    | some _ => .val (.dat (.bl false)) S1
    | none => .bot)
theorem se_isC {x : Str} {tbl : List (Str × Bool)} {f : EF} {p q : Pos} (hm : B.mg "isinstance" = none) (T : IsC B x tbl) (ha : SE B G e a f)
    (hg : G.sc.names.lookup ("isinstance" : Str) = some NameKind.globalImplicit := by rfl) (hgT : G.sc.names.lookup x = some NameKind.globalImplicit := by rfl) (hdb : (x == ("__debug__" : Str)) = false := by decide +kernel) :
    SE B G e (.Call (.Name "isinstance" p) [a, .Name x q] [] pos) (eIsC tbl f) := by
  obtain ⟨Ca, t1, t2, t3⟩ := T.ex
  refine ⟨fun X wx Z => PE.imp (pe_callB call_isi (Z.gl hg) (by rw [Z.mg]; exact hm) (by decide +kernel) (pa_cons (ha.run X wx Z) (pa_cons (pe_glob (v := .ref Ca) (Z.gl hgT) (by rw [Z.mg]; exact t1) rfl hdb) pa_nil (plName.ns [] _)) (ha.pl.ns _ _)) (by decide +kernel) (by decide +kernel) (ha.pl.ns _ _) rfl) fun σ H Q ⟨W, env, S, hH, R, qq⟩ => ⟨W, env, S, hH, R, postG.seq qq fun y S1 v W1 R1 s1 r1 q1 => ?_⟩, plCall⟩
  cases ho : objAt env S1 y with
  | some t =>
    obtain ⟨c, ns, ds⟩ := t
    rw [ho] at q1
    dsimp only at q1
    cases hk : tbl.lookup c with
    | none => rw [hk] at q1; exact q1.elim
    | some kk =>
      rw [hk] at q1
      obtain ⟨Cb, u1, u2, ⟨⟨Cc, v1, v2, v3, v4, v5, v6⟩⟩⟩ := t3 c kk hk
      rw [u1] at v1; cases v1
      obtain ⟨p, _, _, rfl, Cd, dx, vs, g1, g2, g3, g4⟩ := R1.obj r1 ho
      rw [u1] at g1; cases g1
      exact ⟨_, .ref Ca, .ref Cb, .ref Ca, kk, rfl, .own Ca, by rw [Z.K]; exact .base (.ins g2 v2 v3 v4 v5 v6), by rw [Z.K]; exact u2, q1 (.bl kk) W1 R1 .refl rfl⟩
  | none =>
    rw [ho] at q1
    dsimp only at q1
    cases ht : tyName env S1 y with
    | none => rw [ht] at q1; exact q1.elim
    | some t =>
      rw [ht] at q1
      obtain ⟨h1, h2⟩ := R1.ty r1 ht
      exact ⟨v, .ref Ca, .type t, .ref Ca, false, rfl, .own Ca, by rw [Z.K]; exact h1, by rw [Z.K]; exact t2 t (six_of h2), q1 (.bl false) W1 R1 .refl rfl⟩
/-! what holds of every own class -/
def onlyTy (t : String) : Bool := match fastBuiltinMro t with
  | some l => l.all fun v => match v with | .type _ => true | _ => false
  | none => false
theorem sub_own {K : PySem.W.Frag} {C : Addr} {t : String} (h : onlyTy t = true) : subIn K (.type t) (.ref C) = some false := by
  unfold onlyTy at h
  unfold subIn
  cases hm : fastBuiltinMro t with
  | none => rw [hm] at h; cases h
  | some l =>
    rw [hm] at h
    show Option.map (fun x : List Value => x.contains (Value.ref C)) (fastBuiltinMro t) = some false
    rw [hm, Option.map_some]
    have : l.contains (Value.ref C) = false := by
      rw [Bool.eq_false_iff]
      intro z
      rw [List.contains_iff_exists_mem_beq] at z
      obtain ⟨v, hv, e⟩ := z
      have := List.all_eq_true.mp h v hv
      have e := eq_of_beq e
      subst e
      cases this
    rw [this]
theorem only_six {t : String} (h : t ∈ sixT) : onlyTy t = true := by
  have : ∀ t ∈ sixT, onlyTy t = true := by decide +kernel
  exact this t h
theorem nf_six {K : PySem.W.Frag} {C : Addr} {t : String} (h : t ∈ sixT) : notFirst K C (.type t) = true := by
  unfold notFirst
  rw [sub_own (only_six h)]
  simp
theorem kit_six {K : PySem.W.Frag} {C : Addr} (h : kitOne K (.type "int") (.ref C) = some false) : ∀ t, t ∈ sixT → kitOne K (.type t) (.ref C) = some false := by
  intro t ht
  have e : ∀ t : String, (Value.type t == Value.ref C) = false := fun t => by rw [Bool.eq_false_iff]; intro z; have := eq_of_beq z; cases this
  unfold kitOne at h ⊢
  rw [e, if_neg (by decide)] at h ⊢
  unfold kitCls at h ⊢
  dsimp only at h ⊢
  split at h
  · rename_i hc
    rw [if_pos hc]
    exact sub_own (only_six ht)
  · cases h
theorem kit_self {K : PySem.W.Frag} {C : Addr} : kitOne K (.ref C) (.ref C) = some true := by
  unfold kitOne
  rw [if_pos (beq_self_eq_true _)]
end
end Ev

/-! Ev38: dict displays. -/
namespace Ev
open PySem L2 PyProof.Rows PySem.W
section
variable {B : Base} {G : Gc} {e : En} {K : PySem.W.Frag} {cl : Str → Option Addr} {W W1 : Wd} {σ : L2.St} {env : List Slot} {S S1 : List Cell}
/-- an address that is tracked nowhere is written anew -/
theorem FRel.over (R : FRel K cl e W σ env S) {p : Addr} {o : HO} (hF : W.F p = none) (hg : ∀ n, n < S.length → W.ρ n ≠ p) (hl : ∀ (i : Nat) c', env[i]? = some (Slot.loc c') → W.l i ≠ p) (he : e.H p = none) : FRel K cl e (W.lay p o) σ env S := by
  have hne : ∀ b u, b ≠ p → W.H b = some u → upd W.H p o b = some u := fun b u hb q => by rw [upd_ne hb]; exact q
  refine ⟨fun b u q => ?_, fun n c h => ?_, R.inj, R.len, R.val, fun i c h => ?_, R.linj, ?_, R.err⟩
  · have hb : b ≠ p := fun z => by subst z; rw [show (W.lay b o).F b = W.F b from rfl, hF] at q; cases q
    exact hne b u hb (R.sub b u q)
  · obtain ⟨h1, h2⟩ := R.glob n c h
    have hn : n < S.length := by
      rcases Nat.lt_or_ge n S.length with h' | h'
      · exact h'
      · rw [List.getElem?_eq_none h'] at h; cases h
    exact ⟨h1, CellOk.mono (Same.refl _) (fun _ _ => rfl) (Nat.le_refl _) (fun u q => hne _ u (hg n hn) q) h2⟩
  · obtain ⟨h1, h2, h3, h4, h5⟩ := R.loc i c h
    exact ⟨h1, h2, CellOk.mono (Same.refl _) (fun _ _ => rfl) (Nat.le_refl _) (fun u q => hne _ u (hl i c h) q) h3, h4, h5⟩
  · have x := R.ext
    refine ⟨x.fs, x.fn, x.le, x.rr, x.rn, fun b h => ?_, fun b u h hn => ?_, fun b od u h => hne b _ (fun z => by subst z; rw [he] at h; cases h) (x.fz b od u h)⟩
    · by_cases hb : b = p
      · rw [hb]; exact he
      · exact x.hd b (by rw [show (W.lay p o).H b = upd W.H p o b from rfl, upd_ne hb] at h; exact h)
    · have hb : b ≠ p := fun z => by subst z; rw [he] at h; cases h
      exact hne b u hb (x.hs b u h hn)
theorem StepW.over {m m' : Nat} (s : StepW W m W1 m') {p : Addr} {o : HO} (hp : W.H p = none) : StepW W m (W1.lay p o) m' := by
  have x := s.1
  refine ⟨⟨x.fs, x.fn, x.le, x.rr, x.rn, fun b h => ?_, fun b u h hn => ?_, fun b od u h => (upd_ne (fun z => by subst z; rw [hp] at h; cases h)).trans (x.fz b od u h)⟩, s.2⟩
  · by_cases hb : b = p
    · rw [hb]; exact hp
    · exact x.hd b (by rw [show (W1.lay p o).H b = upd W1.H p o b from rfl, upd_ne hb] at h; exact h)
  · have hb : b ≠ p := fun z => by subst z; rw [hp] at h; cases h
    show upd W1.H p o b = some u
    rw [upd_ne hb]
    exact x.hs b u h hn
/-- keys and values of a display, from the row k1, v1, k2, v2, .. -/
def pairKV : List D → Option (List (Key × D))
  | [] => some []
  | [_] => none
  | k :: v :: r => match Ev.keyOf k, pairKV r with
    | some k, some ps => some ((k, v) :: ps)
    | _, _ => none
def mkDct (ps : List (Key × D)) : List Key × List D := ps.foldl (fun acc p => putKs acc.1 acc.2 p.1 p.2) ([], [])
def nDctL (f : AF) : NF := fun env S => (f env S).bind fun xs S1 => match datL xs with
  | some ds => (match pairKV ds with
    | some ps => if ps.length ≤ 15 then .val (.dct (mkDct ps).1 (mkDct ps).2) S1 else .bot
    | none => .bot)
  | none => .bot
def unflat : List V → List (V × V)
  | x :: y :: r => (x, y) :: unflat r
  | _ => []
/-- the pairs of a display do f -/
structure SPs (B : Base) (G : Gc) (e : En) (pos : Pos) (keys : List (Option Expr)) (values : List Expr) (f : AF) : Prop where
  run : ∀ X wx, Cxt B.P B.w B.K B.mg B.base G e X wx → ∃ trs, PPs X pos keys values trs ∧ ∀ (σ : L2.St) (H : Hp) (Q : List (V × V) → Hp → Prop),
    (∃ W env S, W.H = H ∧ FRel B.K B.cl e W σ env S ∧ postA B.K B.cl e wx W σ env S (fun vs H' => Q (unflat vs) H') (f env S)) → tPairs trs σ H Q
  all : keys.all (·.isSome) = true
  len : keys.length = values.length
theorem sps_nil {pos : Pos} : SPs B G e pos [] [] aNil := by
  refine ⟨fun X wx C => ⟨[], pps_nil, fun σ H Q ⟨W, env, S, hH, R, q⟩ => ?_⟩, rfl, rfl⟩
  subst hH
  exact q [] W R .refl rfl
theorem sps_cons {pos : Pos} {k v : Expr} {ks : List (Option Expr)} {vs : List Expr} {fk fv : EF} {f : AF} (hk : SE B G e k fk) (hv : SE B G e v fv) (hr : SPs B G e pos ks vs f) :
    SPs B G e pos (some k :: ks) (v :: vs) (aCons fk (aCons fv f)) := by
  refine ⟨fun X wx C => ?_, by rw [List.all_cons, hr.all]; rfl, by rw [List.length_cons, List.length_cons, hr.len]⟩
  obtain ⟨trs, hp, ht⟩ := hr.run X wx C
  refine ⟨_, pps_cons (hk.run X wx C) (hv.run X wx C) hp, fun σ H Q ⟨W, env, S, hH, R, q⟩ => ?_⟩
  subst hH
  show tE B.K B.cl e wx fk σ W.H fun x H1 => tE B.K B.cl e wx fv σ H1 fun y H2 => tPairs trs σ H2 fun ps H3 => Q ((x, y) :: ps) H3
  refine ⟨W, env, S, rfl, R, postG.seq q fun x S1 v1 W1 R1 s1 r1 q1 => ⟨W1, env, S1, rfl, R1, ?_⟩⟩
  have q1 : postA B.K B.cl e wx W1 σ env S1 (fun vs H' => Q (unflat vs) H') (((aCons fv f) env S1).bind fun xs S2 => .val (x :: xs) S2) := q1
  have q2 : postA B.K B.cl e wx W1 σ env S1 (fun vs H' => Q (unflat vs) H') ((fv env S1).bind fun y S2 => (f env S2).bind fun ys S3 => .val (x :: y :: ys) S3) := by
    unfold aCons at q1
    cases h1 : fv env S1 with
    | bot => rw [h1] at q1; exact q1
    | exc c p S2 => rw [h1] at q1; exact q1
    | val y S2 =>
      rw [h1] at q1
      have q1 : postA B.K B.cl e wx W1 σ env S1 (fun vs H' => Q (unflat vs) H') (((f env S2).bind fun ys S3 => Out.val (y :: ys) S3).bind fun xs S2 => .val (x :: xs) S2) := q1
      show postA B.K B.cl e wx W1 σ env S1 _ ((f env S2).bind fun ys S3 => .val (x :: y :: ys) S3)
      cases h2 : f env S2 with
      | bot => rw [h2] at q1; exact q1
      | exc c p S2 => rw [h2] at q1; exact q1
      | val ys S3 => rw [h2] at q1; exact q1
  refine postG.seq q2 fun y S2 v2 W2 R2 s2 r2 q3 => ht σ _ _ ⟨W2, env, S2, rfl, R2, ?_⟩
  refine postG.seq q3 fun ys S3 vs3 W3 R3 s3 r3 q4 => ?_
  exact q4 (v1 :: v2 :: vs3) W3 R3 .refl ⟨v1, _, rfl, RepX.step (RepX.step r1 s2) s3, v2, _, rfl, RepX.step r2 s3, r3⟩
theorem mk_rep {F : Hp} {ρ : Nat → Addr} {m : Nat} : ∀ {ds : List D} {vs : List V} {ps : List (Key × D)}, RepL K F ρ m ds vs → pairKV ds = some ps → ∃ kvs : List (Key × V), unflat vs = kvs.map (fun kv => (kV kv.1, kv.2)) ∧ kvs.length = ps.length ∧
    ∀ (ks : List Key) (es : List D) (us : List V), ks.length = us.length → RepL K F ρ m es us → ∃ us', mergeK (ks.zip us) kvs = (ps.foldl (fun acc p => putKs acc.1 acc.2 p.1 p.2) (ks, es)).1.zip us' ∧ (ps.foldl (fun acc p => putKs acc.1 acc.2 p.1 p.2) (ks, es)).1.length = us'.length ∧ RepL K F ρ m (ps.foldl (fun acc p => putKs acc.1 acc.2 p.1 p.2) (ks, es)).2 us'
  | [], vs, ps, r, h => by
    cases r; cases h
    exact ⟨[], rfl, rfl, fun ks es us hl r => ⟨us, rfl, hl, r⟩⟩
  | [_], _, _, _, h => by cases h
  | k :: v :: ds, vs, ps, r, h => by
    obtain ⟨kv, r1, rfl, hk, vv, r2, rfl, hv, hr⟩ := r
    unfold pairKV at h
    cases h1 : Ev.keyOf k with
    | none => rw [h1] at h; cases h
    | some key =>
      cases h2 : pairKV ds with
      | none => rw [h1, h2] at h; cases h
      | some qs =>
        rw [h1, h2] at h
        cases h
        obtain ⟨kvs, e1, e2, e3⟩ := mk_rep hr h2
        refine ⟨(key, vv) :: kvs, ?_, by simp [e2], fun ks es us hl r => ?_⟩
        · show (kv, vv) :: unflat r2 = _
          rw [e1, keyOf_rep hk h1]; rfl
        · obtain ⟨us', g1, g2, g3⟩ := putKs_rep (k := key) hv hl r
          obtain ⟨us2, f1, f2, f3⟩ := e3 (putKs ks es key v).1 (putKs ks es key v).2 us' g2 g3
          refine ⟨us2, ?_, f2, f3⟩
          show mergeK (putK (ks.zip us) key vv) kvs = _
          rw [g1, f1]; rfl
theorem sn_dctL {pos : Pos} {keys : List (Option Expr)} {values : List Expr} {f : AF} (h : SPs B G e pos keys values f) (h0 : keys ≠ []) (h15 : keys.length ≤ 15 := by decide) : SN B G e (.Dict keys values pos) (nDctL f) := by
  refine ⟨fun X wx C => ?_, plDict⟩
  obtain ⟨trs, hp, ht⟩ := h.run X wx C
  refine PE.imp (pe_disp hp h.all h.len h0 h15) fun σ H Q ⟨W, env, S, hH, R, q⟩ => ?_
  subst hH
  intro p hpn
  obtain ⟨R', st⟩ := R.lay hpn (.dK [])
  have hnw := R.newAt hpn (o := .dK []) (c := .dct [] []) ⟨[], upd_same, rfl, RepL.nil⟩
  refine ht σ _ _ ⟨W.lay p (.dK []), env, S, rfl, R', ?_⟩
  unfold nDctL at q
  cases hf : f env S with
  | bot => rw [hf] at q; exact q.elim
  | exc c pp S1 =>
    rw [hf] at q
    exact fun cls dx W2 R2 s2 x2 => q cls dx W2 R2 (st.trans s2) x2
  | val xs S1 =>
    rw [hf] at q
    intro vs W1 R1 s1 r1
    cases hd : datL xs with
    | none => rw [Out.bind, hd] at q; exact q.elim
    | some ds =>
      rw [Out.bind, hd] at q
      dsimp only at q
      cases hk : pairKV ds with
      | none => rw [hk] at q; exact q.elim
      | some ps =>
        rw [hk] at q
        dsimp only at q
        by_cases hl : ps.length ≤ 15
        · rw [if_pos hl] at q
          obtain ⟨kvs, e1, e2, e3⟩ := mk_rep (RepXL.dat r1 hd) hk
          obtain ⟨us, g1, g2, g3⟩ := e3 [] [] [] rfl RepL.nil
          have hgl : ∀ n, n < S1.length → W1.ρ n ≠ p := fun n hn z => by
            by_cases hm : n < S.length
            · rw [s1.1.rr n hm] at z
              exact hnw.gl n hm z
            · have := s1.1.rn n (Nat.not_lt.mp hm) hn
              rw [z] at this
              rw [show (W.lay p (.dK [])).H p = some (.dK []) from upd_same] at this
              cases this
          have hFn : W1.F p = none := by
            cases hq : W1.F p with
            | none => rfl
            | some u =>
              rcases s1.1.fn p u hq with h | h
              · rw [hnw.F] at h; cases h
              · rw [show (W.lay p (.dK [])).H p = some (.dK []) from upd_same] at h; cases h
          have hlo : ∀ (i : Nat) c', env[i]? = some (Slot.loc c') → W1.l i ≠ p := fun i c' h => by rw [s1.2]; exact hnw.lo i c' h
          refine ⟨s1.1.hs p _ upd_same (fun n hm z => hnw.gl n hm z.symm), kvs, e1, by omega, ?_⟩
          refine q p (W1.lay p (.dK (mergeK [] kvs))) (R1.over hFn hgl hlo hnw.en) ((st.trans s1).over hpn) hpn ?_
          exact ⟨hFn, ⟨us, by rw [show (W1.lay p (.dK (mergeK [] kvs))).H p = some (.dK (mergeK [] kvs)) from upd_same]; exact congrArg (fun z => some (HO.dK z)) g1, g2, g3⟩, hgl, hlo, hnw.en⟩
        · rw [if_neg hl] at q; exact q.elim
end
end Ev

/-! Ev39: < and its like of alike data; sorted of alike data. -/
namespace Ev
open PySem L2 PyProof.Rows PySem.W
section
variable {B : Base} {G : Gc} {e : En} {K : PySem.W.Frag} {cl : Str → Option Addr} {W W1 : Wd} {σ : L2.St} {env : List Slot} {S S1 : List Cell}
def cOrdD (f : D → D → Bool) : List Slot → List Cell → XD → XD → Option Bool := fun env S x y => match datOf env S x, datOf env S y with
  | some a, some b => if (dep 32 a && dep 32 b && alike (toPy a) (toPy b) && notN (toPy a)) = true then some (f a b) else none
  | _, _ => none
def cLtD := cOrdD ltD
def cGtD := cOrdD fun a b => ltD b a
def cLeD := cOrdD fun a b => !ltD b a
def cGeD := cOrdD fun a b => !ltD a b
theorem cOrdD_inv {f : D → D → Bool} {x y : XD} {k : Bool} (h : cOrdD f env S x y = some k) : ∃ a b, datOf env S x = some a ∧ datOf env S y = some b ∧ dep 32 a = true ∧ dep 32 b = true ∧ alike (toPy a) (toPy b) = true ∧ toPy a ≠ .none ∧ k = f a b := by
  unfold cOrdD at h
  split at h
  · rename_i a b ha hb
    split at h
    · rename_i hc
      simp only [Bool.and_eq_true] at hc
      obtain ⟨⟨⟨h1, h2⟩, h3⟩, h4⟩ := hc
      cases h
      exact ⟨a, b, ha, hb, h1, h2, h3, (fun z => by rw [z] at h4; cases h4), rfl⟩
    · cases h
  · cases h
theorem ok_ordD {X : Cx} {op : CmpOp} {f : D → D → Bool} (hK : X.K = B.K) (hu : X.A.units + 200 < cLine)
    (hop : ∀ {s : Shared} {a b : Value} {da db : D} {as bs : List Addr} {Q : Value → Shared → Prop}, Reads s.heap a (toPy da) as → Reads s.heap b (toPy db) bs → alike (toPy da) (toPy db) = true → toPy da ≠ .none → X.A.units + min (toPy da).depth (toPy db).depth < cLine → Q (.bool (f da db)) s → wpAny (model X.prog X.w) X.A (compareOp op a b) Q X.xe s) :
    OpOk X B e (compareOp op) (gB (cOrdD f)) := by
  intro pins s σ τ x y v u W env S dx dy d Q I rx ry R x1 x2 hg k
  unfold gB at hg
  cases hc : cOrdD f env S dx dy with
  | none => rw [hc] at hg; cases hg
  | some kk =>
    rw [hc] at hg
    cases hg
    obtain ⟨a, b, ha, hb, da, db, hal, hn, rfl⟩ := cOrdD_inv hc
    obtain ⟨p1, c1⟩ := R.dp x1 ha da
    obtain ⟨p2, c2⟩ := R.dp x2 hb db
    obtain ⟨as, r1⟩ := Dp.reads I _ _ _ (by rw [hK]; exact p1) rx
    obtain ⟨bs, r2⟩ := Dp.reads I _ _ _ (by rw [hK]; exact p2) ry
    have d1 := dep_depth 32 a da
    refine hop r1 r2 hal hn (by omega) ⟨.bl (f a b), W.H, I, rfl, k _ W R .refl rfl⟩
theorem ok_ltD {X : Cx} (hK : X.K = B.K) (hu : X.A.units + 200 < cLine) : OpOk X B e (compareOp .Lt) (gB cLtD) := ok_ordD hK hu lt_data
theorem ok_gtD {X : Cx} (hK : X.K = B.K) (hu : X.A.units + 200 < cLine) : OpOk X B e (compareOp .Gt) (gB cGtD) := ok_ordD hK hu gt_data
theorem ok_leD {X : Cx} (hK : X.K = B.K) (hu : X.A.units + 200 < cLine) : OpOk X B e (compareOp .LtE) (gB cLeD) := ok_ordD hK hu le_data
theorem ok_geD {X : Cx} (hK : X.K = B.K) (hu : X.A.units + 200 < cLine) : OpOk X B e (compareOp .GtE) (gB cGeD) := ok_ordD hK hu ge_data
variable {a b : Expr} {fa fb : EF} {pos : Pos}
theorem se_ltD (ha : SE B G e a fa) (hb : SE B G e b fb) : SE B G e (.Compare a [.Lt] [b] pos) (e2 (gB cLtD) fa fb) := se_cmp (fun X wx C => ok_ltD C.K C.un) ha hb
theorem se_gtD (ha : SE B G e a fa) (hb : SE B G e b fb) : SE B G e (.Compare a [.Gt] [b] pos) (e2 (gB cGtD) fa fb) := se_cmp (fun X wx C => ok_gtD C.K C.un) ha hb
theorem se_leD (ha : SE B G e a fa) (hb : SE B G e b fb) : SE B G e (.Compare a [.LtE] [b] pos) (e2 (gB cLeD) fa fb) := se_cmp (fun X wx C => ok_leD C.K C.un) ha hb
theorem se_geD (ha : SE B G e a fa) (hb : SE B G e b fb) : SE B G e (.Compare a [.GtE] [b] pos) (e2 (gB cGeD) fa fb) := se_cmp (fun X wx C => ok_geD C.K C.un) ha hb
theorem st_ltD (ha : SE B G e a fa) (hb : SE B G e b fb) : ST B G e (.Compare a [.Lt] [b] pos) (bT (e2 (gB cLtD) fa fb)) := st_cmp (fun X wx C => ok_ltD C.K C.un) ha hb
theorem st_gtD (ha : SE B G e a fa) (hb : SE B G e b fb) : ST B G e (.Compare a [.Gt] [b] pos) (bT (e2 (gB cGtD) fa fb)) := st_cmp (fun X wx C => ok_gtD C.K C.un) ha hb
theorem st_leD (ha : SE B G e a fa) (hb : SE B G e b fb) : ST B G e (.Compare a [.LtE] [b] pos) (bT (e2 (gB cLeD) fa fb)) := st_cmp (fun X wx C => ok_leD C.K C.un) ha hb
theorem st_geD (ha : SE B G e a fa) (hb : SE B G e b fb) : ST B G e (.Compare a [.GtE] [b] pos) (bT (e2 (gB cGeD) fa fb)) := st_cmp (fun X wx C => ok_geD C.K C.un) ha hb
/-! ### sorted -/
def leD (a b : D) : Bool := !ltD b a
def tup1 : D → Bool
  | .tup (_ :: _) => true
  | _ => false
def noTup : D → Bool
  | .tup _ => false
  | d => notN (toPy d)
def sortB (ds : List D) : Bool := ds.all tup1 || ds.all noTup
def fSortD : List Slot → List Cell → List XD → Option D := fun env S xs => match xs with
  | [x] => match seqOf env S x with
    | some (.l, ds) => if (alikeD ds && ds.all (dep 32) && sortB ds && decide (ds.length ≤ 1000000)) = true then some (.lst (ds.mergeSort leD)) else none
    | _ => none
  | _ => none
theorem sortable_of {ds : List D} (h : sortB ds = true) : Sortable (ds.map toPy) := by
  unfold sortB at h
  rw [Bool.or_eq_true] at h
  rcases h with h | h
  · refine .inl fun d hd => ?_
    obtain ⟨x, hx, rfl⟩ := List.mem_map.mp hd
    have := List.all_eq_true.mp h x hx
    unfold tup1 at this
    split at this
    · exact ⟨_, _, by simp only [toPy, toPyL]; rfl⟩
    · cases this
  · refine .inr fun d hd => ?_
    obtain ⟨x, hx, rfl⟩ := List.mem_map.mp hd
    have := List.all_eq_true.mp h x hx
    unfold noTup at this
    split at this
    · cases this
    · rename_i hn
      refine ⟨(fun z => by rw [z] at this; cases this), fun xs z => ?_⟩
      cases x with
      | tup ds => exact hn ds rfl
      | _ => simp only [toPy] at z; cases z
theorem each_rep {F : Hp} {ρ : Nat → Addr} {m : Nat} : ∀ {ds : List D} {out : List Value}, EachIs (fun v d => ∃ x, RelV x v ∧ Rep K F ρ m d x) out ds → ∃ xs, Vals xs out ∧ RepL K F ρ m ds xs
  | [], _, .nil => ⟨[], .nil, RepL.nil⟩
  | _ :: _, _, .cons ⟨x, h1, h2⟩ t => by
    obtain ⟨xs, g1, g2⟩ := each_rep t
    exact ⟨x :: xs, .cons h1 g1, RepL.cons h2 g2⟩
theorem rep_each {F : Hp} {ρ : Nat → Addr} {m : Nat} : ∀ {ds : List D} {xs : List V} {us : List Value}, RepL K F ρ m ds xs → Vals xs us → EachIs (fun v d => ∃ x, RelV x v ∧ Rep K F ρ m d x) us ds
  | [], _, _, h, r => by cases h; cases r; exact .nil
  | d :: ds, _, _, h, r => by
    obtain ⟨v, q, rfl, h1, h2⟩ := h
    cases r with
    | cons r1 r2 => exact .cons ⟨v, r1, h1⟩ (rep_each h2 r2)
theorem ok_sortD {X : Cx} (hK : X.K = B.K) (hu : X.A.units + 200 < cLine) : CallOk X B e (.builtin "sorted") fSortD := by
  intro pins s σ τ xs us W env S ds d Q I rx R x1 hg k
  unfold fSortD at hg
  split at hg
  · split at hg
    · rename_i ds' hq
      split at hg
      · rename_i hc
        simp only [Bool.and_eq_true, decide_eq_true_eq] at hc
        obtain ⟨⟨⟨h1, h2⟩, h3⟩, h4⟩ := hc
        cases hg
        obtain ⟨v, rfl, q1⟩ := repXL1 x1
        obtain ⟨a, vs, rfl, s1, r1⟩ := R.seq q1 hq
        obtain ⟨its, rv, hl, _⟩ := I.list (by rw [hK]; exact s1)
        obtain ⟨p1, _⟩ := Rep.dpL R.sub h2 r1
        obtain ⟨as, hr⟩ := Dp.readsAll I _ _ _ (by rw [hK]; exact p1) rv
        rw [Vals.ref1 rx]
        rw [toPyL_eq] at hr
        have hs4 : ds'.length ≤ sizeLine := by rw [sizeLine_eq]; omega
        have hal : AllAlike (ds'.map toPy) := by
          have := (alikeAll_of h1).1
          rw [toPyL_eq] at this
          exact this
        refine sorted_data (enc := toPy) (bs := ds') (vs := its) hl.isList (rep_each r1 rv) (readsAll_each toPy hr) hal (sortable_of h3) hs4 (fun b hb => ?_) fun out hlen he => ?_
        · have := dep_depth 32 b (List.all_eq_true.mp h2 b hb)
          omega
        · obtain ⟨ys, g1, g2⟩ := each_rep he
          obtain ⟨ep, he'⟩ := PyProof.Rows.sortedAll_at s.heap its out.toArray
          obtain ⟨R', st⟩ := R.alloc (I.hok.fresh (Nat.le_succ _)) (.lst ys)
          have hy : ys.length ≤ sizeLine := by rw [g1.length, hlen]; exact hs4
          refine ⟨.ref (s.heap.objs.size + 1), upd W.H (s.heap.objs.size + 1) (.lst ys), I.laid (t' := s.toks) (fun _ _ => PyProof.Rows.sortedAll_old) (Nat.le_succ _) ⟨hy, out, ep, g1, he'⟩, rfl, ?_⟩
          exact k (.ref (s.heap.objs.size + 1)) _ R' st ⟨_, ys, rfl, upd_same, RepL.mono st.1.fs st.1.rr st.1.le _ _ g2⟩
      · cases hg
    · cases hg
  · cases hg
theorem se_sortD {a : Expr} {es : List Expr} {f : AF} {p pos : Pos} (hm : B.mg "sorted" = none) (ha : SA B G e (a :: es) f) (hg : G.sc.names.lookup ("sorted" : Str) = some NameKind.globalImplicit := by rfl) :
    SE B G e (.Call (.Name "sorted" p) (a :: es) [] pos) (eCall fSortD f) := se_callB (fun X wx C => ok_sortD C.K C.un) hm (by decide +kernel) ha hg
end
end Ev

/-! Ev40: the module's constants that are tuples. -/
namespace Ev
open PySem L2 PyProof.Rows PySem.W
/-- a written value stands for flat data -/
def ValIs : Value → D → Prop
  | .none, .non => True
  | .bool a, .bl b => a = b
  | .int i _, .int j => i = j
  | .str s _, .str x => s = ⟨x.toArray⟩
  | _, _ => False
def ValsIs : List Value → List D → Prop
  | [], [] => True
  | v :: vs, d :: ds => ValIs v d ∧ ValsIs vs ds
  | _, _ => False
def flatOk : List D → Bool
  | [] => true
  | .str x :: ds => strOk x && flatOk ds
  | _ :: ds => flatOk ds
section
variable {B : Base} {G : Gc} {e : En} {K : PySem.W.Frag} {cl : Str → Option Addr}
theorem vals_is {F : Hp} {ρ : Nat → Addr} {m : Nat} : ∀ {vs : List Value} {ds : List D}, ValsIs vs ds → flatOk ds = true → ∃ xs : List V, Vals xs vs ∧ RepL K F ρ m ds xs
  | [], [], _, _ => ⟨[], .nil, RepL.nil⟩
  | [], _ :: _, h, _ => h.elim
  | _ :: _, [], h, _ => h.elim
  | v :: vs, d :: ds, ⟨h1, h2⟩, ho => by
    have ho2 : flatOk ds = true := by
      cases d <;> first | exact ho | (simp only [flatOk, Bool.and_eq_true] at ho; exact ho.2)
    obtain ⟨xs, g1, g2⟩ := vals_is (F := F) (ρ := ρ) (m := m) h2 ho2
    cases v <;> cases d <;> first
      | exact (show False from h1).elim
      | exact ⟨V.non :: xs, .cons rfl g1, RepL.cons rfl g2⟩
      | (rename_i a b; cases (show a = b from h1); exact ⟨V.bl a :: xs, .cons rfl g1, RepL.cons rfl g2⟩)
      | (rename_i a t b; cases (show a = b from h1); exact ⟨V.int a :: xs, .cons ⟨t, rfl⟩ g1, RepL.cons rfl g2⟩)
      | (rename_i s t x
         have e : s = ⟨x.toArray⟩ := h1
         subst e
         simp only [flatOk, Bool.and_eq_true] at ho
         exact ⟨V.str ⟨x.toArray⟩ :: xs, .cons ⟨t, rfl⟩ g1, RepL.cons ⟨rfl, ho.1⟩ g2⟩)
/-- the name x holds a tuple of flat data, for good -/
structure TupC (B : Base) (x : Str) (ds : List D) : Prop where
  ex : ∃ (a : Addr) (dd : Option Addr) (its : Array Value) (n : Nat) (sl : Array (Option Value)), B.mg x = some (.ref a) ∧ B.K.lookup a = some ⟨.type "tuple", dd, .seq its n, sl⟩ ∧ ValsIs its.toList ds ∧ flatOk ds = true ∧ its.size ≤ 100000
theorem se_ctup {x : Str} {ds : List D} {pos : Pos} (T : TupC B x ds) (hg : G.sc.names.lookup x = some NameKind.globalImplicit := by rfl) (hdb : (x == ("__debug__" : Str)) = false := by decide +kernel) : SE B G e (.Name x pos) (eC (.tup ds)) := by
  obtain ⟨a, dd, its, n, sl, h1, h2, h3, h4, h5⟩ := T.ex
  refine ⟨fun X wx C => PE.imp (pe_glob (v := .ref a) (C.gl hg) (by rw [C.mg]; exact h1) rfl hdb) fun σ H Q ⟨W, env, S, hH, R, q⟩ => ?_, plName⟩
  subst hH
  obtain ⟨xs, g1, g2⟩ := vals_is (K := B.K) (F := W.F) (ρ := W.ρ) (m := S.length) h3 h4
  exact q (.ref a) W R .refl ⟨a, xs, rfl, .inr ⟨_, its, n, h2, rfl, rfl, by rw [sizeLine_eq]; omega, g1⟩, g2⟩
end
end Ev

/-! Ev41: sorted(set(list of ints)). -/
namespace Ev
open PySem L2 PyProof.Rows PySem.Spec
/-! ### ints, ascending, each once -/
def insU (x : Int) : List Int → List Int
  | [] => [x]
  | y :: l => if x < y then x :: y :: l else if x = y then y :: l else y :: insU x l
def sortU : List Int → List Int
  | [] => []
  | x :: l => insU x (sortU l)
theorem insU_mem {x k : Int} : ∀ {l : List Int}, k ∈ insU x l ↔ k = x ∨ k ∈ l
  | [] => by simp [insU]
  | y :: l => by
    unfold insU
    split
    · simp
    · split
      · rename_i h; subst h; simp
      · rw [List.mem_cons, insU_mem, List.mem_cons]
        constructor
        · rintro (h | h | h)
          · exact .inr (.inl h)
          · exact .inl h
          · exact .inr (.inr h)
        · rintro (h | h | h)
          · exact .inr (.inl h)
          · exact .inl h
          · exact .inr (.inr h)
theorem insU_up {x : Int} : ∀ {l : List Int}, l.Pairwise (· < ·) → (insU x l).Pairwise (· < ·)
  | [], _ => List.pairwise_singleton _ _
  | y :: l, h => by
    obtain ⟨h1, h2⟩ := List.pairwise_cons.mp h
    unfold insU
    split
    · rename_i hx
      refine List.pairwise_cons.mpr ⟨fun k hk => ?_, h⟩
      rcases List.mem_cons.mp hk with rfl | hk
      · exact hx
      · exact Int.lt_trans hx (h1 k hk)
    · split
      · exact h
      · rename_i a b
        refine List.pairwise_cons.mpr ⟨fun k hk => ?_, insU_up h2⟩
        rcases insU_mem.mp hk with rfl | hk
        · omega
        · exact h1 k hk
theorem sortU_mem {k : Int} : ∀ {l : List Int}, k ∈ sortU l ↔ k ∈ l
  | [] => Iff.rfl
  | x :: l => by show k ∈ insU x (sortU l) ↔ _; rw [insU_mem, sortU_mem, List.mem_cons]
theorem sortU_up : ∀ {l : List Int}, (sortU l).Pairwise (· < ·)
  | [] => List.Pairwise.nil
  | x :: l => insU_up sortU_up
theorem up_one : ∀ {l m : List Int}, l.Pairwise (· < ·) → m.Pairwise (· < ·) → (∀ k, k ∈ l ↔ k ∈ m) → l = m
  | [], [], _, _, _ => rfl
  | [], y :: m, _, _, h => absurd ((h y).mpr List.mem_cons_self) (by simp)
  | x :: l, [], _, _, h => absurd ((h x).mp List.mem_cons_self) (by simp)
  | x :: l, y :: m, a, b, h => by
    obtain ⟨a1, a2⟩ := List.pairwise_cons.mp a
    obtain ⟨b1, b2⟩ := List.pairwise_cons.mp b
    have e : x = y := by
      rcases List.mem_cons.mp ((h x).mp List.mem_cons_self) with e | e
      · exact e
      · have q := b1 x e
        rcases List.mem_cons.mp ((h y).mpr List.mem_cons_self) with f | f
        · exact f.symm
        · have := a1 y f; omega
    subst e
    rw [up_one a2 b2 fun k => ?_]
    constructor
    · intro hk
      rcases List.mem_cons.mp ((h k).mp (List.mem_cons_of_mem _ hk)) with e | e
      · subst e; exact absurd (a1 k hk) (by omega)
      · exact e
    · intro hk
      rcases List.mem_cons.mp ((h k).mpr (List.mem_cons_of_mem _ hk)) with e | e
      · subst e; exact absurd (b1 k hk) (by omega)
      · exact e
theorem sortU_len : ∀ {l : List Int}, (sortU l).length ≤ l.length
  | [] => Nat.le_refl _
  | x :: l => by
    have h := sortU_len (l := l)
    have : ∀ m : List Int, (insU x m).length ≤ m.length + 1 := fun m => by
      induction m with
      | nil => simp [insU]
      | cons y m ih =>
        unfold insU
        split
        · simp
        · split
          · simp
          · simp only [List.length_cons]; omega
    exact Nat.le_trans (this (sortU l)) (by simp only [List.length_cons]; omega)
section
variable {K : PySem.W.Frag}
theorem ints_are : ∀ {ns : List Int} {us : List Value}, Vals (ns.map V.int) us → IntsAre us ns
  | [], _, h => by cases h; exact .nil
  | n :: ns, _, h => by
    cases h with
    | cons h1 h2 =>
      obtain ⟨t, rfl⟩ := h1
      exact .cons n t (ints_are h2)
theorem vals_ints : ∀ {ns : List Int} {us : List Value}, IntsAre us ns → Vals (ns.map V.int) us
  | _, _, .nil => .nil
  | _, _, .cons n t h => .cons ⟨t, rfl⟩ (vals_ints h)
end
def fSortSet : List Slot → List Cell → List XD → Option D := fun env S xs => match xs with
  | [x] => match seqOf env S x with
    | some (.l, ds) => (match intsOf ds with
      | some ns => if ns.length < 4000 ∧ (sortU ns).length < 64 then some (.lst ((sortU ns).map .int)) else none
      | none => none)
    | _ => none
  | _ => none
/-- len(set(..)) -/
def fLenSet : List Slot → List Cell → List XD → Option D := fun env S xs => match xs with
  | [x] => match seqOf env S x with
    | some (.l, ds) => (match intsOf ds with
      | some ns => if ns.length < 4000 then some (.int ((sortU ns).length : Nat)) else none
      | none => none)
    | _ => none
  | _ => none
abbrev SetX (w : World) (a : Addr) (ns : List Int) : HO := .ext fun h => SetR w h a (fun j => decide (j ∈ ns)) (sortU ns).length
theorem setR_size {w : World} {h : Heap} {a : Addr} {ns : List Int} {n : Nat} (R : SetR w h a (fun j => decide (j ∈ ns)) n) : n = (sortU ns).length := by
  obtain ⟨o, es, ep, t, ho, hex, hd, g, nd, hm, hb, hf, hn, hr, hl⟩ := R
  have hp : (es.toList.map L2.keyOf).Perm (sortU ns) := (List.perm_ext_iff_of_nodup nd (sortU_up.imp fun h => Int.ne_of_lt h)).mpr fun k => by
    rw [← hm k, sortU_mem, decide_eq_true_eq]
  have := hp.length_eq
  rw [List.length_map, Array.length_toList] at this
  omega
section
variable {B : Base} {G : Gc} {e : En}
theorem callR_setI {X : Cx} (hK : X.K = B.K) (hc : X.calm = true) (τ : L2.St) : CallR X (.type "set") (fun xs H Q => ∃ W env S x ns, W.H = H ∧ FRel B.K B.cl e W τ env S ∧ RepXL B.K W S.length [x] xs ∧ seqOf env S x = some (.l, ns.map D.int) ∧ ns.length < 4000 ∧
    ∀ p, H p = none → Q (.ref p) (upd H p (SetX X.w p ns))) := by
  intro pins s σ H xs us Q I rx ⟨W, env, S, x, ns, hH, R, x1, hq, hz, k⟩
  subst hH
  obtain ⟨v, rfl, q1⟩ := repXL1 x1
  obtain ⟨a, vs, rfl, s1, r1⟩ := R.seq q1 hq
  obtain ⟨its, rv, hl, _⟩ := I.list (by rw [hK]; exact s1)
  rw [Vals.ref1 rx]
  rw [RepL.of_ints r1] at rv
  refine set_of_list (P := X.prog) (w := X.w) ns (I.ok.hd hc) hl.isList (by rw [List.toList_toArray]; exact ints_are rv) (by show _ < 4096; omega) fun h2 tk n hS hn keep => ?_
  refine ⟨.ref s.heap.objs.size, _, I.laid (o := SetX X.w s.heap.objs.size ns) keep (Nat.le_refl _) ⟨setR_size hS ▸ hS, ?_, fun h1 h2 φ kk => SetR.at φ kk⟩, rfl, k _ (I.hok.fresh (Nat.le_refl _))⟩
  obtain ⟨o, _, _, _, ho, _⟩ := hS
  exact ⟨o, ho⟩
theorem callR_sortU {X : Cx} (hc : X.calm = true) : CallR X (.builtin "sorted") (fun xs H Q => ∃ (p : Addr) (ns : List Int), xs = [V.ref p] ∧ H p = some (SetX X.w p ns) ∧ (sortU ns).length < 64 ∧
    ∀ b, H b = none → Q (.ref b) (upd H b (.lst ((sortU ns).map .int)))) := by
  intro pins s σ H xs us Q I rx ⟨p, ns, hx, hp, h64, k⟩
  subst hx
  have hR : SetR X.w s.heap p (fun j => decide (j ∈ ns)) (sortU ns).length := (I.hok p _ hp).1
  rw [Vals.ref1 rx]
  refine sorted_set hR (I.ok.hd hc) h64 fun s' b out c ns' keep hg ho hb hat hI hup hmem hlen => ?_
  have hns : ns' = sortU ns := up_one hup sortU_up fun j => by rw [hmem j, sortU_mem, decide_eq_true_eq]
  subst hns
  have hsz : ((sortU ns).map V.int).length ≤ sizeLine := by
    rw [List.length_map, sizeLine_eq]
    omega
  have I2 := I.laid (h' := s'.heap) (t' := s'.toks) (a := b) (o := .lst ((sortU ns).map .int)) keep hb ⟨hsz, out.toList, c, vals_ints hI, by rw [Array.toArray_toList]; exact hat⟩
  refine ⟨.ref b, _, ?_, rfl, k b (I.hok.fresh hb)⟩
  exact ⟨I2.ok, ho.trans I.os, by rw [hg]; exact I.bare, I2.base, I2.loc, I2.cell, I2.free, I2.freeC, I2.pin, I2.hok, I2.len⟩
theorem callR_lenI {X : Cx} : CallR X (.builtin "len") (fun xs H Q => ∃ (p : Addr) (ns : List Int), xs = [V.ref p] ∧ H p = some (SetX X.w p ns) ∧ Q (.int ((sortU ns).length : Nat)) H) := by
  intro pins s σ H xs us Q I rx ⟨p, ns, hx, hp, k⟩
  subst hx
  have hR : SetR X.w s.heap p (fun j => decide (j ∈ ns)) (sortU ns).length := (I.hok p _ hp).1
  rw [Vals.ref1 rx]
  obtain ⟨o, es, ep, t, ho, hex, hd, g, nd, hm, hb, hf, hn, hr, hl⟩ := hR
  refine call_len_set ho hex hd hf (by have : es.size < 4096 := hb; omega) ⟨.int ((sortU ns).length : Nat), H, I.tok _, ⟨_, by rw [hn]⟩, k⟩
theorem se_sortSet {a : Expr} {f : AF} {p pos p2 pos2 : Pos} (hm1 : B.mg "sorted" = none) (hm2 : B.mg "set" = none) (ha : SA B G e [a] f)
    (hg1 : G.sc.names.lookup ("sorted" : Str) = some NameKind.globalImplicit := by rfl) (hg2 : G.sc.names.lookup ("set" : Str) = some NameKind.globalImplicit := by rfl) (hcalm : G.calm = true := by rfl) :
    SE B G e (.Call (.Name "sorted" p) [.Call (.Name "set" p2) [a] [] pos2] [] pos) (eCall fSortSet f) := by
  refine ⟨fun X wx C => ⟨fun pins s σ H Q I h => ?_⟩, plCall⟩
  have P1 : PE X (.Call (.Name "set" p2) [a] [] pos2) _ := pe_callTy (callR_setI (B := B) (e := e) C.K (C.calm hcalm) σ) (C.gl hg2) (by rw [C.mg]; exact hm2) (by decide +kernel) (ha.run X wx C) (by decide +kernel) (by decide +kernel) (sa_star ha X.env) (sa_nostar (fun y hy => ha.pl y (List.mem_cons_of_mem _ hy)) X.env pos2)
  refine (pe_callB (callR_sortU (C.calm hcalm)) (C.gl hg1) (by rw [C.mg]; exact hm1) (by decide +kernel) (pa_cons P1 pa_nil) (by decide +kernel) (by decide +kernel)).run pins s σ H Q I ?_
  obtain ⟨W, env, S, rfl, R, q⟩ := h
  refine ⟨W, env, S, rfl, R, postG.seq q fun xs S1 vs W1 R1 s1 r1 q1 => ?_⟩
  cases hg : fSortSet env S1 xs with
  | none => rw [hg] at q1; exact q1.elim
  | some d =>
    rw [hg] at q1
    unfold fSortSet at hg
    split at hg
    · rename_i x
      split at hg
      · rename_i ds hq
        cases hi : intsOf ds with
        | none => rw [hi] at hg; cases hg
        | some ns =>
          rw [hi] at hg
          dsimp only at hg
          split at hg
          · rename_i h64
            cases hg
            rw [intsOf_eq hi] at hq
            refine ⟨W1, env, S1, x, ns, rfl, R1, r1, hq, h64.1, fun p hp => ?_⟩
            refine ⟨p, ns, rfl, upd_same, h64.2, fun b hb => ?_⟩
            obtain ⟨R2, t2⟩ := R1.alloc hp (SetX X.w p ns)
            obtain ⟨R3, t3⟩ := R2.alloc (p := b) hb (.lst ((sortU ns).map .int))
            exact q1 (.ref b) _ R3 (t2.trans t3) ⟨b, _, rfl, upd_same, RepL.ints⟩
          · cases hg
      · cases hg
    · cases hg
theorem se_lenSet {a : Expr} {f : AF} {p pos p2 pos2 : Pos} (hm1 : B.mg "len" = none) (hm2 : B.mg "set" = none) (ha : SA B G e [a] f)
    (hg1 : G.sc.names.lookup ("len" : Str) = some NameKind.globalImplicit := by rfl) (hg2 : G.sc.names.lookup ("set" : Str) = some NameKind.globalImplicit := by rfl) (hcalm : G.calm = true := by rfl) :
    SE B G e (.Call (.Name "len" p) [.Call (.Name "set" p2) [a] [] pos2] [] pos) (eCall fLenSet f) := by
  refine ⟨fun X wx C => ⟨fun pins s σ H Q I h => ?_⟩, plCall⟩
  have P1 : PE X (.Call (.Name "set" p2) [a] [] pos2) _ := pe_callTy (callR_setI (B := B) (e := e) C.K (C.calm hcalm) σ) (C.gl hg2) (by rw [C.mg]; exact hm2) (by decide +kernel) (ha.run X wx C) (by decide +kernel) (by decide +kernel) (sa_star ha X.env) (sa_nostar (fun y hy => ha.pl y (List.mem_cons_of_mem _ hy)) X.env pos2)
  refine (pe_callB (callR_lenI) (C.gl hg1) (by rw [C.mg]; exact hm1) (by decide +kernel) (pa_cons P1 pa_nil) (by decide +kernel) (by decide +kernel)).run pins s σ H Q I ?_
  obtain ⟨W, env, S, rfl, R, q⟩ := h
  refine ⟨W, env, S, rfl, R, postG.seq q fun xs S1 vs W1 R1 s1 r1 q1 => ?_⟩
  cases hg : fLenSet env S1 xs with
  | none => rw [hg] at q1; exact q1.elim
  | some d =>
    rw [hg] at q1
    unfold fLenSet at hg
    split at hg
    · rename_i x
      split at hg
      · rename_i ds hq
        cases hi : intsOf ds with
        | none => rw [hi] at hg; cases hg
        | some ns =>
          rw [hi] at hg
          dsimp only at hg
          split at hg
          · rename_i h64
            cases hg
            rw [intsOf_eq hi] at hq
            refine ⟨W1, env, S1, x, ns, rfl, R1, r1, hq, h64, fun p hp => ?_⟩
            obtain ⟨R2, t2⟩ := R1.alloc hp (SetX X.w p ns)
            exact ⟨p, ns, rfl, upd_same, q1 _ _ R2 t2 rfl⟩
          · cases hg
      · cases hg
    · cases hg
end
end Ev

/-! Ev42: a test written as one if in another. -/
namespace Ev
open PySem L2 PyProof.Rows
theorem pt_ifX {X : Cx} {a b c : Expr} {ta tb tc : TT} {pos : Pos} (hc : PT X c tc) (ha : PT X a ta) (hb : PT X b tb) : PT X (.IfExp c a b pos) (fun σ H Q => tc σ H fun k H1 => if k = true then ta σ H1 Q else tb σ H1 Q) :=
  ⟨fun pins s σ H Q I h => isTrue_IfExp (thn (hc.run pins s σ H (fun c H1 => if c = true then ta σ H1 Q else tb σ H1 Q) I h) fun d s1 x => by
    obtain ⟨H1, I1, q1⟩ := x
    cases d with
    | true => rw [if_pos rfl] at q1 ⊢; exact ha.run pins s1 σ H1 Q I1 q1
    | false => rw [if_neg (by decide)] at q1 ⊢; exact hb.run pins s1 σ H1 Q I1 q1)⟩
section
variable {B : Base} {G : Gc} {e : En}
def tIte (c f g : TF) : TF := fun env S => (c env S).bind fun b S1 => if b = true then f env S1 else g env S1
theorem st_ifx {c a b : Expr} {tc f g : TF} {pos : Pos} (hc : ST B G e c tc) (ha : ST B G e a f) (hb : ST B G e b g) : ST B G e (.IfExp c a b pos) (tIte tc f g) := by
  refine ⟨fun X wx C => PT.imp (pt_ifX (hc.run X wx C) (ha.run X wx C) (hb.run X wx C)) fun σ H Q ⟨W, env, S, hH, R, q⟩ => ⟨W, env, S, hH, R, postG.seq q fun k S1 k' W1 R1 s1 r1 q1 => ?_⟩⟩
  subst r1
  cases k' with
  | true => exact ⟨W1, env, S1, rfl, R1, q1⟩
  | false => exact ⟨W1, env, S1, rfl, R1, q1⟩
end
end Ev

/-! Ev43: a tuple repeated once is itself. -/
namespace Ev
open PySem L2 PyProof.Rows
theorem tuple_mul1 (l : Addr) (items : Array Value) (n : Nat) (dd : Option Addr) (sl : Array (Option Value)) (u : Tok) :
    Meets (Builtin.«tuple.__mul__» { pos := [Value.ref l, Value.int 1 u] }) fun _ R s =>
      s.heap.get? l = some { cls := Value.type "tuple", dict := dd, data := Data.seq items n, slots := sl } ∧ R (Except.ok (Flow.ret (Value.ref l))) s := by
  refine Meets.of_wp fun prog w A R s h => ?_
  obtain ⟨hl, h⟩ := h
  obtain ⟨hp, g, d, tk, os⟩ := s
  delta Builtin.«tuple.__mul__»
  with_unfolding_all change wpAny (model prog w) A.in1 (@ite (Sem PySem.Fin) ((!(Args.kw ⟨[Value.ref l, Value.int 1 u], []⟩).isEmpty) = true) _ ?t1 ?e1) _ _ _
  refine wpAny_ite_false rfl ?_
  refine wpAny_bind ?_
  refine wpAny_bind ?_
  with_unfolding_all change wpAny (model prog w) A.in1 (pure (some (1 : Int))) _ _ _
  refine wpAny_pure ?_
  with_unfolding_all change wpAny (model prog w) A.in1 (pure (1 : Int)) _ _ _
  refine wpAny_pure ?_
  with_unfolding_all change wpAny (model prog w) A.in1 (@ite (Sem PySem.Fin) ((decide ((1 : Int) < -2 ^ 63) || decide ((1 : Int) ≥ 2 ^ 63)) = true) _ ?t2 ?e2) _ _ _
  refine wpAny_ite_false (by decide) ?_
  refine wpAny_bind ?_
  refine wpAny_bind ?_
  refine wpAny_bind ?_
  refine wpAny_load' hl ?_
  refine wpAny_pure ?_
  refine wpAny_pure ?_
  with_unfolding_all change wpAny (model prog w) A.in1 (@ite (Sem PySem.Fin) ((items.isEmpty || (1 : Int) == 1) = true) _ ?t3 ?e3) _ _ _
  refine wpAny_ite_true (by simp) ?_
  refine wpAny_bind ?_
  refine wpAny_bind ?_
  refine wpAny_typeOf_ref hl ?_
  refine wpAny_pure ?_
  with_unfolding_all change wpAny (model prog w) A.in1 (@ite (Sem PySem.Fin) ((Value.type "tuple" == Value.type "tuple") = true) _ ?t4 ?e4) _ _ _
  refine wpAny_ite_true (by decide) ?_
  refine wpAny_bind ?_
  refine wpAny_rule ?_
  refine wpAny_pure ?_
  exact ⟨_, rfl, h⟩
  case t1 => exact unsupported ""
def rRepT1 (K : PySem.W.Frag) : V → V → L2.Hp → L2.VK → Prop := fun x y H Q => ∃ l xs, x = .ref l ∧ y = .int 1 ∧ SqT K H l xs ∧ Q x H
theorem op_repT1 {X : Cx} : OpR X (binaryOp .Mult) (rRepT1 X.K) := by
  intro pins s σ H x y v u Q I rx ry h
  obtain ⟨l, xs, rfl, rfl, hT, q⟩ := h
  cases rx
  obtain ⟨t, rfl⟩ := ry
  obtain ⟨its, r, ⟨⟨cls, dd, data, sl⟩, ho, hc, n, hd⟩, hs⟩ := I.tuple hT
  dsimp only at hc hd
  subst hc hd
  exact wpAny_binaryOp_repeat_ref (by decide) ⟨_, ho, rfl⟩ (fun s' => typeIs_int s' 1 t) L2.noFill_tuple_mul F.fills_int_mul F.slot_int_rmul L2.repeat_tuple F.slot_int_index.lookup
    (call_meets F.slot_int_rmul (typeIs_int s 1 t) F.entry_int_rmul (F.args_int_rmul_2 (.int 1 t) (.ref l)) (L2.int_rmul_tuple 1 t l its.toArray n dd sl)
      ⟨ho, rfl, ⟨_, ho, rfl⟩, call_meets F.slot_tuple_mul ⟨_, ho, rfl⟩ F.entry_tuple_mul (F.args_tuple_mul_2 (.ref l) (.int 1 t)) (tuple_mul1 l its.toArray n dd sl t) ⟨ho, ⟨.ref l, H, I, rfl, q⟩⟩⟩)
section
variable {B : Base} {G : Gc} {e : En}
def gMulT : List Slot → List Cell → XD → XD → Option D := fun env S x y => match x, y with
  | .dat (.tup ds), .dat (.int 1) => some (.tup ds)
  | x, y => gMulA env S x y
theorem ok_mulT {X : Cx} (hK : X.K = B.K) : OpOk X B e (binaryOp .Mult) gMulT := by
  intro pins s σ τ x y v u W env S dx dy d Q I rx ry R x1 x2 hg k
  unfold gMulT at hg
  split at hg
  · rename_i ds
    cases hg
    obtain ⟨a, vs, rfl, s1, r1⟩ : ∃ a vs, x = .ref a ∧ SqT B.K W.F a vs ∧ RepL B.K W.F W.ρ S.length ds vs := x1
    have e2 : y = .int _ := x2
    exact op_repT1 pins s σ W.H _ _ v u Q I rx ry ⟨a, vs, rfl, e2, by rw [hK]; exact Same.sqT R.sub s1, k _ W R .refl ⟨a, vs, rfl, s1, r1⟩⟩
  · exact ok_mulA hK pins s σ τ x y v u W env S dx dy d Q I rx ry R x1 x2 hg k
theorem se_mulT {a b : Expr} {fa fb : EF} {pos : Pos} (ha : SE B G e a fa) (hb : SE B G e b fb) : SE B G e (.BinOp a .Mult b pos) (e2 gMulT fa fb) := se_op (fun X wx C => ok_mulT C.K) ha hb
theorem gMulT_tup {env : List Slot} {S : List Cell} {ds : List D} {k : Int} (h0 : ds ≠ []) (h1 : 1 ≤ k) (h2 : k ≤ 1000) (h3 : ds.length ≤ 1000) : gMulT env S (.dat (.tup ds)) (.dat (.int k)) = some (.tup (List.replicate k.toNat ds).flatten) := by
  by_cases h : k = 1
  · subst h
    show some _ = _
    simp
  · have : gMulT env S (.dat (.tup ds)) (.dat (.int k)) = gMulA env S (.dat (.tup ds)) (.dat (.int k)) := by
      unfold gMulT
      split
      · rename_i h5 h6; cases h6; exact absurd rfl h
      · rfl
    rw [this]
    show (if ds ≠ [] ∧ 2 ≤ k ∧ k ≤ 1000 ∧ ds.length ≤ 1000 then some (D.tup (List.replicate k.toNat ds).flatten) else none) = _
    rw [if_pos ⟨h0, by omega, h2, h3⟩]
end
end Ev

/-! Ev44: a dict walked: for k in d. -/
namespace Ev
open PySem L2 PyProof.Rows
def keyD : Key → D
  | .inl i => .int i
  | .inr x => .str x.cps.toList
def keyOk : Key → Bool
  | .inl _ => true
  | .inr x => strOk x.cps.toList
theorem key_rep {K : PySem.W.Frag} {F : Hp} {ρ : Nat → Addr} {m : Nat} {k : Key} (h : keyOk k = true) : Rep K F ρ m (keyD k) (kV k) := by
  cases k with
  | inl i => exact rfl
  | inr x => exact ⟨rfl, h⟩
section
variable {B : Base} {G : Gc} {e : En} {K : PySem.W.Frag} {cl : Str → Option Addr} {W W0 W1 : Wd} {σ : L2.St} {env : List Slot} {S S0 S1 : List Cell}
theorem FRel.recell (R : FRel K cl e W σ env S) {n : Nat} {c0 c : Cell} {o : HO} (hn : S[n]? = some c0) (he : ∀ od u, e.H (W.ρ n) ≠ some (.frz od u)) (ok : CellOk K cl W.F W.ρ S.length (upd W.H (W.ρ n) o) (W.ρ n) c) :
    FRel K cl e ⟨W.F, upd W.H (W.ρ n) o, W.ρ, W.l⟩ σ env (S.set n c) := by
  have hl : n < S.length := (List.getElem?_eq_some_iff.mp hn).1
  have hF := (R.glob n c0 hn).1
  have sH : ∀ {b u}, b ≠ W.ρ n → W.H b = some u → (upd W.H (W.ρ n) o) b = some u := fun {b u} hb q => by rw [upd_ne hb]; exact q
  refine ⟨fun b u q => sH (fun z => by subst z; rw [hF] at q; cases q) (R.sub b u q), fun k c2 h2 => ?_, fun i j hi hj => R.inj i j (by simpa using hi) (by simpa using hj), R.len, fun i d h2 => ?_, fun i c2 h2 => ?_, R.linj, ?_, fun i c q h2 => by rw [List.length_set]; exact R.err i c q h2⟩
  · rw [List.length_set]
    by_cases hk : n = k
    · subst hk
      rw [List.getElem?_set_self hl] at h2
      cases h2
      exact ⟨hF, ok⟩
    · rw [List.getElem?_set_ne hk] at h2
      obtain ⟨h3, h4⟩ := R.glob k c2 h2
      have hk2 : k < S.length := (List.getElem?_eq_some_iff.mp h2).1
      exact ⟨h3, CellOk.mono (Same.refl _) (fun _ _ => rfl) (Nat.le_refl _) (fun u q => sH (fun z => hk (R.inj n k hl hk2 z.symm)) q) h4⟩
  · obtain ⟨v, h3, h4⟩ := R.val i d h2
    exact ⟨v, h3, by rw [List.length_set]; exact h4⟩
  · obtain ⟨h3, h4, h5, h6, h7⟩ := R.loc i c2 h2
    rw [List.length_set]
    exact ⟨h3, h4, CellOk.mono (Same.refl _) (fun _ _ => rfl) (Nat.le_refl _) (fun u q => sH (fun z => h7 n hl z.symm) q) h5, h6, h7⟩
  · have x := R.ext
    have nE : ∀ b u, e.H b = some u → (∀ k, k < e.m → b ≠ e.ρ k) → b ≠ W.ρ n := fun b u q hk z => by
      subst z
      by_cases hm : n < e.m
      · exact hk n hm (x.rr n hm)
      · have := x.rn n (Nat.not_lt.mp hm) hl
        rw [this] at q; cases q
    refine ⟨x.fs, x.fn, by rw [List.length_set]; exact x.le, x.rr, by rw [List.length_set]; exact x.rn, fun b hb => ?_, fun b u hb hk => sH (nE b u hb hk) (x.hs b u hb hk), fun b od u hb => sH (fun z => by subst z; exact he od u hb) (x.fz b od u hb)⟩
    by_cases hd : b = W.ρ n
    · have hb : upd W.H (W.ρ n) o b = none := hb
      subst hd
      rw [upd_same] at hb; cases hb
    · have hb : upd W.H (W.ρ n) o b = none := hb
      rw [upd_ne hd] at hb
      exact x.hd b hb
def unlO (n : Nat) (c : Cell) : SOut → SOut
  | .nx env S => .nx env (S.set n c)
  | .rt d S => .rt d (S.set n c)
  | .bk env S => .bk env (S.set n c)
  | .ct env S => .ct env (S.set n c)
  | o => o
/-- for tg in d: d a shared dict -/
def sForD (fo : EF) (g : GF) (b : SF) : SF := fun env S => match fo env S with
  | .val (.dat (.own n)) S1 => (match S[n]? with
    | some (.dct ks ds) => (match fo env (S.set n (.lck ks ds)) with
      | .val (.dat (.own n')) S2 => if n' = n ∧ ks.all keyOk = true then unlO n (.dct ks ds) (forL g b (ks.map keyD) env S2) else .bot
      | _ => .bot)
    | _ => .bot)
  | _ => .bot
/-- from a locked state to the state behind the lock -/
theorem unl_rel {ks : List Key} {ds : List D} {vs : List V} {n : Nat} {od : Obj} (R0 : FRel K cl e W0 σ env S0) (hn : S0[n]? = some (.dct ks ds)) (h0 : W0.H (W0.ρ n) = some (.dK (ks.zip vs))) (hk : ks.length = vs.length) (hv : RepL K W0.F W0.ρ S0.length ds vs)
    {σ' : L2.St} {env' : List Slot} (R : FRel K cl e W σ' env' S) (st : StepF ⟨W0.F, upd W0.H (W0.ρ n) (.frz od (.dK (ks.zip vs))), W0.ρ, W0.l⟩ S0.length W S.length) :
    W.H (W0.ρ n) = some (.frz od (.dK (ks.zip vs))) ∧ FRel K cl e ⟨W.F, upd W.H (W0.ρ n) (.dK (ks.zip vs)), W.ρ, W.l⟩ σ' env' (S.set n (.dct ks ds)) ∧ StepF W0 S0.length ⟨W.F, upd W.H (W0.ρ n) (.dK (ks.zip vs)), W.ρ, W.l⟩ (S.set n (.dct ks ds)).length := by
  have hl0 : n < S0.length := (List.getElem?_eq_some_iff.mp hn).1
  have hl : n < S.length := Nat.lt_of_lt_of_le hl0 st.le
  have hr : W.ρ n = W0.ρ n := st.rr n hl0
  have hH : W.H (W0.ρ n) = some (.frz od (.dK (ks.zip vs))) := st.fz _ _ _ upd_same
  obtain ⟨c0, hc0⟩ : ∃ c0, S[n]? = some c0 := ⟨_, List.getElem?_eq_getElem hl⟩
  refine ⟨hH, ?_, st.fs, st.rr, by rw [List.length_set]; exact st.le, fun b od' u q => ?_⟩
  · rw [← hr]
    refine R.recell hc0 (fun od' u z => ?_) ⟨vs, upd_same, hk, RepL.mono st.fs st.rr st.le _ _ hv⟩
    rw [hr] at z
    have := R0.ext.fz _ _ _ z
    rw [h0] at this; cases this
  · have hb : b ≠ W0.ρ n := fun z => by subst z; rw [h0] at q; cases q
    show upd W.H (W0.ρ n) _ b = _
    rw [upd_ne hb]
    exact st.fz b od' u (by show upd W0.H _ _ b = _; rw [upd_ne hb]; exact q)
theorem ss_forD {tg o : Expr} {b : List Stmt} {fo : EF} {g : GF} {ix : List Nat} {f : SF} {pos : Pos} (ho : SE B G e o fo) (hg : SG B G e tg g ix) (hb : SB B G e b f) (hc : G.calm = true := by rfl) : SS B G e (.For tg o b [] pos) (sForD fo g f) := by
  refine ⟨fun X wx C => PS.imp (ps_lock (ps_for C.pass (C.calm hc) (pi_keys (ho.run X wx C)) (hg.run X wx C) (hb.run X wx C) (ho.pl.fs X.env))) fun D σ H ⟨W, env, S, hH, R, q⟩ => ?_⟩
  subst hH
  have q : postS B.K B.cl e wx W S D (sForD fo g f env S) := q
  unfold sForD at q
  split at q
  · rename_i n S1 hf
    split at q
    · rename_i ks ds hS
      split at q
      · rename_i n' S2 hf2
        by_cases hcd : n' = n ∧ ks.all keyOk = true
        · rw [if_pos hcd] at q
          obtain ⟨rfl, hks⟩ := hcd
          obtain ⟨vs, e1, hkl, rv⟩ := (R.glob n' _ hS).2
          have hl : n' < S.length := (List.getElem?_eq_some_iff.mp hS).1
          refine ⟨W.ρ n', .dK (ks.zip vs), e1, trivial, fun od => ?_⟩
          let WL : Wd := ⟨W.F, upd W.H (W.ρ n') (.frz od (.dK (ks.zip vs))), W.ρ, W.l⟩
          have RL : FRel B.K B.cl e WL σ env (S.set n' (.lck ks ds)) := R.recell hS (fun od' u z => by have := R.ext.fz _ _ _ z; rw [e1] at this; cases this) ⟨od, vs, upd_same, hkl, rv⟩
          have hLl : (S.set n' (.lck ks ds)).length = S.length := List.length_set
          have keysL : (ks.zip vs).length = ks.length := by rw [List.length_zip]; omega
          -- what is behind, out of a locked state
          have fin : ∀ {W' : Wd} {σ' : L2.St} {env' : List Slot} {S' : List Cell}, FRel B.K B.cl e W' σ' env' S' → StepF WL S.length W' S'.length → W'.H (W.ρ n') = some (.frz od (.dK (ks.zip vs))) ∧ FRel B.K B.cl e ⟨W'.F, upd W'.H (W.ρ n') (.dK (ks.zip vs)), W'.ρ, W'.l⟩ σ' env' (S'.set n' (.dct ks ds)) ∧ StepF W S.length ⟨W'.F, upd W'.H (W.ρ n') (.dK (ks.zip vs)), W'.ρ, W'.l⟩ (S'.set n' (.dct ks ds)).length :=
            fun R' st => unl_rel R hS e1 hkl rv R' st
          refine ⟨WL, env, S.set n' (.lck ks ds), rfl, RL, ?_⟩
          rw [hf2]
          intro v W2 R2 s2 r2
          obtain ⟨hn2, ev⟩ : n' < S2.length ∧ v = .ref (W2.ρ n') := r2
          rw [hLl] at s2
          have sF2 := s2.f
          have hr2 : W2.ρ n' = W.ρ n' := sF2.rr n' hl
          have hz2 : W2.H (W.ρ n') = some (.frz od (.dK (ks.zip vs))) := sF2.fz _ _ _ upd_same
          refine ⟨W2.ρ n', od, ev, .inl ⟨ks.zip vs, by rw [hr2]; exact hz2, ?_⟩⟩
          rw [hr2]
          refine ⟨fun i m σ H => ∃ W1 env S1, W1.H = H ∧ FRel B.K B.cl e W1 σ env S1 ∧ StepF WL S.length W1 S1.length ∧ i + m = ks.length ∧ postS B.K B.cl e wx W S D (unlO n' (.dct ks ds) (forL g f ((ks.map keyD).drop i) env S1)), ⟨ks.length, W2, env, S2, rfl, R2, sF2, Nat.zero_add _, by rw [List.drop_zero]; exact q⟩, fun i m σ1 H1 ⟨W1, env1, S1, hH1, R1, st1, him, q1⟩ => ?_⟩
          subst hH1
          have hz1 : W1.H (W.ρ n') = some (.frz od (.dK (ks.zip vs))) := st1.fz _ _ _ upd_same
          cases m with
          | zero =>
            refine .inl ⟨⟨hz1, by rw [keysL]; omega⟩, ?_⟩
            rw [List.drop_of_length_le (by rw [List.length_map]; omega)] at q1
            obtain ⟨g1, g2, g3⟩ := fin R1 st1
            exact ⟨g1, q1 _ _ g2 g3⟩
          | succ m =>
            have hik : i < ks.length := by omega
            refine .inr ⟨⟨hz1, by rw [keysL]; exact hik⟩, fun σ' H' => ∃ W1 env S1, W1.H = H' ∧ FRel B.K B.cl e W1 σ' env S1 ∧ StepF WL S.length W1 S1.length ∧ i + 1 + m = ks.length ∧ postS B.K B.cl e wx W S D (unlO n' (.dct ks ds) (forL g f ((ks.map keyD).drop (i + 1)) env S1)), fun σ' H' h => ⟨m, Nat.lt_succ_self m, h⟩, fun x H' hy => ?_⟩
            obtain ⟨rfl, k, u, hku, rfl⟩ := hy
            have hk : ks[i]? = some k := by
              rw [List.getElem?_eq_getElem hik]
              have hi2 : i < (ks.zip vs).length := by rw [keysL]; exact hik
              rw [List.getElem?_eq_getElem hi2] at hku
              have := Option.some.inj hku
              rw [List.getElem_zip] at this
              rw [(Prod.mk.inj this).1]
            have hko : keyOk k = true := List.all_eq_true.mp hks k (List.mem_of_getElem? hk)
            rw [List.drop_eq_getElem_cons (by rw [List.length_map]; exact hik)] at q1
            have hkd : (ks.map keyD)[i]'(by rw [List.length_map]; exact hik) = keyD k := by
              rw [List.getElem_map]
              rw [List.getElem?_eq_getElem hik] at hk
              rw [Option.some.inj hk]
            rw [hkd] at q1
            unfold forL at q1
            cases h2 : g (keyD k) env1 S1 with
            | none => rw [h2] at q1; exact q1.elim
            | some env2 =>
              rw [h2] at q1
              dsimp only at q1
              refine ⟨W1, env1, S1, keyD k, env2, rfl, R1, key_rep hko, h2, fun σ' _ R' => ⟨W1, env2, S1, rfl, R', ?_⟩⟩
              cases hfb : f env2 S1 with
              | nx env' S' =>
                rw [hfb] at q1
                exact fun σ' W' R' s' => ⟨W', env', S', rfl, R', st1.trans s', by omega, q1⟩
              | ct env' S' =>
                rw [hfb] at q1
                exact fun σ' W' R' s' => ⟨W', env', S', rfl, R', st1.trans s', by omega, q1⟩
              | bk env' S' =>
                rw [hfb] at q1
                intro σ' W' R' s'
                obtain ⟨g1, g2, g3⟩ := fin R' (st1.trans s')
                exact ⟨g1, q1 _ _ g2 g3⟩
              | rt d S' =>
                rw [hfb] at q1
                intro v σ' W' env' R' s' r'
                obtain ⟨g1, g2, g3⟩ := fin R' (st1.trans s')
                exact ⟨g1, q1 _ _ _ _ g2 g3 (by rw [List.length_set]; exact r')⟩
              | exc c p env' S' =>
                rw [hfb] at q1
                intro cls dx σ' W' R' s' xa
                have t := st1.trans s'
                refine q1 cls dx σ' W' R' ⟨t.fs, t.rr, t.le, fun b od' u qb => t.fz b od' u ?_⟩ xa
                show upd W.H (W.ρ n') _ b = _
                rw [upd_ne fun z => by subst z; rw [e1] at qb; cases qb]
                exact qb
              | bot => rw [hfb] at q1; exact q1.elim
        · rw [if_neg hcd] at q; exact q.elim
      · exact q.elim
    · exact q.elim
  · exact q.elim
/-- list(d) -/
def fListD : List Slot → List Cell → List XD → Option D := fun env S xs => match xs with
  | [x] => match dctAt env S x with
    | some (ks, _) => if ks.all keyOk = true then some (.lst (ks.map keyD)) else none
    | none => none
  | _ => none
theorem keys_rep {F : Hp} {ρ : Nat → Addr} {m : Nat} : ∀ {ks : List Key} {vs : List V}, ks.length = vs.length → ks.all keyOk = true → RepL K F ρ m (ks.map keyD) ((ks.zip vs).map fun kv => kV kv.1)
  | [], vs, _, _ => by cases vs <;> exact RepL.nil
  | k :: ks, [], h, _ => by cases h
  | k :: ks, v :: vs, h, h2 => by
    rw [List.all_cons, Bool.and_eq_true] at h2
    rw [List.zip_cons_cons, List.map_cons, List.map_cons]
    exact RepL.cons (key_rep h2.1) (keys_rep (Nat.succ.inj h) h2.2)
theorem ok_listD {X : Cx} (hK : X.K = B.K) (hc : X.calm = true) : CallOk X B e (.type "list") fListD := by
  intro pins s σ τ xs us W env S ds d Q I rx R x1 hg k
  unfold fListD at hg
  split at hg
  · split at hg
    · rename_i ks es hq
      split at hg
      · rename_i hk
        cases hg
        obtain ⟨v, rfl, h1⟩ := repXL1 x1
        obtain ⟨a, vs, rfl, s1, l1, r1⟩ := R.dct h1 hq
        refine call_listD hc pins s σ W.H _ us Q I rx ⟨a, ks.zip vs, rfl, s1, fun p hp => ?_⟩
        obtain ⟨R', st⟩ := R.alloc hp (.lst ((ks.zip vs).map fun kv => kV kv.1))
        exact k _ _ R' st (rep_lst hp R (keys_rep l1 hk))
      · cases hg
    · cases hg
  · cases hg
theorem se_listD {a : Expr} {es : List Expr} {f : AF} {p pos : Pos} (hm : B.mg "list" = none) (ha : SA B G e (a :: es) f) (hc : G.calm = true := by rfl) (hg : G.sc.names.lookup ("list" : Str) = some NameKind.globalImplicit := by rfl) : SE B G e (.Call (.Name "list" p) (a :: es) [] pos) (eCall fListD f) := se_callTy (fun X wx C => ok_listD C.K (C.calm hc)) hm (by decide +kernel) ha hg
end
end Ev

/-! Ev45: try with two clauses, each with a name. -/
namespace Ev
open PySem L2 PyProof.Rows
section
variable {X : Cx} {pins : List (Addr × Obj)} {D : Ends}
theorem hand_as {x n : Str} {c : Value} {i : Nat} {suite : List Stmt} {b₀ : Stmt} {np pos' : Pos} {rest : List ExceptHandler} {ts : Addr → Value → Option Addr → TS} {B : Heap} {a : Addr} {cls : Value} {d : Option Addr} {σ' : L2.St} {H' : Hp} {b : Bool} {s : Shared}
    (ok : X.Ok) (hN : X.N.Nodup) (hi : X.N[i]? = some n) (hln : X.env.kindOf n = some NameKind.local) (hc : Names X x c)
    (hsu : ∀ (a : Addr) (oe : Obj) (cls : Value) (d : Option Addr) (pn : List (Addr × Obj)), Zc cls d oe → (∃ vs, oe.data = Data.fields vs) → PSs (X.suite a ((a, oe) :: pn)) (b₀ :: suite) (ts a cls d))
    (fl : HandSPX.FlyingZ B (X.env :: X.outer) a (Zc cls d) s.heap)
    (hland : ∀ h4, HandSPX.FlyingZ B (X.env :: X.outer) a (Zc cls d) h4 → s.heap.UpToSlots h4 → L2.Inv X pins σ' H' { s with heap := h4 }) (J3 : L2.Inv X pins σ' H' s)
    (na : H' a = none) (nL : a ≠ X.env.locals) (nF : ¬a ∈ X.fs) (hb1 : PySem.W.exmOne X.K cls c = some b)
    (hyes : b = true → ts a cls d ⟨fun σ' H' => D.nx (List.set σ' i none) H', D.rt, fun σ' H' => D.bk (List.set σ' i none) H', fun σ' H' => D.ct (List.set σ' i none) H'⟩ (List.set σ' i (some (V.ref a))) H')
    (hno : b = false → wpAny (model X.prog X.w) X.A (handleBy (.ref a) X.env rest) (SP X pins D) X.xe s) :
    wpAny (model X.prog X.w) X.A (handleBy (.ref a) X.env (.ExceptHandler (some (.Name x np)) (some n) (b₀ :: suite) pos' :: rest)) (SP X pins D) X.xe s := by
  obtain ⟨oe3, vs3, he3, hz3, hd3⟩ := HandSPX.FlyingZ.there fl
  have S3 := L2.Inv.suite J3 he3 hd3 na nL nF
  refine wpAny_handleBy_cons (codeAny_handlers_test ?_) (fun q => nomatch q)
  have LT : PySem.W.Looks (model X.prog X.w) s.heap (typeOf (Value.ref a)) cls := fun A Q E s k q => wpAny_typeOf_ref (k a oe3 he3) (by rw [hz3.1]; exact q)
  have LM := PySem.W.exm_one (L2.Inv.kIn J3) LT hb1
  have test : ∀ {Q : Value → Shared → Prop} {E : Value → Shared → Prop}, Q c s → wpAny (model X.prog X.w) (X.A.mark (some (.ref a))) (eval (.Name x np) X.env) Q E s := fun {Q E} q => by
    obtain ⟨hg, hdbg, hm | ⟨hm, hv, hnn⟩⟩ := hc
    · exact ld_glob (X := X.suite a ((a, oe3) :: (X.pn ++ pins))) S3 hg hm q hdbg
    · exact ld_blt (X := X.suite a ((a, oe3) :: (X.pn ++ pins))) S3 hg hm hv q hnn hdbg
  refine test (PySem.W.Looks.here LM ?_)
  cases b with
  | false => exact hno rfl
  | true =>
    refine codeAny_handlers_suite_as (HandSPX.lands_againZ fl fun h4 fl4 up4 => ?_)
    have J4 := hland h4 fl4 up4
    obtain ⟨oe4, vs4, he4, hz4, hd4⟩ := HandSPX.FlyingZ.there fl4
    have S4 := L2.Inv.suite J4 he4 hd4 na nL nF
    refine store_ok (X := X.suite a ((a, oe4) :: (X.pn ++ pins))) (v := V.ref a) S4 hN hi (Or.inl hln) rfl (fun s5 S5 => ?_) (Or.inr hln)
    refine wpAny_mono ((hsu a oe4 cls d (X.pn ++ pins) hz4 ⟨vs4, hd4⟩).run [] s5 _ H' _ S5 (hyes rfl)) (fun f s6 hsp => ?_) fun _ _ z => False.elim z
    have end_ : ∀ {σ6 : L2.St} {H6 : Hp} {Q : Unit → Shared → Prop}, L2.Inv (X.suite a ((a, oe4) :: (X.pn ++ pins))) [] σ6 H6 s6 → (∀ s', L2.Inv X pins (List.set σ6 i none) H6 s' → Q () s') → wpAny (model X.prog X.w) X.A (do bindName X.env n Value.none; unbindBehindTheSuite X.env n pos') Q X.xe s6 := fun S6 hq => gone_ok (L2.Inv.unsuite S6 ok) hN hi hln hq
    cases f with
    | next =>
      obtain ⟨σ6, H6, S6, q6⟩ := hsp
      exact end_ S6 fun s7 J7 => ⟨_, _, J7, q6⟩
    | brk =>
      obtain ⟨σ6, H6, S6, q6⟩ := hsp
      exact end_ S6 fun s7 J7 => ⟨_, _, J7, q6⟩
    | cont =>
      obtain ⟨σ6, H6, S6, q6⟩ := hsp
      exact end_ S6 fun s7 J7 => ⟨_, _, J7, q6⟩
    | ret u =>
      obtain ⟨v6, σ6, H6, S6, r6, q6⟩ := hsp
      exact end_ S6 fun s7 J7 => ⟨_, _, _, J7, r6, q6⟩
theorem ps_try_as2 {x1 n1 x2 n2 : Str} {c1 c2 : Value} {i1 i2 : Nat} {body suite1 suite2 : List Stmt} {b1 b2 : Stmt} {np1 p1 np2 p2 pos : Pos} {tb : WX → TS} {ts1 ts2 : Addr → Value → Option Addr → TS} {Wout : WX}
    (hs : X.stack = X.env :: X.outer) (hf : X.env.frame = some X.env.locals) (hN : X.N.Nodup) (hi1 : X.N[i1]? = some n1) (hl1 : X.env.kindOf n1 = some NameKind.local) (hi2 : X.N[i2]? = some n2) (hl2 : X.env.kindOf n2 = some NameKind.local)
    (hc1 : Names X x1 c1) (hc2 : Names X x2 c2) (tk : Takes X Wout)
    (hb : ∀ (W : WX) (pn : List (Addr × Obj)) (xe : Value → Shared → Prop), Takes (X.tr pn xe) W → PassesOwn (model X.prog X.w) X.A X.env xe → PSs (X.tr pn xe) body (tb W))
    (hs1 : ∀ (a : Addr) (oe : Obj) (cls : Value) (d : Option Addr) (pn : List (Addr × Obj)), Zc cls d oe → (∃ vs, oe.data = Data.fields vs) → PSs (X.suite a ((a, oe) :: pn)) (b1 :: suite1) (ts1 a cls d))
    (hs2 : ∀ (a : Addr) (oe : Obj) (cls : Value) (d : Option Addr) (pn : List (Addr × Obj)), Zc cls d oe → (∃ vs, oe.data = Data.fields vs) → PSs (X.suite a ((a, oe) :: pn)) (b2 :: suite2) (ts2 a cls d)) :
    PS X (.Try body [.ExceptHandler (some (.Name x1 np1)) (some n1) (b1 :: suite1) p1, .ExceptHandler (some (.Name x2 np2)) (some n2) (b2 :: suite2) p2] [] [] pos) (fun D σ H => tb (wAs X.K c1 i1 ts1 (wAs X.K c2 i2 ts2 Wout D) D) D σ H) := by
  refine ⟨fun pins s σ H D I h => ?_⟩
  have ok := I.ok
  have hfr : X.A.frames = some (X.env :: X.outer) := by rw [ok.frames, hs]
  refine wpAny_Try_except (wpAny_mono ((hb _ (X.pn ++ pins) _ (fun u s' xx => ?_) PassesOwn.looking).run [] s σ H D (L2.Inv.toTry I _) h) (fun f s1 hsp => ?_) fun e s1 he => he)
  · obtain ⟨a, B, sI, pins', σ', H', cls, d, rfl, J', nb, up, sky, na, os, ag, b, hb1, hyes, hno⟩ := xx
    have J := L2.Inv.ofTry J' ok
    have sky' : Sky B (X.env :: X.outer) a (Zc cls d) X.env.locals s'.heap := by rw [← hs]; exact sky
    refine Sky.land Zc.steady hfr hf sky' fun h3 fl3 up3 => ?_
    have J3 : L2.Inv X pins σ' H' { s' with heap := h3 } := L2.Inv.landed (s' := { s' with heap := h3 }) J nb fl3.1 (Heap.UpToSlots.trans up up3) os ag
    obtain ⟨oe3, vs3, he3, hz3, hd3⟩ := HandSPX.FlyingZ.there fl3
    have nfr : ¬a ∈ (X.env :: X.outer).filterMap (fun x => x.frame) := fun hm => by
      obtain ⟨_, o', e', hnf⟩ := Heap.FunFrames.mem fl3.2.2.1 hm
      rw [he3] at e'
      cases e'
      exact hnf vs3 hd3
    have nL : a ≠ X.env.locals := fun z => nfr (List.mem_filterMap.mpr ⟨X.env, List.mem_cons_self, by rw [hf, z]⟩)
    have nF : ¬a ∈ X.fs := fun hm => by
      obtain ⟨e, he, q⟩ := List.mem_filterMap.mp hm
      exact nfr (List.mem_filterMap.mpr ⟨e, List.mem_cons_of_mem _ he, q⟩)
    have hland : ∀ h4, HandSPX.FlyingZ B (X.env :: X.outer) a (Zc cls d) h4 → h3.UpToSlots h4 → L2.Inv X pins σ' H' { s' with heap := h4 } := fun h4 fl4 up4 => L2.Inv.landed (s' := { s' with heap := h4 }) J nb fl4.1 (Heap.UpToSlots.trans (Heap.UpToSlots.trans up up3) up4) os ag
    refine hand_as (s := { s' with heap := h3 }) ok hN hi1 hl1 hc1 hs1 fl3 hland J3 na nL nF hb1 (fun e => hyes e a na) fun e1 => ?_
    obtain ⟨b', hb2, hyes2, hno2⟩ := hno e1
    refine hand_as (s := { s' with heap := h3 }) ok hN hi2 hl2 hc2 hs2 fl3 hland J3 na nL nF hb2 (fun e => hyes2 e a na) fun e2 => ?_
    refine wpAny_handleBy_nil ?_
    obtain ⟨k1, k2, k3, oe, vs, T, oT, ts', he, hz, hd, h1, hr⟩ := id fl3
    refine wpAny_bind (wpAny_field he hd h1 ?_)
    rw [if_neg (by simp)]
    refine wpAny_bind ?_
    rw [hf]
    refine HandSPX.setFlight_upZ fl3 fun h4 hh4 up4 => wpAny_throw (tk (.ref a) _ ⟨a, B, sI, pins, σ', H', cls, d, rfl, J, nb, Heap.UpToSlots.trans (Heap.UpToSlots.trans up up3) up4, .inr (.inr (by rw [hs]; exact hh4)), na, os, ag, hno2 e2⟩)
  · cases f with
    | next =>
      obtain ⟨σ', H', J', q⟩ := hsp
      exact wpAny_execs_nil ⟨_, _, L2.Inv.ofTry J' ok, q⟩
    | brk =>
      obtain ⟨σ', H', J', q⟩ := hsp
      exact ⟨_, _, L2.Inv.ofTry J' ok, q⟩
    | cont =>
      obtain ⟨σ', H', J', q⟩ := hsp
      exact ⟨_, _, L2.Inv.ofTry J' ok, q⟩
    | ret u =>
      obtain ⟨v, σ', H', J', r, q⟩ := hsp
      exact ⟨_, _, _, L2.Inv.ofTry J' ok, r, q⟩
end
section
variable {B : Base} {G : Gc} {e : En} {K : PySem.W.Frag} {cl : Str → Option Addr} {W W1 : Wd} {σ : L2.St} {env : List Slot} {S S1 : List Cell}
def hndO (i : Nat) (fs : SF) (c : Str) (p : D) (env : List Slot) (S : List Cell) : SOut := match fs (env.set i (.err c p)) S with
  | .rt d S2 => .rt d S2
  | _ => .bot
def sTryAs2 (i1 : Nat) (tbl1 : List (Str × Bool)) (i2 : Nat) (tbl2 : List (Str × Bool)) (fb f1 f2 : SF) : SF := fun env S => match fb env S with
  | .exc c p env' S' => (match tbl1.lookup c with
    | some true => hndO i1 f1 c p env' S'
    | some false => (match tbl2.lookup c with
      | some true => hndO i2 f2 c p env' S'
      | some false => .exc c p env' S'
      | none => .bot)
    | none => .bot)
  | o => o
theorem hnd_read {wx : WX} {De : Ends} {C1 dd : Addr} {c : Str} {p : Ev.D} {fs1 : List (Str × V)} {v : V} {W W' : Wd} {σ' : L2.St} {env' : List Slot} {S S' : List Cell} {i : Nat} {fs : SF} {a : Addr} (hx : ∀ a, e.x a = none) (R' : FRel K cl e W' σ' env' S') (s' : StepF W S.length W' S'.length)
    (h1 : cl c = some C1) (h4 : W'.H dd = some (.xd fs1)) (h5 : W'.F dd = none) (h6 : e.H dd = none) (h7 : fs1.lookup ("place" : Str) = some v) (h8 : Rep K W'.F W'.ρ S'.length p v) (h9 : fs1.lookup ("name" : Str) = some (.str c))
    (q : postS K cl e wx W S De (hndO i fs c p env' S')) :
    tS K cl (e.with a (.ref C1) (some dd)) (fun _ _ _ _ => False) fs ⟨fun σ' H' => De.nx (List.set σ' i none) H', De.rt, fun σ' H' => De.bk (List.set σ' i none) H', fun σ' H' => De.ct (List.set σ' i none) H'⟩ (List.set σ' i (some (V.ref a))) W'.H := by
  obtain ⟨R2, s2⟩ := R'.freezeX h4 h5 h6
  have r8 := Rep.stepF h8 s2
  have R3 := R2.catch (a := a) (i := i) hx h1 upd_same h7 r8 h9
  refine ⟨⟨upd W'.F dd (.xd fs1), W'.H, W'.ρ, W'.l⟩, _, _, rfl, R3, ?_⟩
  unfold hndO at q
  cases hfs : fs (env'.set i (.err c p)) S' with
  | rt d S2 =>
    rw [hfs] at q
    exact fun v3 σ3 W3 env3 R4 s3 r3 => q v3 σ3 W3 _ R4.uncatch ((s'.trans s2).trans s3) r3
  | nx _ _ => rw [hfs] at q; exact q.elim
  | bk _ _ => rw [hfs] at q; exact q.elim
  | ct _ _ => rw [hfs] at q; exact q.elim
  | exc _ _ _ _ => rw [hfs] at q; exact q.elim
  | bot => rw [hfs] at q; exact q.elim
theorem ss_tryAs2 (i1 i2 : Nat) {x1 n1 x2 n2 : Str} {tbl1 tbl2 : List (Str × Bool)} {fb f1 f2 : SF} {body suite1 suite2 : List Stmt} {b1 b2 : Stmt} {np1 np2 pos p1 p2 : Pos} (hx : ∀ a, e.x a = none) (H1 : Hnd B x1 tbl1) (H2 : Hnd B x2 tbl2) (hb : SB B G e body fb) (hs1 : ∀ e', SB B (Gc.suite G) e' (b1 :: suite1) f1) (hs2 : ∀ e', SB B (Gc.suite G) e' (b2 :: suite2) f2)
    (hN1 : G.N[i1]? = some n1 := by rfl) (hn1 : G.sc.names.lookup n1 = some .local := by rfl) (hg1 : G.sc.names.lookup x1 = some .globalImplicit := by rfl) (hN2 : G.N[i2]? = some n2 := by rfl) (hn2 : G.sc.names.lookup n2 = some .local := by rfl) (hg2 : G.sc.names.lookup x2 = some .globalImplicit := by rfl)
    (ht : G.top = true := by rfl) (hdb1 : (x1 == ("__debug__" : Str)) = false := by decide +kernel) (hdb2 : (x2 == ("__debug__" : Str)) = false := by decide +kernel) :
    SS B G e (.Try body [.ExceptHandler (some (.Name x1 np1)) (some n1) (b1 :: suite1) p1, .ExceptHandler (some (.Name x2 np2)) (some n2) (b2 :: suite2) p2] [] [] pos) (sTryAs2 i1 tbl1 i2 tbl2 fb f1 f2) := by
  obtain ⟨Cx1, hm1, htb1⟩ := H1.ex
  obtain ⟨Cx2, hm2, htb2⟩ := H2.ex
  refine ⟨fun X wx C => ?_⟩
  have nd : X.N.Nodup := by rw [C.N]; exact C.nd
  refine PS.imp (ps_try_as2 (i1 := i1) (i2 := i2) (tb := fun W => tS B.K B.cl e W fb) (ts1 := fun a cls d => tS B.K B.cl (e.with a cls d) (fun _ _ _ _ => False) f1) (ts2 := fun a cls d => tS B.K B.cl (e.with a cls d) (fun _ _ _ _ => False) f2) (C.top ht).1 (C.top ht).2 nd (by rw [C.N]; exact hN1)
    (by show X.env.scope.names.lookup n1 = _; rw [C.sc]; exact hn1) (by rw [C.N]; exact hN2) (by show X.env.scope.names.lookup n2 = _; rw [C.sc]; exact hn2) (c1 := .ref Cx1) (c2 := .ref Cx2) ⟨by show X.env.scope.names.lookup x1 = _; rw [C.sc]; exact hg1, hdb1, .inl (by rw [C.mg]; exact hm1)⟩ ⟨by show X.env.scope.names.lookup x2 = _; rw [C.sc]; exact hg2, hdb2, .inl (by rw [C.mg]; exact hm2)⟩ C.takes
    (fun W pn xe tk po => hb.run _ _ (C.tr hx tk po)) (fun a oe cls d pn hz hf => (hs1 _).run _ _ (C.suite hz hf)) (fun a oe cls d pn hz hf => (hs2 _).run _ _ (C.suite hz hf))) fun D σ H ⟨W, env, S, hH, R, q⟩ => ⟨W, env, S, hH, R, ?_⟩
  unfold sTryAs2 at q
  cases hf : fb env S with
  | nx env' S' => rw [hf] at q; exact q
  | rt d S' => rw [hf] at q; exact q
  | bk env' S' => rw [hf] at q; exact q
  | ct env' S' => rw [hf] at q; exact q
  | bot => rw [hf] at q; exact q
  | exc c p env' S' =>
    rw [hf] at q
    dsimp only at q
    intro cls dx σ' W' R' s' hxa
    obtain ⟨C1, dd, fs1, v, h1, rfl, rfl, h4, h5, h6, h7, h8, h9⟩ := id hxa
    cases hl : tbl1.lookup c with
    | none => rw [hl] at q; exact q.elim
    | some b =>
      rw [hl] at q
      obtain ⟨C2, hc2, hm⟩ := htb1 c b hl
      rw [h1] at hc2
      cases hc2
      refine ⟨b, by rw [C.K]; exact hm, fun hbt a na => ?_, fun hbf => ?_⟩
      · subst hbt
        exact hnd_read hx R' s' h1 h4 h5 h6 h7 h8 h9 q
      · subst hbf
        dsimp only at q
        cases hl2 : tbl2.lookup c with
        | none => rw [hl2] at q; exact q.elim
        | some b' =>
          rw [hl2] at q
          obtain ⟨C3, hc3, hm3⟩ := htb2 c b' hl2
          rw [h1] at hc3
          cases hc3
          refine ⟨b', by rw [C.K]; exact hm3, fun hbt a na => ?_, fun hbf => ?_⟩
          · subst hbt
            exact hnd_read hx R' s' h1 h4 h5 h6 h7 h8 h9 q
          · subst hbf
            exact q _ _ _ _ R' s' hxa
end
end Ev

/-! WpS: going through a body by simp: the rules as equations. -/
namespace Ev
open PySem L2
section
variable {α β : Type} {X : Str → D → List Cell → Prop} {env : List Slot} {S S' : List Cell} {P : Po}
/-- what simp does not look into -/
structure Hid {α : Type _} (a : α) : Type where
/-- as wV, wS, wO; simp leaves alone what is to follow -/
structure wv (o : Out α) (Q : α → List Cell → Prop) (X : Str → D → List Cell → Prop) (_ : Hid Q) (_ : Hid X) : Prop where
  out : wV o X Q
structure ws (o : SOut) (P : Po) (_ : Hid P) : Prop where
  out : wS o P
structure wo (o : Option α) (Q : α → Prop) (_ : Hid Q) : Prop where
  out : wO o Q
theorem wv_def {o : Out α} {Q : α → List Cell → Prop} {q : Hid Q} {u : Hid X} : wv o Q X q u = wV o X Q := propext ⟨fun h => h.out, fun h => ⟨h⟩⟩
theorem ws_def {o : SOut} {p : Hid P} : ws o P p = wS o P := propext ⟨fun h => h.out, fun h => ⟨h⟩⟩
theorem wo_def {o : Option α} {Q : α → Prop} {q : Hid Q} : wo o Q q = wO o Q := propext ⟨fun h => h.out, fun h => ⟨h⟩⟩
abbrev WV (o : Out α) (Q : α → List Cell → Prop) (X : Str → D → List Cell → Prop) : Prop := wv o Q X .mk .mk
abbrev WS (o : SOut) (P : Po) : Prop := ws o P .mk
abbrev WO (o : Option α) (Q : α → Prop) : Prop := wo o Q .mk
variable {u : Hid X} {p : Hid P}
theorem eV_bind {o : Out α} {f : α → List Cell → Out β} {Q : β → List Cell → Prop} {q : Hid Q} : wv (o.bind f) Q X q u = wv o (fun a S => wv (f a S) Q X q u) X .mk u := by simp only [wv_def, ws_def, wo_def]; cases o <;> rfl
theorem eS_then {o : Out α} {f : α → List Cell → SOut} : ws (o.then env f) P p = wv o (fun a S => ws (f a S) P p) (fun c p S => P.ex c p env S) .mk .mk := by simp only [wv_def, ws_def, wo_def]; cases o <;> rfl
theorem eV_val {a : α} {Q : α → List Cell → Prop} {q : Hid Q} : wv (.val a S) Q X q u = Q a S := wv_def.trans rfl
theorem eV_exc {c : Str} {p : D} {Q : α → List Cell → Prop} {q : Hid Q} : wv (.exc c p S) Q X q u = X c p S := wv_def.trans rfl
theorem eV_bot {Q : α → List Cell → Prop} {q : Hid Q} : wv .bot Q X q u = False := wv_def.trans rfl
theorem eS_nxt : ws (.nx env S) P p = P.nx env S := ws_def.trans rfl
theorem eS_rt {d : D} : ws (.rt d S) P p = P.rt d S := ws_def.trans rfl
theorem eS_bk : ws (.bk env S) P p = P.bk env S := ws_def.trans rfl
theorem eS_ct : ws (.ct env S) P p = P.ct env S := ws_def.trans rfl
theorem eS_ex {c : Str} {d : D} : ws (.exc c d env S) P p = P.ex c d env S := ws_def.trans rfl
theorem eS_bot : ws .bot P p = False := ws_def.trans rfl
theorem eO_some {a : α} {Q : α → Prop} {q : Hid Q} : wo (some a) Q q = Q a := wo_def.trans rfl
theorem eO_none {Q : α → Prop} {q : Hid Q} : wo none Q q = False := wo_def.trans rfl
theorem eV_ite {c : Prop} [Decidable c] {a b : Out α} {Q : α → List Cell → Prop} {q : Hid Q} : wv (if c then a else b) Q X q u = if c then wv a Q X q u else wv b Q X q u := by split <;> rfl
theorem eS_ite {c : Prop} [Decidable c] {a b : SOut} : ws (if c then a else b) P p = if c then ws a P p else ws b P p := by split <;> rfl
theorem eO_ite {c : Prop} [Decidable c] {a b : Option α} {Q : α → Prop} {q : Hid Q} : wo (if c then a else b) Q q = if c then wo a Q q else wo b Q q := by split <;> rfl
theorem eS_seq {f g : SF} : ws (sSeq f g env S) P p = ws (f env S) ⟨fun env S => ws (g env S) P p, P.rt, P.bk, P.ct, P.ex⟩ .mk := by
  simp only [ws_def, wo_def, wv_def]
  show wS _ P = wS _ _
  unfold sSeq; cases f env S <;> rfl
/-- a match on what may be lacking -/
theorem eV_opt {o : Option β} {k : β → Out α} {Q : α → List Cell → Prop} {q : Hid Q} : wv (match o with | some a => k a | none => .bot) Q X q u = wo o (fun a => wv (k a) Q X q u) .mk := by simp only [wv_def, ws_def, wo_def]; cases o <;> rfl
theorem eS_opt {o : Option β} {k : β → SOut} : ws (match o with | some a => k a | none => .bot) P p = wo o (fun a => ws (k a) P p) .mk := by simp only [wv_def, ws_def, wo_def]; cases o <;> rfl
theorem eS_fcons {g : GF} {b : SF} {d : D} {ds : List D} : ws (forL g b (d :: ds) env S) P p = wo (g d env S) (fun env1 => ws (b env1 S) ⟨fun env S => ws (forL g b ds env S) P p, P.rt, P.nx, fun env S => ws (forL g b ds env S) P p, P.ex⟩ .mk) .mk := by
  simp only [ws_def, wo_def, wv_def]
  show wS _ P = wO _ _
  rw [forL]
  cases g d env S with
  | none => rfl
  | some env1 =>
    show wS (match b env1 S with | .nx env' S' => _ | .ct env' S' => _ | .bk env' S' => _ | o => o) P = wS (b env1 S) _
    cases b env1 S <;> rfl
theorem eS_fnil {g : GF} {b : SF} : ws (forL g b [] env S) P p = P.nx env S := ws_def.trans rfl
theorem eS_fseq {w : Wk} {ds : List D} {g : GF} {b : SF} (h : wkItems w = some ds) : ws (forF w g b (wkLen S w) 0 env S) P p = ws (forL g b ds env S) P p := by
  simp only [ws_def, wo_def, wv_def]
  show wS _ P = wS _ P
  rw [(wkItems_spec h S).1, forF_items h g b ds.length 0 env S (by omega)]
  rfl
theorem eS_ftup {ds : List D} {g : GF} {b : SF} : ws (forF (.sq (.tup ds)) g b (wkLen S (.sq (.tup ds))) 0 env S) P p = ws (forL g b ds env S) P p := eS_fseq rfl
theorem eS_flst {ds : List D} {g : GF} {b : SF} : ws (forF (.sq (.lst ds)) g b (wkLen S (.sq (.lst ds))) 0 env S) P p = ws (forL g b ds env S) P p := eS_fseq rfl
theorem eS_frol {ds : List D} {g : GF} {b : SF} : ws (forF (.sq (.rol ds)) g b (wkLen S (.sq (.rol ds))) 0 env S) P p = ws (forL g b ds env S) P p := eS_fseq rfl
theorem eS_frng {lo : Int} {m : Nat} {g : GF} {b : SF} : ws (forF (.rng lo m) g b (wkLen S (.rng lo m)) 0 env S) P p = ws (forL g b ((List.range m).map fun i : Nat => .int (lo + (i : Int))) env S) P p := eS_fseq rfl
theorem eS_ftxt {z : List Nat} {g : GF} {b : SF} : ws (forF (.txt z) g b (wkLen S (.txt z)) 0 env S) P p = ws (forL g b (z.map fun c => .str [c]) env S) P p := eS_fseq rfl
theorem eS_try {i : Nat} {tbl : List (Str × Bool)} {fb fs : SF} : ws (sTryAs i tbl fb fs env S) P p = ws (fb env S) ⟨P.nx, P.rt, P.bk, P.ct, fun c d env' S' => wo (tbl.lookup c) (fun b => if b = true then ws (fs (env'.set i (.err c d)) S') ⟨fun _ _ => False, P.rt, fun _ _ => False, fun _ _ => False, fun _ _ _ _ => False⟩ .mk else P.ex c d env' S') .mk⟩ .mk := by
  simp only [ws_def, wo_def, wv_def]
  show wS _ P = wS _ _
  unfold sTryAs
  cases hf : fb env S with
  | exc c p env' S' =>
    show wS (match tbl.lookup c with | some true => _ | some false => _ | none => _) P = wO (tbl.lookup c) _
    cases tbl.lookup c with
    | none => rfl
    | some b =>
      cases b with
      | false => rfl
      | true =>
        show wS (match fs (env'.set i (.err c p)) S' with | .rt d S2 => _ | _ => _) P = wS (fs (env'.set i (.err c p)) S') _
        cases fs (env'.set i (.err c p)) S' <;> rfl
  | _ => rfl
theorem eS_tryO {tbl : List (Str × Bool)} {fb fs : SF} : ws (sTryO tbl fb fs env S) P p = ws (fb env S) ⟨P.nx, P.rt, P.bk, P.ct, fun c d env' S' => wo (tbl.lookup c) (fun b => if b = true then ws (fs env' S') ⟨P.nx, P.rt, P.bk, P.ct, fun _ _ _ _ => False⟩ .mk else P.ex c d env' S') .mk⟩ .mk := by
  simp only [ws_def, wo_def, wv_def]
  show wS _ P = wS _ _
  unfold sTryO
  cases hf : fb env S with
  | exc c p env' S' =>
    show wS (match tbl.lookup c with | some true => _ | some false => _ | none => _) P = wO (tbl.lookup c) _
    cases tbl.lookup c with
    | none => rfl
    | some b =>
      cases b with
      | false => rfl
      | true =>
        show wS (noExc (fs env' S')) P = wS (fs env' S') _
        cases fs env' S' <;> rfl
  | _ => rfl
/-- the end of a function -/
theorem eV_fn {n : Nat} {b : SF} {ds : List D} {Q : D → List Cell → Prop} {q : Hid Q} : wv (fnF n b ds S) Q X q u = ws (b (fnEnv n ds) S) ⟨fun _ S => Q .non S, Q, fun _ _ => False, fun _ _ => False, fun c p _ S => X c p S⟩ .mk := by
  simp only [ws_def, wo_def, wv_def]
  show wV (outF (b (fnEnv n ds) S)) X Q = _
  cases b (fnEnv n ds) S <;> rfl
/-! what is written: texts -/
theorem str_eq (a b : String) : (Str.ofString a = Str.ofString b) = (a = b) := by
  refine propext ⟨fun h => ?_, fun h => by rw [h]⟩
  rw [Str.ofString_eq_toList, Str.ofString_eq_toList] at h
  have h1 := List.toArray_inj (Str.mk.inj h)
  have h2 := (List.map_inj_right fun x y z => Char.toNat_inj.mp z).mp h1
  exact String.toList_inj.mp h2
theorem objAt_own {n : Nat} : objAt env S (.dat (.own n)) = (match S[n]? with | some (.obj c ns ds) => some (c, ns, ds) | _ => none) := rfl
theorem lookD_cons {f n : Str} {ns : List Str} {d : D} {ds : List D} : lookD f (n :: ns) (d :: ds) = if f = n then some d else lookD f ns ds := by
  show (match f == n with | true => some d | false => lookD f ns ds) = _
  by_cases h : f = n
  · subst h; simp
  · have : (f == n) = false := beq_false_of_ne h
    rw [this, if_neg h]
theorem look_tbl {c n : Str} {b : Bool} {l : List (Str × Bool)} : List.lookup c ((n, b) :: l) = if c = n then some b else l.lookup c := by
  by_cases h : c = n
  · subst h; simp [List.lookup]
  · have : (c == n) = false := beq_false_of_ne h
    rw [if_neg h]; simp [List.lookup, this]
theorem putD_cons {f n : Str} {ns : List Str} {x d : D} {ds : List D} : putD f d (n :: ns) (x :: ds) = if n = f then (n :: ns, d :: ds) else (n :: (putD f d ns ds).1, x :: (putD f d ns ds).2) := by rw [putD]
theorem putD_nil {f : Str} {d : D} : putD f d [] [] = ([f], [d]) := rfl
theorem le_line {n : Nat} (h : n ≤ 100000 := by decide) : (n ≤ sizeLine) = True := by
  rw [sizeLine_eq]; simp; omega
theorem eq_of_WV {o : Out α} {d : α} (h : WV o (fun a S1 => a = d ∧ S1 = S') fun _ _ _ => False) : o = .val d S' := by
  cases o with
  | val a S => obtain ⟨rfl, rfl⟩ : a = d ∧ S = S' ; exact h.out; rfl
  | exc c p S => exact False.elim h.out
  | bot => exact False.elim h.out
theorem exc_of_WV {o : Out α} {c : Str} {d : D} (h : WV o (fun _ _ => False) fun c' d' S1 => c' = c ∧ d' = d ∧ S1 = S') : o = .exc c d S' := by
  cases o with
  | val a S => exact False.elim h.out
  | exc c' p S => obtain ⟨rfl, rfl, rfl⟩ : c' = c ∧ p = d ∧ S = S' ; exact h.out; rfl
  | bot => exact False.elim h.out
/-- a call by what is known of it -/
theorem WV_of {o : Out α} {Q Q' : α → List Cell → Prop} {q : Hid Q} (h : WV o Q' X) (i : ∀ a S, Q' a S → Q a S) : wv o Q X q u := ⟨wV_imp h.out i⟩
theorem ws_rng {g : GF} {b : SF} {lo : Int} {m : Nat} (I : Nat → List Slot → List Cell → Prop) (h0 : I 0 env S)
    (hb : ∀ i env S, i < m → I i env S → WO (g (.int (lo + i)) env S) fun env1 => WS (b env1 S) ⟨I (i + 1), P.rt, P.nx, I (i + 1), P.ex⟩) (he : ∀ env S, I m env S → P.nx env S) :
    ws (forL g b ((List.range m).map fun i : Nat => .int (lo + (i : Int))) env S) P p := ⟨wS_rngI I h0 (fun i env S hi h => wO_imp (hb i env S hi h).out fun e1 h => h.out) he⟩
theorem ws_for {g : GF} {b : SF} {ds : List D} (I : List D → List Slot → List Cell → Prop) (h0 : I ds env S)
    (hb : ∀ d ds env S, I (d :: ds) env S → WO (g d env S) fun env1 => WS (b env1 S) ⟨I ds, P.rt, P.nx, I ds, P.ex⟩) (he : ∀ env S, I [] env S → P.nx env S) :
    ws (forL g b ds env S) P p := ⟨wS_forL I (fun d ds env S h => wO_imp (hb d ds env S h).out fun e1 h => h.out) he ds env S h0⟩
theorem len_of {γ : Type} {l : List γ} {n : Nat} {x : γ} (h : l[n]? = some x) : n < l.length := (List.getElem?_eq_some_iff.mp h).1
theorem get_set {γ : Type} {l : List γ} {n : Nat} {x c : γ} (h : l[n]? = some x) : (l.set n c)[n]? = some c := List.getElem?_set_self (len_of h)
end
end Ev

/-! WpS2: comprehensions, calls whose cells are let go, the least of pairs. -/
namespace Ev
open PySem L2 PySem.W
section
variable {α β : Type} {X : Str → D → List Cell → Prop} {env : List Slot} {S S' : List Cell} {P : Po} {u : Hid X}
theorem wv_lc {wf : WF} {g : GF} {t : TF} {f : EF} {vs : List Nat} {Q : Cell → List Cell → Prop} {q : Hid Q} (h : WV (wf env S) (fun w S1 => WO (wkItems w) fun ds => WV (lcL g t f (wipeE env vs) ds S1 []) (fun acc S2 => Q (.lst acc) S2) X) X) : wv (nLc wf g t f vs env S) Q X q u := ⟨wN_lc (wV_imp h.out fun w S1 h => wO_imp h.out fun ds h => h.out)⟩
abbrev NX : Str → D → List Cell → Prop := fun _ _ _ => False
theorem noX_wv {o : Out α} {Q : α → List Cell → Prop} (h : WV o Q NX) : wV (noX o) X Q := by
  cases o with
  | val a S => exact h.out
  | exc c p S => exact False.elim h.out
  | bot => exact False.elim h.out
/-- a comprehension by what holds between the turns -/
theorem wv_lcI {g : GF} {t : TF} {f : EF} {Q : List D → List Cell → Prop} {q : Hid Q} (I : List D → List D → List Cell → Prop)
    (hb : ∀ d ds acc S, I (d :: ds) acc S → WO (g d env S) fun e1 => WV (t e1 S) (fun k S1 => if k = true then WV (f e1 S1) (fun x S2 => match x with | .dat y => acc.length < sizeLine ∧ I ds (acc ++ [y]) S2 | .loc _ => False) NX else I ds acc S1) NX)
    (he : ∀ acc S, I [] acc S → Q acc S) : ∀ {ds : List D} {S : List Cell} {acc : List D}, I ds acc S → wv (lcL g t f env ds S acc) Q X q u
  | [], S, acc, h0 => ⟨he _ _ h0⟩
  | d :: ds, S, acc, h0 => by
    have h := (hb d ds acc S h0).out
    refine ⟨?_⟩
    show wV (lcL g t f env (d :: ds) S acc) X Q
    unfold lcL
    cases hg : g d env S with
    | none => rw [hg] at h; exact False.elim h
    | some env1 =>
      rw [hg] at h
      have h : wV (t env1 S) NX _ := wv.out h
      dsimp only
      refine wV_bind (noX_wv ⟨wV_imp h fun k S1 h => ?_⟩)
      cases k with
      | false => rw [if_neg (by decide)] at h ⊢; exact (wv_lcI (q := q) I hb he h).out
      | true =>
        rw [if_pos rfl] at h ⊢
        have h : wV (f env1 S1) NX _ := h.out
        refine wV_bind (noX_wv ⟨wV_imp h fun x S2 h => ?_⟩)
        cases x with
        | loc i => exact h.elim
        | dat y =>
          obtain ⟨h1, h2⟩ : acc.length < sizeLine ∧ I ds (acc ++ [y]) S2 := h
          show wV (if acc.length < sizeLine then _ else _) X Q
          rw [if_pos h1]
          exact (wv_lcI (q := q) I hb he h2).out
/-- over range(m) -/
theorem wv_lcR {g : GF} {t : TF} {f : EF} {lo : Int} {m : Nat} {Q : List D → List Cell → Prop} {q : Hid Q} (I : Nat → List D → List Cell → Prop) (h0 : I 0 [] S)
    (hb : ∀ i acc S, i < m → I i acc S → WO (g (.int (lo + i)) env S) fun e1 => WV (t e1 S) (fun k S1 => if k = true then WV (f e1 S1) (fun x S2 => match x with | .dat y => acc.length < sizeLine ∧ I (i + 1) (acc ++ [y]) S2 | .loc _ => False) NX else I (i + 1) acc S1) NX)
    (he : ∀ acc S, I m acc S → Q acc S) : wv (lcL g t f env ((List.range m).map fun i : Nat => .int (lo + (i : Int))) S []) Q X q u := by
  refine wv_lcI (fun ds acc S => ∃ i, i ≤ m ∧ ds = ((List.range m).map fun i : Nat => D.int (lo + (i : Int))).drop i ∧ I i acc S) ?_ ?_ ⟨0, by omega, rfl, h0⟩
  · rintro d ds acc S ⟨i, hi, hd, h⟩
    have hl : ((List.range m).map fun i : Nat => D.int (lo + (i : Int))).length = m := by simp
    have him : i < m := by
      refine Nat.lt_of_le_of_ne hi fun z => ?_
      rw [List.drop_eq_nil_of_le (by omega)] at hd
      cases hd
    rw [List.drop_eq_getElem_cons (by omega)] at hd
    injection hd with e1 e2
    have e1 : d = .int (lo + i) := by rw [e1]; simp
    subst e1
    have h := hb i acc S him h
    refine ⟨wO_imp h.out fun e1 h => ?_⟩
    refine ⟨wV_imp h.out fun k S1 h => ?_⟩
    cases k with
    | false => rw [if_neg (by decide)] at h ⊢; exact ⟨i + 1, by omega, e2, h⟩
    | true =>
      rw [if_pos rfl] at h ⊢
      refine ⟨wV_imp h.out fun x S2 h => ?_⟩
      cases x with
      | loc j => exact h.elim
      | dat y => exact ⟨h.1, i + 1, by omega, e2, h.2⟩
  · rintro acc S ⟨i, hi, hd, h⟩
    have : m ≤ i := by
      have := congrArg List.length hd
      simp at this
      omega
    obtain rfl : i = m := by omega
    exact he _ _ h
theorem wi_rng {lo : Int} {m : Nat} : wkItems (.rng lo m) = some ((List.range m).map fun i : Nat => .int (lo + (i : Int))) := rfl
theorem wi_tup {ds : List D} : wkItems (.sq (.tup ds)) = some ds := rfl
theorem wi_lst {ds : List D} : wkItems (.sq (.lst ds)) = some ds := rfl
theorem wi_rol {ds : List D} : wkItems (.sq (.rol ds)) = some ds := rfl
theorem wi_txt {z : List Nat} : wkItems (.txt z) = some (z.map fun c => .str [c]) := rfl
theorem wipe_cons {v : Nat} {vs : List Nat} : wipeE env (v :: vs) = (wipeE env vs).set v .no := rfl
theorem wipe_nil : wipeE env [] = env := rfl
theorem nat0 {x : Nat} : (0 ≤ (x : Int)) = True := by simp
theorem rng0 {m : Nat} : ((List.range m).map fun i : Nat => D.int (i : Int)) = (List.range m).map fun i : Nat => D.int (0 + (i : Int)) := List.map_congr_left fun i _ => by rw [Int.zero_add]
theorem ws_rng0 {g : GF} {b : SF} {m : Nat} {p : Hid P} (I : Nat → List Slot → List Cell → Prop) (h0 : I 0 env S)
    (hb : ∀ (i : Nat) env S, i < m → I i env S → WO (g (.int i) env S) fun env1 => WS (b env1 S) ⟨I (i + 1), P.rt, P.nx, I (i + 1), P.ex⟩) (he : ∀ env S, I m env S → P.nx env S) :
    ws (forL g b ((List.range m).map fun i : Nat => .int (i : Int)) env S) P p := by
  rw [rng0]
  exact ws_rng I h0 (fun i env S hi h => by rw [Int.zero_add]; exact hb i env S hi h) he
theorem wv_lcR0 {g : GF} {t : TF} {f : EF} {m : Nat} {Q : List D → List Cell → Prop} {q : Hid Q} (I : Nat → List D → List Cell → Prop) (h0 : I 0 [] S)
    (hb : ∀ (i : Nat) acc S, i < m → I i acc S → WO (g (.int i) env S) fun e1 => WV (t e1 S) (fun k S1 => if k = true then WV (f e1 S1) (fun x S2 => match x with | .dat y => acc.length < sizeLine ∧ I (i + 1) (acc ++ [y]) S2 | .loc _ => False) NX else I (i + 1) acc S1) NX)
    (he : ∀ acc S, I m acc S → Q acc S) : wv (lcL g t f env ((List.range m).map fun i : Nat => .int (i : Int)) S []) Q X q u := by
  rw [rng0]
  exact wv_lcR I h0 (fun i acc S hi h => by rw [Int.zero_add]; exact hb i acc S hi h) he
theorem wv_trim {C : CF} {ds : List D} {Q : D → List Cell → Prop} {q : Hid Q} (h : WV (C ds S) (fun d S' => trimOk S.length d S' = true ∧ Q d (S'.take S.length)) fun c p S' => trimOk S.length p S' = true ∧ X c p (S'.take S.length)) : wv (trimC C ds S) Q X q u := ⟨w_trim h.out⟩
/-! a pair of numbers -/
abbrev prD (p : Int × Int) : D := .tup [.int p.1, .int p.2]
theorem ltD_pr (p q : Int × Int) : ltD (prD p) (prD q) = decide (p.1 < q.1 ∨ (p.1 = q.1 ∧ p.2 < q.2)) := dataLt_ii _ _ _ _
theorem alikeD_pr (ps : List (Int × Int)) : (alikeD (ps.map prD) && (ps.map prD).all (dep 32)) = true := by
  unfold alikeD
  simp only [Bool.and_eq_true, List.all_eq_true, List.mem_map]
  refine ⟨⟨?_, ?_⟩, ?_⟩
  · rintro _ ⟨a, _, rfl⟩ _ ⟨b, _, rfl⟩; rfl
  · rintro _ ⟨a, _, rfl⟩; rfl
  · rintro _ ⟨a, _, rfl⟩; rfl
theorem leastD_first {p : Int × Int} : ∀ {ps : List (Int × Int)}, (∀ q ∈ ps, ¬(q.1 < p.1 ∨ (q.1 = p.1 ∧ q.2 < p.2))) → leastD (prD p :: ps.map prD) = some (prD p)
  | [], _ => rfl
  | q :: ps, h => by
    show some (List.foldl _ (if ltD (prD q) (prD p) = true then prD q else prD p) (ps.map prD)) = _
    rw [ltD_pr, decide_eq_false (h q List.mem_cons_self)]
    exact leastD_first fun r hr => h r (List.mem_cons_of_mem _ hr)
theorem minG_pr {x : XD} {p : Int × Int} {ps : List (Int × Int)} (e : seqOf env S x = some (.l, (p :: ps).map prD)) (h : ∀ q ∈ ps, ¬(q.1 < p.1 ∨ (q.1 = p.1 ∧ q.2 < p.2))) : fMinG env S [x] = some (prD p) := by
  have : fMinG env S [x] = (if (alikeD ((p :: ps).map prD) && ((p :: ps).map prD).all (dep 32)) = true then leastD ((p :: ps).map prD) else none) := by
    unfold fMinG
    split
    · rename_i h; cases h
    · rename_i h
      cases h
      rw [e]
    · rename_i h; exact absurd rfl (h x)
  rw [this, if_pos (alikeD_pr _)]
  exact leastD_first h
/-- a comprehension that only reckons -/
theorem wv_lcP {g : GF} {t : TF} {f : EF} {ds : List D} {Q : List D → List Cell → Prop} {q : Hid Q} (p : D → Bool) (F : D → D)
    (h : ∀ d ∈ ds, ∃ e1, g d env S = some e1 ∧ t e1 S = .val (p d) S ∧ (p d = true → f e1 S = .val (.dat (F d)) S)) (hl : ds.length ≤ sizeLine) (hq : Q ((ds.filter p).map F) S) : wv (lcL g t f env ds S []) Q X q u := ⟨w_lcL p F h hl hq⟩
/-- numbers counted -/
abbrev ixD (ks : List Nat) : List D := ks.map fun k : Nat => D.int (k : Int)
theorem eqL_ix : ∀ {xs ys : List Nat}, eqL (ixD xs) (ixD ys) = decide (xs = ys)
  | [], [] => by simp [eqL]
  | [], y :: ys => by simp [eqL]
  | x :: xs, [] => by simp [eqL]
  | x :: xs, y :: ys => by
    show eqL (D.int (x : Int) :: ixD xs) (D.int (y : Int) :: ixD ys) = _
    rw [eqL, eqL_ix]
    have : eqD (D.int (x : Int)) (D.int (y : Int)) = decide (x = y) := by
      rw [eqD]
      by_cases h : x = y
      · subst h; simp
      · have h' : ¬((x : Int) = (y : Int)) := by omega
        simp [h, h']
    rw [this, ← Bool.decide_and]
    simp
theorem dep_ix {n : Nat} : ∀ {xs : List Nat}, (ixD xs).all (dep n) = true := fun {xs} => by
  rw [List.all_eq_true]
  intro x hx
  obtain ⟨k, _, rfl⟩ := List.mem_map.mp hx
  cases n <;> rfl
theorem rgD_ix {n : Nat} : rgD 0 (n : Int) = ixD (List.range n) := by
  unfold rgD ixD
  rw [Int.sub_zero, Int.toNat_natCast]
  exact List.map_congr_left fun i _ => by rw [Int.zero_add]
theorem rgOk_nat {n : Nat} (h : n ≤ 1000000) : rgOk 0 (n : Int) = true := by
  unfold rgOk
  rw [rOk_of (by omega) (by omega), rOk_of (by omega) (by omega), decide_eq_true (by omega)]; rfl
theorem own_ints {m : Nat} : ∀ xs : List Nat, ownLt m (.lst (ixD xs)) = true := by
  intro xs
  unfold ownLt
  induction xs with
  | nil => simp [ixD, ownLtL]
  | cons x xs ih => simpa [ixD, ownLtL, ownLt] using ih
theorem take_app {x : Cell} : (S ++ [x]).take S.length = S := by simp
end
end Ev

/-! WpS3: comprehensions over shared lists. -/
namespace Ev
open PySem L2
section
variable {X : Str → D → List Cell → Prop} {env : List Ev.Slot} {S : List Cell} {u : Hid X}
theorem ex_val2 {α : Type} {o : Out α} {P : α → List Cell → Prop} (h : WV o P NX) : ∃ d S, o = .val d S ∧ P d S := by
  cases o with
  | bot => exact False.elim h.out
  | exc c p S' => exact False.elim h.out
  | val d S' => exact ⟨d, S', rfl, h.out⟩
theorem ws_nx {P P' : Po} {p' : Hid P'} {o : SOut} (h : WS o ⟨P.nx, fun _ _ => False, fun _ _ => False, fun _ _ => False, fun _ _ _ _ => False⟩) (i : ∀ env S, P.nx env S → P'.nx env S) : ws o P' p' := by
  refine ⟨?_⟩
  have h := h.out
  cases o with
  | nx env S => exact i env S h
  | _ => exact False.elim h
theorem eS_while {P : Po} {p : Hid P} {c : TF} {b : SF} {n : Nat} : ws (whileF c b (n + 1) env S) P p = wv (c env S) (fun k S1 => if k = true then ws (b env S1) ⟨fun env S => ws (whileF c b n env S) P p, P.rt, P.nx, fun env S => ws (whileF c b n env S) P p, P.ex⟩ .mk else P.nx env S1) (fun c p S => P.ex c p env S) .mk .mk := by
  simp only [ws_def, wv_def]
  rw [whileF]
  cases c env S with
  | bot => rfl
  | exc c p S => rfl
  | val k S1 =>
    show wS (if k = true then _ else _) P = if k = true then _ else _
    cases k with
    | false => rfl
    | true =>
      rw [if_pos rfl, if_pos rfl]
      show _ = wS (b env S1) _
      cases b env S1 <;> rfl
theorem lcF_pure {w : Wk} {g : GF} {t : TF} {f : EF} {env0 : List Slot} {ds : List D} (hw : ∀ i, wkAt S i w = some ds[i]?) (p : D → Bool) (F : D → D)
    (h : ∀ d ∈ ds, ∃ e1, g d env0 S = some e1 ∧ t e1 S = .val (p d) S ∧ (p d = true → f e1 S = .val (.dat (F d)) S)) : ∀ (k i : Nat) (acc : List D), i + k = ds.length → acc.length + k ≤ sizeLine →
    lcF w g t f env0 k i S acc = .val (acc ++ ((ds.drop i).filter p).map F) S
  | 0, i, acc, hi, _ => by
    unfold lcF
    rw [hw, List.getElem?_eq_none (by omega), List.drop_eq_nil_of_le (by omega)]
    simp
  | k + 1, i, acc, hi, ha => by
    have hlt : i < ds.length := by omega
    obtain ⟨e1, h1, h2, h3⟩ := h ds[i] (List.getElem_mem hlt)
    unfold lcF
    rw [hw, List.getElem?_eq_getElem hlt]
    dsimp only
    rw [h1]
    dsimp only
    rw [List.drop_eq_getElem_cons hlt]
    cases hp : p ds[i] with
    | false =>
      rw [List.filter_cons_of_neg (by simp [hp]), h2, hp]
      simp only [noX, Out.bind, Bool.false_eq_true, if_false]
      exact lcF_pure hw p F h k (i + 1) acc (by omega) (by omega)
    | true =>
      rw [List.filter_cons_of_pos hp, h2, hp]
      simp only [noX, Out.bind, if_true, h3 hp]
      rw [if_pos (by omega), lcF_pure hw p F h k (i + 1) _ (by omega) (by simp; omega)]
      simp
/-- a comprehension over a shared list that only reckons -/
theorem wv_lcO {fo : EF} {g : GF} {t : TF} {f : EF} {vs : List Nat} {n : Nat} {ds : List D} {Q : Cell → List Cell → Prop} {q : Hid Q} (hS : S[n]? = some (.lst ds)) (hf : fo env S = .val (.dat (.own n)) S) (hl : ds.length ≤ sizeLine) (p : D → Bool) (F : D → D)
    (h : ∀ d ∈ ds, ∃ e1, g d (wipeE env vs) S = some e1 ∧ t e1 S = .val (p d) S ∧ (p d = true → f e1 S = .val (.dat (F d)) S)) (hq : Q (.lst ((ds.filter p).map F)) S) : wv (nLc (wSeq fo) g t f vs env S) Q X q u := by
  refine ⟨?_⟩
  have hs : seqOf [] S (.dat (.own n)) = some (.l, ds) := by simp [seqOf, hS]
  have hw : wSeq fo env S = .val (.sq (.own n)) S := by
    unfold wSeq
    rw [hf]
    show wOf (.dat (.own n)) S = _
    simp [wOf, hs]
  have : nLc (wSeq fo) g t f vs env S = .val (.lst ((ds.filter p).map F)) S := by
    unfold nLc
    rw [hw]
    show (lcF (.sq (.own n)) g t f (wipeE env vs) (wkLen S (.sq (.own n))) 0 S []).bind _ = _
    have hlen : wkLen S (.sq (.own n)) = ds.length := by simp only [wkLen, hs]
    rw [hlen, lcF_pure (fun i => by simp only [wkAt, hs]) p F h ds.length 0 [] (by omega) (by simpa using hl)]
    rfl
  rw [this]
  exact hq
end
end Ev

/-! WpT: what the laws' texts share: calls by what they give, statements one by one, draws as functions. -/
namespace Ev
open PySem L2 PySem.W
section
variable {X : Str → D → List Cell → Prop} {env : List Ev.Slot} {S S' : List Cell} {u : Hid X} {P : Po} {p : Hid P}
theorem wv_is {α : Type} {o : Out α} {a : α} {Q : α → List Cell → Prop} {q : Hid Q} (h : o = .val a S') (hq : Q a S') : wv o Q X q u := by rw [h, eV_val]; exact hq
theorem wv_ex {α : Type} {o : Out α} {c : Str} {d : D} {Q : α → List Cell → Prop} {q : Hid Q} (h : o = .exc c d S') (hq : X c d S') : wv o Q X q u := by rw [h, eV_exc]; exact hq
theorem ws_imp {P P' : Po} {p' : Hid P'} {o : SOut} (h : WS o P) (h1 : ∀ env S, P.nx env S → P'.nx env S) (h2 : ∀ d S, P.rt d S → P'.rt d S) (h3 : ∀ env S, P.bk env S → P'.bk env S) (h4 : ∀ env S, P.ct env S → P'.ct env S) (h5 : ∀ c d env S, P.ex c d env S → P'.ex c d env S) : ws o P' p' := by
  refine ⟨?_⟩
  have h := h.out
  cases o with
  | nx env S => exact h1 env S h
  | rt d S => exact h2 d S h
  | bk env S => exact h3 env S h
  | ct env S => exact h4 env S h
  | exc c d env S => exact h5 c d env S h
  | bot => exact h
/-- a statement, by what stands behind it -/
theorem ws_seq {f g : SF} (Mid : List Ev.Slot → List Cell → Prop) (h : WS (f env S) ⟨Mid, P.rt, P.bk, P.ct, P.ex⟩) (k : ∀ env S, Mid env S → ws (g env S) P p) : ws (sSeq f g env S) P p := by
  rw [eS_seq]
  exact ws_imp h k (fun _ _ h => h) (fun _ _ h => h) (fun _ _ h => h) (fun _ _ _ _ h => h)
theorem ex_val {α : Type} {o : Out α} {d : α} (h : WV o (fun a _ => a = d) NX) : ∃ S, o = .val d S := by
  cases o with
  | bot => exact False.elim h.out
  | exc c p S' => exact False.elim h.out
  | val a S =>
    have h' : a = d := h.out
    exact ⟨S, by rw [h']⟩
theorem ex_of_WV {α : Type} {o : Out α} {P : α → Prop} (h : WV o (fun d S1 => P d ∧ S1 = S) NX) : ∃ d, o = .val d S ∧ P d := by
  cases o with
  | bot => exact False.elim h.out
  | exc c p S' => exact False.elim h.out
  | val d S' =>
    have h' : P d ∧ S' = S := h.out
    exact ⟨d, by rw [h'.2], h'.1⟩
theorem wv_out {α : Type} {o : Out α} {Q : α → List Cell → Prop} (h : WV o Q X) : (∃ a S', o = .val a S' ∧ Q a S') ∨ (∃ c p S', o = .exc c p S' ∧ X c p S') := by
  have h := h.out
  cases o with
  | val a S => exact .inl ⟨a, S, rfl, h⟩
  | exc c p S => exact .inr ⟨c, p, S, rfl, h⟩
  | bot => exact False.elim h
theorem strs_map : ∀ xs : List (List Nat), strsOf (xs.map D.str) = some xs
  | [] => rfl
  | x :: xs => by rw [List.map_cons, strsOf, strs_map xs]; rfl
theorem getN {l : List Nat} {k : Nat} (h : k < l.length) : l[k]? = some (l.getD k 0) := by
  rw [List.getD_eq_getElem?_getD, List.getElem?_eq_getElem h]; rfl
theorem getI {l : List Int} {k : Nat} (h : k < l.length) : l[k]? = some (l.getD k 0) := by
  rw [List.getD_eq_getElem?_getD, List.getElem?_eq_getElem h]; rfl
end
theorem cut_take {α : Type} {x : List α} {k : Nat} : cut x none (some (k : Int)) = x.take k := by
  unfold cut
  rw [HT.sIx_nat, show HT.sIx x.length 0 none = 0 from rfl, Nat.sub_zero, List.drop_zero]
  by_cases h : k ≤ x.length
  · rw [Nat.min_eq_left h]
  · rw [Nat.min_eq_right (by omega), List.take_of_length_le (Nat.le_refl _), List.take_of_length_le (by omega)]
theorem cut_drop {α : Type} {x : List α} {k : Nat} : cut x (some (k : Int)) none = x.drop k := by
  unfold cut
  rw [HT.sIx_nat, show HT.sIx x.length x.length none = x.length from rfl]
  by_cases h : k ≤ x.length
  · rw [Nat.min_eq_left h, List.take_of_length_le (by rw [List.length_drop]; omega)]
  · rw [Nat.min_eq_right (by omega), Nat.sub_self, List.take_zero, List.drop_eq_nil_of_le (by omega)]
theorem cut_1 {α : Type} {x : List α} : cut x (some 1) none = x.drop 1 := cut_drop (k := 1)
theorem find_at {p : Nat → Bool} {n i : Nat} (hi : i < n) (hp : p i = true) (hb : ∀ j, j < i → p j = false) : (List.range n).find? p = some i := by
  rw [List.find?_range_eq_some]
  refine ⟨hp, by simpa using hi, fun j hj => by rw [hb j hj]; rfl⟩
theorem find_no {p : Nat → Bool} {n : Nat} (hb : ∀ j, j < n → p j = false) : (List.range n).find? p = none := by
  rw [List.find?_range_eq_none]
  exact fun j hj => by rw [hb j hj]; rfl
theorem getD_at {ds : List D} {k : Nat} (h : k < ds.length) : ds[k]? = some (ds.getD k .non) := by
  rw [List.getD_eq_getElem?_getD, List.getElem?_eq_getElem h]; rfl
theorem getD_mem {ds : List D} {k : Nat} (h : k < ds.length) : ds.getD k .non ∈ ds := by
  rw [List.getD_eq_getElem?_getD, List.getElem?_eq_getElem h]; exact List.getElem_mem h
/-! ### draws -/
/-- what stands at a drawn place -/
def atK (ds : List D) (k : Int) : D := ds.getD k.toNat .non
theorem atK_mem {ds : List D} {k : Int} (h : k.toNat < ds.length) : atK ds k ∈ ds := by
  unfold atK
  rw [List.getD_eq_getElem?_getD, List.getElem?_eq_getElem h]
  exact List.getElem_mem h
theorem get_atK {ds : List D} {k : Int} (h : k.toNat < ds.length) : ds[k.toNat]? = some (atK ds k) := by
  unfold atK
  rw [List.getD_eq_getElem?_getD, List.getElem?_eq_getElem h]; rfl
section
variable {t : Tp} {S : List Cell} {lim : Int}
theorem pick0 {C : CF} (h : Draws C) (h0 : 0 < lim) (h1 : lim < 18446744073709551616) : C [.own 0, .int lim] (t.c :: S) = .val (.int (t.k lim)) ((t.n lim).c :: S) := h (t.c :: S) 0 t lim rfl h0 h1
theorem k_lo (h0 : 0 < lim) : 0 ≤ t.k lim := t.lo h0
theorem k_hi (h0 : 0 < lim) : t.k lim < lim := t.hi' h0
theorem k_nat (h0 : 0 < lim) : (t.k lim).toNat < lim.toNat := by
  have := t.lo h0; have := t.hi' h0; omega
theorem get_k {ds : List D} (h0 : 0 < lim) (hl : lim.toNat ≤ ds.length) : ds[(t.k lim).toNat]? = some (atK ds (t.k lim)) := get_atK (Nat.lt_of_lt_of_le (k_nat h0) hl)
theorem at_k {ds : List D} (h0 : 0 < lim) (hl : lim.toNat ≤ ds.length) : atK ds (t.k lim) ∈ ds := atK_mem (Nat.lt_of_lt_of_le (k_nat h0) hl)
end
section
variable {t : Tp} {lim : Int} {ds : List D}
theorem at_all (p : D → Bool) (h0 : 0 < lim) (hl : lim.toNat ≤ ds.length) (h : ds.all p = true) : p (atK ds (t.k lim)) = true := List.all_eq_true.mp h _ (at_k h0 hl)
theorem at_map {α : Type} {f : α → D} {xs : List α} (h0 : 0 < lim) (hl : lim.toNat ≤ xs.length) : ∃ x, x ∈ xs ∧ atK (xs.map f) (t.k lim) = f x := by
  have h := at_k (t := t) (lim := lim) (ds := xs.map f) h0 (by simpa using hl)
  obtain ⟨x, h1, h2⟩ := List.mem_map.mp h
  exact ⟨x, h1, h2.symm⟩
end
/-- the other draw, as functions -/
noncomputable def nxK (C : CF) (S : List Cell) (t : Tp) (lim : Int) : Int := by
  classical
  exact if h : DrawsX C ∧ 0 < lim ∧ lim < 18446744073709551616 then Classical.choose (h.1 (t.c :: S) 0 t lim rfl h.2.1 h.2.2) else 0
noncomputable def nxT (C : CF) (S : List Cell) (t : Tp) (lim : Int) : Tp := by
  classical
  exact if h : DrawsX C ∧ 0 < lim ∧ lim < 18446744073709551616 then Classical.choose (Classical.choose_spec (h.1 (t.c :: S) 0 t lim rfl h.2.1 h.2.2)) else t
section
variable {C : CF} {t : Tp} {S : List Cell} {lim : Int}
theorem next_all (hd : DrawsX C) (h0 : 0 < lim) (h1 : lim < 18446744073709551616) : C [.own 0, .int lim] (t.c :: S) = .val (.int (nxK C S t lim)) ((nxT C S t lim).c :: S) ∧ 0 ≤ nxK C S t lim ∧ nxK C S t lim < lim := by
  have h : DrawsX C ∧ 0 < lim ∧ lim < 18446744073709551616 := ⟨hd, h0, h1⟩
  unfold nxK nxT
  rw [dif_pos h, dif_pos h]
  exact Classical.choose_spec (Classical.choose_spec (hd (t.c :: S) 0 t lim rfl h0 h1))
theorem next0 (hd : DrawsX C) (h0 : 0 < lim) (h1 : lim < 18446744073709551616) : C [.own 0, .int lim] (t.c :: S) = .val (.int (nxK C S t lim)) ((nxT C S t lim).c :: S) := (next_all hd h0 h1).1
theorem x_lo (hd : DrawsX C) (h0 : 0 < lim) (h1 : lim < 18446744073709551616) : 0 ≤ nxK C S t lim := (next_all hd h0 h1).2.1
theorem x_hi (hd : DrawsX C) (h0 : 0 < lim) (h1 : lim < 18446744073709551616) : nxK C S t lim < lim := (next_all hd h0 h1).2.2
theorem get_x {ds : List D} (hd : DrawsX C) (h0 : 0 < lim) (h1 : lim < 18446744073709551616) (hl : lim.toNat ≤ ds.length) : ds[(nxK C S t lim).toNat]? = some (atK ds (nxK C S t lim)) := get_atK (by
  have := x_lo (S := S) (t := t) hd h0 h1; have := x_hi (S := S) (t := t) hd h0 h1; omega)
theorem at_x {ds : List D} (hd : DrawsX C) (h0 : 0 < lim) (h1 : lim < 18446744073709551616) (hl : lim.toNat ≤ ds.length) : atK ds (nxK C S t lim) ∈ ds := atK_mem (by
  have := x_lo (S := S) (t := t) hd h0 h1; have := x_hi (S := S) (t := t) hd h0 h1; omega)
theorem at_allx {ds : List D} (p : D → Bool) (hd : DrawsX C) (h0 : 0 < lim) (h1 : lim < 18446744073709551616) (hl : lim.toNat ≤ ds.length) (h : ds.all p = true) : p (atK ds (nxK C S t lim)) = true := List.all_eq_true.mp h _ (at_x hd h0 h1 hl)
theorem at_mapx {α : Type} {f : α → D} {xs : List α} (hd : DrawsX C) (h0 : 0 < lim) (h1 : lim < 18446744073709551616) (hl : lim.toNat ≤ xs.length) : ∃ x, x ∈ xs ∧ atK (xs.map f) (nxK C S t lim) = f x := by
  have h := at_x (S := S) (t := t) (lim := lim) (ds := xs.map f) hd h0 h1 (by simpa using hl)
  obtain ⟨x, h1, h2⟩ := List.mem_map.mp h
  exact ⟨x, h1, h2.symm⟩
end
/-! ### a comprehension that draws -/
section
variable {X : Str → D → List Cell → Prop} {env : List Ev.Slot} {S : List Cell} {u : Hid X}
/-- [f for i in range(n)], each turn drawing from the tape in cell 0: all items keep to P -/
theorem lc_draw {f : EF} {v : Nat} {n : Nat} {t : Tp} {Q : List D → List Cell → Prop} {q : Hid Q} (P : D → Prop) (hn : n ≤ 100000) (hv : v < env.length)
    (hb : ∀ (i : Nat) (t : Tp), i < n → WV (f (env.set v (.val (.int i))) (t.c :: S)) (fun x S' => ∃ d t', x = .dat d ∧ P d ∧ S' = Tp.c t' :: S) NX)
    (hq : ∀ acc t', acc.length = n → (∀ d ∈ acc, P d) → Q acc (Tp.c t' :: S)) : wv (lcL (gN v) tAll f env ((List.range n).map fun i : Nat => .int (i : Int)) (t.c :: S) []) Q X q u := by
  refine wv_lcR0 (fun i acc S' => ∃ t', acc.length = i ∧ (∀ d ∈ acc, P d) ∧ S' = Tp.c t' :: S) ⟨t, rfl, fun d h => (nomatch h), rfl⟩ ?_ ?_
  · rintro i acc S' hi ⟨t', hl, hp, rfl⟩
    have hs : acc.length < sizeLine := by rw [sizeLine_eq]; omega
    have h := hb i t' hi
    simp only [gN, tAll, WO, eO_some, WV, eV_val, if_true]
    refine ⟨wV_imp h.out ?_⟩
    rintro x S2 ⟨d, t2, rfl, hd, rfl⟩
    refine ⟨hs, t2, by simp [hl], fun y hy => ?_, rfl⟩
    rcases List.mem_append.mp hy with hy | hy
    · exact hp y hy
    · rw [List.mem_singleton] at hy; subst hy; exact hd
  · rintro acc S' ⟨t', hl, hp, rfl⟩
    exact hq acc t' hl hp
end
section
variable {env : List Ev.Slot} {S : List Cell}
theorem obj_non : objAt env S (.dat .non) = none := rfl
theorem obj_bl {b : Bool} : objAt env S (.dat (.bl b)) = none := rfl
theorem obj_int {i : Int} : objAt env S (.dat (.int i)) = none := rfl
theorem obj_str {x : List Nat} : objAt env S (.dat (.str x)) = none := rfl
theorem obj_tup {ds : List D} : objAt env S (.dat (.tup ds)) = none := rfl
theorem obj_lst {ds : List D} : objAt env S (.dat (.lst ds)) = none := rfl
theorem sorted_strs {zs : List (List Nat)} (h : zs.length < 64) : fSorted env S [.dat (.lst (zs.map .str))] = some (.lst ((sortS zs).map .str)) := by
  cases zs with
  | nil =>
    show some (D.lst ((sortI []).map .int)) = some (.lst ((sortS []).map .str))
    simp [sortI, sortS]
  | cons z zs =>
    show (match intsOf ((z :: zs).map D.str) with | some ns => some (D.lst ((sortI ns).map .int)) | none => match strsOf ((z :: zs).map D.str) with | some zs => if zs.length < 64 then some (.lst ((sortS zs).map .str)) else none | none => none) = _
    rw [strs_map]
    show (if (z :: zs).length < 64 then some (D.lst ((sortS (z :: zs)).map .str)) else none) = _
    rw [if_pos h]
theorem dep_strs {zs : List (List Nat)} {n : Nat} : (zs.map D.str).all (dep n) = true := by
  rw [List.all_eq_true]
  intro x hx
  obtain ⟨z, _, rfl⟩ := List.mem_map.mp hx
  cases n <;> rfl
theorem eq_strs {zs : List (List Nat)} : eqL (zs.map D.str) (zs.map D.str) = true := eqL_refl 1 _ fun d hd => List.all_eq_true.mp (dep_strs (zs := zs)) d hd
end
end Ev

/-! WpU: pairs compared, dict displays, for going through a body by simp. -/
namespace Ev
open PySem L2 PySem.W
section
variable {env : List Ev.Slot} {S : List Cell} {a b c d : Int}
theorem pr_ok {p q : Int × Int} : (dep 32 (prD p) && dep 32 (prD q) && alike (toPy (prD p)) (toPy (prD q)) && notN (toPy (prD p))) = true := rfl
theorem ord_pr {f : D → D → Bool} {p q : Int × Int} : cOrdD f env S (.dat (prD p)) (.dat (prD q)) = some (f (prD p) (prD q)) := by
  show (if (dep 32 (prD p) && dep 32 (prD q) && alike (toPy (prD p)) (toPy (prD q)) && notN (toPy (prD p))) = true then some (f (prD p) (prD q)) else none) = _
  rw [if_pos pr_ok]
theorem lt_pr : cLtD env S (.dat (.tup [.int a, .int b])) (.dat (.tup [.int c, .int d])) = some (decide (a < c ∨ (a = c ∧ b < d))) := by
  show cOrdD ltD env S (.dat (prD (a, b))) (.dat (prD (c, d))) = _
  rw [ord_pr, ltD_pr]
theorem gt_pr : cGtD env S (.dat (.tup [.int a, .int b])) (.dat (.tup [.int c, .int d])) = some (decide (c < a ∨ (c = a ∧ d < b))) := by
  show cOrdD (fun a b => ltD b a) env S (.dat (prD (a, b))) (.dat (prD (c, d))) = _
  rw [ord_pr, ltD_pr]
theorem le_pr : cLeD env S (.dat (.tup [.int a, .int b])) (.dat (.tup [.int c, .int d])) = some (!decide (c < a ∨ (c = a ∧ d < b))) := by
  show cOrdD (fun a b => !ltD b a) env S (.dat (prD (a, b))) (.dat (prD (c, d))) = _
  rw [ord_pr, ltD_pr]
theorem ge_pr : cGeD env S (.dat (.tup [.int a, .int b])) (.dat (.tup [.int c, .int d])) = some (!decide (a < c ∨ (a = c ∧ b < d))) := by
  show cOrdD (fun a b => !ltD a b) env S (.dat (prD (a, b))) (.dat (prD (c, d))) = _
  rw [ord_pr, ltD_pr]
end
section
variable {S : List Cell} {c d c' d' : Cell}
theorem gl1 : (S ++ [c])[S.length]? = some c := by rw [List.getElem?_append_right (Nat.le_refl _), Nat.sub_self]; rfl
theorem sl1 : (S ++ [c]).set S.length c' = S ++ [c'] := by rw [List.set_append_right _ _ (Nat.le_refl _), Nat.sub_self]; rfl
theorem gl2 : (S ++ [c, d])[S.length]? = some c := by rw [List.getElem?_append_right (Nat.le_refl _), Nat.sub_self]; rfl
theorem gl3 : (S ++ [c, d])[S.length + 1]? = some d := by rw [List.getElem?_append_right (by omega), show S.length + 1 - S.length = 1 by omega]; rfl
theorem sl2 : (S ++ [c, d]).set S.length c' = S ++ [c', d] := by rw [List.set_append_right _ _ (Nat.le_refl _), Nat.sub_self]; rfl
theorem sl3 : (S ++ [c, d]).set (S.length + 1) d' = S ++ [c, d'] := by rw [List.set_append_right _ _ (by omega), show S.length + 1 - S.length = 1 by omega]; rfl
theorem app_snoc {e : Cell} : (S ++ [c]) ++ [e] = S ++ [c, e] := by simp
end
end Ev

/-! WpV: dicts walked, for going through a body by simp. -/
namespace Ev
open PySem L2 PySem.W
section
variable {env : List Ev.Slot} {S : List Cell} {P : Po} {p : Hid P}
theorem eS_unl {n : Nat} {c : Cell} {o : SOut} : ws (unlO n c o) P p = ws o ⟨fun env S => P.nx env (S.set n c), fun d S => P.rt d (S.set n c), fun env S => P.bk env (S.set n c), fun env S => P.ct env (S.set n c), P.ex⟩ .mk := by
  simp only [ws_def]
  cases o <;> rfl
theorem all_inl {rs : List Int} : ((rs.map Sum.inl : List Key).all keyOk) = true := by
  rw [List.all_eq_true]
  intro k hk
  obtain ⟨i, _, rfl⟩ := List.mem_map.mp hk
  rfl
theorem map_inl {rs : List Int} : ((rs.map Sum.inl : List Key).map keyD) = rs.map D.int := by rw [List.map_map]; rfl
theorem eS_try2 {i1 i2 : Nat} {tbl1 tbl2 : List (Str × Bool)} {fb f1 f2 : SF} : ws (sTryAs2 i1 tbl1 i2 tbl2 fb f1 f2 env S) P p = ws (fb env S) ⟨P.nx, P.rt, P.bk, P.ct, fun c d env' S' => wo (tbl1.lookup c) (fun b => if b = true then ws (f1 (env'.set i1 (.err c d)) S') ⟨fun _ _ => False, P.rt, fun _ _ => False, fun _ _ => False, fun _ _ _ _ => False⟩ .mk else
    wo (tbl2.lookup c) (fun b => if b = true then ws (f2 (env'.set i2 (.err c d)) S') ⟨fun _ _ => False, P.rt, fun _ _ => False, fun _ _ => False, fun _ _ _ _ => False⟩ .mk else P.ex c d env' S') .mk) .mk⟩ .mk := by
  have hnd : ∀ (i : Nat) (fs : SF) c d env' S', ws (hndO i fs c d env' S') P p = ws (fs (env'.set i (.err c d)) S') ⟨fun _ _ => False, P.rt, fun _ _ => False, fun _ _ => False, fun _ _ _ _ => False⟩ .mk := fun i fs c d env' S' => by
    simp only [ws_def]
    unfold hndO
    cases fs (env'.set i (.err c d)) S' <;> rfl
  unfold sTryAs2
  cases hf : fb env S with
  | exc c d env' S' =>
    simp only [eS_ex]
    cases tbl1.lookup c with
    | none => simp only [eO_none]; exact eS_bot
    | some b =>
      simp only [eO_some]
      cases b with
      | true => rw [if_pos rfl]; exact hnd _ _ _ _ _ _
      | false =>
        rw [if_neg (by decide)]
        dsimp only
        cases tbl2.lookup c with
        | none => simp only [eO_none]; exact eS_bot
        | some b =>
          simp only [eO_some]
          cases b with
          | true => rw [if_pos rfl]; exact hnd _ _ _ _ _ _
          | false => rw [if_neg (by decide)]; exact eS_ex
  | _ => simp only [ws_def]; rfl
/-- the loop over a dict that stands in a cell -/
theorem ws_forD {fo : EF} {g : GF} {b : SF} {n : Nat} {ks : List Key} {ds : List D} (h1 : fo env S = .val (.dat (.own n)) S) (h2 : S[n]? = some (.dct ks ds)) (h3 : fo env (S.set n (.lck ks ds)) = .val (.dat (.own n)) (S.set n (.lck ks ds))) (h4 : ks.all keyOk = true)
    (h : ws (forL g b (ks.map keyD) env (S.set n (.lck ks ds))) ⟨fun env S => P.nx env (S.set n (.dct ks ds)), fun d S => P.rt d (S.set n (.dct ks ds)), fun env S => P.bk env (S.set n (.dct ks ds)), fun env S => P.ct env (S.set n (.dct ks ds)), P.ex⟩ .mk) : ws (sForD fo g b env S) P p := by
  have : sForD fo g b env S = unlO n (.dct ks ds) (forL g b (ks.map keyD) env (S.set n (.lck ks ds))) := by
    unfold sForD
    simp only [h1, h2, h3, h4, and_self, if_true]
  rw [this, eS_unl]
  exact h
end
end Ev

/-! The walk of law_k75_wrong_parts_and_replies: printed by gen.py. -/
namespace Law
open PySem L2 Ev
def top (i : Nat) : Stmt := PySem.Challenge.pw_callweir_k75_wrong_parts_and_replies.main.body.getD i (.Pass ⟨0, 0, 0, 0⟩)
abbrev st_hex_value : Stmt := top 13
abbrev st_pieces : Stmt := top 14
abbrev st_coded : Stmt := top 15
abbrev st_sign_of : Stmt := top 16
abbrev st_is_plain : Stmt := top 17
abbrev st_tidy : Stmt := top 18
abbrev st_places_of : Stmt := top 20
abbrev st_segments : Stmt := top 21
abbrev st_joined : Stmt := top 22
abbrev st_canonical : Stmt := top 23
abbrev st_is_canonical : Stmt := top 24
abbrev st_is_text_of : Stmt := top 28
abbrev st_is_word : Stmt := top 29
abbrev st_is_caller : Stmt := top 30
abbrev st_is_number : Stmt := top 31
abbrev st_is_named : Stmt := top 36
abbrev st_is_part : Stmt := top 37
abbrev st_is_term : Stmt := top 38
abbrev st_check_parts : Stmt := top 39
abbrev st_check_reply : Stmt := top 40
abbrev st_is_text : Stmt := top 41
abbrev st_is_texts : Stmt := top 42
abbrev st_is_ask : Stmt := top 43
abbrev st_is_counts : Stmt := top 44
abbrev st_is_state : Stmt := top 45
abbrev st__law_start : Stmt := top 47
abbrev st__law_pick : Stmt := top 48
abbrev st__law_odd : Stmt := top 49
abbrev st__law_told : Stmt := top 50
abbrev st__law_parts : Stmt := top 51
abbrev st__law_rule : Stmt := top 52
abbrev st__law_values : Stmt := top 53
abbrev st_law : Stmt := top 54
abbrev se_CallweirError : Stmt := inClass (top 1) 0
abbrev se_InvalidCall : Stmt := inClass (top 2) 0
abbrev se_InvalidParts : Stmt := inClass (top 3) 0
abbrev se_InvalidReply : Stmt := inClass (top 4) 0
structure Txt (B : Base) : Prop where
  z_len : B.mg "len" = none
  z_ord : B.mg "ord" = none
  z_int : B.mg "int" = none
  z_bytes : B.mg "bytes" = none
  z_range : B.mg "range" = none
  z_all : B.mg "all" = none
  z_isinstance : B.mg "isinstance" = none
  z_str : B.mg "str" = none
  z_bool : B.mg "bool" = none
  z_tuple : B.mg "tuple" = none
  z_abs : B.mg "abs" = none
  z_min : B.mg "min" = none
  z_list : B.mg "list" = none
  c_HEX : ∃ t, B.mg "HEX" = some (.str (Str.ofString "0123456789ABCDEF") t)
  c_SMALL : ∃ t, B.mg "SMALL" = some (.str (Str.ofString "abcdefghijklmnopqrstuvwxyz") t)
  c_CODE : ∃ t, B.mg "CODE" = some (.str (Str.ofString "^") t)
  c_MARKS : ∃ t, B.mg "MARKS" = some (.str (Str.ofString "!$&'()*+,/:;=?@") t)
  c_PLAIN : ∃ t, B.mg "PLAIN" = some (.str (Str.ofString "abcdefghijklmnopqrstuvwxyzABCDEFGHIJKLMNOPQRSTUVWXYZ0123456789-._~") t)
  c_MOST_WORD : ∃ t, B.mg "MOST_WORD" = some (.int 12 t)
  c_DIGITS : ∃ t, B.mg "DIGITS" = some (.str (Str.ofString "0123456789") t)
  c_MOST_CALLER : ∃ t, B.mg "MOST_CALLER" = some (.int 20 t)
  c_NAMED : TupC B "NAMED" [.str [102, 105, 101, 108, 100], .str [113, 117, 101, 114, 121]]
  c_ALONE : TupC B "ALONE" [.str [99, 97, 108, 108, 101, 114], .str [99, 111, 110, 116, 101, 110, 116], .str [99, 111, 117, 110, 116], .str [116, 97, 103]]
  c_MOST_TERMS : ∃ t, B.mg "MOST_TERMS" = some (.int 6 t)
  er_InvalidCall : ErD B "InvalidCall" 2
  er_InvalidParts : ErD B "InvalidParts" 2
  er_InvalidReply : ErD B "InvalidReply" 2
  erF : ∀ c : Str, c ∈ (["InvalidCall", "InvalidParts", "InvalidReply"] : List Str) → ErF B c
  hd_InvalidCall : Hnd B "InvalidCall" [("InvalidCall", true), ("InvalidParts", false), ("InvalidReply", false)]
  hd_InvalidParts : Hnd B "InvalidParts" [("InvalidCall", false), ("InvalidParts", true), ("InvalidReply", false)]
  hd_InvalidReply : Hnd B "InvalidReply" [("InvalidCall", false), ("InvalidParts", false), ("InvalidReply", true)]
def b_hex_value : SF := (sSeq (sIf (bT (e2 (gB cIn) (eVar 0) (eSl (eC (.str [97, 98, 99, 100, 101, 102, 103, 104, 105, 106, 107, 108, 109, 110, 111, 112, 113, 114, 115, 116, 117, 118, 119, 120, 121, 122])) oNone (oSome (eC (.int 6))))))
  (sRet (e2 gAdd (eC (.int 10)) (eS1 gIndex (eC (.str [97, 98, 99, 100, 101, 102, 103, 104, 105, 106, 107, 108, 109, 110, 111, 112, 113, 114, 115, 116, 117, 118, 119, 120, 121, 122])) (eVar 0))))
  sNx)
  (sRet (eS1 gFind (eC (.str [48, 49, 50, 51, 52, 53, 54, 55, 56, 57, 65, 66, 67, 68, 69, 70])) (eVar 0))))
def b_coded : SF := (sRet (e2 gAdd (e2 gAdd (eC (.str [94])) (e2 gIx (eC (.str [48, 49, 50, 51, 52, 53, 54, 55, 56, 57, 65, 66, 67, 68, 69, 70])) (e2 gDiv (eVar 0) (eC (.int 16))))) (e2 gIx (eC (.str [48, 49, 50, 51, 52, 53, 54, 55, 56, 57, 65, 66, 67, 68, 69, 70])) (e2 gMod (eCall fInt (aCons (eVar 0) aNil)) (eC (.int 16))))))
def b_sign_of : SF := (sRet (eSign (eVar 0)))
def b_places_of : SF := (sSeq (sSetL 1 (nLst aNil))
  (sSeq (sSet 2 (eC (.int 0)))
  (sSeq (sFor (wSeq (eS1 gSplit (eVar 0) (eC (.str [47])))) (gN 3)
  (sSeq (sApp (eVar 1) (eTup (aCons (eVar 2) (aCons (eVar 3) aNil))))
  (sAug 2 iAdd (e2 gAdd (eCall fLen (aCons (eVar 3) aNil)) (eC (.int 1))))))
  (fun env S => (sRet (eVar 1)) (frzE 1 env) S))))
def b_joined : SF := (sRet (e2 gAdd (eC (.str [47])) (eJoin (eC (.str [47])) (eVar 0))))
def b_is_text_of : SF := (sRet (eAnd (eIs "str" (eVar 0)) (eAnd (eCh cLe cLe (eC (.int 1)) (eCall fLen (aCons (eVar 0) aNil)) (eVar 2)) (eCall fAll (aCons (eFrz (nLc (wSeq (eVar 0)) (gN 3) tAll (e2 (gB cIn) (eVar 3) (eVar 1)) [3])) aNil)))))
def b_is_number : SF := (sRet (eAnd (eIs "int" (eVar 0)) (eAnd (eNot (eIs "bool" (eVar 0))) (e2 (gB cGe) (eVar 0) (eC (.int 0))))))
def b_is_text : SF := (sRet (eAnd (eIs "str" (eVar 0)) (eCall fAll (aCons (eFrz (nLc (wSeq (eVar 0)) (gN 1) tAll (eCh cLe cLe (eC (.int 32)) (eCall fOrd (aCons (eVar 1) aNil)) (eC (.int 126))) [1])) aNil))))
def b__law_start : SF := (sRetG (nLst (aCons (eVar 0) (aCons (eC (.int 0)) (aCons (eC (.int 0)) (aCons (eC (.int 7)) aNil))))))
def b__law_pick : SF := (sSeq (sIf (tAnd' (bT (e2 (gB cEq) (e2 gIx (eVar 0) (eC (.int 2))) (eC (.int 0)))) (bT (e2 (gB cLt) (e2 gIx (eVar 0) (eC (.int 1))) (eCall fLen (aCons (e2 gIx (eVar 0) (eC (.int 0))) aNil)))))
  (sSeq (sSet 2 (eCall fAbs (aCons (e2 gIx (e2 gIx (eVar 0) (eC (.int 0))) (e2 gIx (eVar 0) (eC (.int 1)))) aNil)))
  (sSeq (sStL (e2 gAdd (e2 gIx (eVar 0) (eC (.int 1))) (eC (.int 1))) (eVar 0) (eC (.int 1)))
  (sIf (bT (e2 (gB cGe) (eVar 2) (e2 gPow (eC (.int 10)) (eC (.int 18)))))
  (sStL (eVar 2) (eVar 0) (eC (.int 2)))
  (sStL (e2 gAdd (e2 gMod (eCall fInt (aCons (e2 gAdd (e2 gMul (e2 gIx (eVar 0) (eC (.int 3))) (eC (.int 48271))) (eVar 2)) aNil)) (eC (.int 2147483646))) (eC (.int 1))) (eVar 0) (eC (.int 3))))))
  sNx)
  (sSeq (sIf (bT (e2 (gB cGt) (e2 gIx (eVar 0) (eC (.int 2))) (eC (.int 0))))
  (sSeq (sSet 3 (e2 gMod (eCall fInt (aCons (e2 gIx (eVar 0) (eC (.int 2))) aNil)) (eVar 1)))
  (sSeq (sStL (e2 gDiv (e2 gIx (eVar 0) (eC (.int 2))) (eVar 1)) (eVar 0) (eC (.int 2)))
  (sRet (eVar 3))))
  sNx)
  (sSeq (sStL (e2 gMod (eCall fInt (aCons (e2 gMul (e2 gIx (eVar 0) (eC (.int 3))) (eC (.int 48271))) aNil)) (eC (.int 2147483647))) (eVar 0) (eC (.int 3)))
  (sRet (e2 gMod (eCall fInt (aCons (e2 gAdd (e2 gDiv (e2 gIx (eVar 0) (eC (.int 3))) (eC (.int 5))) (e2 gMod (eCall fInt (aCons (e2 gMul (e2 gIx (eVar 0) (eC (.int 3))) (e2 gIx (eVar 0) (eC (.int 3)))) aNil)) (eC (.int 2147483629)))) aNil)) (eVar 1))))))
def b_is_plain (C_sign_of : CF) : SF := (sRet (eAnd (e2 (gB cLt) (eVar 0) (eC (.int 128))) (e2 (gB cIn) (eFn 1 C_sign_of (aCons (eVar 0) aNil)) (eC (.str [97, 98, 99, 100, 101, 102, 103, 104, 105, 106, 107, 108, 109, 110, 111, 112, 113, 114, 115, 116, 117, 118, 119, 120, 121, 122, 65, 66, 67, 68, 69, 70, 71, 72, 73, 74, 75, 76, 77, 78, 79, 80, 81, 82, 83, 84, 85, 86, 87, 88, 89, 90, 48, 49, 50, 51, 52, 53, 54, 55, 56, 57, 45, 46, 95, 126])))))
def b_is_word (C_is_text_of : CF) : SF := (sRet (eFn 3 C_is_text_of (aCons (eVar 0) (aCons (e2 gAdd (eC (.str [97, 98, 99, 100, 101, 102, 103, 104, 105, 106, 107, 108, 109, 110, 111, 112, 113, 114, 115, 116, 117, 118, 119, 120, 121, 122])) (eC (.str [48, 49, 50, 51, 52, 53, 54, 55, 56, 57]))) (aCons (eC (.int 12)) aNil)))))
def b_is_caller (C_is_text_of : CF) : SF := (sRet (eFn 3 C_is_text_of (aCons (eVar 0) (aCons (eC (.str [97, 98, 99, 100, 101, 102, 103, 104, 105, 106, 107, 108, 109, 110, 111, 112, 113, 114, 115, 116, 117, 118, 119, 120, 121, 122, 65, 66, 67, 68, 69, 70, 71, 72, 73, 74, 75, 76, 77, 78, 79, 80, 81, 82, 83, 84, 85, 86, 87, 88, 89, 90, 48, 49, 50, 51, 52, 53, 54, 55, 56, 57, 45, 46, 95, 126])) (aCons (eC (.int 20)) aNil)))))
def b__law_odd (C__law_pick : CF) : SF := (sSeq (sSet 1 (eLst (aCons (eC .non) (aCons (eC (.int 5)) (aCons (eC (.str [99, 97, 108, 108, 101, 114])) (aCons (eTup (aCons (eC (.str [102, 105, 101, 108, 100])) aNil)) (aCons (eTup (aCons (eC (.str [102, 105, 101, 108, 100])) (aCons (eC (.str [65])) aNil))) (aCons (eTup (aCons (eC (.str [102, 105, 101, 108, 100])) (aCons (eC (.str [])) aNil))) (aCons (eTup (aCons (eC (.str [102, 105, 101, 108, 100])) (aCons (e2 gMulA (eC (.str [97])) (eC (.int 13))) aNil))) (aCons (eTup (aCons (eC (.str [113, 117, 101, 114, 121])) (aCons (eC (.int 5)) aNil))) (aCons (eTup (aCons (eC (.str [102, 105, 101, 108, 100, 115])) (aCons (eC (.str [97])) aNil))) aNil)))))))))))
  (sRet (e2 gIx (e2 gAdd (eVar 1) (eLst (aCons (eTup (aCons (eC (.str [99, 97, 108, 108, 101, 114])) (aCons (eC (.str [97])) aNil))) (aCons (eLst (aCons (eC (.str [99, 97, 108, 108, 101, 114])) aNil)) (aCons (eTup (aCons (eC (.str [102, 105, 101, 108, 100])) (aCons (eLst (aCons (eC (.str [97])) aNil)) aNil))) (aCons (eTup (aCons (eLst (aCons (eC (.str [102, 105, 101, 108, 100])) aNil)) (aCons (eC (.str [97])) aNil))) (aCons (eTup aNil) aNil))))))) (eFn 2 C__law_pick (aCons (eVar 0) (aCons (eC (.int 14)) aNil))))))
def b_is_named (C_is_word : CF) : SF := (sSeq (sIf (tOr' (tNot' (tT1 (eIs "tuple" (eVar 0)))) (tOr' (bT (e2 (gB cNe) (eCall fLen (aCons (eVar 0) aNil)) (eC (.int 2)))) (tNot' (tT1 (eIs "str" (e2 gIx (eVar 0) (eC (.int 0))))))))
  (sRet (eC (.bl false)))
  sNx)
  (sRet (eAnd (e2 (gB cIn) (e2 gIx (eVar 0) (eC (.int 0))) (eC (.tup [.str [102, 105, 101, 108, 100], .str [113, 117, 101, 114, 121]]))) (eFn 1 C_is_word (aCons (e2 gIx (eVar 0) (eC (.int 1))) aNil)))))
def b_is_texts (C_is_word : CF) (C_is_text : CF) : SF := (sSeq (sIf (tNot' (tT1 (eIs "tuple" (eVar 0))))
  (sRet (eC (.bl false)))
  sNx)
  (sSeq (sFor (wSeq (eVar 0)) (gN 1)
  (sIf (tOr' (tNot' (tT1 (eIs "tuple" (eVar 1)))) (tOr' (bT (e2 (gB cNe) (eCall fLen (aCons (eVar 1) aNil)) (eC (.int 2)))) (tOr' (tNot' (tT1 (eFn 1 C_is_word (aCons (e2 gIx (eVar 1) (eC (.int 0))) aNil)))) (tNot' (tT1 (eFn 1 C_is_text (aCons (e2 gIx (eVar 1) (eC (.int 1))) aNil)))))))
  (sRet (eC (.bl false)))
  sNx))
  (sRet (eCall fAll (aCons (eFrz (nLc (wRng1 (e2 gSub (eCall fLen (aCons (eVar 0) aNil)) (eC (.int 1)))) (gN 2) tAll (e2 (gB cLt) (e2 gIx (e2 gIx (eVar 0) (eVar 2)) (eC (.int 0))) (e2 gIx (e2 gIx (eVar 0) (e2 gAdd (eVar 2) (eC (.int 1)))) (eC (.int 0)))) [2])) aNil)))))
def b__law_parts (C__law_pick : CF) (C__law_odd : CF) : SF := (sSeq (sSet 1 (eLst (aCons (eTup (aCons (eC (.str [99, 97, 108, 108, 101, 114])) aNil)) (aCons (eTup (aCons (eC (.str [102, 105, 101, 108, 100])) (aCons (eC (.str [102])) aNil))) (aCons (eTup (aCons (eC (.str [102, 105, 101, 108, 100])) (aCons (eC (.str [108, 97, 110, 103])) aNil))) (aCons (eTup (aCons (eC (.str [112, 97, 116, 104])) aNil)) (aCons (eTup (aCons (eC (.str [113, 117, 101, 114, 121])) (aCons (eC (.str [102])) aNil))) (aCons (eTup (aCons (eC (.str [113, 117, 101, 114, 121])) (aCons (eC (.str [113])) aNil))) aNil))))))))
  (sSeq (sSetN 1 (nLc (wSeq (eVar 1)) (gN 4) (bT (e2 (gB cEq) (eFn 2 C__law_pick (aCons (eVar 0) (aCons (eC (.int 2)) aNil))) (eC (.int 0)))) (eVar 4) [4]))
  (sSeq (sSet 2 (eFn 2 C__law_pick (aCons (eVar 0) (aCons (eC (.int 5)) aNil))))
  (sSeq (sIf (bT (e2 (gB cEq) (eVar 2) (eC (.int 0))))
  (sSeq (sSet 3 (eFn 2 C__law_pick (aCons (eVar 0) (aCons (e2 gAdd (eCall fLen (aCons (eVar 1) aNil)) (eC (.int 1))) aNil))))
  (sRet (eTup (aCons (eCall fTuple (aCons (e2 gAdd (e2 gAdd (eSl (eVar 1) oNone (oSome (eVar 3))) (eLst (aCons (eFn 1 C__law_odd (aCons (eVar 0) aNil)) aNil))) (eSl (eVar 1) (oSome (eVar 3)) oNone)) aNil)) (aCons (eTup (aCons (eC (.str [112, 97, 114, 116, 115])) (aCons (eVar 3) aNil))) aNil)))))
  sNx)
  (sSeq (sIf (tAnd' (bT (e2 (gB cEq) (eVar 2) (eC (.int 1)))) (bT (e2 (gB cGt) (eCall fLen (aCons (eVar 1) aNil)) (eC (.int 1)))))
  (sSeq (sSet 3 (e2 gAdd (eC (.int 1)) (eFn 2 C__law_pick (aCons (eVar 0) (aCons (e2 gSub (eCall fLen (aCons (eVar 1) aNil)) (eC (.int 1))) aNil)))))
  (sRet (eTup (aCons (eCall fTuple (aCons (e2 gAdd (e2 gAdd (eSl (eVar 1) oNone (oSome (eVar 3))) (eLst (aCons (e2 gIx (eVar 1) (e2 gSub (eVar 3) (eC (.int 1)))) aNil))) (eSl (eVar 1) (oSome (eVar 3)) oNone)) aNil)) (aCons (eTup (aCons (eC (.str [112, 97, 114, 116, 115])) (aCons (eVar 3) aNil))) aNil)))))
  sNx)
  (sSeq (sIf (tAnd' (bT (e2 (gB cEq) (eVar 2) (eC (.int 2)))) (bT (e2 (gB cGt) (eCall fLen (aCons (eVar 1) aNil)) (eC (.int 1)))))
  (sRet (eTup (aCons (eCall fTuple (aCons (eRev (eVar 1)) aNil)) (aCons (eTup (aCons (eC (.str [112, 97, 114, 116, 115])) (aCons (eC (.int 1)) aNil))) aNil))))
  sNx)
  (sSeq (sIf (bT (e2 (gB cEq) (eVar 2) (eC (.int 3))))
  (sRet (eTup (aCons (e2 gIx (eLst (aCons (eVar 1) (aCons (eC .non) (aCons (eC (.int 5)) (aCons (eC (.str [99, 97, 108, 108, 101, 114])) aNil))))) (eFn 2 C__law_pick (aCons (eVar 0) (aCons (eC (.int 4)) aNil)))) (aCons (eTup (aCons (eC (.str [112, 97, 114, 116, 115])) (aCons (eC (.int 0)) aNil))) aNil))))
  sNx)
  (sRet (eTup (aCons (eCall fTuple (aCons (eVar 1) aNil)) (aCons (eC .non) aNil)))))))))))
def b__law_rule (C__law_pick : CF) (C__law_odd : CF) : SF := (sSeq (sSet 1 (eLst (aCons (eTup (aCons (eC (.str [99, 97, 108, 108, 101, 114])) aNil)) (aCons (eTup (aCons (eC (.str [99, 111, 110, 116, 101, 110, 116])) aNil)) (aCons (eTup (aCons (eC (.str [99, 111, 117, 110, 116])) aNil)) (aCons (eTup (aCons (eC (.str [102, 105, 101, 108, 100])) (aCons (eC (.str [102])) aNil))) (aCons (eTup (aCons (eC (.str [113, 117, 101, 114, 121])) (aCons (eC (.str [113])) aNil))) (aCons (eTup (aCons (eC (.str [116, 97, 103])) aNil)) aNil))))))))
  (sSeq (sSetN 2 (nLc (wRng1 (e2 gAdd (eC (.int 1)) (eFn 2 C__law_pick (aCons (eVar 0) (aCons (eC (.int 6)) aNil))))) (gN 6) tAll (e2 gIx (eVar 1) (eFn 2 C__law_pick (aCons (eVar 0) (aCons (eC (.int 6)) aNil)))) [6]))
  (sSeq (sSet 3 (eFn 2 C__law_pick (aCons (eVar 0) (aCons (eC (.int 5)) aNil))))
  (sSeq (sIf (bT (e2 (gB cEq) (eVar 3) (eC (.int 0))))
  (sSeq (sSet 4 (eFn 2 C__law_pick (aCons (eVar 0) (aCons (eCall fLen (aCons (eVar 2) aNil)) aNil))))
  (sRet (eTup (aCons (eCall fTuple (aCons (e2 gAdd (e2 gAdd (eSl (eVar 2) oNone (oSome (eVar 4))) (eLst (aCons (e2 gIx (eLst (aCons (eFn 1 C__law_odd (aCons (eVar 0) aNil)) (aCons (eTup (aCons (eC (.str [112, 97, 116, 104])) aNil)) aNil))) (eFn 2 C__law_pick (aCons (eVar 0) (aCons (eC (.int 2)) aNil)))) aNil))) (eSl (eVar 2) (oSome (e2 gAdd (eVar 4) (eC (.int 1)))) oNone)) aNil)) (aCons (eTup (aCons (eC (.str [114, 101, 112, 108, 121])) (aCons (eVar 4) aNil))) aNil)))))
  sNx)
  (sSeq (sIf (bT (e2 (gB cEq) (eVar 3) (eC (.int 1))))
  (sSeq (sSetL 5 (nSl (e2 gMulA (eVar 2) (eC (.int 7))) oNone (oSome (e2 gAdd (eC (.int 7)) (eFn 2 C__law_pick (aCons (eVar 0) (aCons (eC (.int 3)) aNil)))))))
  (sSeq (sSet 4 (eFn 2 C__law_pick (aCons (eVar 0) (aCons (e2 gAdd (eCall fLen (aCons (eVar 5) aNil)) (eC (.int 1))) aNil))))
  (sSeq (sIf (bT (e2 (gB cLt) (eVar 4) (eCall fLen (aCons (eVar 5) aNil))))
  (sStL (eFn 1 C__law_odd (aCons (eVar 0) aNil)) (eVar 5) (eVar 4))
  sNx)
  (sRet (eTup (aCons (eCall fTuple (aCons (eVar 5) aNil)) (aCons (eTup (aCons (eC (.str [114, 101, 112, 108, 121])) (aCons (eCall fMin (aCons (eVar 4) (aCons (eC (.int 6)) aNil))) aNil))) aNil)))))))
  sNx)
  (sSeq (sIf (bT (e2 (gB cEq) (eVar 3) (eC (.int 2))))
  (sRet (eTup (aCons (e2 gIx (eLst (aCons (eTup aNil) (aCons (eVar 2) (aCons (eC .non) (aCons (eC (.str [116, 97, 103])) aNil))))) (eFn 2 C__law_pick (aCons (eVar 0) (aCons (eC (.int 4)) aNil)))) (aCons (eTup (aCons (eC (.str [114, 101, 112, 108, 121])) (aCons (eC (.int 0)) aNil))) aNil))))
  sNx)
  (sRet (eTup (aCons (eCall fTuple (aCons (eVar 2) aNil)) (aCons (eC .non) aNil))))))))))
def b_pieces (C_hex_value : CF) : SF := (sSeq (sSetL 1 (nLst aNil))
  (sSeq (sSet 2 (eC (.int 0)))
  (sSeq (whileF (bT (e2 (gB cLt) (eVar 2) (eCall fLen (aCons (eVar 0) aNil))))
  (sSeq (sSet 3 (e2 gIx (eVar 0) (eVar 2)))
  (sIf (bT (e2 (gB cEq) (eVar 3) (eC (.str [94]))))
  (sSeq (sSet 4 (eSl (eVar 0) (oSome (e2 gAdd (eVar 2) (eC (.int 1)))) (oSome (e2 gAdd (eVar 2) (eC (.int 3))))))
  (sSeq (sIf (tOr' (bT (e2 (gB cLt) (eCall fLen (aCons (eVar 4) aNil)) (eC (.int 2)))) (tOr' (bT (e2 (gB cLt) (eFn 1 C_hex_value (aCons (e2 gIx (eVar 4) (eC (.int 0))) aNil)) (eC (.int 0)))) (bT (e2 (gB cLt) (eFn 1 C_hex_value (aCons (e2 gIx (eVar 4) (eC (.int 1))) aNil)) (eC (.int 0))))))
  (sRaise "InvalidCall" (eVar 2))
  sNx)
  (sSeq (sApp (eVar 1) (eTup (aCons (e2 gAdd (e2 gMulA (eC (.int 16)) (eFn 1 C_hex_value (aCons (e2 gIx (eVar 4) (eC (.int 0))) aNil))) (eFn 1 C_hex_value (aCons (e2 gIx (eVar 4) (eC (.int 1))) aNil))) (aCons (eC (.bl true)) aNil))))
  (sAug 2 iAdd (eC (.int 3))))))
  (sSeq (sIf (tAnd' (bT (e2 (gB cNotIn) (eVar 3) (eC (.str [97, 98, 99, 100, 101, 102, 103, 104, 105, 106, 107, 108, 109, 110, 111, 112, 113, 114, 115, 116, 117, 118, 119, 120, 121, 122, 65, 66, 67, 68, 69, 70, 71, 72, 73, 74, 75, 76, 77, 78, 79, 80, 81, 82, 83, 84, 85, 86, 87, 88, 89, 90, 48, 49, 50, 51, 52, 53, 54, 55, 56, 57, 45, 46, 95, 126])))) (bT (e2 (gB cNotIn) (eVar 3) (eC (.str [33, 36, 38, 39, 40, 41, 42, 43, 44, 47, 58, 59, 61, 63, 64])))))
  (sRaise "InvalidCall" (eVar 2))
  sNx)
  (sSeq (sApp (eVar 1) (eTup (aCons (eCall fOrd (aCons (eVar 3) aNil)) (aCons (eC (.bl false)) aNil))))
  (sAug 2 iAdd (eC (.int 1))))))) 2000)
  (fun env S => (sRet (eVar 1)) (frzE 1 env) S))))
def b_is_part (C_is_named : CF) : SF := (sRet (eOr (e2 (gB cIn) (eVar 0) (eTup (aCons (eTup (aCons (eC (.str [99, 97, 108, 108, 101, 114])) aNil)) (aCons (eTup (aCons (eC (.str [112, 97, 116, 104])) aNil)) aNil)))) (eFn 1 C_is_named (aCons (eVar 0) aNil))))
def b_is_term (C_is_named : CF) : SF := (sRet (eOr (e2 (gB cIn) (eVar 0) (eFrz (nLc (wSeq (eC (.tup [.str [99, 97, 108, 108, 101, 114], .str [99, 111, 110, 116, 101, 110, 116], .str [99, 111, 117, 110, 116], .str [116, 97, 103]]))) (gN 1) tAll (eTup (aCons (eVar 1) aNil)) [1]))) (eFn 1 C_is_named (aCons (eVar 0) aNil))))
def b_tidy (C_pieces : CF) (C_coded : CF) (C_sign_of : CF) (C_is_plain : CF) : SF := (sSeq (sSet 1 (eC (.str [])))
  (sSeq (sFor (wSeq (eFn 1 C_pieces (aCons (eVar 0) aNil))) (gT 2 (gCs (gN 2) (gCs (gN 3) gNl)))
  (sIf (tAnd' (tT1 (eVar 3)) (tNot' (tT1 (eFn 1 C_is_plain (aCons (eVar 2) aNil)))))
  (sAug 1 iAdd (eFn 1 C_coded (aCons (eVar 2) aNil)))
  (sAug 1 iAdd (eFn 1 C_sign_of (aCons (eVar 2) aNil)))))
  (sRet (eVar 1))))
def b_check_parts (C_is_part : CF) : SF := (sSeq (sIf (tNot' (tT1 (eIs "tuple" (eVar 0))))
  (sRaise "InvalidParts" (eC (.int 0)))
  sNx)
  (sFor (wRng1 (eCall fLen (aCons (eVar 0) aNil))) (gN 1)
  (sIf (tOr' (tNot' (tT1 (eFn 1 C_is_part (aCons (e2 gIx (eVar 0) (eVar 1)) aNil)))) (tAnd' (bT (e2 (gB cGt) (eVar 1) (eC (.int 0)))) (bT (e2 (gB cGeD) (e2 gIx (eVar 0) (e2 gSub (eVar 1) (eC (.int 1)))) (e2 gIx (eVar 0) (eVar 1))))))
  (sRaise "InvalidParts" (eVar 1))
  sNx)))
def b_check_reply (C_is_term : CF) : SF := (sSeq (sIf (tOr' (tNot' (tT1 (eIs "tuple" (eVar 0)))) (bT (e2 (gB cEq) (eCall fLen (aCons (eVar 0) aNil)) (eC (.int 0)))))
  (sRaise "InvalidReply" (eC (.int 0)))
  sNx)
  (sFor (wRng1 (eCall fLen (aCons (eVar 0) aNil))) (gN 1)
  (sIf (tOr' (bT (e2 (gB cEq) (eVar 1) (eC (.int 6)))) (tNot' (tT1 (eFn 1 C_is_term (aCons (e2 gIx (eVar 0) (eVar 1)) aNil)))))
  (sRaise "InvalidReply" (eVar 1))
  sNx)))
def b_segments (C_tidy : CF) (C_places_of : CF) : SF := (sSeq (sIf (bT (e2 (gB cNe) (eSl (eVar 0) oNone (oSome (eC (.int 1)))) (eC (.str [47]))))
  (sRaise "InvalidCall" (eC (.int 0)))
  sNx)
  (sSeq (sFor (wRng1 (eCall fLen (aCons (eVar 0) aNil))) (gN 1)
  (sIf (bT (e2 (gB cEq) (e2 gIx (eVar 0) (eVar 1)) (eC (.str [63]))))
  (sSeq (sEx (eFn 1 C_tidy (aCons (eSl (eVar 0) oNone (oSome (eVar 1))) aNil)))
  (sRaise "InvalidCall" (eVar 1)))
  sNx))
  (sSeq (sEx (eFn 1 C_tidy (aCons (eVar 0) aNil)))
  (sSeq (sSetL 2 (nLst aNil))
  (sSeq (sFor (wSeq (eFn 1 C_places_of (aCons (eVar 0) aNil))) (gT 2 (gCs (gN 1) (gCs (gN 3) gNl)))
  (sSeq (sSet 4 (eFn 1 C_tidy (aCons (eVar 3) aNil)))
  (sIf (bT (e2 (gB cEq) (eVar 4) (eC (.str [46, 46]))))
  (sSeq (sIf (bT (e2 (gB cEq) (eCall fLen (aCons (eVar 2) aNil)) (eC (.int 0))))
  (sRaise "InvalidCall" (eVar 1))
  sNx)
  (sPop (eVar 2)))
  (sIf (bT (e2 (gB cNotIn) (eVar 4) (eTup (aCons (eC (.str [])) (aCons (eC (.str [46])) aNil)))))
  (sApp (eVar 2) (eVar 4))
  sNx))))
  (fun env S => (sRet (eVar 2)) (frzE 2 env) S))))))
def b__law_told (C_check_parts : CF) (C_check_reply : CF) : SF := (sSeq (sTryAs2 2 [("InvalidCall", false), ("InvalidParts", true), ("InvalidReply", false)] 2 [("InvalidCall", false), ("InvalidParts", false), ("InvalidReply", true)] (sIf (bT (e2 (gB cEq) (eVar 0) (eC (.int 0))))
  (sEx (eFn 1 C_check_parts (aCons (eVar 1) aNil)))
  (sEx (eFn 1 C_check_reply (aCons (eVar 1) aNil))))
  (sRet (eTup (aCons (eC (.str [112, 97, 114, 116, 115])) (aCons (eErrP 2 ["InvalidCall", "InvalidParts", "InvalidReply"]) aNil))))
  (sRet (eTup (aCons (eC (.str [114, 101, 112, 108, 121])) (aCons (eErrP 2 ["InvalidCall", "InvalidParts", "InvalidReply"]) aNil)))))
  (sRet (eC .non)))
def b_canonical (C_segments : CF) (C_joined : CF) : SF := (sRet (eFn 1 C_joined (aCons (eFn 1 C_segments (aCons (eVar 0) aNil)) aNil)))
def b_is_canonical (C_canonical : CF) : SF := (sTryO [("InvalidCall", true), ("InvalidParts", false), ("InvalidReply", false)] (sRet (e2 (gB cEq) (eFn 1 C_canonical (aCons (eVar 0) aNil)) (eVar 0)))
  (sRet (eC (.bl false))))
def b_is_ask (C_is_canonical : CF) (C_is_caller : CF) (C_is_texts : CF) : SF := (sSeq (sIf (tOr' (tNot' (tT1 (eIs "tuple" (eVar 0)))) (bT (e2 (gB cNe) (eCall fLen (aCons (eVar 0) aNil)) (eC (.int 4)))))
  (sRet (eC (.bl false)))
  sNx)
  (sSeq (sAsg (eVar 0) (gT 4 (gCs (gN 1) (gCs (gN 2) (gCs (gN 3) (gCs (gN 4) gNl))))))
  (sRet (eAnd (eIs "str" (eVar 1)) (eAnd (eFn 1 C_is_canonical (aCons (eVar 1) aNil)) (eAnd (eFn 1 C_is_caller (aCons (eVar 2) aNil)) (eAnd (eFn 1 C_is_texts (aCons (eVar 3) aNil)) (eFn 1 C_is_texts (aCons (eVar 4) aNil)))))))))
def b_is_counts (C_is_canonical : CF) (C_is_number : CF) : SF := (sSeq (sIf (tNot' (tT1 (eIs "tuple" (eVar 0))))
  (sRet (eC (.bl false)))
  sNx)
  (sSeq (sFor (wSeq (eVar 0)) (gN 1)
  (sSeq (sIf (tOr' (tNot' (tT1 (eIs "tuple" (eVar 1)))) (tOr' (bT (e2 (gB cNe) (eCall fLen (aCons (eVar 1) aNil)) (eC (.int 2)))) (tNot' (tT1 (eIs "str" (e2 gIx (eVar 1) (eC (.int 0))))))))
  (sRet (eC (.bl false)))
  sNx)
  (sIf (tOr' (tNot' (tT1 (eFn 1 C_is_canonical (aCons (e2 gIx (eVar 1) (eC (.int 0))) aNil)))) (tOr' (tNot' (tT1 (eFn 1 C_is_number (aCons (e2 gIx (eVar 1) (eC (.int 1))) aNil)))) (bT (e2 (gB cLt) (e2 gIx (eVar 1) (eC (.int 1))) (eC (.int 1))))))
  (sRet (eC (.bl false)))
  sNx)))
  (sRet (eCall fAll (aCons (eFrz (nLc (wRng1 (e2 gSub (eCall fLen (aCons (eVar 0) aNil)) (eC (.int 1)))) (gN 2) tAll (e2 (gB cLt) (e2 gIx (e2 gIx (eVar 0) (eVar 2)) (eC (.int 0))) (e2 gIx (e2 gIx (eVar 0) (e2 gAdd (eVar 2) (eC (.int 1)))) (eC (.int 0)))) [2])) aNil)))))
def b_is_state (C_is_number : CF) (C_is_counts : CF) : SF := (sSeq (sIf (tOr' (tNot' (tT1 (eIs "tuple" (eVar 0)))) (bT (e2 (gB cNe) (eCall fLen (aCons (eVar 0) aNil)) (eC (.int 3)))))
  (sRet (eC (.bl false)))
  sNx)
  (sRet (eAnd (eFn 1 C_is_number (aCons (e2 gIx (eVar 0) (eC (.int 0))) aNil)) (eAnd (eFn 1 C_is_counts (aCons (e2 gIx (eVar 0) (eC (.int 1))) aNil)) (eFn 1 C_is_counts (aCons (e2 gIx (eVar 0) (eC (.int 2))) aNil))))))
def b__law_values (C_is_ask : CF) (C_is_state : CF) (C__law_pick : CF) : SF := (sSeq (sSetL 1 (nLst (aCons (eC (.str [47, 97, 47, 98])) (aCons (eC (.str [97, 110, 110])) (aCons (eTup (aCons (eTup (aCons (eC (.str [102])) (aCons (eC (.str [])) aNil))) (aCons (eTup (aCons (eC (.str [108, 97, 110, 103])) (aCons (eC (.str [120, 32, 121])) aNil))) aNil))) (aCons (eTup (aCons (eTup (aCons (eC (.str [113])) (aCons (eC (.str [49])) aNil))) aNil)) aNil))))))
  (sSeq (sSetL 2 (nLst (aCons (eC (.int 3)) (aCons (eTup (aCons (eTup (aCons (eC (.str [47])) (aCons (eC (.int 1)) aNil))) (aCons (eTup (aCons (eC (.str [47, 97])) (aCons (eC (.int 9)) aNil))) aNil))) (aCons (eTup (aCons (eTup (aCons (eC (.str [47, 97])) (aCons (eC (.int 1)) aNil))) aNil)) aNil)))))
  (sSeq (sIf (tOr' (bT (e2 (gB cNotB) (eFn 1 C_is_ask (aCons (eCall fTuple (aCons (eVar 1) aNil)) aNil)) (eC (.bl true)))) (bT (e2 (gB cNotB) (eFn 1 C_is_state (aCons (eCall fTuple (aCons (eVar 2) aNil)) aNil)) (eC (.bl true)))))
  (sRet (eC (.bl false)))
  sNx)
  (sSeq (sSet 3 (eFn 2 C__law_pick (aCons (eVar 0) (aCons (eC (.int 4)) aNil))))
  (sSeq (sSet 4 (eLst (aCons (eC .non) (aCons (eLst (aCons (eTup (aCons (eC (.str [102])) (aCons (eC (.str [])) aNil))) aNil)) (aCons (eTup (aCons (eTup (aCons (eC (.str [102])) aNil)) aNil)) (aCons (eTup (aCons (eTup (aCons (eC (.str [102])) (aCons (eC (.int 5)) aNil))) aNil)) (aCons (eTup (aCons (eTup (aCons (eC (.str [108, 97, 110, 103])) (aCons (eC (.str [120])) aNil))) (aCons (eTup (aCons (eC (.str [102])) (aCons (eC (.str [])) aNil))) aNil))) (aCons (eTup (aCons (eTup (aCons (eC (.str [102])) (aCons (eC (.str [])) aNil))) (aCons (eTup (aCons (eC (.str [102])) (aCons (eC (.str [])) aNil))) aNil))) (aCons (eTup (aCons (eTup (aCons (eC (.str [70])) (aCons (eC (.str [])) aNil))) aNil)) (aCons (eTup (aCons (eC (.str [102])) (aCons (eC (.str [])) aNil))) (aCons (eTup (aCons (eTup (aCons (eC (.str [102])) (aCons (eC (.str [97, 9, 98])) aNil))) aNil)) (aCons (eTup (aCons (eTup (aCons (eC (.str [102])) (aCons (eC (.str [10])) aNil))) aNil)) aNil))))))))))))
  (sSeq (sSet 5 (e2 gIx (eLst (aCons (eLst (aCons (eC (.str [])) (aCons (eC (.str [97])) (aCons (eC (.str [47, 97, 47])) (aCons (eC (.str [47, 97, 47, 46, 46, 47, 98])) (aCons (eC (.int 5)) (aCons (eC .non) (aCons (eC (.str [47, 97, 32, 98])) aNil)))))))) (aCons (eLst (aCons (eC (.str [])) (aCons (eC (.str [97, 32, 98])) (aCons (eC (.int 5)) (aCons (e2 gMulA (eC (.str [97])) (eC (.int 21))) aNil))))) (aCons (eVar 4) (aCons (eLst (aCons (eC .non) (aCons (eTup (aCons (eTup (aCons (eC (.str [113])) (aCons (eC .non) aNil))) aNil)) (aCons (eTup (aCons (eC (.int 5)) aNil)) aNil)))) aNil))))) (eVar 3)))
  (sSeq (sStL (e2 gIx (eVar 5) (eFn 2 C__law_pick (aCons (eVar 0) (aCons (eCall fLen (aCons (eVar 5) aNil)) aNil)))) (eVar 1) (eVar 3))
  (sSeq (sSet 6 (eFn 2 C__law_pick (aCons (eVar 0) (aCons (eC (.int 3)) aNil))))
  (sSeq (sSet 4 (eLst (aCons (eC .non) (aCons (eLst (aCons (eTup (aCons (eC (.str [47, 97])) (aCons (eC (.int 1)) aNil))) aNil)) (aCons (eTup (aCons (eTup (aCons (eC (.str [47, 97])) (aCons (eC (.int 0)) aNil))) aNil)) (aCons (eTup (aCons (eTup (aCons (eC (.str [47, 97])) (aCons (eC (.bl true)) aNil))) aNil)) (aCons (eTup (aCons (eTup (aCons (eC (.str [47, 97, 47])) (aCons (eC (.int 1)) aNil))) aNil)) (aCons (eTup (aCons (eTup (aCons (eC (.str [47, 98])) (aCons (eC (.int 1)) aNil))) (aCons (eTup (aCons (eC (.str [47, 97])) (aCons (eC (.int 1)) aNil))) aNil))) (aCons (eTup (aCons (eTup (aCons (eC (.str [47, 97])) (aCons (eC (.int 1)) aNil))) (aCons (eTup (aCons (eC (.str [47, 97])) (aCons (eC (.int 1)) aNil))) aNil))) (aCons (eTup (aCons (eTup (aCons (eC (.str [47, 97])) aNil)) aNil)) aNil))))))))))
  (sSeq (sSet 7 (e2 gIx (eLst (aCons (eLst (aCons (eNeg (eC (.int 1))) (aCons (eC (.bl true)) (aCons (eC .non) (aCons (eC (.str [51])) aNil))))) (aCons (eVar 4) (aCons (eLst (aCons (eC (.int 5)) (aCons (eTup (aCons (eTup (aCons (eC (.str [97])) (aCons (eC (.int 1)) aNil))) aNil)) (aCons (eTup (aCons (eTup (aCons (eC (.str [47, 97])) (aCons (eC (.str [49])) aNil))) aNil)) aNil)))) aNil)))) (eVar 6)))
  (sSeq (sStL (e2 gIx (eVar 7) (eFn 2 C__law_pick (aCons (eVar 0) (aCons (eCall fLen (aCons (eVar 7) aNil)) aNil)))) (eVar 2) (eVar 6))
  (sRet (eAnd (e2 (gB cIsB) (eFn 1 C_is_ask (aCons (eCall fTuple (aCons (eVar 1) aNil)) aNil)) (eC (.bl false))) (eAnd (e2 (gB cIsB) (eFn 1 C_is_state (aCons (eCall fTuple (aCons (eVar 2) aNil)) aNil)) (eC (.bl false))) (eAnd (e2 (gB cIsB) (eFn 1 C_is_ask (aCons (eCall fList (aCons (eVar 1) aNil)) aNil)) (eC (.bl false))) (e2 (gB cIsB) (eFn 1 C_is_state (aCons (eC .non) aNil)) (eC (.bl false))))))))))))))))))
def b_law (C__law_start : CF) (C__law_told : CF) (C__law_parts : CF) (C__law_rule : CF) (C__law_values : CF) : SF := (sSeq (sSet 1 (eFn 1 C__law_start (aCons (eVar 0) aNil)))
  (sSeq (sAsg (eFn 1 C__law_parts (aCons (eVar 1) aNil)) (gT 2 (gCs (gN 2) (gCs (gN 3) gNl))))
  (sSeq (sAsg (eFn 1 C__law_rule (aCons (eVar 1) aNil)) (gT 2 (gCs (gN 4) (gCs (gN 5) gNl))))
  (sRet (eAnd (e2 (gB cEq) (eFn 2 C__law_told (aCons (eC (.int 0)) (aCons (eVar 2) aNil))) (eVar 3)) (eAnd (e2 (gB cEq) (eFn 2 C__law_told (aCons (eC (.int 1)) (aCons (eVar 4) aNil))) (eVar 5)) (eFn 1 C__law_values (aCons (eVar 1) aNil))))))))
section
variable {B : Base}
abbrev N_hex_value : List Str := ["sign"]
theorem sc_hex_value : FnScope N_hex_value ["sign"] (defScope st_hex_value) := ⟨rfl, rfl, rfl, by decide +kernel, rfl, by decide +kernel, by decide +kernel⟩
theorem walk_hex_value (T : Txt B) (e : En) (hx : ∀ a, e.x a = none) : SB B ⟨N_hex_value, defScope st_hex_value, 0, true, true, fun _ => true⟩ e (defBody st_hex_value) (b_hex_value) :=
  (sb_cons (ss_if (st_in (se_var 0) (se_sl (se_cstr T.c_SMALL.choose_spec) so_none (so_some se_int)))
  (sb_one (ss_ret (se_add se_int (se_sindex (se_cstr T.c_SMALL.choose_spec) (se_var 0)))))
  sb_nil)
  (sb_one (ss_ret (se_sfind (se_cstr T.c_HEX.choose_spec) (se_var 0)))))
abbrev N_coded : List Str := ["number"]
theorem sc_coded : FnScope N_coded ["number"] (defScope st_coded) := ⟨rfl, rfl, rfl, by decide +kernel, rfl, by decide +kernel, by decide +kernel⟩
theorem walk_coded (T : Txt B) (e : En) (hx : ∀ a, e.x a = none) : SB B ⟨N_coded, defScope st_coded, 0, true, true, fun _ => true⟩ e (defBody st_coded) (b_coded) :=
  (sb_one (ss_ret (se_add (se_add (se_cstr T.c_CODE.choose_spec) (se_ix (se_cstr T.c_HEX.choose_spec) (se_div (se_var 0) se_int))) (se_ix (se_cstr T.c_HEX.choose_spec) (se_mod (se_intc T.z_int (sa_cons (se_var 0) sa_nil)) se_int)))))
abbrev N_sign_of : List Str := ["number"]
theorem sc_sign_of : FnScope N_sign_of ["number"] (defScope st_sign_of) := ⟨rfl, rfl, rfl, by decide +kernel, rfl, by decide +kernel, by decide +kernel⟩
theorem walk_sign_of (T : Txt B) (e : En) (hx : ∀ a, e.x a = none) : SB B ⟨N_sign_of, defScope st_sign_of, 0, true, true, fun _ => true⟩ e (defBody st_sign_of) (b_sign_of) :=
  (sb_one (ss_ret (se_sign T.z_bytes (se_var 0))))
abbrev N_places_of : List Str := ["text", "found", "at", "piece"]
theorem sc_places_of : FnScope N_places_of ["text"] (defScope st_places_of) := ⟨rfl, rfl, rfl, by decide +kernel, rfl, by decide +kernel, by decide +kernel⟩
theorem walk_places_of (T : Txt B) (e : En) (hx : ∀ a, e.x a = none) : SB B ⟨N_places_of, defScope st_places_of, 0, true, true, fun _ => true⟩ e (defBody st_places_of) (b_places_of) :=
  (sb_cons (ss_setL 1 (sn_lst sa_nil))
  (sb_cons (ss_set 2 se_int)
  (sb_cons (ss_for (si_seq (se_split (se_var 0) (se_str [47]))) (sg_name 3)
  (sb_cons (ss_app (se_var 1) (se_tup (sa_cons (se_var 2) (sa_cons (se_var 3) sa_nil))))
  (sb_one (ss_aug 2 (fun _ => ip_addD) (se_add (se_len T.z_len (sa_cons (se_var 3) sa_nil)) se_int)))))
  (sb_one (ss_frz 1 (ss_ret (se_var 1)))))))
abbrev N_joined : List Str := ["row"]
theorem sc_joined : FnScope N_joined ["row"] (defScope st_joined) := ⟨rfl, rfl, rfl, by decide +kernel, rfl, by decide +kernel, by decide +kernel⟩
theorem walk_joined (T : Txt B) (e : En) (hx : ∀ a, e.x a = none) : SB B ⟨N_joined, defScope st_joined, 0, true, true, fun _ => true⟩ e (defBody st_joined) (b_joined) :=
  (sb_one (ss_ret (se_add (se_str [47]) (se_join (se_str [47]) (se_var 0)))))
abbrev N_is_text_of : List Str := ["value", "signs", "most", "sign"]
theorem sc_is_text_of : FnScope N_is_text_of ["value", "signs", "most"] (defScope st_is_text_of) := ⟨rfl, rfl, rfl, by decide +kernel, rfl, by decide +kernel, by decide +kernel⟩
theorem walk_is_text_of (T : Txt B) (e : En) (hx : ∀ a, e.x a = none) : SB B ⟨N_is_text_of, defScope st_is_text_of, 0, true, true, fun _ => true⟩ e (defBody st_is_text_of) (b_is_text_of) :=
  (sb_one (ss_ret (se_and (se_isi (T := "str") T.z_isinstance T.z_str (by decide +kernel) (se_var 0)) (se_and (se_chain o_le o_le se_int (se_len T.z_len (sa_cons (se_var 0) sa_nil)) (se_var 2)) (se_bool1 (se_all T.z_all (sa_cons (se_new (sn_lc [("sign", 3)] (si_seq (se_var 0)) (sg_name 3) sts_nil (se_in (se_var 3) (se_var 1)) (blkOk_by (by decide +kernel)))) sa_nil)))))))
abbrev N_is_number : List Str := ["value"]
theorem sc_is_number : FnScope N_is_number ["value"] (defScope st_is_number) := ⟨rfl, rfl, rfl, by decide +kernel, rfl, by decide +kernel, by decide +kernel⟩
theorem walk_is_number (T : Txt B) (e : En) (hx : ∀ a, e.x a = none) : SB B ⟨N_is_number, defScope st_is_number, 0, true, true, fun _ => true⟩ e (defBody st_is_number) (b_is_number) :=
  (sb_one (ss_ret (se_and (se_isi (T := "int") T.z_isinstance T.z_int (by decide +kernel) (se_var 0)) (se_and (se_not (se_isi (T := "bool") T.z_isinstance T.z_bool (by decide +kernel) (se_var 0))) (se_bool1 (se_ge (se_var 0) se_int))))))
abbrev N_is_text : List Str := ["value", "sign"]
theorem sc_is_text : FnScope N_is_text ["value"] (defScope st_is_text) := ⟨rfl, rfl, rfl, by decide +kernel, rfl, by decide +kernel, by decide +kernel⟩
theorem walk_is_text (T : Txt B) (e : En) (hx : ∀ a, e.x a = none) : SB B ⟨N_is_text, defScope st_is_text, 0, true, true, fun _ => true⟩ e (defBody st_is_text) (b_is_text) :=
  (sb_one (ss_ret (se_and (se_isi (T := "str") T.z_isinstance T.z_str (by decide +kernel) (se_var 0)) (se_bool1 (se_all T.z_all (sa_cons (se_new (sn_lc [("sign", 1)] (si_seq (se_var 0)) (sg_name 1) sts_nil (se_chain o_le o_le se_int (se_ord T.z_ord (sa_cons (se_var 1) sa_nil)) se_int) (blkOk_by (by decide +kernel)))) sa_nil))))))
abbrev N__law_start : List Str := ["script"]
theorem sc__law_start : FnScope N__law_start ["script"] (defScope st__law_start) := ⟨rfl, rfl, rfl, by decide +kernel, rfl, by decide +kernel, by decide +kernel⟩
theorem walk__law_start (T : Txt B) (e : En) (hx : ∀ a, e.x a = none) : SB B ⟨N__law_start, defScope st__law_start, 0, true, true, fun _ => true⟩ e (defBody st__law_start) (b__law_start) :=
  (sb_one (ss_retG (sn_lst (sa_cons (se_var 0) (sa_cons se_int (sa_cons se_int (sa_cons se_int sa_nil)))))))
abbrev N__law_pick : List Str := ["state", "limit", "cell", "drawn"]
theorem sc__law_pick : FnScope N__law_pick ["state", "limit"] (defScope st__law_pick) := ⟨rfl, rfl, rfl, by decide +kernel, rfl, by decide +kernel, by decide +kernel⟩
theorem walk__law_pick (T : Txt B) (e : En) (hx : ∀ a, e.x a = none) : SB B ⟨N__law_pick, defScope st__law_pick, 0, true, true, fun _ => true⟩ e (defBody st__law_pick) (b__law_pick) :=
  (sb_cons (ss_if (SW.st (sw_and (st_eq (se_ix (se_var 0) se_int) se_int) (sw_and1 (st_lt (se_ix (se_var 0) se_int) (se_len T.z_len (sa_cons (se_ix (se_var 0) se_int) sa_nil))))))
  (sb_cons (ss_set 2 (se_abs T.z_abs (sa_cons (se_ix (se_ix (se_var 0) se_int) (se_ix (se_var 0) se_int)) sa_nil)))
  (sb_cons (ss_stL (se_add (se_ix (se_var 0) se_int) se_int) (se_var 0) se_int)
  (sb_one (ss_if (st_ge (se_var 2) (se_pow se_int se_int))
  (sb_one (ss_stL (se_var 2) (se_var 0) se_int))
  (sb_one (ss_stL (se_add (se_mod (se_intc T.z_int (sa_cons (se_add (se_mul (se_ix (se_var 0) se_int) se_int) (se_var 2)) sa_nil)) se_int) se_int) (se_var 0) se_int))))))
  sb_nil)
  (sb_cons (ss_if (st_gt (se_ix (se_var 0) se_int) se_int)
  (sb_cons (ss_set 3 (se_mod (se_intc T.z_int (sa_cons (se_ix (se_var 0) se_int) sa_nil)) (se_var 1)))
  (sb_cons (ss_stL (se_div (se_ix (se_var 0) se_int) (se_var 1)) (se_var 0) se_int)
  (sb_one (ss_ret (se_var 3)))))
  sb_nil)
  (sb_cons (ss_stL (se_mod (se_intc T.z_int (sa_cons (se_mul (se_ix (se_var 0) se_int) se_int) sa_nil)) se_int) (se_var 0) se_int)
  (sb_one (ss_ret (se_mod (se_intc T.z_int (sa_cons (se_add (se_div (se_ix (se_var 0) se_int) se_int) (se_mod (se_intc T.z_int (sa_cons (se_mul (se_ix (se_var 0) se_int) (se_ix (se_var 0) se_int)) sa_nil)) se_int)) sa_nil)) (se_var 1)))))))
abbrev N_is_plain : List Str := ["number"]
theorem sc_is_plain : FnScope N_is_plain ["number"] (defScope st_is_plain) := ⟨rfl, rfl, rfl, by decide +kernel, rfl, by decide +kernel, by decide +kernel⟩
theorem walk_is_plain (T : Txt B) {C_sign_of : CF} (F_sign_of : FnD B "sign_of" 1 1 C_sign_of) (e : En) (hx : ∀ a, e.x a = none) : SB B ⟨N_is_plain, defScope st_is_plain, 1, true, true, fun _ => true⟩ e (defBody st_is_plain) (b_is_plain C_sign_of) :=
  (sb_one (ss_ret (se_and (se_lt (se_var 0) se_int) (se_bool1 (se_in (se_fn F_sign_of (sa_cons (se_var 0) sa_nil)) (se_cstr T.c_PLAIN.choose_spec))))))
abbrev N_is_word : List Str := ["value"]
theorem sc_is_word : FnScope N_is_word ["value"] (defScope st_is_word) := ⟨rfl, rfl, rfl, by decide +kernel, rfl, by decide +kernel, by decide +kernel⟩
theorem walk_is_word (T : Txt B) {C_is_text_of : CF} (F_is_text_of : FnD B "is_text_of" 3 1 C_is_text_of) (e : En) (hx : ∀ a, e.x a = none) : SB B ⟨N_is_word, defScope st_is_word, 1, true, true, fun _ => true⟩ e (defBody st_is_word) (b_is_word C_is_text_of) :=
  (sb_one (ss_ret (se_fn F_is_text_of (sa_cons (se_var 0) (sa_cons (se_add (se_cstr T.c_SMALL.choose_spec) (se_cstr T.c_DIGITS.choose_spec)) (sa_cons (se_cint T.c_MOST_WORD.choose_spec) sa_nil))))))
abbrev N_is_caller : List Str := ["value"]
theorem sc_is_caller : FnScope N_is_caller ["value"] (defScope st_is_caller) := ⟨rfl, rfl, rfl, by decide +kernel, rfl, by decide +kernel, by decide +kernel⟩
theorem walk_is_caller (T : Txt B) {C_is_text_of : CF} (F_is_text_of : FnD B "is_text_of" 3 1 C_is_text_of) (e : En) (hx : ∀ a, e.x a = none) : SB B ⟨N_is_caller, defScope st_is_caller, 1, true, true, fun _ => true⟩ e (defBody st_is_caller) (b_is_caller C_is_text_of) :=
  (sb_one (ss_ret (se_fn F_is_text_of (sa_cons (se_var 0) (sa_cons (se_cstr T.c_PLAIN.choose_spec) (sa_cons (se_cint T.c_MOST_CALLER.choose_spec) sa_nil))))))
abbrev N__law_odd : List Str := ["state", "odd"]
theorem sc__law_odd : FnScope N__law_odd ["state"] (defScope st__law_odd) := ⟨rfl, rfl, rfl, by decide +kernel, rfl, by decide +kernel, by decide +kernel⟩
theorem walk__law_odd (T : Txt B) {C__law_pick : CF} (F__law_pick : FnD B "_law_pick" 2 1 C__law_pick) (e : En) (hx : ∀ a, e.x a = none) : SB B ⟨N__law_odd, defScope st__law_odd, 1, true, true, fun _ => true⟩ e (defBody st__law_odd) (b__law_odd C__law_pick) :=
  (sb_cons (ss_set 1 (se_lst (sa_cons se_non (sa_cons se_int (sa_cons (se_str [99, 97, 108, 108, 101, 114]) (sa_cons (se_tup (sa_cons (se_str [102, 105, 101, 108, 100]) sa_nil)) (sa_cons (se_tup (sa_cons (se_str [102, 105, 101, 108, 100]) (sa_cons (se_str [65]) sa_nil))) (sa_cons (se_tup (sa_cons (se_str [102, 105, 101, 108, 100]) (sa_cons (se_str []) sa_nil))) (sa_cons (se_tup (sa_cons (se_str [102, 105, 101, 108, 100]) (sa_cons (se_mulA (se_str [97]) se_int) sa_nil))) (sa_cons (se_tup (sa_cons (se_str [113, 117, 101, 114, 121]) (sa_cons se_int sa_nil))) (sa_cons (se_tup (sa_cons (se_str [102, 105, 101, 108, 100, 115]) (sa_cons (se_str [97]) sa_nil))) sa_nil)))))))))))
  (sb_one (ss_ret (se_ix (se_add (se_var 1) (se_lst (sa_cons (se_tup (sa_cons (se_str [99, 97, 108, 108, 101, 114]) (sa_cons (se_str [97]) sa_nil))) (sa_cons (se_lst (sa_cons (se_str [99, 97, 108, 108, 101, 114]) sa_nil)) (sa_cons (se_tup (sa_cons (se_str [102, 105, 101, 108, 100]) (sa_cons (se_lst (sa_cons (se_str [97]) sa_nil)) sa_nil))) (sa_cons (se_tup (sa_cons (se_lst (sa_cons (se_str [102, 105, 101, 108, 100]) sa_nil)) (sa_cons (se_str [97]) sa_nil))) (sa_cons (se_tup sa_nil) sa_nil))))))) (se_fn F__law_pick (sa_cons (se_var 0) (sa_cons se_int sa_nil)))))))
abbrev N_is_named : List Str := ["value"]
theorem sc_is_named : FnScope N_is_named ["value"] (defScope st_is_named) := ⟨rfl, rfl, rfl, by decide +kernel, rfl, by decide +kernel, by decide +kernel⟩
theorem walk_is_named (T : Txt B) {C_is_word : CF} (F_is_word : FnD B "is_word" 1 2 C_is_word) (e : En) (hx : ∀ a, e.x a = none) : SB B ⟨N_is_named, defScope st_is_named, 2, true, true, fun _ => true⟩ e (defBody st_is_named) (b_is_named C_is_word) :=
  (sb_cons (ss_if (SW.st (sw_or (st_not (st_truth (se_isi (T := "tuple") T.z_isinstance T.z_tuple (by decide +kernel) (se_var 0)))) (sw_or (st_ne (se_len T.z_len (sa_cons (se_var 0) sa_nil)) se_int) (sw_or1 (st_not (st_truth (se_isi (T := "str") T.z_isinstance T.z_str (by decide +kernel) (se_ix (se_var 0) se_int))))))))
  (sb_one (ss_ret se_bl))
  sb_nil)
  (sb_one (ss_ret (se_and (se_in (se_ix (se_var 0) se_int) (se_ctup T.c_NAMED)) (se_bool1 (se_fn F_is_word (sa_cons (se_ix (se_var 0) se_int) sa_nil)))))))
abbrev N_is_texts : List Str := ["value", "row", "k"]
theorem sc_is_texts : FnScope N_is_texts ["value"] (defScope st_is_texts) := ⟨rfl, rfl, rfl, by decide +kernel, rfl, by decide +kernel, by decide +kernel⟩
theorem walk_is_texts (T : Txt B) {C_is_word : CF} (F_is_word : FnD B "is_word" 1 2 C_is_word) {C_is_text : CF} (F_is_text : FnD B "is_text" 1 1 C_is_text) (e : En) (hx : ∀ a, e.x a = none) : SB B ⟨N_is_texts, defScope st_is_texts, 2, true, true, fun _ => true⟩ e (defBody st_is_texts) (b_is_texts C_is_word C_is_text) :=
  (sb_cons (ss_if (st_not (st_truth (se_isi (T := "tuple") T.z_isinstance T.z_tuple (by decide +kernel) (se_var 0))))
  (sb_one (ss_ret se_bl))
  sb_nil)
  (sb_cons (ss_for (si_seq (se_var 0)) (sg_name 1)
  (sb_one (ss_if (SW.st (sw_or (st_not (st_truth (se_isi (T := "tuple") T.z_isinstance T.z_tuple (by decide +kernel) (se_var 1)))) (sw_or (st_ne (se_len T.z_len (sa_cons (se_var 1) sa_nil)) se_int) (sw_or (st_not (st_truth (se_fn F_is_word (sa_cons (se_ix (se_var 1) se_int) sa_nil)))) (sw_or1 (st_not (st_truth (se_fn F_is_text (sa_cons (se_ix (se_var 1) se_int) sa_nil)))))))))
  (sb_one (ss_ret se_bl))
  sb_nil)))
  (sb_one (ss_ret (se_all T.z_all (sa_cons (se_new (sn_lc [("k", 2)] (si_rng1 (se_sub (se_len T.z_len (sa_cons (se_var 0) sa_nil)) se_int) T.z_range) (sg_name 2) sts_nil (se_lt (se_ix (se_ix (se_var 0) (se_var 2)) se_int) (se_ix (se_ix (se_var 0) (se_add (se_var 2) se_int)) se_int)) (blkOk_by (by decide +kernel)))) sa_nil))))))
abbrev N__law_parts : List Str := ["state", "rows", "kind", "at", "row"]
theorem sc__law_parts : FnScope N__law_parts ["state"] (defScope st__law_parts) := ⟨rfl, rfl, rfl, by decide +kernel, rfl, by decide +kernel, by decide +kernel⟩
theorem walk__law_parts (T : Txt B) {C__law_pick : CF} (F__law_pick : FnD B "_law_pick" 2 1 C__law_pick) {C__law_odd : CF} (F__law_odd : FnD B "_law_odd" 1 2 C__law_odd) (e : En) (hx : ∀ a, e.x a = none) : SB B ⟨N__law_parts, defScope st__law_parts, 2, true, true, fun _ => true⟩ e (defBody st__law_parts) (b__law_parts C__law_pick C__law_odd) :=
  (sb_cons (ss_set 1 (se_lst (sa_cons (se_tup (sa_cons (se_str [99, 97, 108, 108, 101, 114]) sa_nil)) (sa_cons (se_tup (sa_cons (se_str [102, 105, 101, 108, 100]) (sa_cons (se_str [102]) sa_nil))) (sa_cons (se_tup (sa_cons (se_str [102, 105, 101, 108, 100]) (sa_cons (se_str [108, 97, 110, 103]) sa_nil))) (sa_cons (se_tup (sa_cons (se_str [112, 97, 116, 104]) sa_nil)) (sa_cons (se_tup (sa_cons (se_str [113, 117, 101, 114, 121]) (sa_cons (se_str [102]) sa_nil))) (sa_cons (se_tup (sa_cons (se_str [113, 117, 101, 114, 121]) (sa_cons (se_str [113]) sa_nil))) sa_nil))))))))
  (sb_cons (ss_lcN 1 (⟨(si_seq (se_var 1)), (sg_name 4), (sts_one (st_eq (se_fn F__law_pick (sa_cons (se_var 0) (sa_cons se_int sa_nil))) se_int)), (se_var 4), blkOk_by (by decide +kernel), by decide, rfl⟩ : LcParts _ _ _ _ _ _ _ _ [("row", 4)] _ _ _ _ _))
  (sb_cons (ss_set 2 (se_fn F__law_pick (sa_cons (se_var 0) (sa_cons se_int sa_nil))))
  (sb_cons (ss_if (st_eq (se_var 2) se_int)
  (sb_cons (ss_set 3 (se_fn F__law_pick (sa_cons (se_var 0) (sa_cons (se_add (se_len T.z_len (sa_cons (se_var 1) sa_nil)) se_int) sa_nil))))
  (sb_one (ss_ret (se_tup (sa_cons (se_tuple T.z_tuple (sa_cons (se_add (se_add (se_sl (se_var 1) so_none (so_some (se_var 3))) (se_lst (sa_cons (se_fn F__law_odd (sa_cons (se_var 0) sa_nil)) sa_nil))) (se_sl (se_var 1) (so_some (se_var 3)) so_none)) sa_nil)) (sa_cons (se_tup (sa_cons (se_str [112, 97, 114, 116, 115]) (sa_cons (se_var 3) sa_nil))) sa_nil))))))
  sb_nil)
  (sb_cons (ss_if (SW.st (sw_and (st_eq (se_var 2) se_int) (sw_and1 (st_gt (se_len T.z_len (sa_cons (se_var 1) sa_nil)) se_int))))
  (sb_cons (ss_set 3 (se_add se_int (se_fn F__law_pick (sa_cons (se_var 0) (sa_cons (se_sub (se_len T.z_len (sa_cons (se_var 1) sa_nil)) se_int) sa_nil)))))
  (sb_one (ss_ret (se_tup (sa_cons (se_tuple T.z_tuple (sa_cons (se_add (se_add (se_sl (se_var 1) so_none (so_some (se_var 3))) (se_lst (sa_cons (se_ix (se_var 1) (se_sub (se_var 3) se_int)) sa_nil))) (se_sl (se_var 1) (so_some (se_var 3)) so_none)) sa_nil)) (sa_cons (se_tup (sa_cons (se_str [112, 97, 114, 116, 115]) (sa_cons (se_var 3) sa_nil))) sa_nil))))))
  sb_nil)
  (sb_cons (ss_if (SW.st (sw_and (st_eq (se_var 2) se_int) (sw_and1 (st_gt (se_len T.z_len (sa_cons (se_var 1) sa_nil)) se_int))))
  (sb_one (ss_ret (se_tup (sa_cons (se_tuple T.z_tuple (sa_cons (se_rev (se_var 1)) sa_nil)) (sa_cons (se_tup (sa_cons (se_str [112, 97, 114, 116, 115]) (sa_cons se_int sa_nil))) sa_nil)))))
  sb_nil)
  (sb_cons (ss_if (st_eq (se_var 2) se_int)
  (sb_one (ss_ret (se_tup (sa_cons (se_ix (se_lst (sa_cons (se_var 1) (sa_cons se_non (sa_cons se_int (sa_cons (se_str [99, 97, 108, 108, 101, 114]) sa_nil))))) (se_fn F__law_pick (sa_cons (se_var 0) (sa_cons se_int sa_nil)))) (sa_cons (se_tup (sa_cons (se_str [112, 97, 114, 116, 115]) (sa_cons se_int sa_nil))) sa_nil)))))
  sb_nil)
  (sb_one (ss_ret (se_tup (sa_cons (se_tuple T.z_tuple (sa_cons (se_var 1) sa_nil)) (sa_cons se_non sa_nil))))))))))))
abbrev N__law_rule : List Str := ["state", "terms", "rows", "kind", "at", "long", "k"]
theorem sc__law_rule : FnScope N__law_rule ["state"] (defScope st__law_rule) := ⟨rfl, rfl, rfl, by decide +kernel, rfl, by decide +kernel, by decide +kernel⟩
theorem walk__law_rule (T : Txt B) {C__law_pick : CF} (F__law_pick : FnD B "_law_pick" 2 1 C__law_pick) {C__law_odd : CF} (F__law_odd : FnD B "_law_odd" 1 2 C__law_odd) (e : En) (hx : ∀ a, e.x a = none) : SB B ⟨N__law_rule, defScope st__law_rule, 2, true, true, fun _ => true⟩ e (defBody st__law_rule) (b__law_rule C__law_pick C__law_odd) :=
  (sb_cons (ss_set 1 (se_lst (sa_cons (se_tup (sa_cons (se_str [99, 97, 108, 108, 101, 114]) sa_nil)) (sa_cons (se_tup (sa_cons (se_str [99, 111, 110, 116, 101, 110, 116]) sa_nil)) (sa_cons (se_tup (sa_cons (se_str [99, 111, 117, 110, 116]) sa_nil)) (sa_cons (se_tup (sa_cons (se_str [102, 105, 101, 108, 100]) (sa_cons (se_str [102]) sa_nil))) (sa_cons (se_tup (sa_cons (se_str [113, 117, 101, 114, 121]) (sa_cons (se_str [113]) sa_nil))) (sa_cons (se_tup (sa_cons (se_str [116, 97, 103]) sa_nil)) sa_nil))))))))
  (sb_cons (ss_lcN 2 (⟨(si_rng1 (se_add se_int (se_fn F__law_pick (sa_cons (se_var 0) (sa_cons se_int sa_nil)))) T.z_range), (sg_name 6), sts_nil, (se_ix (se_var 1) (se_fn F__law_pick (sa_cons (se_var 0) (sa_cons se_int sa_nil)))), blkOk_by (by decide +kernel), by decide, rfl⟩ : LcParts _ _ _ _ _ _ _ _ [("k", 6)] _ _ _ _ _))
  (sb_cons (ss_set 3 (se_fn F__law_pick (sa_cons (se_var 0) (sa_cons se_int sa_nil))))
  (sb_cons (ss_if (st_eq (se_var 3) se_int)
  (sb_cons (ss_set 4 (se_fn F__law_pick (sa_cons (se_var 0) (sa_cons (se_len T.z_len (sa_cons (se_var 2) sa_nil)) sa_nil))))
  (sb_one (ss_ret (se_tup (sa_cons (se_tuple T.z_tuple (sa_cons (se_add (se_add (se_sl (se_var 2) so_none (so_some (se_var 4))) (se_lst (sa_cons (se_ix (se_lst (sa_cons (se_fn F__law_odd (sa_cons (se_var 0) sa_nil)) (sa_cons (se_tup (sa_cons (se_str [112, 97, 116, 104]) sa_nil)) sa_nil))) (se_fn F__law_pick (sa_cons (se_var 0) (sa_cons se_int sa_nil)))) sa_nil))) (se_sl (se_var 2) (so_some (se_add (se_var 4) se_int)) so_none)) sa_nil)) (sa_cons (se_tup (sa_cons (se_str [114, 101, 112, 108, 121]) (sa_cons (se_var 4) sa_nil))) sa_nil))))))
  sb_nil)
  (sb_cons (ss_if (st_eq (se_var 3) se_int)
  (sb_cons (ss_setL 5 (sn_sl (se_mulA (se_var 2) se_int) so_none (so_some (se_add se_int (se_fn F__law_pick (sa_cons (se_var 0) (sa_cons se_int sa_nil)))))))
  (sb_cons (ss_set 4 (se_fn F__law_pick (sa_cons (se_var 0) (sa_cons (se_add (se_len T.z_len (sa_cons (se_var 5) sa_nil)) se_int) sa_nil))))
  (sb_cons (ss_if (st_lt (se_var 4) (se_len T.z_len (sa_cons (se_var 5) sa_nil)))
  (sb_one (ss_stL (se_fn F__law_odd (sa_cons (se_var 0) sa_nil)) (se_var 5) (se_var 4)))
  sb_nil)
  (sb_one (ss_ret (se_tup (sa_cons (se_tuple T.z_tuple (sa_cons (se_var 5) sa_nil)) (sa_cons (se_tup (sa_cons (se_str [114, 101, 112, 108, 121]) (sa_cons (se_min T.z_min (sa_cons (se_var 4) (sa_cons se_int sa_nil))) sa_nil))) sa_nil))))))))
  sb_nil)
  (sb_cons (ss_if (st_eq (se_var 3) se_int)
  (sb_one (ss_ret (se_tup (sa_cons (se_ix (se_lst (sa_cons (se_tup sa_nil) (sa_cons (se_var 2) (sa_cons se_non (sa_cons (se_str [116, 97, 103]) sa_nil))))) (se_fn F__law_pick (sa_cons (se_var 0) (sa_cons se_int sa_nil)))) (sa_cons (se_tup (sa_cons (se_str [114, 101, 112, 108, 121]) (sa_cons se_int sa_nil))) sa_nil)))))
  sb_nil)
  (sb_one (ss_ret (se_tup (sa_cons (se_tuple T.z_tuple (sa_cons (se_var 2) sa_nil)) (sa_cons se_non sa_nil)))))))))))
abbrev N_pieces : List Str := ["text", "found", "at", "sign", "pair"]
theorem sc_pieces : FnScope N_pieces ["text"] (defScope st_pieces) := ⟨rfl, rfl, rfl, by decide +kernel, rfl, by decide +kernel, by decide +kernel⟩
theorem walk_pieces (T : Txt B) {C_hex_value : CF} (F_hex_value : FnD B "hex_value" 1 1 C_hex_value) (e : En) (hx : ∀ a, e.x a = none) : SB B ⟨N_pieces, defScope st_pieces, 3, true, true, fun _ => true⟩ e (defBody st_pieces) (b_pieces C_hex_value) :=
  (sb_cons (ss_setL 1 (sn_lst sa_nil))
  (sb_cons (ss_set 2 se_int)
  (sb_cons (ss_while 2000 (st_lt (se_var 2) (se_len T.z_len (sa_cons (se_var 0) sa_nil)))
  (sb_cons (ss_set 3 (se_ix (se_var 0) (se_var 2)))
  (sb_one (ss_if (st_eq (se_var 3) (se_cstr T.c_CODE.choose_spec))
  (sb_cons (ss_set 4 (se_sl (se_var 0) (so_some (se_add (se_var 2) se_int)) (so_some (se_add (se_var 2) se_int))))
  (sb_cons (ss_if (SW.st (sw_or (st_lt (se_len T.z_len (sa_cons (se_var 4) sa_nil)) se_int) (sw_or (st_lt (se_fn F_hex_value (sa_cons (se_ix (se_var 4) se_int) sa_nil)) se_int) (sw_or1 (st_lt (se_fn F_hex_value (sa_cons (se_ix (se_var 4) se_int) sa_nil)) se_int)))))
  (sb_one (ss_raise T.er_InvalidCall (se_var 2)))
  sb_nil)
  (sb_cons (ss_app (se_var 1) (se_tup (sa_cons (se_add (se_mulA se_int (se_fn F_hex_value (sa_cons (se_ix (se_var 4) se_int) sa_nil))) (se_fn F_hex_value (sa_cons (se_ix (se_var 4) se_int) sa_nil))) (sa_cons se_bl sa_nil))))
  (sb_one (ss_aug 2 (fun _ => ip_addD) se_int)))))
  (sb_cons (ss_if (SW.st (sw_and (st_notin (se_var 3) (se_cstr T.c_PLAIN.choose_spec)) (sw_and1 (st_notin (se_var 3) (se_cstr T.c_MARKS.choose_spec)))))
  (sb_one (ss_raise T.er_InvalidCall (se_var 2)))
  sb_nil)
  (sb_cons (ss_app (se_var 1) (se_tup (sa_cons (se_ord T.z_ord (sa_cons (se_var 3) sa_nil)) (sa_cons se_bl sa_nil))))
  (sb_one (ss_aug 2 (fun _ => ip_addD) se_int))))))))
  (sb_one (ss_frz 1 (ss_ret (se_var 1)))))))
abbrev N_is_part : List Str := ["value"]
theorem sc_is_part : FnScope N_is_part ["value"] (defScope st_is_part) := ⟨rfl, rfl, rfl, by decide +kernel, rfl, by decide +kernel, by decide +kernel⟩
theorem walk_is_part (T : Txt B) {C_is_named : CF} (F_is_named : FnD B "is_named" 1 3 C_is_named) (e : En) (hx : ∀ a, e.x a = none) : SB B ⟨N_is_part, defScope st_is_part, 3, true, true, fun _ => true⟩ e (defBody st_is_part) (b_is_part C_is_named) :=
  (sb_one (ss_ret (se_or (se_in (se_var 0) (se_tup (sa_cons (se_tup (sa_cons (se_str [99, 97, 108, 108, 101, 114]) sa_nil)) (sa_cons (se_tup (sa_cons (se_str [112, 97, 116, 104]) sa_nil)) sa_nil)))) (se_bool1 (se_fn F_is_named (sa_cons (se_var 0) sa_nil))))))
abbrev N_is_term : List Str := ["value", "word"]
theorem sc_is_term : FnScope N_is_term ["value"] (defScope st_is_term) := ⟨rfl, rfl, rfl, by decide +kernel, rfl, by decide +kernel, by decide +kernel⟩
theorem walk_is_term (T : Txt B) {C_is_named : CF} (F_is_named : FnD B "is_named" 1 3 C_is_named) (e : En) (hx : ∀ a, e.x a = none) : SB B ⟨N_is_term, defScope st_is_term, 3, true, true, fun _ => true⟩ e (defBody st_is_term) (b_is_term C_is_named) :=
  (sb_one (ss_ret (se_or (se_in (se_var 0) (se_new (sn_lc [("word", 1)] (si_seq (se_ctup T.c_ALONE)) (sg_name 1) sts_nil (se_tup (sa_cons (se_var 1) sa_nil)) (blkOk_by (by decide +kernel))))) (se_bool1 (se_fn F_is_named (sa_cons (se_var 0) sa_nil))))))
abbrev N_tidy : List Str := ["text", "found", "number", "was_coded"]
theorem sc_tidy : FnScope N_tidy ["text"] (defScope st_tidy) := ⟨rfl, rfl, rfl, by decide +kernel, rfl, by decide +kernel, by decide +kernel⟩
theorem walk_tidy (T : Txt B) {C_pieces : CF} (F_pieces : FnD B "pieces" 1 4 C_pieces) {C_coded : CF} (F_coded : FnD B "coded" 1 1 C_coded) {C_sign_of : CF} (F_sign_of : FnD B "sign_of" 1 1 C_sign_of) {C_is_plain : CF} (F_is_plain : FnD B "is_plain" 1 2 C_is_plain) (e : En) (hx : ∀ a, e.x a = none) : SB B ⟨N_tidy, defScope st_tidy, 4, true, true, fun _ => true⟩ e (defBody st_tidy) (b_tidy C_pieces C_coded C_sign_of C_is_plain) :=
  (sb_cons (ss_set 1 (se_str []))
  (sb_cons (ss_for (si_seq (se_fn F_pieces (sa_cons (se_var 0) sa_nil))) (sg_tup (sgs_cons (sg_name 2) (sgs_cons (sg_name 3) sgs_nil)))
  (sb_one (ss_if (SW.st (sw_and (st_truth (se_var 3)) (sw_and1 (st_not (st_truth (se_fn F_is_plain (sa_cons (se_var 2) sa_nil)))))))
  (sb_one (ss_aug 1 (fun _ => ip_addD) (se_fn F_coded (sa_cons (se_var 2) sa_nil))))
  (sb_one (ss_aug 1 (fun _ => ip_addD) (se_fn F_sign_of (sa_cons (se_var 2) sa_nil)))))))
  (sb_one (ss_ret (se_var 1)))))
abbrev N_check_parts : List Str := ["parts", "place"]
theorem sc_check_parts : FnScope N_check_parts ["parts"] (defScope st_check_parts) := ⟨rfl, rfl, rfl, by decide +kernel, rfl, by decide +kernel, by decide +kernel⟩
theorem walk_check_parts (T : Txt B) {C_is_part : CF} (F_is_part : FnD B "is_part" 1 4 C_is_part) (e : En) (hx : ∀ a, e.x a = none) : SB B ⟨N_check_parts, defScope st_check_parts, 4, true, true, fun _ => true⟩ e (defBody st_check_parts) (b_check_parts C_is_part) :=
  (sb_cons (ss_if (st_not (st_truth (se_isi (T := "tuple") T.z_isinstance T.z_tuple (by decide +kernel) (se_var 0))))
  (sb_one (ss_raise T.er_InvalidParts se_int))
  sb_nil)
  (sb_one (ss_for (si_rng1 (se_len T.z_len (sa_cons (se_var 0) sa_nil)) T.z_range) (sg_name 1)
  (sb_one (ss_if (SW.st (sw_or (st_not (st_truth (se_fn F_is_part (sa_cons (se_ix (se_var 0) (se_var 1)) sa_nil)))) (sw_or1 (SW.st (sw_and (st_gt (se_var 1) se_int) (sw_and1 (st_geD (se_ix (se_var 0) (se_sub (se_var 1) se_int)) (se_ix (se_var 0) (se_var 1)))))))))
  (sb_one (ss_raise T.er_InvalidParts (se_var 1)))
  sb_nil)))))
abbrev N_check_reply : List Str := ["rule", "place"]
theorem sc_check_reply : FnScope N_check_reply ["rule"] (defScope st_check_reply) := ⟨rfl, rfl, rfl, by decide +kernel, rfl, by decide +kernel, by decide +kernel⟩
theorem walk_check_reply (T : Txt B) {C_is_term : CF} (F_is_term : FnD B "is_term" 1 4 C_is_term) (e : En) (hx : ∀ a, e.x a = none) : SB B ⟨N_check_reply, defScope st_check_reply, 4, true, true, fun _ => true⟩ e (defBody st_check_reply) (b_check_reply C_is_term) :=
  (sb_cons (ss_if (SW.st (sw_or (st_not (st_truth (se_isi (T := "tuple") T.z_isinstance T.z_tuple (by decide +kernel) (se_var 0)))) (sw_or1 (st_eq (se_len T.z_len (sa_cons (se_var 0) sa_nil)) se_int))))
  (sb_one (ss_raise T.er_InvalidReply se_int))
  sb_nil)
  (sb_one (ss_for (si_rng1 (se_len T.z_len (sa_cons (se_var 0) sa_nil)) T.z_range) (sg_name 1)
  (sb_one (ss_if (SW.st (sw_or (st_eq (se_var 1) (se_cint T.c_MOST_TERMS.choose_spec)) (sw_or1 (st_not (st_truth (se_fn F_is_term (sa_cons (se_ix (se_var 0) (se_var 1)) sa_nil)))))))
  (sb_one (ss_raise T.er_InvalidReply (se_var 1)))
  sb_nil)))))
abbrev N_segments : List Str := ["text", "at", "found", "piece", "segment"]
theorem sc_segments : FnScope N_segments ["text"] (defScope st_segments) := ⟨rfl, rfl, rfl, by decide +kernel, rfl, by decide +kernel, by decide +kernel⟩
theorem walk_segments (T : Txt B) {C_tidy : CF} (F_tidy : FnD B "tidy" 1 5 C_tidy) {C_places_of : CF} (F_places_of : FnD B "places_of" 1 1 C_places_of) (e : En) (hx : ∀ a, e.x a = none) : SB B ⟨N_segments, defScope st_segments, 5, true, true, fun _ => true⟩ e (defBody st_segments) (b_segments C_tidy C_places_of) :=
  (sb_cons (ss_if (st_ne (se_sl (se_var 0) so_none (so_some se_int)) (se_str [47]))
  (sb_one (ss_raise T.er_InvalidCall se_int))
  sb_nil)
  (sb_cons (ss_for (si_rng1 (se_len T.z_len (sa_cons (se_var 0) sa_nil)) T.z_range) (sg_name 1)
  (sb_one (ss_if (st_eq (se_ix (se_var 0) (se_var 1)) (se_str [63]))
  (sb_cons (ss_ex (se_fn F_tidy (sa_cons (se_sl (se_var 0) so_none (so_some (se_var 1))) sa_nil)))
  (sb_one (ss_raise T.er_InvalidCall (se_var 1))))
  sb_nil)))
  (sb_cons (ss_ex (se_fn F_tidy (sa_cons (se_var 0) sa_nil)))
  (sb_cons (ss_setL 2 (sn_lst sa_nil))
  (sb_cons (ss_for (si_seq (se_fn F_places_of (sa_cons (se_var 0) sa_nil))) (sg_tup (sgs_cons (sg_name 1) (sgs_cons (sg_name 3) sgs_nil)))
  (sb_cons (ss_set 4 (se_fn F_tidy (sa_cons (se_var 3) sa_nil)))
  (sb_one (ss_if (st_eq (se_var 4) (se_str [46, 46]))
  (sb_cons (ss_if (st_eq (se_len T.z_len (sa_cons (se_var 2) sa_nil)) se_int)
  (sb_one (ss_raise T.er_InvalidCall (se_var 1)))
  sb_nil)
  (sb_one (ss_pop (se_var 2))))
  (sb_one (ss_if (st_notin (se_var 4) (se_tup (sa_cons (se_str []) (sa_cons (se_str [46]) sa_nil))))
  (sb_one (ss_app (se_var 2) (se_var 4)))
  sb_nil))))))
  (sb_one (ss_frz 2 (ss_ret (se_var 2)))))))))
abbrev N__law_told : List Str := ["kind", "value", "e"]
theorem sc__law_told : FnScope N__law_told ["kind", "value"] (defScope st__law_told) := ⟨rfl, rfl, rfl, by decide +kernel, rfl, by decide +kernel, by decide +kernel⟩
theorem walk__law_told (T : Txt B) {C_check_parts : CF} (F_check_parts : FnD B "check_parts" 1 5 C_check_parts) {C_check_reply : CF} (F_check_reply : FnD B "check_reply" 1 5 C_check_reply) (e : En) (hx : ∀ a, e.x a = none) : SB B ⟨N__law_told, defScope st__law_told, 5, true, true, fun _ => true⟩ e (defBody st__law_told) (b__law_told C_check_parts C_check_reply) :=
  (sb_cons (ss_tryAs2 2 2 hx T.hd_InvalidParts T.hd_InvalidReply (sb_one (ss_if (st_eq (se_var 0) se_int)
  (sb_one (ss_ex (se_fn F_check_parts (sa_cons (se_var 1) sa_nil))))
  (sb_one (ss_ex (se_fn F_check_reply (sa_cons (se_var 1) sa_nil))))))
  (fun e => (sb_one (ss_ret (se_tup (sa_cons (se_str [112, 97, 114, 116, 115]) (sa_cons (se_errP 2 ["InvalidCall", "InvalidParts", "InvalidReply"] T.erF) sa_nil))))))
  (fun e => (sb_one (ss_ret (se_tup (sa_cons (se_str [114, 101, 112, 108, 121]) (sa_cons (se_errP 2 ["InvalidCall", "InvalidParts", "InvalidReply"] T.erF) sa_nil)))))))
  (sb_one (ss_ret se_non)))
abbrev N_canonical : List Str := ["text"]
theorem sc_canonical : FnScope N_canonical ["text"] (defScope st_canonical) := ⟨rfl, rfl, rfl, by decide +kernel, rfl, by decide +kernel, by decide +kernel⟩
theorem walk_canonical (T : Txt B) {C_segments : CF} (F_segments : FnD B "segments" 1 6 C_segments) {C_joined : CF} (F_joined : FnD B "joined" 1 1 C_joined) (e : En) (hx : ∀ a, e.x a = none) : SB B ⟨N_canonical, defScope st_canonical, 6, true, true, fun _ => true⟩ e (defBody st_canonical) (b_canonical C_segments C_joined) :=
  (sb_one (ss_ret (se_fn F_joined (sa_cons (se_fn F_segments (sa_cons (se_var 0) sa_nil)) sa_nil))))
abbrev N_is_canonical : List Str := ["text"]
theorem sc_is_canonical : FnScope N_is_canonical ["text"] (defScope st_is_canonical) := ⟨rfl, rfl, rfl, by decide +kernel, rfl, by decide +kernel, by decide +kernel⟩
theorem walk_is_canonical (T : Txt B) {C_canonical : CF} (F_canonical : FnD B "canonical" 1 7 C_canonical) (e : En) (hx : ∀ a, e.x a = none) : SB B ⟨N_is_canonical, defScope st_is_canonical, 7, true, true, fun _ => true⟩ e (defBody st_is_canonical) (b_is_canonical C_canonical) :=
  (sb_one (ss_tryO hx T.hd_InvalidCall (sb_one (ss_ret (se_eq (se_fn F_canonical (sa_cons (se_var 0) sa_nil)) (se_var 0))))
  (sb_one (ss_ret se_bl))))
abbrev N_is_ask : List Str := ["value", "path", "caller", "fields", "query"]
theorem sc_is_ask : FnScope N_is_ask ["value"] (defScope st_is_ask) := ⟨rfl, rfl, rfl, by decide +kernel, rfl, by decide +kernel, by decide +kernel⟩
theorem walk_is_ask (T : Txt B) {C_is_canonical : CF} (F_is_canonical : FnD B "is_canonical" 1 8 C_is_canonical) {C_is_caller : CF} (F_is_caller : FnD B "is_caller" 1 2 C_is_caller) {C_is_texts : CF} (F_is_texts : FnD B "is_texts" 1 3 C_is_texts) (e : En) (hx : ∀ a, e.x a = none) : SB B ⟨N_is_ask, defScope st_is_ask, 8, true, true, fun _ => true⟩ e (defBody st_is_ask) (b_is_ask C_is_canonical C_is_caller C_is_texts) :=
  (sb_cons (ss_if (SW.st (sw_or (st_not (st_truth (se_isi (T := "tuple") T.z_isinstance T.z_tuple (by decide +kernel) (se_var 0)))) (sw_or1 (st_ne (se_len T.z_len (sa_cons (se_var 0) sa_nil)) se_int))))
  (sb_one (ss_ret se_bl))
  sb_nil)
  (sb_cons (ss_asg (se_var 0) (sg_tup (sgs_cons (sg_name 1) (sgs_cons (sg_name 2) (sgs_cons (sg_name 3) (sgs_cons (sg_name 4) sgs_nil))))))
  (sb_one (ss_ret (se_and (se_isi (T := "str") T.z_isinstance T.z_str (by decide +kernel) (se_var 1)) (se_and (se_fn F_is_canonical (sa_cons (se_var 1) sa_nil)) (se_and (se_fn F_is_caller (sa_cons (se_var 2) sa_nil)) (se_and (se_fn F_is_texts (sa_cons (se_var 3) sa_nil)) (se_bool1 (se_fn F_is_texts (sa_cons (se_var 4) sa_nil)))))))))))
abbrev N_is_counts : List Str := ["value", "row", "k"]
theorem sc_is_counts : FnScope N_is_counts ["value"] (defScope st_is_counts) := ⟨rfl, rfl, rfl, by decide +kernel, rfl, by decide +kernel, by decide +kernel⟩
theorem walk_is_counts (T : Txt B) {C_is_canonical : CF} (F_is_canonical : FnD B "is_canonical" 1 8 C_is_canonical) {C_is_number : CF} (F_is_number : FnD B "is_number" 1 1 C_is_number) (e : En) (hx : ∀ a, e.x a = none) : SB B ⟨N_is_counts, defScope st_is_counts, 8, true, true, fun _ => true⟩ e (defBody st_is_counts) (b_is_counts C_is_canonical C_is_number) :=
  (sb_cons (ss_if (st_not (st_truth (se_isi (T := "tuple") T.z_isinstance T.z_tuple (by decide +kernel) (se_var 0))))
  (sb_one (ss_ret se_bl))
  sb_nil)
  (sb_cons (ss_for (si_seq (se_var 0)) (sg_name 1)
  (sb_cons (ss_if (SW.st (sw_or (st_not (st_truth (se_isi (T := "tuple") T.z_isinstance T.z_tuple (by decide +kernel) (se_var 1)))) (sw_or (st_ne (se_len T.z_len (sa_cons (se_var 1) sa_nil)) se_int) (sw_or1 (st_not (st_truth (se_isi (T := "str") T.z_isinstance T.z_str (by decide +kernel) (se_ix (se_var 1) se_int))))))))
  (sb_one (ss_ret se_bl))
  sb_nil)
  (sb_one (ss_if (SW.st (sw_or (st_not (st_truth (se_fn F_is_canonical (sa_cons (se_ix (se_var 1) se_int) sa_nil)))) (sw_or (st_not (st_truth (se_fn F_is_number (sa_cons (se_ix (se_var 1) se_int) sa_nil)))) (sw_or1 (st_lt (se_ix (se_var 1) se_int) se_int)))))
  (sb_one (ss_ret se_bl))
  sb_nil))))
  (sb_one (ss_ret (se_all T.z_all (sa_cons (se_new (sn_lc [("k", 2)] (si_rng1 (se_sub (se_len T.z_len (sa_cons (se_var 0) sa_nil)) se_int) T.z_range) (sg_name 2) sts_nil (se_lt (se_ix (se_ix (se_var 0) (se_var 2)) se_int) (se_ix (se_ix (se_var 0) (se_add (se_var 2) se_int)) se_int)) (blkOk_by (by decide +kernel)))) sa_nil))))))
abbrev N_is_state : List Str := ["value"]
theorem sc_is_state : FnScope N_is_state ["value"] (defScope st_is_state) := ⟨rfl, rfl, rfl, by decide +kernel, rfl, by decide +kernel, by decide +kernel⟩
theorem walk_is_state (T : Txt B) {C_is_number : CF} (F_is_number : FnD B "is_number" 1 1 C_is_number) {C_is_counts : CF} (F_is_counts : FnD B "is_counts" 1 9 C_is_counts) (e : En) (hx : ∀ a, e.x a = none) : SB B ⟨N_is_state, defScope st_is_state, 9, true, true, fun _ => true⟩ e (defBody st_is_state) (b_is_state C_is_number C_is_counts) :=
  (sb_cons (ss_if (SW.st (sw_or (st_not (st_truth (se_isi (T := "tuple") T.z_isinstance T.z_tuple (by decide +kernel) (se_var 0)))) (sw_or1 (st_ne (se_len T.z_len (sa_cons (se_var 0) sa_nil)) se_int))))
  (sb_one (ss_ret se_bl))
  sb_nil)
  (sb_one (ss_ret (se_and (se_fn F_is_number (sa_cons (se_ix (se_var 0) se_int) sa_nil)) (se_and (se_fn F_is_counts (sa_cons (se_ix (se_var 0) se_int) sa_nil)) (se_bool1 (se_fn F_is_counts (sa_cons (se_ix (se_var 0) se_int) sa_nil))))))))
abbrev N__law_values : List Str := ["state", "ask", "world", "at", "rows", "wrong", "place", "bad"]
theorem sc__law_values : FnScope N__law_values ["state"] (defScope st__law_values) := ⟨rfl, rfl, rfl, by decide +kernel, rfl, by decide +kernel, by decide +kernel⟩
theorem walk__law_values (T : Txt B) {C_is_ask : CF} (F_is_ask : FnD B "is_ask" 1 9 C_is_ask) {C_is_state : CF} (F_is_state : FnD B "is_state" 1 10 C_is_state) {C__law_pick : CF} (F__law_pick : FnD B "_law_pick" 2 1 C__law_pick) (e : En) (hx : ∀ a, e.x a = none) : SB B ⟨N__law_values, defScope st__law_values, 10, true, true, fun _ => true⟩ e (defBody st__law_values) (b__law_values C_is_ask C_is_state C__law_pick) :=
  (sb_cons (ss_setL 1 (sn_lst (sa_cons (se_str [47, 97, 47, 98]) (sa_cons (se_str [97, 110, 110]) (sa_cons (se_tup (sa_cons (se_tup (sa_cons (se_str [102]) (sa_cons (se_str []) sa_nil))) (sa_cons (se_tup (sa_cons (se_str [108, 97, 110, 103]) (sa_cons (se_str [120, 32, 121]) sa_nil))) sa_nil))) (sa_cons (se_tup (sa_cons (se_tup (sa_cons (se_str [113]) (sa_cons (se_str [49]) sa_nil))) sa_nil)) sa_nil))))))
  (sb_cons (ss_setL 2 (sn_lst (sa_cons se_int (sa_cons (se_tup (sa_cons (se_tup (sa_cons (se_str [47]) (sa_cons se_int sa_nil))) (sa_cons (se_tup (sa_cons (se_str [47, 97]) (sa_cons se_int sa_nil))) sa_nil))) (sa_cons (se_tup (sa_cons (se_tup (sa_cons (se_str [47, 97]) (sa_cons se_int sa_nil))) sa_nil)) sa_nil)))))
  (sb_cons (ss_if (SW.st (sw_or (st_isnotB (se_fn F_is_ask (sa_cons (se_tuple T.z_tuple (sa_cons (se_var 1) sa_nil)) sa_nil)) se_bl) (sw_or1 (st_isnotB (se_fn F_is_state (sa_cons (se_tuple T.z_tuple (sa_cons (se_var 2) sa_nil)) sa_nil)) se_bl))))
  (sb_one (ss_ret se_bl))
  sb_nil)
  (sb_cons (ss_set 3 (se_fn F__law_pick (sa_cons (se_var 0) (sa_cons se_int sa_nil))))
  (sb_cons (ss_set 4 (se_lst (sa_cons se_non (sa_cons (se_lst (sa_cons (se_tup (sa_cons (se_str [102]) (sa_cons (se_str []) sa_nil))) sa_nil)) (sa_cons (se_tup (sa_cons (se_tup (sa_cons (se_str [102]) sa_nil)) sa_nil)) (sa_cons (se_tup (sa_cons (se_tup (sa_cons (se_str [102]) (sa_cons se_int sa_nil))) sa_nil)) (sa_cons (se_tup (sa_cons (se_tup (sa_cons (se_str [108, 97, 110, 103]) (sa_cons (se_str [120]) sa_nil))) (sa_cons (se_tup (sa_cons (se_str [102]) (sa_cons (se_str []) sa_nil))) sa_nil))) (sa_cons (se_tup (sa_cons (se_tup (sa_cons (se_str [102]) (sa_cons (se_str []) sa_nil))) (sa_cons (se_tup (sa_cons (se_str [102]) (sa_cons (se_str []) sa_nil))) sa_nil))) (sa_cons (se_tup (sa_cons (se_tup (sa_cons (se_str [70]) (sa_cons (se_str []) sa_nil))) sa_nil)) (sa_cons (se_tup (sa_cons (se_str [102]) (sa_cons (se_str []) sa_nil))) (sa_cons (se_tup (sa_cons (se_tup (sa_cons (se_str [102]) (sa_cons (se_str [97, 9, 98]) sa_nil))) sa_nil)) (sa_cons (se_tup (sa_cons (se_tup (sa_cons (se_str [102]) (sa_cons (se_str [10]) sa_nil))) sa_nil)) sa_nil))))))))))))
  (sb_cons (ss_set 5 (se_ix (se_lst (sa_cons (se_lst (sa_cons (se_str []) (sa_cons (se_str [97]) (sa_cons (se_str [47, 97, 47]) (sa_cons (se_str [47, 97, 47, 46, 46, 47, 98]) (sa_cons se_int (sa_cons se_non (sa_cons (se_str [47, 97, 32, 98]) sa_nil)))))))) (sa_cons (se_lst (sa_cons (se_str []) (sa_cons (se_str [97, 32, 98]) (sa_cons se_int (sa_cons (se_mulA (se_str [97]) se_int) sa_nil))))) (sa_cons (se_var 4) (sa_cons (se_lst (sa_cons se_non (sa_cons (se_tup (sa_cons (se_tup (sa_cons (se_str [113]) (sa_cons se_non sa_nil))) sa_nil)) (sa_cons (se_tup (sa_cons se_int sa_nil)) sa_nil)))) sa_nil))))) (se_var 3)))
  (sb_cons (ss_stL (se_ix (se_var 5) (se_fn F__law_pick (sa_cons (se_var 0) (sa_cons (se_len T.z_len (sa_cons (se_var 5) sa_nil)) sa_nil)))) (se_var 1) (se_var 3))
  (sb_cons (ss_set 6 (se_fn F__law_pick (sa_cons (se_var 0) (sa_cons se_int sa_nil))))
  (sb_cons (ss_set 4 (se_lst (sa_cons se_non (sa_cons (se_lst (sa_cons (se_tup (sa_cons (se_str [47, 97]) (sa_cons se_int sa_nil))) sa_nil)) (sa_cons (se_tup (sa_cons (se_tup (sa_cons (se_str [47, 97]) (sa_cons se_int sa_nil))) sa_nil)) (sa_cons (se_tup (sa_cons (se_tup (sa_cons (se_str [47, 97]) (sa_cons se_bl sa_nil))) sa_nil)) (sa_cons (se_tup (sa_cons (se_tup (sa_cons (se_str [47, 97, 47]) (sa_cons se_int sa_nil))) sa_nil)) (sa_cons (se_tup (sa_cons (se_tup (sa_cons (se_str [47, 98]) (sa_cons se_int sa_nil))) (sa_cons (se_tup (sa_cons (se_str [47, 97]) (sa_cons se_int sa_nil))) sa_nil))) (sa_cons (se_tup (sa_cons (se_tup (sa_cons (se_str [47, 97]) (sa_cons se_int sa_nil))) (sa_cons (se_tup (sa_cons (se_str [47, 97]) (sa_cons se_int sa_nil))) sa_nil))) (sa_cons (se_tup (sa_cons (se_tup (sa_cons (se_str [47, 97]) sa_nil)) sa_nil)) sa_nil))))))))))
  (sb_cons (ss_set 7 (se_ix (se_lst (sa_cons (se_lst (sa_cons (se_neg se_int) (sa_cons se_bl (sa_cons se_non (sa_cons (se_str [51]) sa_nil))))) (sa_cons (se_var 4) (sa_cons (se_lst (sa_cons se_int (sa_cons (se_tup (sa_cons (se_tup (sa_cons (se_str [97]) (sa_cons se_int sa_nil))) sa_nil)) (sa_cons (se_tup (sa_cons (se_tup (sa_cons (se_str [47, 97]) (sa_cons (se_str [49]) sa_nil))) sa_nil)) sa_nil)))) sa_nil)))) (se_var 6)))
  (sb_cons (ss_stL (se_ix (se_var 7) (se_fn F__law_pick (sa_cons (se_var 0) (sa_cons (se_len T.z_len (sa_cons (se_var 7) sa_nil)) sa_nil)))) (se_var 2) (se_var 6))
  (sb_one (ss_ret (se_and (se_isB (se_fn F_is_ask (sa_cons (se_tuple T.z_tuple (sa_cons (se_var 1) sa_nil)) sa_nil)) se_bl) (se_and (se_isB (se_fn F_is_state (sa_cons (se_tuple T.z_tuple (sa_cons (se_var 2) sa_nil)) sa_nil)) se_bl) (se_and (se_isB (se_fn F_is_ask (sa_cons (se_list T.z_list (sa_cons (se_var 1) sa_nil)) sa_nil)) se_bl) (se_bool1 (se_isB (se_fn F_is_state (sa_cons se_non sa_nil)) se_bl))))))))))))))))))
abbrev N_law : List Str := ["script", "state", "parts", "due", "rule", "other"]
theorem sc_law : FnScope N_law ["script"] (defScope st_law) := ⟨rfl, rfl, rfl, by decide +kernel, rfl, by decide +kernel, by decide +kernel⟩
theorem walk_law (T : Txt B) {C__law_start : CF} (F__law_start : FnD B "_law_start" 1 1 C__law_start) {C__law_told : CF} (F__law_told : FnD B "_law_told" 2 6 C__law_told) {C__law_parts : CF} (F__law_parts : FnD B "_law_parts" 1 3 C__law_parts) {C__law_rule : CF} (F__law_rule : FnD B "_law_rule" 1 3 C__law_rule) {C__law_values : CF} (F__law_values : FnD B "_law_values" 1 11 C__law_values) (e : En) (hx : ∀ a, e.x a = none) : SB B ⟨N_law, defScope st_law, 11, true, true, fun _ => true⟩ e (defBody st_law) (b_law C__law_start C__law_told C__law_parts C__law_rule C__law_values) :=
  (sb_cons (ss_set 1 (se_fn F__law_start (sa_cons (se_var 0) sa_nil)))
  (sb_cons (ss_asg (se_fn F__law_parts (sa_cons (se_var 1) sa_nil)) (sg_tup (sgs_cons (sg_name 2) (sgs_cons (sg_name 3) sgs_nil))))
  (sb_cons (ss_asg (se_fn F__law_rule (sa_cons (se_var 1) sa_nil)) (sg_tup (sgs_cons (sg_name 4) (sgs_cons (sg_name 5) sgs_nil))))
  (sb_one (ss_ret (se_and (se_eq (se_fn F__law_told (sa_cons se_int (sa_cons (se_var 2) sa_nil))) (se_var 3)) (se_and (se_eq (se_fn F__law_told (sa_cons se_int (sa_cons (se_var 4) sa_nil))) (se_var 5)) (se_bool1 (se_fn F__law_values (sa_cons (se_var 1) sa_nil))))))))))
def C_hex_value : CF := fnF 1 b_hex_value
def C_coded : CF := fnF 1 b_coded
def C_sign_of : CF := fnF 1 b_sign_of
def C_places_of : CF := fnF 4 b_places_of
def C_joined : CF := fnF 1 b_joined
def C_is_text_of : CF := fnF 4 b_is_text_of
def C_is_number : CF := fnF 1 b_is_number
def C_is_text : CF := fnF 2 b_is_text
def C__law_start : CF := fnF 1 b__law_start
def C__law_pick : CF := fnF 4 b__law_pick
def C_is_plain : CF := fnF 1 (b_is_plain C_sign_of)
def C_is_word : CF := fnF 1 (b_is_word C_is_text_of)
def C_is_caller : CF := fnF 1 (b_is_caller C_is_text_of)
def C__law_odd : CF := fnF 2 (b__law_odd C__law_pick)
def C_is_named : CF := fnF 1 (b_is_named C_is_word)
def C_is_texts : CF := fnF 3 (b_is_texts C_is_word C_is_text)
def C__law_parts : CF := fnF 5 (b__law_parts C__law_pick C__law_odd)
def C__law_rule : CF := fnF 7 (b__law_rule C__law_pick C__law_odd)
def C_pieces : CF := fnF 5 (b_pieces C_hex_value)
def C_is_part : CF := fnF 1 (b_is_part C_is_named)
def C_is_term : CF := fnF 2 (b_is_term C_is_named)
def C_tidy : CF := fnF 4 (b_tidy C_pieces C_coded C_sign_of C_is_plain)
def C_check_parts : CF := fnF 2 (b_check_parts C_is_part)
def C_check_reply : CF := fnF 2 (b_check_reply C_is_term)
def C_segments : CF := fnF 5 (b_segments C_tidy C_places_of)
def C__law_told : CF := fnF 3 (b__law_told C_check_parts C_check_reply)
def C_canonical : CF := fnF 1 (b_canonical C_segments C_joined)
def C_is_canonical : CF := fnF 1 (b_is_canonical C_canonical)
def C_is_ask : CF := fnF 5 (b_is_ask C_is_canonical C_is_caller C_is_texts)
def C_is_counts : CF := fnF 3 (b_is_counts C_is_canonical C_is_number)
def C_is_state : CF := fnF 1 (b_is_state C_is_number C_is_counts)
def C__law_values : CF := fnF 8 (b__law_values C_is_ask C_is_state C__law_pick)
def C_law : CF := fnF 6 (b_law C__law_start C__law_told C__law_parts C__law_rule C__law_values)
theorem all_mk {l : PySem.W.OpenLaw} {w : World} {K : PySem.W.Frag} {h : Heap} {mg : Str → Option Value} {fa u_NAMED u_ALONE A_CallweirError fi_CallweirError ca_CallweirError cc_CallweirError A_InvalidCall fi_InvalidCall ca_InvalidCall cc_InvalidCall A_InvalidParts fi_InvalidParts ca_InvalidParts cc_InvalidParts A_InvalidReply fi_InvalidReply ca_InvalidReply cc_InvalidReply f0 f1 f2 f3 f4 f5 f6 f7 f8 f9 f10 f11 f12 f13 f14 f15 f16 f17 f18 f19 f20 f21 f22 f23 f24 f25 f26 f27 f28 f29 f30 f31 f32 : Addr} (X : K.In h) (G : h.Ns mainGlobals mg) (hfa : mg "law" = some (.ref fa))
    {od0 od1 od2 od3 od4 od5 od6 od7 od8 od9 od10 od11 od12 od13 od14 od15 od16 od17 od18 od19 od20 od21 od22 od23 od24 od25 od26 od27 od28 od29 od30 od31 od32 an0 an1 an2 an3 an4 an5 an6 an7 an8 an9 an10 an11 an12 an13 an14 an15 an16 an17 an18 an19 an20 an21 an22 an23 an24 an25 an26 an27 an28 an29 an30 an31 an32 : Option Addr} {sl0 sl1 sl2 sl3 sl4 sl5 sl6 sl7 sl8 sl9 sl10 sl11 sl12 sl13 sl14 sl15 sl16 sl17 sl18 sl19 sl20 sl21 sl22 sl23 sl24 sl25 sl26 sl27 sl28 sl29 sl30 sl31 sl32 : Array (Option Value)} {oc0 oc1 oc2 oc3 oc4 oc5 oc6 oc7 oc8 oc9 oc10 oc11 oc12 oc13 oc14 oc15 oc16 oc17 oc18 oc19 oc20 oc21 oc22 oc23 oc24 oc25 oc26 oc27 oc28 oc29 oc30 oc31 oc32 kV0 kV1 kV2 kV3 kV4 kV5 kV6 kV7 kV8 kV9 kV10 kV11 kV12 kV13 kV14 kV15 kV16 kV17 kV18 kV19 kV20 kV21 kV22 kV23 kV24 kV25 kV26 kV27 kV28 kV29 kV30 kV31 kV32 dc0 dc1 dc2 dc3 dc4 dc5 dc6 dc7 dc8 dc9 dc10 dc11 dc12 dc13 dc14 dc15 dc16 dc17 dc18 dc19 dc20 dc21 dc22 dc23 dc24 dc25 dc26 dc27 dc28 dc29 dc30 dc31 dc32 pm0 pm1 pm2 pm3 pm4 pm5 pm6 pm7 pm8 pm9 pm10 pm11 pm12 pm13 pm14 pm15 pm16 pm17 pm18 pm19 pm20 pm21 pm22 pm23 pm24 pm25 pm26 pm27 pm28 pm29 pm30 pm31 pm32 cd0 cd1 cd2 cd3 cd4 cd5 cd6 cd7 cd8 cd9 cd10 cd11 cd12 cd13 cd14 cd15 cd16 cd17 cd18 cd19 cd20 cd21 cd22 cd23 cd24 cd25 cd26 cd27 cd28 cd29 cd30 cd31 cd32 ct0 ct1 ct2 ct3 ct4 ct5 ct6 ct7 ct8 ct9 ct10 ct11 ct12 ct13 ct14 ct15 ct16 ct17 ct18 ct19 ct20 ct21 ct22 ct23 ct24 ct25 ct26 ct27 ct28 ct29 ct30 ct31 ct32 : Value} {t_HEX t_SMALL t_CODE t_MARKS t_PLAIN t_MOST_WORD t_DIGITS t_MOST_CALLER t_MOST_TERMS : Tok} {dd_NAMED : Option Addr} {its_NAMED : Array Value} {n_NAMED : Nat} {slt_NAMED : Array (Option Value)} {dd_ALONE : Option Addr} {its_ALONE : Array Value} {n_ALONE : Nat} {slt_ALONE : Array (Option Value)}
    {nm_CallweirError qn_CallweirError : Str} {N_CallweirErrorx : Addr} {bs_CallweirError bm_CallweirError sub_CallweirError : List Value} {sn_CallweirError : List Str} {ab_CallweirError : Bool} {col_CallweirError : Option Bool} {dd_CallweirError : Option Addr} {m0_CallweirError m1_CallweirError m2_CallweirError m3_CallweirError m5_CallweirError : Option Value}
    {oc_CallweirError kV_CallweirError dc_CallweirError pm_CallweirError ct_CallweirError ccl_CallweirError cl_CallweirError : Value} {od_CallweirError an_CallweirError cdd_CallweirError cld_CallweirError : Option Addr} {sl_CallweirError ccs_CallweirError csl_CallweirError : Array (Option Value)} {vs_CallweirError : Array Value} {file_CallweirError : Str} {tf_CallweirError : Tok}
    {nm_InvalidCall qn_InvalidCall : Str} {N_InvalidCallx : Addr} {bs_InvalidCall bm_InvalidCall sub_InvalidCall : List Value} {sn_InvalidCall : List Str} {ab_InvalidCall : Bool} {col_InvalidCall : Option Bool} {dd_InvalidCall : Option Addr} {m0_InvalidCall m1_InvalidCall m2_InvalidCall m3_InvalidCall m5_InvalidCall : Option Value}
    {oc_InvalidCall kV_InvalidCall dc_InvalidCall pm_InvalidCall ct_InvalidCall ccl_InvalidCall cl_InvalidCall : Value} {od_InvalidCall an_InvalidCall cdd_InvalidCall cld_InvalidCall : Option Addr} {sl_InvalidCall ccs_InvalidCall csl_InvalidCall : Array (Option Value)} {vs_InvalidCall : Array Value} {file_InvalidCall : Str} {tf_InvalidCall : Tok}
    {nm_InvalidParts qn_InvalidParts : Str} {N_InvalidPartsx : Addr} {bs_InvalidParts bm_InvalidParts sub_InvalidParts : List Value} {sn_InvalidParts : List Str} {ab_InvalidParts : Bool} {col_InvalidParts : Option Bool} {dd_InvalidParts : Option Addr} {m0_InvalidParts m1_InvalidParts m2_InvalidParts m3_InvalidParts m5_InvalidParts : Option Value}
    {oc_InvalidParts kV_InvalidParts dc_InvalidParts pm_InvalidParts ct_InvalidParts ccl_InvalidParts cl_InvalidParts : Value} {od_InvalidParts an_InvalidParts cdd_InvalidParts cld_InvalidParts : Option Addr} {sl_InvalidParts ccs_InvalidParts csl_InvalidParts : Array (Option Value)} {vs_InvalidParts : Array Value} {file_InvalidParts : Str} {tf_InvalidParts : Tok}
    {nm_InvalidReply qn_InvalidReply : Str} {N_InvalidReplyx : Addr} {bs_InvalidReply bm_InvalidReply sub_InvalidReply : List Value} {sn_InvalidReply : List Str} {ab_InvalidReply : Bool} {col_InvalidReply : Option Bool} {dd_InvalidReply : Option Addr} {m0_InvalidReply m1_InvalidReply m2_InvalidReply m3_InvalidReply m5_InvalidReply : Option Value}
    {oc_InvalidReply kV_InvalidReply dc_InvalidReply pm_InvalidReply ct_InvalidReply ccl_InvalidReply cl_InvalidReply : Value} {od_InvalidReply an_InvalidReply cdd_InvalidReply cld_InvalidReply : Option Addr} {sl_InvalidReply ccs_InvalidReply csl_InvalidReply : Array (Option Value)} {vs_InvalidReply : Array Value} {file_InvalidReply : Str} {tf_InvalidReply : Tok}
    (a0 : PySem.W.nsIn K mainGlobals "hex_value" = some (some (.ref f0))) (l0 : K.lookup f0 = some ⟨oc0, od0, .func (PySem.W.fnOf "hex_value" "hex_value" (defArgs st_hex_value) (defBody st_hex_value) (defScope st_hex_value) .none kV0 dc0 pm0 an0 cd0 ct0), sl0⟩) (c0 : PySem.W.codeIn K cd0 "hex_value" = true) (k0 : PySem.W.keepIn K (.ref f0) = true)
    (a1 : PySem.W.nsIn K mainGlobals "coded" = some (some (.ref f1))) (l1 : K.lookup f1 = some ⟨oc1, od1, .func (PySem.W.fnOf "coded" "coded" (defArgs st_coded) (defBody st_coded) (defScope st_coded) .none kV1 dc1 pm1 an1 cd1 ct1), sl1⟩) (c1 : PySem.W.codeIn K cd1 "coded" = true) (k1 : PySem.W.keepIn K (.ref f1) = true)
    (a2 : PySem.W.nsIn K mainGlobals "sign_of" = some (some (.ref f2))) (l2 : K.lookup f2 = some ⟨oc2, od2, .func (PySem.W.fnOf "sign_of" "sign_of" (defArgs st_sign_of) (defBody st_sign_of) (defScope st_sign_of) .none kV2 dc2 pm2 an2 cd2 ct2), sl2⟩) (c2 : PySem.W.codeIn K cd2 "sign_of" = true) (k2 : PySem.W.keepIn K (.ref f2) = true)
    (a3 : PySem.W.nsIn K mainGlobals "places_of" = some (some (.ref f3))) (l3 : K.lookup f3 = some ⟨oc3, od3, .func (PySem.W.fnOf "places_of" "places_of" (defArgs st_places_of) (defBody st_places_of) (defScope st_places_of) .none kV3 dc3 pm3 an3 cd3 ct3), sl3⟩) (c3 : PySem.W.codeIn K cd3 "places_of" = true) (k3 : PySem.W.keepIn K (.ref f3) = true)
    (a4 : PySem.W.nsIn K mainGlobals "joined" = some (some (.ref f4))) (l4 : K.lookup f4 = some ⟨oc4, od4, .func (PySem.W.fnOf "joined" "joined" (defArgs st_joined) (defBody st_joined) (defScope st_joined) .none kV4 dc4 pm4 an4 cd4 ct4), sl4⟩) (c4 : PySem.W.codeIn K cd4 "joined" = true) (k4 : PySem.W.keepIn K (.ref f4) = true)
    (a5 : PySem.W.nsIn K mainGlobals "is_text_of" = some (some (.ref f5))) (l5 : K.lookup f5 = some ⟨oc5, od5, .func (PySem.W.fnOf "is_text_of" "is_text_of" (defArgs st_is_text_of) (defBody st_is_text_of) (defScope st_is_text_of) .none kV5 dc5 pm5 an5 cd5 ct5), sl5⟩) (c5 : PySem.W.codeIn K cd5 "is_text_of" = true) (k5 : PySem.W.keepIn K (.ref f5) = true)
    (a6 : PySem.W.nsIn K mainGlobals "is_number" = some (some (.ref f6))) (l6 : K.lookup f6 = some ⟨oc6, od6, .func (PySem.W.fnOf "is_number" "is_number" (defArgs st_is_number) (defBody st_is_number) (defScope st_is_number) .none kV6 dc6 pm6 an6 cd6 ct6), sl6⟩) (c6 : PySem.W.codeIn K cd6 "is_number" = true) (k6 : PySem.W.keepIn K (.ref f6) = true)
    (a7 : PySem.W.nsIn K mainGlobals "is_text" = some (some (.ref f7))) (l7 : K.lookup f7 = some ⟨oc7, od7, .func (PySem.W.fnOf "is_text" "is_text" (defArgs st_is_text) (defBody st_is_text) (defScope st_is_text) .none kV7 dc7 pm7 an7 cd7 ct7), sl7⟩) (c7 : PySem.W.codeIn K cd7 "is_text" = true) (k7 : PySem.W.keepIn K (.ref f7) = true)
    (a8 : PySem.W.nsIn K mainGlobals "_law_start" = some (some (.ref f8))) (l8 : K.lookup f8 = some ⟨oc8, od8, .func (PySem.W.fnOf "_law_start" "_law_start" (defArgs st__law_start) (defBody st__law_start) (defScope st__law_start) .none kV8 dc8 pm8 an8 cd8 ct8), sl8⟩) (c8 : PySem.W.codeIn K cd8 "_law_start" = true) (k8 : PySem.W.keepIn K (.ref f8) = true)
    (a9 : PySem.W.nsIn K mainGlobals "_law_pick" = some (some (.ref f9))) (l9 : K.lookup f9 = some ⟨oc9, od9, .func (PySem.W.fnOf "_law_pick" "_law_pick" (defArgs st__law_pick) (defBody st__law_pick) (defScope st__law_pick) .none kV9 dc9 pm9 an9 cd9 ct9), sl9⟩) (c9 : PySem.W.codeIn K cd9 "_law_pick" = true) (k9 : PySem.W.keepIn K (.ref f9) = true)
    (a10 : PySem.W.nsIn K mainGlobals "is_plain" = some (some (.ref f10))) (l10 : K.lookup f10 = some ⟨oc10, od10, .func (PySem.W.fnOf "is_plain" "is_plain" (defArgs st_is_plain) (defBody st_is_plain) (defScope st_is_plain) .none kV10 dc10 pm10 an10 cd10 ct10), sl10⟩) (c10 : PySem.W.codeIn K cd10 "is_plain" = true) (k10 : PySem.W.keepIn K (.ref f10) = true)
    (a11 : PySem.W.nsIn K mainGlobals "is_word" = some (some (.ref f11))) (l11 : K.lookup f11 = some ⟨oc11, od11, .func (PySem.W.fnOf "is_word" "is_word" (defArgs st_is_word) (defBody st_is_word) (defScope st_is_word) .none kV11 dc11 pm11 an11 cd11 ct11), sl11⟩) (c11 : PySem.W.codeIn K cd11 "is_word" = true) (k11 : PySem.W.keepIn K (.ref f11) = true)
    (a12 : PySem.W.nsIn K mainGlobals "is_caller" = some (some (.ref f12))) (l12 : K.lookup f12 = some ⟨oc12, od12, .func (PySem.W.fnOf "is_caller" "is_caller" (defArgs st_is_caller) (defBody st_is_caller) (defScope st_is_caller) .none kV12 dc12 pm12 an12 cd12 ct12), sl12⟩) (c12 : PySem.W.codeIn K cd12 "is_caller" = true) (k12 : PySem.W.keepIn K (.ref f12) = true)
    (a13 : PySem.W.nsIn K mainGlobals "_law_odd" = some (some (.ref f13))) (l13 : K.lookup f13 = some ⟨oc13, od13, .func (PySem.W.fnOf "_law_odd" "_law_odd" (defArgs st__law_odd) (defBody st__law_odd) (defScope st__law_odd) .none kV13 dc13 pm13 an13 cd13 ct13), sl13⟩) (c13 : PySem.W.codeIn K cd13 "_law_odd" = true) (k13 : PySem.W.keepIn K (.ref f13) = true)
    (a14 : PySem.W.nsIn K mainGlobals "is_named" = some (some (.ref f14))) (l14 : K.lookup f14 = some ⟨oc14, od14, .func (PySem.W.fnOf "is_named" "is_named" (defArgs st_is_named) (defBody st_is_named) (defScope st_is_named) .none kV14 dc14 pm14 an14 cd14 ct14), sl14⟩) (c14 : PySem.W.codeIn K cd14 "is_named" = true) (k14 : PySem.W.keepIn K (.ref f14) = true)
    (a15 : PySem.W.nsIn K mainGlobals "is_texts" = some (some (.ref f15))) (l15 : K.lookup f15 = some ⟨oc15, od15, .func (PySem.W.fnOf "is_texts" "is_texts" (defArgs st_is_texts) (defBody st_is_texts) (defScope st_is_texts) .none kV15 dc15 pm15 an15 cd15 ct15), sl15⟩) (c15 : PySem.W.codeIn K cd15 "is_texts" = true) (k15 : PySem.W.keepIn K (.ref f15) = true)
    (a16 : PySem.W.nsIn K mainGlobals "_law_parts" = some (some (.ref f16))) (l16 : K.lookup f16 = some ⟨oc16, od16, .func (PySem.W.fnOf "_law_parts" "_law_parts" (defArgs st__law_parts) (defBody st__law_parts) (defScope st__law_parts) .none kV16 dc16 pm16 an16 cd16 ct16), sl16⟩) (c16 : PySem.W.codeIn K cd16 "_law_parts" = true) (k16 : PySem.W.keepIn K (.ref f16) = true)
    (a17 : PySem.W.nsIn K mainGlobals "_law_rule" = some (some (.ref f17))) (l17 : K.lookup f17 = some ⟨oc17, od17, .func (PySem.W.fnOf "_law_rule" "_law_rule" (defArgs st__law_rule) (defBody st__law_rule) (defScope st__law_rule) .none kV17 dc17 pm17 an17 cd17 ct17), sl17⟩) (c17 : PySem.W.codeIn K cd17 "_law_rule" = true) (k17 : PySem.W.keepIn K (.ref f17) = true)
    (a18 : PySem.W.nsIn K mainGlobals "pieces" = some (some (.ref f18))) (l18 : K.lookup f18 = some ⟨oc18, od18, .func (PySem.W.fnOf "pieces" "pieces" (defArgs st_pieces) (defBody st_pieces) (defScope st_pieces) .none kV18 dc18 pm18 an18 cd18 ct18), sl18⟩) (c18 : PySem.W.codeIn K cd18 "pieces" = true) (k18 : PySem.W.keepIn K (.ref f18) = true)
    (a19 : PySem.W.nsIn K mainGlobals "is_part" = some (some (.ref f19))) (l19 : K.lookup f19 = some ⟨oc19, od19, .func (PySem.W.fnOf "is_part" "is_part" (defArgs st_is_part) (defBody st_is_part) (defScope st_is_part) .none kV19 dc19 pm19 an19 cd19 ct19), sl19⟩) (c19 : PySem.W.codeIn K cd19 "is_part" = true) (k19 : PySem.W.keepIn K (.ref f19) = true)
    (a20 : PySem.W.nsIn K mainGlobals "is_term" = some (some (.ref f20))) (l20 : K.lookup f20 = some ⟨oc20, od20, .func (PySem.W.fnOf "is_term" "is_term" (defArgs st_is_term) (defBody st_is_term) (defScope st_is_term) .none kV20 dc20 pm20 an20 cd20 ct20), sl20⟩) (c20 : PySem.W.codeIn K cd20 "is_term" = true) (k20 : PySem.W.keepIn K (.ref f20) = true)
    (a21 : PySem.W.nsIn K mainGlobals "tidy" = some (some (.ref f21))) (l21 : K.lookup f21 = some ⟨oc21, od21, .func (PySem.W.fnOf "tidy" "tidy" (defArgs st_tidy) (defBody st_tidy) (defScope st_tidy) .none kV21 dc21 pm21 an21 cd21 ct21), sl21⟩) (c21 : PySem.W.codeIn K cd21 "tidy" = true) (k21 : PySem.W.keepIn K (.ref f21) = true)
    (a22 : PySem.W.nsIn K mainGlobals "check_parts" = some (some (.ref f22))) (l22 : K.lookup f22 = some ⟨oc22, od22, .func (PySem.W.fnOf "check_parts" "check_parts" (defArgs st_check_parts) (defBody st_check_parts) (defScope st_check_parts) .none kV22 dc22 pm22 an22 cd22 ct22), sl22⟩) (c22 : PySem.W.codeIn K cd22 "check_parts" = true) (k22 : PySem.W.keepIn K (.ref f22) = true)
    (a23 : PySem.W.nsIn K mainGlobals "check_reply" = some (some (.ref f23))) (l23 : K.lookup f23 = some ⟨oc23, od23, .func (PySem.W.fnOf "check_reply" "check_reply" (defArgs st_check_reply) (defBody st_check_reply) (defScope st_check_reply) .none kV23 dc23 pm23 an23 cd23 ct23), sl23⟩) (c23 : PySem.W.codeIn K cd23 "check_reply" = true) (k23 : PySem.W.keepIn K (.ref f23) = true)
    (a24 : PySem.W.nsIn K mainGlobals "segments" = some (some (.ref f24))) (l24 : K.lookup f24 = some ⟨oc24, od24, .func (PySem.W.fnOf "segments" "segments" (defArgs st_segments) (defBody st_segments) (defScope st_segments) .none kV24 dc24 pm24 an24 cd24 ct24), sl24⟩) (c24 : PySem.W.codeIn K cd24 "segments" = true) (k24 : PySem.W.keepIn K (.ref f24) = true)
    (a25 : PySem.W.nsIn K mainGlobals "_law_told" = some (some (.ref f25))) (l25 : K.lookup f25 = some ⟨oc25, od25, .func (PySem.W.fnOf "_law_told" "_law_told" (defArgs st__law_told) (defBody st__law_told) (defScope st__law_told) .none kV25 dc25 pm25 an25 cd25 ct25), sl25⟩) (c25 : PySem.W.codeIn K cd25 "_law_told" = true) (k25 : PySem.W.keepIn K (.ref f25) = true)
    (a26 : PySem.W.nsIn K mainGlobals "canonical" = some (some (.ref f26))) (l26 : K.lookup f26 = some ⟨oc26, od26, .func (PySem.W.fnOf "canonical" "canonical" (defArgs st_canonical) (defBody st_canonical) (defScope st_canonical) .none kV26 dc26 pm26 an26 cd26 ct26), sl26⟩) (c26 : PySem.W.codeIn K cd26 "canonical" = true) (k26 : PySem.W.keepIn K (.ref f26) = true)
    (a27 : PySem.W.nsIn K mainGlobals "is_canonical" = some (some (.ref f27))) (l27 : K.lookup f27 = some ⟨oc27, od27, .func (PySem.W.fnOf "is_canonical" "is_canonical" (defArgs st_is_canonical) (defBody st_is_canonical) (defScope st_is_canonical) .none kV27 dc27 pm27 an27 cd27 ct27), sl27⟩) (c27 : PySem.W.codeIn K cd27 "is_canonical" = true) (k27 : PySem.W.keepIn K (.ref f27) = true)
    (a28 : PySem.W.nsIn K mainGlobals "is_ask" = some (some (.ref f28))) (l28 : K.lookup f28 = some ⟨oc28, od28, .func (PySem.W.fnOf "is_ask" "is_ask" (defArgs st_is_ask) (defBody st_is_ask) (defScope st_is_ask) .none kV28 dc28 pm28 an28 cd28 ct28), sl28⟩) (c28 : PySem.W.codeIn K cd28 "is_ask" = true) (k28 : PySem.W.keepIn K (.ref f28) = true)
    (a29 : PySem.W.nsIn K mainGlobals "is_counts" = some (some (.ref f29))) (l29 : K.lookup f29 = some ⟨oc29, od29, .func (PySem.W.fnOf "is_counts" "is_counts" (defArgs st_is_counts) (defBody st_is_counts) (defScope st_is_counts) .none kV29 dc29 pm29 an29 cd29 ct29), sl29⟩) (c29 : PySem.W.codeIn K cd29 "is_counts" = true) (k29 : PySem.W.keepIn K (.ref f29) = true)
    (a30 : PySem.W.nsIn K mainGlobals "is_state" = some (some (.ref f30))) (l30 : K.lookup f30 = some ⟨oc30, od30, .func (PySem.W.fnOf "is_state" "is_state" (defArgs st_is_state) (defBody st_is_state) (defScope st_is_state) .none kV30 dc30 pm30 an30 cd30 ct30), sl30⟩) (c30 : PySem.W.codeIn K cd30 "is_state" = true) (k30 : PySem.W.keepIn K (.ref f30) = true)
    (a31 : PySem.W.nsIn K mainGlobals "_law_values" = some (some (.ref f31))) (l31 : K.lookup f31 = some ⟨oc31, od31, .func (PySem.W.fnOf "_law_values" "_law_values" (defArgs st__law_values) (defBody st__law_values) (defScope st__law_values) .none kV31 dc31 pm31 an31 cd31 ct31), sl31⟩) (c31 : PySem.W.codeIn K cd31 "_law_values" = true) (k31 : PySem.W.keepIn K (.ref f31) = true)
    (a32 : PySem.W.nsIn K mainGlobals "law" = some (some (.ref f32))) (l32 : K.lookup f32 = some ⟨oc32, od32, .func (PySem.W.fnOf "law" "law" (defArgs st_law) (defBody st_law) (defScope st_law) .none kV32 dc32 pm32 an32 cd32 ct32), sl32⟩) (c32 : PySem.W.codeIn K cd32 "law" = true) (k32 : PySem.W.keepIn K (.ref f32) = true)
    (z_len : PySem.W.nsIn K mainGlobals "len" = some none)
    (z_ord : PySem.W.nsIn K mainGlobals "ord" = some none)
    (z_int : PySem.W.nsIn K mainGlobals "int" = some none)
    (z_bytes : PySem.W.nsIn K mainGlobals "bytes" = some none)
    (z_range : PySem.W.nsIn K mainGlobals "range" = some none)
    (z_all : PySem.W.nsIn K mainGlobals "all" = some none)
    (z_isinstance : PySem.W.nsIn K mainGlobals "isinstance" = some none)
    (z_str : PySem.W.nsIn K mainGlobals "str" = some none)
    (z_bool : PySem.W.nsIn K mainGlobals "bool" = some none)
    (z_tuple : PySem.W.nsIn K mainGlobals "tuple" = some none)
    (z_abs : PySem.W.nsIn K mainGlobals "abs" = some none)
    (z_min : PySem.W.nsIn K mainGlobals "min" = some none)
    (z_list : PySem.W.nsIn K mainGlobals "list" = some none)
    (q_HEX : PySem.W.nsIn K mainGlobals "HEX" = some (some (.str (Str.ofString "0123456789ABCDEF") t_HEX)))
    (q_SMALL : PySem.W.nsIn K mainGlobals "SMALL" = some (some (.str (Str.ofString "abcdefghijklmnopqrstuvwxyz") t_SMALL)))
    (q_CODE : PySem.W.nsIn K mainGlobals "CODE" = some (some (.str (Str.ofString "^") t_CODE)))
    (q_MARKS : PySem.W.nsIn K mainGlobals "MARKS" = some (some (.str (Str.ofString "!$&'()*+,/:;=?@") t_MARKS)))
    (q_PLAIN : PySem.W.nsIn K mainGlobals "PLAIN" = some (some (.str (Str.ofString "abcdefghijklmnopqrstuvwxyzABCDEFGHIJKLMNOPQRSTUVWXYZ0123456789-._~") t_PLAIN)))
    (q_MOST_WORD : PySem.W.nsIn K mainGlobals "MOST_WORD" = some (some (.int 12 t_MOST_WORD)))
    (q_DIGITS : PySem.W.nsIn K mainGlobals "DIGITS" = some (some (.str (Str.ofString "0123456789") t_DIGITS)))
    (q_MOST_CALLER : PySem.W.nsIn K mainGlobals "MOST_CALLER" = some (some (.int 20 t_MOST_CALLER)))
    (q_NAMED : PySem.W.nsIn K mainGlobals "NAMED" = some (some (.ref u_NAMED)))
    (w_NAMED : K.lookup u_NAMED = some ⟨.type "tuple", dd_NAMED, .seq its_NAMED n_NAMED, slt_NAMED⟩)
    (v_NAMED : ValsIs its_NAMED.toList [.str [102, 105, 101, 108, 100], .str [113, 117, 101, 114, 121]] ∧ its_NAMED.size ≤ 100000)
    (q_ALONE : PySem.W.nsIn K mainGlobals "ALONE" = some (some (.ref u_ALONE)))
    (w_ALONE : K.lookup u_ALONE = some ⟨.type "tuple", dd_ALONE, .seq its_ALONE n_ALONE, slt_ALONE⟩)
    (v_ALONE : ValsIs its_ALONE.toList [.str [99, 97, 108, 108, 101, 114], .str [99, 111, 110, 116, 101, 110, 116], .str [99, 111, 117, 110, 116], .str [116, 97, 103]] ∧ its_ALONE.size ≤ 100000)
    (q_MOST_TERMS : PySem.W.nsIn K mainGlobals "MOST_TERMS" = some (some (.int 6 t_MOST_TERMS)))
    (aC_CallweirError : PySem.W.nsIn K mainGlobals "CallweirError" = some (some (.ref A_CallweirError)))
    (x_CallweirError : K.lookup A_CallweirError = some (excClassObj nm_CallweirError qn_CallweirError A_CallweirError N_CallweirErrorx bs_CallweirError bm_CallweirError true sn_CallweirError sub_CallweirError ab_CallweirError col_CallweirError dd_CallweirError m0_CallweirError m1_CallweirError m2_CallweirError m3_CallweirError m5_CallweirError "ValueError.__new__"))
    (rv_CallweirError : PySem.HandSPX.refsVE bm_CallweirError = true)
    (sa_CallweirError : PySem.W.findIn K (.ref A_CallweirError) "__setattr__" = some (some (.builtin "object.__setattr__")))
    (eb_CallweirError : PySem.W.subIn K (.ref A_CallweirError) (.type "BaseException") = some true)
    (ty_CallweirError : PySem.W.typeIn K (.ref A_CallweirError) = some (.type "type"))
    (kc_CallweirError : PySem.W.keepIn K (.ref A_CallweirError) = true)
    (np_CallweirError : PySem.W.findIn K (.ref A_CallweirError) "place" = some none)
    (nn_CallweirError : PySem.W.findIn K (.ref A_CallweirError) "name" = some none)
    (ga_CallweirError : PySem.W.findIn K (.ref A_CallweirError) "__getattribute__" = some (some (.builtin "BaseException.__getattribute__")))
    (gg_CallweirError : PySem.W.findIn K (.ref A_CallweirError) "__getattr__" = some none)
    (hd_CallweirError : PySem.W.hasDictIn K A_CallweirError = true)
    (ini_CallweirError : PySem.W.findIn K (.ref A_CallweirError) "__init__" = some (some (.ref fi_CallweirError)))
    (tyf_CallweirError : PySem.W.typeIn K (.ref fi_CallweirError) = some (.type "function"))
    (fnI_CallweirError : PySem.W.fnIn K fi_CallweirError = true)
    (li_CallweirError : K.lookup fi_CallweirError = some ⟨oc_CallweirError, od_CallweirError, .func (PySem.W.ksFn "__init__" "CallweirError.__init__" (defArgs se_CallweirError) (defBody se_CallweirError) (defScope se_CallweirError) .none kV_CallweirError dc_CallweirError pm_CallweirError an_CallweirError (.ref ca_CallweirError) ct_CallweirError cc_CallweirError), sl_CallweirError⟩)
    (ci_CallweirError : PySem.W.codeIn K (.ref ca_CallweirError) "CallweirError.__init__" = true)
    (co_CallweirError : K.lookup ca_CallweirError = some ⟨ccl_CallweirError, cdd_CallweirError, .fields vs_CallweirError, ccs_CallweirError⟩)
    (v2_CallweirError : vs_CallweirError[2]? = some (.str file_CallweirError tf_CallweirError))
    (fl_CallweirError : ((l.prog.main.file : Str) == file_CallweirError) = true)
    (ce_CallweirError : K.lookup cc_CallweirError = some ⟨cl_CallweirError, cld_CallweirError, .cell (some (.ref A_CallweirError)), csl_CallweirError⟩)
    (mr_CallweirError_CallweirError : PySem.W.mroIn K A_CallweirError (.ref A_CallweirError) = some true)
    (su_CallweirError_CallweirError : PySem.W.ks_superIn K A_CallweirError A_CallweirError "__init__" = some (some (.builtin "ValueError.__init__")))
    (ve_CallweirError_CallweirError : PySem.W.subIn K (.ref A_CallweirError) (.type "ValueError") = some true)
    (mr_InvalidCall_CallweirError : PySem.W.mroIn K A_InvalidCall (.ref A_CallweirError) = some true)
    (su_InvalidCall_CallweirError : PySem.W.ks_superIn K A_InvalidCall A_CallweirError "__init__" = some (some (.builtin "ValueError.__init__")))
    (ve_InvalidCall_CallweirError : PySem.W.subIn K (.ref A_InvalidCall) (.type "ValueError") = some true)
    (mr_InvalidParts_CallweirError : PySem.W.mroIn K A_InvalidParts (.ref A_CallweirError) = some true)
    (su_InvalidParts_CallweirError : PySem.W.ks_superIn K A_InvalidParts A_CallweirError "__init__" = some (some (.builtin "ValueError.__init__")))
    (ve_InvalidParts_CallweirError : PySem.W.subIn K (.ref A_InvalidParts) (.type "ValueError") = some true)
    (mr_InvalidReply_CallweirError : PySem.W.mroIn K A_InvalidReply (.ref A_CallweirError) = some true)
    (su_InvalidReply_CallweirError : PySem.W.ks_superIn K A_InvalidReply A_CallweirError "__init__" = some (some (.builtin "ValueError.__init__")))
    (ve_InvalidReply_CallweirError : PySem.W.subIn K (.ref A_InvalidReply) (.type "ValueError") = some true)
    (aC_InvalidCall : PySem.W.nsIn K mainGlobals "InvalidCall" = some (some (.ref A_InvalidCall)))
    (x_InvalidCall : K.lookup A_InvalidCall = some (excClassObj nm_InvalidCall qn_InvalidCall A_InvalidCall N_InvalidCallx bs_InvalidCall bm_InvalidCall true sn_InvalidCall sub_InvalidCall ab_InvalidCall col_InvalidCall dd_InvalidCall m0_InvalidCall m1_InvalidCall m2_InvalidCall m3_InvalidCall m5_InvalidCall "ValueError.__new__"))
    (rv_InvalidCall : PySem.HandSPX.refsVE bm_InvalidCall = true)
    (sa_InvalidCall : PySem.W.findIn K (.ref A_InvalidCall) "__setattr__" = some (some (.builtin "object.__setattr__")))
    (eb_InvalidCall : PySem.W.subIn K (.ref A_InvalidCall) (.type "BaseException") = some true)
    (ty_InvalidCall : PySem.W.typeIn K (.ref A_InvalidCall) = some (.type "type"))
    (kc_InvalidCall : PySem.W.keepIn K (.ref A_InvalidCall) = true)
    (np_InvalidCall : PySem.W.findIn K (.ref A_InvalidCall) "place" = some none)
    (nn_InvalidCall : PySem.W.findIn K (.ref A_InvalidCall) "name" = some none)
    (ga_InvalidCall : PySem.W.findIn K (.ref A_InvalidCall) "__getattribute__" = some (some (.builtin "BaseException.__getattribute__")))
    (gg_InvalidCall : PySem.W.findIn K (.ref A_InvalidCall) "__getattr__" = some none)
    (hd_InvalidCall : PySem.W.hasDictIn K A_InvalidCall = true)
    (ini_InvalidCall : PySem.W.findIn K (.ref A_InvalidCall) "__init__" = some (some (.ref fi_InvalidCall)))
    (tyf_InvalidCall : PySem.W.typeIn K (.ref fi_InvalidCall) = some (.type "function"))
    (fnI_InvalidCall : PySem.W.fnIn K fi_InvalidCall = true)
    (li_InvalidCall : K.lookup fi_InvalidCall = some ⟨oc_InvalidCall, od_InvalidCall, .func (PySem.W.ksFn "__init__" "InvalidCall.__init__" (defArgs se_InvalidCall) (defBody se_InvalidCall) (defScope se_InvalidCall) .none kV_InvalidCall dc_InvalidCall pm_InvalidCall an_InvalidCall (.ref ca_InvalidCall) ct_InvalidCall cc_InvalidCall), sl_InvalidCall⟩)
    (ci_InvalidCall : PySem.W.codeIn K (.ref ca_InvalidCall) "InvalidCall.__init__" = true)
    (co_InvalidCall : K.lookup ca_InvalidCall = some ⟨ccl_InvalidCall, cdd_InvalidCall, .fields vs_InvalidCall, ccs_InvalidCall⟩)
    (v2_InvalidCall : vs_InvalidCall[2]? = some (.str file_InvalidCall tf_InvalidCall))
    (fl_InvalidCall : ((l.prog.main.file : Str) == file_InvalidCall) = true)
    (ce_InvalidCall : K.lookup cc_InvalidCall = some ⟨cl_InvalidCall, cld_InvalidCall, .cell (some (.ref A_InvalidCall)), csl_InvalidCall⟩)
    (mr_InvalidCall_InvalidCall : PySem.W.mroIn K A_InvalidCall (.ref A_InvalidCall) = some true)
    (su_InvalidCall_InvalidCall : PySem.W.ks_superIn K A_InvalidCall A_InvalidCall "__init__" = some (some (.ref fi_CallweirError)))
    (aC_InvalidParts : PySem.W.nsIn K mainGlobals "InvalidParts" = some (some (.ref A_InvalidParts)))
    (x_InvalidParts : K.lookup A_InvalidParts = some (excClassObj nm_InvalidParts qn_InvalidParts A_InvalidParts N_InvalidPartsx bs_InvalidParts bm_InvalidParts true sn_InvalidParts sub_InvalidParts ab_InvalidParts col_InvalidParts dd_InvalidParts m0_InvalidParts m1_InvalidParts m2_InvalidParts m3_InvalidParts m5_InvalidParts "ValueError.__new__"))
    (rv_InvalidParts : PySem.HandSPX.refsVE bm_InvalidParts = true)
    (sa_InvalidParts : PySem.W.findIn K (.ref A_InvalidParts) "__setattr__" = some (some (.builtin "object.__setattr__")))
    (eb_InvalidParts : PySem.W.subIn K (.ref A_InvalidParts) (.type "BaseException") = some true)
    (ty_InvalidParts : PySem.W.typeIn K (.ref A_InvalidParts) = some (.type "type"))
    (kc_InvalidParts : PySem.W.keepIn K (.ref A_InvalidParts) = true)
    (np_InvalidParts : PySem.W.findIn K (.ref A_InvalidParts) "place" = some none)
    (nn_InvalidParts : PySem.W.findIn K (.ref A_InvalidParts) "name" = some none)
    (ga_InvalidParts : PySem.W.findIn K (.ref A_InvalidParts) "__getattribute__" = some (some (.builtin "BaseException.__getattribute__")))
    (gg_InvalidParts : PySem.W.findIn K (.ref A_InvalidParts) "__getattr__" = some none)
    (hd_InvalidParts : PySem.W.hasDictIn K A_InvalidParts = true)
    (ini_InvalidParts : PySem.W.findIn K (.ref A_InvalidParts) "__init__" = some (some (.ref fi_InvalidParts)))
    (tyf_InvalidParts : PySem.W.typeIn K (.ref fi_InvalidParts) = some (.type "function"))
    (fnI_InvalidParts : PySem.W.fnIn K fi_InvalidParts = true)
    (li_InvalidParts : K.lookup fi_InvalidParts = some ⟨oc_InvalidParts, od_InvalidParts, .func (PySem.W.ksFn "__init__" "InvalidParts.__init__" (defArgs se_InvalidParts) (defBody se_InvalidParts) (defScope se_InvalidParts) .none kV_InvalidParts dc_InvalidParts pm_InvalidParts an_InvalidParts (.ref ca_InvalidParts) ct_InvalidParts cc_InvalidParts), sl_InvalidParts⟩)
    (ci_InvalidParts : PySem.W.codeIn K (.ref ca_InvalidParts) "InvalidParts.__init__" = true)
    (co_InvalidParts : K.lookup ca_InvalidParts = some ⟨ccl_InvalidParts, cdd_InvalidParts, .fields vs_InvalidParts, ccs_InvalidParts⟩)
    (v2_InvalidParts : vs_InvalidParts[2]? = some (.str file_InvalidParts tf_InvalidParts))
    (fl_InvalidParts : ((l.prog.main.file : Str) == file_InvalidParts) = true)
    (ce_InvalidParts : K.lookup cc_InvalidParts = some ⟨cl_InvalidParts, cld_InvalidParts, .cell (some (.ref A_InvalidParts)), csl_InvalidParts⟩)
    (mr_InvalidParts_InvalidParts : PySem.W.mroIn K A_InvalidParts (.ref A_InvalidParts) = some true)
    (su_InvalidParts_InvalidParts : PySem.W.ks_superIn K A_InvalidParts A_InvalidParts "__init__" = some (some (.ref fi_CallweirError)))
    (aC_InvalidReply : PySem.W.nsIn K mainGlobals "InvalidReply" = some (some (.ref A_InvalidReply)))
    (x_InvalidReply : K.lookup A_InvalidReply = some (excClassObj nm_InvalidReply qn_InvalidReply A_InvalidReply N_InvalidReplyx bs_InvalidReply bm_InvalidReply true sn_InvalidReply sub_InvalidReply ab_InvalidReply col_InvalidReply dd_InvalidReply m0_InvalidReply m1_InvalidReply m2_InvalidReply m3_InvalidReply m5_InvalidReply "ValueError.__new__"))
    (rv_InvalidReply : PySem.HandSPX.refsVE bm_InvalidReply = true)
    (sa_InvalidReply : PySem.W.findIn K (.ref A_InvalidReply) "__setattr__" = some (some (.builtin "object.__setattr__")))
    (eb_InvalidReply : PySem.W.subIn K (.ref A_InvalidReply) (.type "BaseException") = some true)
    (ty_InvalidReply : PySem.W.typeIn K (.ref A_InvalidReply) = some (.type "type"))
    (kc_InvalidReply : PySem.W.keepIn K (.ref A_InvalidReply) = true)
    (np_InvalidReply : PySem.W.findIn K (.ref A_InvalidReply) "place" = some none)
    (nn_InvalidReply : PySem.W.findIn K (.ref A_InvalidReply) "name" = some none)
    (ga_InvalidReply : PySem.W.findIn K (.ref A_InvalidReply) "__getattribute__" = some (some (.builtin "BaseException.__getattribute__")))
    (gg_InvalidReply : PySem.W.findIn K (.ref A_InvalidReply) "__getattr__" = some none)
    (hd_InvalidReply : PySem.W.hasDictIn K A_InvalidReply = true)
    (ini_InvalidReply : PySem.W.findIn K (.ref A_InvalidReply) "__init__" = some (some (.ref fi_InvalidReply)))
    (tyf_InvalidReply : PySem.W.typeIn K (.ref fi_InvalidReply) = some (.type "function"))
    (fnI_InvalidReply : PySem.W.fnIn K fi_InvalidReply = true)
    (li_InvalidReply : K.lookup fi_InvalidReply = some ⟨oc_InvalidReply, od_InvalidReply, .func (PySem.W.ksFn "__init__" "InvalidReply.__init__" (defArgs se_InvalidReply) (defBody se_InvalidReply) (defScope se_InvalidReply) .none kV_InvalidReply dc_InvalidReply pm_InvalidReply an_InvalidReply (.ref ca_InvalidReply) ct_InvalidReply cc_InvalidReply), sl_InvalidReply⟩)
    (ci_InvalidReply : PySem.W.codeIn K (.ref ca_InvalidReply) "InvalidReply.__init__" = true)
    (co_InvalidReply : K.lookup ca_InvalidReply = some ⟨ccl_InvalidReply, cdd_InvalidReply, .fields vs_InvalidReply, ccs_InvalidReply⟩)
    (v2_InvalidReply : vs_InvalidReply[2]? = some (.str file_InvalidReply tf_InvalidReply))
    (fl_InvalidReply : ((l.prog.main.file : Str) == file_InvalidReply) = true)
    (ce_InvalidReply : K.lookup cc_InvalidReply = some ⟨cl_InvalidReply, cld_InvalidReply, .cell (some (.ref A_InvalidReply)), csl_InvalidReply⟩)
    (mr_InvalidReply_InvalidReply : PySem.W.mroIn K A_InvalidReply (.ref A_InvalidReply) = some true)
    (su_InvalidReply_InvalidReply : PySem.W.ks_superIn K A_InvalidReply A_InvalidReply "__init__" = some (some (.ref fi_CallweirError)))
    (exm_InvalidCall_InvalidCall : PySem.W.exmOne K (.ref A_InvalidCall) (.ref A_InvalidCall) = some true)
    (exm_InvalidParts_InvalidCall : PySem.W.exmOne K (.ref A_InvalidParts) (.ref A_InvalidCall) = some false)
    (exm_InvalidReply_InvalidCall : PySem.W.exmOne K (.ref A_InvalidReply) (.ref A_InvalidCall) = some false)
    (exm_InvalidCall_InvalidParts : PySem.W.exmOne K (.ref A_InvalidCall) (.ref A_InvalidParts) = some false)
    (exm_InvalidParts_InvalidParts : PySem.W.exmOne K (.ref A_InvalidParts) (.ref A_InvalidParts) = some true)
    (exm_InvalidReply_InvalidParts : PySem.W.exmOne K (.ref A_InvalidReply) (.ref A_InvalidParts) = some false)
    (exm_InvalidCall_InvalidReply : PySem.W.exmOne K (.ref A_InvalidCall) (.ref A_InvalidReply) = some false)
    (exm_InvalidParts_InvalidReply : PySem.W.exmOne K (.ref A_InvalidParts) (.ref A_InvalidReply) = some false)
    (exm_InvalidReply_InvalidReply : PySem.W.exmOne K (.ref A_InvalidReply) (.ref A_InvalidReply) = some true)
    (z_super : PySem.W.nsIn K mainGlobals "super" = some none) (noany : PySem.W.nsIn K cStatics "thirdparty.any" = some none) (nosup : (l.prog.main.scope.names.lookup ("super" : Str)).isSome = false)
    : ∃ (fd : FuncData) (cl : Str → Option Addr), (∀ (s : Shared) (u : Value), BindsTo s fd ⟨[u], []⟩ [("script", u)]) ∧ ∀ base : Heap, K.In base → base.Ns mainGlobals mg → FnOk l.prog w K mg base (L2.CX l.prog w) 12 fa fd ["script"] (spD K cl 1 C_law) := by
  have e := hfa.symm.trans (PySem.W.mg_of X G a32)
  cases e
  refine ⟨PySem.W.fnOf "law" "law" (defArgs st_law) (defBody st_law) (defScope st_law) .none kV32 dc32 pm32 an32 cd32 ct32, fun x : Str => if x = "CallweirError" then some A_CallweirError else if x = "InvalidCall" then some A_InvalidCall else if x = "InvalidParts" then some A_InvalidParts else if x = "InvalidReply" then some A_InvalidReply else none, fun s v => .of_eq rfl, fun base _ _ => ?_⟩
  let B : Base := ⟨l.prog, w, K, mg, base, fun x : Str => if x = "CallweirError" then some A_CallweirError else if x = "InvalidCall" then some A_InvalidCall else if x = "InvalidParts" then some A_InvalidParts else if x = "InvalidReply" then some A_InvalidReply else none⟩
  have cl_CallweirErrorx : B.cl "CallweirError" = some A_CallweirError := by
    show (if ("CallweirError" : Str) = "CallweirError" then some A_CallweirError else if ("CallweirError" : Str) = "InvalidCall" then some A_InvalidCall else if ("CallweirError" : Str) = "InvalidParts" then some A_InvalidParts else if ("CallweirError" : Str) = "InvalidReply" then some A_InvalidReply else none) = _
    rw [if_pos rfl]
  have cl_InvalidCallx : B.cl "InvalidCall" = some A_InvalidCall := by
    show (if ("InvalidCall" : Str) = "CallweirError" then some A_CallweirError else if ("InvalidCall" : Str) = "InvalidCall" then some A_InvalidCall else if ("InvalidCall" : Str) = "InvalidParts" then some A_InvalidParts else if ("InvalidCall" : Str) = "InvalidReply" then some A_InvalidReply else none) = _
    rw [if_neg (by decide +kernel), if_pos rfl]
  have cl_InvalidPartsx : B.cl "InvalidParts" = some A_InvalidParts := by
    show (if ("InvalidParts" : Str) = "CallweirError" then some A_CallweirError else if ("InvalidParts" : Str) = "InvalidCall" then some A_InvalidCall else if ("InvalidParts" : Str) = "InvalidParts" then some A_InvalidParts else if ("InvalidParts" : Str) = "InvalidReply" then some A_InvalidReply else none) = _
    rw [if_neg (by decide +kernel), if_neg (by decide +kernel), if_pos rfl]
  have cl_InvalidReplyx : B.cl "InvalidReply" = some A_InvalidReply := by
    show (if ("InvalidReply" : Str) = "CallweirError" then some A_CallweirError else if ("InvalidReply" : Str) = "InvalidCall" then some A_InvalidCall else if ("InvalidReply" : Str) = "InvalidParts" then some A_InvalidParts else if ("InvalidReply" : Str) = "InvalidReply" then some A_InvalidReply else none) = _
    rw [if_neg (by decide +kernel), if_neg (by decide +kernel), if_neg (by decide +kernel), if_pos rfl]
  have K_CallweirError : ErK B.K A_CallweirError := ⟨⟨⟨_, _, _, _, _, _, _, _, _, _, _, _, _, _, _, x_CallweirError, rv_CallweirError⟩, sa_CallweirError, eb_CallweirError, ty_CallweirError, kc_CallweirError⟩, np_CallweirError, nn_CallweirError⟩
  have K_InvalidCall : ErK B.K A_InvalidCall := ⟨⟨⟨_, _, _, _, _, _, _, _, _, _, _, _, _, _, _, x_InvalidCall, rv_InvalidCall⟩, sa_InvalidCall, eb_InvalidCall, ty_InvalidCall, kc_InvalidCall⟩, np_InvalidCall, nn_InvalidCall⟩
  have K_InvalidParts : ErK B.K A_InvalidParts := ⟨⟨⟨_, _, _, _, _, _, _, _, _, _, _, _, _, _, _, x_InvalidParts, rv_InvalidParts⟩, sa_InvalidParts, eb_InvalidParts, ty_InvalidParts, kc_InvalidParts⟩, np_InvalidParts, nn_InvalidParts⟩
  have K_InvalidReply : ErK B.K A_InvalidReply := ⟨⟨⟨_, _, _, _, _, _, _, _, _, _, _, _, _, _, _, x_InvalidReply, rv_InvalidReply⟩, sa_InvalidReply, eb_InvalidReply, ty_InvalidReply, kc_InvalidReply⟩, np_InvalidReply, nn_InvalidReply⟩
  have S_CallweirError : SupFn B "CallweirError.__init__" se_CallweirError fi_CallweirError ca_CallweirError cc_CallweirError A_CallweirError _ := ⟨⟨_, _, _, _, _, _, _, _, rfl, li_CallweirError⟩, ci_CallweirError, ⟨_, _, _, _, _, _, co_CallweirError, v2_CallweirError, fl_CallweirError⟩, ⟨_, _, _, ce_CallweirError⟩, cls_of x_CallweirError, nosup, noany, PySem.W.mg_none_of X G z_super, ⟨rfl, rfl, rfl, by decide +kernel, sup_free (by decide +kernel), rfl, rfl, rfl, rfl⟩, ⟨_, rfl, rfl⟩⟩
  have I_CallweirError : FnOk B.P B.w B.K B.mg B.base (L2.CX B.P B.w) 1 fi_CallweirError _ ["self", "place"] (spI 2 (fun C => C = A_CallweirError ∨ C = A_InvalidCall ∨ C = A_InvalidParts ∨ C = A_InvalidReply) "CallweirError") := base_ok (fun _ => ⟨_, rfl⟩) S_CallweirError rfl (by
    rintro C (rfl | rfl | rfl | rfl)
    · exact ⟨K_CallweirError, mr_CallweirError_CallweirError, su_CallweirError_CallweirError, ve_CallweirError_CallweirError⟩
    · exact ⟨K_InvalidCall, mr_InvalidCall_CallweirError, su_InvalidCall_CallweirError, ve_InvalidCall_CallweirError⟩
    · exact ⟨K_InvalidParts, mr_InvalidParts_CallweirError, su_InvalidParts_CallweirError, ve_InvalidParts_CallweirError⟩
    · exact ⟨K_InvalidReply, mr_InvalidReply_CallweirError, su_InvalidReply_CallweirError, ve_InvalidReply_CallweirError⟩
    )
  have S_InvalidCall : SupFn B "InvalidCall.__init__" se_InvalidCall fi_InvalidCall ca_InvalidCall cc_InvalidCall A_InvalidCall _ := ⟨⟨_, _, _, _, _, _, _, _, rfl, li_InvalidCall⟩, ci_InvalidCall, ⟨_, _, _, _, _, _, co_InvalidCall, v2_InvalidCall, fl_InvalidCall⟩, ⟨_, _, _, ce_InvalidCall⟩, cls_of x_InvalidCall, nosup, noany, PySem.W.mg_none_of X G z_super, ⟨rfl, rfl, rfl, by decide +kernel, sup_free (by decide +kernel), rfl, rfl, rfl, rfl⟩, ⟨_, rfl, rfl⟩⟩
  have I_InvalidCall : FnOk B.P B.w B.K B.mg B.base (L2.CX B.P B.w) 2 fi_InvalidCall _ ["self", "place"] (spI 3 (fun C => C = A_InvalidCall) "InvalidCall") := own_ok (by decide) (fun _ => ⟨_, rfl⟩) S_InvalidCall rfl I_CallweirError (Binds.all fun us hl => match us, hl with | [_, _], _ => rfl) fnI_CallweirError tyf_CallweirError (by
    rintro C rfl
    exact ⟨by simp, K_InvalidCall, mr_InvalidCall_InvalidCall, su_InvalidCall_InvalidCall⟩)
  have S_InvalidParts : SupFn B "InvalidParts.__init__" se_InvalidParts fi_InvalidParts ca_InvalidParts cc_InvalidParts A_InvalidParts _ := ⟨⟨_, _, _, _, _, _, _, _, rfl, li_InvalidParts⟩, ci_InvalidParts, ⟨_, _, _, _, _, _, co_InvalidParts, v2_InvalidParts, fl_InvalidParts⟩, ⟨_, _, _, ce_InvalidParts⟩, cls_of x_InvalidParts, nosup, noany, PySem.W.mg_none_of X G z_super, ⟨rfl, rfl, rfl, by decide +kernel, sup_free (by decide +kernel), rfl, rfl, rfl, rfl⟩, ⟨_, rfl, rfl⟩⟩
  have I_InvalidParts : FnOk B.P B.w B.K B.mg B.base (L2.CX B.P B.w) 2 fi_InvalidParts _ ["self", "place"] (spI 3 (fun C => C = A_InvalidParts) "InvalidParts") := own_ok (by decide) (fun _ => ⟨_, rfl⟩) S_InvalidParts rfl I_CallweirError (Binds.all fun us hl => match us, hl with | [_, _], _ => rfl) fnI_CallweirError tyf_CallweirError (by
    rintro C rfl
    exact ⟨by simp, K_InvalidParts, mr_InvalidParts_InvalidParts, su_InvalidParts_InvalidParts⟩)
  have S_InvalidReply : SupFn B "InvalidReply.__init__" se_InvalidReply fi_InvalidReply ca_InvalidReply cc_InvalidReply A_InvalidReply _ := ⟨⟨_, _, _, _, _, _, _, _, rfl, li_InvalidReply⟩, ci_InvalidReply, ⟨_, _, _, _, _, _, co_InvalidReply, v2_InvalidReply, fl_InvalidReply⟩, ⟨_, _, _, ce_InvalidReply⟩, cls_of x_InvalidReply, nosup, noany, PySem.W.mg_none_of X G z_super, ⟨rfl, rfl, rfl, by decide +kernel, sup_free (by decide +kernel), rfl, rfl, rfl, rfl⟩, ⟨_, rfl, rfl⟩⟩
  have I_InvalidReply : FnOk B.P B.w B.K B.mg B.base (L2.CX B.P B.w) 2 fi_InvalidReply _ ["self", "place"] (spI 3 (fun C => C = A_InvalidReply) "InvalidReply") := own_ok (by decide) (fun _ => ⟨_, rfl⟩) S_InvalidReply rfl I_CallweirError (Binds.all fun us hl => match us, hl with | [_, _], _ => rfl) fnI_CallweirError tyf_CallweirError (by
    rintro C rfl
    exact ⟨by simp, K_InvalidReply, mr_InvalidReply_InvalidReply, su_InvalidReply_InvalidReply⟩)
  have erF : ∀ c : Str, c ∈ (["InvalidCall", "InvalidParts", "InvalidReply"] : List Str) → ErF B c := by
    intro c hc
    simp only [List.mem_cons, List.not_mem_nil, or_false] at hc
    rcases hc with rfl | rfl | rfl
    · exact ⟨A_InvalidCall, cl_InvalidCallx, ⟨ga_InvalidCall, gg_InvalidCall, eb_InvalidCall, hd_InvalidCall⟩, np_InvalidCall, nn_InvalidCall⟩
    · exact ⟨A_InvalidParts, cl_InvalidPartsx, ⟨ga_InvalidParts, gg_InvalidParts, eb_InvalidParts, hd_InvalidParts⟩, np_InvalidParts, nn_InvalidParts⟩
    · exact ⟨A_InvalidReply, cl_InvalidReplyx, ⟨ga_InvalidReply, gg_InvalidReply, eb_InvalidReply, hd_InvalidReply⟩, np_InvalidReply, nn_InvalidReply⟩
  have hd_InvalidCallh : Hnd B "InvalidCall" [("InvalidCall", true), ("InvalidParts", false), ("InvalidReply", false)] := by
    refine ⟨A_InvalidCall, PySem.W.mg_of X G aC_InvalidCall, fun c b h => ?_⟩
    have h := PySem.mem_of_lookup h
    simp only [List.mem_cons, List.not_mem_nil, or_false, Prod.mk.injEq] at h
    rcases h with ⟨rfl, rfl⟩ | ⟨rfl, rfl⟩ | ⟨rfl, rfl⟩
    · exact ⟨A_InvalidCall, cl_InvalidCallx, exm_InvalidCall_InvalidCall⟩
    · exact ⟨A_InvalidParts, cl_InvalidPartsx, exm_InvalidParts_InvalidCall⟩
    · exact ⟨A_InvalidReply, cl_InvalidReplyx, exm_InvalidReply_InvalidCall⟩
  have hd_InvalidPartsh : Hnd B "InvalidParts" [("InvalidCall", false), ("InvalidParts", true), ("InvalidReply", false)] := by
    refine ⟨A_InvalidParts, PySem.W.mg_of X G aC_InvalidParts, fun c b h => ?_⟩
    have h := PySem.mem_of_lookup h
    simp only [List.mem_cons, List.not_mem_nil, or_false, Prod.mk.injEq] at h
    rcases h with ⟨rfl, rfl⟩ | ⟨rfl, rfl⟩ | ⟨rfl, rfl⟩
    · exact ⟨A_InvalidCall, cl_InvalidCallx, exm_InvalidCall_InvalidParts⟩
    · exact ⟨A_InvalidParts, cl_InvalidPartsx, exm_InvalidParts_InvalidParts⟩
    · exact ⟨A_InvalidReply, cl_InvalidReplyx, exm_InvalidReply_InvalidParts⟩
  have hd_InvalidReplyh : Hnd B "InvalidReply" [("InvalidCall", false), ("InvalidParts", false), ("InvalidReply", true)] := by
    refine ⟨A_InvalidReply, PySem.W.mg_of X G aC_InvalidReply, fun c b h => ?_⟩
    have h := PySem.mem_of_lookup h
    simp only [List.mem_cons, List.not_mem_nil, or_false, Prod.mk.injEq] at h
    rcases h with ⟨rfl, rfl⟩ | ⟨rfl, rfl⟩ | ⟨rfl, rfl⟩
    · exact ⟨A_InvalidCall, cl_InvalidCallx, exm_InvalidCall_InvalidReply⟩
    · exact ⟨A_InvalidParts, cl_InvalidPartsx, exm_InvalidParts_InvalidReply⟩
    · exact ⟨A_InvalidReply, cl_InvalidReplyx, exm_InvalidReply_InvalidReply⟩
  have T : Txt B := ⟨PySem.W.mg_none_of X G z_len, PySem.W.mg_none_of X G z_ord, PySem.W.mg_none_of X G z_int, PySem.W.mg_none_of X G z_bytes, PySem.W.mg_none_of X G z_range, PySem.W.mg_none_of X G z_all, PySem.W.mg_none_of X G z_isinstance, PySem.W.mg_none_of X G z_str, PySem.W.mg_none_of X G z_bool, PySem.W.mg_none_of X G z_tuple, PySem.W.mg_none_of X G z_abs, PySem.W.mg_none_of X G z_min, PySem.W.mg_none_of X G z_list, ⟨t_HEX, PySem.W.mg_of X G q_HEX⟩, ⟨t_SMALL, PySem.W.mg_of X G q_SMALL⟩, ⟨t_CODE, PySem.W.mg_of X G q_CODE⟩, ⟨t_MARKS, PySem.W.mg_of X G q_MARKS⟩, ⟨t_PLAIN, PySem.W.mg_of X G q_PLAIN⟩, ⟨t_MOST_WORD, PySem.W.mg_of X G q_MOST_WORD⟩, ⟨t_DIGITS, PySem.W.mg_of X G q_DIGITS⟩, ⟨t_MOST_CALLER, PySem.W.mg_of X G q_MOST_CALLER⟩, ⟨u_NAMED, dd_NAMED, its_NAMED, n_NAMED, slt_NAMED, PySem.W.mg_of X G q_NAMED, w_NAMED, v_NAMED.1, rfl, v_NAMED.2⟩, ⟨u_ALONE, dd_ALONE, its_ALONE, n_ALONE, slt_ALONE, PySem.W.mg_of X G q_ALONE, w_ALONE, v_ALONE.1, rfl, v_ALONE.2⟩, ⟨t_MOST_TERMS, PySem.W.mg_of X G q_MOST_TERMS⟩, ⟨A_InvalidCall, fi_InvalidCall, _, _, _, cl_InvalidCallx, PySem.W.mg_of X G aC_InvalidCall, K_InvalidCall, ini_InvalidCall, tyf_InvalidCall, Binds.all fun us hl => match us, hl with | [_, _], _ => rfl, I_InvalidCall, by simp⟩, ⟨A_InvalidParts, fi_InvalidParts, _, _, _, cl_InvalidPartsx, PySem.W.mg_of X G aC_InvalidParts, K_InvalidParts, ini_InvalidParts, tyf_InvalidParts, Binds.all fun us hl => match us, hl with | [_, _], _ => rfl, I_InvalidParts, by simp⟩, ⟨A_InvalidReply, fi_InvalidReply, _, _, _, cl_InvalidReplyx, PySem.W.mg_of X G aC_InvalidReply, K_InvalidReply, ini_InvalidReply, tyf_InvalidReply, Binds.all fun us hl => match us, hl with | [_, _], _ => rfl, I_InvalidReply, by simp⟩, erF, hd_InvalidCallh, hd_InvalidPartsh, hd_InvalidReplyh⟩
  have G_hex_value := fun_mk (st := st_hex_value) l0 c0 k0
  have F_hex_value : FnD B "hex_value" 1 1 C_hex_value := fn_ok (B := B) G_hex_value (PySem.W.mg_of X G a0) sc_hex_value (G_hex_value.binds (ps := ["sign"]) fun _ _ _ _ _ _ us hl => match us, hl with | [_], _ => rfl) (fun e hx => walk_hex_value T e hx)
  have G_coded := fun_mk (st := st_coded) l1 c1 k1
  have F_coded : FnD B "coded" 1 1 C_coded := fn_ok (B := B) G_coded (PySem.W.mg_of X G a1) sc_coded (G_coded.binds (ps := ["number"]) fun _ _ _ _ _ _ us hl => match us, hl with | [_], _ => rfl) (fun e hx => walk_coded T e hx)
  have G_sign_of := fun_mk (st := st_sign_of) l2 c2 k2
  have F_sign_of : FnD B "sign_of" 1 1 C_sign_of := fn_ok (B := B) G_sign_of (PySem.W.mg_of X G a2) sc_sign_of (G_sign_of.binds (ps := ["number"]) fun _ _ _ _ _ _ us hl => match us, hl with | [_], _ => rfl) (fun e hx => walk_sign_of T e hx)
  have G_places_of := fun_mk (st := st_places_of) l3 c3 k3
  have F_places_of : FnD B "places_of" 1 1 C_places_of := fn_ok (B := B) G_places_of (PySem.W.mg_of X G a3) sc_places_of (G_places_of.binds (ps := ["text"]) fun _ _ _ _ _ _ us hl => match us, hl with | [_], _ => rfl) (fun e hx => walk_places_of T e hx)
  have G_joined := fun_mk (st := st_joined) l4 c4 k4
  have F_joined : FnD B "joined" 1 1 C_joined := fn_ok (B := B) G_joined (PySem.W.mg_of X G a4) sc_joined (G_joined.binds (ps := ["row"]) fun _ _ _ _ _ _ us hl => match us, hl with | [_], _ => rfl) (fun e hx => walk_joined T e hx)
  have G_is_text_of := fun_mk (st := st_is_text_of) l5 c5 k5
  have F_is_text_of : FnD B "is_text_of" 3 1 C_is_text_of := fn_ok (B := B) G_is_text_of (PySem.W.mg_of X G a5) sc_is_text_of (G_is_text_of.binds (ps := ["value", "signs", "most"]) fun _ _ _ _ _ _ us hl => match us, hl with | [_, _, _], _ => rfl) (fun e hx => walk_is_text_of T e hx)
  have G_is_number := fun_mk (st := st_is_number) l6 c6 k6
  have F_is_number : FnD B "is_number" 1 1 C_is_number := fn_ok (B := B) G_is_number (PySem.W.mg_of X G a6) sc_is_number (G_is_number.binds (ps := ["value"]) fun _ _ _ _ _ _ us hl => match us, hl with | [_], _ => rfl) (fun e hx => walk_is_number T e hx)
  have G_is_text := fun_mk (st := st_is_text) l7 c7 k7
  have F_is_text : FnD B "is_text" 1 1 C_is_text := fn_ok (B := B) G_is_text (PySem.W.mg_of X G a7) sc_is_text (G_is_text.binds (ps := ["value"]) fun _ _ _ _ _ _ us hl => match us, hl with | [_], _ => rfl) (fun e hx => walk_is_text T e hx)
  have G__law_start := fun_mk (st := st__law_start) l8 c8 k8
  have F__law_start : FnD B "_law_start" 1 1 C__law_start := fn_ok (B := B) G__law_start (PySem.W.mg_of X G a8) sc__law_start (G__law_start.binds (ps := ["script"]) fun _ _ _ _ _ _ us hl => match us, hl with | [_], _ => rfl) (fun e hx => walk__law_start T e hx)
  have G__law_pick := fun_mk (st := st__law_pick) l9 c9 k9
  have F__law_pick : FnD B "_law_pick" 2 1 C__law_pick := fn_ok (B := B) G__law_pick (PySem.W.mg_of X G a9) sc__law_pick (G__law_pick.binds (ps := ["state", "limit"]) fun _ _ _ _ _ _ us hl => match us, hl with | [_, _], _ => rfl) (fun e hx => walk__law_pick T e hx)
  have G_is_plain := fun_mk (st := st_is_plain) l10 c10 k10
  have F_is_plain : FnD B "is_plain" 1 2 C_is_plain := fn_ok (B := B) G_is_plain (PySem.W.mg_of X G a10) sc_is_plain (G_is_plain.binds (ps := ["number"]) fun _ _ _ _ _ _ us hl => match us, hl with | [_], _ => rfl) (fun e hx => walk_is_plain T F_sign_of e hx)
  have G_is_word := fun_mk (st := st_is_word) l11 c11 k11
  have F_is_word : FnD B "is_word" 1 2 C_is_word := fn_ok (B := B) G_is_word (PySem.W.mg_of X G a11) sc_is_word (G_is_word.binds (ps := ["value"]) fun _ _ _ _ _ _ us hl => match us, hl with | [_], _ => rfl) (fun e hx => walk_is_word T F_is_text_of e hx)
  have G_is_caller := fun_mk (st := st_is_caller) l12 c12 k12
  have F_is_caller : FnD B "is_caller" 1 2 C_is_caller := fn_ok (B := B) G_is_caller (PySem.W.mg_of X G a12) sc_is_caller (G_is_caller.binds (ps := ["value"]) fun _ _ _ _ _ _ us hl => match us, hl with | [_], _ => rfl) (fun e hx => walk_is_caller T F_is_text_of e hx)
  have G__law_odd := fun_mk (st := st__law_odd) l13 c13 k13
  have F__law_odd : FnD B "_law_odd" 1 2 C__law_odd := fn_ok (B := B) G__law_odd (PySem.W.mg_of X G a13) sc__law_odd (G__law_odd.binds (ps := ["state"]) fun _ _ _ _ _ _ us hl => match us, hl with | [_], _ => rfl) (fun e hx => walk__law_odd T F__law_pick e hx)
  have G_is_named := fun_mk (st := st_is_named) l14 c14 k14
  have F_is_named : FnD B "is_named" 1 3 C_is_named := fn_ok (B := B) G_is_named (PySem.W.mg_of X G a14) sc_is_named (G_is_named.binds (ps := ["value"]) fun _ _ _ _ _ _ us hl => match us, hl with | [_], _ => rfl) (fun e hx => walk_is_named T F_is_word e hx)
  have G_is_texts := fun_mk (st := st_is_texts) l15 c15 k15
  have F_is_texts : FnD B "is_texts" 1 3 C_is_texts := fn_ok (B := B) G_is_texts (PySem.W.mg_of X G a15) sc_is_texts (G_is_texts.binds (ps := ["value"]) fun _ _ _ _ _ _ us hl => match us, hl with | [_], _ => rfl) (fun e hx => walk_is_texts T F_is_word F_is_text e hx)
  have G__law_parts := fun_mk (st := st__law_parts) l16 c16 k16
  have F__law_parts : FnD B "_law_parts" 1 3 C__law_parts := fn_ok (B := B) G__law_parts (PySem.W.mg_of X G a16) sc__law_parts (G__law_parts.binds (ps := ["state"]) fun _ _ _ _ _ _ us hl => match us, hl with | [_], _ => rfl) (fun e hx => walk__law_parts T F__law_pick F__law_odd e hx)
  have G__law_rule := fun_mk (st := st__law_rule) l17 c17 k17
  have F__law_rule : FnD B "_law_rule" 1 3 C__law_rule := fn_ok (B := B) G__law_rule (PySem.W.mg_of X G a17) sc__law_rule (G__law_rule.binds (ps := ["state"]) fun _ _ _ _ _ _ us hl => match us, hl with | [_], _ => rfl) (fun e hx => walk__law_rule T F__law_pick F__law_odd e hx)
  have G_pieces := fun_mk (st := st_pieces) l18 c18 k18
  have F_pieces : FnD B "pieces" 1 4 C_pieces := fn_ok (B := B) G_pieces (PySem.W.mg_of X G a18) sc_pieces (G_pieces.binds (ps := ["text"]) fun _ _ _ _ _ _ us hl => match us, hl with | [_], _ => rfl) (fun e hx => walk_pieces T F_hex_value e hx)
  have G_is_part := fun_mk (st := st_is_part) l19 c19 k19
  have F_is_part : FnD B "is_part" 1 4 C_is_part := fn_ok (B := B) G_is_part (PySem.W.mg_of X G a19) sc_is_part (G_is_part.binds (ps := ["value"]) fun _ _ _ _ _ _ us hl => match us, hl with | [_], _ => rfl) (fun e hx => walk_is_part T F_is_named e hx)
  have G_is_term := fun_mk (st := st_is_term) l20 c20 k20
  have F_is_term : FnD B "is_term" 1 4 C_is_term := fn_ok (B := B) G_is_term (PySem.W.mg_of X G a20) sc_is_term (G_is_term.binds (ps := ["value"]) fun _ _ _ _ _ _ us hl => match us, hl with | [_], _ => rfl) (fun e hx => walk_is_term T F_is_named e hx)
  have G_tidy := fun_mk (st := st_tidy) l21 c21 k21
  have F_tidy : FnD B "tidy" 1 5 C_tidy := fn_ok (B := B) G_tidy (PySem.W.mg_of X G a21) sc_tidy (G_tidy.binds (ps := ["text"]) fun _ _ _ _ _ _ us hl => match us, hl with | [_], _ => rfl) (fun e hx => walk_tidy T F_pieces F_coded F_sign_of F_is_plain e hx)
  have G_check_parts := fun_mk (st := st_check_parts) l22 c22 k22
  have F_check_parts : FnD B "check_parts" 1 5 C_check_parts := fn_ok (B := B) G_check_parts (PySem.W.mg_of X G a22) sc_check_parts (G_check_parts.binds (ps := ["parts"]) fun _ _ _ _ _ _ us hl => match us, hl with | [_], _ => rfl) (fun e hx => walk_check_parts T F_is_part e hx)
  have G_check_reply := fun_mk (st := st_check_reply) l23 c23 k23
  have F_check_reply : FnD B "check_reply" 1 5 C_check_reply := fn_ok (B := B) G_check_reply (PySem.W.mg_of X G a23) sc_check_reply (G_check_reply.binds (ps := ["rule"]) fun _ _ _ _ _ _ us hl => match us, hl with | [_], _ => rfl) (fun e hx => walk_check_reply T F_is_term e hx)
  have G_segments := fun_mk (st := st_segments) l24 c24 k24
  have F_segments : FnD B "segments" 1 6 C_segments := fn_ok (B := B) G_segments (PySem.W.mg_of X G a24) sc_segments (G_segments.binds (ps := ["text"]) fun _ _ _ _ _ _ us hl => match us, hl with | [_], _ => rfl) (fun e hx => walk_segments T F_tidy F_places_of e hx)
  have G__law_told := fun_mk (st := st__law_told) l25 c25 k25
  have F__law_told : FnD B "_law_told" 2 6 C__law_told := fn_ok (B := B) G__law_told (PySem.W.mg_of X G a25) sc__law_told (G__law_told.binds (ps := ["kind", "value"]) fun _ _ _ _ _ _ us hl => match us, hl with | [_, _], _ => rfl) (fun e hx => walk__law_told T F_check_parts F_check_reply e hx)
  have G_canonical := fun_mk (st := st_canonical) l26 c26 k26
  have F_canonical : FnD B "canonical" 1 7 C_canonical := fn_ok (B := B) G_canonical (PySem.W.mg_of X G a26) sc_canonical (G_canonical.binds (ps := ["text"]) fun _ _ _ _ _ _ us hl => match us, hl with | [_], _ => rfl) (fun e hx => walk_canonical T F_segments F_joined e hx)
  have G_is_canonical := fun_mk (st := st_is_canonical) l27 c27 k27
  have F_is_canonical : FnD B "is_canonical" 1 8 C_is_canonical := fn_ok (B := B) G_is_canonical (PySem.W.mg_of X G a27) sc_is_canonical (G_is_canonical.binds (ps := ["text"]) fun _ _ _ _ _ _ us hl => match us, hl with | [_], _ => rfl) (fun e hx => walk_is_canonical T F_canonical e hx)
  have G_is_ask := fun_mk (st := st_is_ask) l28 c28 k28
  have F_is_ask : FnD B "is_ask" 1 9 C_is_ask := fn_ok (B := B) G_is_ask (PySem.W.mg_of X G a28) sc_is_ask (G_is_ask.binds (ps := ["value"]) fun _ _ _ _ _ _ us hl => match us, hl with | [_], _ => rfl) (fun e hx => walk_is_ask T F_is_canonical F_is_caller F_is_texts e hx)
  have G_is_counts := fun_mk (st := st_is_counts) l29 c29 k29
  have F_is_counts : FnD B "is_counts" 1 9 C_is_counts := fn_ok (B := B) G_is_counts (PySem.W.mg_of X G a29) sc_is_counts (G_is_counts.binds (ps := ["value"]) fun _ _ _ _ _ _ us hl => match us, hl with | [_], _ => rfl) (fun e hx => walk_is_counts T F_is_canonical F_is_number e hx)
  have G_is_state := fun_mk (st := st_is_state) l30 c30 k30
  have F_is_state : FnD B "is_state" 1 10 C_is_state := fn_ok (B := B) G_is_state (PySem.W.mg_of X G a30) sc_is_state (G_is_state.binds (ps := ["value"]) fun _ _ _ _ _ _ us hl => match us, hl with | [_], _ => rfl) (fun e hx => walk_is_state T F_is_number F_is_counts e hx)
  have G__law_values := fun_mk (st := st__law_values) l31 c31 k31
  have F__law_values : FnD B "_law_values" 1 11 C__law_values := fn_ok (B := B) G__law_values (PySem.W.mg_of X G a31) sc__law_values (G__law_values.binds (ps := ["state"]) fun _ _ _ _ _ _ us hl => match us, hl with | [_], _ => rfl) (fun e hx => walk__law_values T F_is_ask F_is_state F__law_pick e hx)
  exact fn_okF (B := B) (fun_mk (st := st_law) l32 c32 k32) sc_law (fun e hx => walk_law T F__law_start F__law_told F__law_parts F__law_rule F__law_values e hx)
end
end Law


namespace Law
open PySem L2 Ev
local macro_rules | `(tactic| walk_at "ws") => `(tactic| simp only [↓eS_unl, ↓eS_try2, ↓eV_bind, ↓eS_then, ↓eV_val, ↓eV_exc, ↓eV_bot, ↓eS_nxt, ↓eS_rt, ↓eS_bk, ↓eS_ct, ↓eS_ex, ↓eS_bot, ↓eO_some, ↓eO_none, ↓eV_ite, ↓eS_ite, ↓eO_ite, ↓eS_seq, ↓eS_ftup, ↓eS_flst, ↓eS_frol, ↓eS_frng, ↓eS_ftxt, ↓eS_try, ↓eS_tryO, ↓eV_opt, ↓eS_opt, sNx, sIf, sRet, sEx, sSet, sSetL, sSetG, sSetN, sAsg, sPar, sFor, sRaise, sFldS, sFldG, sApp, sPop, nSl, sLm, kApp, sStL, sAugL, sAug, sDput, sRetG, putL, putE, putS, lstAt, Ev.cellOf, plOf, frzE, eC, eVar, e2, eTup, eLst, eFn, eCall, eAnd, eOr, eNot, eIf, eCh, eSl, oNone, oSome, bT, tT1, tAnd', tOr', tNot', tAll, eFld, eMeth, eMake, eSha, eFrz, nLst, nDct, tIte, fListD, eDget2, eIs, eNeg, rRng1, rRng2, nLstR, eTupR, eErrP, eErrN, eIsErr, wSeq, wRng1, wRng2, wOf, aCons, aNil, gAdd, Ev.gSub, gMulA, gMul, gDiv, gMod, gPow, gShl, gShr, gXor, gInt, gB, cEq, cNe, cLt, cLe, cGt, cGe, cOrd, cIsN, cNotN, cIsB, cNotB, cIn, cNotIn, gIx, slX, gDix, cDin, cDnin, fLen, fAbs, fInt, fOrd, fChr, fMax, fMin, fList, fTuple, fAll, fAny, datOf, dep, eqD, eqL, truX, seqOf, lstOf, dctAt, Ev.keyOf, nDctL, pairKV, dctOf, gN, gNl, gCs, gT, tyName, isT, iAdd, iSub, Ev.isNon, mulC, Ev.small64, powC, divC, modC, shrC, ixN, sExt, arrOf, eJoin, eRev, nAdd, nList, eS1, eSign, eEqO, gEqO, eqArg, eIsC, List.flatten_cons, List.flatten_nil, WV, WO, WS, wi_rng, wi_tup, wi_lst, wi_rol, wi_txt, wipe_cons, wipe_nil, nat0, Int.zero_add, Int.toNat_natCast, List.length_map, le_line, objAt_own, obj_non, obj_bl, obj_int, obj_str, obj_tup, obj_lst, Option.isSome_none, Nat.lt_add_one, lt_pr, gt_pr, le_pr, ge_pr, lookD_cons, look_tbl, all_inl, map_inl, putD_cons, putD_nil, str_eq, atI_eq, datL_cons, datL_nil, fnEnv, List.map_cons, List.map_nil, List.cons_append, List.nil_append, List.length_cons, List.length_nil, List.getElem?_cons_succ, List.getElem?_cons_zero, List.replicate_succ, List.replicate_zero, List.set_cons_succ, List.set_cons_zero, List.getElem?_nil, List.take_succ_cons, List.take_zero, List.take_nil, List.mem_cons, List.not_mem_nil, List.zip_cons_cons, List.zip_nil_right, List.foldl_cons, List.foldl_nil, Option.map_some, Option.map_none, Option.isSome_some, Option.getD_some, List.isEmpty_cons, List.isEmpty_nil, List.all_cons, List.all_nil, Nat.reduceAdd, Nat.reducePow, Int.reducePow, Int.reduceAbs, Int.reduceDiv, Int.reduceMod, Nat.reduceSub, Nat.reduceLT, Nat.reduceLeDiff, Nat.reduceEqDiff, Int.reduceLE, Int.reduceLT, Int.reduceSub, Int.reduceMul, Nat.reduceMul, Int.cast_ofNat_Int, Int.reduceToNat, Int.reduceNeg, Int.reduceAdd, Int.reduceEq, String.reduceEq, reduceIte, reduceCtorEq, if_true, if_false, if_pos, if_neg, Bool.false_eq_true, decide_true, decide_false, decide_eq_true_eq, Bool.not_true, Bool.not_false, Bool.and_true, Bool.true_and, Bool.and_false, Bool.false_and, Bool.or_true, Bool.true_or, Bool.or_false, Bool.false_or, Bool.and_self, Bool.or_self, Bool.and_eq_true, Bool.or_eq_true, Bool.not_eq_true', Bool.not_eq_eq_eq_not, decide_eq_false_iff_not, decide_not, bne_iff_ne, beq_iff_eq, ne_eq, not_true_eq_false, not_false_eq_true, List.getElem?_set_self, List.getElem?_set_ne, List.length_set, true_or, or_true, false_or, or_false, and_true, true_and, and_false, false_and, eq_self, and_self, or_self, List.set_set, String.reduceBEq, beq_self_eq_true, bne_self_eq_false])
local macro_rules | `(tactic| walk_at "wh") => `(tactic| simp only [↓eS_unl, ↓eS_try2, ↓eV_bind, ↓eS_then, ↓eV_val, ↓eV_exc, ↓eV_bot, ↓eS_nxt, ↓eS_rt, ↓eS_bk, ↓eS_ct, ↓eS_ex, ↓eS_bot, ↓eO_some, ↓eO_none, ↓eV_ite, ↓eS_ite, ↓eO_ite, ↓eS_seq, ↓eS_ftup, ↓eS_flst, ↓eS_frol, ↓eS_frng, ↓eS_ftxt, ↓eS_try, ↓eS_tryO, ↓eV_opt, ↓eS_opt, sNx, sIf, sRet, sEx, sSet, sSetL, sSetG, sSetN, sAsg, sPar, sFor, sRaise, sFldS, sFldG, sApp, sPop, nSl, sLm, kApp, sStL, sAugL, sAug, sDput, sRetG, putL, putE, putS, lstAt, Ev.cellOf, plOf, frzE, eC, eVar, e2, eTup, eLst, eFn, eCall, eAnd, eOr, eNot, eIf, eCh, eSl, oNone, oSome, bT, tT1, tAnd', tOr', tNot', tAll, eFld, eMeth, eMake, eSha, eFrz, nLst, nDct, tIte, fListD, eDget2, eIs, eNeg, rRng1, rRng2, nLstR, eTupR, eErrP, eErrN, eIsErr, wSeq, wRng1, wRng2, wOf, aCons, aNil, gAdd, Ev.gSub, gMulA, gMul, gDiv, gMod, gPow, gShl, gShr, gXor, gInt, gB, cEq, cNe, cLt, cLe, cGt, cGe, cOrd, cIsN, cNotN, cIsB, cNotB, cIn, cNotIn, gIx, slX, gDix, cDin, cDnin, fLen, fAbs, fInt, fOrd, fChr, fMax, fMin, fList, fTuple, fAll, fAny, datOf, dep, eqD, eqL, truX, seqOf, lstOf, dctAt, Ev.keyOf, nDctL, pairKV, dctOf, gN, gNl, gCs, gT, tyName, isT, iAdd, iSub, Ev.isNon, mulC, Ev.small64, powC, divC, modC, shrC, ixN, sExt, arrOf, eJoin, eRev, nAdd, nList, eS1, eSign, eEqO, gEqO, eqArg, eIsC, List.flatten_cons, List.flatten_nil, WV, WO, WS, wi_rng, wi_tup, wi_lst, wi_rol, wi_txt, wipe_cons, wipe_nil, nat0, Int.zero_add, Int.toNat_natCast, List.length_map, le_line, objAt_own, obj_non, obj_bl, obj_int, obj_str, obj_tup, obj_lst, Option.isSome_none, Nat.lt_add_one, lt_pr, gt_pr, le_pr, ge_pr, lookD_cons, look_tbl, all_inl, map_inl, putD_cons, putD_nil, str_eq, atI_eq, datL_cons, datL_nil, fnEnv, List.map_cons, List.map_nil, List.cons_append, List.nil_append, List.length_cons, List.length_nil, List.getElem?_cons_succ, List.getElem?_cons_zero, List.replicate_succ, List.replicate_zero, List.set_cons_succ, List.set_cons_zero, List.getElem?_nil, List.take_succ_cons, List.take_zero, List.take_nil, List.mem_cons, List.not_mem_nil, List.zip_cons_cons, List.zip_nil_right, List.foldl_cons, List.foldl_nil, Option.map_some, Option.map_none, Option.isSome_some, Option.getD_some, List.isEmpty_cons, List.isEmpty_nil, List.all_cons, List.all_nil, Nat.reduceAdd, Nat.reducePow, Int.reducePow, Int.reduceAbs, Int.reduceDiv, Int.reduceMod, Nat.reduceSub, Nat.reduceLT, Nat.reduceLeDiff, Nat.reduceEqDiff, Int.reduceLE, Int.reduceLT, Int.reduceSub, Int.reduceMul, Nat.reduceMul, Int.cast_ofNat_Int, Int.reduceToNat, Int.reduceNeg, Int.reduceAdd, Int.reduceEq, String.reduceEq, reduceIte, reduceCtorEq, if_true, if_false, if_pos, if_neg, Bool.false_eq_true, decide_true, decide_false, decide_eq_true_eq, Bool.not_true, Bool.not_false, Bool.and_true, Bool.true_and, Bool.and_false, Bool.false_and, Bool.or_true, Bool.true_or, Bool.or_false, Bool.false_or, Bool.and_self, Bool.or_self, Bool.and_eq_true, Bool.or_eq_true, Bool.not_eq_true', Bool.not_eq_eq_eq_not, decide_eq_false_iff_not, decide_not, bne_iff_ne, beq_iff_eq, ne_eq, not_true_eq_false, not_false_eq_true, List.getElem?_set_self, List.getElem?_set_ne, List.length_set, true_or, or_true, false_or, or_false, and_true, true_and, and_false, false_and, eq_self, and_self, or_self, List.set_set, String.reduceBEq, beq_self_eq_true, bne_self_eq_false, *])
local macro_rules | `(tactic| walk_at "wu") => `(tactic| simp only [↓eS_unl, ↓eS_try2, ↓eV_bind, ↓eS_then, ↓eV_val, ↓eV_exc, ↓eV_bot, ↓eS_nxt, ↓eS_rt, ↓eS_bk, ↓eS_ct, ↓eS_ex, ↓eS_bot, ↓eO_some, ↓eO_none, ↓eV_ite, ↓eS_ite, ↓eO_ite, ↓eS_seq, ↓eS_ftup, ↓eS_flst, ↓eS_frol, ↓eS_frng, ↓eS_ftxt, ↓eS_try, ↓eS_tryO, ↓eV_opt, ↓eS_opt, sNx, sIf, sRet, sEx, sSet, sSetL, sSetG, sSetN, sAsg, sPar, sFor, sRaise, sFldS, sFldG, sApp, sPop, nSl, sLm, kApp, sStL, sAugL, sAug, sDput, sRetG, putL, putE, putS, lstAt, Ev.cellOf, plOf, frzE, eC, eVar, e2, eTup, eLst, eFn, eCall, eAnd, eOr, eNot, eIf, eCh, eSl, oNone, oSome, bT, tT1, tAnd', tOr', tNot', tAll, eFld, eMeth, eMake, eSha, eFrz, nLst, nDct, tIte, fListD, eDget2, eIs, eNeg, rRng1, rRng2, nLstR, eTupR, eErrP, eErrN, eIsErr, wSeq, wRng1, wRng2, wOf, aCons, aNil, gAdd, Ev.gSub, gMulA, gMul, gDiv, gMod, gPow, gShl, gShr, gXor, gInt, gB, cEq, cNe, cLt, cLe, cGt, cGe, cOrd, cIsN, cNotN, cIsB, cNotB, cIn, cNotIn, gIx, slX, gDix, cDin, cDnin, fLen, fAbs, fInt, fOrd, fChr, fMax, fMin, fList, fTuple, fAll, fAny, datOf, dep, eqD, eqL, truX, seqOf, lstOf, dctAt, Ev.keyOf, nDctL, pairKV, dctOf, gN, gNl, gCs, gT, tyName, isT, iAdd, iSub, Ev.isNon, mulC, Ev.small64, powC, divC, modC, shrC, ixN, sExt, arrOf, eJoin, eRev, nAdd, nList, eS1, eSign, eEqO, gEqO, eqArg, eIsC, List.flatten_cons, List.flatten_nil, WV, WO, WS, wi_rng, wi_tup, wi_lst, wi_rol, wi_txt, wipe_cons, wipe_nil, nat0, Int.zero_add, Int.toNat_natCast, List.length_map, le_line, objAt_own, obj_non, obj_bl, obj_int, obj_str, obj_tup, obj_lst, Option.isSome_none, Nat.lt_add_one, lt_pr, gt_pr, le_pr, ge_pr, lookD_cons, look_tbl, all_inl, map_inl, putD_cons, putD_nil, str_eq, atI_eq, datL_cons, datL_nil, fnEnv, List.map_cons, List.map_nil, List.cons_append, List.nil_append, List.length_cons, List.length_nil, List.getElem?_cons_succ, List.getElem?_cons_zero, List.replicate_succ, List.replicate_zero, List.set_cons_succ, List.set_cons_zero, List.getElem?_nil, List.take_succ_cons, List.take_zero, List.take_nil, List.mem_cons, List.not_mem_nil, List.zip_cons_cons, List.zip_nil_right, List.foldl_cons, List.foldl_nil, Option.map_some, Option.map_none, Option.isSome_some, Option.getD_some, List.isEmpty_cons, List.isEmpty_nil, List.all_cons, List.all_nil, Nat.reduceAdd, Nat.reducePow, Int.reducePow, Int.reduceAbs, Int.reduceDiv, Int.reduceMod, Nat.reduceSub, Nat.reduceLT, Nat.reduceLeDiff, Nat.reduceEqDiff, Int.reduceLE, Int.reduceLT, Int.reduceSub, Int.reduceMul, Nat.reduceMul, Int.cast_ofNat_Int, Int.reduceToNat, Int.reduceNeg, Int.reduceAdd, Int.reduceEq, String.reduceEq, reduceIte, reduceCtorEq, if_true, if_false, if_pos, if_neg, Bool.false_eq_true, decide_true, decide_false, decide_eq_true_eq, Bool.not_true, Bool.not_false, Bool.and_true, Bool.true_and, Bool.and_false, Bool.false_and, Bool.or_true, Bool.true_or, Bool.or_false, Bool.false_or, Bool.and_self, Bool.or_self, Bool.and_eq_true, Bool.or_eq_true, Bool.not_eq_true', Bool.not_eq_eq_eq_not, decide_eq_false_iff_not, decide_not, bne_iff_ne, beq_iff_eq, ne_eq, not_true_eq_false, not_false_eq_true, List.getElem?_set_self, List.getElem?_set_ne, List.length_set, true_or, or_true, false_or, or_false, and_true, true_and, and_false, false_and, eq_self, and_self, or_self, List.set_set, String.reduceBEq, beq_self_eq_true, bne_self_eq_false, ↓eS_fcons, ↓eS_fnil, *])
local macro_rules | `(tactic| walk_at "wm") => `(tactic| simp only [↓eS_unl, ↓eS_try2, ↓eV_bind, ↓eS_then, ↓eV_val, ↓eV_exc, ↓eV_bot, ↓eS_nxt, ↓eS_rt, ↓eS_bk, ↓eS_ct, ↓eS_ex, ↓eS_bot, ↓eO_some, ↓eO_none, ↓eV_ite, ↓eS_ite, ↓eO_ite, ↓eS_seq, ↓eS_ftup, ↓eS_flst, ↓eS_frol, ↓eS_frng, ↓eS_ftxt, ↓eS_try, ↓eS_tryO, ↓eV_opt, ↓eS_opt, sNx, sIf, sRet, sEx, sSet, sSetL, sSetG, sSetN, sAsg, sPar, sFor, sRaise, sFldS, sFldG, sApp, sPop, nSl, sLm, kApp, sStL, sAugL, sAug, sDput, sRetG, putL, putE, putS, lstAt, Ev.cellOf, plOf, frzE, eC, eVar, e2, eTup, eLst, eFn, eCall, eAnd, eOr, eNot, eIf, eCh, eSl, oNone, oSome, bT, tT1, tAnd', tOr', tNot', tAll, eFld, eMeth, eMake, eSha, eFrz, nLst, nDct, tIte, fListD, eDget2, eIs, eNeg, rRng1, rRng2, nLstR, eTupR, eErrP, eErrN, eIsErr, wSeq, wRng1, wRng2, wOf, aCons, aNil, gAdd, Ev.gSub, gMulA, gMul, gDiv, gMod, gPow, gShl, gShr, gXor, gInt, gB, cEq, cNe, cLt, cLe, cGt, cGe, cOrd, cIsN, cNotN, cIsB, cNotB, gIx, slX, gDix, cDin, cDnin, fLen, fAbs, fInt, fOrd, fChr, fMax, fMin, fList, fTuple, fAll, fAny, datOf, dep, eqD, eqL, truX, seqOf, lstOf, dctAt, Ev.keyOf, nDctL, pairKV, dctOf, gN, gNl, gCs, gT, tyName, isT, iAdd, iSub, Ev.isNon, mulC, Ev.small64, powC, divC, modC, shrC, ixN, sExt, arrOf, eJoin, eRev, nAdd, nList, eS1, eSign, eEqO, gEqO, eqArg, eIsC, List.flatten_cons, List.flatten_nil, WV, WO, WS, wi_rng, wi_tup, wi_lst, wi_rol, wi_txt, wipe_cons, wipe_nil, nat0, Int.zero_add, Int.toNat_natCast, List.length_map, le_line, objAt_own, obj_non, obj_bl, obj_int, obj_str, obj_tup, obj_lst, Option.isSome_none, Nat.lt_add_one, lt_pr, gt_pr, le_pr, ge_pr, lookD_cons, look_tbl, all_inl, map_inl, putD_cons, putD_nil, str_eq, atI_eq, datL_cons, datL_nil, fnEnv, List.map_cons, List.map_nil, List.cons_append, List.nil_append, List.length_cons, List.length_nil, List.getElem?_cons_succ, List.getElem?_cons_zero, List.replicate_succ, List.replicate_zero, List.set_cons_succ, List.set_cons_zero, List.getElem?_nil, List.take_succ_cons, List.take_zero, List.take_nil, List.mem_cons, List.not_mem_nil, List.zip_cons_cons, List.zip_nil_right, List.foldl_cons, List.foldl_nil, Option.map_some, Option.map_none, Option.isSome_some, Option.getD_some, List.isEmpty_cons, List.isEmpty_nil, List.all_cons, List.all_nil, Nat.reduceAdd, Nat.reducePow, Int.reducePow, Int.reduceAbs, Int.reduceDiv, Int.reduceMod, Nat.reduceSub, Nat.reduceLT, Nat.reduceLeDiff, Nat.reduceEqDiff, Int.reduceLE, Int.reduceLT, Int.reduceSub, Int.reduceMul, Nat.reduceMul, Int.cast_ofNat_Int, Int.reduceToNat, Int.reduceNeg, Int.reduceAdd, Int.reduceEq, String.reduceEq, reduceIte, reduceCtorEq, if_true, if_false, if_pos, if_neg, Bool.false_eq_true, decide_true, decide_false, decide_eq_true_eq, Bool.not_true, Bool.not_false, Bool.and_true, Bool.true_and, Bool.and_false, Bool.false_and, Bool.or_true, Bool.true_or, Bool.or_false, Bool.false_or, Bool.and_self, Bool.or_self, Bool.and_eq_true, Bool.or_eq_true, Bool.not_eq_true', Bool.not_eq_eq_eq_not, decide_eq_false_iff_not, decide_not, bne_iff_ne, beq_iff_eq, ne_eq, not_true_eq_false, not_false_eq_true, List.getElem?_set_self, List.getElem?_set_ne, List.length_set, true_or, or_true, false_or, or_false, and_true, true_and, and_false, false_and, eq_self, and_self, or_self, List.set_set, String.reduceBEq, beq_self_eq_true, bne_self_eq_false])
local macro_rules | `(tactic| walk_at "wn") => `(tactic| simp only [↓eS_unl, ↓eS_try2, ↓eV_bind, ↓eS_then, ↓eV_val, ↓eV_exc, ↓eV_bot, ↓eS_nxt, ↓eS_rt, ↓eS_bk, ↓eS_ct, ↓eS_ex, ↓eS_bot, ↓eO_some, ↓eO_none, ↓eV_ite, ↓eS_ite, ↓eO_ite, ↓eS_seq, ↓eS_ftup, ↓eS_flst, ↓eS_frol, ↓eS_frng, ↓eS_ftxt, ↓eS_try, ↓eS_tryO, ↓eV_opt, ↓eS_opt, sNx, sIf, sRet, sEx, sSet, sSetL, sSetG, sSetN, sAsg, sPar, sFor, sRaise, sFldS, sFldG, sApp, sPop, nSl, sLm, kApp, sStL, sAugL, sAug, sDput, sRetG, putL, putE, putS, lstAt, Ev.cellOf, plOf, frzE, eC, eVar, e2, eTup, eLst, eFn, eCall, eAnd, eOr, eNot, eIf, eCh, eSl, oNone, oSome, bT, tT1, tAnd', tOr', tNot', tAll, eFld, eMeth, eMake, eSha, eFrz, nLst, nDct, tIte, fListD, eDget2, eIs, eNeg, rRng1, rRng2, nLstR, eTupR, eErrP, eErrN, eIsErr, wSeq, wRng1, wRng2, wOf, aCons, aNil, gAdd, Ev.gSub, gMulA, gMul, gDiv, gMod, gPow, gShl, gShr, gXor, gInt, gB, cEq, cNe, cLt, cLe, cGt, cGe, cOrd, cIsN, cNotN, cIsB, cNotB, gIx, slX, gDix, cDin, cDnin, fLen, fAbs, fInt, fOrd, fChr, fMax, fMin, fList, fTuple, fAll, fAny, datOf, dep, eqD, eqL, truX, seqOf, lstOf, dctAt, Ev.keyOf, nDctL, pairKV, dctOf, gN, gNl, gCs, gT, tyName, isT, iAdd, iSub, Ev.isNon, mulC, Ev.small64, powC, divC, modC, shrC, ixN, sExt, arrOf, eJoin, eRev, nAdd, nList, eS1, eSign, eEqO, gEqO, eqArg, eIsC, List.flatten_cons, List.flatten_nil, WV, WO, WS, wi_rng, wi_tup, wi_lst, wi_rol, wi_txt, wipe_cons, wipe_nil, nat0, Int.zero_add, Int.toNat_natCast, List.length_map, le_line, objAt_own, obj_non, obj_bl, obj_int, obj_str, obj_tup, obj_lst, Option.isSome_none, Nat.lt_add_one, lt_pr, gt_pr, le_pr, ge_pr, lookD_cons, look_tbl, all_inl, map_inl, putD_cons, putD_nil, str_eq, atI_eq, datL_cons, datL_nil, fnEnv, List.map_cons, List.map_nil, List.cons_append, List.nil_append, List.length_cons, List.length_nil, List.getElem?_cons_succ, List.getElem?_cons_zero, List.replicate_succ, List.replicate_zero, List.set_cons_succ, List.set_cons_zero, List.getElem?_nil, List.take_succ_cons, List.take_zero, List.take_nil, List.mem_cons, List.not_mem_nil, List.zip_cons_cons, List.zip_nil_right, List.foldl_cons, List.foldl_nil, Option.map_some, Option.map_none, Option.isSome_some, Option.getD_some, List.isEmpty_cons, List.isEmpty_nil, List.all_cons, List.all_nil, Nat.reduceAdd, Nat.reducePow, Int.reducePow, Int.reduceAbs, Int.reduceDiv, Int.reduceMod, Nat.reduceSub, Nat.reduceLT, Nat.reduceLeDiff, Nat.reduceEqDiff, Int.reduceLE, Int.reduceLT, Int.reduceSub, Int.reduceMul, Nat.reduceMul, Int.cast_ofNat_Int, Int.reduceToNat, Int.reduceNeg, Int.reduceAdd, Int.reduceEq, String.reduceEq, reduceIte, reduceCtorEq, if_true, if_false, if_pos, if_neg, Bool.false_eq_true, decide_true, decide_false, decide_eq_true_eq, Bool.not_true, Bool.not_false, Bool.and_true, Bool.true_and, Bool.and_false, Bool.false_and, Bool.or_true, Bool.true_or, Bool.or_false, Bool.false_or, Bool.and_self, Bool.or_self, Bool.and_eq_true, Bool.or_eq_true, Bool.not_eq_true', Bool.not_eq_eq_eq_not, decide_eq_false_iff_not, decide_not, bne_iff_ne, beq_iff_eq, ne_eq, not_true_eq_false, not_false_eq_true, List.getElem?_set_self, List.getElem?_set_ne, List.length_set, true_or, or_true, false_or, or_false, and_true, true_and, and_false, false_and, eq_self, and_self, or_self, List.set_set, String.reduceBEq, beq_self_eq_true, bne_self_eq_false, *])

theorem dr {t : Tp} {S : List Cell} {lim : Int} (h0 : 0 < lim) (h1 : lim < 18446744073709551616) : C__law_pick [.own 0, .int lim] (t.c :: S) = .val (.int (t.k lim)) ((t.n lim).c :: S) := pick0 pick_draws h0 h1
def p6 : List D := [.tup [.str [99, 97, 108, 108, 101, 114]], .tup [.str [102, 105, 101, 108, 100], .str [102]], .tup [.str [102, 105, 101, 108, 100], .str [108, 97, 110, 103]], .tup [.str [112, 97, 116, 104]], .tup [.str [113, 117, 101, 114, 121], .str [102]], .tup [.str [113, 117, 101, 114, 121], .str [113]]]
def t6 : List D := [.tup [.str [99, 97, 108, 108, 101, 114]], .tup [.str [99, 111, 110, 116, 101, 110, 116]], .tup [.str [99, 111, 117, 110, 116]], .tup [.str [102, 105, 101, 108, 100], .str [102]], .tup [.str [113, 117, 101, 114, 121], .str [113]], .tup [.str [116, 97, 103]]]
def odds : List D := [.non, .int 5, .str [99, 97, 108, 108, 101, 114], .tup [.str [102, 105, 101, 108, 100]], .tup [.str [102, 105, 101, 108, 100], .str [65]], .tup [.str [102, 105, 101, 108, 100], .str []], .tup [.str [102, 105, 101, 108, 100], .str [97, 97, 97, 97, 97, 97, 97, 97, 97, 97, 97, 97, 97]], .tup [.str [113, 117, 101, 114, 121], .int 5], .tup [.str [102, 105, 101, 108, 100, 115], .str [97]], .tup [.str [99, 97, 108, 108, 101, 114], .str [97]], .lst [.str [99, 97, 108, 108, 101, 114]], .tup [.str [102, 105, 101, 108, 100], .lst [.str [97]]], .tup [.lst [.str [102, 105, 101, 108, 100]], .str [97]], .tup []]
section
variable {S : List Cell}
theorem part_ok {d : D} (h : d ∈ p6) : C_is_part [d] S = .val (.bl true) S := by
  unfold p6 at h
  simp only [List.mem_cons, List.not_mem_nil, or_false] at h
  rcases h with rfl | rfl | rfl | rfl | rfl | rfl <;> rfl
theorem part_odd {d : D} (h : d ∈ odds) : C_is_part [d] S = .val (.bl false) S := by
  unfold odds at h
  simp only [List.mem_cons, List.not_mem_nil, or_false] at h
  rcases h with rfl | rfl | rfl | rfl | rfl | rfl | rfl | rfl | rfl | rfl | rfl | rfl | rfl | rfl <;> rfl
theorem term_ok {d : D} (h : d ∈ t6) : C_is_term [d] S = .val (.bl true) S := by
  unfold t6 at h
  simp only [List.mem_cons, List.not_mem_nil, or_false] at h
  rcases h with rfl | rfl | rfl | rfl | rfl | rfl <;> rfl
theorem term_odd {d : D} (h : d ∈ odds) : C_is_term [d] S = .val (.bl false) S := by
  unfold odds at h
  simp only [List.mem_cons, List.not_mem_nil, or_false] at h
  rcases h with rfl | rfl | rfl | rfl | rfl | rfl | rfl | rfl | rfl | rfl | rfl | rfl | rfl | rfl <;> rfl
theorem term_path : C_is_term [.tup [.str [112, 97, 116, 104]]] S = .val (.bl false) S := rfl
def at6 (i : Nat) : D := p6.getD i .non
theorem at6_mem {i : Nat} (h : i < 6) : at6 i ∈ p6 := by
  match i, h with
  | 0, _ => exact List.mem_of_getElem? (i := 0) rfl
  | 1, _ => exact List.mem_of_getElem? (i := 1) rfl
  | 2, _ => exact List.mem_of_getElem? (i := 2) rfl
  | 3, _ => exact List.mem_of_getElem? (i := 3) rfl
  | 4, _ => exact List.mem_of_getElem? (i := 4) rfl
  | 5, _ => exact List.mem_of_getElem? (i := 5) rfl
theorem ge6 {env : List Ev.Slot} {i j : Nat} (hi : i < 6) (hj : j < 6) : cGeD env S (.dat (at6 i)) (.dat (at6 j)) = some (decide (j ≤ i)) := by
  match i, j, hi, hj with
  | 0, 0, _, _ => rfl
  | 0, 1, _, _ => rfl
  | 0, 2, _, _ => rfl
  | 0, 3, _, _ => rfl
  | 0, 4, _, _ => rfl
  | 0, 5, _, _ => rfl
  | 1, 0, _, _ => rfl
  | 1, 1, _, _ => rfl
  | 1, 2, _, _ => rfl
  | 1, 3, _, _ => rfl
  | 1, 4, _, _ => rfl
  | 1, 5, _, _ => rfl
  | 2, 0, _, _ => rfl
  | 2, 1, _, _ => rfl
  | 2, 2, _, _ => rfl
  | 2, 3, _, _ => rfl
  | 2, 4, _, _ => rfl
  | 2, 5, _, _ => rfl
  | 3, 0, _, _ => rfl
  | 3, 1, _, _ => rfl
  | 3, 2, _, _ => rfl
  | 3, 3, _, _ => rfl
  | 3, 4, _, _ => rfl
  | 3, 5, _, _ => rfl
  | 4, 0, _, _ => rfl
  | 4, 1, _, _ => rfl
  | 4, 2, _, _ => rfl
  | 4, 3, _, _ => rfl
  | 4, 4, _, _ => rfl
  | 4, 5, _, _ => rfl
  | 5, 0, _, _ => rfl
  | 5, 1, _, _ => rfl
  | 5, 2, _, _ => rfl
  | 5, 3, _, _ => rfl
  | 5, 4, _, _ => rfl
  | 5, 5, _, _ => rfl
end
end Law

namespace Law
open PySem L2 Ev
local macro_rules | `(tactic| walk_at "ws") => `(tactic| simp only [↓eS_unl, ↓eS_try2, ↓eV_bind, ↓eS_then, ↓eV_val, ↓eV_exc, ↓eV_bot, ↓eS_nxt, ↓eS_rt, ↓eS_bk, ↓eS_ct, ↓eS_ex, ↓eS_bot, ↓eO_some, ↓eO_none, ↓eV_ite, ↓eS_ite, ↓eO_ite, ↓eS_seq, ↓eS_ftup, ↓eS_flst, ↓eS_frol, ↓eS_frng, ↓eS_ftxt, ↓eS_try, ↓eS_tryO, ↓eV_opt, ↓eS_opt, sNx, sIf, sRet, sEx, sSet, sSetL, sSetG, sSetN, sAsg, sPar, sFor, sRaise, sFldS, sFldG, sApp, sPop, nSl, sLm, kApp, sStL, sAugL, sAug, sDput, sRetG, putL, putE, putS, lstAt, Ev.cellOf, plOf, frzE, eC, eVar, e2, eTup, eLst, eFn, eCall, eAnd, eOr, eNot, eIf, eCh, eSl, oNone, oSome, bT, tT1, tAnd', tOr', tNot', tAll, eFld, eMeth, eMake, eSha, eFrz, nLst, nDct, tIte, fListD, eDget2, eIs, eNeg, rRng1, rRng2, nLstR, eTupR, eErrP, eErrN, eIsErr, wSeq, wRng1, wRng2, wOf, aCons, aNil, gAdd, Ev.gSub, gMulA, gMul, gDiv, gMod, gPow, gShl, gShr, gXor, gInt, gB, cEq, cNe, cLt, cLe, cGt, cGe, cOrd, cIsN, cNotN, cIsB, cNotB, cIn, cNotIn, gIx, slX, gDix, cDin, cDnin, fLen, fAbs, fInt, fOrd, fChr, fMax, fMin, fList, fTuple, fAll, fAny, datOf, dep, eqD, eqL, truX, seqOf, lstOf, dctAt, Ev.keyOf, nDctL, pairKV, dctOf, gN, gNl, gCs, gT, tyName, isT, iAdd, iSub, Ev.isNon, mulC, Ev.small64, powC, divC, modC, shrC, ixN, sExt, arrOf, eJoin, eRev, nAdd, nList, eS1, eSign, eEqO, gEqO, eqArg, eIsC, List.flatten_cons, List.flatten_nil, WV, WO, WS, wi_rng, wi_tup, wi_lst, wi_rol, wi_txt, wipe_cons, wipe_nil, nat0, Int.zero_add, Int.toNat_natCast, List.length_map, le_line, objAt_own, obj_non, obj_bl, obj_int, obj_str, obj_tup, obj_lst, Option.isSome_none, Nat.lt_add_one, lt_pr, gt_pr, le_pr, ge_pr, lookD_cons, look_tbl, all_inl, map_inl, putD_cons, putD_nil, str_eq, atI_eq, datL_cons, datL_nil, fnEnv, List.map_cons, List.map_nil, List.cons_append, List.nil_append, List.length_cons, List.length_nil, List.getElem?_cons_succ, List.getElem?_cons_zero, List.replicate_succ, List.replicate_zero, List.set_cons_succ, List.set_cons_zero, List.getElem?_nil, List.take_succ_cons, List.take_zero, List.take_nil, List.mem_cons, List.not_mem_nil, List.zip_cons_cons, List.zip_nil_right, List.foldl_cons, List.foldl_nil, Option.map_some, Option.map_none, Option.isSome_some, Option.getD_some, List.isEmpty_cons, List.isEmpty_nil, List.all_cons, List.all_nil, Nat.reduceAdd, Nat.reducePow, Int.reducePow, Int.reduceAbs, Int.reduceDiv, Int.reduceMod, Nat.reduceSub, Nat.reduceLT, Nat.reduceLeDiff, Nat.reduceEqDiff, Int.reduceLE, Int.reduceLT, Int.reduceSub, Int.reduceMul, Nat.reduceMul, Int.cast_ofNat_Int, Int.reduceToNat, Int.reduceNeg, Int.reduceAdd, Int.reduceEq, String.reduceEq, reduceIte, reduceCtorEq, if_true, if_false, if_pos, if_neg, Bool.false_eq_true, decide_true, decide_false, decide_eq_true_eq, Bool.not_true, Bool.not_false, Bool.and_true, Bool.true_and, Bool.and_false, Bool.false_and, Bool.or_true, Bool.true_or, Bool.or_false, Bool.false_or, Bool.and_self, Bool.or_self, Bool.and_eq_true, Bool.or_eq_true, Bool.not_eq_true', Bool.not_eq_eq_eq_not, decide_eq_false_iff_not, decide_not, bne_iff_ne, beq_iff_eq, ne_eq, not_true_eq_false, not_false_eq_true, List.getElem?_set_self, List.getElem?_set_ne, List.length_set, true_or, or_true, false_or, or_false, and_true, true_and, and_false, false_and, eq_self, and_self, or_self, List.set_set, String.reduceBEq, beq_self_eq_true, bne_self_eq_false])
local macro_rules | `(tactic| walk_at "wh") => `(tactic| simp only [↓eS_unl, ↓eS_try2, ↓eV_bind, ↓eS_then, ↓eV_val, ↓eV_exc, ↓eV_bot, ↓eS_nxt, ↓eS_rt, ↓eS_bk, ↓eS_ct, ↓eS_ex, ↓eS_bot, ↓eO_some, ↓eO_none, ↓eV_ite, ↓eS_ite, ↓eO_ite, ↓eS_seq, ↓eS_ftup, ↓eS_flst, ↓eS_frol, ↓eS_frng, ↓eS_ftxt, ↓eS_try, ↓eS_tryO, ↓eV_opt, ↓eS_opt, sNx, sIf, sRet, sEx, sSet, sSetL, sSetG, sSetN, sAsg, sPar, sFor, sRaise, sFldS, sFldG, sApp, sPop, nSl, sLm, kApp, sStL, sAugL, sAug, sDput, sRetG, putL, putE, putS, lstAt, Ev.cellOf, plOf, frzE, eC, eVar, e2, eTup, eLst, eFn, eCall, eAnd, eOr, eNot, eIf, eCh, eSl, oNone, oSome, bT, tT1, tAnd', tOr', tNot', tAll, eFld, eMeth, eMake, eSha, eFrz, nLst, nDct, tIte, fListD, eDget2, eIs, eNeg, rRng1, rRng2, nLstR, eTupR, eErrP, eErrN, eIsErr, wSeq, wRng1, wRng2, wOf, aCons, aNil, gAdd, Ev.gSub, gMulA, gMul, gDiv, gMod, gPow, gShl, gShr, gXor, gInt, gB, cEq, cNe, cLt, cLe, cGt, cGe, cOrd, cIsN, cNotN, cIsB, cNotB, cIn, cNotIn, gIx, slX, gDix, cDin, cDnin, fLen, fAbs, fInt, fOrd, fChr, fMax, fMin, fList, fTuple, fAll, fAny, datOf, dep, eqD, eqL, truX, seqOf, lstOf, dctAt, Ev.keyOf, nDctL, pairKV, dctOf, gN, gNl, gCs, gT, tyName, isT, iAdd, iSub, Ev.isNon, mulC, Ev.small64, powC, divC, modC, shrC, ixN, sExt, arrOf, eJoin, eRev, nAdd, nList, eS1, eSign, eEqO, gEqO, eqArg, eIsC, List.flatten_cons, List.flatten_nil, WV, WO, WS, wi_rng, wi_tup, wi_lst, wi_rol, wi_txt, wipe_cons, wipe_nil, nat0, Int.zero_add, Int.toNat_natCast, List.length_map, le_line, objAt_own, obj_non, obj_bl, obj_int, obj_str, obj_tup, obj_lst, Option.isSome_none, Nat.lt_add_one, lt_pr, gt_pr, le_pr, ge_pr, lookD_cons, look_tbl, all_inl, map_inl, putD_cons, putD_nil, str_eq, atI_eq, datL_cons, datL_nil, fnEnv, List.map_cons, List.map_nil, List.cons_append, List.nil_append, List.length_cons, List.length_nil, List.getElem?_cons_succ, List.getElem?_cons_zero, List.replicate_succ, List.replicate_zero, List.set_cons_succ, List.set_cons_zero, List.getElem?_nil, List.take_succ_cons, List.take_zero, List.take_nil, List.mem_cons, List.not_mem_nil, List.zip_cons_cons, List.zip_nil_right, List.foldl_cons, List.foldl_nil, Option.map_some, Option.map_none, Option.isSome_some, Option.getD_some, List.isEmpty_cons, List.isEmpty_nil, List.all_cons, List.all_nil, Nat.reduceAdd, Nat.reducePow, Int.reducePow, Int.reduceAbs, Int.reduceDiv, Int.reduceMod, Nat.reduceSub, Nat.reduceLT, Nat.reduceLeDiff, Nat.reduceEqDiff, Int.reduceLE, Int.reduceLT, Int.reduceSub, Int.reduceMul, Nat.reduceMul, Int.cast_ofNat_Int, Int.reduceToNat, Int.reduceNeg, Int.reduceAdd, Int.reduceEq, String.reduceEq, reduceIte, reduceCtorEq, if_true, if_false, if_pos, if_neg, Bool.false_eq_true, decide_true, decide_false, decide_eq_true_eq, Bool.not_true, Bool.not_false, Bool.and_true, Bool.true_and, Bool.and_false, Bool.false_and, Bool.or_true, Bool.true_or, Bool.or_false, Bool.false_or, Bool.and_self, Bool.or_self, Bool.and_eq_true, Bool.or_eq_true, Bool.not_eq_true', Bool.not_eq_eq_eq_not, decide_eq_false_iff_not, decide_not, bne_iff_ne, beq_iff_eq, ne_eq, not_true_eq_false, not_false_eq_true, List.getElem?_set_self, List.getElem?_set_ne, List.length_set, true_or, or_true, false_or, or_false, and_true, true_and, and_false, false_and, eq_self, and_self, or_self, List.set_set, String.reduceBEq, beq_self_eq_true, bne_self_eq_false, *])
local macro_rules | `(tactic| walk_at "wu") => `(tactic| simp only [↓eS_unl, ↓eS_try2, ↓eV_bind, ↓eS_then, ↓eV_val, ↓eV_exc, ↓eV_bot, ↓eS_nxt, ↓eS_rt, ↓eS_bk, ↓eS_ct, ↓eS_ex, ↓eS_bot, ↓eO_some, ↓eO_none, ↓eV_ite, ↓eS_ite, ↓eO_ite, ↓eS_seq, ↓eS_ftup, ↓eS_flst, ↓eS_frol, ↓eS_frng, ↓eS_ftxt, ↓eS_try, ↓eS_tryO, ↓eV_opt, ↓eS_opt, sNx, sIf, sRet, sEx, sSet, sSetL, sSetG, sSetN, sAsg, sPar, sFor, sRaise, sFldS, sFldG, sApp, sPop, nSl, sLm, kApp, sStL, sAugL, sAug, sDput, sRetG, putL, putE, putS, lstAt, Ev.cellOf, plOf, frzE, eC, eVar, e2, eTup, eLst, eFn, eCall, eAnd, eOr, eNot, eIf, eCh, eSl, oNone, oSome, bT, tT1, tAnd', tOr', tNot', tAll, eFld, eMeth, eMake, eSha, eFrz, nLst, nDct, tIte, fListD, eDget2, eIs, eNeg, rRng1, rRng2, nLstR, eTupR, eErrP, eErrN, eIsErr, wSeq, wRng1, wRng2, wOf, aCons, aNil, gAdd, Ev.gSub, gMulA, gMul, gDiv, gMod, gPow, gShl, gShr, gXor, gInt, gB, cEq, cNe, cLt, cLe, cGt, cGe, cOrd, cIsN, cNotN, cIsB, cNotB, cIn, cNotIn, gIx, slX, gDix, cDin, cDnin, fLen, fAbs, fInt, fOrd, fChr, fMax, fMin, fList, fTuple, fAll, fAny, datOf, dep, eqD, eqL, truX, seqOf, lstOf, dctAt, Ev.keyOf, nDctL, pairKV, dctOf, gN, gNl, gCs, gT, tyName, isT, iAdd, iSub, Ev.isNon, mulC, Ev.small64, powC, divC, modC, shrC, ixN, sExt, arrOf, eJoin, eRev, nAdd, nList, eS1, eSign, eEqO, gEqO, eqArg, eIsC, List.flatten_cons, List.flatten_nil, WV, WO, WS, wi_rng, wi_tup, wi_lst, wi_rol, wi_txt, wipe_cons, wipe_nil, nat0, Int.zero_add, Int.toNat_natCast, List.length_map, le_line, objAt_own, obj_non, obj_bl, obj_int, obj_str, obj_tup, obj_lst, Option.isSome_none, Nat.lt_add_one, lt_pr, gt_pr, le_pr, ge_pr, lookD_cons, look_tbl, all_inl, map_inl, putD_cons, putD_nil, str_eq, atI_eq, datL_cons, datL_nil, fnEnv, List.map_cons, List.map_nil, List.cons_append, List.nil_append, List.length_cons, List.length_nil, List.getElem?_cons_succ, List.getElem?_cons_zero, List.replicate_succ, List.replicate_zero, List.set_cons_succ, List.set_cons_zero, List.getElem?_nil, List.take_succ_cons, List.take_zero, List.take_nil, List.mem_cons, List.not_mem_nil, List.zip_cons_cons, List.zip_nil_right, List.foldl_cons, List.foldl_nil, Option.map_some, Option.map_none, Option.isSome_some, Option.getD_some, List.isEmpty_cons, List.isEmpty_nil, List.all_cons, List.all_nil, Nat.reduceAdd, Nat.reducePow, Int.reducePow, Int.reduceAbs, Int.reduceDiv, Int.reduceMod, Nat.reduceSub, Nat.reduceLT, Nat.reduceLeDiff, Nat.reduceEqDiff, Int.reduceLE, Int.reduceLT, Int.reduceSub, Int.reduceMul, Nat.reduceMul, Int.cast_ofNat_Int, Int.reduceToNat, Int.reduceNeg, Int.reduceAdd, Int.reduceEq, String.reduceEq, reduceIte, reduceCtorEq, if_true, if_false, if_pos, if_neg, Bool.false_eq_true, decide_true, decide_false, decide_eq_true_eq, Bool.not_true, Bool.not_false, Bool.and_true, Bool.true_and, Bool.and_false, Bool.false_and, Bool.or_true, Bool.true_or, Bool.or_false, Bool.false_or, Bool.and_self, Bool.or_self, Bool.and_eq_true, Bool.or_eq_true, Bool.not_eq_true', Bool.not_eq_eq_eq_not, decide_eq_false_iff_not, decide_not, bne_iff_ne, beq_iff_eq, ne_eq, not_true_eq_false, not_false_eq_true, List.getElem?_set_self, List.getElem?_set_ne, List.length_set, true_or, or_true, false_or, or_false, and_true, true_and, and_false, false_and, eq_self, and_self, or_self, List.set_set, String.reduceBEq, beq_self_eq_true, bne_self_eq_false, ↓eS_fcons, ↓eS_fnil, *])
local macro_rules | `(tactic| walk_at "wm") => `(tactic| simp only [↓eS_unl, ↓eS_try2, ↓eV_bind, ↓eS_then, ↓eV_val, ↓eV_exc, ↓eV_bot, ↓eS_nxt, ↓eS_rt, ↓eS_bk, ↓eS_ct, ↓eS_ex, ↓eS_bot, ↓eO_some, ↓eO_none, ↓eV_ite, ↓eS_ite, ↓eO_ite, ↓eS_seq, ↓eS_ftup, ↓eS_flst, ↓eS_frol, ↓eS_frng, ↓eS_ftxt, ↓eS_try, ↓eS_tryO, ↓eV_opt, ↓eS_opt, sNx, sIf, sRet, sEx, sSet, sSetL, sSetG, sSetN, sAsg, sPar, sFor, sRaise, sFldS, sFldG, sApp, sPop, nSl, sLm, kApp, sStL, sAugL, sAug, sDput, sRetG, putL, putE, putS, lstAt, Ev.cellOf, plOf, frzE, eC, eVar, e2, eTup, eLst, eFn, eCall, eAnd, eOr, eNot, eIf, eCh, eSl, oNone, oSome, bT, tT1, tAnd', tOr', tNot', tAll, eFld, eMeth, eMake, eSha, eFrz, nLst, nDct, tIte, fListD, eDget2, eIs, eNeg, rRng1, rRng2, nLstR, eTupR, eErrP, eErrN, eIsErr, wSeq, wRng1, wRng2, wOf, aCons, aNil, gAdd, Ev.gSub, gMulA, gMul, gDiv, gMod, gPow, gShl, gShr, gXor, gInt, gB, cEq, cNe, cLt, cLe, cGt, cGe, cOrd, cIsN, cNotN, cIsB, cNotB, gIx, slX, gDix, cDin, cDnin, fLen, fAbs, fInt, fOrd, fChr, fMax, fMin, fList, fTuple, fAll, fAny, datOf, dep, eqD, eqL, truX, seqOf, lstOf, dctAt, Ev.keyOf, nDctL, pairKV, dctOf, gN, gNl, gCs, gT, tyName, isT, iAdd, iSub, Ev.isNon, mulC, Ev.small64, powC, divC, modC, shrC, ixN, sExt, arrOf, eJoin, eRev, nAdd, nList, eS1, eSign, eEqO, gEqO, eqArg, eIsC, List.flatten_cons, List.flatten_nil, WV, WO, WS, wi_rng, wi_tup, wi_lst, wi_rol, wi_txt, wipe_cons, wipe_nil, nat0, Int.zero_add, Int.toNat_natCast, List.length_map, le_line, objAt_own, obj_non, obj_bl, obj_int, obj_str, obj_tup, obj_lst, Option.isSome_none, Nat.lt_add_one, lt_pr, gt_pr, le_pr, ge_pr, lookD_cons, look_tbl, all_inl, map_inl, putD_cons, putD_nil, str_eq, atI_eq, datL_cons, datL_nil, fnEnv, List.map_cons, List.map_nil, List.cons_append, List.nil_append, List.length_cons, List.length_nil, List.getElem?_cons_succ, List.getElem?_cons_zero, List.replicate_succ, List.replicate_zero, List.set_cons_succ, List.set_cons_zero, List.getElem?_nil, List.take_succ_cons, List.take_zero, List.take_nil, List.mem_cons, List.not_mem_nil, List.zip_cons_cons, List.zip_nil_right, List.foldl_cons, List.foldl_nil, Option.map_some, Option.map_none, Option.isSome_some, Option.getD_some, List.isEmpty_cons, List.isEmpty_nil, List.all_cons, List.all_nil, Nat.reduceAdd, Nat.reducePow, Int.reducePow, Int.reduceAbs, Int.reduceDiv, Int.reduceMod, Nat.reduceSub, Nat.reduceLT, Nat.reduceLeDiff, Nat.reduceEqDiff, Int.reduceLE, Int.reduceLT, Int.reduceSub, Int.reduceMul, Nat.reduceMul, Int.cast_ofNat_Int, Int.reduceToNat, Int.reduceNeg, Int.reduceAdd, Int.reduceEq, String.reduceEq, reduceIte, reduceCtorEq, if_true, if_false, if_pos, if_neg, Bool.false_eq_true, decide_true, decide_false, decide_eq_true_eq, Bool.not_true, Bool.not_false, Bool.and_true, Bool.true_and, Bool.and_false, Bool.false_and, Bool.or_true, Bool.true_or, Bool.or_false, Bool.false_or, Bool.and_self, Bool.or_self, Bool.and_eq_true, Bool.or_eq_true, Bool.not_eq_true', Bool.not_eq_eq_eq_not, decide_eq_false_iff_not, decide_not, bne_iff_ne, beq_iff_eq, ne_eq, not_true_eq_false, not_false_eq_true, List.getElem?_set_self, List.getElem?_set_ne, List.length_set, true_or, or_true, false_or, or_false, and_true, true_and, and_false, false_and, eq_self, and_self, or_self, List.set_set, String.reduceBEq, beq_self_eq_true, bne_self_eq_false])
local macro_rules | `(tactic| walk_at "wn") => `(tactic| simp only [↓eS_unl, ↓eS_try2, ↓eV_bind, ↓eS_then, ↓eV_val, ↓eV_exc, ↓eV_bot, ↓eS_nxt, ↓eS_rt, ↓eS_bk, ↓eS_ct, ↓eS_ex, ↓eS_bot, ↓eO_some, ↓eO_none, ↓eV_ite, ↓eS_ite, ↓eO_ite, ↓eS_seq, ↓eS_ftup, ↓eS_flst, ↓eS_frol, ↓eS_frng, ↓eS_ftxt, ↓eS_try, ↓eS_tryO, ↓eV_opt, ↓eS_opt, sNx, sIf, sRet, sEx, sSet, sSetL, sSetG, sSetN, sAsg, sPar, sFor, sRaise, sFldS, sFldG, sApp, sPop, nSl, sLm, kApp, sStL, sAugL, sAug, sDput, sRetG, putL, putE, putS, lstAt, Ev.cellOf, plOf, frzE, eC, eVar, e2, eTup, eLst, eFn, eCall, eAnd, eOr, eNot, eIf, eCh, eSl, oNone, oSome, bT, tT1, tAnd', tOr', tNot', tAll, eFld, eMeth, eMake, eSha, eFrz, nLst, nDct, tIte, fListD, eDget2, eIs, eNeg, rRng1, rRng2, nLstR, eTupR, eErrP, eErrN, eIsErr, wSeq, wRng1, wRng2, wOf, aCons, aNil, gAdd, Ev.gSub, gMulA, gMul, gDiv, gMod, gPow, gShl, gShr, gXor, gInt, gB, cEq, cNe, cLt, cLe, cGt, cGe, cOrd, cIsN, cNotN, cIsB, cNotB, gIx, slX, gDix, cDin, cDnin, fLen, fAbs, fInt, fOrd, fChr, fMax, fMin, fList, fTuple, fAll, fAny, datOf, dep, eqD, eqL, truX, seqOf, lstOf, dctAt, Ev.keyOf, nDctL, pairKV, dctOf, gN, gNl, gCs, gT, tyName, isT, iAdd, iSub, Ev.isNon, mulC, Ev.small64, powC, divC, modC, shrC, ixN, sExt, arrOf, eJoin, eRev, nAdd, nList, eS1, eSign, eEqO, gEqO, eqArg, eIsC, List.flatten_cons, List.flatten_nil, WV, WO, WS, wi_rng, wi_tup, wi_lst, wi_rol, wi_txt, wipe_cons, wipe_nil, nat0, Int.zero_add, Int.toNat_natCast, List.length_map, le_line, objAt_own, obj_non, obj_bl, obj_int, obj_str, obj_tup, obj_lst, Option.isSome_none, Nat.lt_add_one, lt_pr, gt_pr, le_pr, ge_pr, lookD_cons, look_tbl, all_inl, map_inl, putD_cons, putD_nil, str_eq, atI_eq, datL_cons, datL_nil, fnEnv, List.map_cons, List.map_nil, List.cons_append, List.nil_append, List.length_cons, List.length_nil, List.getElem?_cons_succ, List.getElem?_cons_zero, List.replicate_succ, List.replicate_zero, List.set_cons_succ, List.set_cons_zero, List.getElem?_nil, List.take_succ_cons, List.take_zero, List.take_nil, List.mem_cons, List.not_mem_nil, List.zip_cons_cons, List.zip_nil_right, List.foldl_cons, List.foldl_nil, Option.map_some, Option.map_none, Option.isSome_some, Option.getD_some, List.isEmpty_cons, List.isEmpty_nil, List.all_cons, List.all_nil, Nat.reduceAdd, Nat.reducePow, Int.reducePow, Int.reduceAbs, Int.reduceDiv, Int.reduceMod, Nat.reduceSub, Nat.reduceLT, Nat.reduceLeDiff, Nat.reduceEqDiff, Int.reduceLE, Int.reduceLT, Int.reduceSub, Int.reduceMul, Nat.reduceMul, Int.cast_ofNat_Int, Int.reduceToNat, Int.reduceNeg, Int.reduceAdd, Int.reduceEq, String.reduceEq, reduceIte, reduceCtorEq, if_true, if_false, if_pos, if_neg, Bool.false_eq_true, decide_true, decide_false, decide_eq_true_eq, Bool.not_true, Bool.not_false, Bool.and_true, Bool.true_and, Bool.and_false, Bool.false_and, Bool.or_true, Bool.true_or, Bool.or_false, Bool.false_or, Bool.and_self, Bool.or_self, Bool.and_eq_true, Bool.or_eq_true, Bool.not_eq_true', Bool.not_eq_eq_eq_not, decide_eq_false_iff_not, decide_not, bne_iff_ne, beq_iff_eq, ne_eq, not_true_eq_false, not_false_eq_true, List.getElem?_set_self, List.getElem?_set_ne, List.length_set, true_or, or_true, false_or, or_false, and_true, true_and, and_false, false_and, eq_self, and_self, or_self, List.set_set, String.reduceBEq, beq_self_eq_true, bne_self_eq_false, *])

def ask0 : List D := [.str [47, 97, 47, 98], .str [97, 110, 110], .tup [.tup [.str [102], .str []], .tup [.str [108, 97, 110, 103], .str [120, 32, 121]]], .tup [.tup [.str [113], .str [49]]]]
def world0 : List D := [.int 3, .tup [.tup [.str [47], .int 1], .tup [.str [47, 97], .int 9]], .tup [.tup [.str [47, 97], .int 1]]]
def wr0 : List D := [.str [], .str [97], .str [47, 97, 47], .str [47, 97, 47, 46, 46, 47, 98], .int 5, .non, .str [47, 97, 32, 98]]
def wr1 : List D := [.str [], .str [97, 32, 98], .int 5, .str [97, 97, 97, 97, 97, 97, 97, 97, 97, 97, 97, 97, 97, 97, 97, 97, 97, 97, 97, 97, 97]]
def wr2 : List D := [.non, .lst [.tup [.str [102], .str []]], .tup [.tup [.str [102]]], .tup [.tup [.str [102], .int 5]], .tup [.tup [.str [108, 97, 110, 103], .str [120]], .tup [.str [102], .str []]], .tup [.tup [.str [102], .str []], .tup [.str [102], .str []]], .tup [.tup [.str [70], .str []]], .tup [.str [102], .str []], .tup [.tup [.str [102], .str [97, 9, 98]]], .tup [.tup [.str [102], .str [10]]]]
def wr3 : List D := [.non, .tup [.tup [.str [113], .non]], .tup [.int 5]]
def ba0 : List D := [.int (-1), .bl true, .non, .str [51]]
def ba1 : List D := [.non, .lst [.tup [.str [47, 97], .int 1]], .tup [.tup [.str [47, 97], .int 0]], .tup [.tup [.str [47, 97], .bl true]], .tup [.tup [.str [47, 97, 47], .int 1]], .tup [.tup [.str [47, 98], .int 1], .tup [.str [47, 97], .int 1]], .tup [.tup [.str [47, 97], .int 1], .tup [.str [47, 97], .int 1]], .tup [.tup [.str [47, 97]]]]
def ba2 : List D := [.int 5, .tup [.tup [.str [97], .int 1]], .tup [.tup [.str [47, 97], .str [49]]]]
section
variable {S : List Cell}
theorem ask_ok : C_is_ask [.tup ask0] S = .val (.bl true) S := rfl
theorem world_ok : C_is_state [.tup world0] S = .val (.bl true) S := rfl
theorem state_non : C_is_state [.non] S = .val (.bl false) S := rfl
theorem ask_0 {d : D} (h : d ∈ wr0) : C_is_ask [.tup (ask0.set 0 d)] S = .val (.bl false) S := by
  unfold wr0 at h
  simp only [List.mem_cons, List.not_mem_nil, or_false] at h
  rcases h with rfl | rfl | rfl | rfl | rfl | rfl | rfl <;> rfl
theorem ask_1 {d : D} (h : d ∈ wr1) : C_is_ask [.tup (ask0.set 1 d)] S = .val (.bl false) S := by
  unfold wr1 at h
  simp only [List.mem_cons, List.not_mem_nil, or_false] at h
  rcases h with rfl | rfl | rfl | rfl <;> rfl
theorem ask_2 {d : D} (h : d ∈ wr2) : C_is_ask [.tup (ask0.set 2 d)] S = .val (.bl false) S := by
  unfold wr2 at h
  simp only [List.mem_cons, List.not_mem_nil, or_false] at h
  rcases h with rfl | rfl | rfl | rfl | rfl | rfl | rfl | rfl | rfl | rfl <;> rfl
theorem ask_3 {d : D} (h : d ∈ wr3) : C_is_ask [.tup (ask0.set 3 d)] S = .val (.bl false) S := by
  unfold wr3 at h
  simp only [List.mem_cons, List.not_mem_nil, or_false] at h
  rcases h with rfl | rfl | rfl <;> rfl
theorem world_0 {d : D} (h : d ∈ ba0) : C_is_state [.tup (world0.set 0 d)] S = .val (.bl false) S := by
  unfold ba0 at h
  simp only [List.mem_cons, List.not_mem_nil, or_false] at h
  rcases h with rfl | rfl | rfl | rfl <;> rfl
theorem world_1 {d : D} (h : d ∈ ba1) : C_is_state [.tup (world0.set 1 d)] S = .val (.bl false) S := by
  unfold ba1 at h
  simp only [List.mem_cons, List.not_mem_nil, or_false] at h
  rcases h with rfl | rfl | rfl | rfl | rfl | rfl | rfl | rfl <;> rfl
theorem world_2 {d : D} (h : d ∈ ba2) : C_is_state [.tup (world0.set 2 d)] S = .val (.bl false) S := by
  unfold ba2 at h
  simp only [List.mem_cons, List.not_mem_nil, or_false] at h
  rcases h with rfl | rfl | rfl <;> rfl
theorem ask_lst {ds : List D} : C_is_ask [.lst ds] S = .val (.bl false) S := by
  apply eq_of_WV
  unfold C_is_ask b_is_ask
  rw [WV, eV_fn]
  walk_at "ws"
end
end Law

namespace Law
open PySem L2 Ev
local macro_rules | `(tactic| walk_at "ws") => `(tactic| simp only [↓eS_unl, ↓eS_try2, ↓eV_bind, ↓eS_then, ↓eV_val, ↓eV_exc, ↓eV_bot, ↓eS_nxt, ↓eS_rt, ↓eS_bk, ↓eS_ct, ↓eS_ex, ↓eS_bot, ↓eO_some, ↓eO_none, ↓eV_ite, ↓eS_ite, ↓eO_ite, ↓eS_seq, ↓eS_ftup, ↓eS_flst, ↓eS_frol, ↓eS_frng, ↓eS_ftxt, ↓eS_try, ↓eS_tryO, ↓eV_opt, ↓eS_opt, sNx, sIf, sRet, sEx, sSet, sSetL, sSetG, sSetN, sAsg, sPar, sFor, sRaise, sFldS, sFldG, sApp, sPop, nSl, sLm, kApp, sStL, sAugL, sAug, sDput, sRetG, putL, putE, putS, lstAt, Ev.cellOf, plOf, frzE, eC, eVar, e2, eTup, eLst, eFn, eCall, eAnd, eOr, eNot, eIf, eCh, eSl, oNone, oSome, bT, tT1, tAnd', tOr', tNot', tAll, eFld, eMeth, eMake, eSha, eFrz, nLst, nDct, tIte, fListD, eDget2, eIs, eNeg, rRng1, rRng2, nLstR, eTupR, eErrP, eErrN, eIsErr, wSeq, wRng1, wRng2, wOf, aCons, aNil, gAdd, Ev.gSub, gMulA, gMul, gDiv, gMod, gPow, gShl, gShr, gXor, gInt, gB, cEq, cNe, cLt, cLe, cGt, cGe, cOrd, cIsN, cNotN, cIsB, cNotB, cIn, cNotIn, gIx, slX, gDix, cDin, cDnin, fLen, fAbs, fInt, fOrd, fChr, fMax, fMin, fList, fTuple, fAll, fAny, datOf, dep, eqD, eqL, truX, seqOf, lstOf, dctAt, Ev.keyOf, nDctL, pairKV, dctOf, gN, gNl, gCs, gT, tyName, isT, iAdd, iSub, Ev.isNon, mulC, Ev.small64, powC, divC, modC, shrC, ixN, sExt, arrOf, eJoin, eRev, nAdd, nList, eS1, eSign, eEqO, gEqO, eqArg, eIsC, List.flatten_cons, List.flatten_nil, WV, WO, WS, wi_rng, wi_tup, wi_lst, wi_rol, wi_txt, wipe_cons, wipe_nil, nat0, Int.zero_add, Int.toNat_natCast, List.length_map, le_line, objAt_own, obj_non, obj_bl, obj_int, obj_str, obj_tup, obj_lst, Option.isSome_none, Nat.lt_add_one, lt_pr, gt_pr, le_pr, ge_pr, lookD_cons, look_tbl, all_inl, map_inl, putD_cons, putD_nil, str_eq, atI_eq, datL_cons, datL_nil, fnEnv, List.map_cons, List.map_nil, List.cons_append, List.nil_append, List.length_cons, List.length_nil, List.getElem?_cons_succ, List.getElem?_cons_zero, List.replicate_succ, List.replicate_zero, List.set_cons_succ, List.set_cons_zero, List.getElem?_nil, List.take_succ_cons, List.take_zero, List.take_nil, List.mem_cons, List.not_mem_nil, List.zip_cons_cons, List.zip_nil_right, List.foldl_cons, List.foldl_nil, Option.map_some, Option.map_none, Option.isSome_some, Option.getD_some, List.isEmpty_cons, List.isEmpty_nil, List.all_cons, List.all_nil, Nat.reduceAdd, Nat.reducePow, Int.reducePow, Int.reduceAbs, Int.reduceDiv, Int.reduceMod, Nat.reduceSub, Nat.reduceLT, Nat.reduceLeDiff, Nat.reduceEqDiff, Int.reduceLE, Int.reduceLT, Int.reduceSub, Int.reduceMul, Nat.reduceMul, Int.cast_ofNat_Int, Int.reduceToNat, Int.reduceNeg, Int.reduceAdd, Int.reduceEq, String.reduceEq, reduceIte, reduceCtorEq, if_true, if_false, if_pos, if_neg, Bool.false_eq_true, decide_true, decide_false, decide_eq_true_eq, Bool.not_true, Bool.not_false, Bool.and_true, Bool.true_and, Bool.and_false, Bool.false_and, Bool.or_true, Bool.true_or, Bool.or_false, Bool.false_or, Bool.and_self, Bool.or_self, Bool.and_eq_true, Bool.or_eq_true, Bool.not_eq_true', Bool.not_eq_eq_eq_not, decide_eq_false_iff_not, decide_not, bne_iff_ne, beq_iff_eq, ne_eq, not_true_eq_false, not_false_eq_true, List.getElem?_set_self, List.getElem?_set_ne, List.length_set, true_or, or_true, false_or, or_false, and_true, true_and, and_false, false_and, eq_self, and_self, or_self, List.set_set, String.reduceBEq, beq_self_eq_true, bne_self_eq_false, dr, get_k, k_lo])
local macro_rules | `(tactic| walk_at "wh") => `(tactic| simp only [↓eS_unl, ↓eS_try2, ↓eV_bind, ↓eS_then, ↓eV_val, ↓eV_exc, ↓eV_bot, ↓eS_nxt, ↓eS_rt, ↓eS_bk, ↓eS_ct, ↓eS_ex, ↓eS_bot, ↓eO_some, ↓eO_none, ↓eV_ite, ↓eS_ite, ↓eO_ite, ↓eS_seq, ↓eS_ftup, ↓eS_flst, ↓eS_frol, ↓eS_frng, ↓eS_ftxt, ↓eS_try, ↓eS_tryO, ↓eV_opt, ↓eS_opt, sNx, sIf, sRet, sEx, sSet, sSetL, sSetG, sSetN, sAsg, sPar, sFor, sRaise, sFldS, sFldG, sApp, sPop, nSl, sLm, kApp, sStL, sAugL, sAug, sDput, sRetG, putL, putE, putS, lstAt, Ev.cellOf, plOf, frzE, eC, eVar, e2, eTup, eLst, eFn, eCall, eAnd, eOr, eNot, eIf, eCh, eSl, oNone, oSome, bT, tT1, tAnd', tOr', tNot', tAll, eFld, eMeth, eMake, eSha, eFrz, nLst, nDct, tIte, fListD, eDget2, eIs, eNeg, rRng1, rRng2, nLstR, eTupR, eErrP, eErrN, eIsErr, wSeq, wRng1, wRng2, wOf, aCons, aNil, gAdd, Ev.gSub, gMulA, gMul, gDiv, gMod, gPow, gShl, gShr, gXor, gInt, gB, cEq, cNe, cLt, cLe, cGt, cGe, cOrd, cIsN, cNotN, cIsB, cNotB, cIn, cNotIn, gIx, slX, gDix, cDin, cDnin, fLen, fAbs, fInt, fOrd, fChr, fMax, fMin, fList, fTuple, fAll, fAny, datOf, dep, eqD, eqL, truX, seqOf, lstOf, dctAt, Ev.keyOf, nDctL, pairKV, dctOf, gN, gNl, gCs, gT, tyName, isT, iAdd, iSub, Ev.isNon, mulC, Ev.small64, powC, divC, modC, shrC, ixN, sExt, arrOf, eJoin, eRev, nAdd, nList, eS1, eSign, eEqO, gEqO, eqArg, eIsC, List.flatten_cons, List.flatten_nil, WV, WO, WS, wi_rng, wi_tup, wi_lst, wi_rol, wi_txt, wipe_cons, wipe_nil, nat0, Int.zero_add, Int.toNat_natCast, List.length_map, le_line, objAt_own, obj_non, obj_bl, obj_int, obj_str, obj_tup, obj_lst, Option.isSome_none, Nat.lt_add_one, lt_pr, gt_pr, le_pr, ge_pr, lookD_cons, look_tbl, all_inl, map_inl, putD_cons, putD_nil, str_eq, atI_eq, datL_cons, datL_nil, fnEnv, List.map_cons, List.map_nil, List.cons_append, List.nil_append, List.length_cons, List.length_nil, List.getElem?_cons_succ, List.getElem?_cons_zero, List.replicate_succ, List.replicate_zero, List.set_cons_succ, List.set_cons_zero, List.getElem?_nil, List.take_succ_cons, List.take_zero, List.take_nil, List.mem_cons, List.not_mem_nil, List.zip_cons_cons, List.zip_nil_right, List.foldl_cons, List.foldl_nil, Option.map_some, Option.map_none, Option.isSome_some, Option.getD_some, List.isEmpty_cons, List.isEmpty_nil, List.all_cons, List.all_nil, Nat.reduceAdd, Nat.reducePow, Int.reducePow, Int.reduceAbs, Int.reduceDiv, Int.reduceMod, Nat.reduceSub, Nat.reduceLT, Nat.reduceLeDiff, Nat.reduceEqDiff, Int.reduceLE, Int.reduceLT, Int.reduceSub, Int.reduceMul, Nat.reduceMul, Int.cast_ofNat_Int, Int.reduceToNat, Int.reduceNeg, Int.reduceAdd, Int.reduceEq, String.reduceEq, reduceIte, reduceCtorEq, if_true, if_false, if_pos, if_neg, Bool.false_eq_true, decide_true, decide_false, decide_eq_true_eq, Bool.not_true, Bool.not_false, Bool.and_true, Bool.true_and, Bool.and_false, Bool.false_and, Bool.or_true, Bool.true_or, Bool.or_false, Bool.false_or, Bool.and_self, Bool.or_self, Bool.and_eq_true, Bool.or_eq_true, Bool.not_eq_true', Bool.not_eq_eq_eq_not, decide_eq_false_iff_not, decide_not, bne_iff_ne, beq_iff_eq, ne_eq, not_true_eq_false, not_false_eq_true, List.getElem?_set_self, List.getElem?_set_ne, List.length_set, true_or, or_true, false_or, or_false, and_true, true_and, and_false, false_and, eq_self, and_self, or_self, List.set_set, String.reduceBEq, beq_self_eq_true, bne_self_eq_false, dr, get_k, k_lo, *])
local macro_rules | `(tactic| walk_at "wu") => `(tactic| simp only [↓eS_unl, ↓eS_try2, ↓eV_bind, ↓eS_then, ↓eV_val, ↓eV_exc, ↓eV_bot, ↓eS_nxt, ↓eS_rt, ↓eS_bk, ↓eS_ct, ↓eS_ex, ↓eS_bot, ↓eO_some, ↓eO_none, ↓eV_ite, ↓eS_ite, ↓eO_ite, ↓eS_seq, ↓eS_ftup, ↓eS_flst, ↓eS_frol, ↓eS_frng, ↓eS_ftxt, ↓eS_try, ↓eS_tryO, ↓eV_opt, ↓eS_opt, sNx, sIf, sRet, sEx, sSet, sSetL, sSetG, sSetN, sAsg, sPar, sFor, sRaise, sFldS, sFldG, sApp, sPop, nSl, sLm, kApp, sStL, sAugL, sAug, sDput, sRetG, putL, putE, putS, lstAt, Ev.cellOf, plOf, frzE, eC, eVar, e2, eTup, eLst, eFn, eCall, eAnd, eOr, eNot, eIf, eCh, eSl, oNone, oSome, bT, tT1, tAnd', tOr', tNot', tAll, eFld, eMeth, eMake, eSha, eFrz, nLst, nDct, tIte, fListD, eDget2, eIs, eNeg, rRng1, rRng2, nLstR, eTupR, eErrP, eErrN, eIsErr, wSeq, wRng1, wRng2, wOf, aCons, aNil, gAdd, Ev.gSub, gMulA, gMul, gDiv, gMod, gPow, gShl, gShr, gXor, gInt, gB, cEq, cNe, cLt, cLe, cGt, cGe, cOrd, cIsN, cNotN, cIsB, cNotB, cIn, cNotIn, gIx, slX, gDix, cDin, cDnin, fLen, fAbs, fInt, fOrd, fChr, fMax, fMin, fList, fTuple, fAll, fAny, datOf, dep, eqD, eqL, truX, seqOf, lstOf, dctAt, Ev.keyOf, nDctL, pairKV, dctOf, gN, gNl, gCs, gT, tyName, isT, iAdd, iSub, Ev.isNon, mulC, Ev.small64, powC, divC, modC, shrC, ixN, sExt, arrOf, eJoin, eRev, nAdd, nList, eS1, eSign, eEqO, gEqO, eqArg, eIsC, List.flatten_cons, List.flatten_nil, WV, WO, WS, wi_rng, wi_tup, wi_lst, wi_rol, wi_txt, wipe_cons, wipe_nil, nat0, Int.zero_add, Int.toNat_natCast, List.length_map, le_line, objAt_own, obj_non, obj_bl, obj_int, obj_str, obj_tup, obj_lst, Option.isSome_none, Nat.lt_add_one, lt_pr, gt_pr, le_pr, ge_pr, lookD_cons, look_tbl, all_inl, map_inl, putD_cons, putD_nil, str_eq, atI_eq, datL_cons, datL_nil, fnEnv, List.map_cons, List.map_nil, List.cons_append, List.nil_append, List.length_cons, List.length_nil, List.getElem?_cons_succ, List.getElem?_cons_zero, List.replicate_succ, List.replicate_zero, List.set_cons_succ, List.set_cons_zero, List.getElem?_nil, List.take_succ_cons, List.take_zero, List.take_nil, List.mem_cons, List.not_mem_nil, List.zip_cons_cons, List.zip_nil_right, List.foldl_cons, List.foldl_nil, Option.map_some, Option.map_none, Option.isSome_some, Option.getD_some, List.isEmpty_cons, List.isEmpty_nil, List.all_cons, List.all_nil, Nat.reduceAdd, Nat.reducePow, Int.reducePow, Int.reduceAbs, Int.reduceDiv, Int.reduceMod, Nat.reduceSub, Nat.reduceLT, Nat.reduceLeDiff, Nat.reduceEqDiff, Int.reduceLE, Int.reduceLT, Int.reduceSub, Int.reduceMul, Nat.reduceMul, Int.cast_ofNat_Int, Int.reduceToNat, Int.reduceNeg, Int.reduceAdd, Int.reduceEq, String.reduceEq, reduceIte, reduceCtorEq, if_true, if_false, if_pos, if_neg, Bool.false_eq_true, decide_true, decide_false, decide_eq_true_eq, Bool.not_true, Bool.not_false, Bool.and_true, Bool.true_and, Bool.and_false, Bool.false_and, Bool.or_true, Bool.true_or, Bool.or_false, Bool.false_or, Bool.and_self, Bool.or_self, Bool.and_eq_true, Bool.or_eq_true, Bool.not_eq_true', Bool.not_eq_eq_eq_not, decide_eq_false_iff_not, decide_not, bne_iff_ne, beq_iff_eq, ne_eq, not_true_eq_false, not_false_eq_true, List.getElem?_set_self, List.getElem?_set_ne, List.length_set, true_or, or_true, false_or, or_false, and_true, true_and, and_false, false_and, eq_self, and_self, or_self, List.set_set, String.reduceBEq, beq_self_eq_true, bne_self_eq_false, dr, get_k, k_lo, ↓eS_fcons, ↓eS_fnil, *])
local macro_rules | `(tactic| walk_at "wm") => `(tactic| simp only [↓eS_unl, ↓eS_try2, ↓eV_bind, ↓eS_then, ↓eV_val, ↓eV_exc, ↓eV_bot, ↓eS_nxt, ↓eS_rt, ↓eS_bk, ↓eS_ct, ↓eS_ex, ↓eS_bot, ↓eO_some, ↓eO_none, ↓eV_ite, ↓eS_ite, ↓eO_ite, ↓eS_seq, ↓eS_ftup, ↓eS_flst, ↓eS_frol, ↓eS_frng, ↓eS_ftxt, ↓eS_try, ↓eS_tryO, ↓eV_opt, ↓eS_opt, sNx, sIf, sRet, sEx, sSet, sSetL, sSetG, sSetN, sAsg, sPar, sFor, sRaise, sFldS, sFldG, sApp, sPop, nSl, sLm, kApp, sStL, sAugL, sAug, sDput, sRetG, putL, putE, putS, lstAt, Ev.cellOf, plOf, frzE, eC, eVar, e2, eTup, eLst, eFn, eCall, eAnd, eOr, eNot, eIf, eCh, eSl, oNone, oSome, bT, tT1, tAnd', tOr', tNot', tAll, eFld, eMeth, eMake, eSha, eFrz, nLst, nDct, tIte, fListD, eDget2, eIs, eNeg, rRng1, rRng2, nLstR, eTupR, eErrP, eErrN, eIsErr, wSeq, wRng1, wRng2, wOf, aCons, aNil, gAdd, Ev.gSub, gMulA, gMul, gDiv, gMod, gPow, gShl, gShr, gXor, gInt, gB, cEq, cNe, cLt, cLe, cGt, cGe, cOrd, cIsN, cNotN, cIsB, cNotB, gIx, slX, gDix, cDin, cDnin, fLen, fAbs, fInt, fOrd, fChr, fMax, fMin, fList, fTuple, fAll, fAny, datOf, dep, eqD, eqL, truX, seqOf, lstOf, dctAt, Ev.keyOf, nDctL, pairKV, dctOf, gN, gNl, gCs, gT, tyName, isT, iAdd, iSub, Ev.isNon, mulC, Ev.small64, powC, divC, modC, shrC, ixN, sExt, arrOf, eJoin, eRev, nAdd, nList, eS1, eSign, eEqO, gEqO, eqArg, eIsC, List.flatten_cons, List.flatten_nil, WV, WO, WS, wi_rng, wi_tup, wi_lst, wi_rol, wi_txt, wipe_cons, wipe_nil, nat0, Int.zero_add, Int.toNat_natCast, List.length_map, le_line, objAt_own, obj_non, obj_bl, obj_int, obj_str, obj_tup, obj_lst, Option.isSome_none, Nat.lt_add_one, lt_pr, gt_pr, le_pr, ge_pr, lookD_cons, look_tbl, all_inl, map_inl, putD_cons, putD_nil, str_eq, atI_eq, datL_cons, datL_nil, fnEnv, List.map_cons, List.map_nil, List.cons_append, List.nil_append, List.length_cons, List.length_nil, List.getElem?_cons_succ, List.getElem?_cons_zero, List.replicate_succ, List.replicate_zero, List.set_cons_succ, List.set_cons_zero, List.getElem?_nil, List.take_succ_cons, List.take_zero, List.take_nil, List.mem_cons, List.not_mem_nil, List.zip_cons_cons, List.zip_nil_right, List.foldl_cons, List.foldl_nil, Option.map_some, Option.map_none, Option.isSome_some, Option.getD_some, List.isEmpty_cons, List.isEmpty_nil, List.all_cons, List.all_nil, Nat.reduceAdd, Nat.reducePow, Int.reducePow, Int.reduceAbs, Int.reduceDiv, Int.reduceMod, Nat.reduceSub, Nat.reduceLT, Nat.reduceLeDiff, Nat.reduceEqDiff, Int.reduceLE, Int.reduceLT, Int.reduceSub, Int.reduceMul, Nat.reduceMul, Int.cast_ofNat_Int, Int.reduceToNat, Int.reduceNeg, Int.reduceAdd, Int.reduceEq, String.reduceEq, reduceIte, reduceCtorEq, if_true, if_false, if_pos, if_neg, Bool.false_eq_true, decide_true, decide_false, decide_eq_true_eq, Bool.not_true, Bool.not_false, Bool.and_true, Bool.true_and, Bool.and_false, Bool.false_and, Bool.or_true, Bool.true_or, Bool.or_false, Bool.false_or, Bool.and_self, Bool.or_self, Bool.and_eq_true, Bool.or_eq_true, Bool.not_eq_true', Bool.not_eq_eq_eq_not, decide_eq_false_iff_not, decide_not, bne_iff_ne, beq_iff_eq, ne_eq, not_true_eq_false, not_false_eq_true, List.getElem?_set_self, List.getElem?_set_ne, List.length_set, true_or, or_true, false_or, or_false, and_true, true_and, and_false, false_and, eq_self, and_self, or_self, List.set_set, String.reduceBEq, beq_self_eq_true, bne_self_eq_false, dr, get_k, k_lo])
local macro_rules | `(tactic| walk_at "wn") => `(tactic| simp only [↓eS_unl, ↓eS_try2, ↓eV_bind, ↓eS_then, ↓eV_val, ↓eV_exc, ↓eV_bot, ↓eS_nxt, ↓eS_rt, ↓eS_bk, ↓eS_ct, ↓eS_ex, ↓eS_bot, ↓eO_some, ↓eO_none, ↓eV_ite, ↓eS_ite, ↓eO_ite, ↓eS_seq, ↓eS_ftup, ↓eS_flst, ↓eS_frol, ↓eS_frng, ↓eS_ftxt, ↓eS_try, ↓eS_tryO, ↓eV_opt, ↓eS_opt, sNx, sIf, sRet, sEx, sSet, sSetL, sSetG, sSetN, sAsg, sPar, sFor, sRaise, sFldS, sFldG, sApp, sPop, nSl, sLm, kApp, sStL, sAugL, sAug, sDput, sRetG, putL, putE, putS, lstAt, Ev.cellOf, plOf, frzE, eC, eVar, e2, eTup, eLst, eFn, eCall, eAnd, eOr, eNot, eIf, eCh, eSl, oNone, oSome, bT, tT1, tAnd', tOr', tNot', tAll, eFld, eMeth, eMake, eSha, eFrz, nLst, nDct, tIte, fListD, eDget2, eIs, eNeg, rRng1, rRng2, nLstR, eTupR, eErrP, eErrN, eIsErr, wSeq, wRng1, wRng2, wOf, aCons, aNil, gAdd, Ev.gSub, gMulA, gMul, gDiv, gMod, gPow, gShl, gShr, gXor, gInt, gB, cEq, cNe, cLt, cLe, cGt, cGe, cOrd, cIsN, cNotN, cIsB, cNotB, gIx, slX, gDix, cDin, cDnin, fLen, fAbs, fInt, fOrd, fChr, fMax, fMin, fList, fTuple, fAll, fAny, datOf, dep, eqD, eqL, truX, seqOf, lstOf, dctAt, Ev.keyOf, nDctL, pairKV, dctOf, gN, gNl, gCs, gT, tyName, isT, iAdd, iSub, Ev.isNon, mulC, Ev.small64, powC, divC, modC, shrC, ixN, sExt, arrOf, eJoin, eRev, nAdd, nList, eS1, eSign, eEqO, gEqO, eqArg, eIsC, List.flatten_cons, List.flatten_nil, WV, WO, WS, wi_rng, wi_tup, wi_lst, wi_rol, wi_txt, wipe_cons, wipe_nil, nat0, Int.zero_add, Int.toNat_natCast, List.length_map, le_line, objAt_own, obj_non, obj_bl, obj_int, obj_str, obj_tup, obj_lst, Option.isSome_none, Nat.lt_add_one, lt_pr, gt_pr, le_pr, ge_pr, lookD_cons, look_tbl, all_inl, map_inl, putD_cons, putD_nil, str_eq, atI_eq, datL_cons, datL_nil, fnEnv, List.map_cons, List.map_nil, List.cons_append, List.nil_append, List.length_cons, List.length_nil, List.getElem?_cons_succ, List.getElem?_cons_zero, List.replicate_succ, List.replicate_zero, List.set_cons_succ, List.set_cons_zero, List.getElem?_nil, List.take_succ_cons, List.take_zero, List.take_nil, List.mem_cons, List.not_mem_nil, List.zip_cons_cons, List.zip_nil_right, List.foldl_cons, List.foldl_nil, Option.map_some, Option.map_none, Option.isSome_some, Option.getD_some, List.isEmpty_cons, List.isEmpty_nil, List.all_cons, List.all_nil, Nat.reduceAdd, Nat.reducePow, Int.reducePow, Int.reduceAbs, Int.reduceDiv, Int.reduceMod, Nat.reduceSub, Nat.reduceLT, Nat.reduceLeDiff, Nat.reduceEqDiff, Int.reduceLE, Int.reduceLT, Int.reduceSub, Int.reduceMul, Nat.reduceMul, Int.cast_ofNat_Int, Int.reduceToNat, Int.reduceNeg, Int.reduceAdd, Int.reduceEq, String.reduceEq, reduceIte, reduceCtorEq, if_true, if_false, if_pos, if_neg, Bool.false_eq_true, decide_true, decide_false, decide_eq_true_eq, Bool.not_true, Bool.not_false, Bool.and_true, Bool.true_and, Bool.and_false, Bool.false_and, Bool.or_true, Bool.true_or, Bool.or_false, Bool.false_or, Bool.and_self, Bool.or_self, Bool.and_eq_true, Bool.or_eq_true, Bool.not_eq_true', Bool.not_eq_eq_eq_not, decide_eq_false_iff_not, decide_not, bne_iff_ne, beq_iff_eq, ne_eq, not_true_eq_false, not_false_eq_true, List.getElem?_set_self, List.getElem?_set_ne, List.length_set, true_or, or_true, false_or, or_false, and_true, true_and, and_false, false_and, eq_self, and_self, or_self, List.set_set, String.reduceBEq, beq_self_eq_true, bne_self_eq_false, dr, get_k, k_lo, *])

theorem four {t : Tp} : t.k 4 = 0 ∨ t.k 4 = 1 ∨ t.k 4 = 2 ∨ t.k 4 = 3 := by
  have := k_lo (t := t) (lim := 4) (by decide)
  have := k_hi (t := t) (lim := 4) (by decide)
  omega
theorem three {t : Tp} : t.k 3 = 0 ∨ t.k 3 = 1 ∨ t.k 3 = 2 := by
  have := k_lo (t := t) (lim := 3) (by decide)
  have := k_hi (t := t) (lim := 3) (by decide)
  omega
theorem values_eq (t : Tp) : ∃ t' : Tp, C__law_values [.own 0] [t.c] = .val (.bl true) [t'.c] := by
  have a0 := fun S => ask_ok (S := S)
  have w0 := fun S => world_ok (S := S)
  have n0 := fun S => state_non (S := S)
  have l0 := fun S ds => ask_lst (S := S) (ds := ds)
  simp only [ask0, world0] at a0 w0
  rcases four (t := t) with c | c | c | c
  · have a1 := fun S => ask_0 (S := S) (at_k (t := t.n 4) (lim := 7) (ds := wr0) (by decide) (by decide))
    simp only [ask0, wr0, List.set_cons_zero, List.set_cons_succ] at a1
    rcases three (t := (t.n 4).n 7) with c2 | c2 | c2
    · have w1 := fun S => world_0 (S := S) (at_k (t := ((t.n 4).n 7).n 3) (lim := 4) (ds := ba0) (by decide) (by decide))
      simp only [world0, ba0, List.set_cons_zero, List.set_cons_succ] at w1
      refine ⟨(((t.n 4).n 7).n 3).n 4, ?_⟩
      apply eq_of_WV
      unfold C__law_values b__law_values
      rw [WV, eV_fn]
      walk_at "wh"
    · have w1 := fun S => world_1 (S := S) (at_k (t := ((t.n 4).n 7).n 3) (lim := 8) (ds := ba1) (by decide) (by decide))
      simp only [world0, ba1, List.set_cons_zero, List.set_cons_succ] at w1
      refine ⟨(((t.n 4).n 7).n 3).n 8, ?_⟩
      apply eq_of_WV
      unfold C__law_values b__law_values
      rw [WV, eV_fn]
      walk_at "wh"
    · have w1 := fun S => world_2 (S := S) (at_k (t := ((t.n 4).n 7).n 3) (lim := 3) (ds := ba2) (by decide) (by decide))
      simp only [world0, ba2, List.set_cons_zero, List.set_cons_succ] at w1
      refine ⟨(((t.n 4).n 7).n 3).n 3, ?_⟩
      apply eq_of_WV
      unfold C__law_values b__law_values
      rw [WV, eV_fn]
      walk_at "wh"
  · have a1 := fun S => ask_1 (S := S) (at_k (t := t.n 4) (lim := 4) (ds := wr1) (by decide) (by decide))
    simp only [ask0, wr1, List.set_cons_zero, List.set_cons_succ] at a1
    rcases three (t := (t.n 4).n 4) with c2 | c2 | c2
    · have w1 := fun S => world_0 (S := S) (at_k (t := ((t.n 4).n 4).n 3) (lim := 4) (ds := ba0) (by decide) (by decide))
      simp only [world0, ba0, List.set_cons_zero, List.set_cons_succ] at w1
      refine ⟨(((t.n 4).n 4).n 3).n 4, ?_⟩
      apply eq_of_WV
      unfold C__law_values b__law_values
      rw [WV, eV_fn]
      walk_at "wh"
    · have w1 := fun S => world_1 (S := S) (at_k (t := ((t.n 4).n 4).n 3) (lim := 8) (ds := ba1) (by decide) (by decide))
      simp only [world0, ba1, List.set_cons_zero, List.set_cons_succ] at w1
      refine ⟨(((t.n 4).n 4).n 3).n 8, ?_⟩
      apply eq_of_WV
      unfold C__law_values b__law_values
      rw [WV, eV_fn]
      walk_at "wh"
    · have w1 := fun S => world_2 (S := S) (at_k (t := ((t.n 4).n 4).n 3) (lim := 3) (ds := ba2) (by decide) (by decide))
      simp only [world0, ba2, List.set_cons_zero, List.set_cons_succ] at w1
      refine ⟨(((t.n 4).n 4).n 3).n 3, ?_⟩
      apply eq_of_WV
      unfold C__law_values b__law_values
      rw [WV, eV_fn]
      walk_at "wh"
  · have a1 := fun S => ask_2 (S := S) (at_k (t := t.n 4) (lim := 10) (ds := wr2) (by decide) (by decide))
    simp only [ask0, wr2, List.set_cons_zero, List.set_cons_succ] at a1
    rcases three (t := (t.n 4).n 10) with c2 | c2 | c2
    · have w1 := fun S => world_0 (S := S) (at_k (t := ((t.n 4).n 10).n 3) (lim := 4) (ds := ba0) (by decide) (by decide))
      simp only [world0, ba0, List.set_cons_zero, List.set_cons_succ] at w1
      refine ⟨(((t.n 4).n 10).n 3).n 4, ?_⟩
      apply eq_of_WV
      unfold C__law_values b__law_values
      rw [WV, eV_fn]
      walk_at "wh"
    · have w1 := fun S => world_1 (S := S) (at_k (t := ((t.n 4).n 10).n 3) (lim := 8) (ds := ba1) (by decide) (by decide))
      simp only [world0, ba1, List.set_cons_zero, List.set_cons_succ] at w1
      refine ⟨(((t.n 4).n 10).n 3).n 8, ?_⟩
      apply eq_of_WV
      unfold C__law_values b__law_values
      rw [WV, eV_fn]
      walk_at "wh"
    · have w1 := fun S => world_2 (S := S) (at_k (t := ((t.n 4).n 10).n 3) (lim := 3) (ds := ba2) (by decide) (by decide))
      simp only [world0, ba2, List.set_cons_zero, List.set_cons_succ] at w1
      refine ⟨(((t.n 4).n 10).n 3).n 3, ?_⟩
      apply eq_of_WV
      unfold C__law_values b__law_values
      rw [WV, eV_fn]
      walk_at "wh"
  · have a1 := fun S => ask_3 (S := S) (at_k (t := t.n 4) (lim := 3) (ds := wr3) (by decide) (by decide))
    simp only [ask0, wr3, List.set_cons_zero, List.set_cons_succ] at a1
    rcases three (t := (t.n 4).n 3) with c2 | c2 | c2
    · have w1 := fun S => world_0 (S := S) (at_k (t := ((t.n 4).n 3).n 3) (lim := 4) (ds := ba0) (by decide) (by decide))
      simp only [world0, ba0, List.set_cons_zero, List.set_cons_succ] at w1
      refine ⟨(((t.n 4).n 3).n 3).n 4, ?_⟩
      apply eq_of_WV
      unfold C__law_values b__law_values
      rw [WV, eV_fn]
      walk_at "wh"
    · have w1 := fun S => world_1 (S := S) (at_k (t := ((t.n 4).n 3).n 3) (lim := 8) (ds := ba1) (by decide) (by decide))
      simp only [world0, ba1, List.set_cons_zero, List.set_cons_succ] at w1
      refine ⟨(((t.n 4).n 3).n 3).n 8, ?_⟩
      apply eq_of_WV
      unfold C__law_values b__law_values
      rw [WV, eV_fn]
      walk_at "wh"
    · have w1 := fun S => world_2 (S := S) (at_k (t := ((t.n 4).n 3).n 3) (lim := 3) (ds := ba2) (by decide) (by decide))
      simp only [world0, ba2, List.set_cons_zero, List.set_cons_succ] at w1
      refine ⟨(((t.n 4).n 3).n 3).n 3, ?_⟩
      apply eq_of_WV
      unfold C__law_values b__law_values
      rw [WV, eV_fn]
      walk_at "wh"
end Law

namespace Law
open PySem L2 Ev
local macro_rules | `(tactic| walk_at "ws") => `(tactic| simp only [↓eS_unl, ↓eS_try2, ↓eV_bind, ↓eS_then, ↓eV_val, ↓eV_exc, ↓eV_bot, ↓eS_nxt, ↓eS_rt, ↓eS_bk, ↓eS_ct, ↓eS_ex, ↓eS_bot, ↓eO_some, ↓eO_none, ↓eV_ite, ↓eS_ite, ↓eO_ite, ↓eS_seq, ↓eS_ftup, ↓eS_flst, ↓eS_frol, ↓eS_frng, ↓eS_ftxt, ↓eS_try, ↓eS_tryO, ↓eV_opt, ↓eS_opt, sNx, sIf, sRet, sEx, sSet, sSetL, sSetG, sSetN, sAsg, sPar, sFor, sRaise, sFldS, sFldG, sApp, sPop, nSl, sLm, kApp, sStL, sAugL, sAug, sDput, sRetG, putL, putE, putS, lstAt, Ev.cellOf, plOf, frzE, eC, eVar, e2, eTup, eLst, eFn, eCall, eAnd, eOr, eNot, eIf, eCh, eSl, oNone, oSome, bT, tT1, tAnd', tOr', tNot', tAll, eFld, eMeth, eMake, eSha, eFrz, nLst, nDct, tIte, fListD, eDget2, eIs, eNeg, rRng1, rRng2, nLstR, eTupR, eErrP, eErrN, eIsErr, wSeq, wRng1, wRng2, wOf, aCons, aNil, gAdd, Ev.gSub, gMulA, gMul, gDiv, gMod, gPow, gShl, gShr, gXor, gInt, gB, cEq, cNe, cLt, cLe, cGt, cGe, cOrd, cIsN, cNotN, cIsB, cNotB, cIn, cNotIn, gIx, slX, gDix, cDin, cDnin, fLen, fAbs, fInt, fOrd, fChr, fMax, fMin, fList, fTuple, fAll, fAny, datOf, dep, eqD, eqL, truX, seqOf, lstOf, dctAt, Ev.keyOf, nDctL, pairKV, dctOf, gN, gNl, gCs, gT, tyName, isT, iAdd, iSub, Ev.isNon, mulC, Ev.small64, powC, divC, modC, shrC, ixN, sExt, arrOf, eJoin, eRev, nAdd, nList, eS1, eSign, eEqO, gEqO, eqArg, eIsC, List.flatten_cons, List.flatten_nil, WV, WO, WS, wi_rng, wi_tup, wi_lst, wi_rol, wi_txt, wipe_cons, wipe_nil, nat0, Int.zero_add, Int.toNat_natCast, List.length_map, le_line, objAt_own, obj_non, obj_bl, obj_int, obj_str, obj_tup, obj_lst, Option.isSome_none, Nat.lt_add_one, lt_pr, gt_pr, le_pr, ge_pr, lookD_cons, look_tbl, all_inl, map_inl, putD_cons, putD_nil, str_eq, atI_eq, datL_cons, datL_nil, fnEnv, List.map_cons, List.map_nil, List.cons_append, List.nil_append, List.length_cons, List.length_nil, List.getElem?_cons_succ, List.getElem?_cons_zero, List.replicate_succ, List.replicate_zero, List.set_cons_succ, List.set_cons_zero, List.getElem?_nil, List.take_succ_cons, List.take_zero, List.take_nil, List.mem_cons, List.not_mem_nil, List.zip_cons_cons, List.zip_nil_right, List.foldl_cons, List.foldl_nil, Option.map_some, Option.map_none, Option.isSome_some, Option.getD_some, List.isEmpty_cons, List.isEmpty_nil, List.all_cons, List.all_nil, Nat.reduceAdd, Nat.reducePow, Int.reducePow, Int.reduceAbs, Int.reduceDiv, Int.reduceMod, Nat.reduceSub, Nat.reduceLT, Nat.reduceLeDiff, Nat.reduceEqDiff, Int.reduceLE, Int.reduceLT, Int.reduceSub, Int.reduceMul, Nat.reduceMul, Int.cast_ofNat_Int, Int.reduceToNat, Int.reduceNeg, Int.reduceAdd, Int.reduceEq, String.reduceEq, reduceIte, reduceCtorEq, if_true, if_false, if_pos, if_neg, Bool.false_eq_true, decide_true, decide_false, decide_eq_true_eq, Bool.not_true, Bool.not_false, Bool.and_true, Bool.true_and, Bool.and_false, Bool.false_and, Bool.or_true, Bool.true_or, Bool.or_false, Bool.false_or, Bool.and_self, Bool.or_self, Bool.and_eq_true, Bool.or_eq_true, Bool.not_eq_true', Bool.not_eq_eq_eq_not, decide_eq_false_iff_not, decide_not, bne_iff_ne, beq_iff_eq, ne_eq, not_true_eq_false, not_false_eq_true, List.getElem?_set_self, List.getElem?_set_ne, List.length_set, true_or, or_true, false_or, or_false, and_true, true_and, and_false, false_and, eq_self, and_self, or_self, List.set_set, String.reduceBEq, beq_self_eq_true, bne_self_eq_false, dr, get_k, k_lo])
local macro_rules | `(tactic| walk_at "wh") => `(tactic| simp only [↓eS_unl, ↓eS_try2, ↓eV_bind, ↓eS_then, ↓eV_val, ↓eV_exc, ↓eV_bot, ↓eS_nxt, ↓eS_rt, ↓eS_bk, ↓eS_ct, ↓eS_ex, ↓eS_bot, ↓eO_some, ↓eO_none, ↓eV_ite, ↓eS_ite, ↓eO_ite, ↓eS_seq, ↓eS_ftup, ↓eS_flst, ↓eS_frol, ↓eS_frng, ↓eS_ftxt, ↓eS_try, ↓eS_tryO, ↓eV_opt, ↓eS_opt, sNx, sIf, sRet, sEx, sSet, sSetL, sSetG, sSetN, sAsg, sPar, sFor, sRaise, sFldS, sFldG, sApp, sPop, nSl, sLm, kApp, sStL, sAugL, sAug, sDput, sRetG, putL, putE, putS, lstAt, Ev.cellOf, plOf, frzE, eC, eVar, e2, eTup, eLst, eFn, eCall, eAnd, eOr, eNot, eIf, eCh, eSl, oNone, oSome, bT, tT1, tAnd', tOr', tNot', tAll, eFld, eMeth, eMake, eSha, eFrz, nLst, nDct, tIte, fListD, eDget2, eIs, eNeg, rRng1, rRng2, nLstR, eTupR, eErrP, eErrN, eIsErr, wSeq, wRng1, wRng2, wOf, aCons, aNil, gAdd, Ev.gSub, gMulA, gMul, gDiv, gMod, gPow, gShl, gShr, gXor, gInt, gB, cEq, cNe, cLt, cLe, cGt, cGe, cOrd, cIsN, cNotN, cIsB, cNotB, cIn, cNotIn, gIx, slX, gDix, cDin, cDnin, fLen, fAbs, fInt, fOrd, fChr, fMax, fMin, fList, fTuple, fAll, fAny, datOf, dep, eqD, eqL, truX, seqOf, lstOf, dctAt, Ev.keyOf, nDctL, pairKV, dctOf, gN, gNl, gCs, gT, tyName, isT, iAdd, iSub, Ev.isNon, mulC, Ev.small64, powC, divC, modC, shrC, ixN, sExt, arrOf, eJoin, eRev, nAdd, nList, eS1, eSign, eEqO, gEqO, eqArg, eIsC, List.flatten_cons, List.flatten_nil, WV, WO, WS, wi_rng, wi_tup, wi_lst, wi_rol, wi_txt, wipe_cons, wipe_nil, nat0, Int.zero_add, Int.toNat_natCast, List.length_map, le_line, objAt_own, obj_non, obj_bl, obj_int, obj_str, obj_tup, obj_lst, Option.isSome_none, Nat.lt_add_one, lt_pr, gt_pr, le_pr, ge_pr, lookD_cons, look_tbl, all_inl, map_inl, putD_cons, putD_nil, str_eq, atI_eq, datL_cons, datL_nil, fnEnv, List.map_cons, List.map_nil, List.cons_append, List.nil_append, List.length_cons, List.length_nil, List.getElem?_cons_succ, List.getElem?_cons_zero, List.replicate_succ, List.replicate_zero, List.set_cons_succ, List.set_cons_zero, List.getElem?_nil, List.take_succ_cons, List.take_zero, List.take_nil, List.mem_cons, List.not_mem_nil, List.zip_cons_cons, List.zip_nil_right, List.foldl_cons, List.foldl_nil, Option.map_some, Option.map_none, Option.isSome_some, Option.getD_some, List.isEmpty_cons, List.isEmpty_nil, List.all_cons, List.all_nil, Nat.reduceAdd, Nat.reducePow, Int.reducePow, Int.reduceAbs, Int.reduceDiv, Int.reduceMod, Nat.reduceSub, Nat.reduceLT, Nat.reduceLeDiff, Nat.reduceEqDiff, Int.reduceLE, Int.reduceLT, Int.reduceSub, Int.reduceMul, Nat.reduceMul, Int.cast_ofNat_Int, Int.reduceToNat, Int.reduceNeg, Int.reduceAdd, Int.reduceEq, String.reduceEq, reduceIte, reduceCtorEq, if_true, if_false, if_pos, if_neg, Bool.false_eq_true, decide_true, decide_false, decide_eq_true_eq, Bool.not_true, Bool.not_false, Bool.and_true, Bool.true_and, Bool.and_false, Bool.false_and, Bool.or_true, Bool.true_or, Bool.or_false, Bool.false_or, Bool.and_self, Bool.or_self, Bool.and_eq_true, Bool.or_eq_true, Bool.not_eq_true', Bool.not_eq_eq_eq_not, decide_eq_false_iff_not, decide_not, bne_iff_ne, beq_iff_eq, ne_eq, not_true_eq_false, not_false_eq_true, List.getElem?_set_self, List.getElem?_set_ne, List.length_set, true_or, or_true, false_or, or_false, and_true, true_and, and_false, false_and, eq_self, and_self, or_self, List.set_set, String.reduceBEq, beq_self_eq_true, bne_self_eq_false, dr, get_k, k_lo, *])
local macro_rules | `(tactic| walk_at "wu") => `(tactic| simp only [↓eS_unl, ↓eS_try2, ↓eV_bind, ↓eS_then, ↓eV_val, ↓eV_exc, ↓eV_bot, ↓eS_nxt, ↓eS_rt, ↓eS_bk, ↓eS_ct, ↓eS_ex, ↓eS_bot, ↓eO_some, ↓eO_none, ↓eV_ite, ↓eS_ite, ↓eO_ite, ↓eS_seq, ↓eS_ftup, ↓eS_flst, ↓eS_frol, ↓eS_frng, ↓eS_ftxt, ↓eS_try, ↓eS_tryO, ↓eV_opt, ↓eS_opt, sNx, sIf, sRet, sEx, sSet, sSetL, sSetG, sSetN, sAsg, sPar, sFor, sRaise, sFldS, sFldG, sApp, sPop, nSl, sLm, kApp, sStL, sAugL, sAug, sDput, sRetG, putL, putE, putS, lstAt, Ev.cellOf, plOf, frzE, eC, eVar, e2, eTup, eLst, eFn, eCall, eAnd, eOr, eNot, eIf, eCh, eSl, oNone, oSome, bT, tT1, tAnd', tOr', tNot', tAll, eFld, eMeth, eMake, eSha, eFrz, nLst, nDct, tIte, fListD, eDget2, eIs, eNeg, rRng1, rRng2, nLstR, eTupR, eErrP, eErrN, eIsErr, wSeq, wRng1, wRng2, wOf, aCons, aNil, gAdd, Ev.gSub, gMulA, gMul, gDiv, gMod, gPow, gShl, gShr, gXor, gInt, gB, cEq, cNe, cLt, cLe, cGt, cGe, cOrd, cIsN, cNotN, cIsB, cNotB, cIn, cNotIn, gIx, slX, gDix, cDin, cDnin, fLen, fAbs, fInt, fOrd, fChr, fMax, fMin, fList, fTuple, fAll, fAny, datOf, dep, eqD, eqL, truX, seqOf, lstOf, dctAt, Ev.keyOf, nDctL, pairKV, dctOf, gN, gNl, gCs, gT, tyName, isT, iAdd, iSub, Ev.isNon, mulC, Ev.small64, powC, divC, modC, shrC, ixN, sExt, arrOf, eJoin, eRev, nAdd, nList, eS1, eSign, eEqO, gEqO, eqArg, eIsC, List.flatten_cons, List.flatten_nil, WV, WO, WS, wi_rng, wi_tup, wi_lst, wi_rol, wi_txt, wipe_cons, wipe_nil, nat0, Int.zero_add, Int.toNat_natCast, List.length_map, le_line, objAt_own, obj_non, obj_bl, obj_int, obj_str, obj_tup, obj_lst, Option.isSome_none, Nat.lt_add_one, lt_pr, gt_pr, le_pr, ge_pr, lookD_cons, look_tbl, all_inl, map_inl, putD_cons, putD_nil, str_eq, atI_eq, datL_cons, datL_nil, fnEnv, List.map_cons, List.map_nil, List.cons_append, List.nil_append, List.length_cons, List.length_nil, List.getElem?_cons_succ, List.getElem?_cons_zero, List.replicate_succ, List.replicate_zero, List.set_cons_succ, List.set_cons_zero, List.getElem?_nil, List.take_succ_cons, List.take_zero, List.take_nil, List.mem_cons, List.not_mem_nil, List.zip_cons_cons, List.zip_nil_right, List.foldl_cons, List.foldl_nil, Option.map_some, Option.map_none, Option.isSome_some, Option.getD_some, List.isEmpty_cons, List.isEmpty_nil, List.all_cons, List.all_nil, Nat.reduceAdd, Nat.reducePow, Int.reducePow, Int.reduceAbs, Int.reduceDiv, Int.reduceMod, Nat.reduceSub, Nat.reduceLT, Nat.reduceLeDiff, Nat.reduceEqDiff, Int.reduceLE, Int.reduceLT, Int.reduceSub, Int.reduceMul, Nat.reduceMul, Int.cast_ofNat_Int, Int.reduceToNat, Int.reduceNeg, Int.reduceAdd, Int.reduceEq, String.reduceEq, reduceIte, reduceCtorEq, if_true, if_false, if_pos, if_neg, Bool.false_eq_true, decide_true, decide_false, decide_eq_true_eq, Bool.not_true, Bool.not_false, Bool.and_true, Bool.true_and, Bool.and_false, Bool.false_and, Bool.or_true, Bool.true_or, Bool.or_false, Bool.false_or, Bool.and_self, Bool.or_self, Bool.and_eq_true, Bool.or_eq_true, Bool.not_eq_true', Bool.not_eq_eq_eq_not, decide_eq_false_iff_not, decide_not, bne_iff_ne, beq_iff_eq, ne_eq, not_true_eq_false, not_false_eq_true, List.getElem?_set_self, List.getElem?_set_ne, List.length_set, true_or, or_true, false_or, or_false, and_true, true_and, and_false, false_and, eq_self, and_self, or_self, List.set_set, String.reduceBEq, beq_self_eq_true, bne_self_eq_false, dr, get_k, k_lo, ↓eS_fcons, ↓eS_fnil, *])
local macro_rules | `(tactic| walk_at "wm") => `(tactic| simp only [↓eS_unl, ↓eS_try2, ↓eV_bind, ↓eS_then, ↓eV_val, ↓eV_exc, ↓eV_bot, ↓eS_nxt, ↓eS_rt, ↓eS_bk, ↓eS_ct, ↓eS_ex, ↓eS_bot, ↓eO_some, ↓eO_none, ↓eV_ite, ↓eS_ite, ↓eO_ite, ↓eS_seq, ↓eS_ftup, ↓eS_flst, ↓eS_frol, ↓eS_frng, ↓eS_ftxt, ↓eS_try, ↓eS_tryO, ↓eV_opt, ↓eS_opt, sNx, sIf, sRet, sEx, sSet, sSetL, sSetG, sSetN, sAsg, sPar, sFor, sRaise, sFldS, sFldG, sApp, sPop, nSl, sLm, kApp, sStL, sAugL, sAug, sDput, sRetG, putL, putE, putS, lstAt, Ev.cellOf, plOf, frzE, eC, eVar, e2, eTup, eLst, eFn, eCall, eAnd, eOr, eNot, eIf, eCh, eSl, oNone, oSome, bT, tT1, tAnd', tOr', tNot', tAll, eFld, eMeth, eMake, eSha, eFrz, nLst, nDct, tIte, fListD, eDget2, eIs, eNeg, rRng1, rRng2, nLstR, eTupR, eErrP, eErrN, eIsErr, wSeq, wRng1, wRng2, wOf, aCons, aNil, gAdd, Ev.gSub, gMulA, gMul, gDiv, gMod, gPow, gShl, gShr, gXor, gInt, gB, cEq, cNe, cLt, cLe, cGt, cGe, cOrd, cIsN, cNotN, cIsB, cNotB, gIx, slX, gDix, cDin, cDnin, fLen, fAbs, fInt, fOrd, fChr, fMax, fMin, fList, fTuple, fAll, fAny, datOf, dep, eqD, eqL, truX, seqOf, lstOf, dctAt, Ev.keyOf, nDctL, pairKV, dctOf, gN, gNl, gCs, gT, tyName, isT, iAdd, iSub, Ev.isNon, mulC, Ev.small64, powC, divC, modC, shrC, ixN, sExt, arrOf, eJoin, eRev, nAdd, nList, eS1, eSign, eEqO, gEqO, eqArg, eIsC, List.flatten_cons, List.flatten_nil, WV, WO, WS, wi_rng, wi_tup, wi_lst, wi_rol, wi_txt, wipe_cons, wipe_nil, nat0, Int.zero_add, Int.toNat_natCast, List.length_map, le_line, objAt_own, obj_non, obj_bl, obj_int, obj_str, obj_tup, obj_lst, Option.isSome_none, Nat.lt_add_one, lt_pr, gt_pr, le_pr, ge_pr, lookD_cons, look_tbl, all_inl, map_inl, putD_cons, putD_nil, str_eq, atI_eq, datL_cons, datL_nil, fnEnv, List.map_cons, List.map_nil, List.cons_append, List.nil_append, List.length_cons, List.length_nil, List.getElem?_cons_succ, List.getElem?_cons_zero, List.replicate_succ, List.replicate_zero, List.set_cons_succ, List.set_cons_zero, List.getElem?_nil, List.take_succ_cons, List.take_zero, List.take_nil, List.mem_cons, List.not_mem_nil, List.zip_cons_cons, List.zip_nil_right, List.foldl_cons, List.foldl_nil, Option.map_some, Option.map_none, Option.isSome_some, Option.getD_some, List.isEmpty_cons, List.isEmpty_nil, List.all_cons, List.all_nil, Nat.reduceAdd, Nat.reducePow, Int.reducePow, Int.reduceAbs, Int.reduceDiv, Int.reduceMod, Nat.reduceSub, Nat.reduceLT, Nat.reduceLeDiff, Nat.reduceEqDiff, Int.reduceLE, Int.reduceLT, Int.reduceSub, Int.reduceMul, Nat.reduceMul, Int.cast_ofNat_Int, Int.reduceToNat, Int.reduceNeg, Int.reduceAdd, Int.reduceEq, String.reduceEq, reduceIte, reduceCtorEq, if_true, if_false, if_pos, if_neg, Bool.false_eq_true, decide_true, decide_false, decide_eq_true_eq, Bool.not_true, Bool.not_false, Bool.and_true, Bool.true_and, Bool.and_false, Bool.false_and, Bool.or_true, Bool.true_or, Bool.or_false, Bool.false_or, Bool.and_self, Bool.or_self, Bool.and_eq_true, Bool.or_eq_true, Bool.not_eq_true', Bool.not_eq_eq_eq_not, decide_eq_false_iff_not, decide_not, bne_iff_ne, beq_iff_eq, ne_eq, not_true_eq_false, not_false_eq_true, List.getElem?_set_self, List.getElem?_set_ne, List.length_set, true_or, or_true, false_or, or_false, and_true, true_and, and_false, false_and, eq_self, and_self, or_self, List.set_set, String.reduceBEq, beq_self_eq_true, bne_self_eq_false, dr, get_k, k_lo])
local macro_rules | `(tactic| walk_at "wn") => `(tactic| simp only [↓eS_unl, ↓eS_try2, ↓eV_bind, ↓eS_then, ↓eV_val, ↓eV_exc, ↓eV_bot, ↓eS_nxt, ↓eS_rt, ↓eS_bk, ↓eS_ct, ↓eS_ex, ↓eS_bot, ↓eO_some, ↓eO_none, ↓eV_ite, ↓eS_ite, ↓eO_ite, ↓eS_seq, ↓eS_ftup, ↓eS_flst, ↓eS_frol, ↓eS_frng, ↓eS_ftxt, ↓eS_try, ↓eS_tryO, ↓eV_opt, ↓eS_opt, sNx, sIf, sRet, sEx, sSet, sSetL, sSetG, sSetN, sAsg, sPar, sFor, sRaise, sFldS, sFldG, sApp, sPop, nSl, sLm, kApp, sStL, sAugL, sAug, sDput, sRetG, putL, putE, putS, lstAt, Ev.cellOf, plOf, frzE, eC, eVar, e2, eTup, eLst, eFn, eCall, eAnd, eOr, eNot, eIf, eCh, eSl, oNone, oSome, bT, tT1, tAnd', tOr', tNot', tAll, eFld, eMeth, eMake, eSha, eFrz, nLst, nDct, tIte, fListD, eDget2, eIs, eNeg, rRng1, rRng2, nLstR, eTupR, eErrP, eErrN, eIsErr, wSeq, wRng1, wRng2, wOf, aCons, aNil, gAdd, Ev.gSub, gMulA, gMul, gDiv, gMod, gPow, gShl, gShr, gXor, gInt, gB, cEq, cNe, cLt, cLe, cGt, cGe, cOrd, cIsN, cNotN, cIsB, cNotB, gIx, slX, gDix, cDin, cDnin, fLen, fAbs, fInt, fOrd, fChr, fMax, fMin, fList, fTuple, fAll, fAny, datOf, dep, eqD, eqL, truX, seqOf, lstOf, dctAt, Ev.keyOf, nDctL, pairKV, dctOf, gN, gNl, gCs, gT, tyName, isT, iAdd, iSub, Ev.isNon, mulC, Ev.small64, powC, divC, modC, shrC, ixN, sExt, arrOf, eJoin, eRev, nAdd, nList, eS1, eSign, eEqO, gEqO, eqArg, eIsC, List.flatten_cons, List.flatten_nil, WV, WO, WS, wi_rng, wi_tup, wi_lst, wi_rol, wi_txt, wipe_cons, wipe_nil, nat0, Int.zero_add, Int.toNat_natCast, List.length_map, le_line, objAt_own, obj_non, obj_bl, obj_int, obj_str, obj_tup, obj_lst, Option.isSome_none, Nat.lt_add_one, lt_pr, gt_pr, le_pr, ge_pr, lookD_cons, look_tbl, all_inl, map_inl, putD_cons, putD_nil, str_eq, atI_eq, datL_cons, datL_nil, fnEnv, List.map_cons, List.map_nil, List.cons_append, List.nil_append, List.length_cons, List.length_nil, List.getElem?_cons_succ, List.getElem?_cons_zero, List.replicate_succ, List.replicate_zero, List.set_cons_succ, List.set_cons_zero, List.getElem?_nil, List.take_succ_cons, List.take_zero, List.take_nil, List.mem_cons, List.not_mem_nil, List.zip_cons_cons, List.zip_nil_right, List.foldl_cons, List.foldl_nil, Option.map_some, Option.map_none, Option.isSome_some, Option.getD_some, List.isEmpty_cons, List.isEmpty_nil, List.all_cons, List.all_nil, Nat.reduceAdd, Nat.reducePow, Int.reducePow, Int.reduceAbs, Int.reduceDiv, Int.reduceMod, Nat.reduceSub, Nat.reduceLT, Nat.reduceLeDiff, Nat.reduceEqDiff, Int.reduceLE, Int.reduceLT, Int.reduceSub, Int.reduceMul, Nat.reduceMul, Int.cast_ofNat_Int, Int.reduceToNat, Int.reduceNeg, Int.reduceAdd, Int.reduceEq, String.reduceEq, reduceIte, reduceCtorEq, if_true, if_false, if_pos, if_neg, Bool.false_eq_true, decide_true, decide_false, decide_eq_true_eq, Bool.not_true, Bool.not_false, Bool.and_true, Bool.true_and, Bool.and_false, Bool.false_and, Bool.or_true, Bool.true_or, Bool.or_false, Bool.false_or, Bool.and_self, Bool.or_self, Bool.and_eq_true, Bool.or_eq_true, Bool.not_eq_true', Bool.not_eq_eq_eq_not, decide_eq_false_iff_not, decide_not, bne_iff_ne, beq_iff_eq, ne_eq, not_true_eq_false, not_false_eq_true, List.getElem?_set_self, List.getElem?_set_ne, List.length_set, true_or, or_true, false_or, or_false, and_true, true_and, and_false, false_and, eq_self, and_self, or_self, List.set_set, String.reduceBEq, beq_self_eq_true, bne_self_eq_false, dr, get_k, k_lo, *])

section
variable {S : List Cell} {vs : List D} {i : Nat}
abbrev vA (vs : List D) (k : Nat) : D := vs.getD k .non
def okP (vs : List D) (k : Nat) : Prop := (∀ S, C_is_part [vA vs k] S = .val (.bl true) S) ∧ (0 < k → ∀ (env : List Ev.Slot) (S : List Cell), cGeD env S (.dat (vA vs (k - 1))) (.dat (vA vs k)) = some false)
def badP (vs : List D) (k : Nat) : Prop := (∀ S, C_is_part [vA vs k] S = .val (.bl false) S) ∨ ((∀ S, C_is_part [vA vs k] S = .val (.bl true) S) ∧ 0 < k ∧ ∀ (env : List Ev.Slot) (S : List Cell), cGeD env S (.dat (vA vs (k - 1))) (.dat (vA vs k)) = some true)
theorem parts_ok (hn : vs.length ≤ 100) (h : ∀ k, k < vs.length → okP vs k) : C_check_parts [.tup vs] S = .val .non S := by
  have hr : rOk (vs.length : Int) = true := rOk_of (by omega) (by omega)
  apply eq_of_WV
  unfold C_check_parts b_check_parts
  rw [WV, eV_fn]
  walk_at "ws"
  simp only [hr]
  walk_at "ws"
  refine ws_rng0 (fun k env S' => (∃ s1, env = [.val (.tup vs), s1]) ∧ S' = S) ⟨⟨_, rfl⟩, rfl⟩ ?_ ?_
  · rintro k env S' hk ⟨⟨s1, rfl⟩, rfl⟩
    obtain ⟨h1, h2⟩ := h k hk
    have h1 := h1 S'
    have g1 := getD_at hk
    rcases Nat.eq_zero_or_pos k with rfl | k0
    · clear h h2 hr
      rw [show ((0 : Nat) : Int) = 0 from rfl]
      walk_at "wh"
      exact ⟨_, rfl⟩
    · have h2 := h2 k0
      have g2 := getD_at (ds := vs) (k := k - 1) (by omega)
      have e1 : (0 : Int) < (k : Int) := by omega
      have e2 : (k : Int) - 1 = ((k - 1 : Nat) : Int) := by omega
      have e3 : (0 : Int) ≤ ((k - 1 : Nat) : Int) := by omega
      have e4 : (0 : Int) ≤ (k : Int) := by omega
      clear h hr hn hk k0
      walk_at "wh"
      exact ⟨_, rfl⟩
  · rintro env S' ⟨⟨s1, rfl⟩, rfl⟩
    walk_at "ws"
theorem parts_bad (hn : vs.length ≤ 100) (hi : i < vs.length) (h : ∀ k, k < i → okP vs k) (hb : badP vs i) : C_check_parts [.tup vs] S = .exc "InvalidParts" (.int i) S := by
  have hr : rOk (vs.length : Int) = true := rOk_of (by omega) (by omega)
  apply exc_of_WV
  unfold C_check_parts b_check_parts
  rw [WV, eV_fn]
  walk_at "ws"
  simp only [hr]
  walk_at "ws"
  refine ws_rng0 (fun k env S' => k ≤ i ∧ (∃ s1, env = [.val (.tup vs), s1]) ∧ S' = S) ⟨Nat.zero_le _, ⟨_, rfl⟩, rfl⟩ ?_ ?_
  · rintro k env S' hk ⟨hki, ⟨s1, rfl⟩, rfl⟩
    have g1 := getD_at hk
    have e4 : (0 : Int) ≤ (k : Int) := by omega
    rcases Nat.lt_or_ge k i with hlt | hge
    · obtain ⟨h1, h2⟩ := h k hlt
      have h1 := h1 S'
      have hk1 : k + 1 ≤ i := by omega
      rcases Nat.eq_zero_or_pos k with rfl | k0
      · clear h h2 hr hb hn hk hi hki hlt
        rw [show ((0 : Nat) : Int) = 0 from rfl]
        walk_at "ws"
        repeat (simp only [h1, g1]; (try walk_at "ws"))
        exact ⟨hk1, _, rfl⟩
      · have h2 := h2 k0
        have g2 := getD_at (ds := vs) (k := k - 1) (by omega)
        have e1 : (0 : Int) < (k : Int) := by omega
        have e2 : (k : Int) - 1 = ((k - 1 : Nat) : Int) := by omega
        have e3 : (0 : Int) ≤ ((k - 1 : Nat) : Int) := by omega
        clear h hr hb hn hk hi hki hlt k0
        walk_at "ws"
        repeat (simp only [h1, h2, g1, g2, e1, e2, e3, e4]; (try walk_at "ws"))
        exact ⟨hk1, _, rfl⟩
    · obtain rfl : k = i := by omega
      rcases hb with h1 | ⟨h1, k0, h2⟩
      · have h1 := h1 S'
        clear h hr hn hk hi hki hge
        walk_at "ws"
        repeat (simp only [h1, g1, e4]; (try walk_at "ws"))
      · have h1 := h1 S'
        have g2 := getD_at (ds := vs) (k := k - 1) (by omega)
        have e1 : (0 : Int) < (k : Int) := by omega
        have e2 : (k : Int) - 1 = ((k - 1 : Nat) : Int) := by omega
        have e3 : (0 : Int) ≤ ((k - 1 : Nat) : Int) := by omega
        clear h hr hn hk hi hki hge k0
        walk_at "ws"
        repeat (simp only [h1, h2, g1, g2, e1, e2, e3, e4]; (try walk_at "ws"))
  · rintro env S' ⟨hki, _⟩
    exact absurd hki (by omega)
def notTup : D → Bool
  | .tup _ => false
  | .own _ => false
  | .dct _ _ => false
  | .rol _ => false
  | _ => true
theorem parts_not {v : D} (h : notTup v = true) : C_check_parts [v] S = .exc "InvalidParts" (.int 0) S := by
  apply exc_of_WV
  unfold C_check_parts b_check_parts
  rw [WV, eV_fn]
  cases v with
  | tup ds => cases h
  | own n => cases h
  | dct ks ds => cases h
  | rol ds => cases h
  | _ => walk_at "ws"
/-! the reply -/
theorem reply_ok (h0 : 0 < vs.length) (hn : vs.length ≤ 6) (h : ∀ k, k < vs.length → ∀ S, C_is_term [vA vs k] S = .val (.bl true) S) : C_check_reply [.tup vs] S = .val .non S := by
  have hr : rOk (vs.length : Int) = true := rOk_of (by omega) (by omega)
  have hz : ¬((vs.length : Int) = 0) := by omega
  apply eq_of_WV
  unfold C_check_reply b_check_reply
  rw [WV, eV_fn]
  walk_at "ws"
  simp only [hr, hz]
  walk_at "ws"
  repeat (simp only [hr, hz]; (try walk_at "ws"))
  refine ws_rng0 (fun k env S' => (∃ s1, env = [.val (.tup vs), s1]) ∧ S' = S) ⟨⟨_, rfl⟩, rfl⟩ ?_ ?_
  · rintro k env S' hk ⟨⟨s1, rfl⟩, rfl⟩
    have h1 := h k hk S'
    have g1 := getD_at hk
    have e4 : (0 : Int) ≤ (k : Int) := by omega
    have e6 : ¬((k : Int) = 6) := by omega
    clear h hr hn hk hz h0
    walk_at "ws"
    repeat (simp only [h1, g1, e4, e6]; (try walk_at "ws"))
    exact ⟨_, rfl⟩
  · rintro env S' ⟨⟨s1, rfl⟩, rfl⟩
    walk_at "ws"
theorem reply_bad (hn : vs.length ≤ 100) (hi : i < vs.length) (h : ∀ k, k < i → k ≠ 6 ∧ ∀ S, C_is_term [vA vs k] S = .val (.bl true) S) (hb : i = 6 ∨ (∀ S, C_is_term [vA vs i] S = .val (.bl false) S)) : C_check_reply [.tup vs] S = .exc "InvalidReply" (.int i) S := by
  have hr : rOk (vs.length : Int) = true := rOk_of (by omega) (by omega)
  have hz : ¬((vs.length : Int) = 0) := by omega
  apply exc_of_WV
  unfold C_check_reply b_check_reply
  rw [WV, eV_fn]
  walk_at "ws"
  simp only [hr, hz]
  walk_at "ws"
  repeat (simp only [hr, hz]; (try walk_at "ws"))
  refine ws_rng0 (fun k env S' => k ≤ i ∧ (∃ s1, env = [.val (.tup vs), s1]) ∧ S' = S) ⟨Nat.zero_le _, ⟨_, rfl⟩, rfl⟩ ?_ ?_
  · rintro k env S' hk ⟨hki, ⟨s1, rfl⟩, rfl⟩
    have g1 := getD_at hk
    have e4 : (0 : Int) ≤ (k : Int) := by omega
    rcases Nat.lt_or_ge k i with hlt | hge
    · obtain ⟨h2, h1⟩ := h k hlt
      have h1 := h1 S'
      have hk1 : k + 1 ≤ i := by omega
      have e6 : ¬((k : Int) = 6) := by omega
      clear h hr hb hn hk hi hki hlt h2 hz
      walk_at "ws"
      repeat (simp only [h1, g1, e4, e6]; (try walk_at "ws"))
      exact ⟨hk1, _, rfl⟩
    · obtain rfl : k = i := by omega
      by_cases c : k = 6
      · subst c
        clear h hr hn hk hi hki hge hz hb
        rw [show ((6 : Nat) : Int) = 6 from rfl]
        walk_at "ws"
      · have h1 := (hb.resolve_left c) S'
        have e6 : ¬((k : Int) = 6) := by omega
        clear h hr hn hk hi hki hge hz hb c
        walk_at "ws"
        repeat (simp only [h1, g1, e4, e6]; (try walk_at "ws"))
  · rintro env S' ⟨hki, _⟩
    exact absurd hki (by omega)
theorem reply_not {v : D} (h : notTup v = true ∨ v = .tup []) : C_check_reply [v] S = .exc "InvalidReply" (.int 0) S := by
  apply exc_of_WV
  unfold C_check_reply b_check_reply
  rw [WV, eV_fn]
  rcases h with h | rfl
  · cases v with
    | tup ds => cases h
    | own n => cases h
    | dct ks ds => cases h
    | rol ds => cases h
    | _ => walk_at "ws"
  · walk_at "ws"
/-! what is told -/
theorem told0_ok {v : D} (h : C_check_parts [v] S = .val .non S) : C__law_told [.int 0, v] S = .val .non S := by
  apply eq_of_WV
  unfold C__law_told b__law_told
  rw [WV, eV_fn]
  walk_at "wh"
theorem told0_bad {v : D} {i : Int} (h : C_check_parts [v] S = .exc "InvalidParts" (.int i) S) : C__law_told [.int 0, v] S = .val (.tup [.str [112, 97, 114, 116, 115], .int i]) S := by
  apply eq_of_WV
  unfold C__law_told b__law_told
  rw [WV, eV_fn]
  walk_at "wh"
theorem told1_ok {v : D} (h : C_check_reply [v] S = .val .non S) : C__law_told [.int 1, v] S = .val .non S := by
  apply eq_of_WV
  unfold C__law_told b__law_told
  rw [WV, eV_fn]
  walk_at "wh"
theorem told1_bad {v : D} {i : Int} (h : C_check_reply [v] S = .exc "InvalidReply" (.int i) S) : C__law_told [.int 1, v] S = .val (.tup [.str [114, 101, 112, 108, 121], .int i]) S := by
  apply eq_of_WV
  unfold C__law_told b__law_told
  rw [WV, eV_fn]
  walk_at "wh"
end
end Law

namespace Law
open PySem L2 Ev
local macro_rules | `(tactic| walk_at "ws") => `(tactic| simp only [↓eS_unl, ↓eS_try2, ↓eV_bind, ↓eS_then, ↓eV_val, ↓eV_exc, ↓eV_bot, ↓eS_nxt, ↓eS_rt, ↓eS_bk, ↓eS_ct, ↓eS_ex, ↓eS_bot, ↓eO_some, ↓eO_none, ↓eV_ite, ↓eS_ite, ↓eO_ite, ↓eS_seq, ↓eS_ftup, ↓eS_flst, ↓eS_frol, ↓eS_frng, ↓eS_ftxt, ↓eS_try, ↓eS_tryO, ↓eV_opt, ↓eS_opt, sNx, sIf, sRet, sEx, sSet, sSetL, sSetG, sSetN, sAsg, sPar, sFor, sRaise, sFldS, sFldG, sApp, sPop, nSl, sLm, kApp, sStL, sAugL, sAug, sDput, sRetG, putL, putE, putS, lstAt, Ev.cellOf, plOf, frzE, eC, eVar, e2, eTup, eLst, eFn, eCall, eAnd, eOr, eNot, eIf, eCh, eSl, oNone, oSome, bT, tT1, tAnd', tOr', tNot', tAll, eFld, eMeth, eMake, eSha, eFrz, nLst, nDct, tIte, fListD, eDget2, eIs, eNeg, rRng1, rRng2, nLstR, eTupR, eErrP, eErrN, eIsErr, wSeq, wRng1, wRng2, wOf, aCons, aNil, gAdd, Ev.gSub, gMulA, gMul, gDiv, gMod, gPow, gShl, gShr, gXor, gInt, gB, cEq, cNe, cLt, cLe, cGt, cGe, cOrd, cIsN, cNotN, cIsB, cNotB, cIn, cNotIn, gIx, slX, gDix, cDin, cDnin, fLen, fAbs, fInt, fOrd, fChr, fMax, fMin, fList, fTuple, fAll, fAny, datOf, dep, eqD, eqL, truX, seqOf, lstOf, dctAt, Ev.keyOf, nDctL, pairKV, dctOf, gN, gNl, gCs, gT, tyName, isT, iAdd, iSub, Ev.isNon, mulC, Ev.small64, powC, divC, modC, shrC, ixN, sExt, arrOf, eJoin, eRev, nAdd, nList, eS1, eSign, eEqO, gEqO, eqArg, eIsC, List.flatten_cons, List.flatten_nil, WV, WO, WS, wi_rng, wi_tup, wi_lst, wi_rol, wi_txt, wipe_cons, wipe_nil, nat0, Int.zero_add, Int.toNat_natCast, List.length_map, le_line, objAt_own, obj_non, obj_bl, obj_int, obj_str, obj_tup, obj_lst, Option.isSome_none, Nat.lt_add_one, lt_pr, gt_pr, le_pr, ge_pr, lookD_cons, look_tbl, all_inl, map_inl, putD_cons, putD_nil, str_eq, atI_eq, datL_cons, datL_nil, fnEnv, List.map_cons, List.map_nil, List.cons_append, List.nil_append, List.length_cons, List.length_nil, List.getElem?_cons_succ, List.getElem?_cons_zero, List.replicate_succ, List.replicate_zero, List.set_cons_succ, List.set_cons_zero, List.getElem?_nil, List.take_succ_cons, List.take_zero, List.take_nil, List.mem_cons, List.not_mem_nil, List.zip_cons_cons, List.zip_nil_right, List.foldl_cons, List.foldl_nil, Option.map_some, Option.map_none, Option.isSome_some, Option.getD_some, List.isEmpty_cons, List.isEmpty_nil, List.all_cons, List.all_nil, Nat.reduceAdd, Nat.reducePow, Int.reducePow, Int.reduceAbs, Int.reduceDiv, Int.reduceMod, Nat.reduceSub, Nat.reduceLT, Nat.reduceLeDiff, Nat.reduceEqDiff, Int.reduceLE, Int.reduceLT, Int.reduceSub, Int.reduceMul, Nat.reduceMul, Int.cast_ofNat_Int, Int.reduceToNat, Int.reduceNeg, Int.reduceAdd, Int.reduceEq, String.reduceEq, reduceIte, reduceCtorEq, if_true, if_false, if_pos, if_neg, Bool.false_eq_true, decide_true, decide_false, decide_eq_true_eq, Bool.not_true, Bool.not_false, Bool.and_true, Bool.true_and, Bool.and_false, Bool.false_and, Bool.or_true, Bool.true_or, Bool.or_false, Bool.false_or, Bool.and_self, Bool.or_self, Bool.and_eq_true, Bool.or_eq_true, Bool.not_eq_true', Bool.not_eq_eq_eq_not, decide_eq_false_iff_not, decide_not, bne_iff_ne, beq_iff_eq, ne_eq, not_true_eq_false, not_false_eq_true, List.getElem?_set_self, List.getElem?_set_ne, List.length_set, true_or, or_true, false_or, or_false, and_true, true_and, and_false, false_and, eq_self, and_self, or_self, List.set_set, String.reduceBEq, beq_self_eq_true, bne_self_eq_false, dr, get_k, k_lo])
local macro_rules | `(tactic| walk_at "wh") => `(tactic| simp only [↓eS_unl, ↓eS_try2, ↓eV_bind, ↓eS_then, ↓eV_val, ↓eV_exc, ↓eV_bot, ↓eS_nxt, ↓eS_rt, ↓eS_bk, ↓eS_ct, ↓eS_ex, ↓eS_bot, ↓eO_some, ↓eO_none, ↓eV_ite, ↓eS_ite, ↓eO_ite, ↓eS_seq, ↓eS_ftup, ↓eS_flst, ↓eS_frol, ↓eS_frng, ↓eS_ftxt, ↓eS_try, ↓eS_tryO, ↓eV_opt, ↓eS_opt, sNx, sIf, sRet, sEx, sSet, sSetL, sSetG, sSetN, sAsg, sPar, sFor, sRaise, sFldS, sFldG, sApp, sPop, nSl, sLm, kApp, sStL, sAugL, sAug, sDput, sRetG, putL, putE, putS, lstAt, Ev.cellOf, plOf, frzE, eC, eVar, e2, eTup, eLst, eFn, eCall, eAnd, eOr, eNot, eIf, eCh, eSl, oNone, oSome, bT, tT1, tAnd', tOr', tNot', tAll, eFld, eMeth, eMake, eSha, eFrz, nLst, nDct, tIte, fListD, eDget2, eIs, eNeg, rRng1, rRng2, nLstR, eTupR, eErrP, eErrN, eIsErr, wSeq, wRng1, wRng2, wOf, aCons, aNil, gAdd, Ev.gSub, gMulA, gMul, gDiv, gMod, gPow, gShl, gShr, gXor, gInt, gB, cEq, cNe, cLt, cLe, cGt, cGe, cOrd, cIsN, cNotN, cIsB, cNotB, cIn, cNotIn, gIx, slX, gDix, cDin, cDnin, fLen, fAbs, fInt, fOrd, fChr, fMax, fMin, fList, fTuple, fAll, fAny, datOf, dep, eqD, eqL, truX, seqOf, lstOf, dctAt, Ev.keyOf, nDctL, pairKV, dctOf, gN, gNl, gCs, gT, tyName, isT, iAdd, iSub, Ev.isNon, mulC, Ev.small64, powC, divC, modC, shrC, ixN, sExt, arrOf, eJoin, eRev, nAdd, nList, eS1, eSign, eEqO, gEqO, eqArg, eIsC, List.flatten_cons, List.flatten_nil, WV, WO, WS, wi_rng, wi_tup, wi_lst, wi_rol, wi_txt, wipe_cons, wipe_nil, nat0, Int.zero_add, Int.toNat_natCast, List.length_map, le_line, objAt_own, obj_non, obj_bl, obj_int, obj_str, obj_tup, obj_lst, Option.isSome_none, Nat.lt_add_one, lt_pr, gt_pr, le_pr, ge_pr, lookD_cons, look_tbl, all_inl, map_inl, putD_cons, putD_nil, str_eq, atI_eq, datL_cons, datL_nil, fnEnv, List.map_cons, List.map_nil, List.cons_append, List.nil_append, List.length_cons, List.length_nil, List.getElem?_cons_succ, List.getElem?_cons_zero, List.replicate_succ, List.replicate_zero, List.set_cons_succ, List.set_cons_zero, List.getElem?_nil, List.take_succ_cons, List.take_zero, List.take_nil, List.mem_cons, List.not_mem_nil, List.zip_cons_cons, List.zip_nil_right, List.foldl_cons, List.foldl_nil, Option.map_some, Option.map_none, Option.isSome_some, Option.getD_some, List.isEmpty_cons, List.isEmpty_nil, List.all_cons, List.all_nil, Nat.reduceAdd, Nat.reducePow, Int.reducePow, Int.reduceAbs, Int.reduceDiv, Int.reduceMod, Nat.reduceSub, Nat.reduceLT, Nat.reduceLeDiff, Nat.reduceEqDiff, Int.reduceLE, Int.reduceLT, Int.reduceSub, Int.reduceMul, Nat.reduceMul, Int.cast_ofNat_Int, Int.reduceToNat, Int.reduceNeg, Int.reduceAdd, Int.reduceEq, String.reduceEq, reduceIte, reduceCtorEq, if_true, if_false, if_pos, if_neg, Bool.false_eq_true, decide_true, decide_false, decide_eq_true_eq, Bool.not_true, Bool.not_false, Bool.and_true, Bool.true_and, Bool.and_false, Bool.false_and, Bool.or_true, Bool.true_or, Bool.or_false, Bool.false_or, Bool.and_self, Bool.or_self, Bool.and_eq_true, Bool.or_eq_true, Bool.not_eq_true', Bool.not_eq_eq_eq_not, decide_eq_false_iff_not, decide_not, bne_iff_ne, beq_iff_eq, ne_eq, not_true_eq_false, not_false_eq_true, List.getElem?_set_self, List.getElem?_set_ne, List.length_set, true_or, or_true, false_or, or_false, and_true, true_and, and_false, false_and, eq_self, and_self, or_self, List.set_set, String.reduceBEq, beq_self_eq_true, bne_self_eq_false, dr, get_k, k_lo, *])
local macro_rules | `(tactic| walk_at "wu") => `(tactic| simp only [↓eS_unl, ↓eS_try2, ↓eV_bind, ↓eS_then, ↓eV_val, ↓eV_exc, ↓eV_bot, ↓eS_nxt, ↓eS_rt, ↓eS_bk, ↓eS_ct, ↓eS_ex, ↓eS_bot, ↓eO_some, ↓eO_none, ↓eV_ite, ↓eS_ite, ↓eO_ite, ↓eS_seq, ↓eS_ftup, ↓eS_flst, ↓eS_frol, ↓eS_frng, ↓eS_ftxt, ↓eS_try, ↓eS_tryO, ↓eV_opt, ↓eS_opt, sNx, sIf, sRet, sEx, sSet, sSetL, sSetG, sSetN, sAsg, sPar, sFor, sRaise, sFldS, sFldG, sApp, sPop, nSl, sLm, kApp, sStL, sAugL, sAug, sDput, sRetG, putL, putE, putS, lstAt, Ev.cellOf, plOf, frzE, eC, eVar, e2, eTup, eLst, eFn, eCall, eAnd, eOr, eNot, eIf, eCh, eSl, oNone, oSome, bT, tT1, tAnd', tOr', tNot', tAll, eFld, eMeth, eMake, eSha, eFrz, nLst, nDct, tIte, fListD, eDget2, eIs, eNeg, rRng1, rRng2, nLstR, eTupR, eErrP, eErrN, eIsErr, wSeq, wRng1, wRng2, wOf, aCons, aNil, gAdd, Ev.gSub, gMulA, gMul, gDiv, gMod, gPow, gShl, gShr, gXor, gInt, gB, cEq, cNe, cLt, cLe, cGt, cGe, cOrd, cIsN, cNotN, cIsB, cNotB, cIn, cNotIn, gIx, slX, gDix, cDin, cDnin, fLen, fAbs, fInt, fOrd, fChr, fMax, fMin, fList, fTuple, fAll, fAny, datOf, dep, eqD, eqL, truX, seqOf, lstOf, dctAt, Ev.keyOf, nDctL, pairKV, dctOf, gN, gNl, gCs, gT, tyName, isT, iAdd, iSub, Ev.isNon, mulC, Ev.small64, powC, divC, modC, shrC, ixN, sExt, arrOf, eJoin, eRev, nAdd, nList, eS1, eSign, eEqO, gEqO, eqArg, eIsC, List.flatten_cons, List.flatten_nil, WV, WO, WS, wi_rng, wi_tup, wi_lst, wi_rol, wi_txt, wipe_cons, wipe_nil, nat0, Int.zero_add, Int.toNat_natCast, List.length_map, le_line, objAt_own, obj_non, obj_bl, obj_int, obj_str, obj_tup, obj_lst, Option.isSome_none, Nat.lt_add_one, lt_pr, gt_pr, le_pr, ge_pr, lookD_cons, look_tbl, all_inl, map_inl, putD_cons, putD_nil, str_eq, atI_eq, datL_cons, datL_nil, fnEnv, List.map_cons, List.map_nil, List.cons_append, List.nil_append, List.length_cons, List.length_nil, List.getElem?_cons_succ, List.getElem?_cons_zero, List.replicate_succ, List.replicate_zero, List.set_cons_succ, List.set_cons_zero, List.getElem?_nil, List.take_succ_cons, List.take_zero, List.take_nil, List.mem_cons, List.not_mem_nil, List.zip_cons_cons, List.zip_nil_right, List.foldl_cons, List.foldl_nil, Option.map_some, Option.map_none, Option.isSome_some, Option.getD_some, List.isEmpty_cons, List.isEmpty_nil, List.all_cons, List.all_nil, Nat.reduceAdd, Nat.reducePow, Int.reducePow, Int.reduceAbs, Int.reduceDiv, Int.reduceMod, Nat.reduceSub, Nat.reduceLT, Nat.reduceLeDiff, Nat.reduceEqDiff, Int.reduceLE, Int.reduceLT, Int.reduceSub, Int.reduceMul, Nat.reduceMul, Int.cast_ofNat_Int, Int.reduceToNat, Int.reduceNeg, Int.reduceAdd, Int.reduceEq, String.reduceEq, reduceIte, reduceCtorEq, if_true, if_false, if_pos, if_neg, Bool.false_eq_true, decide_true, decide_false, decide_eq_true_eq, Bool.not_true, Bool.not_false, Bool.and_true, Bool.true_and, Bool.and_false, Bool.false_and, Bool.or_true, Bool.true_or, Bool.or_false, Bool.false_or, Bool.and_self, Bool.or_self, Bool.and_eq_true, Bool.or_eq_true, Bool.not_eq_true', Bool.not_eq_eq_eq_not, decide_eq_false_iff_not, decide_not, bne_iff_ne, beq_iff_eq, ne_eq, not_true_eq_false, not_false_eq_true, List.getElem?_set_self, List.getElem?_set_ne, List.length_set, true_or, or_true, false_or, or_false, and_true, true_and, and_false, false_and, eq_self, and_self, or_self, List.set_set, String.reduceBEq, beq_self_eq_true, bne_self_eq_false, dr, get_k, k_lo, ↓eS_fcons, ↓eS_fnil, *])
local macro_rules | `(tactic| walk_at "wm") => `(tactic| simp only [↓eS_unl, ↓eS_try2, ↓eV_bind, ↓eS_then, ↓eV_val, ↓eV_exc, ↓eV_bot, ↓eS_nxt, ↓eS_rt, ↓eS_bk, ↓eS_ct, ↓eS_ex, ↓eS_bot, ↓eO_some, ↓eO_none, ↓eV_ite, ↓eS_ite, ↓eO_ite, ↓eS_seq, ↓eS_ftup, ↓eS_flst, ↓eS_frol, ↓eS_frng, ↓eS_ftxt, ↓eS_try, ↓eS_tryO, ↓eV_opt, ↓eS_opt, sNx, sIf, sRet, sEx, sSet, sSetL, sSetG, sSetN, sAsg, sPar, sFor, sRaise, sFldS, sFldG, sApp, sPop, nSl, sLm, kApp, sStL, sAugL, sAug, sDput, sRetG, putL, putE, putS, lstAt, Ev.cellOf, plOf, frzE, eC, eVar, e2, eTup, eLst, eFn, eCall, eAnd, eOr, eNot, eIf, eCh, eSl, oNone, oSome, bT, tT1, tAnd', tOr', tNot', tAll, eFld, eMeth, eMake, eSha, eFrz, nLst, nDct, tIte, fListD, eDget2, eIs, eNeg, rRng1, rRng2, nLstR, eTupR, eErrP, eErrN, eIsErr, wSeq, wRng1, wRng2, wOf, aCons, aNil, gAdd, Ev.gSub, gMulA, gMul, gDiv, gMod, gPow, gShl, gShr, gXor, gInt, gB, cEq, cNe, cLt, cLe, cGt, cGe, cOrd, cIsN, cNotN, cIsB, cNotB, gIx, slX, gDix, cDin, cDnin, fLen, fAbs, fInt, fOrd, fChr, fMax, fMin, fList, fTuple, fAll, fAny, datOf, dep, eqD, eqL, truX, seqOf, lstOf, dctAt, Ev.keyOf, nDctL, pairKV, dctOf, gN, gNl, gCs, gT, tyName, isT, iAdd, iSub, Ev.isNon, mulC, Ev.small64, powC, divC, modC, shrC, ixN, sExt, arrOf, eJoin, eRev, nAdd, nList, eS1, eSign, eEqO, gEqO, eqArg, eIsC, List.flatten_cons, List.flatten_nil, WV, WO, WS, wi_rng, wi_tup, wi_lst, wi_rol, wi_txt, wipe_cons, wipe_nil, nat0, Int.zero_add, Int.toNat_natCast, List.length_map, le_line, objAt_own, obj_non, obj_bl, obj_int, obj_str, obj_tup, obj_lst, Option.isSome_none, Nat.lt_add_one, lt_pr, gt_pr, le_pr, ge_pr, lookD_cons, look_tbl, all_inl, map_inl, putD_cons, putD_nil, str_eq, atI_eq, datL_cons, datL_nil, fnEnv, List.map_cons, List.map_nil, List.cons_append, List.nil_append, List.length_cons, List.length_nil, List.getElem?_cons_succ, List.getElem?_cons_zero, List.replicate_succ, List.replicate_zero, List.set_cons_succ, List.set_cons_zero, List.getElem?_nil, List.take_succ_cons, List.take_zero, List.take_nil, List.mem_cons, List.not_mem_nil, List.zip_cons_cons, List.zip_nil_right, List.foldl_cons, List.foldl_nil, Option.map_some, Option.map_none, Option.isSome_some, Option.getD_some, List.isEmpty_cons, List.isEmpty_nil, List.all_cons, List.all_nil, Nat.reduceAdd, Nat.reducePow, Int.reducePow, Int.reduceAbs, Int.reduceDiv, Int.reduceMod, Nat.reduceSub, Nat.reduceLT, Nat.reduceLeDiff, Nat.reduceEqDiff, Int.reduceLE, Int.reduceLT, Int.reduceSub, Int.reduceMul, Nat.reduceMul, Int.cast_ofNat_Int, Int.reduceToNat, Int.reduceNeg, Int.reduceAdd, Int.reduceEq, String.reduceEq, reduceIte, reduceCtorEq, if_true, if_false, if_pos, if_neg, Bool.false_eq_true, decide_true, decide_false, decide_eq_true_eq, Bool.not_true, Bool.not_false, Bool.and_true, Bool.true_and, Bool.and_false, Bool.false_and, Bool.or_true, Bool.true_or, Bool.or_false, Bool.false_or, Bool.and_self, Bool.or_self, Bool.and_eq_true, Bool.or_eq_true, Bool.not_eq_true', Bool.not_eq_eq_eq_not, decide_eq_false_iff_not, decide_not, bne_iff_ne, beq_iff_eq, ne_eq, not_true_eq_false, not_false_eq_true, List.getElem?_set_self, List.getElem?_set_ne, List.length_set, true_or, or_true, false_or, or_false, and_true, true_and, and_false, false_and, eq_self, and_self, or_self, List.set_set, String.reduceBEq, beq_self_eq_true, bne_self_eq_false, dr, get_k, k_lo])
local macro_rules | `(tactic| walk_at "wn") => `(tactic| simp only [↓eS_unl, ↓eS_try2, ↓eV_bind, ↓eS_then, ↓eV_val, ↓eV_exc, ↓eV_bot, ↓eS_nxt, ↓eS_rt, ↓eS_bk, ↓eS_ct, ↓eS_ex, ↓eS_bot, ↓eO_some, ↓eO_none, ↓eV_ite, ↓eS_ite, ↓eO_ite, ↓eS_seq, ↓eS_ftup, ↓eS_flst, ↓eS_frol, ↓eS_frng, ↓eS_ftxt, ↓eS_try, ↓eS_tryO, ↓eV_opt, ↓eS_opt, sNx, sIf, sRet, sEx, sSet, sSetL, sSetG, sSetN, sAsg, sPar, sFor, sRaise, sFldS, sFldG, sApp, sPop, nSl, sLm, kApp, sStL, sAugL, sAug, sDput, sRetG, putL, putE, putS, lstAt, Ev.cellOf, plOf, frzE, eC, eVar, e2, eTup, eLst, eFn, eCall, eAnd, eOr, eNot, eIf, eCh, eSl, oNone, oSome, bT, tT1, tAnd', tOr', tNot', tAll, eFld, eMeth, eMake, eSha, eFrz, nLst, nDct, tIte, fListD, eDget2, eIs, eNeg, rRng1, rRng2, nLstR, eTupR, eErrP, eErrN, eIsErr, wSeq, wRng1, wRng2, wOf, aCons, aNil, gAdd, Ev.gSub, gMulA, gMul, gDiv, gMod, gPow, gShl, gShr, gXor, gInt, gB, cEq, cNe, cLt, cLe, cGt, cGe, cOrd, cIsN, cNotN, cIsB, cNotB, gIx, slX, gDix, cDin, cDnin, fLen, fAbs, fInt, fOrd, fChr, fMax, fMin, fList, fTuple, fAll, fAny, datOf, dep, eqD, eqL, truX, seqOf, lstOf, dctAt, Ev.keyOf, nDctL, pairKV, dctOf, gN, gNl, gCs, gT, tyName, isT, iAdd, iSub, Ev.isNon, mulC, Ev.small64, powC, divC, modC, shrC, ixN, sExt, arrOf, eJoin, eRev, nAdd, nList, eS1, eSign, eEqO, gEqO, eqArg, eIsC, List.flatten_cons, List.flatten_nil, WV, WO, WS, wi_rng, wi_tup, wi_lst, wi_rol, wi_txt, wipe_cons, wipe_nil, nat0, Int.zero_add, Int.toNat_natCast, List.length_map, le_line, objAt_own, obj_non, obj_bl, obj_int, obj_str, obj_tup, obj_lst, Option.isSome_none, Nat.lt_add_one, lt_pr, gt_pr, le_pr, ge_pr, lookD_cons, look_tbl, all_inl, map_inl, putD_cons, putD_nil, str_eq, atI_eq, datL_cons, datL_nil, fnEnv, List.map_cons, List.map_nil, List.cons_append, List.nil_append, List.length_cons, List.length_nil, List.getElem?_cons_succ, List.getElem?_cons_zero, List.replicate_succ, List.replicate_zero, List.set_cons_succ, List.set_cons_zero, List.getElem?_nil, List.take_succ_cons, List.take_zero, List.take_nil, List.mem_cons, List.not_mem_nil, List.zip_cons_cons, List.zip_nil_right, List.foldl_cons, List.foldl_nil, Option.map_some, Option.map_none, Option.isSome_some, Option.getD_some, List.isEmpty_cons, List.isEmpty_nil, List.all_cons, List.all_nil, Nat.reduceAdd, Nat.reducePow, Int.reducePow, Int.reduceAbs, Int.reduceDiv, Int.reduceMod, Nat.reduceSub, Nat.reduceLT, Nat.reduceLeDiff, Nat.reduceEqDiff, Int.reduceLE, Int.reduceLT, Int.reduceSub, Int.reduceMul, Nat.reduceMul, Int.cast_ofNat_Int, Int.reduceToNat, Int.reduceNeg, Int.reduceAdd, Int.reduceEq, String.reduceEq, reduceIte, reduceCtorEq, if_true, if_false, if_pos, if_neg, Bool.false_eq_true, decide_true, decide_false, decide_eq_true_eq, Bool.not_true, Bool.not_false, Bool.and_true, Bool.true_and, Bool.and_false, Bool.false_and, Bool.or_true, Bool.true_or, Bool.or_false, Bool.false_or, Bool.and_self, Bool.or_self, Bool.and_eq_true, Bool.or_eq_true, Bool.not_eq_true', Bool.not_eq_eq_eq_not, decide_eq_false_iff_not, decide_not, bne_iff_ne, beq_iff_eq, ne_eq, not_true_eq_false, not_false_eq_true, List.getElem?_set_self, List.getElem?_set_ne, List.length_set, true_or, or_true, false_or, or_false, and_true, true_and, and_false, false_and, eq_self, and_self, or_self, List.set_set, String.reduceBEq, beq_self_eq_true, bne_self_eq_false, dr, get_k, k_lo, *])

section
variable {S : List Cell} {vs : List D} {i : Nat} {t : Tp}
theorem odd_d : WV (C__law_odd [.own 0] (t.c :: S)) (fun d S' => d ∈ odds ∧ S' = (t.n 14).c :: S) NX := by
  have hm := at_k (t := t) (lim := 14) (ds := odds) (by decide) (by decide)
  have hrep : (List.replicate 13 [97]).flatten = [97, 97, 97, 97, 97, 97, 97, 97, 97, 97, 97, 97, 97] := rfl
  unfold C__law_odd b__law_odd
  rw [WV, eV_fn]
  unfold odds at hm
  walk_at "ws"
  exact hm
theorem vA_left {A B : List D} {k : Nat} (h : k < A.length) : vA (A ++ B) k = vA A k := by
  unfold vA
  rw [List.getD_eq_getElem?_getD, List.getD_eq_getElem?_getD, List.getElem?_append_left h]
theorem vA_mid {A B : List D} {x : D} : vA (A ++ [x] ++ B) A.length = x := by
  unfold vA
  rw [List.getD_eq_getElem?_getD, List.append_assoc, List.getElem?_append_right (Nat.le_refl _), Nat.sub_self]; rfl
abbrev jA (js : List Nat) (k : Nat) : Nat := js.getD k 0
theorem vA_map {js : List Nat} {k : Nat} (h : k < js.length) : vA (js.map at6) k = at6 (jA js k) := by
  unfold vA jA
  rw [List.getD_eq_getElem?_getD, List.getD_eq_getElem?_getD, List.getElem?_map, List.getElem?_eq_getElem h]; rfl
/-- rows of the six, ascending -/
structure Asc (js : List Nat) : Prop where
  six : ∀ j ∈ js, j < 6
  up : js.Pairwise (· < ·)
  len : js.length ≤ 6
theorem Asc.at {js : List Nat} (h : Asc js) {k : Nat} (hk : k < js.length) : jA js k < 6 := by
  unfold jA
  rw [List.getD_eq_getElem?_getD, List.getElem?_eq_getElem hk]
  exact h.six _ (List.getElem_mem hk)
theorem Asc.lt {js : List Nat} (h : Asc js) {k m : Nat} (hkm : k < m) (hm : m < js.length) : jA js k < jA js m := by
  unfold jA
  rw [List.getD_eq_getElem?_getD, List.getElem?_eq_getElem (show k < js.length by omega), List.getD_eq_getElem?_getD, List.getElem?_eq_getElem hm]
  dsimp only [Option.getD_some]
  exact List.pairwise_iff_getElem.mp h.up k m (by omega) hm hkm
theorem okP_of {js : List Nat} (h : Asc js) {k : Nat} (hk : k < js.length) (h1 : vA vs k = at6 (jA js k)) (h2 : 0 < k → vA vs (k - 1) = at6 (jA js (k - 1))) : okP vs k := by
  refine ⟨fun S => by rw [h1]; exact part_ok (at6_mem (h.at hk)), fun k0 env S => ?_⟩
  rw [h1, h2 k0, ge6 (h.at (by omega)) (h.at hk), decide_eq_false]
  have := h.lt (k := k - 1) (m := k) (by omega) hk
  omega
theorem all_ok {js : List Nat} (h : Asc js) : C_check_parts [.tup (js.map at6)] S = .val .non S := by
  refine parts_ok (by rw [List.length_map]; have := h.len; omega) fun k hk => ?_
  rw [List.length_map] at hk
  exact okP_of h hk (vA_map hk) fun _ => vA_map (by omega)
theorem take_at {js : List Nat} {a k : Nat} {x : D} {B : List D} (ha : a ≤ js.length) (hk : k < a) : vA ((js.map at6).take a ++ [x] ++ B) k = at6 (jA js k) := by
  rw [List.append_assoc, vA_left (by rw [List.length_take, List.length_map]; omega)]
  unfold vA
  rw [List.getD_eq_getElem?_getD, List.getElem?_take, if_pos hk, ← List.getD_eq_getElem?_getD]
  exact vA_map (by omega)
theorem take_mid {js : List Nat} {a : Nat} {x : D} {B : List D} (ha : a ≤ js.length) : vA ((js.map at6).take a ++ [x] ++ B) a = x := by
  have := vA_mid (A := (js.map at6).take a) (x := x) (B := B)
  rw [show ((js.map at6).take a).length = a by rw [List.length_take, List.length_map]; omega] at this
  exact this
theorem mid_len {js : List Nat} {a : Nat} {x : D} (ha : a ≤ js.length) : ((js.map at6).take a ++ [x] ++ (js.map at6).drop a).length = js.length + 1 := by
  simp; omega
theorem odd_bad {js : List Nat} (h : Asc js) {a : Nat} {x : D} (ha : a ≤ js.length) (hx : x ∈ odds) : C_check_parts [.tup ((js.map at6).take a ++ [x] ++ (js.map at6).drop a)] S = .exc "InvalidParts" (.int a) S := by
  refine parts_bad (by rw [mid_len ha]; have := h.len; omega) (by rw [mid_len ha]; omega) (fun k hk => ?_) ?_
  · exact okP_of h (by omega) (take_at ha hk) fun _ => take_at ha (by omega)
  · exact .inl fun S => by rw [take_mid ha]; exact part_odd hx
theorem dup_bad {js : List Nat} (h : Asc js) {a : Nat} (ha : a < js.length) (h0 : 0 < a) : C_check_parts [.tup ((js.map at6).take a ++ [vA (js.map at6) (a - 1)] ++ (js.map at6).drop a)] S = .exc "InvalidParts" (.int a) S := by
  have hla : a ≤ js.length := by omega
  refine parts_bad (by rw [mid_len hla]; have := h.len; omega) (by rw [mid_len hla]; omega) (fun k hk => ?_) ?_
  · exact okP_of h (by omega) (take_at hla hk) fun _ => take_at hla (by omega)
  · refine .inr ⟨fun S => ?_, h0, fun env S => ?_⟩
    · rw [take_mid hla, vA_map (by omega)]
      exact part_ok (at6_mem (h.at (by omega)))
    · rw [take_mid hla, vA_map (by omega), take_at hla (by omega), ge6 (h.at (by omega)) (h.at (by omega)), decide_eq_true (Nat.le_refl _)]
theorem rev_at {js : List Nat} {k : Nat} (hk : k < js.length) : vA (js.map at6).reverse k = at6 (jA js (js.length - 1 - k)) := by
  unfold vA
  rw [List.getD_eq_getElem?_getD, List.getElem?_reverse (by rw [List.length_map]; exact hk), ← List.getD_eq_getElem?_getD, List.length_map]
  exact vA_map (by omega)
theorem rev_bad {js : List Nat} (h : Asc js) (h1 : 1 < js.length) : C_check_parts [.tup (js.map at6).reverse] S = .exc "InvalidParts" (.int 1) S := by
  have := parts_bad (S := S) (vs := (js.map at6).reverse) (i := 1) (by rw [List.length_reverse, List.length_map]; have := h.len; omega) (by rw [List.length_reverse, List.length_map]; omega) (fun k hk => ?_) ?_
  · exact this
  · obtain rfl : k = 0 := by omega
    exact ⟨fun S => by rw [rev_at (by omega)]; exact part_ok (at6_mem (h.at (by omega))), fun z => absurd z (Nat.lt_irrefl _)⟩
  · refine .inr ⟨fun S => by rw [rev_at h1]; exact part_ok (at6_mem (h.at (by omega))), by decide, fun env S => ?_⟩
    rw [rev_at h1, rev_at (by omega), ge6 (h.at (by omega)) (h.at (by omega)), decide_eq_true]
    exact Nat.le_of_lt (h.lt (by omega) (by omega))
def Told (k : Int) (v due : D) : Prop := (∀ S, C__law_told [.int k, v] S = .val due S) ∧ (due = .non ∨ ∃ (z : List Nat) (i : Int), due = .tup [.str z, .int i])
theorem told0 {v : D} {i : Int} (h : ∀ S, C_check_parts [v] S = .exc "InvalidParts" (.int i) S) : Told 0 v (.tup [.str [112, 97, 114, 116, 115], .int i]) := ⟨fun S => told0_bad (h S), .inr ⟨_, _, rfl⟩⟩
theorem told1 {v : D} {i : Int} (h : ∀ S, C_check_reply [v] S = .exc "InvalidReply" (.int i) S) : Told 1 v (.tup [.str [114, 101, 112, 108, 121], .int i]) := ⟨fun S => told1_bad (h S), .inr ⟨_, _, rfl⟩⟩
theorem five {t : Tp} : t.k 5 = 0 ∨ t.k 5 = 1 ∨ t.k 5 = 2 ∨ t.k 5 = 3 ∨ t.k 5 = 4 := by
  have := k_lo (t := t) (lim := 5) (by decide)
  have := k_hi (t := t) (lim := 5) (by decide)
  omega
theorem parts_d (t : Tp) : WV (C__law_parts [.own 0] [t.c]) (fun d S' => ∃ (t' : Tp) (v due : D), d = .tup [v, due] ∧ S' = [t'.c] ∧ Told 0 v due) NX := by
  unfold C__law_parts b__law_parts
  rw [WV, eV_fn]
  walk_at "ws"
  refine wv_lc ?_
  walk_at "ws"
  refine wv_lcI (fun ds acc S' => ∃ (n : Nat) (js : List Nat) (t' : Tp), n ≤ 6 ∧ ds = p6.drop n ∧ acc = js.map at6 ∧ js.Pairwise (· < ·) ∧ (∀ j ∈ js, j < n) ∧ js.length ≤ n ∧ S' = [t'.c]) ?_ ?_ ⟨0, [], t, by decide, rfl, rfl, List.Pairwise.nil, fun j h => (nomatch h), by decide, rfl⟩
  · rintro d ds acc S' ⟨n, js, t', hn, hd, rfl, hup, hlt, hlen, rfl⟩
    have hn6 : n < 6 := by
      rcases Nat.lt_or_ge n 6 with h | h
      · exact h
      · rw [List.drop_of_length_le (by exact h)] at hd; cases hd
    have hdn : d = at6 n ∧ ds = p6.drop (n + 1) := by
      rw [List.drop_eq_getElem_cons (by exact hn6)] at hd
      injection hd with e1 e2
      refine ⟨?_, e2⟩
      unfold at6
      rw [e1, List.getD_eq_getElem?_getD, List.getElem?_eq_getElem (by exact hn6)]; rfl
    obtain ⟨rfl, rfl⟩ := hdn
    have hs : (js.map at6).length < sizeLine := by rw [List.length_map, sizeLine_eq]; omega
    have hs2 : js.length < sizeLine := by rw [sizeLine_eq]; omega
    have f1 : ∃ (n' : Nat) (js' : List Nat) (t2 : Tp), n' ≤ 6 ∧ p6.drop (n + 1) = p6.drop n' ∧ js.map at6 = js'.map at6 ∧ js'.Pairwise (· < ·) ∧ (∀ j ∈ js', j < n') ∧ js'.length ≤ n' ∧ [(t'.n 2).c] = [t2.c] := ⟨n + 1, js, _, by omega, rfl, rfl, hup, fun j h => by have := hlt j h; omega, by omega, rfl⟩
    have f2 : ∃ (n' : Nat) (js' : List Nat) (t2 : Tp), n' ≤ 6 ∧ p6.drop (n + 1) = p6.drop n' ∧ js.map at6 ++ [at6 n] = js'.map at6 ∧ js'.Pairwise (· < ·) ∧ (∀ j ∈ js', j < n') ∧ js'.length ≤ n' ∧ [(t'.n 2).c] = [t2.c] := ⟨n + 1, js ++ [n], _, by omega, rfl, by simp, by
      rw [List.pairwise_append]
      exact ⟨hup, List.pairwise_singleton _ _, fun a ha b hb => by rw [List.mem_singleton] at hb; subst hb; exact hlt a ha⟩, fun j h => by
      rcases List.mem_append.mp h with h | h
      · have := hlt j h; omega
      · rw [List.mem_singleton] at h; omega, by simp; omega, rfl⟩
    clear hn hup hlt hlen hn6 hd
    by_cases c : t'.k 2 = 0
    · walk_at "ws"
      repeat (simp only [c]; (try walk_at "ws"))
      exact ⟨hs2, f2⟩
    · walk_at "ws"
      repeat (simp only [c]; (try walk_at "ws"))
      exact f1
  · rintro acc S' ⟨n, js, t', hn, hd, rfl, hup, hlt, hlen, rfl⟩
    have h : Asc js := ⟨fun j hj => by have := hlt j hj; omega, hup, by omega⟩
    clear hn hd hup hlt hlen
    have hl6 := h.len
    have hdef : Told 0 (.tup (js.map at6)) .non := ⟨fun S => told0_ok (all_ok h), .inl rfl⟩
    rcases five (t := t') with c | c | c | c | c
    · have n0 : (0 : Int) < (js.length : Int) + 1 := by omega
      have n1 : (js.length : Int) + 1 < 18446744073709551616 := by omega
      have k0 := k_lo (t := t'.n 5) n0
      have k1 := k_hi (t := t'.n 5) n0
      obtain ⟨a, ha⟩ : ∃ a : Nat, (t'.n 5).k ((js.length : Int) + 1) = a := ⟨((t'.n 5).k ((js.length : Int) + 1)).toNat, by omega⟩
      have hal : a ≤ js.length := by omega
      have hc1 := cut_take (x := js.map at6) (k := a)
      have hc2 := cut_drop (x := js.map at6) (k := a)
      have z1 : ((js.map at6).take a).length + 1 ≤ sizeLine := by rw [List.length_take, sizeLine_eq]; omega
      have z2 : ∀ x : D, ((js.map at6).take a ++ [x]).length + ((js.map at6).drop a).length ≤ sizeLine := fun x => by rw [List.length_append, List.length_take, List.length_drop, List.length_map, sizeLine_eq]; simp; omega
      have ho := odd_d (S := []) (t := (t'.n 5).n ((js.length : Int) + 1))
      have fin : ∀ x, x ∈ odds → Told 0 (.tup ((js.map at6).take a ++ [x] ++ (js.map at6).drop a)) (.tup [.str [112, 97, 114, 116, 115], .int a]) := fun x hx => told0 fun S => odd_bad h hal hx
      have hx0 := ho
      clear hdef h hl6 k0 k1 hal ho
      walk_at "wh"
      refine WV_of hx0 ?_
      rintro x S' ⟨hx, rfl⟩
      have fin := fin x hx
      clear hx hx0 n0 n1
      have fin2 : ∃ (t'_1 : Tp) (v due : D), D.tup [.tup ((js.map at6).take a ++ [x] ++ (js.map at6).drop a), .tup [.str [112, 97, 114, 116, 115], .int a]] = .tup [v, due] ∧ [((((t'.n 5).n ((js.length : Int) + 1)).n 14)).c] = [t'_1.c] ∧ Told 0 v due := ⟨_, _, _, rfl, rfl, fin⟩
      clear fin
      walk_at "ws"
      repeat (simp only [z1, z2, hc1, hc2, ha]; (try walk_at "ws"))
      exact fin2
    · by_cases c1 : 1 < js.length
      · have n0 : (0 : Int) < (js.length : Int) - 1 := by omega
        have n1 : (js.length : Int) - 1 < 18446744073709551616 := by omega
        have k0 := k_lo (t := t'.n 5) n0
        have k1 := k_hi (t := t'.n 5) n0
        have g1 : (1 : Int) < (js.length : Int) := by omega
        obtain ⟨b, ha⟩ : ∃ b : Nat, (t'.n 5).k ((js.length : Int) - 1) = b := ⟨((t'.n 5).k ((js.length : Int) - 1)).toNat, by omega⟩
        have hbl : b + 1 < js.length := by omega
        have e1 : (1 : Int) + (b : Int) = ((b + 1 : Nat) : Int) := by omega
        have e2 : ((b + 1 : Nat) : Int) - 1 = (b : Int) := by omega
        have e3 : (0 : Int) ≤ (b : Int) := by omega
        have hg := getD_at (ds := js.map at6) (k := b) (by rw [List.length_map]; omega)
        have hc1 := cut_take (x := js.map at6) (k := b + 1)
        have hc2 := cut_drop (x := js.map at6) (k := b + 1)
        have z1 : ((js.map at6).take (b + 1)).length + 1 ≤ sizeLine := by rw [List.length_take, sizeLine_eq]; omega
        have z2 : ∀ x : D, ((js.map at6).take (b + 1) ++ [x]).length + ((js.map at6).drop (b + 1)).length ≤ sizeLine := fun x => by rw [List.length_append, List.length_take, List.length_drop, List.length_map, sizeLine_eq]; simp; omega
        have fin : Told 0 (.tup ((js.map at6).take (b + 1) ++ [vA (js.map at6) b] ++ (js.map at6).drop (b + 1))) (.tup [.str [112, 97, 114, 116, 115], .int ((b + 1 : Nat) : Int)]) := told0 fun S => dup_bad h hbl (by omega)
        have fin2 : ∃ (t'_1 : Tp) (v due : D), D.tup [.tup ((js.map at6).take (b + 1) ++ [vA (js.map at6) b] ++ (js.map at6).drop (b + 1)), .tup [.str [112, 97, 114, 116, 115], .int ((b + 1 : Nat) : Int)]] = .tup [v, due] ∧ [(((t'.n 5).n ((js.length : Int) - 1))).c] = [t'_1.c] ∧ Told 0 v due := ⟨_, _, _, rfl, rfl, fin⟩
        have hdr := dr (t := t'.n 5) (S := []) n0 n1
        rw [ha] at hdr
        clear hdef h hl6 k0 k1 hbl fin n0 n1 c1 ha
        walk_at "ws"
        repeat (simp only [c, g1, hdr, e1, e2, e3, hg, hc1, hc2, z1, z2]; (try walk_at "ws"))
        exact fin2
      · have g1 : ¬(1 : Int) < (js.length : Int) := by omega
        clear h hl6 c1
        walk_at "ws"
        repeat (simp only [c, g1]; (try walk_at "ws"))
        exact ⟨_, _, _, rfl, rfl, hdef⟩
    · by_cases c1 : 1 < js.length
      · have g1 : (1 : Int) < (js.length : Int) := by omega
        have fin : Told 0 (.tup (js.map at6).reverse) (.tup [.str [112, 97, 114, 116, 115], .int 1]) := told0 fun S => rev_bad h c1
        clear hdef h hl6 c1
        walk_at "ws"
        repeat (simp only [c, g1]; (try walk_at "ws"))
        exact ⟨_, _, _, rfl, rfl, fin⟩
      · have g1 : ¬(1 : Int) < (js.length : Int) := by omega
        clear h hl6 c1
        walk_at "ws"
        repeat (simp only [c, g1]; (try walk_at "ws"))
        exact ⟨_, _, _, rfl, rfl, hdef⟩
    · have hm := at_all (t := t'.n 5) (lim := 4) (ds := [.lst (js.map at6), .non, .int 5, .str [99, 97, 108, 108, 101, 114]]) notTup (by decide) (by simp) (by simp [notTup])
      have fin := told0 fun S => parts_not (S := S) hm
      clear hdef h hl6 hm
      walk_at "ws"
      repeat (simp only [c]; (try walk_at "ws"))
      exact ⟨_, _, _, rfl, rfl, fin⟩
    · walk_at "ws"
      repeat (simp only [c]; (try walk_at "ws"))
      exact ⟨_, _, _, rfl, rfl, hdef⟩
end
end Law

namespace Law
open PySem L2 Ev
local macro_rules | `(tactic| walk_at "ws") => `(tactic| simp only [↓eS_unl, ↓eS_try2, ↓eV_bind, ↓eS_then, ↓eV_val, ↓eV_exc, ↓eV_bot, ↓eS_nxt, ↓eS_rt, ↓eS_bk, ↓eS_ct, ↓eS_ex, ↓eS_bot, ↓eO_some, ↓eO_none, ↓eV_ite, ↓eS_ite, ↓eO_ite, ↓eS_seq, ↓eS_ftup, ↓eS_flst, ↓eS_frol, ↓eS_frng, ↓eS_ftxt, ↓eS_try, ↓eS_tryO, ↓eV_opt, ↓eS_opt, sNx, sIf, sRet, sEx, sSet, sSetL, sSetG, sSetN, sAsg, sPar, sFor, sRaise, sFldS, sFldG, sApp, sPop, nSl, sLm, kApp, sStL, sAugL, sAug, sDput, sRetG, putL, putE, putS, lstAt, Ev.cellOf, plOf, frzE, eC, eVar, e2, eTup, eLst, eFn, eCall, eAnd, eOr, eNot, eIf, eCh, eSl, oNone, oSome, bT, tT1, tAnd', tOr', tNot', tAll, eFld, eMeth, eMake, eSha, eFrz, nLst, nDct, tIte, fListD, eDget2, eIs, eNeg, rRng1, rRng2, nLstR, eTupR, eErrP, eErrN, eIsErr, wSeq, wRng1, wRng2, wOf, aCons, aNil, gAdd, Ev.gSub, gMulA, gMul, gDiv, gMod, gPow, gShl, gShr, gXor, gInt, gB, cEq, cNe, cLt, cLe, cGt, cGe, cOrd, cIsN, cNotN, cIsB, cNotB, cIn, cNotIn, gIx, slX, gDix, cDin, cDnin, fLen, fAbs, fInt, fOrd, fChr, fMax, fMin, fList, fTuple, fAll, fAny, datOf, dep, eqD, eqL, truX, seqOf, lstOf, dctAt, Ev.keyOf, nDctL, pairKV, dctOf, gN, gNl, gCs, gT, tyName, isT, iAdd, iSub, Ev.isNon, mulC, Ev.small64, powC, divC, modC, shrC, ixN, sExt, arrOf, eJoin, eRev, nAdd, nList, eS1, eSign, eEqO, gEqO, eqArg, eIsC, List.flatten_cons, List.flatten_nil, WV, WO, WS, wi_rng, wi_tup, wi_lst, wi_rol, wi_txt, wipe_cons, wipe_nil, nat0, Int.zero_add, Int.toNat_natCast, List.length_map, le_line, objAt_own, obj_non, obj_bl, obj_int, obj_str, obj_tup, obj_lst, Option.isSome_none, Nat.lt_add_one, lt_pr, gt_pr, le_pr, ge_pr, lookD_cons, look_tbl, all_inl, map_inl, putD_cons, putD_nil, str_eq, atI_eq, datL_cons, datL_nil, fnEnv, List.map_cons, List.map_nil, List.cons_append, List.nil_append, List.length_cons, List.length_nil, List.getElem?_cons_succ, List.getElem?_cons_zero, List.replicate_succ, List.replicate_zero, List.set_cons_succ, List.set_cons_zero, List.getElem?_nil, List.take_succ_cons, List.take_zero, List.take_nil, List.mem_cons, List.not_mem_nil, List.zip_cons_cons, List.zip_nil_right, List.foldl_cons, List.foldl_nil, Option.map_some, Option.map_none, Option.isSome_some, Option.getD_some, List.isEmpty_cons, List.isEmpty_nil, List.all_cons, List.all_nil, Nat.reduceAdd, Nat.reducePow, Int.reducePow, Int.reduceAbs, Int.reduceDiv, Int.reduceMod, Nat.reduceSub, Nat.reduceLT, Nat.reduceLeDiff, Nat.reduceEqDiff, Int.reduceLE, Int.reduceLT, Int.reduceSub, Int.reduceMul, Nat.reduceMul, Int.cast_ofNat_Int, Int.reduceToNat, Int.reduceNeg, Int.reduceAdd, Int.reduceEq, String.reduceEq, reduceIte, reduceCtorEq, if_true, if_false, if_pos, if_neg, Bool.false_eq_true, decide_true, decide_false, decide_eq_true_eq, Bool.not_true, Bool.not_false, Bool.and_true, Bool.true_and, Bool.and_false, Bool.false_and, Bool.or_true, Bool.true_or, Bool.or_false, Bool.false_or, Bool.and_self, Bool.or_self, Bool.and_eq_true, Bool.or_eq_true, Bool.not_eq_true', Bool.not_eq_eq_eq_not, decide_eq_false_iff_not, decide_not, bne_iff_ne, beq_iff_eq, ne_eq, not_true_eq_false, not_false_eq_true, List.getElem?_set_self, List.getElem?_set_ne, List.length_set, true_or, or_true, false_or, or_false, and_true, true_and, and_false, false_and, eq_self, and_self, or_self, List.set_set, String.reduceBEq, beq_self_eq_true, bne_self_eq_false, dr, get_k, k_lo])
local macro_rules | `(tactic| walk_at "wh") => `(tactic| simp only [↓eS_unl, ↓eS_try2, ↓eV_bind, ↓eS_then, ↓eV_val, ↓eV_exc, ↓eV_bot, ↓eS_nxt, ↓eS_rt, ↓eS_bk, ↓eS_ct, ↓eS_ex, ↓eS_bot, ↓eO_some, ↓eO_none, ↓eV_ite, ↓eS_ite, ↓eO_ite, ↓eS_seq, ↓eS_ftup, ↓eS_flst, ↓eS_frol, ↓eS_frng, ↓eS_ftxt, ↓eS_try, ↓eS_tryO, ↓eV_opt, ↓eS_opt, sNx, sIf, sRet, sEx, sSet, sSetL, sSetG, sSetN, sAsg, sPar, sFor, sRaise, sFldS, sFldG, sApp, sPop, nSl, sLm, kApp, sStL, sAugL, sAug, sDput, sRetG, putL, putE, putS, lstAt, Ev.cellOf, plOf, frzE, eC, eVar, e2, eTup, eLst, eFn, eCall, eAnd, eOr, eNot, eIf, eCh, eSl, oNone, oSome, bT, tT1, tAnd', tOr', tNot', tAll, eFld, eMeth, eMake, eSha, eFrz, nLst, nDct, tIte, fListD, eDget2, eIs, eNeg, rRng1, rRng2, nLstR, eTupR, eErrP, eErrN, eIsErr, wSeq, wRng1, wRng2, wOf, aCons, aNil, gAdd, Ev.gSub, gMulA, gMul, gDiv, gMod, gPow, gShl, gShr, gXor, gInt, gB, cEq, cNe, cLt, cLe, cGt, cGe, cOrd, cIsN, cNotN, cIsB, cNotB, cIn, cNotIn, gIx, slX, gDix, cDin, cDnin, fLen, fAbs, fInt, fOrd, fChr, fMax, fMin, fList, fTuple, fAll, fAny, datOf, dep, eqD, eqL, truX, seqOf, lstOf, dctAt, Ev.keyOf, nDctL, pairKV, dctOf, gN, gNl, gCs, gT, tyName, isT, iAdd, iSub, Ev.isNon, mulC, Ev.small64, powC, divC, modC, shrC, ixN, sExt, arrOf, eJoin, eRev, nAdd, nList, eS1, eSign, eEqO, gEqO, eqArg, eIsC, List.flatten_cons, List.flatten_nil, WV, WO, WS, wi_rng, wi_tup, wi_lst, wi_rol, wi_txt, wipe_cons, wipe_nil, nat0, Int.zero_add, Int.toNat_natCast, List.length_map, le_line, objAt_own, obj_non, obj_bl, obj_int, obj_str, obj_tup, obj_lst, Option.isSome_none, Nat.lt_add_one, lt_pr, gt_pr, le_pr, ge_pr, lookD_cons, look_tbl, all_inl, map_inl, putD_cons, putD_nil, str_eq, atI_eq, datL_cons, datL_nil, fnEnv, List.map_cons, List.map_nil, List.cons_append, List.nil_append, List.length_cons, List.length_nil, List.getElem?_cons_succ, List.getElem?_cons_zero, List.replicate_succ, List.replicate_zero, List.set_cons_succ, List.set_cons_zero, List.getElem?_nil, List.take_succ_cons, List.take_zero, List.take_nil, List.mem_cons, List.not_mem_nil, List.zip_cons_cons, List.zip_nil_right, List.foldl_cons, List.foldl_nil, Option.map_some, Option.map_none, Option.isSome_some, Option.getD_some, List.isEmpty_cons, List.isEmpty_nil, List.all_cons, List.all_nil, Nat.reduceAdd, Nat.reducePow, Int.reducePow, Int.reduceAbs, Int.reduceDiv, Int.reduceMod, Nat.reduceSub, Nat.reduceLT, Nat.reduceLeDiff, Nat.reduceEqDiff, Int.reduceLE, Int.reduceLT, Int.reduceSub, Int.reduceMul, Nat.reduceMul, Int.cast_ofNat_Int, Int.reduceToNat, Int.reduceNeg, Int.reduceAdd, Int.reduceEq, String.reduceEq, reduceIte, reduceCtorEq, if_true, if_false, if_pos, if_neg, Bool.false_eq_true, decide_true, decide_false, decide_eq_true_eq, Bool.not_true, Bool.not_false, Bool.and_true, Bool.true_and, Bool.and_false, Bool.false_and, Bool.or_true, Bool.true_or, Bool.or_false, Bool.false_or, Bool.and_self, Bool.or_self, Bool.and_eq_true, Bool.or_eq_true, Bool.not_eq_true', Bool.not_eq_eq_eq_not, decide_eq_false_iff_not, decide_not, bne_iff_ne, beq_iff_eq, ne_eq, not_true_eq_false, not_false_eq_true, List.getElem?_set_self, List.getElem?_set_ne, List.length_set, true_or, or_true, false_or, or_false, and_true, true_and, and_false, false_and, eq_self, and_self, or_self, List.set_set, String.reduceBEq, beq_self_eq_true, bne_self_eq_false, dr, get_k, k_lo, *])
local macro_rules | `(tactic| walk_at "wu") => `(tactic| simp only [↓eS_unl, ↓eS_try2, ↓eV_bind, ↓eS_then, ↓eV_val, ↓eV_exc, ↓eV_bot, ↓eS_nxt, ↓eS_rt, ↓eS_bk, ↓eS_ct, ↓eS_ex, ↓eS_bot, ↓eO_some, ↓eO_none, ↓eV_ite, ↓eS_ite, ↓eO_ite, ↓eS_seq, ↓eS_ftup, ↓eS_flst, ↓eS_frol, ↓eS_frng, ↓eS_ftxt, ↓eS_try, ↓eS_tryO, ↓eV_opt, ↓eS_opt, sNx, sIf, sRet, sEx, sSet, sSetL, sSetG, sSetN, sAsg, sPar, sFor, sRaise, sFldS, sFldG, sApp, sPop, nSl, sLm, kApp, sStL, sAugL, sAug, sDput, sRetG, putL, putE, putS, lstAt, Ev.cellOf, plOf, frzE, eC, eVar, e2, eTup, eLst, eFn, eCall, eAnd, eOr, eNot, eIf, eCh, eSl, oNone, oSome, bT, tT1, tAnd', tOr', tNot', tAll, eFld, eMeth, eMake, eSha, eFrz, nLst, nDct, tIte, fListD, eDget2, eIs, eNeg, rRng1, rRng2, nLstR, eTupR, eErrP, eErrN, eIsErr, wSeq, wRng1, wRng2, wOf, aCons, aNil, gAdd, Ev.gSub, gMulA, gMul, gDiv, gMod, gPow, gShl, gShr, gXor, gInt, gB, cEq, cNe, cLt, cLe, cGt, cGe, cOrd, cIsN, cNotN, cIsB, cNotB, cIn, cNotIn, gIx, slX, gDix, cDin, cDnin, fLen, fAbs, fInt, fOrd, fChr, fMax, fMin, fList, fTuple, fAll, fAny, datOf, dep, eqD, eqL, truX, seqOf, lstOf, dctAt, Ev.keyOf, nDctL, pairKV, dctOf, gN, gNl, gCs, gT, tyName, isT, iAdd, iSub, Ev.isNon, mulC, Ev.small64, powC, divC, modC, shrC, ixN, sExt, arrOf, eJoin, eRev, nAdd, nList, eS1, eSign, eEqO, gEqO, eqArg, eIsC, List.flatten_cons, List.flatten_nil, WV, WO, WS, wi_rng, wi_tup, wi_lst, wi_rol, wi_txt, wipe_cons, wipe_nil, nat0, Int.zero_add, Int.toNat_natCast, List.length_map, le_line, objAt_own, obj_non, obj_bl, obj_int, obj_str, obj_tup, obj_lst, Option.isSome_none, Nat.lt_add_one, lt_pr, gt_pr, le_pr, ge_pr, lookD_cons, look_tbl, all_inl, map_inl, putD_cons, putD_nil, str_eq, atI_eq, datL_cons, datL_nil, fnEnv, List.map_cons, List.map_nil, List.cons_append, List.nil_append, List.length_cons, List.length_nil, List.getElem?_cons_succ, List.getElem?_cons_zero, List.replicate_succ, List.replicate_zero, List.set_cons_succ, List.set_cons_zero, List.getElem?_nil, List.take_succ_cons, List.take_zero, List.take_nil, List.mem_cons, List.not_mem_nil, List.zip_cons_cons, List.zip_nil_right, List.foldl_cons, List.foldl_nil, Option.map_some, Option.map_none, Option.isSome_some, Option.getD_some, List.isEmpty_cons, List.isEmpty_nil, List.all_cons, List.all_nil, Nat.reduceAdd, Nat.reducePow, Int.reducePow, Int.reduceAbs, Int.reduceDiv, Int.reduceMod, Nat.reduceSub, Nat.reduceLT, Nat.reduceLeDiff, Nat.reduceEqDiff, Int.reduceLE, Int.reduceLT, Int.reduceSub, Int.reduceMul, Nat.reduceMul, Int.cast_ofNat_Int, Int.reduceToNat, Int.reduceNeg, Int.reduceAdd, Int.reduceEq, String.reduceEq, reduceIte, reduceCtorEq, if_true, if_false, if_pos, if_neg, Bool.false_eq_true, decide_true, decide_false, decide_eq_true_eq, Bool.not_true, Bool.not_false, Bool.and_true, Bool.true_and, Bool.and_false, Bool.false_and, Bool.or_true, Bool.true_or, Bool.or_false, Bool.false_or, Bool.and_self, Bool.or_self, Bool.and_eq_true, Bool.or_eq_true, Bool.not_eq_true', Bool.not_eq_eq_eq_not, decide_eq_false_iff_not, decide_not, bne_iff_ne, beq_iff_eq, ne_eq, not_true_eq_false, not_false_eq_true, List.getElem?_set_self, List.getElem?_set_ne, List.length_set, true_or, or_true, false_or, or_false, and_true, true_and, and_false, false_and, eq_self, and_self, or_self, List.set_set, String.reduceBEq, beq_self_eq_true, bne_self_eq_false, dr, get_k, k_lo, ↓eS_fcons, ↓eS_fnil, *])
local macro_rules | `(tactic| walk_at "wm") => `(tactic| simp only [↓eS_unl, ↓eS_try2, ↓eV_bind, ↓eS_then, ↓eV_val, ↓eV_exc, ↓eV_bot, ↓eS_nxt, ↓eS_rt, ↓eS_bk, ↓eS_ct, ↓eS_ex, ↓eS_bot, ↓eO_some, ↓eO_none, ↓eV_ite, ↓eS_ite, ↓eO_ite, ↓eS_seq, ↓eS_ftup, ↓eS_flst, ↓eS_frol, ↓eS_frng, ↓eS_ftxt, ↓eS_try, ↓eS_tryO, ↓eV_opt, ↓eS_opt, sNx, sIf, sRet, sEx, sSet, sSetL, sSetG, sSetN, sAsg, sPar, sFor, sRaise, sFldS, sFldG, sApp, sPop, nSl, sLm, kApp, sStL, sAugL, sAug, sDput, sRetG, putL, putE, putS, lstAt, Ev.cellOf, plOf, frzE, eC, eVar, e2, eTup, eLst, eFn, eCall, eAnd, eOr, eNot, eIf, eCh, eSl, oNone, oSome, bT, tT1, tAnd', tOr', tNot', tAll, eFld, eMeth, eMake, eSha, eFrz, nLst, nDct, tIte, fListD, eDget2, eIs, eNeg, rRng1, rRng2, nLstR, eTupR, eErrP, eErrN, eIsErr, wSeq, wRng1, wRng2, wOf, aCons, aNil, gAdd, Ev.gSub, gMulA, gMul, gDiv, gMod, gPow, gShl, gShr, gXor, gInt, gB, cEq, cNe, cLt, cLe, cGt, cGe, cOrd, cIsN, cNotN, cIsB, cNotB, gIx, slX, gDix, cDin, cDnin, fLen, fAbs, fInt, fOrd, fChr, fMax, fMin, fList, fTuple, fAll, fAny, datOf, dep, eqD, eqL, truX, seqOf, lstOf, dctAt, Ev.keyOf, nDctL, pairKV, dctOf, gN, gNl, gCs, gT, tyName, isT, iAdd, iSub, Ev.isNon, mulC, Ev.small64, powC, divC, modC, shrC, ixN, sExt, arrOf, eJoin, eRev, nAdd, nList, eS1, eSign, eEqO, gEqO, eqArg, eIsC, List.flatten_cons, List.flatten_nil, WV, WO, WS, wi_rng, wi_tup, wi_lst, wi_rol, wi_txt, wipe_cons, wipe_nil, nat0, Int.zero_add, Int.toNat_natCast, List.length_map, le_line, objAt_own, obj_non, obj_bl, obj_int, obj_str, obj_tup, obj_lst, Option.isSome_none, Nat.lt_add_one, lt_pr, gt_pr, le_pr, ge_pr, lookD_cons, look_tbl, all_inl, map_inl, putD_cons, putD_nil, str_eq, atI_eq, datL_cons, datL_nil, fnEnv, List.map_cons, List.map_nil, List.cons_append, List.nil_append, List.length_cons, List.length_nil, List.getElem?_cons_succ, List.getElem?_cons_zero, List.replicate_succ, List.replicate_zero, List.set_cons_succ, List.set_cons_zero, List.getElem?_nil, List.take_succ_cons, List.take_zero, List.take_nil, List.mem_cons, List.not_mem_nil, List.zip_cons_cons, List.zip_nil_right, List.foldl_cons, List.foldl_nil, Option.map_some, Option.map_none, Option.isSome_some, Option.getD_some, List.isEmpty_cons, List.isEmpty_nil, List.all_cons, List.all_nil, Nat.reduceAdd, Nat.reducePow, Int.reducePow, Int.reduceAbs, Int.reduceDiv, Int.reduceMod, Nat.reduceSub, Nat.reduceLT, Nat.reduceLeDiff, Nat.reduceEqDiff, Int.reduceLE, Int.reduceLT, Int.reduceSub, Int.reduceMul, Nat.reduceMul, Int.cast_ofNat_Int, Int.reduceToNat, Int.reduceNeg, Int.reduceAdd, Int.reduceEq, String.reduceEq, reduceIte, reduceCtorEq, if_true, if_false, if_pos, if_neg, Bool.false_eq_true, decide_true, decide_false, decide_eq_true_eq, Bool.not_true, Bool.not_false, Bool.and_true, Bool.true_and, Bool.and_false, Bool.false_and, Bool.or_true, Bool.true_or, Bool.or_false, Bool.false_or, Bool.and_self, Bool.or_self, Bool.and_eq_true, Bool.or_eq_true, Bool.not_eq_true', Bool.not_eq_eq_eq_not, decide_eq_false_iff_not, decide_not, bne_iff_ne, beq_iff_eq, ne_eq, not_true_eq_false, not_false_eq_true, List.getElem?_set_self, List.getElem?_set_ne, List.length_set, true_or, or_true, false_or, or_false, and_true, true_and, and_false, false_and, eq_self, and_self, or_self, List.set_set, String.reduceBEq, beq_self_eq_true, bne_self_eq_false, dr, get_k, k_lo])
local macro_rules | `(tactic| walk_at "wn") => `(tactic| simp only [↓eS_unl, ↓eS_try2, ↓eV_bind, ↓eS_then, ↓eV_val, ↓eV_exc, ↓eV_bot, ↓eS_nxt, ↓eS_rt, ↓eS_bk, ↓eS_ct, ↓eS_ex, ↓eS_bot, ↓eO_some, ↓eO_none, ↓eV_ite, ↓eS_ite, ↓eO_ite, ↓eS_seq, ↓eS_ftup, ↓eS_flst, ↓eS_frol, ↓eS_frng, ↓eS_ftxt, ↓eS_try, ↓eS_tryO, ↓eV_opt, ↓eS_opt, sNx, sIf, sRet, sEx, sSet, sSetL, sSetG, sSetN, sAsg, sPar, sFor, sRaise, sFldS, sFldG, sApp, sPop, nSl, sLm, kApp, sStL, sAugL, sAug, sDput, sRetG, putL, putE, putS, lstAt, Ev.cellOf, plOf, frzE, eC, eVar, e2, eTup, eLst, eFn, eCall, eAnd, eOr, eNot, eIf, eCh, eSl, oNone, oSome, bT, tT1, tAnd', tOr', tNot', tAll, eFld, eMeth, eMake, eSha, eFrz, nLst, nDct, tIte, fListD, eDget2, eIs, eNeg, rRng1, rRng2, nLstR, eTupR, eErrP, eErrN, eIsErr, wSeq, wRng1, wRng2, wOf, aCons, aNil, gAdd, Ev.gSub, gMulA, gMul, gDiv, gMod, gPow, gShl, gShr, gXor, gInt, gB, cEq, cNe, cLt, cLe, cGt, cGe, cOrd, cIsN, cNotN, cIsB, cNotB, gIx, slX, gDix, cDin, cDnin, fLen, fAbs, fInt, fOrd, fChr, fMax, fMin, fList, fTuple, fAll, fAny, datOf, dep, eqD, eqL, truX, seqOf, lstOf, dctAt, Ev.keyOf, nDctL, pairKV, dctOf, gN, gNl, gCs, gT, tyName, isT, iAdd, iSub, Ev.isNon, mulC, Ev.small64, powC, divC, modC, shrC, ixN, sExt, arrOf, eJoin, eRev, nAdd, nList, eS1, eSign, eEqO, gEqO, eqArg, eIsC, List.flatten_cons, List.flatten_nil, WV, WO, WS, wi_rng, wi_tup, wi_lst, wi_rol, wi_txt, wipe_cons, wipe_nil, nat0, Int.zero_add, Int.toNat_natCast, List.length_map, le_line, objAt_own, obj_non, obj_bl, obj_int, obj_str, obj_tup, obj_lst, Option.isSome_none, Nat.lt_add_one, lt_pr, gt_pr, le_pr, ge_pr, lookD_cons, look_tbl, all_inl, map_inl, putD_cons, putD_nil, str_eq, atI_eq, datL_cons, datL_nil, fnEnv, List.map_cons, List.map_nil, List.cons_append, List.nil_append, List.length_cons, List.length_nil, List.getElem?_cons_succ, List.getElem?_cons_zero, List.replicate_succ, List.replicate_zero, List.set_cons_succ, List.set_cons_zero, List.getElem?_nil, List.take_succ_cons, List.take_zero, List.take_nil, List.mem_cons, List.not_mem_nil, List.zip_cons_cons, List.zip_nil_right, List.foldl_cons, List.foldl_nil, Option.map_some, Option.map_none, Option.isSome_some, Option.getD_some, List.isEmpty_cons, List.isEmpty_nil, List.all_cons, List.all_nil, Nat.reduceAdd, Nat.reducePow, Int.reducePow, Int.reduceAbs, Int.reduceDiv, Int.reduceMod, Nat.reduceSub, Nat.reduceLT, Nat.reduceLeDiff, Nat.reduceEqDiff, Int.reduceLE, Int.reduceLT, Int.reduceSub, Int.reduceMul, Nat.reduceMul, Int.cast_ofNat_Int, Int.reduceToNat, Int.reduceNeg, Int.reduceAdd, Int.reduceEq, String.reduceEq, reduceIte, reduceCtorEq, if_true, if_false, if_pos, if_neg, Bool.false_eq_true, decide_true, decide_false, decide_eq_true_eq, Bool.not_true, Bool.not_false, Bool.and_true, Bool.true_and, Bool.and_false, Bool.false_and, Bool.or_true, Bool.true_or, Bool.or_false, Bool.false_or, Bool.and_self, Bool.or_self, Bool.and_eq_true, Bool.or_eq_true, Bool.not_eq_true', Bool.not_eq_eq_eq_not, decide_eq_false_iff_not, decide_not, bne_iff_ne, beq_iff_eq, ne_eq, not_true_eq_false, not_false_eq_true, List.getElem?_set_self, List.getElem?_set_ne, List.length_set, true_or, or_true, false_or, or_false, and_true, true_and, and_false, false_and, eq_self, and_self, or_self, List.set_set, String.reduceBEq, beq_self_eq_true, bne_self_eq_false, dr, get_k, k_lo, *])

section
variable {S : List Cell} {vs : List D} {i : Nat} {t : Tp}
theorem vA_mem {vs : List D} {k : Nat} (h : k < vs.length) : vA vs k ∈ vs := getD_mem h
theorem mid_bad {rs : List D} (hr : ∀ d ∈ rs, d ∈ t6) (hn : rs.length ≤ 6) {a : Nat} {x : D} (ha : a < rs.length) (hx : ∀ S, C_is_term [x] S = .val (.bl false) S) : C_check_reply [.tup (rs.take a ++ [x] ++ rs.drop (a + 1))] S = .exc "InvalidReply" (.int a) S := by
  have hl : (rs.take a).length = a := by rw [List.length_take]; omega
  have hm : vA (rs.take a ++ [x] ++ rs.drop (a + 1)) a = x := by
    have := vA_mid (A := rs.take a) (x := x) (B := rs.drop (a + 1))
    rw [hl] at this; exact this
  refine reply_bad (by simp; omega) (by simp; omega) (fun k hk => ⟨by omega, fun S => ?_⟩) (.inr fun S => by rw [hm]; exact hx S)
  refine term_ok (hr _ ?_)
  rw [List.append_assoc, vA_left (by rw [hl]; exact hk)]
  exact List.mem_of_mem_take (vA_mem (by rw [hl]; exact hk))
theorem long_set {ls : List D} (hr : ∀ d ∈ ls, d ∈ t6) (h7 : 7 ≤ ls.length) (hn : ls.length ≤ 50) {a : Nat} {x : D} (ha : a < ls.length) (hx : x ∈ odds) : C_check_reply [.tup (ls.set a x)] S = .exc "InvalidReply" (.int (min (a : Int) 6)) S := by
  have e : (min (a : Int) 6) = ((min a 6 : Nat) : Int) := by omega
  rw [e]
  have hat : ∀ k, k < ls.length → k ≠ a → vA (ls.set a x) k = vA ls k := fun k hk hka => by
    unfold vA
    rw [List.getD_eq_getElem?_getD, List.getD_eq_getElem?_getD, List.getElem?_set_ne (fun z => hka z.symm)]
  have haa : vA (ls.set a x) a = x := by
    unfold vA
    rw [List.getD_eq_getElem?_getD, List.getElem?_set_self ha]; rfl
  refine reply_bad (by rw [List.length_set]; omega) (by rw [List.length_set]; omega) (fun k hk => ⟨by omega, fun S => ?_⟩) ?_
  · rw [hat k (by omega) (by omega)]
    exact term_ok (hr _ (vA_mem (by omega)))
  · by_cases c : a ≤ 6
    · right
      intro S
      rw [show min a 6 = a by omega, haa]
      exact term_odd hx
    · left; omega
theorem long_end {ls : List D} (hr : ∀ d ∈ ls, d ∈ t6) (h7 : 7 ≤ ls.length) (hn : ls.length ≤ 50) : C_check_reply [.tup ls] S = .exc "InvalidReply" (.int (min (ls.length : Int) 6)) S := by
  rw [show min (ls.length : Int) 6 = ((6 : Nat) : Int) by omega]
  exact reply_bad (by omega) (by omega) (fun k hk => ⟨by omega, fun S => term_ok (hr _ (vA_mem (by omega)))⟩) (.inl rfl)
theorem rep_mem {rs : List D} {n : Nat} {d : D} (h : d ∈ (List.replicate n rs).flatten) : d ∈ rs := by
  rw [List.mem_flatten] at h
  obtain ⟨l, hl, hd⟩ := h
  rw [List.mem_replicate] at hl
  rw [hl.2] at hd; exact hd
end
end Law

namespace Law
open PySem L2 Ev
local macro_rules | `(tactic| walk_at "ws") => `(tactic| simp only [↓eS_unl, ↓eS_try2, ↓eV_bind, ↓eS_then, ↓eV_val, ↓eV_exc, ↓eV_bot, ↓eS_nxt, ↓eS_rt, ↓eS_bk, ↓eS_ct, ↓eS_ex, ↓eS_bot, ↓eO_some, ↓eO_none, ↓eV_ite, ↓eS_ite, ↓eO_ite, ↓eS_seq, ↓eS_ftup, ↓eS_flst, ↓eS_frol, ↓eS_frng, ↓eS_ftxt, ↓eS_try, ↓eS_tryO, ↓eV_opt, ↓eS_opt, sNx, sIf, sRet, sEx, sSet, sSetL, sSetG, sSetN, sAsg, sPar, sFor, sRaise, sFldS, sFldG, sApp, sPop, nSl, sLm, kApp, sStL, sAugL, sAug, sDput, sRetG, putL, putE, putS, lstAt, Ev.cellOf, plOf, frzE, eC, eVar, e2, eTup, eLst, eFn, eCall, eAnd, eOr, eNot, eIf, eCh, eSl, oNone, oSome, bT, tT1, tAnd', tOr', tNot', tAll, eFld, eMeth, eMake, eSha, eFrz, nLst, nDct, tIte, fListD, eDget2, eIs, eNeg, rRng1, rRng2, nLstR, eTupR, eErrP, eErrN, eIsErr, wSeq, wRng1, wRng2, wOf, aCons, aNil, gAdd, Ev.gSub, gMulA, gMul, gDiv, gMod, gPow, gShl, gShr, gXor, gInt, gB, cEq, cNe, cLt, cLe, cGt, cGe, cOrd, cIsN, cNotN, cIsB, cNotB, cIn, cNotIn, gIx, slX, gDix, cDin, cDnin, fLen, fAbs, fInt, fOrd, fChr, fMax, fMin, fList, fTuple, fAll, fAny, datOf, dep, eqD, eqL, truX, seqOf, lstOf, dctAt, Ev.keyOf, nDctL, pairKV, dctOf, gN, gNl, gCs, gT, tyName, isT, iAdd, iSub, Ev.isNon, mulC, Ev.small64, powC, divC, modC, shrC, ixN, sExt, arrOf, eJoin, eRev, nAdd, nList, eS1, eSign, eEqO, gEqO, eqArg, eIsC, List.flatten_cons, List.flatten_nil, WV, WO, WS, wi_rng, wi_tup, wi_lst, wi_rol, wi_txt, wipe_cons, wipe_nil, nat0, Int.zero_add, Int.toNat_natCast, List.length_map, le_line, objAt_own, obj_non, obj_bl, obj_int, obj_str, obj_tup, obj_lst, Option.isSome_none, Nat.lt_add_one, lt_pr, gt_pr, le_pr, ge_pr, lookD_cons, look_tbl, all_inl, map_inl, putD_cons, putD_nil, str_eq, atI_eq, datL_cons, datL_nil, fnEnv, List.map_cons, List.map_nil, List.cons_append, List.nil_append, List.length_cons, List.length_nil, List.getElem?_cons_succ, List.getElem?_cons_zero, List.replicate_succ, List.replicate_zero, List.set_cons_succ, List.set_cons_zero, List.getElem?_nil, List.take_succ_cons, List.take_zero, List.take_nil, List.mem_cons, List.not_mem_nil, List.zip_cons_cons, List.zip_nil_right, List.foldl_cons, List.foldl_nil, Option.map_some, Option.map_none, Option.isSome_some, Option.getD_some, List.isEmpty_cons, List.isEmpty_nil, List.all_cons, List.all_nil, Nat.reduceAdd, Nat.reducePow, Int.reducePow, Int.reduceAbs, Int.reduceDiv, Int.reduceMod, Nat.reduceSub, Nat.reduceLT, Nat.reduceLeDiff, Nat.reduceEqDiff, Int.reduceLE, Int.reduceLT, Int.reduceSub, Int.reduceMul, Nat.reduceMul, Int.cast_ofNat_Int, Int.reduceToNat, Int.reduceNeg, Int.reduceAdd, Int.reduceEq, String.reduceEq, reduceIte, reduceCtorEq, if_true, if_false, if_pos, if_neg, Bool.false_eq_true, decide_true, decide_false, decide_eq_true_eq, Bool.not_true, Bool.not_false, Bool.and_true, Bool.true_and, Bool.and_false, Bool.false_and, Bool.or_true, Bool.true_or, Bool.or_false, Bool.false_or, Bool.and_self, Bool.or_self, Bool.and_eq_true, Bool.or_eq_true, Bool.not_eq_true', Bool.not_eq_eq_eq_not, decide_eq_false_iff_not, decide_not, bne_iff_ne, beq_iff_eq, ne_eq, not_true_eq_false, not_false_eq_true, List.getElem?_set_self, List.getElem?_set_ne, List.length_set, true_or, or_true, false_or, or_false, and_true, true_and, and_false, false_and, eq_self, and_self, or_self, List.set_set, String.reduceBEq, beq_self_eq_true, bne_self_eq_false, dr, get_k, k_lo])
local macro_rules | `(tactic| walk_at "wh") => `(tactic| simp only [↓eS_unl, ↓eS_try2, ↓eV_bind, ↓eS_then, ↓eV_val, ↓eV_exc, ↓eV_bot, ↓eS_nxt, ↓eS_rt, ↓eS_bk, ↓eS_ct, ↓eS_ex, ↓eS_bot, ↓eO_some, ↓eO_none, ↓eV_ite, ↓eS_ite, ↓eO_ite, ↓eS_seq, ↓eS_ftup, ↓eS_flst, ↓eS_frol, ↓eS_frng, ↓eS_ftxt, ↓eS_try, ↓eS_tryO, ↓eV_opt, ↓eS_opt, sNx, sIf, sRet, sEx, sSet, sSetL, sSetG, sSetN, sAsg, sPar, sFor, sRaise, sFldS, sFldG, sApp, sPop, nSl, sLm, kApp, sStL, sAugL, sAug, sDput, sRetG, putL, putE, putS, lstAt, Ev.cellOf, plOf, frzE, eC, eVar, e2, eTup, eLst, eFn, eCall, eAnd, eOr, eNot, eIf, eCh, eSl, oNone, oSome, bT, tT1, tAnd', tOr', tNot', tAll, eFld, eMeth, eMake, eSha, eFrz, nLst, nDct, tIte, fListD, eDget2, eIs, eNeg, rRng1, rRng2, nLstR, eTupR, eErrP, eErrN, eIsErr, wSeq, wRng1, wRng2, wOf, aCons, aNil, gAdd, Ev.gSub, gMulA, gMul, gDiv, gMod, gPow, gShl, gShr, gXor, gInt, gB, cEq, cNe, cLt, cLe, cGt, cGe, cOrd, cIsN, cNotN, cIsB, cNotB, cIn, cNotIn, gIx, slX, gDix, cDin, cDnin, fLen, fAbs, fInt, fOrd, fChr, fMax, fMin, fList, fTuple, fAll, fAny, datOf, dep, eqD, eqL, truX, seqOf, lstOf, dctAt, Ev.keyOf, nDctL, pairKV, dctOf, gN, gNl, gCs, gT, tyName, isT, iAdd, iSub, Ev.isNon, mulC, Ev.small64, powC, divC, modC, shrC, ixN, sExt, arrOf, eJoin, eRev, nAdd, nList, eS1, eSign, eEqO, gEqO, eqArg, eIsC, List.flatten_cons, List.flatten_nil, WV, WO, WS, wi_rng, wi_tup, wi_lst, wi_rol, wi_txt, wipe_cons, wipe_nil, nat0, Int.zero_add, Int.toNat_natCast, List.length_map, le_line, objAt_own, obj_non, obj_bl, obj_int, obj_str, obj_tup, obj_lst, Option.isSome_none, Nat.lt_add_one, lt_pr, gt_pr, le_pr, ge_pr, lookD_cons, look_tbl, all_inl, map_inl, putD_cons, putD_nil, str_eq, atI_eq, datL_cons, datL_nil, fnEnv, List.map_cons, List.map_nil, List.cons_append, List.nil_append, List.length_cons, List.length_nil, List.getElem?_cons_succ, List.getElem?_cons_zero, List.replicate_succ, List.replicate_zero, List.set_cons_succ, List.set_cons_zero, List.getElem?_nil, List.take_succ_cons, List.take_zero, List.take_nil, List.mem_cons, List.not_mem_nil, List.zip_cons_cons, List.zip_nil_right, List.foldl_cons, List.foldl_nil, Option.map_some, Option.map_none, Option.isSome_some, Option.getD_some, List.isEmpty_cons, List.isEmpty_nil, List.all_cons, List.all_nil, Nat.reduceAdd, Nat.reducePow, Int.reducePow, Int.reduceAbs, Int.reduceDiv, Int.reduceMod, Nat.reduceSub, Nat.reduceLT, Nat.reduceLeDiff, Nat.reduceEqDiff, Int.reduceLE, Int.reduceLT, Int.reduceSub, Int.reduceMul, Nat.reduceMul, Int.cast_ofNat_Int, Int.reduceToNat, Int.reduceNeg, Int.reduceAdd, Int.reduceEq, String.reduceEq, reduceIte, reduceCtorEq, if_true, if_false, if_pos, if_neg, Bool.false_eq_true, decide_true, decide_false, decide_eq_true_eq, Bool.not_true, Bool.not_false, Bool.and_true, Bool.true_and, Bool.and_false, Bool.false_and, Bool.or_true, Bool.true_or, Bool.or_false, Bool.false_or, Bool.and_self, Bool.or_self, Bool.and_eq_true, Bool.or_eq_true, Bool.not_eq_true', Bool.not_eq_eq_eq_not, decide_eq_false_iff_not, decide_not, bne_iff_ne, beq_iff_eq, ne_eq, not_true_eq_false, not_false_eq_true, List.getElem?_set_self, List.getElem?_set_ne, List.length_set, true_or, or_true, false_or, or_false, and_true, true_and, and_false, false_and, eq_self, and_self, or_self, List.set_set, String.reduceBEq, beq_self_eq_true, bne_self_eq_false, dr, get_k, k_lo, *])
local macro_rules | `(tactic| walk_at "wu") => `(tactic| simp only [↓eS_unl, ↓eS_try2, ↓eV_bind, ↓eS_then, ↓eV_val, ↓eV_exc, ↓eV_bot, ↓eS_nxt, ↓eS_rt, ↓eS_bk, ↓eS_ct, ↓eS_ex, ↓eS_bot, ↓eO_some, ↓eO_none, ↓eV_ite, ↓eS_ite, ↓eO_ite, ↓eS_seq, ↓eS_ftup, ↓eS_flst, ↓eS_frol, ↓eS_frng, ↓eS_ftxt, ↓eS_try, ↓eS_tryO, ↓eV_opt, ↓eS_opt, sNx, sIf, sRet, sEx, sSet, sSetL, sSetG, sSetN, sAsg, sPar, sFor, sRaise, sFldS, sFldG, sApp, sPop, nSl, sLm, kApp, sStL, sAugL, sAug, sDput, sRetG, putL, putE, putS, lstAt, Ev.cellOf, plOf, frzE, eC, eVar, e2, eTup, eLst, eFn, eCall, eAnd, eOr, eNot, eIf, eCh, eSl, oNone, oSome, bT, tT1, tAnd', tOr', tNot', tAll, eFld, eMeth, eMake, eSha, eFrz, nLst, nDct, tIte, fListD, eDget2, eIs, eNeg, rRng1, rRng2, nLstR, eTupR, eErrP, eErrN, eIsErr, wSeq, wRng1, wRng2, wOf, aCons, aNil, gAdd, Ev.gSub, gMulA, gMul, gDiv, gMod, gPow, gShl, gShr, gXor, gInt, gB, cEq, cNe, cLt, cLe, cGt, cGe, cOrd, cIsN, cNotN, cIsB, cNotB, cIn, cNotIn, gIx, slX, gDix, cDin, cDnin, fLen, fAbs, fInt, fOrd, fChr, fMax, fMin, fList, fTuple, fAll, fAny, datOf, dep, eqD, eqL, truX, seqOf, lstOf, dctAt, Ev.keyOf, nDctL, pairKV, dctOf, gN, gNl, gCs, gT, tyName, isT, iAdd, iSub, Ev.isNon, mulC, Ev.small64, powC, divC, modC, shrC, ixN, sExt, arrOf, eJoin, eRev, nAdd, nList, eS1, eSign, eEqO, gEqO, eqArg, eIsC, List.flatten_cons, List.flatten_nil, WV, WO, WS, wi_rng, wi_tup, wi_lst, wi_rol, wi_txt, wipe_cons, wipe_nil, nat0, Int.zero_add, Int.toNat_natCast, List.length_map, le_line, objAt_own, obj_non, obj_bl, obj_int, obj_str, obj_tup, obj_lst, Option.isSome_none, Nat.lt_add_one, lt_pr, gt_pr, le_pr, ge_pr, lookD_cons, look_tbl, all_inl, map_inl, putD_cons, putD_nil, str_eq, atI_eq, datL_cons, datL_nil, fnEnv, List.map_cons, List.map_nil, List.cons_append, List.nil_append, List.length_cons, List.length_nil, List.getElem?_cons_succ, List.getElem?_cons_zero, List.replicate_succ, List.replicate_zero, List.set_cons_succ, List.set_cons_zero, List.getElem?_nil, List.take_succ_cons, List.take_zero, List.take_nil, List.mem_cons, List.not_mem_nil, List.zip_cons_cons, List.zip_nil_right, List.foldl_cons, List.foldl_nil, Option.map_some, Option.map_none, Option.isSome_some, Option.getD_some, List.isEmpty_cons, List.isEmpty_nil, List.all_cons, List.all_nil, Nat.reduceAdd, Nat.reducePow, Int.reducePow, Int.reduceAbs, Int.reduceDiv, Int.reduceMod, Nat.reduceSub, Nat.reduceLT, Nat.reduceLeDiff, Nat.reduceEqDiff, Int.reduceLE, Int.reduceLT, Int.reduceSub, Int.reduceMul, Nat.reduceMul, Int.cast_ofNat_Int, Int.reduceToNat, Int.reduceNeg, Int.reduceAdd, Int.reduceEq, String.reduceEq, reduceIte, reduceCtorEq, if_true, if_false, if_pos, if_neg, Bool.false_eq_true, decide_true, decide_false, decide_eq_true_eq, Bool.not_true, Bool.not_false, Bool.and_true, Bool.true_and, Bool.and_false, Bool.false_and, Bool.or_true, Bool.true_or, Bool.or_false, Bool.false_or, Bool.and_self, Bool.or_self, Bool.and_eq_true, Bool.or_eq_true, Bool.not_eq_true', Bool.not_eq_eq_eq_not, decide_eq_false_iff_not, decide_not, bne_iff_ne, beq_iff_eq, ne_eq, not_true_eq_false, not_false_eq_true, List.getElem?_set_self, List.getElem?_set_ne, List.length_set, true_or, or_true, false_or, or_false, and_true, true_and, and_false, false_and, eq_self, and_self, or_self, List.set_set, String.reduceBEq, beq_self_eq_true, bne_self_eq_false, dr, get_k, k_lo, ↓eS_fcons, ↓eS_fnil, *])
local macro_rules | `(tactic| walk_at "wm") => `(tactic| simp only [↓eS_unl, ↓eS_try2, ↓eV_bind, ↓eS_then, ↓eV_val, ↓eV_exc, ↓eV_bot, ↓eS_nxt, ↓eS_rt, ↓eS_bk, ↓eS_ct, ↓eS_ex, ↓eS_bot, ↓eO_some, ↓eO_none, ↓eV_ite, ↓eS_ite, ↓eO_ite, ↓eS_seq, ↓eS_ftup, ↓eS_flst, ↓eS_frol, ↓eS_frng, ↓eS_ftxt, ↓eS_try, ↓eS_tryO, ↓eV_opt, ↓eS_opt, sNx, sIf, sRet, sEx, sSet, sSetL, sSetG, sSetN, sAsg, sPar, sFor, sRaise, sFldS, sFldG, sApp, sPop, nSl, sLm, kApp, sStL, sAugL, sAug, sDput, sRetG, putL, putE, putS, lstAt, Ev.cellOf, plOf, frzE, eC, eVar, e2, eTup, eLst, eFn, eCall, eAnd, eOr, eNot, eIf, eCh, eSl, oNone, oSome, bT, tT1, tAnd', tOr', tNot', tAll, eFld, eMeth, eMake, eSha, eFrz, nLst, nDct, tIte, fListD, eDget2, eIs, eNeg, rRng1, rRng2, nLstR, eTupR, eErrP, eErrN, eIsErr, wSeq, wRng1, wRng2, wOf, aCons, aNil, gAdd, Ev.gSub, gMulA, gMul, gDiv, gMod, gPow, gShl, gShr, gXor, gInt, gB, cEq, cNe, cLt, cLe, cGt, cGe, cOrd, cIsN, cNotN, cIsB, cNotB, gIx, slX, gDix, cDin, cDnin, fLen, fAbs, fInt, fOrd, fChr, fMax, fMin, fList, fTuple, fAll, fAny, datOf, dep, eqD, eqL, truX, seqOf, lstOf, dctAt, Ev.keyOf, nDctL, pairKV, dctOf, gN, gNl, gCs, gT, tyName, isT, iAdd, iSub, Ev.isNon, mulC, Ev.small64, powC, divC, modC, shrC, ixN, sExt, arrOf, eJoin, eRev, nAdd, nList, eS1, eSign, eEqO, gEqO, eqArg, eIsC, List.flatten_cons, List.flatten_nil, WV, WO, WS, wi_rng, wi_tup, wi_lst, wi_rol, wi_txt, wipe_cons, wipe_nil, nat0, Int.zero_add, Int.toNat_natCast, List.length_map, le_line, objAt_own, obj_non, obj_bl, obj_int, obj_str, obj_tup, obj_lst, Option.isSome_none, Nat.lt_add_one, lt_pr, gt_pr, le_pr, ge_pr, lookD_cons, look_tbl, all_inl, map_inl, putD_cons, putD_nil, str_eq, atI_eq, datL_cons, datL_nil, fnEnv, List.map_cons, List.map_nil, List.cons_append, List.nil_append, List.length_cons, List.length_nil, List.getElem?_cons_succ, List.getElem?_cons_zero, List.replicate_succ, List.replicate_zero, List.set_cons_succ, List.set_cons_zero, List.getElem?_nil, List.take_succ_cons, List.take_zero, List.take_nil, List.mem_cons, List.not_mem_nil, List.zip_cons_cons, List.zip_nil_right, List.foldl_cons, List.foldl_nil, Option.map_some, Option.map_none, Option.isSome_some, Option.getD_some, List.isEmpty_cons, List.isEmpty_nil, List.all_cons, List.all_nil, Nat.reduceAdd, Nat.reducePow, Int.reducePow, Int.reduceAbs, Int.reduceDiv, Int.reduceMod, Nat.reduceSub, Nat.reduceLT, Nat.reduceLeDiff, Nat.reduceEqDiff, Int.reduceLE, Int.reduceLT, Int.reduceSub, Int.reduceMul, Nat.reduceMul, Int.cast_ofNat_Int, Int.reduceToNat, Int.reduceNeg, Int.reduceAdd, Int.reduceEq, String.reduceEq, reduceIte, reduceCtorEq, if_true, if_false, if_pos, if_neg, Bool.false_eq_true, decide_true, decide_false, decide_eq_true_eq, Bool.not_true, Bool.not_false, Bool.and_true, Bool.true_and, Bool.and_false, Bool.false_and, Bool.or_true, Bool.true_or, Bool.or_false, Bool.false_or, Bool.and_self, Bool.or_self, Bool.and_eq_true, Bool.or_eq_true, Bool.not_eq_true', Bool.not_eq_eq_eq_not, decide_eq_false_iff_not, decide_not, bne_iff_ne, beq_iff_eq, ne_eq, not_true_eq_false, not_false_eq_true, List.getElem?_set_self, List.getElem?_set_ne, List.length_set, true_or, or_true, false_or, or_false, and_true, true_and, and_false, false_and, eq_self, and_self, or_self, List.set_set, String.reduceBEq, beq_self_eq_true, bne_self_eq_false, dr, get_k, k_lo])
local macro_rules | `(tactic| walk_at "wn") => `(tactic| simp only [↓eS_unl, ↓eS_try2, ↓eV_bind, ↓eS_then, ↓eV_val, ↓eV_exc, ↓eV_bot, ↓eS_nxt, ↓eS_rt, ↓eS_bk, ↓eS_ct, ↓eS_ex, ↓eS_bot, ↓eO_some, ↓eO_none, ↓eV_ite, ↓eS_ite, ↓eO_ite, ↓eS_seq, ↓eS_ftup, ↓eS_flst, ↓eS_frol, ↓eS_frng, ↓eS_ftxt, ↓eS_try, ↓eS_tryO, ↓eV_opt, ↓eS_opt, sNx, sIf, sRet, sEx, sSet, sSetL, sSetG, sSetN, sAsg, sPar, sFor, sRaise, sFldS, sFldG, sApp, sPop, nSl, sLm, kApp, sStL, sAugL, sAug, sDput, sRetG, putL, putE, putS, lstAt, Ev.cellOf, plOf, frzE, eC, eVar, e2, eTup, eLst, eFn, eCall, eAnd, eOr, eNot, eIf, eCh, eSl, oNone, oSome, bT, tT1, tAnd', tOr', tNot', tAll, eFld, eMeth, eMake, eSha, eFrz, nLst, nDct, tIte, fListD, eDget2, eIs, eNeg, rRng1, rRng2, nLstR, eTupR, eErrP, eErrN, eIsErr, wSeq, wRng1, wRng2, wOf, aCons, aNil, gAdd, Ev.gSub, gMulA, gMul, gDiv, gMod, gPow, gShl, gShr, gXor, gInt, gB, cEq, cNe, cLt, cLe, cGt, cGe, cOrd, cIsN, cNotN, cIsB, cNotB, gIx, slX, gDix, cDin, cDnin, fLen, fAbs, fInt, fOrd, fChr, fMax, fMin, fList, fTuple, fAll, fAny, datOf, dep, eqD, eqL, truX, seqOf, lstOf, dctAt, Ev.keyOf, nDctL, pairKV, dctOf, gN, gNl, gCs, gT, tyName, isT, iAdd, iSub, Ev.isNon, mulC, Ev.small64, powC, divC, modC, shrC, ixN, sExt, arrOf, eJoin, eRev, nAdd, nList, eS1, eSign, eEqO, gEqO, eqArg, eIsC, List.flatten_cons, List.flatten_nil, WV, WO, WS, wi_rng, wi_tup, wi_lst, wi_rol, wi_txt, wipe_cons, wipe_nil, nat0, Int.zero_add, Int.toNat_natCast, List.length_map, le_line, objAt_own, obj_non, obj_bl, obj_int, obj_str, obj_tup, obj_lst, Option.isSome_none, Nat.lt_add_one, lt_pr, gt_pr, le_pr, ge_pr, lookD_cons, look_tbl, all_inl, map_inl, putD_cons, putD_nil, str_eq, atI_eq, datL_cons, datL_nil, fnEnv, List.map_cons, List.map_nil, List.cons_append, List.nil_append, List.length_cons, List.length_nil, List.getElem?_cons_succ, List.getElem?_cons_zero, List.replicate_succ, List.replicate_zero, List.set_cons_succ, List.set_cons_zero, List.getElem?_nil, List.take_succ_cons, List.take_zero, List.take_nil, List.mem_cons, List.not_mem_nil, List.zip_cons_cons, List.zip_nil_right, List.foldl_cons, List.foldl_nil, Option.map_some, Option.map_none, Option.isSome_some, Option.getD_some, List.isEmpty_cons, List.isEmpty_nil, List.all_cons, List.all_nil, Nat.reduceAdd, Nat.reducePow, Int.reducePow, Int.reduceAbs, Int.reduceDiv, Int.reduceMod, Nat.reduceSub, Nat.reduceLT, Nat.reduceLeDiff, Nat.reduceEqDiff, Int.reduceLE, Int.reduceLT, Int.reduceSub, Int.reduceMul, Nat.reduceMul, Int.cast_ofNat_Int, Int.reduceToNat, Int.reduceNeg, Int.reduceAdd, Int.reduceEq, String.reduceEq, reduceIte, reduceCtorEq, if_true, if_false, if_pos, if_neg, Bool.false_eq_true, decide_true, decide_false, decide_eq_true_eq, Bool.not_true, Bool.not_false, Bool.and_true, Bool.true_and, Bool.and_false, Bool.false_and, Bool.or_true, Bool.true_or, Bool.or_false, Bool.false_or, Bool.and_self, Bool.or_self, Bool.and_eq_true, Bool.or_eq_true, Bool.not_eq_true', Bool.not_eq_eq_eq_not, decide_eq_false_iff_not, decide_not, bne_iff_ne, beq_iff_eq, ne_eq, not_true_eq_false, not_false_eq_true, List.getElem?_set_self, List.getElem?_set_ne, List.length_set, true_or, or_true, false_or, or_false, and_true, true_and, and_false, false_and, eq_self, and_self, or_self, List.set_set, String.reduceBEq, beq_self_eq_true, bne_self_eq_false, dr, get_k, k_lo, *])

section
variable {S : List Cell} {vs : List D} {i : Nat} {t : Tp}
def RuleP (d : D) (S' : List Cell) : Prop := ∃ (t' : Tp) (v due : D), d = .tup [v, due] ∧ S' = [t'.c] ∧ Told 1 v due
theorem rows_d {n : Int} (h1 : 1 ≤ n) (h6 : n ≤ 6) {s2 s3 s4 s5 : Ev.Slot} : WV (lcL (gN 6) tAll (e2 gIx (eVar 1) (eFn 2 C__law_pick (aCons (eVar 0) (aCons (eC (.int 6)) aNil)))) [.val (.own 0), .val (.lst t6), s2, s3, s4, s5, .no] ((List.range n.toNat).map fun i : Nat => .int (i : Int)) [t.c] [])
    (fun acc S' => ∃ (t' : Tp), (∀ d ∈ acc, d ∈ t6) ∧ (acc.length : Int) = n ∧ S' = [t'.c]) NX := by
  refine lc_draw (fun d => d ∈ t6) (by omega) (by simp) ?_ ?_
  · intro i t hi
    have hm := at_k (t := t) (lim := 6) (ds := t6) (by decide) (by decide)
    have hl : (t.k 6).toNat < t6.length := k_nat (lim := 6) (by decide)
    have hg := get_atK hl
    have h0 := k_lo (t := t) (lim := 6) (by decide)
    clear hl
    walk_at "ws"
    repeat (simp only [hg]; (try walk_at "ws"))
    exact ⟨_, _, rfl, hm, rfl⟩
  · intro acc t' hl hP
    exact ⟨t', hP, by omega, rfl⟩
theorem path_bad : ∀ S, C_is_term [.tup [.str [112, 97, 116, 104]]] S = .val (.bl false) S := fun S => term_path
theorem two {t : Tp} : t.k 2 = 0 ∨ t.k 2 = 1 := by
  have := k_lo (t := t) (lim := 2) (by decide)
  have := k_hi (t := t) (lim := 2) (by decide)
  omega
theorem rule_d (t : Tp) : WV (C__law_rule [.own 0] [t.c]) RuleP NX := by
  have hlc := fun (t : Tp) s2 s3 s4 s5 => rows_d (t := t.n 6) (n := 1 + t.k 6) (by have := k_lo (t := t) (lim := 6) (by decide); omega) (by have := k_hi (t := t) (lim := 6) (by decide); omega) (s2 := s2) (s3 := s3) (s4 := s4) (s5 := s5)
  have hr : rOk (1 + t.k 6) = true := rOk_of (by have := k_lo (t := t) (lim := 6) (by decide); omega) (by have := k_hi (t := t) (lim := 6) (by decide); omega)
  have h1 : 1 ≤ 1 + t.k 6 := by have := k_lo (t := t) (lim := 6) (by decide); omega
  have h6 : 1 + t.k 6 ≤ 6 := by have := k_hi (t := t) (lim := 6) (by decide); omega
  unfold C__law_rule b__law_rule
  rw [WV, eV_fn]
  unfold t6 at hlc
  walk_at "ws"
  refine wv_lc ?_
  walk_at "ws"
  repeat (simp only [hr]; (try walk_at "ws"))
  refine WV_of (hlc t _ _ _ _) ?_
  rintro rs S' ⟨t', hrs, hlen, rfl⟩
  clear hlc
  change ∀ d ∈ rs, d ∈ t6 at hrs
  have g1 : 1 ≤ rs.length := by omega
  have g6 : rs.length ≤ 6 := by omega
  clear hr h1 h6 hlen
  have hdef : Told 1 (.tup rs) .non := ⟨fun S => told1_ok (reply_ok (by omega) g6 fun k hk S => term_ok (hrs _ (vA_mem hk))), .inl rfl⟩
  generalize [D.tup [.str [99, 97, 108, 108, 101, 114]], .tup [.str [99, 111, 110, 116, 101, 110, 116]], .tup [.str [99, 111, 117, 110, 116]], .tup [.str [102, 105, 101, 108, 100], .str [102]], .tup [.str [113, 117, 101, 114, 121], .str [113]], .tup [.str [116, 97, 103]]] = tt
  rcases five (t := t') with c | c | c | c | c
  · have n0 : (0 : Int) < (rs.length : Int) := by omega
    have n1 : (rs.length : Int) < 18446744073709551616 := by omega
    have k0 := k_lo (t := t'.n 5) n0
    have k1 := k_hi (t := t'.n 5) n0
    obtain ⟨a, ha⟩ : ∃ a : Nat, (t'.n 5).k rs.length = a := ⟨((t'.n 5).k rs.length).toNat, by omega⟩
    have hal : a < rs.length := by omega
    have hc1 := cut_take (x := rs) (k := a)
    have e1 : (a : Int) + 1 = ((a + 1 : Nat) : Int) := by omega
    have hc2 := cut_drop (x := rs) (k := a + 1)
    have z1 : (rs.take a).length + 1 ≤ sizeLine := by rw [List.length_take, sizeLine_eq]; omega
    have z2 : ∀ x : D, (rs.take a ++ [x]).length + (rs.drop (a + 1)).length ≤ sizeLine := fun x => by rw [List.length_append, List.length_take, List.length_drop, sizeLine_eq]; simp; omega
    have hdr := dr (t := t'.n 5) (S := []) n0 n1
    rw [ha] at hdr
    have ho := odd_d (S := []) (t := (t'.n 5).n rs.length)
    have fin : ∀ (x : D) (t2 : Tp), (∀ S, C_is_term [x] S = .val (.bl false) S) → RuleP (.tup [.tup (rs.take a ++ [x] ++ rs.drop (a + 1)), .tup [.str [114, 101, 112, 108, 121], .int a]]) [t2.c] := fun x t2 hx => ⟨t2, _, _, rfl, rfl, told1 fun S => mid_bad hrs g6 hal hx⟩
    clear hdef k0 k1 n0 n1 ha hal hrs g1 g6
    walk_at "ws"
    repeat (simp only [c, hdr]; (try walk_at "ws"))
    repeat (simp only [hc1]; (try walk_at "ws"))
    refine WV_of ho ?_
    rintro x S' ⟨hx, rfl⟩
    have f0 := fin x (((t'.n 5).n rs.length).n 14 |>.n 2) fun S => term_odd hx
    have f1 := fin _ (((t'.n 5).n rs.length).n 14 |>.n 2) path_bad
    clear fin ho hx
    rcases two (t := ((t'.n 5).n rs.length).n 14) with c2 | c2
    · have z3 := z2 x
      walk_at "wh"
    · have z3 := z2 (.tup [.str [112, 97, 116, 104]])
      walk_at "wh"
  · have k0 := k_lo (t := t'.n 5) (lim := 3) (by decide)
    have k1 := k_hi (t := t'.n 5) (lim := 3) (by decide)
    obtain ⟨p, hp⟩ : ∃ p : Nat, (t'.n 5).k 3 = p := ⟨((t'.n 5).k 3).toNat, by omega⟩
    have e1 : (7 : Int) + (p : Int) = ((7 + p : Nat) : Int) := by omega
    have hc1 := cut_take (x := (List.replicate 7 rs).flatten) (k := 7 + p)
    have hmul : rs.length * 7 ≤ sizeLine := by rw [sizeLine_eq]; omega
    have hbig : (List.replicate 7 rs).flatten = rs ++ (rs ++ (rs ++ (rs ++ (rs ++ (rs ++ (rs ++ [])))))) := by simp only [List.replicate_succ, List.replicate_zero, List.flatten_cons, List.flatten_nil]
    have hfl : (List.replicate 7 rs).flatten.length = 7 * rs.length := by simp; omega
    have hL : ∀ d ∈ ((List.replicate 7 rs).flatten).take (7 + p), d ∈ t6 := fun d hd => hrs d (rep_mem (List.mem_of_mem_take hd))
    have h7 : 7 ≤ (((List.replicate 7 rs).flatten).take (7 + p)).length := by rw [List.length_take, hfl]; omega
    have h9 : (((List.replicate 7 rs).flatten).take (7 + p)).length ≤ 9 := by rw [List.length_take]; omega
    generalize ((List.replicate 7 rs).flatten).take (7 + p) = ls at hc1 hL h7 h9
    rw [hbig] at hc1
    have n0 : (0 : Int) < (ls.length : Int) + 1 := by omega
    have n1 : (ls.length : Int) + 1 < 18446744073709551616 := by omega
    have j0 := k_lo (t := (t'.n 5).n 3) n0
    have j1 := k_hi (t := (t'.n 5).n 3) n0
    obtain ⟨a, ha⟩ : ∃ a : Nat, ((t'.n 5).n 3).k ((ls.length : Int) + 1) = a := ⟨(((t'.n 5).n 3).k ((ls.length : Int) + 1)).toNat, by omega⟩
    have hdr := dr (t := (t'.n 5).n 3) (S := []) n0 n1
    rw [ha] at hdr
    have hal : a ≤ ls.length := by omega
    have ho := odd_d (S := []) (t := ((t'.n 5).n 3).n ((ls.length : Int) + 1))
    by_cases c2 : a < ls.length
    · have g2 : (a : Int) < (ls.length : Int) := by omega
      have g3 : (0 : Int) ≤ (a : Int) := by omega
      have fin : ∀ (x : D) (t2 : Tp), x ∈ odds → RuleP (.tup [.tup (ls.set a x), .tup [.str [114, 101, 112, 108, 121], .int (min (a : Int) 6)]]) [t2.c] := fun x t2 hx => ⟨t2, _, _, rfl, rfl, told1 fun S => long_set hL h7 (by omega) c2 hx⟩
      clear hdef k0 k1 j0 j1 n0 n1 ha hal hrs hL h7 h9 hfl hbig g1 g6
      walk_at "ws"
      repeat (simp only [c, hp, e1, hmul, hc1, hdr, g2]; (try walk_at "ws"))
      refine WV_of ho ?_
      rintro x S' ⟨hx, rfl⟩
      have f0 := fin x ((((t'.n 5).n 3).n ((ls.length : Int) + 1)).n 14) hx
      clear fin ho hx
      walk_at "ws"
      repeat (simp only [hp, e1, hc1, g2, g3, c2]; (try walk_at "ws"))
      exact f0
    · have g2 : ¬(a : Int) < (ls.length : Int) := by omega
      obtain rfl : a = ls.length := by omega
      have f0 : RuleP (.tup [.tup ls, .tup [.str [114, 101, 112, 108, 121], .int (min (ls.length : Int) 6)]]) [(((t'.n 5).n 3).n ((ls.length : Int) + 1)).c] := ⟨_, _, _, rfl, rfl, told1 fun S => long_end hL h7 (by omega)⟩
      clear hdef k0 k1 j0 j1 n0 n1 ha hal hrs hL h7 h9 hfl hbig g1 g6 ho
      walk_at "ws"
      repeat (simp only [c, hp, e1, hmul, hc1, hdr, g2]; (try walk_at "ws"))
      exact f0
  · have hm := at_all (t := t'.n 5) (lim := 4) (ds := [.tup [], .lst rs, .non, .str [116, 97, 103]]) (fun d => notTup d || match d with | .tup [] => true | _ => false) (by decide) (by simp) (by simp [notTup])
    have hm2 : notTup (atK [.tup [], .lst rs, .non, .str [116, 97, 103]] ((t'.n 5).k 4)) = true ∨ atK [.tup [], .lst rs, .non, .str [116, 97, 103]] ((t'.n 5).k 4) = .tup [] := by
      rw [Bool.or_eq_true] at hm
      rcases hm with hm | hm
      · exact .inl hm
      · right
        split at hm
        · assumption
        · cases hm
    have f0 : RuleP (.tup [atK [.tup [], .lst rs, .non, .str [116, 97, 103]] ((t'.n 5).k 4), .tup [.str [114, 101, 112, 108, 121], .int 0]]) [((t'.n 5).n 4).c] := ⟨_, _, _, rfl, rfl, told1 fun S => reply_not hm2⟩
    clear hdef hrs g1 g6 hm hm2
    walk_at "ws"
    repeat (simp only [c]; (try walk_at "ws"))
    exact f0
  · have f0 : RuleP (.tup [.tup rs, .non]) [(t'.n 5).c] := ⟨_, _, _, rfl, rfl, hdef⟩
    clear hdef hrs g1 g6
    walk_at "ws"
    repeat (simp only [c]; (try walk_at "ws"))
    exact f0
  · have f0 : RuleP (.tup [.tup rs, .non]) [(t'.n 5).c] := ⟨_, _, _, rfl, rfl, hdef⟩
    clear hdef hrs g1 g6
    walk_at "ws"
    repeat (simp only [c]; (try walk_at "ws"))
    exact f0
theorem start_eq (ns : List Int) : C__law_start [.rol (ns.map .int)] [] = .val (.own 0) [(Ev.t0 ns 7 (by decide)).c] := by
  show _ = Out.val (D.own 0) [Cell.lst [.rol (ns.map .int), .int 0, .int 0, .int 7]]
  apply eq_of_WV
  unfold C__law_start b__law_start
  rw [WV, eV_fn]
  walk_at "ws"
theorem law_ok : LawOk 63 C_law := by
  intro ns _
  have hst := start_eq ns
  generalize Ev.t0 ns 7 (by decide) = t0 at hst
  refine ex_val ?_
  unfold C_law b_law
  rw [WV, eV_fn]
  walk_at "wh"
  clear hst
  refine WV_of (parts_d t0) ?_
  rintro d S' ⟨t1, v, due, rfl, rfl, h1, hd1⟩
  walk_at "ws"
  refine WV_of (rule_d t1) ?_
  rintro d S' ⟨t2, v2, due2, rfl, rfl, h2, hd2⟩
  obtain ⟨t3, h3⟩ := values_eq t2
  have h1 := h1 [t2.c]
  have h2 := h2 [t2.c]
  rcases hd1 with rfl | ⟨z, i, rfl⟩ <;> rcases hd2 with rfl | ⟨z2, i2, rfl⟩ <;> walk_at "ws" <;> repeat (simp only [h1, h2, h3]; (try walk_at "ws"))
end
end Law

open PySem PySem.W PyProof.Rows
set_option maxRecDepth 100000 in
set_option maxHeartbeats 0 in
theorem PySem.Challenge.cw_callweir_k75_wrong_parts_and_replies_holds : PySem.Challenge.rw_callweir_k75_wrong_parts_and_replies.Holds := by
  w_on; o_law; k_head; (case hw => w_witness2)
  k_fill
  refine Ev.law_walk (l := PySem.Challenge.rw_callweir_k75_wrong_parts_and_replies) (n := 63) (k := 12) (x := "script") (C := Law.C_law) rfl (by decide) rfl ⟨rfl, by decide, by decide⟩ (fun w h Y => PySem.W.kIn_of Y) Law.law_ok ?F
  case F =>
    intro w mg fa h KX G hmg
    refine' Law.all_mk KX G hmg ?a0 ?l0 ?c0 ?k0 ?a1 ?l1 ?c1 ?k1 ?a2 ?l2 ?c2 ?k2 ?a3 ?l3 ?c3 ?k3 ?a4 ?l4 ?c4 ?k4 ?a5 ?l5 ?c5 ?k5 ?a6 ?l6 ?c6 ?k6 ?a7 ?l7 ?c7 ?k7 ?a8 ?l8 ?c8 ?k8 ?a9 ?l9 ?c9 ?k9 ?a10 ?l10 ?c10 ?k10 ?a11 ?l11 ?c11 ?k11 ?a12 ?l12 ?c12 ?k12 ?a13 ?l13 ?c13 ?k13 ?a14 ?l14 ?c14 ?k14 ?a15 ?l15 ?c15 ?k15 ?a16 ?l16 ?c16 ?k16 ?a17 ?l17 ?c17 ?k17 ?a18 ?l18 ?c18 ?k18 ?a19 ?l19 ?c19 ?k19 ?a20 ?l20 ?c20 ?k20 ?a21 ?l21 ?c21 ?k21 ?a22 ?l22 ?c22 ?k22 ?a23 ?l23 ?c23 ?k23 ?a24 ?l24 ?c24 ?k24 ?a25 ?l25 ?c25 ?k25 ?a26 ?l26 ?c26 ?k26 ?a27 ?l27 ?c27 ?k27 ?a28 ?l28 ?c28 ?k28 ?a29 ?l29 ?c29 ?k29 ?a30 ?l30 ?c30 ?k30 ?a31 ?l31 ?c31 ?k31 ?a32 ?l32 ?c32 ?k32 ?z_len ?z_ord ?z_int ?z_bytes ?z_range ?z_all ?z_isinstance ?z_str ?z_bool ?z_tuple ?z_abs ?z_min ?z_list ?q_HEX ?q_SMALL ?q_CODE ?q_MARKS ?q_PLAIN ?q_MOST_WORD ?q_DIGITS ?q_MOST_CALLER ?q_NAMED ?w_NAMED ?v_NAMED ?q_ALONE ?w_ALONE ?v_ALONE ?q_MOST_TERMS ?aC_CallweirError ?x_CallweirError ?rv_CallweirError ?sa_CallweirError ?eb_CallweirError ?ty_CallweirError ?kc_CallweirError ?np_CallweirError ?nn_CallweirError ?ga_CallweirError ?gg_CallweirError ?hd_CallweirError ?ini_CallweirError ?tyf_CallweirError ?fnI_CallweirError ?li_CallweirError ?ci_CallweirError ?co_CallweirError ?v2_CallweirError ?fl_CallweirError ?ce_CallweirError ?mr_CallweirError_CallweirError ?su_CallweirError_CallweirError ?ve_CallweirError_CallweirError ?mr_InvalidCall_CallweirError ?su_InvalidCall_CallweirError ?ve_InvalidCall_CallweirError ?mr_InvalidParts_CallweirError ?su_InvalidParts_CallweirError ?ve_InvalidParts_CallweirError ?mr_InvalidReply_CallweirError ?su_InvalidReply_CallweirError ?ve_InvalidReply_CallweirError ?aC_InvalidCall ?x_InvalidCall ?rv_InvalidCall ?sa_InvalidCall ?eb_InvalidCall ?ty_InvalidCall ?kc_InvalidCall ?np_InvalidCall ?nn_InvalidCall ?ga_InvalidCall ?gg_InvalidCall ?hd_InvalidCall ?ini_InvalidCall ?tyf_InvalidCall ?fnI_InvalidCall ?li_InvalidCall ?ci_InvalidCall ?co_InvalidCall ?v2_InvalidCall ?fl_InvalidCall ?ce_InvalidCall ?mr_InvalidCall_InvalidCall ?su_InvalidCall_InvalidCall ?aC_InvalidParts ?x_InvalidParts ?rv_InvalidParts ?sa_InvalidParts ?eb_InvalidParts ?ty_InvalidParts ?kc_InvalidParts ?np_InvalidParts ?nn_InvalidParts ?ga_InvalidParts ?gg_InvalidParts ?hd_InvalidParts ?ini_InvalidParts ?tyf_InvalidParts ?fnI_InvalidParts ?li_InvalidParts ?ci_InvalidParts ?co_InvalidParts ?v2_InvalidParts ?fl_InvalidParts ?ce_InvalidParts ?mr_InvalidParts_InvalidParts ?su_InvalidParts_InvalidParts ?aC_InvalidReply ?x_InvalidReply ?rv_InvalidReply ?sa_InvalidReply ?eb_InvalidReply ?ty_InvalidReply ?kc_InvalidReply ?np_InvalidReply ?nn_InvalidReply ?ga_InvalidReply ?gg_InvalidReply ?hd_InvalidReply ?ini_InvalidReply ?tyf_InvalidReply ?fnI_InvalidReply ?li_InvalidReply ?ci_InvalidReply ?co_InvalidReply ?v2_InvalidReply ?fl_InvalidReply ?ce_InvalidReply ?mr_InvalidReply_InvalidReply ?su_InvalidReply_InvalidReply ?exm_InvalidCall_InvalidCall ?exm_InvalidParts_InvalidCall ?exm_InvalidReply_InvalidCall ?exm_InvalidCall_InvalidParts ?exm_InvalidParts_InvalidParts ?exm_InvalidReply_InvalidParts ?exm_InvalidCall_InvalidReply ?exm_InvalidParts_InvalidReply ?exm_InvalidReply_InvalidReply ?z_super ?noany ?nosup
    (case aC_CallweirError => k_is)
    (case aC_InvalidCall => k_is)
    (case aC_InvalidParts => k_is)
    (case aC_InvalidReply => k_is)
    (case ini_CallweirError => k_is)
    (case ini_InvalidCall => k_is)
    (case ini_InvalidParts => k_is)
    (case ini_InvalidReply => k_is)
    (case a0 => k_is)
    (case l0 => k_is)
    (case c0 => k_is)
    (case k0 => k_is)
    (case a1 => k_is)
    (case l1 => k_is)
    (case c1 => k_is)
    (case k1 => k_is)
    (case a2 => k_is)
    (case l2 => k_is)
    (case c2 => k_is)
    (case k2 => k_is)
    (case a3 => k_is)
    (case l3 => k_is)
    (case c3 => k_is)
    (case k3 => k_is)
    (case a4 => k_is)
    (case l4 => k_is)
    (case c4 => k_is)
    (case k4 => k_is)
    (case a5 => k_is)
    (case l5 => k_is)
    (case c5 => k_is)
    (case k5 => k_is)
    (case a6 => k_is)
    (case l6 => k_is)
    (case c6 => k_is)
    (case k6 => k_is)
    (case a7 => k_is)
    (case l7 => k_is)
    (case c7 => k_is)
    (case k7 => k_is)
    (case a8 => k_is)
    (case l8 => k_is)
    (case c8 => k_is)
    (case k8 => k_is)
    (case a9 => k_is)
    (case l9 => k_is)
    (case c9 => k_is)
    (case k9 => k_is)
    (case a10 => k_is)
    (case l10 => k_is)
    (case c10 => k_is)
    (case k10 => k_is)
    (case a11 => k_is)
    (case l11 => k_is)
    (case c11 => k_is)
    (case k11 => k_is)
    (case a12 => k_is)
    (case l12 => k_is)
    (case c12 => k_is)
    (case k12 => k_is)
    (case a13 => k_is)
    (case l13 => k_is)
    (case c13 => k_is)
    (case k13 => k_is)
    (case a14 => k_is)
    (case l14 => k_is)
    (case c14 => k_is)
    (case k14 => k_is)
    (case a15 => k_is)
    (case l15 => k_is)
    (case c15 => k_is)
    (case k15 => k_is)
    (case a16 => k_is)
    (case l16 => k_is)
    (case c16 => k_is)
    (case k16 => k_is)
    (case a17 => k_is)
    (case l17 => k_is)
    (case c17 => k_is)
    (case k17 => k_is)
    (case a18 => k_is)
    (case l18 => k_is)
    (case c18 => k_is)
    (case k18 => k_is)
    (case a19 => k_is)
    (case l19 => k_is)
    (case c19 => k_is)
    (case k19 => k_is)
    (case a20 => k_is)
    (case l20 => k_is)
    (case c20 => k_is)
    (case k20 => k_is)
    (case a21 => k_is)
    (case l21 => k_is)
    (case c21 => k_is)
    (case k21 => k_is)
    (case a22 => k_is)
    (case l22 => k_is)
    (case c22 => k_is)
    (case k22 => k_is)
    (case a23 => k_is)
    (case l23 => k_is)
    (case c23 => k_is)
    (case k23 => k_is)
    (case a24 => k_is)
    (case l24 => k_is)
    (case c24 => k_is)
    (case k24 => k_is)
    (case a25 => k_is)
    (case l25 => k_is)
    (case c25 => k_is)
    (case k25 => k_is)
    (case a26 => k_is)
    (case l26 => k_is)
    (case c26 => k_is)
    (case k26 => k_is)
    (case a27 => k_is)
    (case l27 => k_is)
    (case c27 => k_is)
    (case k27 => k_is)
    (case a28 => k_is)
    (case l28 => k_is)
    (case c28 => k_is)
    (case k28 => k_is)
    (case a29 => k_is)
    (case l29 => k_is)
    (case c29 => k_is)
    (case k29 => k_is)
    (case a30 => k_is)
    (case l30 => k_is)
    (case c30 => k_is)
    (case k30 => k_is)
    (case a31 => k_is)
    (case l31 => k_is)
    (case c31 => k_is)
    (case k31 => k_is)
    (case a32 => k_is)
    (case l32 => k_is)
    (case c32 => k_is)
    (case k32 => k_is)
    (case z_len => k_is)
    (case z_ord => k_is)
    (case z_int => k_is)
    (case z_bytes => k_is)
    (case z_range => k_is)
    (case z_all => k_is)
    (case z_isinstance => k_is)
    (case z_str => k_is)
    (case z_bool => k_is)
    (case z_tuple => k_is)
    (case z_abs => k_is)
    (case z_min => k_is)
    (case z_list => k_is)
    (case q_HEX => k_is)
    (case q_SMALL => k_is)
    (case q_CODE => k_is)
    (case q_MARKS => k_is)
    (case q_PLAIN => k_is)
    (case q_MOST_WORD => k_is)
    (case q_DIGITS => k_is)
    (case q_MOST_CALLER => k_is)
    (case q_NAMED => k_is)
    (case w_NAMED => k_is)
    (case v_NAMED => exact ⟨⟨rfl, ⟨rfl, True.intro⟩⟩, by decide⟩)
    (case q_ALONE => k_is)
    (case w_ALONE => k_is)
    (case v_ALONE => exact ⟨⟨rfl, ⟨rfl, ⟨rfl, ⟨rfl, True.intro⟩⟩⟩⟩, by decide⟩)
    (case q_MOST_TERMS => k_is)
    (case x_CallweirError => k_is)
    (case rv_CallweirError => first | rfl | decide +kernel)
    (case sa_CallweirError => k_is)
    (case eb_CallweirError => k_is)
    (case ty_CallweirError => k_is)
    (case kc_CallweirError => k_is)
    (case np_CallweirError => k_is)
    (case nn_CallweirError => k_is)
    (case ga_CallweirError => k_is)
    (case gg_CallweirError => k_is)
    (case hd_CallweirError => k_is)
    (case tyf_CallweirError => k_is)
    (case fnI_CallweirError => k_is)
    (case li_CallweirError => k_is)
    (case ci_CallweirError => k_is)
    (case co_CallweirError => k_is)
    (case v2_CallweirError => exact rfl)
    (case fl_CallweirError => first | rfl | decide +kernel)
    (case ce_CallweirError => k_is)
    (case mr_CallweirError_CallweirError => k_is)
    (case su_CallweirError_CallweirError => ks_is)
    (case ve_CallweirError_CallweirError => k_is)
    (case mr_InvalidCall_CallweirError => k_is)
    (case su_InvalidCall_CallweirError => ks_is)
    (case ve_InvalidCall_CallweirError => k_is)
    (case mr_InvalidParts_CallweirError => k_is)
    (case su_InvalidParts_CallweirError => ks_is)
    (case ve_InvalidParts_CallweirError => k_is)
    (case mr_InvalidReply_CallweirError => k_is)
    (case su_InvalidReply_CallweirError => ks_is)
    (case ve_InvalidReply_CallweirError => k_is)
    (case x_InvalidCall => k_is)
    (case rv_InvalidCall => first | rfl | decide +kernel)
    (case sa_InvalidCall => k_is)
    (case eb_InvalidCall => k_is)
    (case ty_InvalidCall => k_is)
    (case kc_InvalidCall => k_is)
    (case np_InvalidCall => k_is)
    (case nn_InvalidCall => k_is)
    (case ga_InvalidCall => k_is)
    (case gg_InvalidCall => k_is)
    (case hd_InvalidCall => k_is)
    (case tyf_InvalidCall => k_is)
    (case fnI_InvalidCall => k_is)
    (case li_InvalidCall => k_is)
    (case ci_InvalidCall => k_is)
    (case co_InvalidCall => k_is)
    (case v2_InvalidCall => exact rfl)
    (case fl_InvalidCall => first | rfl | decide +kernel)
    (case ce_InvalidCall => k_is)
    (case mr_InvalidCall_InvalidCall => k_is)
    (case su_InvalidCall_InvalidCall => ks_is)
    (case x_InvalidParts => k_is)
    (case rv_InvalidParts => first | rfl | decide +kernel)
    (case sa_InvalidParts => k_is)
    (case eb_InvalidParts => k_is)
    (case ty_InvalidParts => k_is)
    (case kc_InvalidParts => k_is)
    (case np_InvalidParts => k_is)
    (case nn_InvalidParts => k_is)
    (case ga_InvalidParts => k_is)
    (case gg_InvalidParts => k_is)
    (case hd_InvalidParts => k_is)
    (case tyf_InvalidParts => k_is)
    (case fnI_InvalidParts => k_is)
    (case li_InvalidParts => k_is)
    (case ci_InvalidParts => k_is)
    (case co_InvalidParts => k_is)
    (case v2_InvalidParts => exact rfl)
    (case fl_InvalidParts => first | rfl | decide +kernel)
    (case ce_InvalidParts => k_is)
    (case mr_InvalidParts_InvalidParts => k_is)
    (case su_InvalidParts_InvalidParts => ks_is)
    (case x_InvalidReply => k_is)
    (case rv_InvalidReply => first | rfl | decide +kernel)
    (case sa_InvalidReply => k_is)
    (case eb_InvalidReply => k_is)
    (case ty_InvalidReply => k_is)
    (case kc_InvalidReply => k_is)
    (case np_InvalidReply => k_is)
    (case nn_InvalidReply => k_is)
    (case ga_InvalidReply => k_is)
    (case gg_InvalidReply => k_is)
    (case hd_InvalidReply => k_is)
    (case tyf_InvalidReply => k_is)
    (case fnI_InvalidReply => k_is)
    (case li_InvalidReply => k_is)
    (case ci_InvalidReply => k_is)
    (case co_InvalidReply => k_is)
    (case v2_InvalidReply => exact rfl)
    (case fl_InvalidReply => first | rfl | decide +kernel)
    (case ce_InvalidReply => k_is)
    (case mr_InvalidReply_InvalidReply => k_is)
    (case su_InvalidReply_InvalidReply => ks_is)
    (case exm_InvalidCall_InvalidCall => first | rfl | k_is)
    (case exm_InvalidParts_InvalidCall => first | rfl | k_is)
    (case exm_InvalidReply_InvalidCall => first | rfl | k_is)
    (case exm_InvalidCall_InvalidParts => first | rfl | k_is)
    (case exm_InvalidParts_InvalidParts => first | rfl | k_is)
    (case exm_InvalidReply_InvalidParts => first | rfl | k_is)
    (case exm_InvalidCall_InvalidReply => first | rfl | k_is)
    (case exm_InvalidParts_InvalidReply => first | rfl | k_is)
    (case exm_InvalidReply_InvalidReply => first | rfl | k_is)
    (case z_super => k_is)
    (case noany => k_is)
    (case nosup => first | rfl | decide +kernel)
#print axioms PySem.Challenge.cw_callweir_k75_wrong_parts_and_replies_holds

